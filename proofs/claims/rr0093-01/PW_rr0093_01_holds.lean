import PyProof.Rows.All
import Wide.All
import OpenK.AllK
import Wide.FinOn
import PySem.Challenge.RW_rr0093_01
open PySem PySem.W PyProof.Rows
set_option Elab.async false
set_option maxRecDepth 100000
set_option maxHeartbeats 4000000
namespace Mine
set_option linter.all false
noncomputable abbrev prg : Program := PySem.Challenge.rw_rr0093_01.row.toRowW.prog
noncomputable def vw : Program := PySem.W.view prg [0, 2, 3, 4, 5, 7, 8, 10, 11, 13, 14, 15, 16, 17, 18]
/-- the top's run over a tree of objects, by the library's quick twins -/
noncomputable def topRunT (p : Program) (w : World) (n₀ : Nat) (ann : Option Value) : Nat → SharedT → Thread → Option SharedT
  | 0, _, _ => none
  | n + 1, s, t => match through t with
    | true => some s
    | false => match PySem.W.Fast.tw6613529449190102663 n₀ ann t with
      | false => none
      | true => match PySem.W.Fast.tw10156331382660048174 (PySem.W.Fast.tw11892475500146522536 PySem.W.Fast.tw14364793385576792824) p w s t with
        | some (s', t') => topRunT p w n₀ ann n s' t'
        | none => none
theorem topRunT_spec {p : Program} {w : World} {n₀ : Nat} {ann : Option Value} : ∀ {n : Nat} {s r : SharedT} {t : Thread}, topRunT p w n₀ ann n s t = some r → topRun treeTable p w n₀ ann n s.abs t = some r.abs
  | 0, _, _, _, h => by cases h
  | n + 1, s, r, t, h => by
    unfold topRunT at h
    rw [← PySem.W.Fast.te6613529449190102663, ← PySem.W.Fast.te10156331382660048174, ← PySem.W.Fast.te11892475500146522536, ← PySem.W.Fast.te14364793385576792824] at h
    unfold topRun
    cases he : through t with
    | true => rw [he] at h; cases h; rfl
    | false =>
      rw [he] at h
      cases hk : stepOk n₀ ann t with
      | false => rw [hk] at h; cases h
      | true =>
        rw [hk] at h
        cases hs : stepT (denote treeTable) p w s t with
        | none => rw [hs] at h; cases h
        | some x => obtain ⟨s₂, t₂⟩ := x; rw [hs] at h; rw [stepT_spec hs]; exact topRunT_spec h
noncomputable def insAll : Nat → List Obj → BT → BT
  | _, [], T => T
  | n, o :: l, T => insAll (n + 1) l (T.ins n o)
noncomputable def looksOf (p q : Program) (loose : List Str) (Xt : Shared → Bool) {α : Type} (Yf : Shared → α) (g0 : Bool) (h₀ : Heap) (s : Shared) :=
  ((staticsOk (importedModules p.main.body) h₀ s.heap && namesBound p s.heap && gensDone s && laidKept h₀ s.heap), PySem.W.Fast.tw4187177175401517315 q loose (importedModules p.main.body) Xt g0 s, Yf s)
theorem left_of {p q : Program} {loose : List Str} {Xt : Shared → Bool} {α : Type} {Yf : Shared → α} {Ya : World → α} {N : Nat} {g0 : Bool} {H₀ : Params → Heap} {gs₀ : Array GenState} {d₀ : Drawn} {k₀ m₀ : Nat} {ann : Option Value} {T₀ : Params → BT} {life : Life}
    (open_ : ∀ w : World, (fencedOpening treeTable p w N).map (fun s => (s.heap, s.gens, s.drawn, s.toks)) = some (H₀ w.params, gs₀, d₀, k₀))
    (abs : ∀ P : Params, absHeap (T₀ P) m₀ life = H₀ P)
    (size : ∀ P : Params, ((H₀ P).isNs mainGlobals && gs₀.size == 0, (H₀ P).objs.size, (H₀ P).nsMap mainGlobals "__annotations__") = (true, m₀, ann))
    (top : ∀ (w : World) (os : OsState), (topRunT p w m₀ ann N ⟨T₀ w.params, m₀, life, gs₀, d₀, k₀, os⟩ (topStub p)).map (fun s => looksOf p q loose Xt Yf g0 (H₀ w.params) s.abs) = some (true, openGood q loose, Ya w)) : LeftO p q loose Xt Yf Ya N g0 := fun w => by
  obtain ⟨⟨h, gs, d, k, os⟩, e, e'⟩ := Option.map_eq_some_iff.mp (open_ w)
  obtain ⟨rfl, rfl, rfl, rfl⟩ : h = H₀ w.params ∧ gs = gs₀ ∧ d = d₀ ∧ k = k₀ := by simpa using e'
  obtain ⟨z1, z2, z3⟩ : _ ∧ _ ∧ _ := by simpa only [Prod.mk.injEq] using size w.params
  obtain ⟨r, hr, hl⟩ := Option.map_eq_some_iff.mp (top w os)
  unfold looksOf at hl
  rw [← PySem.W.Fast.te4187177175401517315] at hl
  obtain ⟨l1, l2, l3⟩ : _ ∧ _ ∧ _ := by simpa only [Prod.mk.injEq] using hl
  have hr := topRunT_spec hr
  unfold SharedT.abs at hr
  dsimp only at hr
  rw [abs] at hr
  have t : topFrom treeTable p w N ⟨H₀ w.params, gs, d, k, os⟩ = some r.abs := by
    unfold topFrom
    dsimp only
    rw [z1, z2, z3, hr]
    show (match staticsOk (importedModules p.main.body) (H₀ w.params) r.abs.heap && namesBound p r.abs.heap && gensDone r.abs && laidKept (H₀ w.params) r.abs.heap with | true => _ | false => _) = _
    rw [l1]
    rfl
  unfold openEnds
  rw [e]
  show (topFrom treeTable p w N _).map _ = _
  rw [t]
  exact congrArg some (Prod.ext l2 l3)
theorem boot1 : opening prg = plainProg prg.main.scope.names := by kernel_rfl
theorem boot2 (s : Shared) : fenceModules? prg s = some s := by kernel_rfl
theorem boot3 : ∀ w : World, (fencedOpening treeTable prg w 5978).map (fun s => (s.heap, s.gens, s.drawn, s.toks)) = some (boot_heap w.params, Array.mk [], boot_drawn, boot_toks) := boot_open boot1 (by rfl) boot2
noncomputable def bootT (P : Params) : BT := insAll 0 (boot_heap P).objs.toList .nil

theorem boot4 (P : Params) : absHeap (bootT P) 11 {} = boot_heap P := by kernel_rfl
theorem boot5 (P : Params) : ((boot_heap P).isNs mainGlobals && (Array.mk [] : Array GenState).size == 0, (boot_heap P).objs.size, (boot_heap P).nsMap mainGlobals "__annotations__") = (true, 11, some (.ref 6)) := by kernel_rfl
theorem said0 : PySem.Challenge.rw_rr0093_01.wellSaid = true := by kernel_rfl
local macro_rules | `(tactic| o_law) => `(tactic| refine holds_law Mine.said0 fun said => ?_)
local macro_rules | `(tactic| k_qdec) => `(tactic| decide +kernel)
/-- the library's head over this row, the top's run proved at once -/
theorem headL (H : Hook) {d : DefRec} {kwd : List (Str × PySem.Expr)} (said : PySem.Challenge.rw_rr0093_01.row.wellSaid = true)
    (hl : ∀ (w : World) (os : OsState), (topRunT PySem.Challenge.rw_rr0093_01.row.prog w 11 (some (.ref 6)) 5978 ⟨bootT w.params, 11, {}, Array.mk [], boot_drawn, boot_toks, os⟩ (topStub PySem.Challenge.rw_rr0093_01.row.prog)).map (fun s => looksOf PySem.Challenge.rw_rr0093_01.row.prog vw [] (fun s => xlAt vw [] s && recOk (RowW.records PySem.Challenge.rw_rr0093_01.row.toRowW) s) (Hook.obs H) true (boot_heap w.params) s.abs) = some (true, openGood vw [], Hook.val H w))
    (hdef : defOf vw PySem.Challenge.rw_rr0093_01.row.name = some (d, kwd)) (hp : PySem.Challenge.rw_rr0093_01.row.prog.theDef PySem.Challenge.rw_rr0093_01.row.name = some (d.params, d.body, d.scope)) (hk : kwWritten? d.params.kwonlyargs d.params.kw_defaults = some kwd)
    (hw : PySem.Challenge.rw_rr0093_01.row.toRowW.promised) (hc : WalkO vw [] (XL vw []) (Hook.says H) PySem.Challenge.rw_rr0093_01.row.toRowW d kwd fun f vs => PySem.call f vs) : PySem.Challenge.rw_rr0093_01.row.Holds :=
  holds_open (q := Mine.vw) (loose := []) (Xt := fun s => xlAt Mine.vw [] s && recOk (RowW.records PySem.Challenge.rw_rr0093_01.row.toRowW) s) (XP := XL Mine.vw []) (Yf := Hook.obs H) (Ya := Hook.val H) (YP := Hook.says H) (N := 5978) (left_of boot3 boot4 boot5 hl) (Hook.of H) (Hook.keeps H) (fun s e => xl_of s (Bool.and_eq_true_iff.mp e).1) XL.keeps hdef hp hk (fun s e => recFacts_of (Bool.and_eq_true_iff.mp e).2) (by rfl) said (by decide +kernel) ⟨rfl, rfl, rfl, rfl, rfl, by decide +kernel⟩ hw hc
set_option hygiene false in
local macro_rules | `(tactic| o_head $H) => `(tactic| (refine Mine.headL $H (by assumption) ?hl (by rfl) (by rfl) (by rfl) ?hw ?hc; (case hl => exact fun w os => by kernel_rfl)))
set_option maxRecDepth 100000 in
set_option maxHeartbeats 8000000 in
open_top hd for PySem.Challenge.rw_rr0093_01
theorem fill1 : hd.heap_1 = hd.heap_1 ∨ PySem.Challenge.rw_rr0093_01.Holds := by
  w_top off
  k_fill
  exact .inl rfl
theorem cl_lt {n : Nat} (h : Nat.ble (n + 1) 9900 = true) : n < cLine := by rw [cLine_is]; exact Nat.le_of_ble_eq_true h
theorem le_up {x m n : Nat} (h : x ≤ m) (k : Nat.ble m n = true) : x ≤ n := Nat.le_trans h (Nat.le_of_ble_eq_true k)
theorem lt_up {x m n : Nat} (h : x < m) (k : Nat.ble m n = true) : x < n := Nat.lt_of_lt_of_le h (Nat.le_of_ble_eq_true k)
theorem lt_of_le_up {x m n : Nat} (h : x ≤ m) (k : Nat.ble (m + 1) n = true) : x < n := Nat.lt_of_le_of_lt h (Nat.le_of_ble_eq_true k)
theorem eq_le_up {x y m n : Nat} (e : x = y) (h : y ≤ m) (k : Nat.ble m n = true) : x ≤ n := e ▸ le_up h k
theorem ge0 (n : Nat) : (0 : Int) ≤ (n : Int) := Int.natCast_nonneg n
theorem ne_s1 (L : Nat) : L + 1 ≠ L := Nat.succ_ne_self L
theorem room_dp {dp a b c : Nat} (h : dp + a < recursionLimit) (k : Nat.ble (b + c) a = true) : dp + b + c < recursionLimit := by
  have := Nat.le_of_ble_eq_true k
  omega
theorem room_dp0 {dp a c : Nat} (h : dp + a < recursionLimit) (k : Nat.ble c a = true) : dp + c < recursionLimit := by
  have := Nat.le_of_ble_eq_true k
  omega
theorem unit_dp {un a b c : Nat} (h : un + a < cLine) (k : Nat.ble (b + c) a = true) : un + b + c < cLine := by
  have := Nat.le_of_ble_eq_true k
  omega
theorem unit_dp0 {un a c : Nat} (h : un + a < cLine) (k : Nat.ble c a = true) : un + c < cLine := by
  have := Nat.le_of_ble_eq_true k
  omega
theorem clo_lt {a b : Nat} (h : Nat.ble (a + 1) b = true) : a < b := Nat.le_of_ble_eq_true h
theorem clo_le {a b : Nat} (h : Nat.ble a b = true) : a ≤ b := Nat.le_of_ble_eq_true h
theorem ne_s2 (L : Nat) : L + 1 + 1 ≠ L := by omega
theorem ne_s3 (L : Nat) : L + 1 + 1 + 1 ≠ L := by omega
theorem int_lt {i n : Nat} {b : Int} (h : i < n) (k : decide ((n : Int) ≤ b) = true) : (i : Int) < b := by
  have := of_decide_eq_true k
  omega
theorem int_le {i n : Nat} {b : Int} (h : i < n) (k : decide ((n : Int) ≤ b + 1) = true) : (i : Int) ≤ b := by
  have := of_decide_eq_true k
  omega
theorem int_gt {i : Nat} {b : Int} (k : decide (b < 0) = true) : b < (i : Int) := by
  have := of_decide_eq_true k
  omega
theorem le_lt_up {x y m n : Nat} (h : x ≤ y) (g : y < m) (k : Nat.ble m n = true) : x ≤ n := Nat.le_trans (Nat.le_of_lt (Nat.lt_of_le_of_lt h g)) (Nat.le_of_ble_eq_true k)
theorem le_le_up {x y m n : Nat} (h : x ≤ y) (g : y ≤ m) (k : Nat.ble m n = true) : x ≤ n := Nat.le_trans (Nat.le_trans h g) (Nat.le_of_ble_eq_true k)
local macro_rules | `(tactic| omega) => `(tactic| k_extra "omega")
theorem way1 : True := by
  k_with "omega" => first | (with_reducible (first | assumption | exact ge0 _ | exact cl_lt (by with_unfolding_all rfl) | exact room_dp (by assumption) (by with_unfolding_all rfl) | exact room_dp0 (by assumption) (by with_unfolding_all rfl) | exact unit_dp (by assumption) (by with_unfolding_all rfl) | exact unit_dp0 (by assumption) (by with_unfolding_all rfl) | exact le_up (by assumption) (by with_unfolding_all rfl) | exact lt_up (by assumption) (by with_unfolding_all rfl) | exact lt_of_le_up (by assumption) (by with_unfolding_all rfl) | exact eq_le_up (by assumption) (by assumption) (by with_unfolding_all rfl) | exact clo_lt (by with_unfolding_all rfl) | exact clo_le (by with_unfolding_all rfl) | exact Nat.ne_of_gt (by assumption) | exact Nat.ne_of_lt (by assumption) | exact ne_s1 _ | exact Ne.symm (ne_s1 _) | exact ne_s2 _ | exact Ne.symm (ne_s2 _) | exact ne_s3 _ | exact Ne.symm (ne_s3 _) | exact int_gt (by decide) | exact int_lt (by assumption) (by decide) | exact int_le (by assumption) (by decide) | exact le_lt_up (by assumption) (by assumption) (by with_unfolding_all rfl) | exact le_le_up (by assumption) (by assumption) (by with_unfolding_all rfl))) | lia | omega (splitDisjunctions := true)
  trivial
local macro_rules | `(tactic| walk_at $s:str) => `(tactic| k_extra $s)
noncomputable abbrev tupO (vs : List Value) : Obj := { cls := .type "tuple", data := .seq vs.toArray }
theorem sub_cons {α : Type} {a : α} {r l : List α} (h : a ∈ l) (t : ∀ p ∈ r, p ∈ l) : ∀ p ∈ a :: r, p ∈ l := fun _ hp => (List.mem_cons.mp hp).elim (fun e => e ▸ h) (t _)
theorem all_cons {α : Type} {P : α → Prop} {a : α} {r : List α} (h : P a) (t : ∀ p ∈ r, P p) : ∀ p ∈ a :: r, P p := fun _ hp => (List.mem_cons.mp hp).elim (fun e => e ▸ h) (t _)
theorem all_nil {α : Type} {P : α → Prop} : ∀ p ∈ ([] : List α), P p := fun _ hp => nomatch hp
theorem mem0 {α : Type} {a : α} {l : List α} : a ∈ a :: l := .head _
theorem mem1 {α : Type} {a b : α} {l : List α} : b ∈ a :: b :: l := .tail _ (.head _)
theorem mem2 {α : Type} {a b c : α} {l : List α} : c ∈ a :: b :: c :: l := .tail _ mem1
theorem mem3 {α : Type} {a b c d : α} {l : List α} : d ∈ a :: b :: c :: d :: l := .tail _ mem2
theorem mem4 {α : Type} {a b c d e : α} {l : List α} : e ∈ a :: b :: c :: d :: e :: l := .tail _ mem3
theorem mem5 {α : Type} {a b c d e f : α} {l : List α} : f ∈ a :: b :: c :: d :: e :: f :: l := .tail _ mem4
theorem mem6 {α : Type} {a b c d e f g : α} {l : List α} : g ∈ a :: b :: c :: d :: e :: f :: g :: l := .tail _ mem5
theorem mem7 {α : Type} {a b c d e f g h : α} {l : List α} : h ∈ a :: b :: c :: d :: e :: f :: g :: h :: l := .tail _ mem6
theorem of_mem2 {α : Type} {x a b : α} (h : x ∈ [a, b]) : x = a ∨ x = b := (List.mem_cons.mp h).imp_right List.mem_singleton.mp
theorem of_mem3 {α : Type} {x a b c : α} (h : x ∈ [a, b, c]) : x = a ∨ x = b ∨ x = c := (List.mem_cons.mp h).imp_right of_mem2
theorem of_mem4 {α : Type} {x a b c d : α} (h : x ∈ [a, b, c, d]) : x = a ∨ x = b ∨ x = c ∨ x = d := (List.mem_cons.mp h).imp_right of_mem3
theorem of_mem5 {α : Type} {x a b c d e : α} (h : x ∈ [a, b, c, d, e]) : x = a ∨ x = b ∨ x = c ∨ x = d ∨ x = e := (List.mem_cons.mp h).imp_right of_mem4
theorem of_mem6 {α : Type} {x a b c d e f : α} (h : x ∈ [a, b, c, d, e, f]) : x = a ∨ x = b ∨ x = c ∨ x = d ∨ x = e ∨ x = f := (List.mem_cons.mp h).imp_right of_mem5
theorem of_mem7 {α : Type} {x a b c d e f g : α} (h : x ∈ [a, b, c, d, e, f, g]) : x = a ∨ x = b ∨ x = c ∨ x = d ∨ x = e ∨ x = f ∨ x = g := (List.mem_cons.mp h).imp_right of_mem6
theorem of_mem8 {α : Type} {x a b c d e f g i : α} (h : x ∈ [a, b, c, d, e, f, g, i]) : x = a ∨ x = b ∨ x = c ∨ x = d ∨ x = e ∨ x = f ∨ x = g ∨ x = i := (List.mem_cons.mp h).imp_right of_mem7
theorem mem5t {α : Type} {x a b c d e : α} {l : List α} (h : x ∈ l) : x ∈ a :: b :: c :: d :: e :: l := .tail _ (.tail _ (.tail _ (.tail _ (.tail _ h))))
theorem memE {α : Type} {x a : α} {l : List α} (e : x = a) : x ∈ a :: l := e ▸ .head _

/-! the probing of a set's table: plain facts -/
namespace Tab
open SetTable

noncomputable def nxt (mask : Nat) (x : Nat × Nat) : Nat × Nat := leap mask x.1 x.2
noncomputable def heads (mask : Nat) : Nat → Nat × Nat → Nat × Nat
  | 0, x => x
  | n + 1, x => heads mask n (nxt mask x)
theorem heads_succ (mask : Nat) : ∀ (n : Nat) (x : Nat × Nat), heads mask (n + 1) x = nxt mask (heads mask n x)
  | 0, _ => rfl
  | n + 1, x => by
    show heads mask (n + 1) (nxt mask x) = _
    rw [heads_succ mask n (nxt mask x)]; rfl
theorem heads_add (mask : Nat) : ∀ (a b : Nat) (x : Nat × Nat), heads mask (a + b) x = heads mask b (heads mask a x)
  | 0, b, x => by rw [Nat.zero_add]; rfl
  | a + 1, b, x => by
    rw [Nat.add_right_comm]
    show heads mask (a + b) (nxt mask x) = _
    rw [heads_add mask a b (nxt mask x)]; rfl
theorem heads_snd (mask : Nat) : ∀ (n : Nat) (x : Nat × Nat), (heads mask n x).2 = x.2 / 32 ^ n
  | 0, x => by simp [heads]
  | n + 1, x => by
    show (heads mask n (nxt mask x)).2 = _
    rw [heads_snd mask n]
    show x.2 / 32 / 32 ^ n = _
    rw [Nat.div_div_eq_div_mul, Nat.pow_succ, Nat.mul_comm]
theorem heads_lt (mask : Nat) (n : Nat) (x : Nat × Nat) (hx : x.1 ≤ mask) : (heads mask n x).1 ≤ mask := by
  cases n with
  | zero => exact hx
  | succ n =>
    rw [heads_succ]
    exact Nat.le_of_lt_succ (Nat.mod_lt _ (Nat.succ_pos _))
noncomputable def cyc (mask : Nat) : Nat → Nat → Nat
  | 0, i => i
  | n + 1, i => cyc mask n ((i * 5 + 1) % (mask + 1))
theorem heads_cyc (mask : Nat) : ∀ (n : Nat) (i : Nat), (heads mask n (i, 0)).1 = cyc mask n i
  | 0, _ => rfl
  | n + 1, i => by
    show (heads mask n (nxt mask (i, 0))).1 = cyc mask n ((i * 5 + 1) % (mask + 1))
    rw [← heads_cyc mask n]
    show (heads mask n ((i * 5 + 1 + 0 / 32) % (mask + 1), 0 / 32)).1 = _
    simp
theorem cover7 : ∀ i < 8, ∀ j < 8, ∃ n, n < 8 ∧ cyc 7 n i = j := by decide +kernel
theorem cover31 : ∀ i < 32, ∀ j < 32, ∃ n, n < 32 ∧ cyc 31 n i = j := by decide +kernel
theorem cover {mask : Nat} (hm : mask = 7 ∨ mask = 31) {i j : Nat} (hi : i ≤ mask) (hj : j ≤ mask) : ∃ n, n ≤ mask ∧ cyc mask n i = j := by
  rcases hm with rfl | rfl
  · obtain ⟨n, h1, h2⟩ := cover7 i (Nat.lt_succ_of_le hi) j (Nat.lt_succ_of_le hj); exact ⟨n, Nat.le_of_lt_succ h1, h2⟩
  · obtain ⟨n, h1, h2⟩ := cover31 i (Nat.lt_succ_of_le hi) j (Nat.lt_succ_of_le hj); exact ⟨n, Nat.le_of_lt_succ h1, h2⟩
/-- every slot is the head of a block, soon -/
theorem head_at {mask : Nat} (hm : mask = 7 ∨ mask = 31) {x : Nat × Nat} (hx : x.1 ≤ mask) (hp : x.2 < 2 ^ 64) {j : Nat} (hj : j ≤ mask) : ∃ n, n ≤ 13 + mask ∧ (heads mask n x).1 = j := by
  have h0 : (heads mask 13 x).2 = 0 := by
    rw [heads_snd]; exact Nat.div_eq_of_lt (Nat.lt_trans hp (by decide))
  obtain ⟨n, h1, h2⟩ := cover hm (heads_lt mask 13 x hx) hj
  refine ⟨13 + n, by omega, ?_⟩
  rw [heads_add]
  have e : heads mask 13 x = ((heads mask 13 x).1, 0) := Prod.ext rfl h0
  rw [e, heads_cyc]; exact h2

theorem bits_lt (h : Int) : bits h < 2 ^ 64 := by
  unfold bits
  have h1 : h % (2 ^ 64 : Int) < 2 ^ 64 := Int.emod_lt_of_pos _ (by decide)
  have h2 : 0 ≤ h % (2 ^ 64 : Int) := Int.emod_nonneg _ (by decide)
  omega

/-! the free slot for a new layout -/
theorem free_none {mask : Nat} {owner : Array (Option Nat)} : ∀ (fuel : Nat) (i p : Nat), layClean.free mask owner fuel i p = none → ∀ n < fuel, (owner.getD (heads mask n (i, p)).1 (some 0)).isNone = false
  | 0, _, _, _, n, hn => absurd hn (Nat.not_lt_zero _)
  | fuel + 1, i, p, h, n, hn => by
    unfold layClean.free at h
    split at h
    · cases h
    · rename_i hf
      cases n with
      | zero =>
        have := List.find?_eq_none.mp hf 0 (List.mem_range.mpr (by unfold runEnd; split <;> omega))
        rw [Nat.add_zero] at this
        exact Bool.eq_false_iff.mpr this
      | succ n =>
        exact free_none fuel _ _ h n (Nat.lt_of_succ_lt_succ hn)
theorem free_some {mask : Nat} {owner : Array (Option Nat)} {r : Nat} : ∀ (fuel : Nat) (i p : Nat), layClean.free mask owner fuel i p = some r → (owner.getD r (some 0)).isNone = true
  | 0, _, _, h => by cases h
  | fuel + 1, i, p, h => by
    unfold layClean.free at h
    split at h
    · rename_i k hf
      cases h
      exact List.find?_some (p := fun k => (owner.getD (i + k) (some 0)).isNone) hf
    · exact free_some fuel _ _ h
theorem free_ok {mask : Nat} (hm : mask = 7 ∨ mask = 31) {owner : Array (Option Nat)} {j : Nat} (hj : j ≤ mask) (hfree : (owner.getD j (some 0)).isNone = true) (h : Int) :
    ∃ r, layClean.free mask owner (turns mask) (bits h % (mask + 1)) (bits h) = some r ∧ (owner.getD r (some 0)).isNone = true := by
  cases e : layClean.free mask owner (turns mask) (bits h % (mask + 1)) (bits h) with
  | some r => exact ⟨r, rfl, free_some _ _ _ e⟩
  | none =>
    obtain ⟨n, h1, h2⟩ := head_at hm (x := (bits h % (mask + 1), bits h)) (Nat.le_of_lt_succ (Nat.mod_lt _ (Nat.succ_pos _))) (bits_lt h) hj
    have := free_none _ _ _ e n (by unfold turns; omega)
    rw [h2, hfree] at this; cases this

theorem fm_congr {α β : Type} {f g : α → Option β} : ∀ {l : List α}, (∀ a ∈ l, f a = g a) → l.filterMap f = l.filterMap g
  | [], _ => rfl
  | a :: r, h => by rw [List.filterMap_cons, List.filterMap_cons, h a (.head _), fm_congr fun b hb => h b (.tail _ hb)]
theorem filterMap_set {f f' : Nat → Option (Nat × Nat)} {j : Nat} {v : Nat × Nat} (h0 : f j = none) (h1 : f' j = some v) (h2 : ∀ i, i ≠ j → f' i = f i) : ∀ l : List Nat, l.Nodup → j ∈ l → (l.filterMap f').Perm (v :: l.filterMap f)
  | [], _, hj => nomatch hj
  | a :: r, hn, hj => by
    have hn' := List.nodup_cons.mp hn
    by_cases e : a = j
    · subst e
      have er : r.filterMap f' = r.filterMap f := fm_congr fun i hi => h2 i (by rintro rfl; exact hn'.1 hi)
      rw [List.filterMap_cons, h1, List.filterMap_cons, h0, er]
    · have ih := filterMap_set h0 h1 h2 r hn'.2 ((List.mem_cons.mp hj).resolve_left (Ne.symm e))
      rw [List.filterMap_cons, List.filterMap_cons, h2 a e]
      cases f a with
      | none => exact ih
      | some u => exact (List.Perm.cons u ih).trans (List.Perm.swap _ _ _)

noncomputable def liveOf (mask : Nat) (owner : Array (Option Nat)) : List (Nat × Nat) := (List.range (mask + 1)).filterMap fun j => (owner.getD j none).map (j, ·)
theorem getD_none {owner : Array (Option Nat)} {r : Nat} (h : (owner.getD r (some 0)).isNone = true) : r < owner.size ∧ owner.getD r none = none := by
  by_cases hr : r < owner.size
  · refine ⟨hr, ?_⟩
    have e1 : owner.getD r (some 0) = owner[r] := by simp [Array.getD, hr]
    have e2 : owner.getD r none = owner[r] := by simp [Array.getD, hr]
    rw [e1] at h
    rw [e2]
    simpa using h
  · have e1 : owner.getD r (some 0) = some 0 := by simp [Array.getD, hr]
    rw [e1] at h; cases h
theorem live_set {mask : Nat} {owner : Array (Option Nat)} (hs : owner.size = mask + 1) {r k : Nat} (h : (owner.getD r (some 0)).isNone = true) :
    (liveOf mask (owner.setIfInBounds r (some k))).Perm ((r, k) :: liveOf mask owner) := by
  obtain ⟨hr, h0⟩ := getD_none h
  refine filterMap_set (j := r) (by simp [h0]) (by simp [Array.getD, hr]) (fun i hi => ?_) _ List.nodup_range (List.mem_range.mpr (hs ▸ hr))
  have e : (owner.setIfInBounds r (some k)).getD i none = owner.getD i none := by
    simp only [Array.getD_eq_getD_getElem?, Array.getElem?_setIfInBounds_ne (Ne.symm hi)]
  rw [e]
theorem free_exists {mask : Nat} {owner : Array (Option Nat)} (hs : owner.size = mask + 1) (hl : (liveOf mask owner).length ≤ mask) : ∃ j, j ≤ mask ∧ (owner.getD j (some 0)).isNone = true := by
  apply Classical.byContradiction
  intro hc
  have hall : ∀ j ∈ List.range (mask + 1), ∃ v, ((owner.getD j none).map (j, ·)) = some v := fun j hj => by
    have hj' := List.mem_range.mp hj
    have h1 : (owner.getD j (some 0)).isNone ≠ true := fun h => hc ⟨j, Nat.le_of_lt_succ hj', h⟩
    have hr : j < owner.size := hs ▸ hj'
    have e1 : owner.getD j (some 0) = owner[j] := by simp [Array.getD, hr]
    have e2 : owner.getD j none = owner[j] := by simp [Array.getD, hr]
    rw [e1] at h1
    rw [e2]
    cases e : owner[j] with
    | none => rw [e] at h1; exact absurd rfl h1
    | some v => exact ⟨(j, v), rfl⟩
  have : ∀ l : List Nat, (∀ j ∈ l, ∃ v, ((owner.getD j none).map (j, ·)) = some v) → (l.filterMap fun j => (owner.getD j none).map (j, ·)).length = l.length := by
    intro l
    induction l with
    | nil => intro _; rfl
    | cons a r ih =>
      intro h
      obtain ⟨v, hv⟩ := h a (.head _)
      rw [List.filterMap_cons, hv, List.length_cons, List.length_cons, ih fun j hj => h j (.tail _ hj)]
  have e := this _ hall
  rw [List.length_range] at e
  unfold liveOf at hl
  omega

noncomputable def stepC (mask : Nat) (acc : Option (Array (Option Nat) × Nat)) (h : Int) : Option (Array (Option Nat) × Nat) := do
  let (owner, k) ← acc
  let j ← layClean.free mask owner (turns mask) (bits h % (mask + 1)) (bits h)
  pure (owner.setIfInBounds j (some k), k + 1)
theorem fold_ok {mask : Nat} (hm : mask = 7 ∨ mask = 31) : ∀ (hs : List Int) (owner : Array (Option Nat)) (k : Nat), owner.size = mask + 1 → ((liveOf mask owner).map (·.2)).Perm (List.range k) → k + hs.length ≤ mask →
    ∃ owner', hs.foldl (stepC mask) (some (owner, k)) = some (owner', k + hs.length) ∧ owner'.size = mask + 1 ∧ ((liveOf mask owner').map (·.2)).Perm (List.range (k + hs.length))
  | [], owner, k, h1, h2, _ => ⟨owner, rfl, h1, h2⟩
  | h :: r, owner, k, h1, h2, h3 => by
    have hlen : (liveOf mask owner).length = k := by
      have := h2.length_eq
      rwa [List.length_map, List.length_range] at this
    rw [List.length_cons] at h3
    obtain ⟨j, hj, hfj⟩ := free_exists h1 (by omega)
    obtain ⟨q, e, hq⟩ := free_ok hm hj hfj h
    have p1 := (live_set h1 (k := k) hq).map (·.2)
    obtain ⟨owner', a, b, c⟩ := fold_ok hm r (owner.setIfInBounds q (some k)) (k + 1) (by simpa using h1)
      (p1.trans (by
        rw [List.map_cons, List.range_succ]
        exact ((List.Perm.cons k h2).trans (List.perm_append_comm (l₁ := [k]) (l₂ := List.range k)))) ) (by omega)
    refine ⟨owner', ?_, b, ?_⟩
    · rw [List.foldl_cons, List.length_cons]
      have e2 : stepC mask (some (owner, k)) h = some (owner.setIfInBounds q (some k), k + 1) := by
        unfold stepC
        simp only [Option.bind_eq_bind, Option.bind_some, e]
        rfl
      rw [e2, a]
      congr 2; omega
    · rw [List.length_cons, show k + (r.length + 1) = k + 1 + r.length by omega]; exact c

theorem layClean_ok {mask : Nat} (hm : mask = 7 ∨ mask = 31) (hs : Array Int) (hl : hs.size ≤ mask) : ∃ owner, layClean mask hs = some owner ∧ ((liveOf mask owner).map (·.2)).Perm (List.range hs.size) := by
  have h0 : (liveOf mask (Array.replicate (mask + 1) none)).map (·.2) = [] := by
    rw [List.map_eq_nil_iff]
    unfold liveOf
    rw [List.filterMap_eq_nil_iff]
    intro j hj
    have : (Array.replicate (mask + 1) (none : Option Nat)).getD j none = none := by
      simp only [Array.getD_eq_getD_getElem?, Array.getElem?_replicate]
      split <;> rfl
    rw [this]; rfl
  obtain ⟨owner, a, _, c⟩ := fold_ok hm hs.toList (Array.replicate (mask + 1) none) 0 (by simp) (by rw [h0]; exact .refl _) (by simpa using hl)
  refine ⟨owner, ?_, by simpa using c⟩
  unfold layClean
  rw [← Array.foldl_toList]
  have : (List.foldl (fun acc h => do
      let (owner, k) ← acc
      let j ← layClean.free mask owner (turns mask) (bits h % (mask + 1)) (bits h)
      pure (owner.setIfInBounds j (some k), k + 1)) (some (Array.replicate (mask + 1) none, 0)) hs.toList) = List.foldl (stepC mask) (some (Array.replicate (mask + 1) none, 0)) hs.toList := rfl
  rw [this, a]; rfl
end Tab

namespace Tab
open SetTable
noncomputable def advs (t : SetTable) : Nat → Probe → Probe
  | 0, p => p
  | n + 1, p => advs t n (t.advance p)
theorem advs_add (t : SetTable) : ∀ (a b : Nat) (p : Probe), advs t (a + b) p = advs t b (advs t a p)
  | 0, b, p => by rw [Nat.zero_add]; rfl
  | a + 1, b, p => by
    rw [Nat.add_right_comm]
    show advs t (a + b) (t.advance p) = _
    rw [advs_add t a b]; rfl
/-- an empty slot is met within m moves -/
noncomputable def Reach (t : SetTable) (m : Nat) (p : Probe) : Prop := p.dummy = none ∧ ∃ k, k ≤ m ∧ t.slot (advs t k p).j = .empty
theorem adv_dummy (t : SetTable) (p : Probe) : (t.advance p).dummy = p.dummy := by
  unfold SetTable.advance
  split <;> rfl
theorem advs_more (t : SetTable) : ∀ (n : Nat) (p : Probe), n ≤ p.more → (advs t n p).more = p.more - n ∧ (advs t n p).i = p.i ∧ (advs t n p).perturb = p.perturb
  | 0, p, _ => ⟨rfl, rfl, rfl⟩
  | n + 1, p, h => by
    have e : t.advance p = { p with j := p.j + 1, more := p.more - 1 } := by unfold SetTable.advance; rw [if_pos (by omega)]
    have ih := advs_more t n (t.advance p) (by rw [e]; show n ≤ p.more - 1; omega)
    rw [e] at ih
    have e2 : advs t (n + 1) p = advs t n { p with j := p.j + 1, more := p.more - 1 } := by show advs t n (t.advance p) = _; rw [e]
    rw [e2]
    exact ⟨ih.1.trans (by show p.more - 1 - n = _; omega), ih.2⟩
/-- behind the end of a block stands the head of the next -/
theorem advs_head (t : SetTable) (p : Probe) : (advs t (p.more + 1) p).j = (nxt t.mask (p.i, p.perturb)).1 ∧ (advs t (p.more + 1) p).i = (nxt t.mask (p.i, p.perturb)).1 ∧ (advs t (p.more + 1) p).perturb = (nxt t.mask (p.i, p.perturb)).2 ∧
    (advs t (p.more + 1) p).more = runEnd t.mask (nxt t.mask (p.i, p.perturb)).1 - (nxt t.mask (p.i, p.perturb)).1 := by
  rw [advs_add]
  obtain ⟨a, b, c⟩ := advs_more t p.more p (Nat.le_refl _)
  rw [Nat.sub_self] at a
  show (t.advance (advs t p.more p)).j = _ ∧ (t.advance (advs t p.more p)).i = _ ∧ (t.advance (advs t p.more p)).perturb = _ ∧ (t.advance (advs t p.more p)).more = _
  unfold SetTable.advance
  rw [if_neg (by omega)]
  rw [b, c]
  exact ⟨rfl, rfl, rfl, rfl⟩
theorem run_le (mask i : Nat) : runEnd mask i - i ≤ 9 := by unfold runEnd; split <;> omega
theorem advs_heads (t : SetTable) : ∀ (n : Nat) (p : Probe), p.j = p.i → p.more = runEnd t.mask p.i - p.i → ∃ k, k ≤ 10 * n ∧ (advs t k p).j = (heads t.mask n (p.i, p.perturb)).1
  | 0, p, h, _ => ⟨0, Nat.le_refl _, h⟩
  | n + 1, p, _, h => by
    obtain ⟨a, b, c, d⟩ := advs_head t p
    obtain ⟨k, hk, e⟩ := advs_heads t n (advs t (p.more + 1) p) (a.trans b.symm) (by rw [d, b])
    refine ⟨p.more + 1 + k, ?_, ?_⟩
    · have := run_le t.mask p.i; omega
    · rw [advs_add, e, b, c]; rfl
theorem reach_start {t : SetTable} (hm : t.mask = 7 ∨ t.mask = 31) {j : Nat} (hj : j ≤ t.mask) (he : t.slot j = .empty) (h : Int) : Reach t (10 * (13 + t.mask)) (t.probeStart h) := by
  obtain ⟨n, h1, h2⟩ := head_at hm (x := (bits h % (t.mask + 1), bits h)) (Nat.le_of_lt_succ (Nat.mod_lt _ (Nat.succ_pos _))) (bits_lt h) hj
  obtain ⟨k, h3, h4⟩ := advs_heads t n (t.probeStart h) rfl rfl
  exact ⟨rfl, k, by omega, by rw [h4]; show t.slot (heads t.mask n (bits h % (t.mask + 1), bits h)).1 = _; rw [h2]; exact he⟩
theorem go_reach {t : SetTable} (hd : ∀ j, t.slot j ≠ .dummy) (hashAt : Nat → Int) (h : Int) : ∀ (m fuel : Nat) (p : Probe), Reach t m p → m < fuel →
    (∃ j, probe.go t hashAt h fuel p = some (.empty j none)) ∨ ∃ j i next m', probe.go t hashAt h fuel p = some (.candidate j i next) ∧ t.slot j = .live i ∧ hashAt i = h ∧ Reach t m' next ∧ m' < m
  | m, 0, _, _, hf => absurd hf (Nat.not_lt_zero _)
  | m, fuel + 1, p, ⟨hp, k, hk, he⟩, hf => by
    unfold probe.go
    cases hs : t.slot p.j with
    | empty => exact .inl ⟨p.j, by simp [hp]⟩
    | dummy => exact absurd hs (hd _)
    | live i =>
      have hk0 : k ≠ 0 := by rintro rfl; rw [show (advs t 0 p).j = p.j from rfl, hs] at he; cases he
      obtain ⟨k', rfl⟩ : ∃ k', k = k' + 1 := ⟨k - 1, by omega⟩
      have hr : Reach t (m - 1) (t.advance p) := ⟨(adv_dummy t p).trans hp, k', by omega, he⟩
      dsimp only
      by_cases hh : (hashAt i == h) = true
      · rw [if_pos hh]
        exact .inr ⟨p.j, i, _, m - 1, rfl, hs, eq_of_beq hh, hr, by omega⟩
      · rw [if_neg hh]
        rcases go_reach hd hashAt h (m - 1) fuel (t.advance p) hr (by omega) with r | ⟨j, i', next, m', a, b, c, d, e⟩
        · exact .inl r
        · exact .inr ⟨j, i', next, m', a, b, c, d, by omega⟩
theorem has_nil (j : Nat) : SetTable.has #[] j = false := by
  unfold SetTable.has
  simp
theorem no_dummy {t : SetTable} (h : t.dummies = #[]) (j : Nat) : t.slot j ≠ .dummy := by
  unfold SetTable.slot
  rw [h, has_nil]
  dsimp only
  split
  · intro e; cases e
  · simp
theorem slot_live {t : SetTable} {j i : Nat} (h : t.slot j = .live i) : i < t.place.size := by
  unfold SetTable.slot at h
  dsimp only at h
  split at h
  · rename_i e
    cases h
    have := eq_of_beq e
    exact (Array.getElem?_eq_some_iff.mp this).1
  · split at h <;> cases h
theorem nodup_len {α : Type} [DecidableEq α] : ∀ {l l' : List α}, l.Nodup → (∀ a ∈ l, a ∈ l') → l.length ≤ l'.length
  | [], _, _, _ => Nat.zero_le _
  | a :: r, l', hn, hs => by
    have hn' := List.nodup_cons.mp hn
    have ha := hs a (.head _)
    have ih := nodup_len (l := r) (l' := l'.erase a) hn'.2 fun b hb => (List.mem_erase_of_ne (by rintro rfl; exact hn'.1 hb)).mpr (hs b (.tail _ hb))
    rw [List.length_erase_of_mem ha] at ih
    have := List.length_pos_of_mem ha
    rw [List.length_cons]; omega
/-- a table with room has an empty slot -/
theorem empty_slot {t : SetTable} (hd : t.dummies = #[]) (hl : t.place.size ≤ t.mask) : ∃ j, j ≤ t.mask ∧ t.slot j = .empty := by
  apply Classical.byContradiction
  intro hc
  have hall : ∀ j ∈ List.range (t.mask + 1), j ∈ t.place.toList := fun j hj => by
    apply Classical.byContradiction
    intro hn
    refine hc ⟨j, Nat.le_of_lt_succ (List.mem_range.mp hj), ?_⟩
    unfold SetTable.slot
    rw [hd, has_nil]
    dsimp only
    rw [if_neg]
    · rfl
    · intro e
      have := eq_of_beq e
      obtain ⟨h1, h2⟩ := Array.getElem?_eq_some_iff.mp this
      exact hn (by rw [← h2]; exact Array.getElem_mem_toList h1)
  have := nodup_len List.nodup_range hall
  rw [List.length_range, Array.length_toList] at this
  omega
end Tab

namespace Tab
open SetTable
structure TOk (t : SetTable) (n : Nat) : Prop where
  place : t.place.size = n
  dum : t.dummies = #[]
  room : (t.mask = 7 ∧ n ≤ 4) ∨ (t.mask = 31 ∧ n ≤ 17)
theorem TOk.mask {t : SetTable} {n : Nat} (h : TOk t n) : t.mask = 7 ∨ t.mask = 31 := h.room.imp (·.1) (·.1)
theorem TOk.le {t : SetTable} {n : Nat} (h : TOk t n) : n < t.mask := by rcases h.room with ⟨a, b⟩ | ⟨a, b⟩ <;> omega
theorem TOk.fits {t : SetTable} {n : Nat} (h : TOk t n) : t.fits n = true := by
  have := h.le
  simp only [SetTable.fits, SetTable.fill, h.place, h.dum, Bool.and_eq_true, beq_self_eq_true, decide_eq_true_eq, true_and]
  simp; omega
theorem TOk.reach {t : SetTable} {n : Nat} (T : TOk t n) (h : Int) : Reach t (10 * (13 + t.mask)) (t.probeStart h) := by
  obtain ⟨j, h1, h2⟩ := empty_slot T.dum (by rw [T.place]; exact Nat.le_of_lt T.le)
  exact reach_start T.mask h1 h2 h

section
variable {prog : Program} {w : World} {A : Around} {E : Value → Shared → Prop} {s : Shared}
noncomputable abbrev Key (prog : Program) (w : World) (h : Heap) (nm : Str) (a : Addr) : Prop := IsTupleKey (PySem.strKind prog w) h [nm] a

theorem key_items {h : Heap} {nm : Str} {a : Addr} (k : Key prog w h nm a) : ∃ o n t, h.get? a = some o ∧ o.cls = .type "tuple" ∧ o.data = .seq #[.str nm t] n := by
  obtain ⟨o, items, n, ho, hc, hd, hi⟩ := k
  obtain ⟨l⟩ := items
  change PySem.ItemsAre _ _ l at hi
  cases hi with
  | cons hv r =>
    cases r
    rename_i v
    cases v with
    | str x t =>
      have : x = nm := by
        have e := (PySem.strKind prog w).inj _ _ _ hv (strKind_is prog w x t)
        exact e.symm
      subst this
      exact ⟨o, n, t, ho, hc, hd⟩
    | _ => cases hv

theorem class_no {nm : Str} {a : Addr} {Q : Bool → Shared → Prop} (k : Key prog w s.heap nm a) (h : Q false s) : wpAny (model prog w) A (ofAClassStatement 8 (.ref a)) Q E s := by
  obtain ⟨o, n, t, ho, hc, hd⟩ := key_items k
  unfold ofAClassStatement
  refine wpAny_bind (wpAny_typeOf (T := "tuple") ⟨o, ho, hc⟩ ?_)
  dsimp only
  rw [if_pos (by decide)]
  refine wpAny_bind (wpAny_pure ?_)
  simp only [Bool.not_true, Bool.false_eq_true, if_false]
  unfold seqItems?
  refine wpAny_bind (wpAny_bind (wpAny_load ho ?_))
  rw [hd]
  refine wpAny_pure ?_
  dsimp only
  have e : ofAClassStatement 7 (.str nm t) = pure false := by unfold ofAClassStatement; rfl
  refine wpAny_bind ?_
  rw [← Array.forIn_toList, List.forIn_cons]
  refine wpAny_bind ?_
  rw [e]
  refine wpAny_bind (wpAny_pure ?_)
  rw [if_neg (by decide)]
  refine wpAny_pure ?_
  dsimp only
  rw [List.forIn_nil]
  exact wpAny_pure (wpAny_pure h)

theorem seen_no {a : Addr} {nm : Str} {Q : Bool → Shared → Prop} (k : Key prog w s.heap nm a) (h : Q false s) : ∀ l : List Value, (∀ v ∈ l, ∃ nm' b, v = .ref b ∧ Key prog w s.heap nm' b) → wpAny (model prog w) A (searchCouldBeSeen (.ref a) l) Q E s := by
  intro l hl
  unfold searchCouldBeSeen
  refine wpAny_bind ?_
  have main : ∀ l : List Value, (∀ v ∈ l, ∃ nm' b, v = .ref b ∧ Key prog w s.heap nm' b) → ∀ (f : Value → Option Bool × Unit → Sem (ForInStep (Option Bool × Unit))),
      (∀ v, (∃ nm' b, v = .ref b ∧ Key prog w s.heap nm' b) → ∀ Q' : ForInStep (Option Bool × Unit) → Shared → Prop, Q' (.yield (none, ())) s → wpAny (model prog w) A (f v (none, ())) Q' E s) →
      ∀ Q' : Option Bool × Unit → Shared → Prop, Q' (none, ()) s → wpAny (model prog w) A (forIn l (none, ()) f) Q' E s := by
    intro l
    induction l with
    | nil => intro _ f _ Q' hq; rw [List.forIn_nil]; exact wpAny_pure hq
    | cons v r ih =>
      intro hl f hf Q' hq
      rw [List.forIn_cons]
      refine wpAny_bind (hf v (hl v (.head _)) _ ?_)
      exact ih (fun u hu => hl u (.tail _ hu)) f hf Q' hq
  refine main l hl _ (fun v hv Q' hq => ?_) _ ?_
  · obtain ⟨nm', b, rfl, kb⟩ := hv
    dsimp only
    by_cases e : (a == b) = true
    · rw [if_pos (by rw [e]; rfl)]
      exact wpAny_pure hq
    · rw [if_neg (by simp [carriedByValue, e])]
      refine wpAny_bind (wpAny_eqIsQuiet_tuple k ?_)
      simp only [Bool.not_true, Bool.false_eq_true, if_false]
      refine wpAny_bind (wpAny_eqIsQuiet_tuple kb ?_)
      simp only [Bool.not_true, Bool.false_eq_true, if_false]
      refine wpAny_bind (class_no k ?_)
      simp only [Bool.false_eq_true, if_false]
      refine wpAny_bind (class_no kb ?_)
      simp only [Bool.false_eq_true, if_false]
      first | exact wpAny_pure hq | exact wpAny_bind (wpAny_pure (wpAny_pure hq))
  · exact wpAny_pure h

/-- what the set holds -/
noncomputable def Els (prog : Program) (w : World) (h : Heap) (es : List (Int × Value)) : Prop := ∀ e ∈ es, ∃ nm b, e.2 = .ref b ∧ Key prog w h nm b
theorem search_ok (hu : A.units < cLine) {S : Addr} {o : Obj} {es : Array (Int × Value)} {ep : Nat} {t : SetTable} (ho : s.heap.get? S = some o) (hd : o.data = .set es ep t) (T : TOk t es.size) {a : Addr} {nm : Str} (ha : Key prog w s.heap nm a)
    (hes : ∀ e ∈ es.toList, ∃ nm' b, e.2 = .ref b ∧ Key prog w s.heap nm' b ∧ nm' ≠ nm) (hh : Int) {Q : SetFound → Shared → Prop} (hQ : ∀ j, Q (.free j false) s) :
    ∀ (m fuel : Nat) (stand : Option Probe), Reach t m (stand.getD (t.probeStart hh)) → m < fuel → m < 10 * turns t.mask → wpAny (model prog w) A (setSearchFrom S (.ref a) hh true fuel stand) Q E s := by
  intro m
  induction m using Nat.strongRecOn with
  | ind m ih =>
    intro fuel stand hr hf hm
    obtain ⟨fuel, rfl⟩ : ∃ f, fuel = f + 1 := ⟨fuel - 1, by omega⟩
    refine wpAny_bind (wpAny_setState_of ho hd T.fits ?_)
    dsimp only
    have hg : t.gaveWay = false := by
      unfold SetTable.gaveWay
      rcases T.mask with e | e <;> rw [e] <;> rfl
    rw [hg]
    simp only [Bool.false_eq_true, if_false]
    rcases go_reach (no_dummy T.dum) (fun i => (es[i]?.map (·.1)).getD 0) hh m (10 * turns t.mask) _ hr hm with ⟨j, e⟩ | ⟨j, i, next, m', e, hsl, hhi, hr', hm'⟩
    · have e2 : ∀ f : Nat → Int, f = (fun i => (es[i]?.map (·.1)).getD 0) → t.probe f hh (stand.getD (t.probeStart hh)) = some (.empty j none) := fun f hf => by rw [hf]; exact e
      rw [e2]
      rotate_left
      · rfl
      exact wpAny_pure (hQ j)
    · have e2 : ∀ f : Nat → Int, f = (fun i => (es[i]?.map (·.1)).getD 0) → t.probe f hh (stand.getD (t.probeStart hh)) = some (.candidate j i next) := fun f hf => by rw [hf]; exact e
      rw [e2]
      rotate_left
      · rfl
      have hi : i < es.size := T.place ▸ slot_live hsl
      obtain ⟨nm', b, hb, kb, hnb⟩ := hes es[i] (Array.getElem_mem_toList hi)
      have hei : es[i]? = some (es[i].1, .ref b) := by rw [Array.getElem?_eq_getElem hi, ← hb]
      have hdec : decide ([nm'] = [nm]) = false := by simp [hnb]
      have hsm : t.sameMemory t.moves t.mask = some true := by unfold SetTable.sameMemory; simp
      have hss : ∀ Q' : Bool → Shared → Prop, Q' true s → wpAny (model prog w) A (isSame (.ref b) (.ref b)) Q' E s := fun Q' hq => by
        unfold isSame
        dsimp only
        rw [if_pos (by simp)]
        exact wpAny_pure hq
      dsimp only
      by_cases hl : t.led = true
      · rw [if_neg (by rw [hl]; simp)]
        rw [hei]
        dsimp only
        refine wpAny_bind (wpAny_holding (wpAny_eqBool_tuple hu kb ha ?_))
        rw [hdec]
        refine wpAny_bind (wpAny_setState_of ho hd T.fits ?_)
        dsimp only
        rw [if_neg (by simp), hsm]
        dsimp only
        rw [if_pos rfl, hsl]
        dsimp only
        rw [hei]
        dsimp only
        refine wpAny_bind (hss _ ?_)
        rw [if_pos rfl]
        refine wpAny_bind (wpAny_pure ?_)
        dsimp only
        rw [if_neg (by simp)]
        exact ih m' hm' fuel (some next) hr' (by omega) (by omega)
      · rw [if_pos (by simpa using hl)]
        refine wpAny_bind (seen_no ha ?_ _ fun v hv => ?_)
        rotate_left
        · obtain ⟨x, hx, rfl⟩ := List.mem_map.mp hv
          have hx' : x ∈ es.toList := by
            rw [Array.toList_filter] at hx
            exact (List.mem_filter.mp hx).1
          obtain ⟨n1, b1, a1, a2, _⟩ := hes x hx'
          exact ⟨n1, b1, a1, a2⟩
        simp only [Bool.false_eq_true, if_false]
        rw [hei]
        dsimp only
        refine wpAny_bind (wpAny_holding (wpAny_eqBool_tuple hu kb ha ?_))
        rw [hdec]
        refine wpAny_bind (wpAny_setState_of ho hd T.fits ?_)
        dsimp only
        rw [if_neg (by simp), hsm]
        dsimp only
        rw [if_pos rfl, hsl]
        dsimp only
        rw [hei]
        dsimp only
        refine wpAny_bind (hss _ ?_)
        rw [if_pos rfl]
        refine wpAny_bind (wpAny_pure ?_)
        dsimp only
        rw [if_neg (by simp)]
        exact ih m' hm' fuel (some next) hr' (by omega) (by omega)

theorem byValue_no {nm : Str} {a : Addr} {Q : Bool → Shared → Prop} (k : Key prog w s.heap nm a) (h : Q false s) : wpAny (model prog w) A (hashByValue 8 (.ref a)) Q E s := by
  have hT := k.typeIs
  obtain ⟨o, n, t, ho, hc, hd⟩ := key_items k
  unfold hashByValue
  refine wpAny_bind (wpAny_specialOf hT F.slot_tuple_hash.lookup ?_)
  dsimp only
  unfold seqItems?
  refine wpAny_bind (wpAny_bind (wpAny_load ho ?_))
  rw [hd]
  refine wpAny_pure ?_
  have e : hashByValue 7 (.str nm t) = pure false := by unfold hashByValue; rfl
  refine wpAny_bind ?_
  rw [Option.getD_some, ← Array.forIn_toList, List.forIn_cons]
  refine wpAny_bind ?_
  rw [e]
  refine wpAny_bind (wpAny_pure ?_)
  rw [if_pos (by simp)]
  exact wpAny_pure (wpAny_pure (wpAny_pure h))

theorem relaid_ok {t : SetTable} {es : Array (Int × Value)} (h5 : es.size = 5) : ∃ t' order, t.relaid (es.map (·.1)) 20 = some (t', order) ∧ TOk t' 5 ∧ t'.led = t.led ∧ t'.plain = t.plain ∧ order.toList.Perm (List.range 5) := by
  obtain ⟨owner, e, hp⟩ := layClean_ok (mask := 31) (.inr rfl) (es.map (·.1)) (by simp [h5])
  have hl : (liveOf 31 owner).length = 5 := by
    have := hp.length_eq
    rw [List.length_map, List.length_range, Array.size_map, h5] at this
    exact this
  refine ⟨{ mask := 31, place := ((liveOf 31 owner).map (·.1)).toArray, dummies := #[], finger := t.finger, led := t.led, moves := t.movedTo 31, plain := t.plain }, ((liveOf 31 owner).map (·.2)).toArray, ?_, ⟨by simp [hl], rfl, .inr ⟨rfl, by decide⟩⟩, rfl, rfl, by simpa [h5] using hp⟩
  unfold SetTable.relaid
  have e31 : sizeAbove 20 - 1 = 31 := by decide
  rw [e31]
  unfold SetTable.laid
  rw [e]
  rfl
theorem reord_perm {es : Array (Int × Value)} {order : Array Nat} (h : order.toList.Perm (List.range es.size)) : (order.filterMap (es[·]?)).toList.Perm es.toList := by
  rw [Array.toList_filterMap]
  exact (h.filterMap _).trans (by rw [filterMap_getElem?_range])

theorem relay_ok {S : Addr} {o : Obj} {es : Array (Int × Value)} {ep : Nat} {t : SetTable} (ho : s.heap.get? S = some o) (hd : o.data = .set es ep t) (hf : t.fits es.size = true) (h5 : es.size = 5) {Q : Unit → Shared → Prop}
    (hQ : ∀ es' t', es'.toList.Perm es.toList → TOk t' 5 → t'.led = t.led → t'.plain = t.plain → Q () { s with heap := s.heap.update S (Obj.putSet es' t') }) : wpAny (model prog w) A (setRelay S 20) Q E s := by
  obtain ⟨t', order, e, T', hled, hpl, hp⟩ := relaid_ok (t := t) h5
  unfold setRelay
  refine wpAny_bind (wpAny_setState_of ho hd hf ?_)
  dsimp only
  have hp' : (order.filterMap (es[·]?)).toList.Perm es.toList := reord_perm (by rw [h5]; exact hp)
  have hs' : (order.filterMap (es[·]?)).size = es.size := by
    have := hp'.length_eq
    rwa [Array.length_toList, Array.length_toList] at this
  rw [if_neg (by rw [sizeLine_eq]; decide), e]
  refine wpAny_bind ?_
  show wpAny _ _ (if ((order.filterMap (es[·]?)).size != es.size) = true then unsupported "internal:set-table-lost-an-element" >>= fun _ => pure ((order.filterMap (es[·]?)), t') else pure ((order.filterMap (es[·]?)), t')) _ _ _
  rw [if_neg (by rw [hs']; simp)]
  refine wpAny_pure ?_
  dsimp only
  exact wpAny_storeSet_of ho hd (hQ _ t' hp' T' hled hpl) (by rw [hs', h5, sizeLine_eq]; decide)

noncomputable abbrev setObj (es : Array (Int × Value)) (ep : Nat) (t : SetTable) : Obj := { cls := .type "set", dict := none, data := .set es ep t, slots := #[] }
theorem put_ok {t : SetTable} {n : Nat} (T : TOk t n) (j : Nat) : (t.put j).1.place.size = n + 1 ∧ (t.put j).1.dummies = #[] ∧ (t.put j).1.mask = t.mask ∧ (t.put j).1.led = t.led ∧ (t.put j).1.plain = t.plain := by
  unfold SetTable.put
  refine ⟨?_, ?_, rfl, rfl, rfl⟩
  · have := (insertAt_perm t.place (below t.place j) j).length_eq
    rw [Array.length_toList, Array.length_toList, Array.size_push, T.place] at this
    exact this
  · show (if SetTable.has t.dummies j = true then _ else t.dummies) = _
    rw [T.dum, has_nil]; rfl

theorem setAdd_ok (hu : A.units < cLine) {S : Addr} {es : Array (Int × Value)} {ep : Nat} {t : SetTable} (ho : s.heap.get? S = some (setObj es ep t)) (T : TOk t es.size) (h5 : es.size ≤ 5) {a : Addr} {nm : Str} (ha : Key prog w s.heap nm a)
    (hes : ∀ e ∈ es.toList, ∃ nm' b, e.2 = .ref b ∧ Key prog w s.heap nm' b ∧ nm' ≠ nm) {Q : Bool → Shared → Prop}
    (hQ : ∀ hh es' ep' t' h', es'.toList.Perm ((hh, Value.ref a) :: es.toList) → TOk t' es'.size → t'.led = t.led → t'.plain = false → h'.get? S = some (setObj es' ep' t') → Heap.SameBut S s.heap h' → Q true { s with heap := h', toks := s.toks + 2 }) :
    wpAny (model prog w) A (setAdd S (.ref a)) Q E s := by
  unfold setAdd
  refine wpAny_holding (wpAny_bind (wpAny_pyHash_tuple hu ha ?_))
  show wpAny (model prog w) A (setAddHashed S (.ref a) _) Q E { s with toks := s.toks + 2 }
  generalize tupleKeyHash (PySem.strKind prog w) [nm] = hh
  have ha' : Key prog w ({ s with toks := s.toks + 2 } : Shared).heap nm a := ha
  unfold setAddHashed
  refine wpAny_holding ?_
  unfold setAddHashedIn
  refine wpAny_bind (wpAny_setState_of (s := { s with toks := s.toks + 2 }) ho rfl T.fits ?_)
  dsimp only
  rw [if_neg (by simp [byScan, Value.scannable])]
  refine wpAny_bind ?_
  unfold setSearch
  have hle := T.le
  have hmk := T.mask
  have hlt : 10 * (13 + t.mask) < 10 * turns t.mask := by unfold turns; omega
  refine search_ok (s := { s with toks := s.toks + 2 }) hu ho rfl T ha' hes hh (fun j => ?_) (10 * (13 + t.mask)) 100000 none (T.reach hh) (by omega) hlt
  dsimp only
  refine wpAny_bind (wpAny_setState_of (s := { s with toks := s.toks + 2 }) ho rfl T.fits ?_)
  dsimp only
  obtain ⟨p1, p2, p3, p4, p5⟩ := put_ok T j
  have perm : (insertAt es (t.put j).2 (hh, Value.ref a)).toList.Perm ((hh, Value.ref a) :: es.toList) := by
    refine (insertAt_perm es _ _).trans ?_
    rw [Array.toList_push]
    exact List.perm_append_comm (l₁ := es.toList) (l₂ := [(hh, Value.ref a)])
  have hsz : (insertAt es (t.put j).2 (hh, Value.ref a)).size = es.size + 1 := by
    have := perm.length_eq
    rwa [Array.length_toList, List.length_cons, Array.length_toList] at this
  generalize hes' : insertAt es (t.put j).2 (hh, Value.ref a) = es₁ at perm hsz
  generalize ht₁ : (t.put j).1 = t₁ at p1 p2 p3 p4 p5
  have fin : ∀ t₂ : SetTable, t₂.place = t₁.place → t₂.dummies = t₁.dummies → t₂.mask = t₁.mask → t₂.led = t.led → t₂.plain = false →
      wpAny (model prog w) A (storeSet S es₁ t₂ >>= fun _ => if (!false && t₂.tooFull) = true then setRelay S (grown (es.size + 1)) >>= fun _ => pure true else pure true) Q E { s with toks := s.toks + 2 } := by
    intro t₂ e1 e2 e3 e4 e5
    refine wpAny_bind (wpAny_storeSet_of (s := { s with toks := s.toks + 2 }) ho rfl ?_ (by rw [hsz, sizeLine_eq]; omega))
    have hput : Obj.putSet es₁ t₂ (setObj es ep t) = setObj es₁ (ep + 1) t₂ := putSet_of _ _ rfl
    have ho₁ : (s.heap.update S (Obj.putSet es₁ t₂)).get? S = some (setObj es₁ (ep + 1) t₂) := by rw [← hput]; exact Heap.get?_update_self _ ho (by rw [hput]; rfl)
    have sb₁ : Heap.SameBut S s.heap (s.heap.update S (Obj.putSet es₁ t₂)) := Heap.SameBut.update ..
    have hfill : t₂.fill = es.size + 1 := by unfold SetTable.fill; rw [e1, e2, p1, p2]; simp
    by_cases hfull : t₂.tooFull = true
    · have h4 : es.size = 4 ∧ t₂.mask = 7 := by
        unfold SetTable.tooFull at hfull
        rw [hfill, e3, p3] at hfull
        simp only [decide_eq_true_eq, ge_iff_le] at hfull
        rw [e3, p3]
        rcases T.room with ⟨a1, a2⟩ | ⟨a1, a2⟩ <;> omega
      rw [if_pos (by rw [hfull]; rfl)]
      have hg : grown (es.size + 1) = 20 := by rw [h4.1]; rfl
      rw [hg]
      have hf1 : t₂.fits es₁.size = true := by
        simp only [SetTable.fits, hfill, Bool.and_eq_true, beq_iff_eq, decide_eq_true_eq]
        rw [e1, p1, hsz, h4.2, h4.1]; decide
      refine wpAny_bind (relay_ok (s := { s with heap := s.heap.update S (Obj.putSet es₁ t₂), toks := s.toks + 2 }) ho₁ rfl hf1 (by rw [hsz, h4.1]) fun es₂ t₃ q1 q2 q3 q4 => ?_)
      have hput2 : Obj.putSet es₂ t₃ (setObj es₁ (ep + 1) t₂) = setObj es₂ (ep + 1 + 1) t₃ := putSet_of _ _ rfl
      refine wpAny_pure (hQ hh es₂ (ep + 1 + 1) t₃ _ (q1.trans perm) ?_ (q3.trans e4) (q4.trans e5) ?_ (sb₁.trans (Heap.SameBut.update ..)))
      · have := q1.length_eq
        rw [Array.length_toList, Array.length_toList, hsz, h4.1] at this
        rw [this]; exact q2
      · rw [← hput2]; exact Heap.get?_update_self _ ho₁ (by rw [hput2]; rfl)
    · rw [if_neg (by simpa using hfull)]
      refine wpAny_pure (hQ hh es₁ (ep + 1) t₂ _ perm ⟨by rw [e1, p1, hsz], by rw [e2, p2], ?_⟩ e4 e5 ho₁ sb₁)
      rw [e3, p3, hsz]
      unfold SetTable.tooFull at hfull
      rw [hfill, e3, p3] at hfull
      simp only [decide_eq_true_eq, ge_iff_le] at hfull
      rcases T.room with ⟨a1, a2⟩ | ⟨a1, a2⟩
      · exact .inl ⟨a1, by omega⟩
      · exact .inr ⟨a1, by omega⟩
  by_cases hpl : t₁.plain = true
  · rw [if_pos hpl]
    refine wpAny_bind (byValue_no (s := { s with toks := s.toks + 2 }) ha' ?_)
    have := fin { t₁ with plain := false } rfl rfl rfl p4 rfl
    simpa using this
  · rw [if_neg hpl]
    refine wpAny_bind (wpAny_pure ?_)
    have := fin t₁ rfl rfl rfl p4 (by simpa using hpl)
    simpa using this
end
end Tab

namespace Tab
open SetTable
section
variable {prog : Program} {w : World} {A : Around} {E : Value → Shared → Prop} {s : Shared}
noncomputable def ledOf (w : World) : Bool := !w.params.followText "set-order"
theorem set_new (a : Value) {Q₁ : Value → Shared → Prop} (h : Q₁ (.ref s.heap.objs.size) { s with heap := s.heap.push (setObj #[] 0 (.fresh 0 0 (ledOf w))) }) :
    codeAny (model prog w) A (.call (.builtin "set.__new__") ⟨[.type "set", a], []⟩) (wants Q₁ E) s := by
  refine codeAny_of_tree ?_
  show wpAny _ A.in1 (do checkBuiltinCall "set.__new__" ⟨[.type "set", a], []⟩; again (.builtin "set.__new__" ⟨[.type "set", a], []⟩)) _ _ s
  refine wpAny_bind (wpAny_of_eq (F.newCall_set_1 a) (wpAny_pure ⟨plainId_quiet F.plain_set_new _, codeAny_builtin F.entry_set_new ?_⟩))
  rw [Around.under_plainId F.plain_set_new _]
  unfold Builtin.«set.__new__» Builtin.Frozenset.newClass
  have hsub := sub_set_self
  obtain ⟨hp, g, d, tk, os⟩ := s
  dsimp only
  wp_walk
  refine wpAny_askSetting (wpAny_pure ?_)
  dsimp only
  simp only [newObj]
  refine wpAny_bind (wpAny_alloc (wpAny_pure ?_))
  exact wpAny_pure h

/-- values that are tuples of one str each, the strs told -/
inductive Keys (prog : Program) (w : World) (h : Heap) : List Value → List Str → Prop
  | nil : Keys prog w h [] []
  | cons {a : Addr} {nm : Str} {vs : List Value} {nms : List Str} : Key prog w h nm a → Keys prog w h vs nms → Keys prog w h (.ref a :: vs) (nm :: nms)
theorem Keys.keep {h h' : Heap} {vs : List Value} {nms : List Str} (k : Keys prog w h vs nms) (hk : ∀ b o, o.cls = .type "tuple" → h.get? b = some o → h'.get? b = some o) : Keys prog w h' vs nms := by
  induction k with
  | nil => exact .nil
  | cons a _ ih =>
    obtain ⟨o, items, n, ho, hc, r⟩ := a
    exact .cons ⟨o, items, n, hk _ _ hc ho, hc, r⟩ ih
theorem Key.keep {h h' : Heap} {nm : Str} {a : Addr} (k : Key prog w h nm a) (hk : ∀ b o, o.cls = .type "tuple" → h.get? b = some o → h'.get? b = some o) : Key prog w h' nm a :=
  let ⟨o, items, n, ho, hc, r⟩ := k; ⟨o, items, n, hk _ _ hc ho, hc, r⟩
/-- the set that a part of the list has filled -/
structure Filled (prog : Program) (w : World) (S : Addr) (h : Heap) (vs : List Value) (nms : List Str) : Prop where
  ex : ∃ es ep t, h.get? S = some (setObj es ep t) ∧ TOk t es.size ∧ t.led = ledOf w ∧ (vs ≠ [] → t.plain = false) ∧ (es.toList.map (·.2)).Perm vs ∧ Keys prog w h vs nms

theorem keys_mem {h : Heap} {vs : List Value} {nms : List Str} (k : Keys prog w h vs nms) : ∀ v ∈ vs, ∃ nm b, v = .ref b ∧ Key prog w h nm b ∧ nm ∈ nms := by
  induction k with
  | nil => intro v hv; cases hv
  | cons a r ih =>
    intro v hv
    rcases List.mem_cons.mp hv with rfl | hv
    · exact ⟨_, _, rfl, a, .head _⟩
    · obtain ⟨nm, b, e, kb, hm⟩ := ih v hv
      exact ⟨nm, b, e, kb, .tail _ hm⟩
theorem keys_snoc {h : Heap} {vs : List Value} {nms : List Str} (k : Keys prog w h vs nms) {nm : Str} {a : Addr} (ka : Key prog w h nm a) : Keys prog w h (vs ++ [.ref a]) (nms ++ [nm]) := by
  induction k with
  | nil => exact .cons ka .nil
  | cons b _ ih => exact .cons b ih

theorem fill_loop {I l S : Addr} (hu : A.units + 8 < cLine) (hh : A.handled = none) (hli : l ≠ I) (hSl : S ≠ l) (hSI : S ≠ I) :
    ∀ (post pre : List Value) (npost npre : List Str) (s : Shared) (R : Result → Shared → Prop), (npre ++ npost).Nodup → (pre ++ post).length ≤ 6 →
      s.heap.IsListIter I l pre.length → s.heap.IsList l (List.toArray (pre ++ post)) → Filled prog w S s.heap pre npre → Keys prog w s.heap post npost →
      (∀ h' tk, Filled prog w S h' (pre ++ post) (npre ++ npost) → (∀ b o, b ≠ S → b ≠ I → s.heap.get? b = some o → h'.get? b = some o) → R (.ok (.ret .none)) { s with heap := h', toks := tk }) →
      codeAny (model prog w) A (.builtin "set.update.loop" ⟨[.ref S, .ref I], []⟩) R s := by
  intro post
  induction post with
  | nil =>
    intro pre npost npre s R hnd h6 hit hls hf hk hR
    cases hk
    rw [List.append_nil] at hls hR
    refine codeAny_builtin F.entry_set_update_loop ?_
    rw [Around.under_plainId F.plain_set_update_loop _]
    show wpAny _ A.in1 (pyNext (.ref I) >>= _) _ _ s
    have W := Walks.list (prog := prog) (w := w) (A := A.in1) hh I l hli (List.toArray pre)
    refine wpAny_bind (W.done s _ _ ⟨by rw [List.size_toArray]; exact hit, hls⟩ fun h' tk hk' => ?_)
    show wpAny _ A.in1 (ret Value.none) _ _ _
    refine wpAny_pure (hR h' tk ?_ fun b o _ hb e => hk' b o (by simpa using hb) e)
    rw [List.append_nil]
    obtain ⟨es, ep, t, a1, a2, a3, a4, a5, a6⟩ := hf.ex
    refine ⟨es, ep, t, hk' _ _ (by simpa using hSI) a1, a2, a3, a4, a5, a6.keep fun b o hc e => hk' b o ?_ e⟩
    intro hm
    rw [List.mem_singleton.mp hm] at e
    obtain ⟨oI, eI, cI, _⟩ := hit
    rw [eI] at e; cases e
    rw [cI] at hc; exact absurd hc (by simp)
  | cons v r ih =>
    intro pre npost npre s R hnd h6 hit hls hf hk hR
    cases hk with
    | @cons a nm _ nr ka kr =>
    refine codeAny_builtin F.entry_set_update_loop ?_
    rw [Around.under_plainId F.plain_set_update_loop _]
    show wpAny _ A.in1 (pyNext (.ref I) >>= _) _ _ s
    have W := Walks.list (prog := prog) (w := w) (A := A.in1) hh I l hli (List.toArray (pre ++ .ref a :: r))
    refine wpAny_bind (W.item pre.length s _ _ (by simp) ⟨hit, hls⟩ fun v' h' tk hv' hst hk' => ?_)
    have ev : v' = .ref a := by
      have : (pre ++ Value.ref a :: r)[pre.length]? = some v' := by simpa using hv'
      rw [List.getElem?_append_right (Nat.le_refl _), Nat.sub_self] at this
      simpa using this.symm
    subst ev
    have keep1 : ∀ b o, o.cls = .type "tuple" → s.heap.get? b = some o → h'.get? b = some o := fun b o hc e => hk' b o (by
      intro hm
      rw [List.mem_singleton.mp hm] at e
      obtain ⟨oI, eI, cI, _⟩ := hit
      rw [eI] at e; cases e
      rw [cI] at hc; exact absurd hc (by simp)) e
    obtain ⟨es, ep, t, a1, a2, a3, a4, a5, a6⟩ := hf.ex
    have b1 : h'.get? S = some (setObj es ep t) := hk' _ _ (by simpa using hSI) a1
    have hlen : es.size = pre.length := by
      have := a5.length_eq
      rwa [List.length_map, Array.length_toList] at this
    have k6 := a6.keep keep1
    show wpAny _ A.in1 (holding [Value.ref a] (setAdd S (.ref a)) >>= _) _ _ { s with heap := h', toks := tk }
    refine wpAny_bind (wpAny_holding (setAdd_ok (s := { s with heap := h', toks := tk }) (nm := nm) (by show A.units + 1 < cLine; omega) b1 a2 (by rw [hlen]; simp at h6; omega) (ka.keep keep1) (fun e he => ?_) fun hhv es' ep' t' h'' q1 q2 q3 q4 q5 q6 => ?_))
    · have hv : e.2 ∈ pre := a5.mem_iff.mp (List.mem_map_of_mem he)
      obtain ⟨nm', b, e1, kb, hm⟩ := keys_mem k6 _ hv
      refine ⟨nm', b, e1, kb, ?_⟩
      rintro rfl
      have := (List.nodup_append.mp hnd).2.2 nm' hm nm' (.head _)
      exact this rfl
    · have keep2 : ∀ b o, o.cls = .type "tuple" → h'.get? b = some o → h''.get? b = some o := fun b o hc e => (q6.2 b (by
        rintro rfl
        rw [b1] at e; cases e
        exact absurd hc (by simp))).trans e
      have hit2 : h''.IsListIter I l (pre.length + 1) := hst.1.at fun o e => (q6.2 I hSI.symm).trans e
      have hls2 : h''.IsList l (List.toArray (pre ++ .ref a :: r)) := hst.2.at fun o e => (q6.2 l hSl.symm).trans e
      refine wpAny_pure ⟨plainId_quiet F.plain_set_update_loop _, ?_⟩
      refine ih (pre ++ [.ref a]) nr (npre ++ [nm]) { s with heap := h'', toks := tk + 2 } R (by simpa using hnd) (by simpa using h6) (by simpa using hit2) (by simpa using hls2) ⟨es', ep', t', q5, q2, q3.trans a3, fun _ => q4, ?_, keys_snoc (k6.keep keep2) ((ka.keep keep1).keep keep2)⟩ ((kr.keep keep1).keep keep2) fun h3 tk3 f3 k3 => ?_
      · refine (q1.map (·.2)).trans ?_
        rw [List.map_cons]
        exact (List.Perm.cons _ a5).trans (List.perm_append_comm (l₁ := [Value.ref a]) (l₂ := pre))
      · refine hR h3 tk3 (by simpa using f3) fun b o hb hb' e => k3 b o hb hb' ((q6.2 b hb).trans (hk' b o (by simpa using hb') e))
end
end Tab

namespace Tab
open SetTable
section
variable {prog : Program} {w : World} {A : Around} {E : Value → Shared → Prop} {s : Shared}

theorem set_call {l : Addr} {vs : List Value} {nms : List Str} {Q : Value → Shared → Prop} (hu : A.units + 16 < cLine) (hh : A.handled = none) (hl : s.heap.IsList l (List.toArray vs)) (hk : Keys prog w s.heap vs nms) (hnd : nms.Nodup) (h6 : vs.length ≤ 6)
    (h : ∀ (h' : Heap) (tk : Nat), Filled prog w s.heap.objs.size h' vs nms → (∀ b o, s.heap.get? b = some o → h'.get? b = some o) → Q (.ref s.heap.objs.size) { s with heap := h', toks := tk }) :
    wpAny (model prog w) A (call (.type "set") [.ref l]) Q E s := by
  obtain ⟨c, tl, hmro⟩ := F.called_set.mro
  have hmade := F.called_set.made
  have hsub := F.called_set.sub
  have n1 := F.called_set.notType
  have n2 := F.called_set.canCreate
  have n3 := F.typeCall_set_1 (.ref l)
  refine wpAny_call (codeAny_of_tree ?_)
  show wpAny _ _ (callAny (.type "set") _) _ _ _
  refine wpAny_pure ⟨Code.quiet_builtin _ (by decide +kernel), codeAny_builtin F.entry_type_call ?_⟩
  rw [Around.under_plain (weight_type_call_type "set" [.ref l] []) rfl]
  repeat (any_goals (first | assumption | wp_step))
  refine codeAny_mono (set_new (.ref l) (E := E) (Q₁ := fun ob s₁ => ob = .ref s.heap.objs.size ∧ s₁ = { s with heap := s.heap.push (setObj #[] 0 (.fresh 0 0 (ledOf w))) }) ⟨rfl, rfl⟩) fun r s₁ hr => ?_
  rcases r with e | fl
  · exact hr
  cases fl with
  | ret ob =>
    obtain ⟨rfl, rfl⟩ := hr
    have hS : (s.heap.push (setObj #[] 0 (.fresh 0 0 (ledOf w)))).get? s.heap.objs.size = some (setObj #[] 0 (.fresh 0 0 (ledOf w))) := Heap.get?_push_size _ rfl
    have hT : Shared.TypeIs { s with heap := s.heap.push (setObj #[] 0 (.fresh 0 0 (ledOf w))) } (.ref s.heap.objs.size) "set" := ⟨_, hS, rfl⟩
    have i1 := F.called_set.init.lookup
    have i2 := F.called_set.init.bind (.ref s.heap.objs.size)
    repeat (any_goals (first | assumption | wp_step))
    refine codeAny_mono (codeAny_call_builtin (R := wants (fun r s₂ => r = .none ∧ ∃ h' tk, s₂ = { s with heap := h', toks := tk } ∧ Filled prog w s.heap.objs.size h' vs nms ∧ ∀ b o, s.heap.get? b = some o → h'.get? b = some o) E) F.called_set.init.plain F.entry_set_init (check_set_init_1 hT ?_)) fun r₂ s₂ hr₂ => ?_
    · obtain ⟨⟨oc, od, odt, osl⟩, hol, hcl, nl, hdl⟩ := hl
      dsimp only at hcl hdl
      subst hcl hdl
      have hlt : l < s.heap.objs.size := Heap.lt_size hol
      have hol' : (s.heap.push (setObj #[] 0 (.fresh 0 0 (ledOf w)))).get? l = some { cls := .type "list", dict := od, data := .seq (List.toArray vs) nl, slots := osl } := Heap.get?_push_of_some _ hol
      have e1 := F.sub_list_set
      have e2 := F.sub_list_frozenset
      have e3 : (Value.type "list" == Value.type "dict") = false := by decide
      have hl1 : (s.heap.push (setObj #[] 0 (.fresh 0 0 (ledOf w)))).IsList l (List.toArray vs) := ⟨_, hol', rfl, nl, rfl⟩
      unfold Builtin.«set.__init__» noKeywords Builtin.Frozenset.updateFrom
      generalize hPI : pyIter = PI
      wp_walk
      subst hPI
      refine wpAny_pyIter_list hl1 (wpAny_bind (wpAny_runValue ?_))
      refine fill_loop (l := l) (I := (s.heap.push (setObj #[] 0 (.fresh 0 0 (ledOf w)))).objs.size) (S := s.heap.objs.size) ?_ ?_ ?_ ?_ ?_ vs [] nms [] _ _ (by simpa using hnd) (by simpa using h6) ⟨_, Heap.get?_push_size _ rfl, rfl, rfl⟩ (hl1.push _)
        ⟨#[], 0, .fresh 0 0 (ledOf w), Heap.get?_push_of_some _ hS, ⟨rfl, rfl, .inl ⟨rfl, Nat.zero_le _⟩⟩, rfl, fun q => absurd rfl q, .refl _, .nil⟩ (hk.keep fun b o _ e => Heap.get?_push_of_some _ (Heap.get?_push_of_some _ e)) ?_
      · simp only [Around.in1_units]; omega
      · simpa using hh
      · rw [Heap.size_push]; exact Nat.ne_of_lt (Nat.lt_succ_of_lt hlt)
      · exact Nat.ne_of_gt hlt
      · rw [Heap.size_push]; exact Nat.ne_of_lt (Nat.lt_succ_self _)
      · intro h' tk hF hkp
        refine wpAny_pure ?_
        show wpAny _ _ (ret Value.none) _ _ _
        refine wpAny_pure ⟨rfl, h', tk, rfl, by simpa using hF, fun b o e => hkp b o (Nat.ne_of_lt (Heap.lt_size e)) (by rw [Heap.size_push]; exact Nat.ne_of_lt (Nat.lt_succ_of_lt (Heap.lt_size e))) (Heap.get?_push_of_some _ (Heap.get?_push_of_some _ e))⟩
    · rcases r₂ with e | fl₂
      · exact hr₂
      cases fl₂ with
      | ret r =>
        obtain ⟨rfl, h', tk, rfl, hF, hkp⟩ := hr₂
        repeat (any_goals (first | assumption | wp_step))
        exact h _ _ hF hkp
      | _ => exact hr₂.elim
  | _ => exact hr.elim
end
end Tab

namespace Tab
open SetTable
section
variable {prog : Program} {w : World} {A : Around} {E : Value → Shared → Prop} {s : Shared}

theorem wpAny_choose {M : Model} {src : Source} {n : Nat} {Q : Nat → Shared → Prop} (hn : n ≠ 0) (h : ∀ i d, i < n → Q i { s with drawn := d }) : wpAny M A (choose src n) Q E s := fun Γ p _ => by
  unfold choose
  rw [Sem.wp_choose]
  exact ⟨hn, h _ _ (Nat.mod_lt _ (Nat.pos_of_ne_zero hn))⟩

theorem erase_perm {α : Type} {xs : List α} {i : Nat} {x : α} (h : xs[i]? = some x) : xs.Perm (x :: xs.eraseIdx i) := by
  induction xs generalizing i with
  | nil => cases h
  | cons a r ih =>
    cases i with
    | zero => simp at h; subst h; exact .refl _
    | succ i =>
      simp only [List.getElem?_cons_succ] at h
      rw [List.eraseIdx_cons_succ]
      exact (List.Perm.cons a (ih h)).trans (List.Perm.swap _ _ _)

theorem draw_ok {M : Model} {α : Type} : ∀ (n : Nat) (xs : List α) (s : Shared) (Q : List α → Shared → Prop), xs.length = n → (∀ ys d, ys.Perm xs → Q ys { s with drawn := d }) → wpAny M A (drawOrder n xs) Q E s
  | 0, xs, s, Q, hl, h => by
    have : xs = [] := List.eq_nil_of_length_eq_zero hl
    subst this
    exact wpAny_pure (h [] s.drawn (.refl _))
  | n + 1, [], s, Q, hl, h => by cases hl
  | n + 1, x :: r, s, Q, hl, h => by
    refine wpAny_bind (wpAny_choose (by rw [hl]; exact Nat.succ_ne_zero _) fun i d hi => ?_)
    have he : (x :: r)[i]? = some (x :: r)[i] := List.getElem?_eq_getElem hi
    rw [he]
    dsimp only
    have hp := erase_perm he
    have hlen : ((x :: r).eraseIdx i).length = n := by
      have := hp.length_eq
      rw [hl, List.length_cons] at this; omega
    refine wpAny_bind (draw_ok n _ { s with drawn := d } _ hlen fun ys d' q => ?_)
    exact wpAny_pure (h _ d' ((List.Perm.cons _ q).trans hp.symm))

theorem pick_go {α : Type} (next : Nat → Nat) : ∀ (fuel k : Nat) (left : List α) (out : Array α), left.length = fuel → (pickOrder.go next fuel k left out).toList.Perm (out.toList ++ left)
  | 0, k, left, out, h => by
    have : left = [] := List.eq_nil_of_length_eq_zero h
    subst this
    unfold pickOrder.go
    rw [List.append_nil]
  | fuel + 1, k, left, out, h => by
    unfold pickOrder.go
    have hlt : next k % left.length < left.length := Nat.mod_lt _ (by omega)
    have he : left[next k % left.length]? = some left[next k % left.length] := List.getElem?_eq_getElem hlt
    rw [he]
    dsimp only
    have hp := erase_perm he
    have hlen : (left.eraseIdx (next k % left.length)).length = fuel := by
      have h9 := hp.length_eq
      rw [List.length_cons] at h9; omega
    refine (pick_go next fuel (k + 1) _ _ hlen).trans ?_
    rw [Array.toList_push, List.append_assoc]
    exact List.Perm.append_left _ hp.symm
theorem pick_perm {α : Type} (next : Nat → Nat) (xs : Array α) : (pickOrder next xs).toList.Perm xs.toList := by
  unfold pickOrder
  have := pick_go next xs.size 0 xs.toList #[] (by simp)
  simpa using this

/-- the iterator of a set, behind i items -/
inductive How (w : World) (out : List Value) (S : Addr) (es : Array (Int × Value)) (ep : Nat) (t : SetTable) (h : Heap) (i : Nat) : Value → Prop
  | drawn {P : Addr} {ks : List Nat} : h.get? P = some { cls := .type "tuple", data := .seq (List.toArray (ks.map fun (k : Nat) => rawInt k)) } → (∀ j k : Nat, ks[j]? = some k → ∃ x : Int × Value, es[k]? = some x ∧ out[j]? = some x.2) → ks.length = out.length → How w out S es ep t h i (.ref P)
  | text {j : Int} : w.params.followText "set-order" = true → (pickOrder (w.params.setOrder S ep) es).toList.map (·.2) = out → How w out S es ep t h i (.int j 0)
  | one {e : Int × Value} {j₀ j : Nat} : w.params.followText "set-order" = false → t.led = true → t.place = #[j₀] → es = #[e] → out = [e.2] → ((i = 0 ∧ j = 0) ∨ (i = 1 ∧ j = j₀ + 1)) → How w out S es ep t h i (.int (j : Int) 0)
noncomputable def SIter (w : World) (out : List Value) (I S : Addr) (i : Nat) (h : Heap) : Prop :=
  ∃ es ep t first, h.get? S = some (setObj es ep t) ∧ t.fits es.size = true ∧ es.size = out.length ∧ h.get? I = some { cls := .type "set_iterator", data := .fields #[first, .int (i : Int) 0, .ref S, .int (es.size : Int) 0, .int (ep : Int) 0] } ∧ How w out S es ep t h i first

theorem slot_setit_next : Slot "set_iterator" "__next__" "set_iterator.__next__" :=
  .of (owner := "set_iterator") (n := "__next__") (by rw [typeLookup_type, builtinLookup_eq_fast]; kernel_rfl) (by decide +kernel) (by decide +kernel) (by decide +kernel)
    (by first | exact .inl (by decide +kernel) | exact .inr (by decide +kernel)) (by rw [isSubtype_type]; kernel_rfl)
theorem entry_setit_next : entryFor table "set_iterator.__next__" = some Builtin.«set_iterator.__next__» := entryFor_of_tree (by kernel_rfl)
theorem args_setit_next (a : Value) : argsOk "set_iterator.__next__" ⟨[a], []⟩ := by unfold argsOk; kernel_rfl
theorem entry_set_iter : entryFor table "set.__iter__" = some Builtin.«frozenset.__iter__» :=
  entryFor_alias (id' := "frozenset.__iter__") (by kernel_rfl) rfl (by decide +kernel) (by kernel_rfl)

theorem siter_type {out : List Value} {I S : Addr} {i : Nat} (h : SIter w out I S i s.heap) : s.TypeIs (.ref I) "set_iterator" := by
  obtain ⟨es, ep, t, first, _, _, _, e, _⟩ := h; exact ⟨_, e, rfl⟩
theorem fields_at {M : Model} {I : Addr} {vs : Array Value} {Q : Array Value → Shared → Prop} {c : Value} (h : s.heap.get? I = some { cls := c, data := .fields vs }) (q : Q vs s) : wpAny M A (fieldsOf (.ref I)) Q E s := wpAny_fieldsOf h rfl q

theorem next_item {out : List Value} {I S : Addr} {i : Nat} {x : Value} {Q : Option Value → Shared → Prop} (hit : SIter w out I S i s.heap) (hx : out[i]? = some x)
    (hQ : ∀ h', SIter w out I S (i + 1) h' → Heap.SameBut I s.heap h' → Q (some x) { s with heap := h' }) : wpAny (model prog w) A (pyNext (.ref I)) Q E s := by
  have hT := siter_type hit
  obtain ⟨es, ep, t, first, hS, hf, hsz, hI, how⟩ := hit
  unfold pyNext
  refine wpAny_bind (wpAny_attempt (wpAny_callSpecial?_slot (name := Str.ofString "__next__") hT slot_setit_next (wpAny_call_entry slot_setit_next hT entry_setit_next ?_ (args_setit_next _))))
  unfold Builtin.«set_iterator.__next__»
  refine wpAny_bind (m := slotArgs "__next__" 0 _) (wpAny_pure ?_)
  dsimp only
  refine wpAny_bind (fields_at hI ?_)
  dsimp only
  refine wpAny_bind (wpAny_setEntries_of hS rfl hf ?_)
  rw [if_neg (by simp)]
  have hilt : i < out.length := (List.getElem?_eq_some_iff.mp hx).1
  have hIS : I ≠ S := by
    rintro rfl
    rw [hS] at hI
    exact absurd (congrArg (fun o : Option Obj => o.map (·.cls)) hI) (by simp)
  have after : ∀ (fs : Array Value) (h' : Heap), h'.get? I = some { cls := .type "set_iterator", data := .fields fs } → Heap.SameBut I s.heap h' → (∃ first', fs = #[first', .int ((i + 1 : Nat) : Int) 0, .ref S, .int (es.size : Int) 0, .int (ep : Int) 0] ∧ How w out S es ep t h' (i + 1) first') → SIter w out I S (i + 1) h' := by
    rintro fs h' e sb ⟨first', rfl, hw'⟩
    exact ⟨es, ep, t, first', (sb.2 S hIS.symm).trans hS, hf, hsz, e, hw'⟩
  have ei : ((i : Int) + 1) = ((i + 1 : Nat) : Int) := by omega
  cases how with
  | @drawn P ks hP hks hkl =>
    dsimp only
    refine wpAny_bind (wpAny_seqItems hP rfl ?_)
    have hik : i < ks.length := by omega
    have ek : ks[i]? = some ks[i] := List.getElem?_eq_getElem hik
    obtain ⟨e, he, hoe⟩ := hks i _ ek
    have ex : e.2 = x := by rw [hx] at hoe; cases hoe; rfl
    have ep' : (List.toArray (ks.map fun (k : Nat) => rawInt k))[((i : Int)).toNat]? = some (.int (ks[i] : Int) 0) := by
      rw [List.getElem?_toArray, List.getElem?_map]; simp [ek, rawInt]
    dsimp only
    rw [ep']
    dsimp only
    unfold setNextDrawn
    refine wpAny_bind (wpAny_bind (wpAny_setState_of hS rfl hf ?_))
    dsimp only
    rw [if_neg (by simp), Int.toNat_natCast, he]
    obtain ⟨e1, e2⟩ := e
    dsimp only at ex ⊢
    subst ex
    refine wpAny_pure ?_
    refine wpAny_bind (wpAny_setField hI rfl (by simp) ?_)
    refine wpAny_pure ⟨_, rfl, wpAny_pure (hQ _ (after _ _ (Heap.get?_update_self _ hI rfl) (Heap.SameBut.update ..) ⟨.ref P, ?_, .drawn ?_ hks hkl⟩) (Heap.SameBut.update ..))⟩
    · rw [← ei]; rfl
    · refine ((Heap.SameBut.update ..).2 P ?_).trans hP
      rintro rfl
      rw [hP] at hI
      exact absurd (congrArg (fun o : Option Obj => o.map (·.cls)) hI) (by simp)
  | @text j hbt hout =>
    dsimp only
    unfold setNext
    refine wpAny_bind (wpAny_bind (wpAny_setState_of hS rfl hf ?_))
    dsimp only
    unfold setsByText
    refine wpAny_bind (wpAny_bind (wpAny_askSetting (wpAny_pure ?_)))
    show wpAny _ _ (if w.params.followText "set-order" = true then _ else _) _ _ _
    rw [if_pos hbt, if_neg (by simp)]
    unfold setWalk
    refine wpAny_bind (wpAny_bind (wpAny_setState_of hS rfl hf ?_))
    dsimp only
    unfold setsByText
    refine wpAny_bind (wpAny_bind (wpAny_askSetting (wpAny_pure ?_)))
    show wpAny _ _ (if w.params.followText "set-order" = true then _ else _) _ _ _
    rw [if_pos hbt]
    refine wpAny_bind (wpAny_askSetting (wpAny_pure ?_))
    have hex : ((pickOrder (w.params.setOrder S ep) es)[((i : Int)).toNat]?).map (·.2) = some x := by
      rw [← hout] at hx
      rw [Int.toNat_natCast]
      rw [List.getElem?_map, Array.getElem?_toList] at hx
      exact hx
    obtain ⟨e, he, ex⟩ := Option.map_eq_some_iff.mp hex
    show wpAny _ _ (pure (Option.map _ ((pickOrder (w.params.setOrder S ep) es)[((i : Int)).toNat]?))) _ _ _
    rw [he]
    refine wpAny_pure ?_
    obtain ⟨e1, e2⟩ := e
    dsimp only at ex
    subst ex
    dsimp only [Option.map_some]
    refine wpAny_bind (wpAny_setField hI rfl (by simp) ?_)
    have hI2 : (s.heap.update I (Obj.mapFields fun vs => vs.setIfInBounds 0 (rawInt (j.toNat : Int)))).get? I = some { cls := .type "set_iterator", data := .fields #[.int (j.toNat : Int) 0, .int (i : Int) 0, .ref S, .int (es.size : Int) 0, .int (ep : Int) 0] } := Heap.get?_update_self _ hI rfl
    refine wpAny_bind (wpAny_setField (s := { s with heap := _ }) hI2 rfl (by simp) ?_)
    refine wpAny_pure ⟨_, rfl, wpAny_pure (hQ _ (after _ _ (Heap.get?_update_self _ hI2 rfl) ((Heap.SameBut.update ..).trans (Heap.SameBut.update ..)) ⟨.int (j.toNat : Int) 0, ?_, .text hbt hout⟩) ((Heap.SameBut.update ..).trans (Heap.SameBut.update ..)))⟩
    rw [← ei]; rfl
  | @one e j₀ j hbt hled hpl hes hout hij =>
    subst hes hout
    have hi0 : i = 0 := by simp at hilt; exact hilt
    subst hi0
    have hj0 : j = 0 := by rcases hij with ⟨_, h⟩ | ⟨h, _⟩ <;> omega
    subst hj0
    have ex : x = e.2 := by simpa using hx.symm
    subst ex
    dsimp only
    unfold setNext
    refine wpAny_bind (wpAny_bind (wpAny_setState_of hS rfl hf ?_))
    dsimp only
    unfold setsByText
    refine wpAny_bind (wpAny_bind (wpAny_askSetting (wpAny_pure ?_)))
    show wpAny _ _ (if w.params.followText "set-order" = true then _ else _) _ _ _
    rw [if_neg (by rw [hbt]; simp)]
    show wpAny _ _ (if (!t.plain && decide ((#[e] : Array (Int × Value)).size > 1)) = true then _ else _) _ _ _
    rw [if_neg (by simp)]
    refine wpAny_bind ?_
    show wpAny _ _ (if (!t.led && !(#[e] : Array (Int × Value)).isEmpty) = true then _ else _) _ _ _
    rw [if_neg (by rw [hled]; simp)]
    refine wpAny_pure ?_
    refine wpAny_pure ?_
    have hb : below t.place (((0 : Nat) : Int).toNat) = 0 := by
      rw [hpl]; simp [below, below.go]
    rw [hb, hpl]
    obtain ⟨e1, e2⟩ := e
    show wpAny _ _ (setField (.ref I) 0 (rawInt ((j₀ + 1 : Nat) : Int)) >>= _) _ _ _
    refine wpAny_bind (wpAny_setField hI rfl (by simp) ?_)
    have hI2 : (s.heap.update I (Obj.mapFields fun vs => vs.setIfInBounds 0 (rawInt ((j₀ + 1 : Nat) : Int)))).get? I = some { cls := .type "set_iterator", data := .fields #[.int ((j₀ + 1 : Nat) : Int) 0, .int ((0 : Nat) : Int) 0, .ref S, .int ((#[(e1, e2)] : Array (Int × Value)).size : Int) 0, .int (ep : Int) 0] } := Heap.get?_update_self _ hI rfl
    refine wpAny_bind (wpAny_setField (s := { s with heap := _ }) hI2 rfl (by simp) ?_)
    refine wpAny_pure ⟨_, rfl, wpAny_pure (hQ _ (after _ _ (Heap.get?_update_self _ hI2 rfl) ((Heap.SameBut.update ..).trans (Heap.SameBut.update ..)) ⟨.int ((j₀ + 1 : Nat) : Int) 0, ?_, .one hbt hled hpl rfl rfl (.inr ⟨rfl, rfl⟩)⟩) ((Heap.SameBut.update ..).trans (Heap.SameBut.update ..)))⟩
    rfl

theorem stop_ok {P : PySem.Fin → Shared → Prop} {Q : Option Value → Shared → Prop} (hh : A.handled = none) (hQ : ∀ h', (∀ b o, s.heap.get? b = some o → h'.get? b = some o) → Q none { s with heap := h' }) :
    wpAny (model prog w) A.in1 (newExc (.type "StopIteration") [] >>= fun x => (raiseNew x : Sem PySem.Fin)) P
      (fun e s' => wpAny (model prog w) A (do if (← isInstance e (.type "StopIteration")) then pure none else throw e) Q E s') s := by
  refine wpAny_bind ?_
  simp only [newExc, newTuple]
  refine wpAny_bind (wpAny_newObj_type ?_ (by size_fits))
  refine wpAny_bind (m := firstArgMember _ _) (wpAny_of_eq (a := Value.none) (by first | rfl | (simp only [firstArgMember]; rfl)) ?_)
  refine wpAny_newObj_type ?_ (by size_fits)
  simp only [raiseNew]
  refine wpAny_bind (wpAny_handled ?_)
  rw [show A.in1.handled = none from hh]
  refine wpAny_bind (wpAny_pure (wpAny_throw ?_))
  refine wpAny_bind (wpAny_isInstance (T := "StopIteration") (b := true) ⟨_, Heap.get?_push_size _ rfl, rfl⟩ isSubtype_stop ?_)
  exact wpAny_pure (hQ _ fun b o e => Heap.get?_push_of_some _ (Heap.get?_push_of_some _ e))

theorem next_end {out : List Value} {I S : Addr} {Q : Option Value → Shared → Prop} (hh : A.handled = none) (hit : SIter w out I S out.length s.heap) (h0 : 0 < out.length)
    (hQ : ∀ h', (∀ b o, b ≠ I → s.heap.get? b = some o → h'.get? b = some o) → Q none { s with heap := h' }) : wpAny (model prog w) A (pyNext (.ref I)) Q E s := by
  have hT := siter_type hit
  obtain ⟨es, ep, t, first, hS, hf, hsz, hI, how⟩ := hit
  unfold pyNext
  refine wpAny_bind (wpAny_attempt (wpAny_callSpecial?_slot (name := Str.ofString "__next__") hT slot_setit_next (wpAny_call_entry slot_setit_next hT entry_setit_next ?_ (args_setit_next _))))
  unfold Builtin.«set_iterator.__next__»
  refine wpAny_bind (m := slotArgs "__next__" 0 _) (wpAny_pure ?_)
  dsimp only
  refine wpAny_bind (fields_at hI ?_)
  dsimp only
  refine wpAny_bind (wpAny_setEntries_of hS rfl hf ?_)
  rw [if_neg (by simp)]
  have sb : ∀ (f : Obj → Obj) (h' : Heap), (∀ b o, (s.heap.update I f).get? b = some o → h'.get? b = some o) → ∀ b o, b ≠ I → s.heap.get? b = some o → h'.get? b = some o := fun f h' hk b o hb e => hk b o (((Heap.SameBut.update ..).2 b hb).trans e)
  cases how with
  | @drawn P ks hP hks hkl =>
    dsimp only
    refine wpAny_bind (wpAny_seqItems hP rfl ?_)
    have ep' : (List.toArray (ks.map fun (k : Nat) => rawInt k))[((out.length : Nat) : Int).toNat]? = none := by
      rw [List.getElem?_toArray, List.getElem?_map, Int.toNat_natCast, List.getElem?_eq_none (by omega)]; rfl
    dsimp only
    rw [ep']
    dsimp only
    refine wpAny_bind (wpAny_setField hI rfl (by simp) ?_)
    have hI2 : (s.heap.update I (Obj.mapFields fun vs => vs.setIfInBounds 0 (rawInt 0))).get? I = some { cls := .type "set_iterator", data := .fields #[.int 0 0, .int (out.length : Int) 0, .ref S, .int (es.size : Int) 0, .int (ep : Int) 0] } := Heap.get?_update_self _ hI rfl
    refine wpAny_bind (wpAny_setField (s := { s with heap := _ }) hI2 rfl (by simp) ?_)
    refine stop_ok (s := { s with heap := _ }) hh fun h' hk => hQ h' fun b o hb e => hk b o (((Heap.SameBut.update ..).2 b hb).trans (((Heap.SameBut.update ..).2 b hb).trans e))
  | @text j hbt hout =>
    dsimp only
    unfold setNext
    refine wpAny_bind (wpAny_bind (wpAny_setState_of hS rfl hf ?_))
    dsimp only
    unfold setsByText
    refine wpAny_bind (wpAny_bind (wpAny_askSetting (wpAny_pure ?_)))
    show wpAny _ _ (if w.params.followText "set-order" = true then _ else _) _ _ _
    rw [if_pos hbt, if_neg (by simp)]
    unfold setWalk
    refine wpAny_bind (wpAny_bind (wpAny_setState_of hS rfl hf ?_))
    dsimp only
    unfold setsByText
    refine wpAny_bind (wpAny_bind (wpAny_askSetting (wpAny_pure ?_)))
    show wpAny _ _ (if w.params.followText "set-order" = true then _ else _) _ _ _
    rw [if_pos hbt]
    refine wpAny_bind (wpAny_askSetting (wpAny_pure ?_))
    have he : (pickOrder (w.params.setOrder S ep) es)[((out.length : Nat) : Int).toNat]? = none := by
      rw [Int.toNat_natCast, ← hout, List.length_map, Array.length_toList]
      exact Array.getElem?_eq_none (Nat.le_refl _)
    show wpAny _ _ (pure (Option.map _ ((pickOrder (w.params.setOrder S ep) es)[((out.length : Nat) : Int).toNat]?))) _ _ _
    rw [he]
    refine wpAny_pure ?_
    dsimp only [Option.map_none]
    refine wpAny_bind (wpAny_setField hI rfl (by simp) ?_)
    refine stop_ok (s := { s with heap := _ }) hh fun h' hk => hQ h' (sb _ _ hk)
  | @one e j₀ j hbt hled hpl hes hout hij =>
    subst hes hout
    have hj : j = j₀ + 1 := by
      rcases hij with ⟨h, _⟩ | ⟨_, h⟩
      · simp at h
      · exact h
    subst hj
    dsimp only
    unfold setNext
    refine wpAny_bind (wpAny_bind (wpAny_setState_of hS rfl hf ?_))
    dsimp only
    unfold setsByText
    refine wpAny_bind (wpAny_bind (wpAny_askSetting (wpAny_pure ?_)))
    show wpAny _ _ (if w.params.followText "set-order" = true then _ else _) _ _ _
    rw [if_neg (by rw [hbt]; simp)]
    show wpAny _ _ (if (!t.plain && decide ((#[e] : Array (Int × Value)).size > 1)) = true then _ else _) _ _ _
    rw [if_neg (by simp)]
    refine wpAny_bind ?_
    show wpAny _ _ (if (!t.led && !(#[e] : Array (Int × Value)).isEmpty) = true then _ else _) _ _ _
    rw [if_neg (by rw [hled]; simp)]
    refine wpAny_pure ?_
    refine wpAny_pure ?_
    have hb : below t.place (((j₀ + 1 : Nat) : Int).toNat) = 1 := by
      rw [hpl]; simp [below, below.go]
    rw [hb, hpl]
    show wpAny _ _ (setField (.ref I) 2 .none >>= _) _ _ _
    refine wpAny_bind (wpAny_setField hI rfl (by simp) ?_)
    refine stop_ok (s := { s with heap := _ }) hh fun h' hk => hQ h' (sb _ _ hk)
end
end Tab

namespace Tab
open SetTable
section
variable {prog : Program} {w : World} {A : Around} {E : Value → Shared → Prop} {s : Shared}

theorem arr_one {α : Type} {es : Array α} (h : es.size = 1) : ∃ e, es = #[e] := by
  obtain ⟨l⟩ := es
  obtain ⟨e, rfl⟩ := List.length_eq_one_iff.mp h
  exact ⟨e, rfl⟩
theorem iter_set {S : Addr} {es : Array (Int × Value)} {ep : Nat} {t : SetTable} (hS : s.heap.get? S = some (setObj es ep t)) (T : TOk t es.size) (hled : t.led = ledOf w) (hpl : t.plain = false) (h0 : 0 < es.size) {Q : Value → Shared → Prop}
    (hQ : ∀ out I h' d, out.Perm (es.toList.map (·.2)) → SIter w out I S 0 h' → s.heap.get? I = none → (∀ b o, s.heap.get? b = some o → h'.get? b = some o) → Q (.ref I) { s with heap := h', drawn := d }) : wpAny (model prog w) A (pyIter (.ref S)) Q E s := by
  have hT : s.TypeIs (.ref S) "set" := ⟨_, hS, rfl⟩
  refine wpAny_pyIter_slot hT F.slot_set_iter (wpAny_call_entry F.slot_set_iter hT entry_set_iter ?_ (F.args_set_iter_1 _))
  unfold Builtin.«frozenset.__iter__»
  refine wpAny_bind (m := Builtin.Frozenset.slot0 "__iter__" _) (wpAny_pure ?_)
  unfold Builtin.Frozenset.sizeOf
  refine wpAny_bind (wpAny_bind (wpAny_setEntries_of hS rfl T.fits (wpAny_pure ?_)))
  have fin : ∀ (first : Value) (h₁ : Heap) (d : Drawn) (out : List Value), out.Perm (es.toList.map (·.2)) → (∀ b o, s.heap.get? b = some o → h₁.get? b = some o) → s.heap.objs.size ≤ h₁.objs.size → How w out S es ep t (h₁.push { cls := .type "set_iterator", data := .fields #[first, .int 0 0, .ref S, .int (es.size : Int) 0, .int (ep : Int) 0] }) 0 first →
      wpAny (model prog w) A.in1 (setEpoch S >>= fun e => newFields "set_iterator" [first, rawInt 0, .ref S, rawInt (es.size : Int), rawInt (e : Int)] >>= fun r => ret r)
        (fun fin s' => ∃ v, fin = .done (.ret v) ∧ ∃ ty nx, s'.TypeIs v ty ∧ typeLookup (.type ty) "__next__" = pure (some nx) ∧ Q v s') E { s with heap := h₁, drawn := d } := by
    intro first h₁ d out hp hk hsz hw
    refine wpAny_bind (wpAny_setEpoch_of (s := { s with heap := h₁, drawn := d }) (hk _ _ hS) rfl T.fits ?_)
    refine wpAny_bind (wpAny_newObj_type (s := { s with heap := h₁, drawn := d }) (wpAny_pure ?_))
    refine ⟨_, rfl, "set_iterator", _, ⟨_, Heap.get?_push_size _ rfl, rfl⟩, slot_setit_next.lookup, ?_⟩
    have hlen : es.size = out.length := by
      have := hp.length_eq
      rw [List.length_map, Array.length_toList] at this; exact this.symm
    refine hQ out _ _ d hp ⟨es, ep, t, first, Heap.get?_push_of_some _ (hk _ _ hS), T.fits, hlen, Heap.get?_push_size _ rfl, hw⟩ ?_ fun b o e => Heap.get?_push_of_some _ (hk b o e)
    cases q : s.heap.get? h₁.objs.size with
    | none => rfl
    | some o => exact absurd (Heap.lt_size q) (Nat.not_lt.mpr hsz)
  unfold setDrawn
  refine wpAny_bind (wpAny_bind (wpAny_setState_of hS rfl T.fits ?_))
  dsimp only
  unfold setsByText
  refine wpAny_bind (wpAny_bind (wpAny_askSetting (wpAny_pure (wpAny_pure ?_))))
  show wpAny _ _ (if (!w.params.followText "set-order" && (!t.plain && decide (es.size > 1))) = true then _ else _) _ _ _
  by_cases hbt : w.params.followText "set-order" = true
  · rw [if_neg (by rw [hbt]; simp)]
    refine wpAny_bind (wpAny_pure ?_)
    exact fin _ s.heap s.drawn ((pickOrder (w.params.setOrder S ep) es).toList.map (·.2)) ((pick_perm _ es).map _) (fun _ _ e => e) (Nat.le_refl _) (.text (j := 0) hbt rfl)
  · have hbf : w.params.followText "set-order" = false := by simpa using hbt
    by_cases h1 : es.size > 1
    · rw [if_pos (by rw [hbf, hpl]; simp [h1])]
      refine wpAny_bind (draw_ok es.size (List.range es.size) s _ (List.length_range) fun ys d q => ?_)
      refine wpAny_bind (wpAny_newTuple (s := { s with drawn := d }) ?_ (by rw [List.length_map, q.length_eq, List.length_range, sizeLine_eq]; have := T.le; rcases T.mask with e | e <;> omega))
      dsimp only
      have hys : ∀ k ∈ ys, k < es.size := fun k hk => List.mem_range.mp (q.mem_iff.mp hk)
      refine fin _ _ d ((ys.filterMap fun k => (es[k]?)).map (·.2)) ?_ (fun b o e => Heap.get?_push_of_some _ e) (by rw [Heap.size_push]; exact Nat.le_succ _) (.drawn (P := s.heap.objs.size) (ks := ys) (Heap.get?_push_of_some _ (Heap.get?_push_size _ rfl)) ?_ ?_)
      · refine List.Perm.map _ ((q.filterMap _).trans ?_)
        rw [filterMap_getElem?_range]
      · have main : ∀ ys : List Nat, (∀ k ∈ ys, k < es.size) → ∀ j k : Nat, ys[j]? = some k → ∃ x : Int × Value, es[k]? = some x ∧ ((ys.filterMap fun k => (es[k]?)).map (·.2))[j]? = some x.2 := by
          intro ys
          induction ys with
          | nil => intro _ j k h; cases h
          | cons a r ih =>
            intro hys j k h
            have ha : a < es.size := hys a (.head _)
            have ea : es[a]? = some es[a] := Array.getElem?_eq_getElem ha
            rw [List.filterMap_cons, ea]
            cases j with
            | zero =>
              simp at h; subst h
              exact ⟨_, ea, rfl⟩
            | succ j =>
              simp only [List.getElem?_cons_succ] at h
              exact ih (fun k hk => hys k (.tail _ hk)) j k h
        exact main ys hys
      · have main : ∀ ys : List Nat, (∀ k ∈ ys, k < es.size) → (ys.filterMap fun k => (es[k]?)).length = ys.length := by
          intro ys
          induction ys with
          | nil => intro _; rfl
          | cons a r ih =>
            intro hys
            have ha : a < es.size := hys a (.head _)
            have ea : es[a]? = some es[a] := Array.getElem?_eq_getElem ha
            rw [List.filterMap_cons, ea, List.length_cons, List.length_cons, ih fun k hk => hys k (.tail _ hk)]
        rw [List.length_map, main ys hys]
    · rw [if_neg (by simp [h1])]
      refine wpAny_bind (wpAny_pure ?_)
      have hs1 : es.size = 1 := by omega
      obtain ⟨e, he⟩ := arr_one hs1
      obtain ⟨j₀, hj₀⟩ := arr_one (T.place.trans hs1)
      have := fin (.int ((0 : Nat) : Int) 0) s.heap s.drawn [e.2] (by rw [he]; exact .refl _) (fun _ _ e => e) (Nat.le_refl _) (.one (j₀ := j₀) hbf (by rw [hled]; unfold ledOf; rw [hbf]; rfl) hj₀ he rfl (.inl ⟨rfl, rfl⟩))
      exact this

theorem extend_set {I S D : Addr} {out : List Value} (hh : A.handled = none) (h0 : 0 < out.length) (hDI : D ≠ I) (hDS : D ≠ S) (hIS : I ≠ S) (h6 : out.length ≤ 6) {res : Value} :
    ∀ (k i : Nat) (s : Shared) (c : Nat) (R : Result → Shared → Prop), out.length - i = k → i ≤ out.length → SIter w out I S i s.heap → s.heap.get? D = some (PySem.W.listOf (List.toArray (out.take i)) c)  →
      (∀ h' c', h'.get? D = some (PySem.W.listOf (List.toArray out) c') → (∀ b o, b ≠ D → b ≠ I → s.heap.get? b = some o → h'.get? b = some o) → R (.ok (.ret res)) { s with heap := h' }) →
      codeAny (model prog w) A (.builtin "list.extend.loop" ⟨[.ref D, .ref I, res], []⟩) R s := by
  intro k
  induction k with
  | zero =>
    intro i s c R hk hi hit hD hR
    have hin : i = out.length := by omega
    subst hin
    rw [List.take_length] at hD
    refine codeAny_builtin F.entry_extend_loop ?_
    rw [Around.under_plainId F.plain_extend_loop _]
    show wpAny _ A.in1 (pyNext (.ref I) >>= _) _ _ s
    refine wpAny_bind (next_end hh hit h0 fun h' hk' => ?_)
    exact wpAny_pure (hR h' c (hk' _ _ hDI hD) fun b o _ hb e => hk' b o hb e)
  | succ k ih =>
    intro i s c R hk hi hit hD hR
    have hlt : i < out.length := by omega
    refine codeAny_builtin F.entry_extend_loop ?_
    rw [Around.under_plainId F.plain_extend_loop _]
    show wpAny _ A.in1 (pyNext (.ref I) >>= _) _ _ s
    refine wpAny_bind (next_item hit (List.getElem?_eq_getElem hlt) fun h₁ hit₁ hs₁ => ?_)
    have hD₁ : h₁.get? D = some (PySem.W.listOf (List.toArray (out.take i)) c) := (hs₁.2 D hDI).trans hD
    show wpAny _ A.in1 (updateSeq D (·.push out[i]) >>= _) _ _ _
    refine wpAny_bind ?_
    refine wpAny_updateSeq (s := { s with heap := h₁ }) hD₁ rfl (wpAny_pure ⟨plainId_quiet F.plain_extend_loop _, ?_⟩) (by show (List.toArray (out.take i)).size ≤ _; rw [List.size_toArray, List.length_take, sizeLine_eq]; omega) (by rw [Array.size_push, List.size_toArray, List.length_take, sizeLine_eq]; omega)
    have et : (List.toArray (out.take i)).push out[i] = List.toArray (out.take (i + 1)) := by
      rw [List.take_add_one, List.getElem?_eq_getElem hlt]; simp
    have hD₂ : (h₁.update D (Obj.mapSeq (·.push out[i]))).get? D = some (PySem.W.listOf (List.toArray (out.take (i + 1))) (c + 1)) := by
      rw [Heap.get?_update_self _ hD₁ rfl]
      simp [Obj.mapSeq, et, Nat.min_eq_left (Nat.le_of_lt hlt), Nat.min_eq_left (Nat.succ_le_of_lt hlt)]
    have sb₂ : Heap.SameBut D h₁ (h₁.update D (Obj.mapSeq (·.push out[i]))) := Heap.SameBut.update ..
    refine ih (i + 1) { s with heap := _ } (c + 1) R (by omega) hlt ?_ hD₂ fun h' c' e1 e2 => hR h' c' e1 fun b o hb hb' e => e2 b o hb hb' ((sb₂.2 b hb).trans ((hs₁.2 b hb').trans e))
    · obtain ⟨es, ep, t, first, q1, q2, q3, q4, q5⟩ := hit₁
      refine ⟨es, ep, t, first, (sb₂.2 S (Ne.symm hDS)).trans q1, q2, q3, (sb₂.2 I (Ne.symm hDI)).trans q4, ?_⟩
      cases q5 with
      | @drawn P ks hP a b =>
        refine .drawn ((sb₂.2 P ?_).trans hP) a b
        intro e9
        rw [e9, hD₁] at hP
        exact absurd (congrArg (fun o : Option Obj => o.map (·.cls)) hP) (by simp)
      | text a b => exact .text a b
      | one a b c d e f => exact .one a b c d e f

theorem hint_set {S : Addr} (hT : s.TypeIs (.ref S) "set") {Q : Bool → Shared → Prop} (h : Q false s) : wpAny (model prog w) A (Builtin.List.listLengthHint (.ref S)) Q E s := by
  unfold Builtin.List.listLengthHint
  refine wpAny_bind (wpAny_specialOf hT F.slot_set_len.lookup ?_)
  dsimp only
  rw [show splitId "set.__len__" = some ("set", "__len__") from by decide +kernel]
  dsimp only
  refine wpAny_bind (wpAny_isInstance hT sub_set_self ?_)
  rw [if_neg (by simp)]
  rw [if_pos (by decide +kernel)]
  refine wpAny_bind (wpAny_typeOf hT ?_)
  exact wpAny_pure h

theorem collect_set {S : Addr} {vs : List Value} {nms : List Str} (hu : A.units + 8 < cLine) (hh : A.handled = none) (hF : Filled prog w S s.heap vs nms) (h0 : vs ≠ []) (h6 : vs.length ≤ 6) {Q : List Value → Shared → Prop}
    (hQ : ∀ out h' d, out.Perm vs → (∀ b o, s.heap.get? b = some o → h'.get? b = some o) → Q out { s with heap := h', drawn := d }) : wpAny (model prog w) A (collect (.ref S)) Q E s := by
  obtain ⟨es, ep, t, hS, T, hled, hpl, hp, hk⟩ := hF.ex
  unfold collect
  refine wpAny_bind (wpAny_runValue (codeAny_builtin entry_proto_collect' ?_))
  show wpAny _ _ (do again (.builtin "list.__iadd__" ⟨[← newList [], .ref S], []⟩)) _ _ s
  refine wpAny_bind (wpAny_newList (wpAny_pure ⟨Code.quiet_builtin _ (by decide +kernel), codeAny_builtin entry_list_iadd' ?_⟩))
  show wpAny _ _ (Builtin.List.listExtendWith (.ref s.heap.objs.size) (.ref S) (.ref s.heap.objs.size)) _ _ { s with heap := s.heap.push (seqObj "list" #[] 0) }
  unfold Builtin.List.listExtendWith
  have hS1 : (s.heap.push (seqObj "list" #[] 0)).get? S = some (setObj es ep t) := Heap.get?_push_of_some _ hS
  have hSlt : S < s.heap.objs.size := Heap.lt_size hS
  refine wpAny_bind (wpAny_typeOf (T := "set") ⟨_, hS1, rfl⟩ ?_)
  rw [if_neg (by simp [Builtin.List.listSameRef]; exact Nat.ne_of_gt hSlt)]
  have hes : 0 < es.size := by
    have := hp.length_eq
    rw [List.length_map, Array.length_toList] at this
    rw [this]; exact List.length_pos_iff.mpr h0
  refine wpAny_bind (iter_set (s := { s with heap := s.heap.push (seqObj "list" #[] 0) }) hS1 T hled (hpl h0) hes fun out I h₁ d hout hit hI0 hk₁ => ?_)
  have hS2 : h₁.get? S = some (setObj es ep t) := hk₁ _ _ hS1
  refine wpAny_bind (wpAny_holding (hint_set (s := { s with heap := h₁, drawn := d }) ⟨_, hS2, rfl⟩ ?_))
  dsimp only
  rw [if_pos (by decide +kernel)]
  refine wpAny_bind (wpAny_rule ?_)
  unfold Builtin.List.listTouch
  have hD1 : h₁.get? s.heap.objs.size = some (PySem.W.listOf #[] 0) := hk₁ _ _ (Heap.get?_push_size _ rfl)
  refine wpAny_bind (wpAny_bind (listUpdate_at (s := { s with heap := h₁, drawn := d }) hD1 rfl ?_ (Nat.zero_le _) (by rw [sizeLine_eq]; decide)))
  have hD2 : (h₁.update s.heap.objs.size (Obj.mapSeq (·.push Value.none))).get? s.heap.objs.size = some (PySem.W.listOf #[Value.none] 1) := Heap.get?_update_self _ hD1 rfl
  have sb2 : Heap.SameBut s.heap.objs.size h₁ (h₁.update s.heap.objs.size (Obj.mapSeq (·.push Value.none))) := Heap.SameBut.update ..
  refine listUpdate_at (s := { s with heap := _, drawn := d }) hD2 rfl ?_ (by rw [sizeLine_eq]; decide) (by rw [sizeLine_eq]; decide)
  have hD3 : ((h₁.update s.heap.objs.size (Obj.mapSeq (·.push Value.none))).update s.heap.objs.size (Obj.mapSeq (·.pop))).get? s.heap.objs.size = some (PySem.W.listOf (List.toArray (out.take 0)) 2) := Heap.get?_update_self _ hD2 rfl
  have sb3 : Heap.SameBut s.heap.objs.size h₁ _ := sb2.trans (Heap.SameBut.update _ _ (Obj.mapSeq (·.pop)))
  have hDI : s.heap.objs.size ≠ I := by
    rintro rfl
    rw [show (s.heap.push (seqObj "list" #[] 0)).get? s.heap.objs.size = some (seqObj "list" #[] 0) from Heap.get?_push_size _ rfl] at hI0
    cases hI0
  have hDS : s.heap.objs.size ≠ S := Nat.ne_of_gt hSlt
  have hIS : I ≠ S := by
    rintro rfl
    rw [hS1] at hI0; cases hI0
  have hlen : out.length = vs.length := (hout.trans hp).length_eq
  refine wpAny_pure ⟨Code.quiet_builtin _ (by decide +kernel), ?_⟩
  refine extend_set (by exact hh) (by rw [hlen]; exact List.length_pos_iff.mpr h0) hDI hDS hIS (by rw [hlen]; exact h6) (out.length - 0) 0 { s with heap := _, drawn := d } 2 _ rfl (Nat.zero_le _) ?_ hD3 fun h' c' e1 e2 => ?_
  · obtain ⟨es', ep', t', first, q1, q2, q3, q4, q5⟩ := hit
    refine ⟨es', ep', t', first, (sb3.2 S (Ne.symm hDS)).trans q1, q2, q3, (sb3.2 I (Ne.symm hDI)).trans q4, ?_⟩
    cases q5 with
    | @drawn P ks hP a b =>
      refine .drawn ((sb3.2 P ?_).trans hP) a b
      intro e9
      rw [e9, hD1] at hP
      exact absurd (congrArg (fun o : Option Obj => o.map (·.cls)) hP) (by simp)
    | text a b => exact .text a b
    | one a b c d e f => exact .one a b c d e f
  · show wpAny (model prog w) A (do
      let o ← load s.heap.objs.size
      match o.data with
      | .seq xs _ => pure xs.toList
      | _ => unsupported "internal:collect") Q E { s with heap := h', drawn := d }
    refine wpAny_bind (wpAny_load e1 ?_)
    refine wpAny_pure ?_
    refine hQ out h' d (hout.trans hp) fun b o e => ?_
    have hb : b ≠ s.heap.objs.size := Nat.ne_of_lt (Heap.lt_size e)
    have e' : (s.heap.push (seqObj "list" #[] 0)).get? b = some o := Heap.get?_push_of_some _ e
    refine e2 b o hb ?_ ((sb3.2 b hb).trans (hk₁ _ _ e'))
    rintro rfl
    rw [e'] at hI0; cases hI0
end
end Tab

namespace Tab
/-- a tree of questions, run for many orders at once -/
noncomputable def chk (n : Nat) : KasT (Array Nat) → List (List Nat) → Bool
  | .ret p, L => p.toList.all (Nat.blt · n) && L.all fun l => p.toList.map (l.getD · 0) == (List.range 6).filter l.contains
  | .ask i j k, L => (Nat.blt i n && Nat.blt j n) &&
      (match L.filter (fun l => Nat.blt (l.getD i 0) (l.getD j 0)) with | [] => true | a => chk n (k true) a) &&
      (match L.filter (fun l => !Nat.blt (l.getD i 0) (l.getD j 0)) with | [] => true | a => chk n (k false) a)
theorem chk_wp {n : Nat} {l : List Nat} {cmp : Nat → Nat → (Bool → Shared → Prop) → Shared → Prop} {G : Array Nat → Shared → Prop} {s : Shared} (hc : ∀ i j C, i < n → j < n → C (Nat.blt (l.getD i 0) (l.getD j 0)) s → cmp i j C s)
    (hG : ∀ p : Array Nat, (∀ i ∈ p.toList, i < n) → p.toList.map (l.getD · 0) = (List.range 6).filter l.contains → G p s) : ∀ (t : KasT (Array Nat)) (L : List (List Nat)), chk n t L = true → l ∈ L → t.kasWp cmp G s
  | .ret p, L, h, hl => by
    obtain ⟨h1, h2⟩ := Bool.and_eq_true_iff.mp h
    exact hG p (fun i hi => by simpa [Nat.blt_eq] using List.all_eq_true.mp h1 i hi) (eq_of_beq (List.all_eq_true.mp h2 l hl))
  | .ask i j k, L, h, hl => by
    unfold chk at h
    rw [Bool.and_eq_true, Bool.and_eq_true, Bool.and_eq_true] at h
    obtain ⟨⟨⟨h1, h2⟩, h3⟩, h4⟩ := h
    refine hc i j _ (by simpa [Nat.blt_eq] using h1) (by simpa [Nat.blt_eq] using h2) ?_
    cases e : Nat.blt (l.getD i 0) (l.getD j 0) with
    | true =>
      have hm : l ∈ L.filter (fun l => Nat.blt (l.getD i 0) (l.getD j 0)) := List.mem_filter.mpr ⟨hl, e⟩
      split at h3
      · rename_i q; rw [q] at hm; cases hm
      · exact chk_wp hc hG (k true) _ h3 hm
    | false =>
      have hm : l ∈ L.filter (fun l => !Nat.blt (l.getD i 0) (l.getD j 0)) := List.mem_filter.mpr ⟨hl, by rw [e]; rfl⟩
      split at h4
      · rename_i q; rw [q] at hm; cases hm
      · exact chk_wp hc hG (k false) _ h4 hm
/-- all lists without repetition out of the six -/
noncomputable def arr : Nat → List Nat → List (List Nat)
  | 0, _ => [[]]
  | f + 1, av => [] :: av.flatMap fun a => (arr f (av.filter (· != a))).map (a :: ·)
theorem arr_mem : ∀ (f : Nat) (av l : List Nat), l.length ≤ f → l.Nodup → (∀ x ∈ l, x ∈ av) → l ∈ arr f av
  | 0, av, l, h, _, _ => by
    have : l = [] := List.eq_nil_of_length_eq_zero (Nat.le_zero.mp h)
    subst this; exact .head _
  | f + 1, av, [], _, _, _ => .head _
  | f + 1, av, a :: r, h, hn, hs => by
    refine .tail _ (List.mem_flatMap.mpr ⟨a, hs a (.head _), List.mem_map.mpr ⟨r, ?_, rfl⟩⟩)
    have hn' := List.nodup_cons.mp hn
    refine arr_mem f _ r (Nat.le_of_succ_le_succ h) hn'.2 fun x hx => List.mem_filter.mpr ⟨hs x (.tail _ hx), ?_⟩
    have : x ≠ a := by rintro rfl; exact hn'.1 hx
    simpa using this
noncomputable def ofLen (n : Nat) : List (List Nat) := (arr n (List.range 6)).filter fun l => Nat.beq l.length n
theorem ofLen_mem {l : List Nat} (hn : l.Nodup) (h : ∀ x ∈ l, x < 6) : l ∈ ofLen l.length := List.mem_filter.mpr ⟨arr_mem _ _ _ (Nat.le_refl _) hn fun x hx => List.mem_range.mpr (h x hx), Nat.beq_refl _⟩
set_option maxRecDepth 1000000 in
theorem sorts_all : ((List.range 5).all fun i => chk (i + 2) (kas_sort (i + 2)) (ofLen (i + 2))) = true := by decide +kernel
theorem sorts_at {n : Nat} (h2 : 2 ≤ n) (h6 : n ≤ 6) : chk n (kas_sort n) (ofLen n) = true := by
  have := List.all_eq_true.mp sorts_all (n - 2) (List.mem_range.mpr (Nat.sub_lt_sub_right h2 (Nat.lt_succ_of_le h6)))
  rwa [Nat.sub_add_cancel h2] at this
end Tab

namespace Tab
noncomputable def bnm (i : Nat) : Str := [Str.ofString "A", Str.ofString "C", Str.ofString "E", Str.ofString "M", Str.ofString "R", Str.ofString "T"].getD i (Str.ofString "")
theorem bnm_lt : ∀ i < 6, ∀ j < 6, decide ((bnm i).cps.toList < (bnm j).cps.toList) = Nat.blt i j := by decide +kernel
theorem bnm_inj : ∀ i < 6, ∀ j < 6, bnm i = bnm j → i = j := by decide +kernel
noncomputable def srt (l : List Nat) : List Nat := (List.range 6).filter l.contains

section
variable {prog : Program} {w : World} {A : Around} {E : Value → Shared → Prop} {s : Shared} {h₀ : Heap} {L : Addr} {m : Str → Option Value} {news : List (Addr × Obj)}

theorem Keys.get {h : Heap} {vs : List Value} {nms : List Str} (k : Keys prog w h vs nms) {i : Nat} (hi : i < nms.length) : ∃ a, vs.getD i Value.none = .ref a ∧ Key prog w h nms[i] a := by
  induction k generalizing i with
  | nil => exact absurd hi (Nat.not_lt_zero _)
  | @cons a nm vs nms ka _ ih =>
    cases i with
    | zero => exact ⟨a, rfl, ka⟩
    | succ i => exact ih (Nat.lt_of_succ_lt_succ hi)
theorem key_lt {vs : List Value} {l : List Nat} (k : Keys prog w s.heap vs (l.map bnm)) (h6 : ∀ x ∈ l, x < 6) {i j : Nat} {C : Bool → Shared → Prop} (hi : i < l.length) (hj : j < l.length) (h : C (Nat.blt (l.getD i 0) (l.getD j 0)) s) :
    kas_ask prog w A (tuples' true) vs i j C s := by
  unfold kas_ask
  obtain ⟨a, ea, ka⟩ := k.get (i := i) (by rw [List.length_map]; exact hi)
  obtain ⟨b, eb, kb⟩ := k.get (i := j) (by rw [List.length_map]; exact hj)
  rw [ea, eb]
  obtain ⟨o, n, t, ho, hc, hd⟩ := key_items ka
  obtain ⟨o', n', t', ho', hc', hd'⟩ := key_items kb
  have ei : (l.map bnm)[i]'(by rw [List.length_map]; exact hi) = bnm (l.getD i 0) := by simp [hi]
  have ej : (l.map bnm)[j]'(by rw [List.length_map]; exact hj) = bnm (l.getD j 0) := by simp [hj]
  have li : l.getD i 0 < 6 := by have : l.getD i 0 = l[i] := by simp [hi]
                                 rw [this]; exact h6 _ (List.getElem_mem hi)
  have lj : l.getD j 0 < 6 := by have : l.getD j 0 = l[j] := by simp [hj]
                                 rw [this]; exact h6 _ (List.getElem_mem hj)
  refine kat_lt ho hd ho' hd' ?_
  show KatLex prog w A true false C [(_, _)] 0 s
  refine kat_cons ?_
  refine eqBool_str ?_
  rw [ei, ej]
  by_cases he : l.getD i 0 = l.getD j 0
  · rw [he] at h ⊢
    rw [show (bnm (l.getD j 0) == bnm (l.getD j 0)) = true by simp]
    refine kat_yes (kat_nil ?_)
    have : Nat.blt (l.getD j 0) (l.getD j 0) = false := by
      rw [Bool.eq_false_iff]; intro q; rw [Nat.blt_eq] at q; exact Nat.lt_irrefl _ q
    rw [this] at h; exact h
  · rw [show (bnm (l.getD i 0) == bnm (l.getD j 0)) = false by
      rw [beq_eq_false_iff_ne]
      exact fun e => he (bnm_inj _ li _ lj e)]
    refine kat_no ?_
    show wpAny (model prog w) A (oneLt' true _ _) C _ s
    refine oneLt_str ?_
    rw [bnm_lt _ li _ lj]; exact h

theorem keys_kat {h : Heap} {vs : List Value} {nms : List Str} (k : Keys prog w h vs nms) : ∃ fs : List Value, KatTups h vs fs ∧ fs.length = nms.length ∧ ∀ v ∈ fs, ∃ x t, v = .str x t := by
  induction k with
  | nil => exact ⟨[], trivial, rfl, fun _ h => nomatch h⟩
  | @cons a nm vs nms ka _ ih =>
    obtain ⟨fs, h1, h2, h3⟩ := ih
    obtain ⟨o, n, t, ho, hc, hd⟩ := key_items ka
    refine ⟨.str nm t :: fs, ⟨⟨a, o, _, n, rfl, ho, hc, hd, rfl⟩, h1⟩, by simp [h2], fun v hv => ?_⟩
    rcases List.mem_cons.mp hv with rfl | hv
    · exact ⟨_, _, rfl⟩
    · exact h3 v hv

/-- the keys, by the ledger -/
inductive KIn (news : List (Addr × Obj)) : List Value → List Nat → Prop
  | nil : KIn news [] []
  | cons {a : Addr} {i : Nat} {t : Tok} {vs : List Value} {l : List Nat} : (a, tupO [.str (bnm i) t]) ∈ news → KIn news vs l → KIn news (.ref a :: vs) (i :: l)
theorem KIn.keys {h : Heap} {vs : List Value} {l : List Nat} (k : KIn news vs l) (N : News h₀ L h news) : Keys prog w h vs (l.map bnm) := by
  induction k with
  | nil => exact .nil
  | cons hm _ ih => exact .cons ⟨_, _, _, (N _ hm).1, rfl, rfl, .cons (strKind_is prog w _ _) .nil⟩ ih
theorem KIn.mono {news' : List (Addr × Obj)} (hs : ∀ p ∈ news, p ∈ news') {vs : List Value} {l : List Nat} (k : KIn news vs l) : KIn news' vs l := by
  induction k with
  | nil => exact .nil
  | cons hm _ ih => exact .cons (hs _ hm) ih
theorem KIn.len {vs : List Value} {l : List Nat} (k : KIn news vs l) : vs.length = l.length := by
  induction k with
  | nil => rfl
  | cons _ _ ih => simp [ih]
theorem KIn.perm {vs vs' : List Value} (p : vs.Perm vs') : ∀ {l : List Nat}, KIn news vs l → ∃ l', KIn news vs' l' ∧ l.Perm l' := by
  induction p with
  | nil => intro l k; exact ⟨l, k, .refl _⟩
  | cons x _ ih =>
    intro l k
    cases k with
    | cons hm r => obtain ⟨l', k', q⟩ := ih r; exact ⟨_, .cons hm k', q.cons _⟩
  | swap x y r =>
    intro l k
    cases k with
    | cons hm k' =>
      cases k' with
      | cons hm' r' => exact ⟨_, .cons hm' (.cons hm r'), List.Perm.swap _ _ _⟩
  | trans _ _ ih1 ih2 =>
    intro l k
    obtain ⟨l1, k1, q1⟩ := ih1 k
    obtain ⟨l2, k2, q2⟩ := ih2 k1
    exact ⟨l2, k2, q1.trans q2⟩
theorem KIn.get {vs : List Value} {l : List Nat} (k : KIn news vs l) {i : Nat} (hi : i < l.length) : ∃ a t, vs.getD i Value.none = .ref a ∧ (a, tupO [.str (bnm (l.getD i 0)) t]) ∈ news := by
  induction k generalizing i with
  | nil => exact absurd hi (Nat.not_lt_zero _)
  | cons hm _ ih =>
    cases i with
    | zero => exact ⟨_, _, rfl, hm⟩
    | succ i => exact ih (Nat.lt_of_succ_lt_succ hi)
theorem KIn.map {vs : List Value} {l : List Nat} (k : KIn news vs l) : ∀ p : List Nat, (∀ i ∈ p, i < l.length) → KIn news (p.map fun i => vs.getD i Value.none) (p.map (l.getD · 0)) := by
  intro p
  induction p with
  | nil => intro _; exact .nil
  | cons i r ih =>
    intro hp
    obtain ⟨a, t, e, hm⟩ := k.get (hp i (.head _))
    rw [List.map_cons, List.map_cons, e]
    exact .cons hm (ih fun j hj => hp j (.tail _ hj))

theorem srt_one {i : Nat} (h : i < 6) : srt [i] = [i] := by
  have : ∀ i < 6, srt [i] = [i] := by decide
  exact this i h

theorem sort_keys {a : Addr} {vs : List Value} {l : List Nat} {n : Nat} {P : PySem.Fin → Shared → Prop} (F : Fr h₀ L s.heap m) (N : News h₀ L s.heap news) (ho : s.heap.get? a = some (seqObj "list" vs.toArray n)) (haL : a ≠ L) (ha0 : h₀.get? a = none) (hna : ∀ p ∈ news, p.1 ≠ a)
    (k : KIn news vs l) (hnd : l.Nodup) (h6 : ∀ x ∈ l, x < 6) (hne : l ≠ [])
    (h : ∀ vs' c h', KIn news vs' (srt l) → Fr h₀ L h' m → News h₀ L h' ((a, PySem.W.listOf (List.toArray vs') c) :: news) → P (.done (.ret .none)) { s with heap := h' }) :
    wpAny (model prog w) A (Builtin.«list.sort» ⟨[.ref a], []⟩) P E s := by
  have hvl : vs.length = l.length := k.len
  have hl6 : l.length ≤ 6 := by
    have := nodup_len (l' := List.range 6) hnd fun x hx => List.mem_range.mpr (h6 x hx)
    simpa using this
  by_cases h2 : 2 ≤ vs.length
  · refine kat_list_sort F N ho haL ha0 hna h2 (by omega) fun e1 h' F' N' => ?_
    have N'' : News h₀ L h' news := fun p hp => N' p (.tail _ hp)
    have kk := k.keys (prog := prog) (w := w) N''
    obtain ⟨fs, t1, t2, t3⟩ := keys_kat kk
    refine kat_kind (s := { s with heap := h' }) (T := .type "str") t1 (by rw [t2, List.length_map]; omega) (fun v hv => ?_) (by decide) ?_
    · obtain ⟨x, t, rfl⟩ := t3 v hv
      exact Looks.of_pure rfl
    · have e0 : (Value.type "str" != Value.type "tuple") = true := by decide
      rw [e0, hvl]
      refine chk_wp (l := l) (fun i j C hi hj hC => key_lt (s := { s with heap := h' }) kk h6 hi hj hC) (fun p hb hp => ?_) _ _ (sorts_at (by omega) hl6) (ofLen_mem hnd h6)
      refine KasFin.intro F' N' (.head hna) fun h'' c F'' N3 => h _ c h'' ?_ F'' N3
      have := k.map p.toList hb
      rwa [hp] at this
  · have h1 : l.length = 1 := by
      have := List.length_pos_iff.mpr hne
      omega
    obtain ⟨i, rfl⟩ := List.length_eq_one_iff.mp h1
    obtain ⟨v, rfl⟩ := List.length_eq_one_iff.mp hvl
    have hsi : srt [i] = [i] := srt_one (h6 i (.head _))
    have s1 := Heap.SameBut.update s.heap a (Obj.mapSeq fun _ => (#[] : Array Value))
    obtain ⟨e1, ho1⟩ : ∃ e1, (s.heap.update a (Obj.mapSeq fun _ => (#[] : Array Value))).get? a = some (seqObj "list" #[] e1) := ⟨_, get?_update_seq ho fun _ => #[]⟩
    have k1 : ∀ b o, (s.heap.update a (Obj.mapSeq fun _ => (#[] : Array Value))).get? b = some o → (((s.heap.update a (Obj.mapSeq fun _ => (#[] : Array Value))).push (seqObj "tuple" (List.toArray [v]) 0)).push (seqObj "list" #[] 0)).get? b = some o := fun b o e => Heap.get?_push_of_some _ (Heap.get?_push_of_some _ e)
    rw [list_sort_plain]
    refine wpAny_bind (listItems_at ho rfl ?_)
    refine wpAny_bind (listUpdate_at ho rfl ?_ (by rw [List.size_toArray, sizeLine_eq]; simp) (Nat.zero_le _))
    refine wpAny_bind (seqEpoch_at ho1 rfl ?_)
    refine wpAny_bind (wpAny_newTuple ?_ (by rw [sizeLine_eq]; show 1 ≤ 16777216; decide))
    refine wpAny_bind (wpAny_newList ?_ (Nat.zero_le _))
    refine wpAny_holding ?_
    show wpAny (model prog w) A _ P E { s with heap := ((s.heap.update a (Obj.mapSeq fun _ => (#[] : Array Value))).push (seqObj "tuple" (List.toArray [v]) 0)).push (seqObj "list" #[] 0) }
    rw [if_pos (by simp), if_pos (by simp)]
    refine wpAny_bind (wpAny_pure ?_)
    refine wpAny_bind (wpAny_pure ?_)
    have ho2 := k1 _ _ ho1
    have s2 := Heap.SameBut.update (((s.heap.update a (Obj.mapSeq fun _ => (#[] : Array Value))).push (seqObj "tuple" (List.toArray [v]) 0)).push (seqObj "list" #[] 0)) a (Obj.mapSeq fun _ => List.toArray [v])
    obtain ⟨c2, hc2⟩ : ∃ c2, ((((s.heap.update a (Obj.mapSeq fun _ => (#[] : Array Value))).push (seqObj "tuple" (List.toArray [v]) 0)).push (seqObj "list" #[] 0)).update a (Obj.mapSeq fun _ => List.toArray [v])).get? a = some (seqObj "list" (List.toArray [v]) c2) := ⟨_, get?_update_seq ho2 fun _ => List.toArray [v]⟩
    refine wpAny_bind (seqEpoch_at ho2 rfl ?_)
    have esn : (arrOf (SortSt.mk' general' ((List.toArray [v]).zip (List.toArray [v])) #[] 7 none)).map (·.2) = List.toArray [v] := by
      show ((List.toArray [v]).zip (List.toArray [v])).map (·.2) = _
      simp
    have efl : failedOf (SortSt.mk' general' ((List.toArray [v]).zip (List.toArray [v])) #[] 7 none) = none := rfl
    show wpAny _ _ (Builtin.List.listUpdate (.ref a) (fun _ => (arrOf (SortSt.mk' general' ((List.toArray [v]).zip (List.toArray [v])) #[] 7 none)).map (·.2)) >>= _) _ _ _
    rw [esn]
    refine wpAny_bind (listUpdate_at ho2 rfl ?_ (Nat.zero_le _) (by rw [List.size_toArray, sizeLine_eq]; simp))
    rw [efl]
    simp only [bne_self_eq_false, Bool.false_eq_true, if_false]
    have F1 : Fr h₀ L (((s.heap.update a (Obj.mapSeq fun _ => (#[] : Array Value))).push (seqObj "tuple" (List.toArray [v]) 0)).push (seqObj "list" #[] 0)) m := ((kas_fr F s1 haL ha0).push _).push _
    have N1 : News h₀ L (((s.heap.update a (Obj.mapSeq fun _ => (#[] : Array Value))).push (seqObj "tuple" (List.toArray [v]) 0)).push (seqObj "list" #[] 0)) news := (kas_news N s1 hna).grown k1
    refine wpAny_pure (h [v] c2 _ (by rw [hsi]; exact k) (kas_fr F1 s2 haL ha0) fun p hp => ?_)
    rcases List.mem_cons.mp hp with rfl | hp
    · exact ⟨hc2, haL, ha0⟩
    · exact kas_news N1 s2 hna p hp

/-- sorted over a list of keys -/
theorem sorted_tail {out : List Value} {l : List Nat} {P : PySem.Fin → Shared → Prop} (F : Fr h₀ L s.heap m) (N : News h₀ L s.heap news) (k : KIn news out l) (hnd : l.Nodup) (h6 : ∀ x ∈ l, x < 6) (hne : l ≠ [])
    (h : ∀ D vs' c h', KIn news vs' (srt l) → Fr h₀ L h' m → News h₀ L h' ((D, PySem.W.listOf (List.toArray vs') c) :: news) → (∀ q ∈ news, q.1 < D) → P (.done (.ret (.ref D))) { s with heap := h' }) :
    wpAny (model prog w) A (newList out >>= fun l => holding [l] (call (.builtin "list.sort") [l] []) >>= fun _ => ret l) P E s := by
  have hl6 : l.length ≤ 6 := by
    have := nodup_len (l' := List.range 6) hnd fun x hx => List.mem_range.mpr (h6 x hx)
    simpa using this
  refine wpAny_bind (wpAny_newList ?_ (by rw [k.len, sizeLine_eq]; omega))
  have hLlt : L < s.heap.objs.size := F.ns.lt
  have ho : (s.heap.push (seqObj "list" out.toArray 0)).get? s.heap.objs.size = some (seqObj "list" out.toArray 0) := Heap.get?_push_size _ rfl
  have lt : ∀ q ∈ news, q.1 < s.heap.objs.size := fun q hq => Heap.lt_size (N q hq).1
  refine wpAny_bind (wpAny_holding (wpAny_call_entry (s := { s with heap := s.heap.push (seqObj "list" out.toArray 0) }) slot_list_sort ⟨_, ho, rfl⟩ entry_list_sort ?_ (args_list_sort _)))
  refine sort_keys (s := { s with heap := s.heap.push (seqObj "list" out.toArray 0) }) (F.push _) (N.grown fun b o e => Heap.get?_push_of_some _ e) ho (Nat.ne_of_gt hLlt) ?_ (fun p hp => Nat.ne_of_lt (lt p hp)) k hnd h6 hne fun vs' c h' k' F' N' => ?_
  · cases q : h₀.get? s.heap.objs.size with
    | none => rfl
    | some o => exact absurd (Heap.lt_size (F.keep _ _ q)) (Nat.lt_irrefl _)
  · exact ⟨_, rfl, wpAny_pure (h _ vs' c h' k' F' N' lt)⟩
end
end Tab

section
open Tab
variable {prog : Program} {w : World} {A : Around} {E : Value → Shared → Prop} {s : Shared} {h₀ : Heap} {L : Addr} {m : Str → Option Value} {news : List (Addr × Obj)}

theorem bnm_map_nodup {l : List Nat} (hnd : l.Nodup) (h6 : ∀ x ∈ l, x < 6) : (l.map bnm).Nodup := by
  induction l with
  | nil => exact .nil
  | cons a r ih =>
    have hn := List.nodup_cons.mp hnd
    rw [List.map_cons, List.nodup_cons]
    refine ⟨fun hm => ?_, ih hn.2 fun x hx => h6 x (.tail _ hx)⟩
    obtain ⟨b, hb, e⟩ := List.mem_map.mp hm
    have := bnm_inj b (h6 b (.tail _ hb)) a (h6 a (.head _)) e
    exact hn.1 (this ▸ hb)
theorem len6 {l : List Nat} (hnd : l.Nodup) (h6 : ∀ x ∈ l, x < 6) : l.length ≤ 6 := by
  have := nodup_len (l' := List.range 6) hnd fun x hx => List.mem_range.mpr (h6 x hx)
  simpa using this

theorem set_M {lst : Addr} {vs : List Value} {n : Nat} {l : List Nat} {Q : Value → Shared → Prop} (hu : A.units + 16 < cLine) (hh : A.handled = none) (F : Fr h₀ L s.heap m) (N : News h₀ L s.heap news) (hl : (lst, PySem.W.listOf (List.toArray vs) n) ∈ news) (k : KIn news vs l) (hnd : l.Nodup) (h6 : ∀ x ∈ l, x < 6)
    (h : ∀ S h' tk, Fr h₀ L h' m → News h₀ L h' news → Filled prog w S h' vs (l.map bnm) → Q (.ref S) { s with heap := h', toks := tk }) :
    wpAny (model prog w) A (call (.type "set") [.ref lst]) Q E s :=
  set_call hu hh ⟨_, (N _ hl).1, rfl, _, rfl⟩ (k.keys N) (bnm_map_nodup hnd h6) (by rw [k.len]; exact len6 hnd h6) fun h' tk hF hk => h _ h' tk (F.keeps hk) (N.grown hk) hF

theorem sorted_set_M {S : Addr} {vs : List Value} {l : List Nat} {Q : Value → Shared → Prop} (hu : A.units + 16 < cLine) (hh : A.handled = none) (F : Fr h₀ L s.heap m) (N : News h₀ L s.heap news) (hF : Filled prog w S s.heap vs (l.map bnm)) (k : KIn news vs l) (hnd : l.Nodup) (h6 : ∀ x ∈ l, x < 6) (hne : l ≠ [])
    (h : ∀ D vs' c h' d, KIn news vs' (srt l) → Fr h₀ L h' m → News h₀ L h' ((D, PySem.W.listOf (List.toArray vs') c) :: news) → (∀ q ∈ news, q.1 < D) → Q (.ref D) { s with heap := h', drawn := d }) :
    wpAny (model prog w) A (call (.builtin "sorted") [.ref S]) Q E s := by
  refine Calls.call_function_entry kind_sorted plain_sorted entry_sorted (args_sorted1 _) ?_
  unfold Builtin.«sorted»
  refine wpAny_bind (m := checkCount "sorted" 1 1 _) (wpAny_pure ?_)
  have hvne : vs ≠ [] := by
    intro e
    have := k.len
    rw [e] at this
    exact hne (List.eq_nil_of_length_eq_zero this.symm)
  refine wpAny_bind (collect_set (by simp only [Around.in1_units]; omega) (by exact hh) hF hvne (by rw [k.len]; exact len6 hnd h6) fun out h' d hp hk => ?_)
  obtain ⟨l', k', hpl⟩ := k.perm hp.symm
  have e : srt l' = srt l := by
    unfold srt
    congr 1
    funext x
    have := hpl.mem_iff (a := x)
    rw [Bool.eq_iff_iff]
    simp [this]
  refine sorted_tail (s := { s with heap := h', drawn := d }) (F.keeps hk) (N.grown hk) k' (hpl.nodup_iff.mp hnd) (fun x hx => h6 x (hpl.mem_iff.mpr hx)) (fun q => hne (by
    have := hpl.length_eq
    rw [q] at this
    exact List.eq_nil_of_length_eq_zero this)) fun D vs' c h'' k'' F' N' lt => ?_
  exact ⟨_, rfl, h D vs' c h'' d (e ▸ k'') F' N' lt⟩

theorem sorted_list_M {lst : Addr} {vs : List Value} {n : Nat} {l : List Nat} {Q : Value → Shared → Prop} (F : Fr h₀ L s.heap m) (N : News h₀ L s.heap news) (hl : (lst, PySem.W.listOf (List.toArray vs) n) ∈ news) (k : KIn news vs l) (hnd : l.Nodup) (h6 : ∀ x ∈ l, x < 6) (hne : l ≠ [])
    (h : ∀ D vs' c h', KIn news vs' (srt l) → Fr h₀ L h' m → News h₀ L h' ((D, PySem.W.listOf (List.toArray vs') c) :: news) → (∀ q ∈ news, q.1 < D) → Q (.ref D) { s with heap := h' }) :
    wpAny (model prog w) A (call (.builtin "sorted") [.ref lst]) Q E s := by
  refine Calls.call_function_entry kind_sorted plain_sorted entry_sorted (args_sorted1 _) ?_
  unfold Builtin.«sorted»
  refine wpAny_bind (m := checkCount "sorted" 1 1 _) (wpAny_pure ?_)
  have hls : s.heap.IsList lst (List.toArray vs) := ⟨_, (N _ hl).1, rfl, _, rfl⟩
  have hsz : vs.length ≤ sizeLine := by rw [k.len, sizeLine_eq]; have := len6 hnd h6; omega
  refine wpAny_bind (collect_list hls ?_ hsz)
  have keep : ∀ b o, s.heap.get? b = some o → ((s.heap.push (seqObj "list" #[] 0)).update s.heap.objs.size (Obj.mapSeq (· ++ List.toArray vs))).get? b = some o := fun b o e => by
    rw [Heap.get?_update_ne _ _ _ _ (Nat.ne_of_lt (Heap.lt_size e))]
    exact Heap.get?_push_of_some _ e
  refine sorted_tail (s := { s with heap := _ }) (F.keeps keep) (N.grown keep) k hnd h6 hne fun D vs' c h'' k'' F' N' lt => ?_
  exact ⟨_, rfl, h D vs' c h'' k'' F' N' lt⟩
end

section
variable {prog : Program} {w : World} {A : Around} {E : Value → Shared → Prop} {s : Shared} {env : Env} {h₀ : Heap} {L : Addr} {m : Str → Option Value}

noncomputable def LcEnd (h₀ : Heap) (L : Addr) (m : Str → Option Value) (Jn : List (Addr × Obj) → Prop) (own : List (Addr × Obj)) (s₁ s₂ : Shared) : Prop :=
  ∃ h' tk nx' news', s₂ = { s₁ with heap := h', toks := tk } ∧ Fr h₀ L h' m ∧ News h₀ L h' news' ∧ (∀ p ∈ nx', p ∈ news') ∧ (∀ p ∈ own, p ∈ news') ∧ OwnOff own (nx'.map (·.1)) ∧ Jn nx'
theorem LcEnd.intro {Jn : List (Addr × Obj) → Prop} {own nx' news' : List (Addr × Obj)} {s₁ : Shared} {h' : Heap} {tk : Nat} (F : Fr h₀ L h' m) (N : News h₀ L h' news') (hj : Jn nx') (ha : OwnOff own (nx'.map (·.1))) (hn : ∀ p ∈ nx', p ∈ news') (ho : ∀ p ∈ own, p ∈ news') :
    LcEnd h₀ L m Jn own s₁ { s₁ with heap := h', toks := tk } := ⟨h', tk, nx', news', rfl, F, N, hn, ho, ha, hj⟩

/-- what a turn has to do once the test is met -/
noncomputable def LcGo (prog : Program) (w : World) (A : Around) (h₀ : Heap) (L : Addr) (m : Str → Option Value) (cenv : Env) (elt : PySem.Expr) (J : List Value → List (Addr × Obj) → Prop) (ys : List Value) (own : List (Addr × Obj)) (s₂ : Shared) (E' : Value → Shared → Prop) (ok : Bool) (s₃ : Shared) : Prop :=
  if ok = true then wpAny (model prog w) A (eval elt cenv) (fun y s₄ => LcEnd h₀ L m (J (ys ++ [y])) own s₂ s₄) E' s₃ else LcEnd h₀ L m (J ys) own s₂ s₃
noncomputable def LcTest (prog : Program) (w : World) (A : Around) (h₀ : Heap) (L : Addr) (m : Str → Option Value) (cenv : Env) (elt : PySem.Expr) (J : List Value → List (Addr × Obj) → Prop) (ys : List Value) (own : List (Addr × Obj)) (s₂ : Shared) (E' : Value → Shared → Prop) (ifs : List PySem.Expr) : Prop :=
  match ifs with
  | [] => LcGo prog w A h₀ L m cenv elt J ys own s₂ E' true s₂
  | c :: _ => wpAny (model prog w) A (isTrue c cenv (eval c cenv)) (LcGo prog w A h₀ L m cenv elt J ys own s₂ E') E' s₂

noncomputable def LcTurn (prog : Program) (w : World) (A : Around) (h₀ : Heap) (L : Addr) (env : Env) (m : Str → Option Value) (scope : Scope) (cl : List (Str × Addr)) (x : Str) (ifs : List PySem.Expr) (elt : PySem.Expr) (n : Nat) (P : Nat → Value → Prop) (J : Nat → List Value → List (Addr × Obj) → Prop) (s₂ : Shared) : Prop :=
  ∀ i v ys nx own C m₂ h tk E', i < n → P i v → J i ys nx → OwnOff own (nx.map (·.1)) → m₂ x = some v → Fr h₀ L h m → Fr h₀ C h m₂ → (∀ h' nx', News h₀ L h' nx' → (∀ p ∈ own, p ∈ nx') → (∀ b o, h₀.get? b = some o → h'.get? b = some o) → Fr h₀ C h' m₂) → News h₀ L h (nx ++ own) →
    LcTest prog w A h₀ L m (compEnvC scope cl C env) elt (J (i + 1)) ys own { s₂ with heap := h, toks := tk } E' ifs

noncomputable def LcAt (prog : Program) (w : World) (A : Around) (h₀ : Heap) (L : Addr) (env : Env) (m : Str → Option Value) (scope : Scope) (cl : List (Str × Addr)) (x : Str) (ifs : List PySem.Expr) (elt : PySem.Expr) (md : Addr → Str → Option Value) (Q : Addr → Shared → Prop) (it : Value) (s₂ : Shared) : Prop :=
  ∃ (I : Addr) (fp : List Addr) (n : Nat) (P : Nat → Value → Prop) (St : Nat → Heap → Prop) (src news : List (Addr × Obj)) (J : Nat → List Value → List (Addr × Obj) → Prop),
    it = .ref I ∧ Walks prog w A I fp [I] n P St ∧ (∀ b ∈ fp, b = I ∨ (∃ o, h₀.get? b = some o) ∨ ∃ o, (b, o) ∈ src) ∧ (∀ i h, St i h → ∃ o, h.get? I = some o) ∧ n ≤ 1000 ∧ St 0 s₂.heap ∧ h₀.get? I = none ∧ L ≠ I ∧
    Fr h₀ L s₂.heap m ∧ News h₀ L s₂.heap news ∧ (∀ p ∈ news, p.1 ≠ I) ∧ J 0 [] news ∧ (∀ i ys nx, J i ys nx → ∀ p ∈ src, p ∈ nx) ∧ (∀ i ys nx, J i ys nx → ys.length ≤ i) ∧
    LcTurn prog w A h₀ L env m scope cl x ifs elt n P J s₂ ∧
    ∀ ys nx D k h tk, J n ys nx → Fr h₀ L h (md D) → News h₀ L h ((D, PySem.W.listOf (List.toArray ys) k) :: nx) → (∀ p ∈ nx, p.1 ≠ D) → Q D { s₂ with heap := h, toks := tk }

theorem lc_ns {h h' : Heap} {C : Addr} {m₂ : Str → Option Value} {o : Obj} (hn : Fr h₀ C h m₂) (ho : h.get? C = some o) (ho' : h'.get? C = some o) (hk : ∀ b o, h₀.get? b = some o → h'.get? b = some o) : Fr h₀ C h' m₂ := by
  obtain ⟨⟨o₁, es, ep, e1, e2⟩, _, ab⟩ := hn
  rw [ho] at e1; cases e1
  exact ⟨⟨o, es, ep, ho', e2⟩, hk, ab⟩

theorem lc_tests {elt : PySem.Expr} {cenv : Env} {ifs : List PySem.Expr} {J : List Value → List (Addr × Obj) → Prop} {ys : List Value} {own : List (Addr × Obj)} {s₂ : Shared} {E' : Value → Shared → Prop} (hl : ifs.length ≤ 1)
    (h : LcTest prog w A h₀ L m cenv elt J ys own s₂ E' ifs) :
    wpAny (model prog w) A (forIn ifs true fun c r => if r = true then do let ok ← isTrue c cenv (eval c cenv); pure (ForInStep.yield ok) else pure (ForInStep.yield r)) (LcGo prog w A h₀ L m cenv elt J ys own s₂ E') E' s₂ := by
  match ifs, hl, h with
  | [], _, h => rw [List.forIn_nil]; exact wpAny_pure h
  | [c], _, h =>
    rw [List.forIn_cons]
    refine wpAny_bind ?_
    rw [if_pos rfl]
    refine wpAny_bind (wpAny_mono (show wpAny (model prog w) A (isTrue c cenv (eval c cenv)) (LcGo prog w A h₀ L m cenv elt J ys own s₂ E') E' s₂ from h) (fun ok s₃ h₃ => ?_) fun _ _ e => e)
    refine wpAny_pure ?_
    dsimp only
    rw [List.forIn_nil]
    exact wpAny_pure h₃

/-- what stands between the turns of a comprehension -/
inductive LcInv (h₀ : Heap) (L C D I : Addr) (m : Str → Option Value) (n : Nat) (St : Nat → Heap → Prop) (J : Nat → List Value → List (Addr × Obj) → Prop) (s₂ : Shared) : Nat → Shared → Prop
  | mk (i : Nat) (ys : List Value) (nx : List (Addr × Obj)) (m₁ : Str → Option Value) (e : Nat) (h : Heap) (tk : Nat) (hi : i ≤ n) (hst : St i h) (hJ : J i ys nx) (F : Fr h₀ L h m) (FC : Fr h₀ C h m₁) (N : News h₀ L h ((D, PySem.W.listOf (List.toArray ys) e) :: nx)) (hn : ∀ p ∈ nx, p.1 ≠ D ∧ p.1 ≠ C ∧ p.1 ≠ I) : LcInv h₀ L C D I m n St J s₂ (n + 1 - i) { s₂ with heap := h, toks := tk }
theorem lc_loop {elt iter : PySem.Expr} {x : Str} {px : Pos} {ifs : List PySem.Expr} {scope : Scope} {cl : List (Str × Addr)} {pos : Pos} {I C D : Addr} {fp : List Addr} {n : Nat} {P : Nat → Value → Prop} {St : Nat → Heap → Prop} {src news : List (Addr × Obj)} {J : Nat → List Value → List (Addr × Obj) → Prop} {R : Result → Shared → Prop} {m₀ : Str → Option Value} {s₂ : Shared}
    (W : Walks prog w A I fp [I] n P St) (hfp : ∀ b ∈ fp, b = I ∨ (∃ o, h₀.get? b = some o) ∨ ∃ o, (b, o) ∈ src) (hSI : ∀ i h, St i h → ∃ o, h.get? I = some o) (hsz : n ≤ 1000) (hl : ifs.length ≤ 1)
    (hst : St 0 s.heap) (hI0 : h₀.get? I = none) (hC0 : h₀.get? C = none) (hD0 : h₀.get? D = none) (hDC : D ≠ C) (hDI : D ≠ I) (hCI : C ≠ I) (hLC : L ≠ C) (hLD : L ≠ D) (hLI : L ≠ I)
    (F : Fr h₀ L s.heap m) (FC : Fr h₀ C s.heap m₀) (N : News h₀ L s.heap ((D, PySem.W.listOf (List.toArray []) 0) :: news)) (hne : ∀ p ∈ news, p.1 ≠ D ∧ p.1 ≠ C ∧ p.1 ≠ I)
    (hj : J 0 [] news) (hsrc : ∀ i ys nx, J i ys nx → ∀ p ∈ src, p ∈ nx) (hlen : ∀ i ys nx, J i ys nx → ys.length ≤ i)
    (hs₂ : s = { s₂ with heap := s.heap, toks := s.toks })
    (turn : LcTurn prog w A h₀ L env m scope cl x ifs elt n P J s₂)
    (hx : scope.names.lookup x = some .local) (hkind : scope.kind = .function)
    (hR : ∀ ys nx k h tk m₁, J n ys nx → Fr h₀ L h m → Fr h₀ C h m₁ → News h₀ L h ((D, PySem.W.listOf (List.toArray ys) k) :: nx) → (∀ p ∈ nx, p.1 ≠ D ∧ p.1 ≠ C) → R (.ok .next) { s₂ with heap := h, toks := tk }) :
    codeAny (model prog w) A (.compLoop (.ListComp elt [⟨.Name x px, iter, ifs, 0⟩] scope pos) 0 (.ref I) (.ref D) (compEnvC scope cl C env)) R s := by
  refine codeAny_compLoop_tests
    (LcInv h₀ L C D I m n St J s₂) ?_ (n + 1)
    (by rw [hs₂]; exact .mk 0 [] news m₀ 0 s.heap s.toks (Nat.zero_le _) hst hj F FC N hne)
  rintro _ _ ⟨i, ys, nx, m₁, e, h, tk, hi, hst', hJ, F₁, FC₁, N₁, hn₁⟩
  by_cases hlt : i < n
  · refine W.item i _ _ _ hlt hst' fun v h₁ tk₁ hPv hst₁ hk₁ => ?_
    have keep0 : ∀ b o, h₀.get? b = some o → h₁.get? b = some o := fun b o q => hk₁ b o (by intro hm; rw [List.mem_singleton.mp hm, hI0] at q; cases q) (F₁.keep b o q)
    obtain ⟨oL, esL, epL, eL, rL⟩ := id F₁.ns
    obtain ⟨oC, esC, epC, eC, rC⟩ := id FC₁.ns
    have eL₁ : h₁.get? L = some oL := hk₁ _ _ (by intro hm; exact hLI (List.mem_singleton.mp hm)) eL
    have eC₁ : h₁.get? C = some oC := hk₁ _ _ (by intro hm; exact hCI (List.mem_singleton.mp hm)) eC
    have hx' : (compEnvC scope cl C env).kindOf x = some .local := lookup_relabel_local hx
    have hp' : ((compEnvC scope cl C env).scope.kind == .class || ((compEnvC scope cl C env).scope.kind == .module && (compEnvC scope cl C env).locals != (compEnvC scope cl C env).globals)) = false := by simp [compEnvC, relabel, hkind]
    have hnC : h₁.Ns (compEnvC scope cl C env).locals m₁ := ⟨oC, esC, epC, eC₁, rC⟩
    refine wpAny_assign_Name (wpAny_storeName_local hx' hnC (fun h₂ hn₂ hs₂' => ?_) hp')
    have hs₂ : Heap.SameBut C h₁ h₂ := hs₂'
    have keep2 : ∀ b o, h₀.get? b = some o → h₂.get? b = some o := fun b o q => (hs₂.2 b (by rintro rfl; rw [hC0] at q; cases q)).trans (keep0 b o q)
    have eL₂ : h₂.get? L = some oL := (hs₂.2 _ hLC).trans eL₁
    have hst₂ : St (i + 1) h₂ := W.frame _ _ _ hst₁ fun b hb o q => (hs₂.2 b (by
      rintro rfl
      rcases hfp b hb with r | ⟨o', r⟩ | ⟨o', r⟩
      · exact hCI r
      · rw [hC0] at r; cases r
      · exact (hn₁ _ (hsrc _ _ _ hJ _ r)).2.1 rfl)).trans q
    obtain ⟨oI, eI⟩ := hSI _ _ hst₂
    obtain ⟨oC₂, esC₂, epC₂, eC₂, rC₂⟩ := id hn₂
    have eC₂ : h₂.get? C = some oC₂ := eC₂
    have hD₁ := N₁ _ (.head _)
    have eD₂ : h₂.get? D = some (PySem.W.listOf (List.toArray ys) e) := (hs₂.2 _ hDC).trans (hk₁ _ _ (by intro hm; exact hDI (List.mem_singleton.mp hm)) hD₁.1)
    have F₂ : Fr h₀ L h₂ m := ⟨⟨oL, esL, epL, eL₂, rL⟩, keep2, F₁.above⟩
    have FC₂ : Fr h₀ C h₂ (fun y => if y = x then some v else m₁ y) := ⟨⟨oC₂, esC₂, epC₂, eC₂, rC₂⟩, keep2, FC₁.above⟩
    have N₂ : News h₀ L h₂ (nx ++ [(D, PySem.W.listOf (List.toArray ys) e), (C, oC₂), (I, oI)]) := fun p hp => by
      rcases List.mem_append.mp hp with hp | hp
      · have z := N₁ p (.tail _ hp); have z' := hn₁ p hp
        exact ⟨(hs₂.2 _ z'.2.1).trans (hk₁ _ _ (by intro hm; exact z'.2.2 (List.mem_singleton.mp hm)) z.1), z.2⟩
      · rcases of_mem3 hp with rfl | rfl | rfl
        · exact ⟨eD₂, Ne.symm hLD, hD0⟩
        · exact ⟨eC₂, Ne.symm hLC, hC0⟩
        · exact ⟨eI, Ne.symm hLI, hI0⟩
    have off : OwnOff [(D, PySem.W.listOf (List.toArray ys) e), (C, oC₂), (I, oI)] (nx.map (·.1)) := by
      intro p hp b hb
      obtain ⟨q, hq, rfl⟩ := List.mem_map.mp hb
      have z := hn₁ q hq
      rcases of_mem3 hp with rfl | rfl | rfl
      · exact Ne.symm z.1
      · exact Ne.symm z.2.1
      · exact Ne.symm z.2.2
    -- what stands behind the turn
    have back : ∀ (ys' : List Value) (s₃ : Shared), ys' = ys ∨ (∃ y, ys' = ys ++ [y]) → LcEnd h₀ L m (J (i + 1) ys') [(D, PySem.W.listOf (List.toArray ys) e), (C, oC₂), (I, oI)] { s₂ with heap := h₂, toks := tk₁ + 1 } s₃ →
        ∃ h₃ tk₃ nx', s₃ = { s₂ with heap := h₃, toks := tk₃ } ∧ J (i + 1) ys' nx' ∧ St (i + 1) h₃ ∧ Fr h₀ L h₃ m ∧ Fr h₀ C h₃ (fun y => if y = x then some v else m₁ y) ∧ News h₀ L h₃ ((D, PySem.W.listOf (List.toArray ys) e) :: nx') ∧ ∀ p ∈ nx', p.1 ≠ D ∧ p.1 ≠ C ∧ p.1 ≠ I := by
      rintro ys' s₃ _ ⟨h₃, tk₃, nx', news', rfl, F₃, N₃, hin, hown, hoff, hJ'⟩
      have o1 := N₃ _ (hown _ (.head _))
      have o2 := N₃ _ (hown _ (.tail _ (.head _)))
      have o3 := N₃ _ (hown _ (.tail _ (.tail _ (.head _))))
      have hnx : ∀ p ∈ nx', p.1 ≠ D ∧ p.1 ≠ C ∧ p.1 ≠ I := fun p hp =>
        have hm := List.mem_map_of_mem (f := (·.1)) hp
        ⟨Ne.symm (hoff _ (.head _) _ hm), Ne.symm (hoff _ (.tail _ (.head _)) _ hm), Ne.symm (hoff _ (.tail _ (.tail _ (.head _))) _ hm)⟩
      refine ⟨h₃, tk₃, nx', rfl, hJ', W.frame _ _ _ hst₂ fun b hb o q => ?_, F₃, lc_ns FC₂ eC₂ o2.1 F₃.keep, fun p hp => ?_, hnx⟩
      · rcases hfp b hb with rfl | ⟨o', r⟩ | ⟨o', r⟩
        · rw [eI] at q; cases q; exact o3.1
        · rw [keep2 _ _ r] at q; cases q; exact F₃.keep _ _ r
        · have z := N₂ _ (List.mem_append_left _ (hsrc _ _ _ hJ _ r))
          rw [z.1] at q; cases q
          exact (N₃ _ (hin _ (hsrc _ _ _ hJ' _ r))).1
      · rcases List.mem_cons.mp hp with rfl | hp
        · exact o1
        · exact N₃ _ (hin _ hp)
    have T := turn i v ys nx _ C _ h₂ (tk₁ + 1) (notedBy (model prog w) A (compEnvC scope cl C env) fun e s' => R (.error e) s') hlt hPv hJ off (if_pos rfl) F₂ FC₂ (fun h' nx' N' ho hk => lc_ns FC₂ eC₂ (N' _ (ho _ (.tail _ (.head _)))).1 hk) N₂
    refine wpAny_mono (lc_tests hl T) (fun ok s₃ h₃ => ?_) fun _ _ q => q
    unfold LcGo at h₃
    cases ok with
    | false =>
      simp only [Bool.false_eq_true, if_false] at h₃ ⊢
      obtain ⟨h₄, tk₄, nx', rfl, hJ', hst₄, F₄, FC₄, N₄, hn₄⟩ := back _ _ (.inl rfl) h₃
      exact ⟨n + 1 - (i + 1), by omega, .mk (i + 1) ys nx' _ e h₄ tk₄ hlt hst₄ hJ' F₄ FC₄ N₄ hn₄⟩
    | true =>
      simp only [if_true] at h₃ ⊢
      refine wpAny_mono h₃ (fun y s₄ h₄ => ?_) fun _ _ q => q
      obtain ⟨h₄, tk₄, nx', rfl, hJ', hst₄, F₄, FC₄, N₄, hn₄⟩ := back _ _ (.inr ⟨y, rfl⟩) h₄
      have hys : ys.length ≤ 1000 := Nat.le_trans (hlen _ _ _ hJ) (Nat.le_trans hi hsz)
      refine append_at (hsz := by rw [List.size_toArray, sizeLine_eq]; omega) (N₄ _ (.head _)).1 fun h₅ hs₅ ho₅ => ?_
      have e9 : (List.toArray ys).push y = List.toArray (ys ++ [y]) := by simp
      rw [e9] at ho₅
      obtain ⟨oC₄, esC₄, epC₄, eC₄, rC₄⟩ := id FC₄.ns
      have hD0' := (N₄ _ (.head _)).2.2
      refine ⟨n + 1 - (i + 1), by omega, .mk (i + 1) (ys ++ [y]) nx' (fun z => if z = x then some v else m₁ z) (e + 1) h₅ tk₄ hlt ?_ hJ' (F₄.change hs₅ (Ne.symm hLD) hD0') ?_ (fun p hp => ?_) hn₄⟩
      · refine W.frame _ _ _ hst₄ fun b hb o q => (hs₅.2 b ?_).trans q
        rintro rfl
        rcases hfp b hb with r | ⟨o', r⟩ | ⟨o', r⟩
        · exact hDI r
        · rw [hD0] at r; cases r
        · exact (hn₄ _ (hsrc _ _ _ hJ' _ r)).1 rfl
      · exact FC₄.change hs₅ hDC hD0'
      · rcases List.mem_cons.mp hp with rfl | hp
        · exact ⟨ho₅, (N₄ _ (.head _)).2⟩
        · exact ⟨(hs₅.2 _ (hn₄ p hp).1).trans (N₄ _ (.tail _ hp)).1, (N₄ _ (.tail _ hp)).2⟩
  · have hin : i = n := by omega
    subst hin
    refine W.done _ _ _ hst' fun h₁ tk₁ hk₁ => ?_
    have hk₁' : ∀ b o, b ≠ I → h.get? b = some o → h₁.get? b = some o := fun b o hb q => hk₁ b o (by intro hm; exact hb (List.mem_singleton.mp hm)) q
    have keep1 : ∀ b o, h₀.get? b = some o → h₁.get? b = some o := fun b o q => hk₁' b o (by rintro rfl; rw [hI0] at q; cases q) (F₁.keep b o q)
    obtain ⟨oL, esL, epL, eL, rL⟩ := id F₁.ns
    obtain ⟨oC, esC, epC, eC, rC⟩ := id FC₁.ns
    refine hR ys nx e h₁ tk₁ m₁ hJ ⟨⟨oL, esL, epL, hk₁' _ _ hLI eL, rL⟩, keep1, F₁.above⟩ ⟨⟨oC, esC, epC, hk₁' _ _ hCI eC, rC⟩, keep1, FC₁.above⟩ (fun p hp => ?_) fun p hp => ⟨(hn₁ p hp).1, (hn₁ p hp).2.1⟩
    rcases List.mem_cons.mp hp with rfl | hp
    · exact ⟨hk₁' _ _ hDI (N₁ _ (.head _)).1, (N₁ _ (.head _)).2⟩
    · exact ⟨hk₁' _ _ (hn₁ p hp).2.2 (N₁ _ (.tail _ hp)).1, (N₁ _ (.tail _ hp)).2⟩

theorem lc_block {elt iter : PySem.Expr} {x : Str} {px : Pos} {ifs : List PySem.Expr} {scope : Scope} {cl : List (Str × Addr)} {pos : Pos} {I : Addr} {fp : List Addr} {n : Nat} {P : Nat → Value → Prop} {St : Nat → Heap → Prop} {src news : List (Addr × Obj)} {J : Nat → List Value → List (Addr × Obj) → Prop} {s₂ : Shared} {RR : Value → Addr → Result → Shared → Prop}
    (W : Walks prog w A I fp [I] n P St) (hfp : ∀ b ∈ fp, b = I ∨ (∃ o, h₀.get? b = some o) ∨ ∃ o, (b, o) ∈ src) (hSI : ∀ i h, St i h → ∃ o, h.get? I = some o) (hsz : n ≤ 1000) (hl : ifs.length ≤ 1)
    (hst : St 0 s₂.heap) (hI0 : h₀.get? I = none) (F : Fr h₀ L s₂.heap m) (N : News h₀ L s₂.heap news) (hne : ∀ p ∈ news, p.1 ≠ I)
    (hj : J 0 [] news) (hsrc : ∀ i ys nx, J i ys nx → ∀ p ∈ src, p ∈ nx) (hlen : ∀ i ys nx, J i ys nx → ys.length ≤ i) (hLI : L ≠ I)
    (turn : LcTurn prog w A h₀ L env m scope cl x ifs elt n P J s₂) (hcell : ∀ y ∈ scope.names, y.2 ≠ .cell)
    (hx : scope.names.lookup x = some .local) (hkind : scope.kind = .function)
    (hRR : ∀ ys nx D C k h tk m₁, J n ys nx → D ≠ C → L ≠ C → L ≠ D → h₀.get? C = none → Fr h₀ L h m → Fr h₀ C h m₁ → News h₀ L h ((D, PySem.W.listOf (List.toArray ys) k) :: nx) → (∀ p ∈ nx, p.1 ≠ D ∧ p.1 ≠ C) → RR (.ref D) C (.ok .next) { s₂ with heap := h, toks := tk }) :
    wpAny (model prog w) A (newList []) (fun acc s₃ => wpAny (model prog w) A (newFunctionEnv scope env.globals cl [] env.qual none .none (some env)) (fun cenv s₄ =>
      codeAny (model prog w) A (.compStart (.ListComp elt [⟨.Name x px, iter, ifs, 0⟩] scope pos) 0 (.ref I) acc { cenv with scope := relabel scope env }) (RR acc cenv.locals) s₄) E s₃) E s₂ := by
  obtain ⟨oI, eI⟩ := hSI _ _ hst
  have hIlt : I < s₂.heap.objs.size := Heap.lt_size eI
  refine wpAny_newObj_type (wpAny_newFunctionEnv hcell (by intro y hy; simp at hy) (fun h₁ hns₁ hsb₁ => ?_) hkind)
  dsimp only at hns₁ hsb₁ ⊢
  generalize hH2 : s₂.heap.push { cls := .type "list", dict := none, data := .seq ([] : List Value).toArray } = H2 at hns₁ hsb₁ ⊢
  have hC : H2.objs.size = s₂.heap.objs.size + 1 := by rw [← hH2, Heap.size_push]
  have hDC : s₂.heap.objs.size ≠ H2.objs.size := by rw [hC]; exact Nat.ne_of_lt (Nat.lt_succ_self _)
  have below : ∀ b, b < s₂.heap.objs.size → b ≠ H2.objs.size ∧ b ≠ s₂.heap.objs.size := fun b hb => ⟨by rw [hC]; exact Nat.ne_of_lt (Nat.lt_succ_of_lt hb), Nat.ne_of_lt hb⟩
  have old : ∀ b o, s₂.heap.get? b = some o → h₁.get? b = some o := fun b o q => hsb₁.extBut b o (below b (Heap.lt_size q)).1 (Heap.get?_push_of_some _ (hH2 ▸ Heap.get?_push_of_some _ q))
  have hacc : h₁.get? s₂.heap.objs.size = some { cls := .type "list", dict := none, data := .seq ([] : List Value).toArray } := hsb₁.extBut _ _ hDC (Heap.get?_push_of_some _ (hH2 ▸ Heap.get?_push_size _ rfl))
  have hLlt : L < s₂.heap.objs.size := F.ns.lt
  have none0 : ∀ a, s₂.heap.objs.size ≤ a → h₀.get? a = none := fun a ha => by
    cases q : h₀.get? a with
    | none => rfl
    | some o' => exact absurd (Heap.lt_size (F.keep _ _ q)) (Nat.not_lt.mpr ha)
  have keep1 : ∀ b o, h₀.get? b = some o → h₁.get? b = some o := fun b o q => old b o (F.keep b o q)
  obtain ⟨oL, esL, epL, eL, rL⟩ := id F.ns
  have FC : Fr h₀ H2.objs.size h₁ _ := ⟨hns₁, keep1, by rw [hC]; exact Nat.le_succ_of_le (Nat.le_trans F.above (Nat.le_of_lt hLlt))⟩
  have loop : ∀ s₃ : Shared, s₃ = { s₂ with heap := h₁, toks := s₂.toks + ([] : List (Str × Value)).length } →
      codeAny (model prog w) A (.compLoop (.ListComp elt [⟨.Name x px, iter, ifs, 0⟩] scope pos) 0 (.ref I) (.ref s₂.heap.objs.size) (compEnvC scope cl H2.objs.size env))
        (RR (.ref s₂.heap.objs.size) H2.objs.size) s₃ := by
    rintro s₃ rfl
    refine lc_loop (s₂ := s₂) (C := H2.objs.size) W hfp hSI hsz hl (W.frame _ _ _ hst fun b _ o q => old b o q) hI0 (none0 _ (by rw [hC]; exact Nat.le_succ _)) (none0 _ (Nat.le_refl _)) hDC (Nat.ne_of_gt hIlt) (by rw [hC]; exact Nat.ne_of_gt (Nat.lt_succ_of_lt hIlt))
      (below _ hLlt).1 (below _ hLlt).2 hLI ⟨⟨oL, esL, epL, old _ _ eL, rL⟩, keep1, F.above⟩ FC (fun p hp => ?_) (fun p hp => ?_) hj hsrc hlen rfl turn hx hkind fun ys nx k h tk m₁ hJ F' FC' N' hn' => ?_
    · rcases List.mem_cons.mp hp with rfl | hp
      · exact ⟨hacc, Ne.symm (below _ hLlt).2, none0 _ (Nat.le_refl _)⟩
      · exact ⟨old _ _ (N p hp).1, (N p hp).2⟩
    · have z := Heap.lt_size (N p hp).1
      exact ⟨(below _ z).2, (below _ z).1, hne p hp⟩
    · exact hRR ys nx _ _ k h tk m₁ hJ hDC (below _ hLlt).1 (below _ hLlt).2 (none0 _ (by rw [hC]; exact Nat.le_succ _)) F' FC' N' hn'
  exact codeAny_compStart_list (loop _ rfl) (W.self 0 _ _ _ (W.frame _ _ _ hst fun b _ o q => old b o q) (loop _ rfl))

theorem lc_eval {elt iter : PySem.Expr} {x : Str} {px : Pos} {ifs : List PySem.Expr} {scope : Scope} {cl : List (Str × Addr)} {pos : Pos} {Q : Value → Shared → Prop} (_F : Fr h₀ L s.heap m) (hl : ifs.length ≤ 1)
    (hclos : closureFor scope env = pure cl) (hcell : ∀ y ∈ scope.names, y.2 ≠ .cell) (hkind : scope.kind = .function)
    (hnames : ∀ y ∈ scope.names, y.2 = .local → scope.names.lookup y.1 = some .local) (hx : scope.names.lookup x = some .local)
    (h : wpAny (model prog w) A (eval iter env) (fun xv s₁ => wpAny (model prog w) A (pyIter xv) (fun it s₂ => LcAt prog w A h₀ L env m scope cl x ifs elt (fun _ => m) (fun D => Q (.ref D)) it s₂) E s₁) E s)
    (hs : ∀ x, foldedSetIterable iter env x = pure x) :
    wpAny (model prog w) A (eval (.ListComp elt [⟨.Name x px, iter, ifs, 0⟩] scope pos) env) Q E s := by
  rw [eval_ListComp]
  refine wpAny_comprehension_free (use := none) rfl hs hclos hkind hnames (wpAny_mono h (fun xv s₁ h₁ => wpAny_mono h₁ (fun it s₂ h₂ => ?_) fun _ _ e => e) fun _ _ e => e)
  obtain ⟨I, fp, n, P, St, src, news, J, rfl, W, hfp, hSI, hsz, hst, hI0, hLI, F, N, hne, hj, hsrc, hlen, turn, done⟩ := h₂
  refine lc_block (RR := fun acc C => compPost (model prog w) A E none Q acc C) W hfp hSI hsz hl hst hI0 F N hne hj hsrc hlen hLI turn hcell hx hkind ?_
  intro ys nx D C k h tk m₁ hJ hDC hLC hLD hC0 F' FC' N' hn'
  exact ⟨m₁, FC'.ns, fun h'' hs'' => done ys nx D k h'' tk hJ (F'.change hs'' (Ne.symm hLC) hC0) (fun p hp => by
    rcases List.mem_cons.mp hp with rfl | hp
    · exact ⟨(hs''.2 _ hDC).trans (N' _ (.head _)).1, (N' _ (.head _)).2⟩
    · exact ⟨(hs''.2 _ (hn' p hp).2).trans (N' _ (.tail _ hp)).1, (N' _ (.tail _ hp)).2⟩) fun p hp => (hn' p hp).1⟩

theorem lc_assign {elt iter : PySem.Expr} {x y : Str} {px py : Pos} {ifs : List PySem.Expr} {scope : Scope} {cl : List (Str × Addr)} {pos spos : Pos} {Q : Flow → Shared → Prop} (_F : Fr h₀ env.locals s.heap m) (hl : ifs.length ≤ 1)
    (hsw : swapsWith (.ListComp elt [⟨.Name x px, iter, ifs, 0⟩] scope pos) (some (.Name y py)) spos.line env = pure true)
    (hclos : closureFor scope env = pure cl) (hcell : ∀ y ∈ scope.names, y.2 ≠ .cell) (hkind : scope.kind = .function)
    (hnames : ∀ y ∈ scope.names, y.2 = .local → scope.names.lookup y.1 = some .local) (hx : scope.names.lookup x = some .local)
    (hy : env.kindOf y = some .local) (hp : (env.scope.kind == .class || (env.scope.kind == .module && env.locals != env.globals)) = false)
    (h : wpAny (model prog w) A (eval iter env) (fun xv s₁ => wpAny (model prog w) A (pyIter xv) (fun it s₂ => LcAt prog w A h₀ env.locals env m scope cl x ifs elt (fun D z => if z = y then some (.ref D) else m z) (fun _ => Q .next) it s₂) E s₁) E s)
    (hs : ∀ x, foldedSetIterable iter env x = pure x) :
    wpAny (model prog w) A (exec (.Assign [.Name y py] (.ListComp elt [⟨.Name x px, iter, ifs, 0⟩] scope pos) spos) env) Q E s := by
  rw [exec_Assign_Name_used _ _ _ _ hsw]
  refine wpAny_bind (wpAny_standAt (wpAny_bind ?_))
  show wpAny _ A (do let _ ← comprehension (.ListComp elt [⟨.Name x px, iter, ifs, 0⟩] scope pos) scope env _ (newList []) false (eval iter env) (some (assign (.Name y py) env))) _ _ s
  refine wpAny_bind (wpAny_mono (wpAny_comprehension_free (use := some (assign (.Name y py) env)) (Q := fun _ s' => Q .next s') rfl hs hclos hkind hnames
    (wpAny_mono h (fun xv s₁ h₁ => wpAny_mono h₁ (fun it s₂ h₂ => ?_) fun _ _ e => e) fun _ _ e => e)) (fun _ s' hq => wpAny_pure (wpAny_pure hq)) fun _ _ e => e)
  obtain ⟨I, fp, n, P, St, src, news, J, rfl, W, hfp, hSI, hsz, hst, hI0, hLI, F, N, hne, hj, hsrc, hlen, turn, done⟩ := h₂
  refine lc_block (RR := fun acc C => compPost (model prog w) A E (some (assign (.Name y py) env)) (fun _ s' => Q .next s') acc C) W hfp hSI hsz hl hst hI0 F N hne hj hsrc hlen hLI turn hcell hx hkind ?_
  intro ys nx D C k h tk m₁ hJ hDC hLC hLD hC0 F' FC' N' hn'
  show wpAny _ A (assign (.Name y py) env (.ref D)) _ _ _
  refine wpAny_assign_Name (wpAny_storeName_local hy F'.ns (fun h₂ hn₂ hs₂ => ?_) hp)
  refine ⟨m₁, FC'.ns.sameBut hs₂ (Ne.symm hLC), fun h₃ hs₃ => ?_⟩
  refine done ys nx D k h₃ _ hJ ((F'.set hn₂ hs₂).change hs₃ (Ne.symm hLC) hC0) (fun p hp => ?_) fun p hp => (hn' p hp).1
  rcases List.mem_cons.mp hp with rfl | hp
  · have z := N' _ (.head _)
    exact ⟨(hs₃.2 _ hDC).trans ((hs₂.2 _ z.2.1).trans z.1), z.2⟩
  · have z := N' _ (.tail _ hp)
    exact ⟨(hs₃.2 _ (hn' p hp).2).trans ((hs₂.2 _ z.2.1).trans z.1), z.2⟩
end

section
variable {prog : Program} {w : World} {A : Around} {E : Value → Shared → Prop} {s : Shared} {env : Env} {h₀ : Heap} {L : Addr} {m : Str → Option Value}
/- comprehensions whose name stands in a cell -/
noncomputable def LkTurn (prog : Program) (w : World) (A : Around) (h₀ : Heap) (L : Addr) (env : Env) (m : Str → Option Value) (scope : Scope) (cl : List (Str × Addr)) (x : Str) (ifs : List PySem.Expr) (elt : PySem.Expr) (n : Nat) (P : Nat → Value → Prop) (J : Nat → List Value → List (Addr × Obj) → Prop) (s₂ : Shared) : Prop :=
  ∀ i v ys nx own C m₂ oK h tk E', i < n → P i v → J i ys nx → OwnOff own (nx.map (·.1)) → oK.data = .cell (some v) → (C + 1, oK) ∈ own → Fr h₀ L h m → Fr h₀ C h m₂ → News h₀ L h (nx ++ own) →
    LcTest prog w A h₀ L m (compEnvC scope ((x, C + 1) :: cl) C env) elt (J (i + 1)) ys own { s₂ with heap := h, toks := tk } E' ifs

noncomputable def LkAt (prog : Program) (w : World) (A : Around) (h₀ : Heap) (L : Addr) (env : Env) (m : Str → Option Value) (scope : Scope) (cl : List (Str × Addr)) (x : Str) (ifs : List PySem.Expr) (elt : PySem.Expr) (md : Addr → Str → Option Value) (Q : Addr → Shared → Prop) (it : Value) (s₂ : Shared) : Prop :=
  ∃ (I : Addr) (fp : List Addr) (n : Nat) (P : Nat → Value → Prop) (St : Nat → Heap → Prop) (src news : List (Addr × Obj)) (J : Nat → List Value → List (Addr × Obj) → Prop),
    it = .ref I ∧ Walks prog w A I fp [I] n P St ∧ (∀ b ∈ fp, b = I ∨ (∃ o, h₀.get? b = some o) ∨ ∃ o, (b, o) ∈ src) ∧ (∀ i h, St i h → ∃ o, h.get? I = some o) ∧ n ≤ 1000 ∧ St 0 s₂.heap ∧ h₀.get? I = none ∧ L ≠ I ∧
    Fr h₀ L s₂.heap m ∧ News h₀ L s₂.heap news ∧ (∀ p ∈ news, p.1 ≠ I) ∧ J 0 [] news ∧ (∀ i ys nx, J i ys nx → ∀ p ∈ src, p ∈ nx) ∧ (∀ i ys nx, J i ys nx → ys.length ≤ i) ∧
    LkTurn prog w A h₀ L env m scope cl x ifs elt n P J s₂ ∧
    ∀ ys nx D k h tk, J n ys nx → Fr h₀ L h (md D) → News h₀ L h ((D, PySem.W.listOf (List.toArray ys) k) :: nx) → (∀ p ∈ nx, p.1 ≠ D) → Q D { s₂ with heap := h, toks := tk }

theorem lookup_relabel_cell {env : Env} : ∀ {names : List (Str × NameKind)} {x : Str}, names.lookup x = some .cell →
    (names.map fun (n, k) => if (k == NameKind.free && env.scope.kind == .function && env.kindOf n == some .cell) then (n, NameKind.cell) else (n, k)).lookup x = some .cell
  | [], _, h => by simp at h
  | (n, k) :: r, x, h => by
    have ih := @lookup_relabel_cell env r x
    show List.lookup x ((if (k == NameKind.free && env.scope.kind == .function && env.kindOf n == some .cell) = true then (n, NameKind.cell) else (n, k)) :: _) = _
    cases hx : x == n with
    | true =>
      simp only [List.lookup_cons, hx] at h
      cases h
      simp [List.lookup_cons, hx]
    | false =>
      simp only [List.lookup_cons, hx] at h
      by_cases hc : (k == NameKind.free && env.scope.kind == .function && env.kindOf n == some .cell) = true
      · rw [if_pos hc]; simp only [List.lookup_cons, hx]; exact ih h
      · rw [if_neg hc]; simp only [List.lookup_cons, hx]; exact ih h

theorem newEnv_cells {scope : Scope} {globals : Addr} {cl : List (Str × Addr)} {x : Str} {qual : Str} {Q : Env → Shared → Prop} (hcl : ∀ n, cellsFrom n scope.names cl = (x, n) :: cl) (hpc : ∀ h, pushCells h scope.names = h.push { cls := .type "cell", data := .cell none })
    (h : ∀ h₁, h₁ = (s.heap.push { cls := .type "dict", data := .dict #[] }).push { cls := .type "cell", data := .cell none } →
      Q { scope, locals := s.heap.objs.size, globals, cells := (x, s.heap.objs.size + 1) :: cl, qual, func := none, code := env.code, frame := env.frame, builtins := env.builtins } { s with heap := h₁ }) :
    wpAny (model prog w) A (newFunctionEnv scope globals cl [] qual none .none (some env)) Q E s := by
  simp only [newFunctionEnv, Option.isSome_some, if_true]
  refine wpAny_bind (wpAny_alloc ?_)
  refine wpAny_bind (wpAny_layCells _ (fun name kind cells => by cases hkc : kind == NameKind.cell <;> simp [hkc]) _ _ _ _ ?_)
  have e1 : (s.heap.push { cls := .type "dict", data := .dict #[] }).objs.size = s.heap.objs.size + 1 := Heap.size_push ..
  rw [List.forIn_nil]
  refine wpAny_bind (wpAny_pure (wpAny_pure ?_))
  dsimp only
  rw [hpc, e1, hcl]
  exact h _ rfl

inductive LkInv (h₀ : Heap) (L C D I : Addr) (m : Str → Option Value) (n : Nat) (St : Nat → Heap → Prop) (J : Nat → List Value → List (Addr × Obj) → Prop) (s₂ : Shared) : Nat → Shared → Prop
  | mk (i : Nat) (ys : List Value) (nx : List (Addr × Obj)) (m₁ : Str → Option Value) (e : Nat) (h : Heap) (tk : Nat) (hi : i ≤ n) (hst : St i h) (hJ : J i ys nx) (F : Fr h₀ L h m) (FC : Fr h₀ C h m₁) (N : News h₀ L h ((D, PySem.W.listOf (List.toArray ys) e) :: nx)) (hK : ∃ o v, h.get? (C + 1) = some o ∧ o.data = .cell v) (hn : ∀ p ∈ nx, p.1 ≠ D ∧ p.1 ≠ C ∧ p.1 ≠ I ∧ p.1 ≠ C + 1) : LkInv h₀ L C D I m n St J s₂ (n + 1 - i) { s₂ with heap := h, toks := tk }
theorem lk_loop {elt iter : PySem.Expr} {x : Str} {px : Pos} {ifs : List PySem.Expr} {scope : Scope} {cl : List (Str × Addr)} {pos : Pos} {I C D : Addr} {fp : List Addr} {n : Nat} {P : Nat → Value → Prop} {St : Nat → Heap → Prop} {src news : List (Addr × Obj)} {J : Nat → List Value → List (Addr × Obj) → Prop} {R : Result → Shared → Prop} {m₀ : Str → Option Value} {s₂ : Shared}
    (W : Walks prog w A I fp [I] n P St) (hfp : ∀ b ∈ fp, b = I ∨ (∃ o, h₀.get? b = some o) ∨ ∃ o, (b, o) ∈ src) (hSI : ∀ i h, St i h → ∃ o, h.get? I = some o) (hsz : n ≤ 1000) (hl : ifs.length ≤ 1)
    (hst : St 0 s.heap) (hI0 : h₀.get? I = none) (hC0 : h₀.get? C = none) (hD0 : h₀.get? D = none) (hDC : D ≠ C) (hDI : D ≠ I) (hCI : C ≠ I) (hKI : C + 1 ≠ I) (hKD : C + 1 ≠ D) (hKC : C + 1 ≠ C) (hLK : L ≠ C + 1) (hK0 : h₀.get? (C + 1) = none) (hKs : ∃ o v, s.heap.get? (C + 1) = some o ∧ o.data = .cell v) (hLC : L ≠ C) (hLD : L ≠ D) (hLI : L ≠ I)
    (F : Fr h₀ L s.heap m) (FC : Fr h₀ C s.heap m₀) (N : News h₀ L s.heap ((D, PySem.W.listOf (List.toArray []) 0) :: news)) (hne : ∀ p ∈ news, p.1 ≠ D ∧ p.1 ≠ C ∧ p.1 ≠ I ∧ p.1 ≠ C + 1)
    (hj : J 0 [] news) (hsrc : ∀ i ys nx, J i ys nx → ∀ p ∈ src, p ∈ nx) (hlen : ∀ i ys nx, J i ys nx → ys.length ≤ i)
    (hs₂ : s = { s₂ with heap := s.heap, toks := s.toks })
    (turn : LkTurn prog w A h₀ L env m scope cl x ifs elt n P J s₂)
    (hx : scope.names.lookup x = some .cell) (hkind : scope.kind = .function)
    (hR : ∀ ys nx k h tk m₁, J n ys nx → Fr h₀ L h m → Fr h₀ C h m₁ → News h₀ L h ((D, PySem.W.listOf (List.toArray ys) k) :: nx) → (∀ p ∈ nx, p.1 ≠ D ∧ p.1 ≠ C) → R (.ok .next) { s₂ with heap := h, toks := tk }) :
    codeAny (model prog w) A (.compLoop (.ListComp elt [⟨.Name x px, iter, ifs, 0⟩] scope pos) 0 (.ref I) (.ref D) (compEnvC scope ((x, C + 1) :: cl) C env)) R s := by
  refine codeAny_compLoop_tests
    (LkInv h₀ L C D I m n St J s₂) ?_ (n + 1)
    (by rw [hs₂]; exact .mk 0 [] news m₀ 0 s.heap s.toks (Nat.zero_le _) hst hj F FC N hKs hne)
  rintro _ _ ⟨i, ys, nx, m₁, e, h, tk, hi, hst', hJ, F₁, FC₁, N₁, ⟨oK₀, vK₀, eK₀, dK₀⟩, hn₁⟩
  by_cases hlt : i < n
  · refine W.item i _ _ _ hlt hst' fun v h₁ tk₁ hPv hst₁ hk₁ => ?_
    have keep0 : ∀ b o, h₀.get? b = some o → h₁.get? b = some o := fun b o q => hk₁ b o (by intro hm; rw [List.mem_singleton.mp hm, hI0] at q; cases q) (F₁.keep b o q)
    obtain ⟨oL, esL, epL, eL, rL⟩ := id F₁.ns
    obtain ⟨oC, esC, epC, eC, rC⟩ := id FC₁.ns
    have eL₁ : h₁.get? L = some oL := hk₁ _ _ (by intro hm; exact hLI (List.mem_singleton.mp hm)) eL
    have eC₁ : h₁.get? C = some oC := hk₁ _ _ (by intro hm; exact hCI (List.mem_singleton.mp hm)) eC
    have hx' : (compEnvC scope ((x, C + 1) :: cl) C env).kindOf x = some .cell := lookup_relabel_cell hx
    have eK₁ : h₁.get? (C + 1) = some oK₀ := hk₁ _ _ (by intro hm; exact hKI (List.mem_singleton.mp hm)) eK₀
    have hlk : (compEnvC scope ((x, C + 1) :: cl) C env).cells.lookup x = some (C + 1) := by simp [compEnvC]
    refine wpAny_assign_Name (wpAny_storeName_cell (by simp [compEnvC, relabel, hkind]) hx' hlk ⟨oK₀, eK₁, dK₀⟩ fun h₂ hv₂ hs₂ => ?_)
    obtain ⟨oK, eK₂, dK⟩ := hv₂
    have keep2 : ∀ b o, h₀.get? b = some o → h₂.get? b = some o := fun b o q => (hs₂.2 b (by rintro rfl; rw [hK0] at q; cases q)).trans (keep0 b o q)
    have eL₂ : h₂.get? L = some oL := (hs₂.2 _ hLK).trans eL₁
    have hst₂ : St (i + 1) h₂ := W.frame _ _ _ hst₁ fun b hb o q => (hs₂.2 b (by
      intro hbK
      rw [hbK] at hb
      rcases hfp _ hb with r | ⟨o', r⟩ | ⟨o', r⟩
      · exact hKI r
      · rw [hK0] at r; cases r
      · exact (hn₁ _ (hsrc _ _ _ hJ _ r)).2.2.2 rfl)).trans q
    obtain ⟨oI, eI⟩ := hSI _ _ hst₂
    have eC₂ : h₂.get? C = some oC := (hs₂.2 _ hKC.symm).trans eC₁
    have hD₁ := N₁ _ (.head _)
    have eD₂ : h₂.get? D = some (PySem.W.listOf (List.toArray ys) e) := (hs₂.2 _ hKD.symm).trans (hk₁ _ _ (by intro hm; exact hDI (List.mem_singleton.mp hm)) hD₁.1)
    have F₂ : Fr h₀ L h₂ m := ⟨⟨oL, esL, epL, eL₂, rL⟩, keep2, F₁.above⟩
    have FC₂ : Fr h₀ C h₂ m₁ := ⟨⟨oC, esC, epC, eC₂, rC⟩, keep2, FC₁.above⟩
    have N₂ : News h₀ L h₂ (nx ++ [(D, PySem.W.listOf (List.toArray ys) e), (C, oC), (I, oI), (C + 1, oK)]) := fun p hp => by
      rcases List.mem_append.mp hp with hp | hp
      · have z := N₁ p (.tail _ hp); have z' := hn₁ p hp
        exact ⟨(hs₂.2 _ z'.2.2.2).trans (hk₁ _ _ (by intro hm; exact z'.2.2.1 (List.mem_singleton.mp hm)) z.1), z.2⟩
      · rcases of_mem4 hp with rfl | rfl | rfl | rfl
        · exact ⟨eD₂, Ne.symm hLD, hD0⟩
        · exact ⟨eC₂, Ne.symm hLC, hC0⟩
        · exact ⟨eI, Ne.symm hLI, hI0⟩
        · exact ⟨eK₂, Ne.symm hLK, hK0⟩
    have off : OwnOff [(D, PySem.W.listOf (List.toArray ys) e), (C, oC), (I, oI), (C + 1, oK)] (nx.map (·.1)) := by
      intro p hp b hb
      obtain ⟨q, hq, rfl⟩ := List.mem_map.mp hb
      have z := hn₁ q hq
      rcases of_mem4 hp with rfl | rfl | rfl | rfl
      · exact Ne.symm z.1
      · exact Ne.symm z.2.1
      · exact Ne.symm z.2.2.1
      · exact Ne.symm z.2.2.2
    -- what stands behind the turn
    have back : ∀ (ys' : List Value) (s₃ : Shared), ys' = ys ∨ (∃ y, ys' = ys ++ [y]) → LcEnd h₀ L m (J (i + 1) ys') [(D, PySem.W.listOf (List.toArray ys) e), (C, oC), (I, oI), (C + 1, oK)] { s₂ with heap := h₂, toks := tk₁ } s₃ →
        ∃ h₃ tk₃ nx', s₃ = { s₂ with heap := h₃, toks := tk₃ } ∧ J (i + 1) ys' nx' ∧ St (i + 1) h₃ ∧ Fr h₀ L h₃ m ∧ Fr h₀ C h₃ m₁ ∧ News h₀ L h₃ ((D, PySem.W.listOf (List.toArray ys) e) :: nx') ∧ (∃ o v, h₃.get? (C + 1) = some o ∧ o.data = .cell v) ∧ ∀ p ∈ nx', p.1 ≠ D ∧ p.1 ≠ C ∧ p.1 ≠ I ∧ p.1 ≠ C + 1 := by
      rintro ys' s₃ _ ⟨h₃, tk₃, nx', news', rfl, F₃, N₃, hin, hown, hoff, hJ'⟩
      have o1 := N₃ _ (hown _ (.head _))
      have o2 := N₃ _ (hown _ (.tail _ (.head _)))
      have o3 := N₃ _ (hown _ (.tail _ (.tail _ (.head _))))
      have o4 := N₃ _ (hown _ (.tail _ (.tail _ (.tail _ (.head _)))))
      have hnx : ∀ p ∈ nx', p.1 ≠ D ∧ p.1 ≠ C ∧ p.1 ≠ I ∧ p.1 ≠ C + 1 := fun p hp =>
        have hm := List.mem_map_of_mem (f := (·.1)) hp
        ⟨Ne.symm (hoff _ (.head _) _ hm), Ne.symm (hoff _ (.tail _ (.head _)) _ hm), Ne.symm (hoff _ (.tail _ (.tail _ (.head _))) _ hm), Ne.symm (hoff _ (.tail _ (.tail _ (.tail _ (.head _)))) _ hm)⟩
      refine ⟨h₃, tk₃, nx', rfl, hJ', W.frame _ _ _ hst₂ fun b hb o q => ?_, F₃, lc_ns FC₂ eC₂ o2.1 F₃.keep, fun p hp => ?_, ⟨_, _, o4.1, dK⟩, hnx⟩
      · rcases hfp b hb with rfl | ⟨o', r⟩ | ⟨o', r⟩
        · rw [eI] at q; cases q; exact o3.1
        · rw [keep2 _ _ r] at q; cases q; exact F₃.keep _ _ r
        · have z := N₂ _ (List.mem_append_left _ (hsrc _ _ _ hJ _ r))
          rw [z.1] at q; cases q
          exact (N₃ _ (hin _ (hsrc _ _ _ hJ' _ r))).1
      · rcases List.mem_cons.mp hp with rfl | hp
        · exact o1
        · exact N₃ _ (hin _ hp)
    have T := turn i v ys nx _ C _ oK h₂ tk₁ (notedBy (model prog w) A (compEnvC scope ((x, C + 1) :: cl) C env) fun e s' => R (.error e) s') hlt hPv hJ off dK (by simp) F₂ FC₂ N₂
    refine wpAny_mono (lc_tests hl T) (fun ok s₃ h₃ => ?_) fun _ _ q => q
    unfold LcGo at h₃
    cases ok with
    | false =>
      simp only [Bool.false_eq_true, if_false] at h₃ ⊢
      obtain ⟨h₄, tk₄, nx', rfl, hJ', hst₄, F₄, FC₄, N₄, hK₄, hn₄⟩ := back _ _ (.inl rfl) h₃
      exact ⟨n + 1 - (i + 1), by omega, .mk (i + 1) ys nx' _ e h₄ tk₄ hlt hst₄ hJ' F₄ FC₄ N₄ hK₄ hn₄⟩
    | true =>
      simp only [if_true] at h₃ ⊢
      refine wpAny_mono h₃ (fun y s₄ h₄ => ?_) fun _ _ q => q
      obtain ⟨h₄, tk₄, nx', rfl, hJ', hst₄, F₄, FC₄, N₄, hK₄, hn₄⟩ := back _ _ (.inr ⟨y, rfl⟩) h₄
      have hys : ys.length ≤ 1000 := Nat.le_trans (hlen _ _ _ hJ) (Nat.le_trans hi hsz)
      refine append_at (hsz := by rw [List.size_toArray, sizeLine_eq]; omega) (N₄ _ (.head _)).1 fun h₅ hs₅ ho₅ => ?_
      have e9 : (List.toArray ys).push y = List.toArray (ys ++ [y]) := by simp
      rw [e9] at ho₅
      obtain ⟨oC₄, esC₄, epC₄, eC₄, rC₄⟩ := id FC₄.ns
      have hD0' := (N₄ _ (.head _)).2.2
      refine ⟨n + 1 - (i + 1), by omega, .mk (i + 1) (ys ++ [y]) nx' m₁ (e + 1) h₅ tk₄ hlt ?_ hJ' (F₄.change hs₅ (Ne.symm hLD) hD0') ?_ (fun p hp => ?_) (by obtain ⟨o, v', e1, e2⟩ := hK₄; exact ⟨o, v', (hs₅.2 _ hKD).trans e1, e2⟩) hn₄⟩
      · refine W.frame _ _ _ hst₄ fun b hb o q => (hs₅.2 b ?_).trans q
        rintro rfl
        rcases hfp b hb with r | ⟨o', r⟩ | ⟨o', r⟩
        · exact hDI r
        · rw [hD0] at r; cases r
        · exact (hn₄ _ (hsrc _ _ _ hJ' _ r)).1 rfl
      · exact FC₄.change hs₅ hDC hD0'
      · rcases List.mem_cons.mp hp with rfl | hp
        · exact ⟨ho₅, (N₄ _ (.head _)).2⟩
        · exact ⟨(hs₅.2 _ (hn₄ p hp).1).trans (N₄ _ (.tail _ hp)).1, (N₄ _ (.tail _ hp)).2⟩
  · have hin : i = n := by omega
    subst hin
    refine W.done _ _ _ hst' fun h₁ tk₁ hk₁ => ?_
    have hk₁' : ∀ b o, b ≠ I → h.get? b = some o → h₁.get? b = some o := fun b o hb q => hk₁ b o (by intro hm; exact hb (List.mem_singleton.mp hm)) q
    have keep1 : ∀ b o, h₀.get? b = some o → h₁.get? b = some o := fun b o q => hk₁' b o (by rintro rfl; rw [hI0] at q; cases q) (F₁.keep b o q)
    obtain ⟨oL, esL, epL, eL, rL⟩ := id F₁.ns
    obtain ⟨oC, esC, epC, eC, rC⟩ := id FC₁.ns
    refine hR ys nx e h₁ tk₁ m₁ hJ ⟨⟨oL, esL, epL, hk₁' _ _ hLI eL, rL⟩, keep1, F₁.above⟩ ⟨⟨oC, esC, epC, hk₁' _ _ hCI eC, rC⟩, keep1, FC₁.above⟩ (fun p hp => ?_) fun p hp => ⟨(hn₁ p hp).1, (hn₁ p hp).2.1⟩
    rcases List.mem_cons.mp hp with rfl | hp
    · exact ⟨hk₁' _ _ hDI (N₁ _ (.head _)).1, (N₁ _ (.head _)).2⟩
    · exact ⟨hk₁' _ _ (hn₁ p hp).2.2.1 (N₁ _ (.tail _ hp)).1, (N₁ _ (.tail _ hp)).2⟩

theorem lk_block {elt iter : PySem.Expr} {x : Str} {px : Pos} {ifs : List PySem.Expr} {scope : Scope} {cl : List (Str × Addr)} {pos : Pos} {I : Addr} {fp : List Addr} {n : Nat} {P : Nat → Value → Prop} {St : Nat → Heap → Prop} {src news : List (Addr × Obj)} {J : Nat → List Value → List (Addr × Obj) → Prop} {s₂ : Shared} {RR : Value → Addr → Result → Shared → Prop}
    (W : Walks prog w A I fp [I] n P St) (hfp : ∀ b ∈ fp, b = I ∨ (∃ o, h₀.get? b = some o) ∨ ∃ o, (b, o) ∈ src) (hSI : ∀ i h, St i h → ∃ o, h.get? I = some o) (hsz : n ≤ 1000) (hl : ifs.length ≤ 1)
    (hst : St 0 s₂.heap) (hI0 : h₀.get? I = none) (F : Fr h₀ L s₂.heap m) (N : News h₀ L s₂.heap news) (hne : ∀ p ∈ news, p.1 ≠ I)
    (hj : J 0 [] news) (hsrc : ∀ i ys nx, J i ys nx → ∀ p ∈ src, p ∈ nx) (hlen : ∀ i ys nx, J i ys nx → ys.length ≤ i) (hLI : L ≠ I)
    (turn : LkTurn prog w A h₀ L env m scope cl x ifs elt n P J s₂) (hcl : ∀ n, cellsFrom n scope.names cl = (x, n) :: cl) (hpc : ∀ h, pushCells h scope.names = h.push { cls := .type "cell", data := .cell none })
    (hx : scope.names.lookup x = some .cell) (hkind : scope.kind = .function)
    (hRR : ∀ ys nx D C k h tk m₁, J n ys nx → D ≠ C → L ≠ C → L ≠ D → h₀.get? C = none → Fr h₀ L h m → Fr h₀ C h m₁ → News h₀ L h ((D, PySem.W.listOf (List.toArray ys) k) :: nx) → (∀ p ∈ nx, p.1 ≠ D ∧ p.1 ≠ C) → RR (.ref D) C (.ok .next) { s₂ with heap := h, toks := tk }) :
    wpAny (model prog w) A (newList []) (fun acc s₃ => wpAny (model prog w) A (newFunctionEnv scope env.globals cl [] env.qual none .none (some env)) (fun cenv s₄ =>
      codeAny (model prog w) A (.compStart (.ListComp elt [⟨.Name x px, iter, ifs, 0⟩] scope pos) 0 (.ref I) acc { cenv with scope := relabel scope env }) (RR acc cenv.locals) s₄) E s₃) E s₂ := by
  obtain ⟨oI, eI⟩ := hSI _ _ hst
  have hIlt : I < s₂.heap.objs.size := Heap.lt_size eI
  refine wpAny_newObj_type (newEnv_cells hcl hpc fun h₁ hh₁ => ?_)
  dsimp only at hh₁ ⊢
  generalize hH2 : s₂.heap.push { cls := .type "list", dict := none, data := .seq ([] : List Value).toArray } = H2 at hh₁ ⊢
  have hC : H2.objs.size = s₂.heap.objs.size + 1 := by rw [← hH2, Heap.size_push]
  have hDC : s₂.heap.objs.size ≠ H2.objs.size := by rw [hC]; exact Nat.ne_of_lt (Nat.lt_succ_self _)
  have hC3 : (H2.push { cls := .type "dict", data := .dict #[] }).objs.size = H2.objs.size + 1 := Heap.size_push ..
  have hns₁ : h₁.Ns H2.objs.size (fun _ => none) := by rw [hh₁]; exact (Heap.Ns.new H2 (.type "dict")).keeps fun b o q => Heap.get?_push_of_some _ q
  have hKs : h₁.get? (H2.objs.size + 1) = some { cls := .type "cell", data := .cell none } := by rw [hh₁, ← hC3]; exact Heap.get?_push_size _ rfl
  have below : ∀ b, b < s₂.heap.objs.size → b ≠ H2.objs.size ∧ b ≠ s₂.heap.objs.size := fun b hb => ⟨by rw [hC]; exact Nat.ne_of_lt (Nat.lt_succ_of_lt hb), Nat.ne_of_lt hb⟩
  have old : ∀ b o, s₂.heap.get? b = some o → h₁.get? b = some o := fun b o q => hh₁ ▸ Heap.get?_push_of_some _ (Heap.get?_push_of_some _ (hH2 ▸ Heap.get?_push_of_some _ q))
  have belowK : ∀ b, b < s₂.heap.objs.size → b ≠ H2.objs.size + 1 := fun b hb q => by rw [q, hC] at hb; exact absurd hb (Nat.not_lt.mpr (Nat.le_trans (Nat.le_succ _) (Nat.le_succ _)))
  have hacc : h₁.get? s₂.heap.objs.size = some { cls := .type "list", dict := none, data := .seq ([] : List Value).toArray } := hh₁ ▸ Heap.get?_push_of_some _ (Heap.get?_push_of_some _ (hH2 ▸ Heap.get?_push_size _ rfl))
  have hLlt : L < s₂.heap.objs.size := F.ns.lt
  have none0 : ∀ a, s₂.heap.objs.size ≤ a → h₀.get? a = none := fun a ha => by
    cases q : h₀.get? a with
    | none => rfl
    | some o' => exact absurd (Heap.lt_size (F.keep _ _ q)) (Nat.not_lt.mpr ha)
  have keep1 : ∀ b o, h₀.get? b = some o → h₁.get? b = some o := fun b o q => old b o (F.keep b o q)
  obtain ⟨oL, esL, epL, eL, rL⟩ := id F.ns
  have FC : Fr h₀ H2.objs.size h₁ _ := ⟨hns₁, keep1, by rw [hC]; exact Nat.le_succ_of_le (Nat.le_trans F.above (Nat.le_of_lt hLlt))⟩
  have loop : ∀ s₃ : Shared, s₃ = { s₂ with heap := h₁, toks := s₂.toks } →
      codeAny (model prog w) A (.compLoop (.ListComp elt [⟨.Name x px, iter, ifs, 0⟩] scope pos) 0 (.ref I) (.ref s₂.heap.objs.size) (compEnvC scope ((x, H2.objs.size + 1) :: cl) H2.objs.size env))
        (RR (.ref s₂.heap.objs.size) H2.objs.size) s₃ := by
    rintro s₃ rfl
    refine lk_loop (s₂ := s₂) (C := H2.objs.size) W hfp hSI hsz hl (W.frame _ _ _ hst fun b _ o q => old b o q) hI0 (none0 _ (by rw [hC]; exact Nat.le_succ _)) (none0 _ (Nat.le_refl _)) hDC (Nat.ne_of_gt hIlt) (by rw [hC]; exact Nat.ne_of_gt (Nat.lt_succ_of_lt hIlt)) (belowK _ hIlt).symm (by rw [hC]; exact Nat.ne_of_gt (Nat.lt_trans (Nat.lt_succ_self _) (Nat.lt_succ_self _))) (Nat.ne_of_gt (Nat.lt_succ_self _)) (belowK _ hLlt) (none0 _ (by rw [hC]; exact Nat.le_trans (Nat.le_succ _) (Nat.le_succ _))) ⟨_, _, hKs, rfl⟩
      (below _ hLlt).1 (below _ hLlt).2 hLI ⟨⟨oL, esL, epL, old _ _ eL, rL⟩, keep1, F.above⟩ FC (fun p hp => ?_) (fun p hp => ?_) hj hsrc hlen rfl turn hx hkind fun ys nx k h tk m₁ hJ F' FC' N' hn' => ?_
    · rcases List.mem_cons.mp hp with rfl | hp
      · exact ⟨hacc, Ne.symm (below _ hLlt).2, none0 _ (Nat.le_refl _)⟩
      · exact ⟨old _ _ (N p hp).1, (N p hp).2⟩
    · have z := Heap.lt_size (N p hp).1
      exact ⟨(below _ z).2, (below _ z).1, hne p hp, belowK _ z⟩
    · exact hRR ys nx _ _ k h tk m₁ hJ hDC (below _ hLlt).1 (below _ hLlt).2 (none0 _ (by rw [hC]; exact Nat.le_succ _)) F' FC' N' hn'
  exact codeAny_compStart_list (loop _ rfl) (W.self 0 _ _ _ (W.frame _ _ _ hst fun b _ o q => old b o q) (loop _ rfl))

theorem lk_eval {elt iter : PySem.Expr} {x : Str} {px : Pos} {ifs : List PySem.Expr} {scope : Scope} {cl : List (Str × Addr)} {pos : Pos} {Q : Value → Shared → Prop} (_F : Fr h₀ L s.heap m) (hl : ifs.length ≤ 1)
    (hclos : closureFor scope env = pure cl) (hcl : ∀ n, cellsFrom n scope.names cl = (x, n) :: cl) (hpc : ∀ h, pushCells h scope.names = h.push { cls := .type "cell", data := .cell none }) (hkind : scope.kind = .function)
    (hnames : ∀ y ∈ scope.names, y.2 = .local → scope.names.lookup y.1 = some .local) (hx : scope.names.lookup x = some .cell)
    (h : wpAny (model prog w) A (eval iter env) (fun xv s₁ => wpAny (model prog w) A (pyIter xv) (fun it s₂ => LkAt prog w A h₀ L env m scope cl x ifs elt (fun _ => m) (fun D => Q (.ref D)) it s₂) E s₁) E s)
    (hs : ∀ x, foldedSetIterable iter env x = pure x) :
    wpAny (model prog w) A (eval (.ListComp elt [⟨.Name x px, iter, ifs, 0⟩] scope pos) env) Q E s := by
  rw [eval_ListComp]
  refine wpAny_comprehension_free (use := none) rfl hs hclos hkind hnames (wpAny_mono h (fun xv s₁ h₁ => wpAny_mono h₁ (fun it s₂ h₂ => ?_) fun _ _ e => e) fun _ _ e => e)
  obtain ⟨I, fp, n, P, St, src, news, J, rfl, W, hfp, hSI, hsz, hst, hI0, hLI, F, N, hne, hj, hsrc, hlen, turn, done⟩ := h₂
  refine lk_block (RR := fun acc C => compPost (model prog w) A E none Q acc C) W hfp hSI hsz hl hst hI0 F N hne hj hsrc hlen hLI turn hcl hpc hx hkind ?_
  intro ys nx D C k h tk m₁ hJ hDC hLC hLD hC0 F' FC' N' hn'
  exact ⟨m₁, FC'.ns, fun h'' hs'' => done ys nx D k h'' tk hJ (F'.change hs'' (Ne.symm hLC) hC0) (fun p hp => by
    rcases List.mem_cons.mp hp with rfl | hp
    · exact ⟨(hs''.2 _ hDC).trans (N' _ (.head _)).1, (N' _ (.head _)).2⟩
    · exact ⟨(hs''.2 _ (hn' p hp).2).trans (N' _ (.tail _ hp)).1, (N' _ (.tail _ hp)).2⟩) fun p hp => (hn' p hp).1⟩

end

section
variable {prog : Program} {w : World} {A : Around} {E : Value → Shared → Prop} {s : Shared} {env : Env} {h₀ : Heap} {L : Addr} {m : Str → Option Value}

theorem none_at (F : Fr h₀ L s.heap m) : h₀.get? s.heap.objs.size = none := by
  cases q : h₀.get? s.heap.objs.size with
  | none => rfl
  | some o => exact absurd (Heap.lt_size (F.keep _ _ q)) (Nat.lt_irrefl _)

/-- a comprehension over a list of the ledger -/
theorem lc_list {elt : PySem.Expr} {x : Str} {ifs : List PySem.Expr} {scope : Scope} {cl : List (Str × Addr)} {md : Addr → Str → Option Value} {Q : Addr → Shared → Prop} {l : Addr} {vs : List Value} {k : Nat} {news : List (Addr × Obj)} (J : Nat → List Value → List (Addr × Obj) → Prop)
    (hh : A.handled = none) (F : Fr h₀ L s.heap m) (N : News h₀ L s.heap news) (hsz : vs.length ≤ 1000)
    (hj : J 0 [] news) (hsrc : ∀ i ys nx, J i ys nx → (l, PySem.W.listOf (List.toArray vs) k) ∈ nx) (hlen : ∀ i ys nx, J i ys nx → ys.length ≤ i)
    (turn : LcTurn prog w A h₀ L env m scope cl x ifs elt vs.length (fun i v => vs[i]? = some v) J s)
    (done : ∀ ys nx D k h tk, J vs.length ys nx → Fr h₀ L h (md D) → News h₀ L h ((D, PySem.W.listOf (List.toArray ys) k) :: nx) → (∀ p ∈ nx, p.1 ≠ D) → Q D { s with heap := h, toks := tk }) :
    wpAny (model prog w) A (pyIter (.ref l)) (fun it s₂ => LcAt prog w A h₀ L env m scope cl x ifs elt md Q it s₂) E s := by
  have hm := hsrc _ _ _ hj
  have hls : s.heap.IsList l (List.toArray vs) := ⟨_, (N _ hm).1, rfl, _, rfl⟩
  have hne : l ≠ s.heap.objs.size := Nat.ne_of_lt (Heap.lt_size (N _ hm).1)
  refine wpAny_pyIter_list hls ?_
  have W := Walks.list (prog := prog) (w := w) hh s.heap.objs.size l hne (List.toArray vs)
  rw [List.size_toArray] at W
  refine ⟨s.heap.objs.size, [s.heap.objs.size, l], vs.length, _, _, [(l, PySem.W.listOf (List.toArray vs) k)], news, J, rfl, W, fun b hb => ?_, fun i h st => ?_, hsz, ⟨⟨_, Heap.get?_push_size _ rfl, rfl, rfl⟩, hls.push _⟩, none_at F, Nat.ne_of_lt F.ns.lt, F.push _, fun p hp => ⟨Heap.get?_push_of_some _ (N p hp).1, (N p hp).2⟩, fun p hp => Nat.ne_of_lt (Heap.lt_size (N p hp).1), hj, fun i ys nx q p hp => ?_, hlen, ?_, done⟩
  · rcases of_mem2 hb with rfl | rfl
    · exact .inl rfl
    · exact .inr (.inr ⟨_, .head _⟩)
  · obtain ⟨⟨o, ho, _⟩, _⟩ := st; exact ⟨o, ho⟩
  · rw [List.mem_singleton.mp hp]; exact hsrc _ _ _ q
  · intro i v ys nx own C m₂ h tk E' hi hv hJ off hx FL FC kC N'
    exact turn i v ys nx own C m₂ h tk E' hi (by simpa using hv) hJ off hx FL FC kC N'

/-- a comprehension whose name is a cell, over a list of the ledger -/
theorem lk_list {elt : PySem.Expr} {x : Str} {ifs : List PySem.Expr} {scope : Scope} {cl : List (Str × Addr)} {md : Addr → Str → Option Value} {Q : Addr → Shared → Prop} {l : Addr} {vs : List Value} {k : Nat} {news : List (Addr × Obj)} (J : Nat → List Value → List (Addr × Obj) → Prop)
    (hh : A.handled = none) (F : Fr h₀ L s.heap m) (N : News h₀ L s.heap news) (hsz : vs.length ≤ 1000)
    (hj : J 0 [] news) (hsrc : ∀ i ys nx, J i ys nx → (l, PySem.W.listOf (List.toArray vs) k) ∈ nx) (hlen : ∀ i ys nx, J i ys nx → ys.length ≤ i)
    (turn : LkTurn prog w A h₀ L env m scope cl x ifs elt vs.length (fun i v => vs[i]? = some v) J s)
    (done : ∀ ys nx D k h tk, J vs.length ys nx → Fr h₀ L h (md D) → News h₀ L h ((D, PySem.W.listOf (List.toArray ys) k) :: nx) → (∀ p ∈ nx, p.1 ≠ D) → Q D { s with heap := h, toks := tk }) :
    wpAny (model prog w) A (pyIter (.ref l)) (fun it s₂ => LkAt prog w A h₀ L env m scope cl x ifs elt md Q it s₂) E s := by
  have hm := hsrc _ _ _ hj
  have hls : s.heap.IsList l (List.toArray vs) := ⟨_, (N _ hm).1, rfl, _, rfl⟩
  have hne : l ≠ s.heap.objs.size := Nat.ne_of_lt (Heap.lt_size (N _ hm).1)
  refine wpAny_pyIter_list hls ?_
  have W := Walks.list (prog := prog) (w := w) hh s.heap.objs.size l hne (List.toArray vs)
  rw [List.size_toArray] at W
  refine ⟨s.heap.objs.size, [s.heap.objs.size, l], vs.length, _, _, [(l, PySem.W.listOf (List.toArray vs) k)], news, J, rfl, W, fun b hb => ?_, fun i h st => ?_, hsz, ⟨⟨_, Heap.get?_push_size _ rfl, rfl, rfl⟩, hls.push _⟩, none_at F, Nat.ne_of_lt F.ns.lt, F.push _, fun p hp => ⟨Heap.get?_push_of_some _ (N p hp).1, (N p hp).2⟩, fun p hp => Nat.ne_of_lt (Heap.lt_size (N p hp).1), hj, fun i ys nx q p hp => ?_, hlen, ?_, done⟩
  · rcases of_mem2 hb with rfl | rfl
    · exact .inl rfl
    · exact .inr (.inr ⟨_, .head _⟩)
  · obtain ⟨⟨o, ho, _⟩, _⟩ := st; exact ⟨o, ho⟩
  · rw [List.mem_singleton.mp hp]; exact hsrc _ _ _ q
  · intro i v ys nx own C m₂ oK h tk E' hi hv hJ off dK hK FL FC N'
    exact turn i v ys nx own C m₂ oK h tk E' hi (by simpa using hv) hJ off dK hK FL FC N'

/-- a comprehension over a range from 0 -/
theorem lc_range {elt : PySem.Expr} {x : Str} {ifs : List PySem.Expr} {scope : Scope} {cl : List (Str × Addr)} {md : Addr → Str → Option Value} {Q : Addr → Shared → Prop} {r : Addr} {n : Nat} {b₀ : Int} {t₀ u₀ v₀ : Tok} {news : List (Addr × Obj)} (J : Nat → List Value → List (Addr × Obj) → Prop)
    (hh : A.handled = none) (hr : IsRange s.heap r 0 b₀ 1 t₀ u₀ v₀) (hb : b₀ = (n : Int)) (F : Fr h₀ L s.heap m) (N : News h₀ L s.heap news) (hsz : n ≤ 1000)
    (hj : J 0 [] news) (hlen : ∀ i ys nx, J i ys nx → ys.length ≤ i)
    (turn : LcTurn prog w A h₀ L env m scope cl x ifs elt n (fun i v => ∃ t, v = .int (i : Int) t) J s)
    (done : ∀ ys nx D k h tk, J n ys nx → Fr h₀ L h (md D) → News h₀ L h ((D, PySem.W.listOf (List.toArray ys) k) :: nx) → (∀ p ∈ nx, p.1 ≠ D) → Q D { s with heap := h, toks := tk }) :
    wpAny (model prog w) A (pyIter (.ref r)) (fun it s₂ => LcAt prog w A h₀ L env m scope cl x ifs elt md Q it s₂) E s := by
  subst hb
  have hsm : Builtin.Range.small 0 (n : Int) 1 = true := small_one (by omega) (by omega) (by omega) (by omega)
  refine wpAny_pyIter_range hr hsm ?_
  have hs0 : Builtin.Range.rangeSize 0 (n : Int) 1 = (n : Int) := by have := rangeSize_nat 0 n; simpa using this
  have W := LCg.range_walks (prog := prog) (w := w) (A := A) (I := s.heap.objs.size) hh 0 n
  refine ⟨s.heap.objs.size, [s.heap.objs.size], n, _, _, [], news, J, rfl, W, fun b hb => .inl (List.mem_singleton.mp hb), fun i h st => ⟨_, st⟩, hsz, ?_, none_at F, Nat.ne_of_lt F.ns.lt, F.push _, fun p hp => ⟨Heap.get?_push_of_some _ (N p hp).1, (N p hp).2⟩, fun p hp => Nat.ne_of_lt (Heap.lt_size (N p hp).1), hj, (by intro _ _ _ _ _ hp; cases hp), hlen, ?_, done⟩
  · rw [hs0]
    have e : IsRangeIter (s.heap.push { cls := .type "range_iterator", data := .fields #[rawInt 0, rawInt (n : Int), rawInt 1] }) s.heap.objs.size 0 (n : Int) 1 := Heap.get?_push_size _ rfl
    simpa using e
  · intro i v ys nx own C m₂ h tk E' hi hv hJ off hx FL FC kC N'
    exact turn i v ys nx own C m₂ h tk E' hi (by obtain ⟨t, e⟩ := hv; exact ⟨t, by rw [e, Int.zero_add]⟩) hJ off hx FL FC kC N'
end

section
variable {prog : Program} {w : World} {A : Around} {E : Value → Shared → Prop} {s : Shared}

theorem nextOf_tuple_item {it t : Addr} {i : Nat} {items : Array Value} {x : Value} {Q : Value → Shared → Prop} (hit : s.heap.IsTupleIter it t i)
    (ht : s.heap.IsTuple t items) (hx : items[i]? = some x)
    (hQ : ∀ h', h'.IsTupleIter it t (i + 1) → Heap.SameBut it s.heap h' → Q x { s with heap := h' }) :
    wpAny (model prog w) A (Builtin.SmallTypes.nextOf (.ref it)) Q E s := by
  obtain ⟨o, ho, hc, hd⟩ := id hit
  obtain ⟨ol, hol, _, nl, hdl⟩ := ht
  unfold Builtin.SmallTypes.nextOf
  refine wpAny_bind (wpAny_callSpecial?_slot (name := Str.ofString "__next__") hit.typeIs F.slot_tuple_iterator_next
    (wpAny_call_entry F.slot_tuple_iterator_next hit.typeIs F.entry_tuple_iterator_next ?_ (F.args_tuple_iterator_next_1 _)))
  show wpAny _ _ (field (.ref it) 0 >>= _) _ _ s
  refine wpAny_bind (wpAny_field ho hd (x := .ref t) rfl ?_)
  show wpAny _ _ (if (Value.ref t == Value.none) = true then _ else _) _ _ s
  rw [if_neg (show ¬ ((Value.ref t == Value.none) = true) from Bool.false_ne_true)]
  show wpAny _ _ (field (.ref it) 1 >>= _) _ _ s
  refine wpAny_bind (wpAny_field ho hd (x := .int i 0) rfl ?_)
  show wpAny _ _ (seqItems? (.ref t) >>= _) _ _ s
  refine wpAny_bind (wpAny_seqItems hol hdl ?_)
  simp only [Int.toNat_natCast, hx]
  refine wpAny_bind (wpAny_setField ho hd (by simp) (wpAny_pure ⟨x, rfl, wpAny_pure (hQ _ ?_ (Heap.SameBut.update ..))⟩))
  exact ⟨_, Heap.get?_update_self _ ho (Obj.isFreed_of_fields (Obj.data_mapFields hd _)), (Obj.cls_mapFields ..).trans hc, by
    rw [Obj.data_mapFields hd]; simp [rawInt]⟩

theorem nextOf_tuple_end {it t : Addr} {i : Nat} {items : Array Value} {Q : Value → Shared → Prop} (hh : A.handled = none)
    (hit : s.heap.IsTupleIter it t i) (ht : s.heap.IsTuple t items) (hx : items[i]? = none)
    (hE : ∀ h' e, Heap.ExtBut it s.heap h' → (∃ o, h'.get? e = some o ∧ o.cls = .type "StopIteration") → E (.ref e) { s with heap := h' }) :
    wpAny (model prog w) A (Builtin.SmallTypes.nextOf (.ref it)) Q E s := by
  obtain ⟨o, ho, hc, hd⟩ := id hit
  obtain ⟨ol, hol, _, nl, hdl⟩ := ht
  unfold Builtin.SmallTypes.nextOf
  refine wpAny_bind (wpAny_callSpecial?_slot (name := Str.ofString "__next__") hit.typeIs F.slot_tuple_iterator_next
    (wpAny_call_entry F.slot_tuple_iterator_next hit.typeIs F.entry_tuple_iterator_next ?_ (F.args_tuple_iterator_next_1 _)))
  show wpAny _ _ (field (.ref it) 0 >>= _) _ _ s
  refine wpAny_bind (wpAny_field ho hd (x := .ref t) rfl ?_)
  show wpAny _ _ (if (Value.ref t == Value.none) = true then _ else _) _ _ s
  rw [if_neg (show ¬ ((Value.ref t == Value.none) = true) from Bool.false_ne_true)]
  show wpAny _ _ (field (.ref it) 1 >>= _) _ _ s
  refine wpAny_bind (wpAny_field ho hd (x := .int i 0) rfl ?_)
  show wpAny _ _ (seqItems? (.ref t) >>= _) _ _ s
  refine wpAny_bind (wpAny_seqItems hol hdl ?_)
  simp only [Int.toNat_natCast, hx]
  refine wpAny_bind (wpAny_rule (wpAny_bind (wpAny_setField ho hd (by simp) ?_)))
  show wpAny _ _ (newExc (.type "StopIteration") [] >>= _) _ _ _
  refine wpAny_bind ?_
  simp only [newExc, newTuple]
  refine wpAny_bind (wpAny_newObj_type ?_ (by size_fits))
  refine wpAny_bind (m := firstArgMember _ _) (wpAny_of_eq (a := Value.none) (by first | rfl | (simp only [firstArgMember]; rfl)) ?_)
  refine wpAny_newObj_type ?_ (by size_fits)
  simp only [raiseNew]
  refine wpAny_bind (wpAny_handled ?_)
  first | rw [show A.in1.handled = none from hh] | rw [hh]
  refine wpAny_bind (wpAny_pure (wpAny_throw ?_))
  exact hE _ _ (((Heap.SameBut.update ..).extBut.push _).push _) ⟨_, Heap.get?_push_size _ rfl, rfl⟩

theorem nextOf_range_item {it : Addr} {x left step : Int} {Q : Value → Shared → Prop} (hit : IsRangeIter s.heap it x left step) (hleft : 0 < left)
    (hQ : ∀ h', IsRangeIter h' it (x + step) (left - 1) step → Heap.SameBut it s.heap h' → Q (.int x s.toks) { s with heap := h', toks := s.toks + 1 }) :
    wpAny (model prog w) A (Builtin.SmallTypes.nextOf (.ref it)) Q E s := by
  have hT : s.TypeIs (.ref it) "range_iterator" := ⟨_, hit, rfl⟩
  unfold Builtin.SmallTypes.nextOf
  refine wpAny_bind (wpAny_callSpecial?_slot (name := Str.ofString "__next__") hT F.slot_range_iterator_next
    (call_meets F.slot_range_iterator_next hT F.entry_range_iterator_next (F.args_range_iterator_next_1 _) (AutoRange.range_iterator___next___range_iterator_1 it x left step (by omega)) ⟨hit, ?_⟩))
  exact wpAny_pure (hQ _ (Heap.get?_update_self _ (Heap.get?_update_self _ hit rfl) rfl) ((Heap.SameBut.update ..).trans (Heap.SameBut.update ..)))

theorem nextOf_range_end {it : Addr} {x left step : Int} {Q : Value → Shared → Prop} (hh : A.handled = none) (hit : IsRangeIter s.heap it x left step) (hleft : left ≤ 0)
    (hE : ∀ h' e, Heap.ExtBut it s.heap h' → (∃ o, h'.get? e = some o ∧ o.cls = .type "StopIteration") → E (.ref e) { s with heap := h' }) :
    wpAny (model prog w) A (Builtin.SmallTypes.nextOf (.ref it)) Q E s := by
  have hT : s.TypeIs (.ref it) "range_iterator" := ⟨_, hit, rfl⟩
  unfold Builtin.SmallTypes.nextOf
  refine wpAny_bind (wpAny_callSpecial?_slot (name := Str.ofString "__next__") hT F.slot_range_iterator_next
    (wpAny_call_entry F.slot_range_iterator_next hT F.entry_range_iterator_next ?_ (F.args_range_iterator_next_1 _)))
  show wpAny _ _ (field (.ref it) 0 >>= _) _ _ s
  refine wpAny_bind (wpAny_field hit rfl (x := rawInt x) rfl ?_)
  show wpAny _ _ (field (.ref it) 1 >>= _) _ _ s
  refine wpAny_bind (wpAny_field hit rfl (x := rawInt left) rfl ?_)
  show wpAny _ _ (field (.ref it) 2 >>= _) _ _ s
  refine wpAny_bind (wpAny_field hit rfl (x := rawInt step) rfl ?_)
  show wpAny _ _ (if left ≤ 0 then _ else _) _ _ s
  rw [if_pos hleft]
  refine wpAny_bind (wpAny_rule ?_)
  refine wpAny_bind ?_
  show wpAny _ _ (newExc (.type "StopIteration") [] >>= _) _ _ _
  refine wpAny_bind ?_
  simp only [newExc, newTuple]
  refine wpAny_bind (wpAny_newObj_type ?_ (by size_fits))
  refine wpAny_bind (m := firstArgMember _ _) (wpAny_of_eq (a := Value.none) (by first | rfl | (simp only [firstArgMember]; rfl)) ?_)
  refine wpAny_newObj_type ?_ (by size_fits)
  simp only [raiseNew]
  refine wpAny_bind (wpAny_handled ?_)
  first | rw [show A.in1.handled = none from hh] | rw [hh]
  refine wpAny_bind (wpAny_pure (wpAny_throw ?_))
  exact hE _ _ (((Heap.ExtBut.refl it s.heap).push _).push _) ⟨_, Heap.get?_push_size _ rfl, rfl⟩
end

theorem dr_tuple {prog : Program} {w : World} {A : Around} (hh : A.handled = none) (it t : Addr) (hne : t ≠ it) (items : Array Value) :
    Draws prog w A it [it, t] items.size (fun i v => items[i]? = some v) (fun i h => h.IsTupleIter it t i ∧ h.IsTuple t items) where
  live := fun _ _ st => let ⟨o, ho, _⟩ := st.1; ⟨o, ho⟩
  frame := fun _ _ _ st hk => ⟨st.1.at fun o e => hk it (by simp) o e, st.2.at fun o e => hk t (by simp) o e⟩
  item := fun i s Q E hi st hQ => by
    refine nextOf_tuple_item st.1 st.2 (x := items[i]) (by simp [hi]) fun h' hit' hs' => ?_
    exact hQ _ h' s.toks (by simp [hi]) ⟨hit', st.2.extBut hs'.extBut hne⟩ hs'
  done := fun s Q E st hE => nextOf_tuple_end hh st.1 st.2 (by simp) hE

theorem dr_range {prog : Program} {w : World} {A : Around} (hh : A.handled = none) (it : Addr) (n : Nat) :
    Draws prog w A it [it] n (fun i v => ∃ t, v = .int (i : Int) t) (fun i h => IsRangeIter h it (i : Int) ((n : Int) - i) 1) where
  live := fun _ _ st => ⟨_, st⟩
  frame := fun _ _ _ st hk => hk it (by simp) _ st
  item := fun i s Q E hi st hQ => by
    refine nextOf_range_item st (by omega) fun h' hit' hs' => ?_
    refine hQ _ h' _ ⟨_, rfl⟩ ?_ hs'
    have e : (n : Int) - ((i + 1 : Nat) : Int) = (n : Int) - (i : Int) - 1 := by push_cast; omega
    have e2 : ((i + 1 : Nat) : Int) = (i : Int) + 1 := by push_cast; rfl
    rw [e, e2]; exact hit'
  done := fun s Q E st hE => nextOf_range_end hh st (by omega) hE

structure ZApart (z TI TO i1 i2 : Addr) (fp1 fp2 : List Addr) : Prop where
  TIz : TI ≠ z
  TOz : TO ≠ z
  TITO : TI ≠ TO
  i1z : i1 ≠ z
  i2z : i2 ≠ z
  TIi1 : TI ≠ i1
  TIi2 : TI ≠ i2
  TOi1 : TO ≠ i1
  TOi2 : TO ≠ i2
  i12 : i1 ≠ i2
  m1 : i1 ∈ fp1
  m2 : i2 ∈ fp2
  a1 : i2 ∉ fp1
  a2 : i1 ∉ fp2
  z1 : z ∉ fp1
  z2 : z ∉ fp2
  o1 : TO ∉ fp1
  o2 : TO ∉ fp2

section
variable {prog : Program} {w : World} {A : Around} {E : Value → Shared → Prop} {s : Shared}

theorem zip_itemD {z TI TO i1 i2 : Addr} {fp1 fp2 : List Addr} {n1 n2 k : Nat} {P1 P2 : Nat → Value → Prop} {St1 St2 : Nat → Heap → Prop} {a b : Value} {Q : Value → Shared → Prop} (D : ZApart z TI TO i1 i2 fp1 fp2)
    (D1 : Draws prog w A i1 fp1 n1 P1 St1) (D2 : Draws prog w A i2 fp2 n2 P2 St2) (hk1 : k < n1) (hk2 : k < n2)
    (hz : IsZip s.heap z TI TO .none) (hTI : IsPair s.heap TI (.ref i1) (.ref i2)) (hTO : IsPair s.heap TO a b) (h1 : St1 k s.heap) (h2 : St2 k s.heap)
    (hQ : ∀ x y h' tk, P1 k x → P2 k y → IsZip h' z TI TO (rawInt s.heap.objs.size) → IsPair h' TO x y → St1 (k + 1) h' → St2 (k + 1) h' → IsPair h' s.heap.objs.size x y → h'.objs.size = s.heap.objs.size + 1 →
      (∀ c o, c ≠ z → c ≠ TO → c ≠ i1 → c ≠ i2 → s.heap.get? c = some o → h'.get? c = some o) → Q (.ref s.heap.objs.size) { s with heap := h', toks := tk }) :
    wpAny (model prog w) A (Builtin.«zip.__next__» ⟨[.ref z], []⟩) (fun fin s' => ∃ v, fin = .done (.ret v) ∧ Q v s') E s := by
  show wpAny _ _ (field (.ref z) 2 >>= _) _ _ _
  refine wpAny_bind (wpAny_field hz rfl (x := .bool false) rfl ?_)
  show wpAny _ _ (field (.ref z) 3 >>= _) _ _ _
  refine wpAny_bind (wpAny_field hz rfl (x := .ref TI) rfl ?_)
  refine wpAny_bind (wpAny_seqItems hTI rfl ?_)
  show wpAny _ _ (Builtin.SmallTypes.ownedTupleIsFree (.ref z) >>= _) _ _ _
  refine wpAny_bind ?_
  unfold Builtin.SmallTypes.ownedTupleIsFree
  refine wpAny_bind (wpAny_field hz rfl (x := .none) rfl (wpAny_pure ?_))
  simp only [if_true]
  refine wpAny_bind (wpAny_rule ?_)
  refine wpAny_bind (wpAny_field hz rfl (x := .ref TO) rfl ?_)
  refine wpAny_bind (wpAny_setField_rec hz (by simp) fun h₁ hz₁ hs₁ => ?_)
  replace hz₁ : IsZip h₁ z TI TO .ellipsis := hz₁
  refine wpAny_bind ?_
  simp only [List.zipIdx_cons, List.zipIdx_nil, List.forIn_cons, List.forIn_nil]
  refine wpAny_bind (wpAny_bind (wpAny_onRaise ?_))
  show wpAny _ _ (Builtin.SmallTypes.nextOf (.ref i1) >>= _) _ _ _
  refine wpAny_bind (D1.item k _ _ _ hk1 (D1.frame _ _ _ h1 fun b hb o e => hs₁.extBut b o (fun q => D.z1 (q ▸ hb)) e) fun x h₂ tk₂ hP1 h1₂ hs₂ => wpAny_pure ?_)
  have hTO₂ : IsPair h₂ TO a b := hs₂.extBut _ _ D.TOi1 (hs₁.extBut _ _ D.TOz hTO)
  refine wpAny_bind (wpAny_seqItems hTO₂ rfl ?_)
  refine wpAny_bind (wpAny_updateSeq_pair hTO₂ fun h₃ hTO₃ hs₃ => ?_)
  replace hTO₃ : IsPair h₃ TO x b := hTO₃
  refine wpAny_bind (wpAny_letGo (wpAny_pure ?_))
  refine wpAny_bind (wpAny_bind (wpAny_onRaise ?_))
  show wpAny _ _ (Builtin.SmallTypes.nextOf (.ref i2) >>= _) _ _ _
  refine wpAny_bind (D2.item k _ _ _ hk2 (D2.frame _ _ _ h2 fun b hb o e => hs₃.extBut b o (fun q => D.o2 (q ▸ hb)) (hs₂.extBut b o (fun q => D.a2 (q ▸ hb)) (hs₁.extBut b o (fun q => D.z2 (q ▸ hb)) e))) fun y h₄ tk₄ hP2 h2₄ hs₄ => wpAny_pure ?_)
  have hTO₄ : IsPair h₄ TO x b := hs₄.extBut _ _ D.TOi2 hTO₃
  refine wpAny_bind (wpAny_seqItems hTO₄ rfl ?_)
  refine wpAny_bind (wpAny_updateSeq_pair hTO₄ fun h₅ hTO₅ hs₅ => ?_)
  replace hTO₅ : IsPair h₅ TO x y := hTO₅
  refine wpAny_bind (wpAny_letGo (wpAny_pure (wpAny_pure ?_)))
  refine wpAny_bind (wpAny_seqItems hTO₅ rfl ?_)
  refine wpAny_bind (wpAny_newTuple ?_)
  have hsz : h₅.objs.size = s.heap.objs.size := by rw [hs₅.1, hs₄.1, hs₃.1, hs₂.1, hs₁.1]
  have hz₅ : IsZip h₅ z TI TO .ellipsis := hs₅.extBut _ _ D.TOz.symm (hs₄.extBut _ _ D.i2z.symm (hs₃.extBut _ _ D.TOz.symm (hs₂.extBut _ _ D.i1z.symm hz₁)))
  have hk₅ : ∀ c o, c ≠ z → c ≠ TO → c ≠ i1 → c ≠ i2 → s.heap.get? c = some o → h₅.get? c = some o := fun c o c1 c2 c3 c4 e =>
    hs₅.extBut _ _ c2 (hs₄.extBut _ _ c4 (hs₃.extBut _ _ c2 (hs₂.extBut _ _ c3 (hs₁.extBut _ _ c1 e))))
  have h1₅ : St1 (k + 1) h₅ := D1.frame _ _ _ h1₂ fun b hb o e => hs₅.extBut b o (fun q => D.o1 (q ▸ hb)) (hs₄.extBut b o (fun q => D.a1 (q ▸ hb)) (hs₃.extBut b o (fun q => D.o1 (q ▸ hb)) e))
  have h2₅ : St2 (k + 1) h₅ := D2.frame _ _ _ h2₄ fun b hb o e => hs₅.extBut b o (fun q => D.o2 (q ▸ hb)) e
  have hzlt : z < h₅.objs.size := Heap.lt_size hz₅
  show wpAny _ _ (Builtin.SmallTypes.ownedTupleHandOut (.ref z) (.ref h₅.objs.size) >>= _) _ _ _
  refine wpAny_bind ?_
  unfold Builtin.SmallTypes.ownedTupleHandOut
  have hz₆ : IsZip (h₅.push { cls := .type "tuple", data := .seq #[x, y] }) z TI TO .ellipsis := Heap.get?_push_of_some _ hz₅
  refine wpAny_bind (wpAny_setField_rec hz₆ (by simp) fun h₇ hz₇ hs₇ => ?_)
  replace hz₇ : IsZip h₇ z TI TO (rawInt h₅.objs.size) := hz₇
  refine wpAny_setField_rec hz₇ (by simp) fun h₈ hz₈ hs₈ => ?_
  replace hz₈ : IsZip h₈ z TI TO (rawInt h₅.objs.size) := hz₈
  have up : ∀ c o, c ≠ z → h₅.get? c = some o → h₈.get? c = some o := fun c o c1 e => hs₈.extBut _ _ c1 (hs₇.extBut _ _ c1 (Heap.get?_push_of_some _ e))
  have hT₈ : IsPair h₈ h₅.objs.size x y := hs₈.extBut _ _ (Nat.ne_of_gt hzlt) (hs₇.extBut _ _ (Nat.ne_of_gt hzlt) (Heap.get?_push_size _ rfl))
  have hz8 : h₈.objs.size = h₅.objs.size + 1 := by rw [hs₈.1, hs₇.1, Heap.size_push]
  rw [hsz] at hz₈ hT₈ hz8
  refine wpAny_pure ⟨_, rfl, ?_⟩
  show Q (.ref h₅.objs.size) _
  rw [hsz]
  exact hQ x y h₈ _ hP1 hP2 hz₈ (up _ _ D.TOz hTO₅) (D1.frame _ _ _ h1₅ fun b hb o e => up b o (fun q => D.z1 (q ▸ hb)) e) (D2.frame _ _ _ h2₅ fun b hb o e => up b o (fun q => D.z2 (q ▸ hb)) e) hT₈ hz8 fun c o c1 c2 c3 c4 e => up c o c1 (hk₅ c o c1 c2 c3 c4 e)

theorem zip_endD {z TI TO i1 i2 : Addr} {fp1 fp2 : List Addr} {n1 n2 k : Nat} {P1 P2 : Nat → Value → Prop} {St1 St2 : Nat → Heap → Prop} {a b : Value} {Q : Fin → Shared → Prop} (D : ZApart z TI TO i1 i2 fp1 fp2)
    (D1 : Draws prog w A i1 fp1 n1 P1 St1) (D2 : Draws prog w A i2 fp2 n2 P2 St2) (hk : k = n1 ∨ (k < n1 ∧ k = n2))
    (hz : IsZip s.heap z TI TO .none) (hTI : IsPair s.heap TI (.ref i1) (.ref i2)) (hTO : IsPair s.heap TO a b) (h1 : St1 k s.heap) (h2 : St2 k s.heap)
    (hE : ∀ h' tk e, (∀ c o, c ≠ z → c ≠ TO → c ≠ i1 → c ≠ i2 → s.heap.get? c = some o → h'.get? c = some o) → (∃ o, h'.get? e = some o ∧ o.cls = .type "StopIteration") → E (.ref e) { s with heap := h', toks := tk }) :
    wpAny (model prog w) A (Builtin.«zip.__next__» ⟨[.ref z], []⟩) Q E s := by
  show wpAny _ _ (field (.ref z) 2 >>= _) _ _ _
  refine wpAny_bind (wpAny_field hz rfl (x := .bool false) rfl ?_)
  show wpAny _ _ (field (.ref z) 3 >>= _) _ _ _
  refine wpAny_bind (wpAny_field hz rfl (x := .ref TI) rfl ?_)
  refine wpAny_bind (wpAny_seqItems hTI rfl ?_)
  show wpAny _ _ (Builtin.SmallTypes.ownedTupleIsFree (.ref z) >>= _) _ _ _
  refine wpAny_bind ?_
  unfold Builtin.SmallTypes.ownedTupleIsFree
  refine wpAny_bind (wpAny_field hz rfl (x := .none) rfl (wpAny_pure ?_))
  simp only [if_true]
  refine wpAny_bind (wpAny_rule ?_)
  refine wpAny_bind (wpAny_field hz rfl (x := .ref TO) rfl ?_)
  refine wpAny_bind (wpAny_setField_rec hz (by simp) fun h₁ hz₁ hs₁ => ?_)
  replace hz₁ : IsZip h₁ z TI TO .ellipsis := hz₁
  refine wpAny_bind ?_
  simp only [List.zipIdx_cons, List.zipIdx_nil, List.forIn_cons, List.forIn_nil]
  refine wpAny_bind (wpAny_bind (wpAny_onRaise ?_))
  show wpAny _ _ (Builtin.SmallTypes.nextOf (.ref i1) >>= _) _ _ _
  rcases hk with rfl | ⟨hlt, rfl⟩
  · refine wpAny_bind (D1.done _ _ _ (D1.frame _ _ _ h1 fun b hb o e => hs₁.extBut b o (fun q => D.z1 (q ▸ hb)) e) fun h₂ e hs₂ he => ?_)
    obtain ⟨oe, hoe, hce⟩ := he
    have hz₂ : IsZip h₂ z TI TO .ellipsis := hs₂ _ _ D.i1z.symm hz₁
    have hez : e ≠ z := fun x => by subst x; rw [hz₂] at hoe; cases hoe; simp at hce
    refine wpAny_setField_rec hz₂ (by simp) fun h₃ _ hs₃ => hE h₃ _ e (fun c o c1 _ c3 _ x => hs₃.extBut _ _ c1 (hs₂ _ _ c3 (hs₁.extBut _ _ c1 x))) ⟨oe, hs₃.extBut _ _ hez hoe, hce⟩
  · refine wpAny_bind (D1.item k _ _ _ hlt (D1.frame _ _ _ h1 fun b hb o e => hs₁.extBut b o (fun q => D.z1 (q ▸ hb)) e) fun x h₂ tk₂ hP1 h1₂ hs₂ => wpAny_pure ?_)
    have hTO₂ : IsPair h₂ TO a b := hs₂.extBut _ _ D.TOi1 (hs₁.extBut _ _ D.TOz hTO)
    refine wpAny_bind (wpAny_seqItems hTO₂ rfl ?_)
    refine wpAny_bind (wpAny_updateSeq_pair hTO₂ fun h₃ hTO₃ hs₃ => ?_)
    refine wpAny_bind (wpAny_letGo (wpAny_pure ?_))
    refine wpAny_bind (wpAny_bind (wpAny_onRaise ?_))
    show wpAny _ _ (Builtin.SmallTypes.nextOf (.ref i2) >>= _) _ _ _
    refine wpAny_bind (D2.done _ _ _ (D2.frame _ _ _ h2 fun b hb o e => hs₃.extBut b o (fun q => D.o2 (q ▸ hb)) (hs₂.extBut b o (fun q => D.a2 (q ▸ hb)) (hs₁.extBut b o (fun q => D.z2 (q ▸ hb)) e))) fun h₄ e hs₄ he => ?_)
    obtain ⟨oe, hoe, hce⟩ := he
    have hz₄ : IsZip h₄ z TI TO .ellipsis := hs₄ _ _ D.i2z.symm (hs₃.extBut _ _ D.TOz.symm (hs₂.extBut _ _ D.i1z.symm hz₁))
    have hez : e ≠ z := fun x => by subst x; rw [hz₄] at hoe; cases hoe; simp at hce
    refine wpAny_setField_rec hz₄ (by simp) fun h₅ _ hs₅ => hE h₅ _ e (fun c o c1 c2 c3 c4 x => hs₅.extBut _ _ c1 (hs₄ _ _ c4 (hs₃.extBut _ _ c2 (hs₂.extBut _ _ c3 (hs₁.extBut _ _ c1 x))))) ⟨oe, hs₅.extBut _ _ hez hoe, hce⟩
end

theorem zip_walks {prog : Program} {w : World} {A : Around} {z TI TO i1 i2 : Addr} {fp1 fp2 : List Addr} {n1 n2 : Nat} {P1 P2 : Nat → Value → Prop} {St1 St2 : Nat → Heap → Prop} (D : ZApart z TI TO i1 i2 fp1 fp2)
    (D1 : Draws prog w A.in1 i1 fp1 n1 P1 St1) (D2 : Draws prog w A.in1 i2 fp2 n2 P2 St2) :
    WalksT prog w A z (z :: TI :: TO :: i1 :: i2 :: (fp1 ++ fp2)) [z, TO, i1, i2] (min n1 n2)
      (fun i vals => ∃ x y, P1 i x ∧ P2 i y ∧ vals = #[x, y])
      (fun i h => IsZip h z TI TO .none ∧ IsPair h TI (.ref i1) (.ref i2) ∧ (∃ a b, IsPair h TO a b) ∧ St1 i h ∧ St2 i h)
      (fun i T h => IsZip h z TI TO (rawInt T) ∧ IsPair h TI (.ref i1) (.ref i2) ∧ (∃ a b, IsPair h TO a b) ∧ St1 (i + 1) h ∧ St2 (i + 1) h ∧ T ≠ z ∧ T ≠ TO ∧ T ≠ i1 ∧ T ≠ i2) where
  sub := fun c hc => by rcases of_mem4 hc with rfl | rfl | rfl | rfl <;> first | exact .head _ | exact mem2 | exact mem3 | exact mem4
  frame := fun i h h' hst hk => by
    obtain ⟨hz, hTI, ⟨a, b, hTO⟩, h1, h2⟩ := hst
    exact ⟨hk z (.head _) _ hz, hk TI mem1 _ hTI, ⟨a, b, hk TO mem2 _ hTO⟩, D1.frame _ _ _ h1 fun b hb o e => hk b (mem5t (List.mem_append_left _ hb)) o e, D2.frame _ _ _ h2 fun b hb o e => hk b (mem5t (List.mem_append_right _ hb)) o e⟩
  item := fun i s Q E hi hst hQ => by
    obtain ⟨hz, hTI, ⟨a, b, hTO⟩, h1, h2⟩ := hst
    have hi1 : i < n1 := Nat.lt_of_lt_of_le hi (Nat.min_le_left ..)
    have hi2 : i < n2 := Nat.lt_of_lt_of_le hi (Nat.min_le_right ..)
    have hT : s.TypeIs (.ref z) "zip" := ⟨_, hz, rfl⟩
    unfold pyNext
    refine wpAny_bind (wpAny_attempt (wpAny_callSpecial?_slot (name := Str.ofString "__next__") hT F.slot_zip_next
      (wpAny_call_entry F.slot_zip_next hT F.entry_zip_next
        (zip_itemD D D1 D2 hi1 hi2 hz hTI hTO h1 h2 fun x y h' tk p1 p2 a1 a2 a3 a4 a5 a6 hk => wpAny_pure ?_) (F.args_zip_next_1 _))))
    have lt : ∀ {c o}, s.heap.get? c = some o → s.heap.objs.size ≠ c := fun e => Nat.ne_of_gt (Heap.lt_size e)
    obtain ⟨o1, e1⟩ := D1.live _ _ h1
    obtain ⟨o2, e2⟩ := D2.live _ _ h2
    exact hQ s.heap.objs.size #[x, y] h' tk ⟨_, _, p1, p2, rfl⟩ (Nat.le_refl _) ⟨_, a5, rfl, _, rfl⟩
      ⟨a1, hk _ _ D.TIz D.TITO D.TIi1 D.TIi2 hTI, ⟨_, _, a2⟩, a3, a4, lt hz, lt hTO, lt e1, lt e2⟩
      fun c o hc e => hk c o (fun x => hc (memE x)) (fun x => hc (.tail _ (memE x))) (fun x => hc (.tail _ (.tail _ (memE x)))) (fun x => hc (.tail _ (.tail _ (.tail _ (memE x))))) e
  go := fun elts k pos i T s Q E hm hQ => by
    obtain ⟨hz, hTI, ⟨a, b, hTO⟩, h1, h2, _⟩ := hm
    refine wpAny_letOwnedTupleGo_zip hz fun h' hz' hs' => hQ h' ⟨hz', hs'.extBut _ _ D.TIz hTI, ⟨a, b, hs'.extBut _ _ D.TOz hTO⟩, D1.frame _ _ _ h1 fun b hb o e => hs'.extBut b o (fun q => D.z1 (q ▸ hb)) e, D2.frame _ _ _ h2 fun b hb o e => hs'.extBut b o (fun q => D.z2 (q ▸ hb)) e⟩ fun c o hc e => hs'.extBut _ _ (fun x => hc (by simp [x])) e
  apart := fun i T h hm hT => by
    obtain ⟨_, _, _, _, _, t1, t2, t3, t4⟩ := hm
    rcases of_mem4 hT with rfl | rfl | rfl | rfl
    · exact t1 rfl
    · exact t2 rfl
    · exact t3 rfl
    · exact t4 rfl
  done := fun s Q E hst hQ => by
    obtain ⟨hz, hTI, ⟨a, b, hTO⟩, h1, h2⟩ := hst
    have hT : s.TypeIs (.ref z) "zip" := ⟨_, hz, rfl⟩
    have hend : min n1 n2 = n1 ∨ (min n1 n2 < n1 ∧ min n1 n2 = n2) := by omega
    unfold pyNext
    refine wpAny_bind (wpAny_attempt (wpAny_callSpecial?_slot (name := Str.ofString "__next__") hT F.slot_zip_next
      (wpAny_call_entry F.slot_zip_next hT F.entry_zip_next (zip_endD D D1 D2 hend hz hTI hTO h1 h2 fun h' tk e hk he => ?_) (F.args_zip_next_1 _))))
    obtain ⟨o, ho, hc⟩ := he
    refine wpAny_bind (wpAny_isInstance (T := "StopIteration") (b := true) ⟨o, ho, hc⟩ isSubtype_stop ?_)
    exact wpAny_pure (hQ _ _ fun c o hc e => hk c o (fun x => hc (memE x)) (fun x => hc (.tail _ (memE x))) (fun x => hc (.tail _ (.tail _ (memE x)))) (fun x => hc (.tail _ (.tail _ (.tail _ (memE x))))) e)
  self := fun i s Q E hst hQ => wpAny_pyIter_zip hst.1 hQ

theorem nne {a b : Nat} (h : a ≠ b) : @Ne Addr a b := h
theorem nnm {n k : Nat} {f : List Addr} {j : Nat} (h1 : ∀ b ∈ f, (b : Nat) < n) (hk : j ≠ k) (hn : n ≤ j) : (j : Addr) ∉ ((k : Addr) :: f) := fun h => by
  rcases List.mem_cons.mp h with h | h
  · exact hk h
  · exact absurd (Nat.lt_of_lt_of_le (h1 _ h) hn) (Nat.lt_irrefl _)
theorem zapart_new {n : Nat} {f1 f2 : List Addr} (h1 : ∀ b ∈ f1, b < n) (h2 : ∀ b ∈ f2, b < n) : ZApart (n + 4) (n + 2) (n + 3) n (n + 1) (n :: f1) ((n + 1) :: f2) where
  TIz := nne (by omega)
  TOz := nne (by omega)
  TITO := nne (by omega)
  i1z := nne (by omega)
  i2z := nne (by omega)
  TIi1 := nne (by omega)
  TIi2 := nne (by omega)
  TOi1 := nne (by omega)
  TOi2 := nne (by omega)
  i12 := nne (by omega)
  m1 := .head _
  m2 := .head _
  a1 := nnm h1 (by omega) (by omega)
  a2 := nnm h2 (by omega) (by omega)
  z1 := nnm h1 (by omega) (by omega)
  z2 := nnm h2 (by omega) (by omega)
  o1 := nnm h1 (by omega) (by omega)
  o2 := nnm h2 (by omega) (by omega)

noncomputable abbrev zH2 (h : Heap) (o1 o2 : Obj) : Heap := (h.push o1).push o2
noncomputable abbrev zH3 (h : Heap) (o1 o2 : Obj) : Heap := (zH2 h o1 o2).push { cls := .type "tuple", data := .seq #[.ref h.objs.size, .ref (h.push o1).objs.size] }
noncomputable abbrev zH4 (h : Heap) (o1 o2 : Obj) : Heap := (zH3 h o1 o2).push { cls := .type "tuple", data := .seq #[.none, .none] }
noncomputable abbrev zH5 (h : Heap) (o1 o2 : Obj) : Heap := (zH4 h o1 o2).push { cls := .type "zip", data := .fields #[.none, .bool false, .bool false, .ref (zH2 h o1 o2).objs.size, .ref (zH3 h o1 o2).objs.size] }

theorem meets_zip_tt (l1 l2 : Addr) (xs ys : Array Value) :
    Meets (Builtin.«zip.__new__» ⟨[.type "zip", .ref l1, .ref l2], []⟩) (fun _ R s => s.heap.IsTuple l1 xs ∧ s.heap.IsTuple l2 ys ∧
      R (.ok (.ret (.ref (zH4 s.heap { cls := .type "tuple_iterator", data := .fields #[.ref l1, .int 0 0] } { cls := .type "tuple_iterator", data := .fields #[.ref l2, .int 0 0] }).objs.size)))
        { s with heap := zH5 s.heap { cls := .type "tuple_iterator", data := .fields #[.ref l1, .int 0 0] } { cls := .type "tuple_iterator", data := .fields #[.ref l2, .int 0 0] } }) :=
  .of_wp fun prog w A R s h => by
    obtain ⟨hp, g, d, tk, os⟩ := s; obtain ⟨hl1, hl2, h⟩ := h
    have hsub := sub_zip
    have hL1 : Heap.IsTuple (Shared.heap ⟨hp, g, d, tk, os⟩) l1 xs := hl1
    have hL2 : Heap.IsTuple (Shared.heap ⟨hp.push { cls := .type "tuple_iterator", data := .fields #[.ref l1, .int 0 0] }, g, d, tk, os⟩) l2 ys := Heap.IsTuple.push hl2 _
    wp_walk using wpAny_pyIter_tuple hL1, wpAny_pyIter_tuple hL2
    exact ⟨_, rfl, h⟩
theorem meets_zip_rt (l1 l2 : Addr) (a b c : Int) (t u v : Tok) (hsm : Builtin.Range.small a b c = true) (ys : Array Value) :
    Meets (Builtin.«zip.__new__» ⟨[.type "zip", .ref l1, .ref l2], []⟩) (fun _ R s => IsRange s.heap l1 a b c t u v ∧ s.heap.IsTuple l2 ys ∧
      R (.ok (.ret (.ref (zH4 s.heap { cls := .type "range_iterator", data := .fields #[rawInt a, rawInt (Builtin.Range.rangeSize a b c), rawInt c] } { cls := .type "tuple_iterator", data := .fields #[.ref l2, .int 0 0] }).objs.size)))
        { s with heap := zH5 s.heap { cls := .type "range_iterator", data := .fields #[rawInt a, rawInt (Builtin.Range.rangeSize a b c), rawInt c] } { cls := .type "tuple_iterator", data := .fields #[.ref l2, .int 0 0] } }) :=
  .of_wp fun prog w A R s h => by
    obtain ⟨hp, g, d, tk, os⟩ := s; obtain ⟨hl1, hl2, h⟩ := h
    have hsub := sub_zip
    have hL1 : IsRange (Shared.heap ⟨hp, g, d, tk, os⟩) l1 a b c t u v := hl1
    have hL2 : Heap.IsTuple (Shared.heap ⟨hp.push { cls := .type "range_iterator", data := .fields #[rawInt a, rawInt (Builtin.Range.rangeSize a b c), rawInt c] }, g, d, tk, os⟩) l2 ys := Heap.IsTuple.push hl2 _
    wp_walk using wpAny_pyIter_range hL1 hsm, wpAny_pyIter_tuple hL2
    exact ⟨_, rfl, h⟩

theorem zH_facts (h : Heap) (o1 o2 : Obj) (f1 : o1.isFreed = false) (f2 : o2.isFreed = false) :
    (zH4 h o1 o2).objs.size = h.objs.size + 4 ∧ IsZip (zH5 h o1 o2) (h.objs.size + 4) (h.objs.size + 2) (h.objs.size + 3) .none ∧ IsPair (zH5 h o1 o2) (h.objs.size + 2) (.ref h.objs.size) (.ref (h.objs.size + 1)) ∧
    IsPair (zH5 h o1 o2) (h.objs.size + 3) .none .none ∧ (zH5 h o1 o2).get? h.objs.size = some o1 ∧ (zH5 h o1 o2).get? (h.objs.size + 1) = some o2 ∧ ∀ c o, h.get? c = some o → (zH5 h o1 o2).get? c = some o := by
  have z1 : (h.push o1).objs.size = h.objs.size + 1 := Heap.size_push ..
  have z2 : (zH2 h o1 o2).objs.size = h.objs.size + 2 := by rw [Heap.size_push, z1]
  have z3 : (zH3 h o1 o2).objs.size = h.objs.size + 3 := by rw [Heap.size_push, z2]
  have z4 : (zH4 h o1 o2).objs.size = h.objs.size + 4 := by rw [Heap.size_push, z3]
  have g5 : (zH5 h o1 o2).get? (zH4 h o1 o2).objs.size = some _ := Heap.get?_push_size _ rfl
  have g4 : (zH5 h o1 o2).get? (zH3 h o1 o2).objs.size = some _ := Heap.get?_push_of_some _ (Heap.get?_push_size _ rfl)
  have g3 : (zH5 h o1 o2).get? (zH2 h o1 o2).objs.size = some _ := Heap.get?_push_of_some _ (Heap.get?_push_of_some _ (Heap.get?_push_size _ rfl))
  have g2 : (zH5 h o1 o2).get? (h.push o1).objs.size = some o2 := Heap.get?_push_of_some _ (Heap.get?_push_of_some _ (Heap.get?_push_of_some _ (Heap.get?_push_size _ f2)))
  have g1 : (zH5 h o1 o2).get? h.objs.size = some o1 := Heap.get?_push_of_some _ (Heap.get?_push_of_some _ (Heap.get?_push_of_some _ (Heap.get?_push_of_some _ (Heap.get?_push_size _ f1))))
  rw [z2, z3, z4] at g5
  rw [z1, z2] at g3
  rw [z3] at g4
  rw [z1] at g2
  exact ⟨z4, g5, g3, g4, g1, g2, fun c o x => Heap.get?_push_of_some _ (Heap.get?_push_of_some _ (Heap.get?_push_of_some _ (Heap.get?_push_of_some _ (Heap.get?_push_of_some _ x))))⟩

section
variable {prog : Program} {w : World} {A : Around} {E : Value → Shared → Prop} {s : Shared}

theorem call_zip_tt {l1 l2 : Addr} {xs ys : Array Value} {Q : Value → Shared → Prop} (hl1 : s.heap.IsTuple l1 xs) (hl2 : s.heap.IsTuple l2 ys)
    (h : ∀ h', IsZip h' (s.heap.objs.size + 4) (s.heap.objs.size + 2) (s.heap.objs.size + 3) .none → IsPair h' (s.heap.objs.size + 2) (.ref s.heap.objs.size) (.ref (s.heap.objs.size + 1)) →
      IsPair h' (s.heap.objs.size + 3) .none .none → h'.IsTupleIter s.heap.objs.size l1 0 → h'.IsTupleIter (s.heap.objs.size + 1) l2 0 →
      (∀ c o, s.heap.get? c = some o → h'.get? c = some o) → Q (.ref (s.heap.objs.size + 4)) { s with heap := h' }) :
    wpAny (model prog w) A (call (.type "zip") [.ref l1, .ref l2]) Q E s := by
  obtain ⟨z4, g5, g3, g4, g1, g2, hk⟩ := zH_facts s.heap { cls := .type "tuple_iterator", data := .fields #[.ref l1, .int 0 0] } { cls := .type "tuple_iterator", data := .fields #[.ref l2, .int 0 0] } rfl rfl
  refine callType_new F.called_zip (by decide) (F.typeCall_zip_2 _ _) (F.newCall_zip_2 _ _) (fun obj => F.args_object_init_3 obj _ _) F.entry_zip_new
    (meets_zip_tt l1 l2 xs ys) ⟨hl1, hl2, ?_⟩
  show _ ∧ _
  rw [z4]
  exact ⟨⟨_, g5, rfl⟩, h _ g5 g3 g4 ⟨_, g1, rfl, rfl⟩ ⟨_, g2, rfl, rfl⟩ hk⟩
theorem call_zip_rt {l1 l2 : Addr} {ys : Array Value} {n : Nat} {b₀ : Int} {t u v : Tok} {Q : Value → Shared → Prop} (hl1 : IsRange s.heap l1 0 b₀ 1 t u v) (hb : b₀ = (n : Int)) (hn : n ≤ 1000) (hl2 : s.heap.IsTuple l2 ys)
    (h : ∀ h', IsZip h' (s.heap.objs.size + 4) (s.heap.objs.size + 2) (s.heap.objs.size + 3) .none → IsPair h' (s.heap.objs.size + 2) (.ref s.heap.objs.size) (.ref (s.heap.objs.size + 1)) →
      IsPair h' (s.heap.objs.size + 3) .none .none → IsRangeIter h' s.heap.objs.size 0 n 1 → h'.IsTupleIter (s.heap.objs.size + 1) l2 0 →
      (∀ c o, s.heap.get? c = some o → h'.get? c = some o) → Q (.ref (s.heap.objs.size + 4)) { s with heap := h' }) :
    wpAny (model prog w) A (call (.type "zip") [.ref l1, .ref l2]) Q E s := by
  subst hb
  have hsm : Builtin.Range.small 0 (n : Int) 1 = true := small_one (by omega) (by omega) (by omega) (by omega)
  have hs0 : Builtin.Range.rangeSize 0 (n : Int) 1 = (n : Int) := by have := rangeSize_nat 0 n; simpa using this
  obtain ⟨z4, g5, g3, g4, g1, g2, hk⟩ := zH_facts s.heap { cls := .type "range_iterator", data := .fields #[rawInt 0, rawInt (Builtin.Range.rangeSize 0 (n : Int) 1), rawInt 1] } { cls := .type "tuple_iterator", data := .fields #[.ref l2, .int 0 0] } rfl rfl
  refine callType_new F.called_zip (by decide) (F.typeCall_zip_2 _ _) (F.newCall_zip_2 _ _) (fun obj => F.args_object_init_3 obj _ _) F.entry_zip_new
    (meets_zip_rt l1 l2 0 (n : Int) 1 t u v hsm ys) ⟨hl1, hl2, ?_⟩
  show _ ∧ _
  rw [z4]
  exact ⟨⟨_, g5, rfl⟩, h _ g5 g3 g4 (by rw [hs0] at g1 ⊢; exact g1) ⟨_, g2, rfl, rfl⟩ hk⟩
end

noncomputable abbrev Fm := (Str → Option Value) → Str → Option Value
/-- one turn of an iterator into a target, whatever both are -/
structure Steps (prog : Program) (w : World) (A : Around) (target : PySem.Expr) (env : Env) (it : Value) (fp priv : List Addr) (n : Nat) (P : Nat → Fm → Prop) (St : Nat → Heap → Prop) : Prop where
  frame : ∀ i h h', St i h → (∀ b ∈ fp, ∀ o, h.get? b = some o → h'.get? b = some o) → St i h'
  live : ∀ i h, St i h → ∀ b ∈ priv, ∃ o, h.get? b = some o
  item : ∀ i (s : Shared) (m : Str → Option Value) (Q : Shared → Prop) (E : Value → Shared → Prop), i < n → St i s.heap → s.heap.Ns env.locals m →
    (∀ f h tk, P i f → St (i + 1) h → h.Ns env.locals (f m) → (∀ b o, b ∉ priv → b ≠ env.locals → s.heap.get? b = some o → h.get? b = some o) → Q { s with heap := h, toks := tk }) →
    wpAny (model prog w) A (pyNext it) (fun r s₁ => ∃ v, r = some v ∧ wpAny (model prog w) A (letOwnedTupleGo target it v) (fun _ s₂ => wpAny (model prog w) A (assign target env v) (fun _ s₃ => Q s₃) E s₂) E s₁) E s
  done : ∀ (s : Shared) (Q : Option Value → Shared → Prop) (E : Value → Shared → Prop), St n s.heap → (∀ h tk, (∀ b o, b ∉ priv → s.heap.get? b = some o → h.get? b = some o) → Q none { s with heap := h, toks := tk }) → wpAny (model prog w) A (pyNext it) Q E s
  self : ∀ i (s : Shared) (Q : Value → Shared → Prop) (E : Value → Shared → Prop), St i s.heap → Q it s → wpAny (model prog w) A (pyIter it) Q E s

theorem Steps.name {prog : Program} {w : World} {A : Around} {env : Env} {x : Str} {px : Pos} {I : Addr} {fp priv : List Addr} {n : Nat} {P : Nat → Value → Prop} {St : Nat → Heap → Prop} (W : Walks prog w A I fp [I] n P St)
    (hI : I ∈ priv) (live : ∀ i h, St i h → ∀ b ∈ priv, ∃ o, h.get? b = some o) (hL : env.locals ∉ fp) (hx : env.kindOf x = some .local) (hp : (env.scope.kind == .class || (env.scope.kind == .module && env.locals != env.globals)) = false) :
    Steps prog w A (.Name x px) env (.ref I) fp priv n (fun i f => ∃ v, P i v ∧ f = fun m y => if y = x then some v else m y) St where
  frame := W.frame
  live := live
  item := fun i s m Q E hi st hn hQ => by
    refine W.item i s _ E hi st fun v h₁ tk₁ hP st₁ hk₁ => ⟨v, rfl, ?_⟩
    show wpAny _ _ (pure ()) _ _ _
    refine wpAny_pure ?_
    have hIL : env.locals ≠ I := fun q => hL (q ▸ W.sub I (List.mem_singleton.mpr rfl))
    refine wpAny_assign_Name (wpAny_storeName_local hx (hn.at' fun o e => hk₁ _ o (by simpa using hIL) e) (fun h₂ hn₂ hs₂ => ?_) hp)
    refine hQ _ h₂ _ ⟨v, hP, rfl⟩ (W.frame _ _ _ st₁ fun b hb o e => hs₂.extBut b o (fun q => hL (q ▸ hb)) e) hn₂ fun b o hb hbL e => hs₂.extBut b o hbL (hk₁ b o (fun q => hb ((List.mem_singleton.mp q) ▸ hI)) e)
  done := fun s Q E st hQ => W.done s Q E st fun h tk hk => hQ h tk fun b o hb e => hk b o (fun q => hb ((List.mem_singleton.mp q) ▸ hI)) e
  self := W.self

theorem Steps.none {prog : Program} {w : World} {A : Around} {env : Env} {target : PySem.Expr} {I : Addr} {fp priv : List Addr} {P : Nat → Value → Prop} {St : Nat → Heap → Prop} (W : Walks prog w A I fp [I] 0 P St)
    (hI : I ∈ priv) (live : ∀ i h, St i h → ∀ b ∈ priv, ∃ o, h.get? b = some o) :
    Steps prog w A target env (.ref I) fp priv 0 (fun _ _ => False) St where
  frame := W.frame
  live := live
  item := fun i s m Q E hi => absurd hi (Nat.not_lt_zero _)
  done := fun s Q E st hQ => W.done s Q E st fun h tk hk => hQ h tk fun b o hb e => hk b o (fun q => hb ((List.mem_singleton.mp q) ▸ hI)) e
  self := W.self

theorem Steps.pair {prog : Program} {w : World} {A : Around} {env : Env} {x y : Str} {px py tp : Pos} {x1 : Nat} {I : Addr} {fp wr priv : List Addr} {n : Nat} {Pt : Nat → Array Value → Prop} {P : Nat → Value → Value → Prop} {St : Nat → Heap → Prop} {Mid : Nat → Addr → Heap → Prop} (W : WalksT prog w A I fp wr n Pt St Mid)
    (hPt : ∀ i vals, Pt i vals → ∃ a b, vals = #[a, b] ∧ P i a b) (hh : A.handled = .none)
    (hI : ∀ b ∈ wr, b ∈ priv) (live : ∀ i h, St i h → ∀ b ∈ priv, ∃ o, h.get? b = some o) (hL : env.locals ∉ fp) (hx : env.kindOf x = some .local) (hy : env.kindOf y = some .local) (hp : (env.scope.kind == .class || (env.scope.kind == .module && env.locals != env.globals)) = false) :
    Steps prog w A (.Tuple [.Name x px, .Name y py] x1 tp) env (.ref I) fp priv n (fun i f => ∃ a b, P i a b ∧ f = fun m z => if z = y then some b else if z = x then some a else m z) St where
  frame := W.frame
  live := live
  item := fun i s m Q E hi st hn hQ => by
    refine W.item i s _ E hi st fun T vals h₁ tk₁ hP _ hT hm hk₁ => ⟨.ref T, rfl, ?_⟩
    obtain ⟨a, b, rfl, hP'⟩ := hPt i vals hP
    have hLw : env.locals ∉ wr := fun q => hL (W.sub _ q)
    refine W.go _ _ _ i T _ _ _ hm fun h₂ st₂ hk₂ => ?_
    have hT₂ : IsTup h₂ T #[a, b] := by
      obtain ⟨o, e, r⟩ := hT
      exact ⟨o, hk₂ _ _ (W.apart _ _ _ hm) e, r⟩
    refine assign_Tuple_tuple hh hT₂ rfl rfl fun h₃ he => ?_
    have he' : ∀ b o, h₂.get? b = some o → h₃.get? b = some o := fun b o e => he b o (Nat.ne_of_lt (Heap.lt_size e)) e
    refine assignInOrder_cons (wpAny_assign_Name (wpAny_storeName_local hx (((hn.at' fun o e => hk₁ _ o hLw e).at' fun o e => hk₂ _ o hLw e).at' fun o e => he' _ o e) (fun h₄ hn₄ hs₄ => ?_) hp))
    refine assignInOrder_cons (wpAny_assign_Name (wpAny_storeName_local hy hn₄ (fun h₅ hn₅ hs₅ => ?_) hp))
    refine assignInOrder_nil ?_
    refine hQ _ h₅ _ ⟨a, b, hP', rfl⟩ (W.frame _ _ _ st₂ fun c hc o e => hs₅.extBut c o (fun q => hL (q ▸ hc)) (hs₄.extBut c o (fun q => hL (q ▸ hc)) (he' c o e))) hn₅
      fun c o hc hcL e => hs₅.extBut c o hcL (hs₄.extBut c o hcL (he' c o (hk₂ c o (fun q => hc (hI _ q)) (hk₁ c o (fun q => hc (hI _ q)) e))))
  done := fun s Q E st hQ => W.done s Q E st fun h tk hk => hQ h tk fun b o hb e => hk b o (fun q => hb (hI _ q)) e
  self := W.self

theorem live_list {h : Heap} : ∀ {priv : List Addr}, (∀ b ∈ priv, ∃ o, h.get? b = some o) → ∃ po : List (Addr × Obj), (∀ p ∈ po, p.1 ∈ priv ∧ h.get? p.1 = some p.2) ∧ ∀ b ∈ priv, ∃ o, (b, o) ∈ po
  | [], _ => ⟨[], (fun _ hp => nomatch hp), (fun _ hb => nomatch hb)⟩
  | b :: bs, hl => by
    obtain ⟨o, e⟩ := hl b (.head _)
    obtain ⟨po, h1, h2⟩ := live_list (priv := bs) fun b hb => hl b (.tail _ hb)
    refine ⟨(b, o) :: po, fun p hp => ?_, fun c hc => ?_⟩
    · rcases List.mem_cons.mp hp with rfl | hp
      · exact ⟨.head _, e⟩
      · exact ⟨.tail _ (h1 p hp).1, (h1 p hp).2⟩
    · rcases List.mem_cons.mp hc with rfl | hc
      · exact ⟨o, .head _⟩
      · obtain ⟨o', h'⟩ := h2 c hc; exact ⟨o', .tail _ h'⟩

theorem off_list (l : List Nat) : ∃ c, c ∉ l := by
  have hle : ∀ (l : List Nat) (z c : Nat), (c ∈ l → c ≤ l.foldl (· + ·) z) ∧ z ≤ l.foldl (· + ·) z := by
    intro l
    induction l with
    | nil => intro z c; exact ⟨(fun h => nomatch h), Nat.le_refl _⟩
    | cons d ds ih =>
      intro z c
      obtain ⟨i1, i2⟩ := ih (z + d) c
      refine ⟨fun h => ?_, Nat.le_trans (Nat.le_add_right z d) i2⟩
      rcases List.mem_cons.mp h with rfl | h
      · exact Nat.le_trans (Nat.le_add_left _ _) i2
      · exact i1 h
  exact ⟨l.foldl (· + ·) 0 + 1, fun h => Nat.not_succ_le_self _ ((hle l 0 _).1 h)⟩

section
variable {prog : Program} {w : World} {A : Around} {E : Value → Shared → Prop} {s : Shared} {env : Env} {h₀ : Heap} {m : Str → Option Value}

/- COMPREHENSIONS OF PAIRS -/
noncomputable def LtTurn (prog : Program) (w : World) (A : Around) (h₀ : Heap) (env : Env) (m : Str → Option Value) (scope : Scope) (cl : List (Str × Addr)) (elt : PySem.Expr) (n : Nat) (P : Nat → Fm → Prop) (J : Nat → List Value → List (Addr × Obj) → Prop) (s₂ : Shared) : Prop :=
  ∀ i f ys nx own C m₁ h tk E', i < n → P i f → J i ys nx → OwnOff own (nx.map (·.1)) → Fr h₀ env.locals h m → Fr h₀ C h (f m₁) → News h₀ env.locals h (nx ++ own) →
    wpAny (model prog w) A (eval elt (compEnvC scope cl C env)) (fun y s₄ => LcEnd h₀ env.locals m (J (i + 1) (ys ++ [y])) own { s₂ with heap := h, toks := tk } s₄) E' { s₂ with heap := h, toks := tk }

noncomputable def LtAt (prog : Program) (w : World) (A : Around) (h₀ : Heap) (env : Env) (m : Str → Option Value) (scope : Scope) (cl : List (Str × Addr)) (target elt : PySem.Expr) (Q : Value → Shared → Prop) (it : Value) (s₂ : Shared) : Prop :=
  ∃ (fp priv : List Addr) (n : Nat) (P : Nat → Fm → Prop) (St : Nat → Heap → Prop) (src news : List (Addr × Obj)) (J : Nat → List Value → List (Addr × Obj) → Prop),
    (∀ C, C ∉ fp → Steps prog w A target (compEnvC scope cl C env) it fp priv n P St) ∧ (∀ b ∈ fp, b ∈ priv ∨ (∃ o, h₀.get? b = some o) ∨ ∃ o, (b, o) ∈ src) ∧ n ≤ 1000 ∧ St 0 s₂.heap ∧ (∀ b ∈ priv, h₀.get? b = none ∧ b ≠ env.locals) ∧
    Fr h₀ env.locals s₂.heap m ∧ News h₀ env.locals s₂.heap news ∧ (∀ p ∈ news, p.1 ∉ priv) ∧ J 0 [] news ∧ (∀ i ys nx, J i ys nx → ∀ p ∈ src, p ∈ nx) ∧ (∀ i ys nx, J i ys nx → ys.length ≤ i) ∧
    LtTurn prog w A h₀ env m scope cl elt n P J s₂ ∧
    ∀ ys nx D k h tk, J n ys nx → Fr h₀ env.locals h m → News h₀ env.locals h ((D, PySem.W.listOf (List.toArray ys) k) :: nx) → (∀ p ∈ nx, p.1 ≠ D) → Q (.ref D) { s₂ with heap := h, toks := tk }

inductive LtInv (h₀ : Heap) (L C D : Addr) (m : Str → Option Value) (n : Nat) (St : Nat → Heap → Prop) (J : Nat → List Value → List (Addr × Obj) → Prop) (priv : List Addr) (s₂ : Shared) : Nat → Shared → Prop
  | mk (i : Nat) (ys : List Value) (nx : List (Addr × Obj)) (m₁ : Str → Option Value) (e : Nat) (h : Heap) (tk : Nat) (hi : i ≤ n) (hst : St i h) (hJ : J i ys nx) (F : Fr h₀ L h m) (FC : Fr h₀ C h m₁) (N : News h₀ L h ((D, PySem.W.listOf (List.toArray ys) e) :: nx)) (hn : ∀ p ∈ nx, p.1 ≠ D ∧ p.1 ≠ C ∧ p.1 ∉ priv) : LtInv h₀ L C D m n St J priv s₂ (n + 1 - i) { s₂ with heap := h, toks := tk }
theorem lt_loop {elt iter : PySem.Expr} {elts : List PySem.Expr} {x1 : Nat} {tp : Pos} {scope : Scope} {cl : List (Str × Addr)} {pos : Pos} {it : Value} {C D : Addr} {fp priv : List Addr} {n : Nat} {P : Nat → Fm → Prop} {St : Nat → Heap → Prop} {src news : List (Addr × Obj)} {J : Nat → List Value → List (Addr × Obj) → Prop} {R : Result → Shared → Prop} {m₀ : Str → Option Value} {s₂ : Shared}
    (W : Steps prog w A (.Tuple elts x1 tp) (compEnvC scope cl C env) it fp priv n P St) (hfp : ∀ b ∈ fp, b ∈ priv ∨ (∃ o, h₀.get? b = some o) ∨ ∃ o, (b, o) ∈ src) (hsz : n ≤ 1000)
    (hst : St 0 s.heap) (hpv : ∀ b ∈ priv, h₀.get? b = none ∧ b ≠ env.locals) (hDp : D ∉ priv) (hCp : C ∉ priv) (hC0 : h₀.get? C = none) (hD0 : h₀.get? D = none) (hDC : D ≠ C) (hLC : env.locals ≠ C) (hLD : env.locals ≠ D)
    (F : Fr h₀ env.locals s.heap m) (FC : Fr h₀ C s.heap m₀) (N : News h₀ env.locals s.heap ((D, PySem.W.listOf (List.toArray []) 0) :: news)) (hne : ∀ p ∈ news, p.1 ≠ D ∧ p.1 ≠ C ∧ p.1 ∉ priv)
    (hj : J 0 [] news) (hsrc : ∀ i ys nx, J i ys nx → ∀ p ∈ src, p ∈ nx) (hlen : ∀ i ys nx, J i ys nx → ys.length ≤ i)
    (hs₂ : s = { s₂ with heap := s.heap, toks := s.toks })
    (turn : LtTurn prog w A h₀ env m scope cl elt n P J s₂)
    (hR : ∀ ys nx k h tk m₁, J n ys nx → Fr h₀ env.locals h m → Fr h₀ C h m₁ → News h₀ env.locals h ((D, PySem.W.listOf (List.toArray ys) k) :: nx) → (∀ p ∈ nx, p.1 ≠ D ∧ p.1 ≠ C) → R (.ok .next) { s₂ with heap := h, toks := tk }) :
    codeAny (model prog w) A (.compLoop (.ListComp elt [⟨.Tuple elts x1 tp, iter, [], 0⟩] scope pos) 0 it (.ref D) (compEnvC scope cl C env)) R s := by
  refine LCp.codeAny_compLoop_pair
    (LtInv h₀ env.locals C D m n St J priv s₂) ?_ (n + 1)
    (by rw [hs₂]; exact .mk 0 [] news m₀ 0 s.heap s.toks (Nat.zero_le _) hst hj F FC N hne)
  rintro _ _ ⟨i, ys, nx, m₁, e, h, tk, hi, hst', hJ, F₁, FC₁, N₁, hn₁⟩
  have hLp : env.locals ∉ priv := fun q => (hpv _ q).2 rfl
  by_cases hlt : i < n
  · refine wpAny_mono (W.item i _ m₁ (fun s₃ => wpAny (model prog w) A (eval elt (compEnvC scope cl C env)) (fun y s₄ => wpAny (model prog w) A (call (.builtin "list.append") [.ref D, y])
        (fun _ s₅ => ∃ k', k' < n + 1 - i ∧ LtInv h₀ env.locals C D m n St J priv s₂ k' s₅)
        (notedBy (model prog w) A (compEnvC scope cl C env) fun e s' => R (.error e) s') s₄) (notedBy (model prog w) A (compEnvC scope cl C env) fun e s' => R (.error e) s') s₃)
      (notedBy (model prog w) A (compEnvC scope cl C env) fun e s' => R (.error e) s') hlt hst' FC₁.ns fun f h₂ tk₂ hP hst₂ hnC hk₂ => ?_) (fun r s₁ h₁ => ?_) fun _ _ q => q
    · have hk₂ : ∀ b o, b ∉ priv → b ≠ C → h.get? b = some o → h₂.get? b = some o := hk₂
      have hnC : h₂.Ns C (f m₁) := hnC
      have keep2 : ∀ b o, h₀.get? b = some o → h₂.get? b = some o := fun b o q => hk₂ b o (fun z => by rw [(hpv _ z).1] at q; cases q) (by rintro rfl; rw [hC0] at q; cases q) (F₁.keep b o q)
      obtain ⟨oL, esL, epL, eL, rL⟩ := id F₁.ns
      have eL₂ : h₂.get? env.locals = some oL := hk₂ _ _ hLp hLC eL
      obtain ⟨oC₂, esC₂, epC₂, eC₂, rC₂⟩ := id hnC
      obtain ⟨po, po1, po2⟩ := live_list (W.live _ _ hst₂)
      have hD₁ := N₁ _ (.head _)
      have eD₂ : h₂.get? D = some (PySem.W.listOf (List.toArray ys) e) := hk₂ _ _ hDp hDC hD₁.1
      have F₂ : Fr h₀ env.locals h₂ m := ⟨⟨oL, esL, epL, eL₂, rL⟩, keep2, F₁.above⟩
      have FC₂ : Fr h₀ C h₂ (f m₁) := ⟨hnC, keep2, FC₁.above⟩
      have N₂ : News h₀ env.locals h₂ (nx ++ ((D, PySem.W.listOf (List.toArray ys) e) :: (C, oC₂) :: po)) := fun p hp => by
        rcases List.mem_append.mp hp with hp | hp
        · have z := N₁ p (.tail _ hp); have z' := hn₁ p hp
          exact ⟨hk₂ _ _ z'.2.2 z'.2.1 z.1, z.2⟩
        · rcases List.mem_cons.mp hp with rfl | hp
          · exact ⟨eD₂, Ne.symm hLD, hD0⟩
          · rcases List.mem_cons.mp hp with rfl | hp
            · exact ⟨eC₂, Ne.symm hLC, hC0⟩
            · exact ⟨(po1 p hp).2, (hpv _ (po1 p hp).1).2, (hpv _ (po1 p hp).1).1⟩
      have off : OwnOff ((D, PySem.W.listOf (List.toArray ys) e) :: (C, oC₂) :: po) (nx.map (·.1)) := by
        intro p hp b hb
        obtain ⟨q, hq, rfl⟩ := List.mem_map.mp hb
        have z := hn₁ q hq
        rcases List.mem_cons.mp hp with rfl | hp
        · exact Ne.symm z.1
        · rcases List.mem_cons.mp hp with rfl | hp
          · exact Ne.symm z.2.1
          · exact fun q' => z.2.2 (q' ▸ (po1 p hp).1)
      refine wpAny_mono (turn i f ys nx _ C m₁ h₂ tk₂ _ hlt hP hJ off F₂ FC₂ N₂) (fun y s₄ h₄ => ?_) fun _ _ q => q
      obtain ⟨h₃, tk₃, nx', news', rfl, F₃, N₃, hin, hown, hoff, hJ'⟩ := h₄
      have o1 := N₃ _ (hown _ (.head _))
      have o2 := N₃ _ (hown _ (.tail _ (.head _)))
      have hnx : ∀ p ∈ nx', p.1 ≠ D ∧ p.1 ≠ C ∧ p.1 ∉ priv := fun p hp =>
        have hm := List.mem_map_of_mem (f := (·.1)) hp
        ⟨Ne.symm (hoff _ (.head _) _ hm), Ne.symm (hoff _ (.tail _ (.head _)) _ hm), fun q => by
          obtain ⟨o, ho⟩ := po2 _ q
          exact hoff _ (.tail _ (.tail _ ho)) _ hm rfl⟩
      have hst₃ : St (i + 1) h₃ := W.frame _ _ _ hst₂ fun b hb o q => by
        rcases hfp b hb with r | ⟨o', r⟩ | ⟨o', r⟩
        · obtain ⟨o', ho⟩ := po2 _ r
          have z := (po1 _ ho).2
          dsimp only at z
          rw [z] at q; cases q
          exact (N₃ _ (hown _ (.tail _ (.tail _ ho)))).1
        · rw [keep2 _ _ r] at q; cases q; exact F₃.keep _ _ r
        · have z := N₂ _ (List.mem_append_left _ (hsrc _ _ _ hJ _ r))
          rw [z.1] at q; cases q
          exact (N₃ _ (hin _ (hsrc _ _ _ hJ' _ r))).1
      have hys : ys.length ≤ 1000 := Nat.le_trans (hlen _ _ _ hJ) (Nat.le_trans hi hsz)
      refine append_at (hsz := by rw [List.size_toArray, sizeLine_eq]; omega) o1.1 fun h₅ hs₅ ho₅ => ?_
      have e9 : (List.toArray ys).push y = List.toArray (ys ++ [y]) := by simp
      rw [e9] at ho₅
      refine ⟨n + 1 - (i + 1), by omega, .mk (i + 1) (ys ++ [y]) nx' _ (e + 1) h₅ tk₃ hlt ?_ hJ' (F₃.change hs₅ (Ne.symm hLD) hD0) ((lc_ns FC₂ eC₂ o2.1 F₃.keep).change hs₅ hDC hD0) (fun p hp => ?_) hnx⟩
      · refine W.frame _ _ _ hst₃ fun b hb o q => (hs₅.2 b ?_).trans q
        rintro rfl
        rcases hfp b hb with r | ⟨o', r⟩ | ⟨o', r⟩
        · exact hDp r
        · rw [hD0] at r; cases r
        · exact (hnx _ (hsrc _ _ _ hJ' _ r)).1 rfl
      · rcases List.mem_cons.mp hp with rfl | hp
        · exact ⟨ho₅, o1.2⟩
        · exact ⟨(hs₅.2 _ (hnx p hp).1).trans (N₃ _ (hin _ hp)).1, (N₃ _ (hin _ hp)).2⟩
    · obtain ⟨v, rfl, h₁⟩ := h₁
      exact h₁
  · have hin : i = n := by omega
    subst hin
    refine W.done _ _ _ hst' fun h₁ tk₁ hk₁ => ?_
    have keep1 : ∀ b o, h₀.get? b = some o → h₁.get? b = some o := fun b o q => hk₁ b o (fun z => by rw [(hpv _ z).1] at q; cases q) (F₁.keep b o q)
    obtain ⟨oL, esL, epL, eL, rL⟩ := id F₁.ns
    obtain ⟨oC, esC, epC, eC, rC⟩ := id FC₁.ns
    refine hR ys nx e h₁ tk₁ m₁ hJ ⟨⟨oL, esL, epL, hk₁ _ _ hLp eL, rL⟩, keep1, F₁.above⟩ ⟨⟨oC, esC, epC, hk₁ _ _ hCp eC, rC⟩, keep1, FC₁.above⟩ (fun p hp => ?_) fun p hp => ⟨(hn₁ p hp).1, (hn₁ p hp).2.1⟩
    rcases List.mem_cons.mp hp with rfl | hp
    · exact ⟨hk₁ _ _ hDp (N₁ _ (.head _)).1, (N₁ _ (.head _)).2⟩
    · exact ⟨hk₁ _ _ (hn₁ p hp).2.2 (N₁ _ (.tail _ hp)).1, (N₁ _ (.tail _ hp)).2⟩

theorem lt_eval {elt iter : PySem.Expr} {elts : List PySem.Expr} {x1 : Nat} {tp : Pos} {scope : Scope} {cl : List (Str × Addr)} {pos : Pos} {Q : Value → Shared → Prop} (_F : Fr h₀ env.locals s.heap m)
    (hclos : closureFor scope env = pure cl) (hcell : ∀ y ∈ scope.names, y.2 ≠ .cell) (hkind : scope.kind = .function)
    (hnames : ∀ y ∈ scope.names, y.2 = .local → scope.names.lookup y.1 = some .local)
    (h : wpAny (model prog w) A (eval iter env) (fun xv s₁ => wpAny (model prog w) A (pyIter xv) (fun it s₂ => LtAt prog w A h₀ env m scope cl (.Tuple elts x1 tp) elt Q it s₂) E s₁) E s)
    (hs : ∀ x, foldedSetIterable iter env x = pure x) :
    wpAny (model prog w) A (eval (.ListComp elt [⟨.Tuple elts x1 tp, iter, [], 0⟩] scope pos) env) Q E s := by
  rw [eval_ListComp]
  refine wpAny_comprehension_free (use := .none) rfl hs hclos hkind hnames (wpAny_mono h (fun xv s₁ h₁ => wpAny_mono h₁ (fun it s₂ h₂ => ?_) fun _ _ e => e) fun _ _ e => e)
  obtain ⟨fp, priv, n, P, St, src, news, J, W, hfp, hsz, hst, hpv, F, N, hne, hj, hsrc, hlen, turn, done⟩ := h₂
  refine wpAny_newObj_type (wpAny_newFunctionEnv hcell (by intro y hy; simp at hy) (fun h₁ hns₁ hsb₁ => ?_) hkind)
  dsimp only at hns₁ hsb₁ ⊢
  generalize hH2 : s₂.heap.push { cls := .type "list", dict := .none, data := .seq ([] : List Value).toArray } = H2 at hns₁ hsb₁ ⊢
  have hC : H2.objs.size = s₂.heap.objs.size + 1 := by rw [← hH2, Heap.size_push]
  have hDC : s₂.heap.objs.size ≠ H2.objs.size := by rw [hC]; exact Nat.ne_of_lt (Nat.lt_succ_self _)
  have below : ∀ b, b < s₂.heap.objs.size → b ≠ H2.objs.size ∧ b ≠ s₂.heap.objs.size := fun b hb => ⟨by rw [hC]; exact Nat.ne_of_lt (Nat.lt_succ_of_lt hb), Nat.ne_of_lt hb⟩
  have old : ∀ b o, s₂.heap.get? b = some o → h₁.get? b = some o := fun b o q => hsb₁.extBut b o (below b (Heap.lt_size q)).1 (Heap.get?_push_of_some _ (hH2 ▸ Heap.get?_push_of_some _ q))
  have hacc : h₁.get? s₂.heap.objs.size = some { cls := .type "list", dict := .none, data := .seq ([] : List Value).toArray } := hsb₁.extBut _ _ hDC (Heap.get?_push_of_some _ (hH2 ▸ Heap.get?_push_size _ rfl))
  have hLlt : env.locals < s₂.heap.objs.size := F.ns.lt
  have none0 : ∀ a, s₂.heap.objs.size ≤ a → h₀.get? a = .none := fun a ha => by
    cases q : h₀.get? a with
    | none => rfl
    | some o' => exact absurd (Heap.lt_size (F.keep _ _ q)) (Nat.not_lt.mpr ha)
  have keep1 : ∀ b o, h₀.get? b = some o → h₁.get? b = some o := fun b o q => old b o (F.keep b o q)
  obtain ⟨oL, esL, epL, eL, rL⟩ := id F.ns
  have FC : Fr h₀ H2.objs.size h₁ _ := ⟨hns₁, keep1, by rw [hC]; exact Nat.le_succ_of_le (Nat.le_trans F.above (Nat.le_of_lt hLlt))⟩
  -- what is private or in the source lies below
  have plive : ∀ b ∈ priv, b < s₂.heap.objs.size := fun b hb => by
    obtain ⟨c, hc⟩ := off_list fp
    obtain ⟨o, e⟩ := (W c hc).live _ _ hst b hb
    exact Heap.lt_size e
  have flive : ∀ b ∈ fp, b < s₂.heap.objs.size := fun b hb => by
    rcases hfp b hb with r | ⟨o', r⟩ | ⟨o', r⟩
    · exact plive b r
    · exact Heap.lt_size (F.keep _ _ r)
    · exact Heap.lt_size (N _ (hsrc _ _ _ hj _ r)).1
  have W₁ := W H2.objs.size fun q => (below _ (flive _ q)).1 rfl
  have loop : ∀ s₃ : Shared, s₃ = { s₂ with heap := h₁, toks := s₂.toks + ([] : List (Str × Value)).length } →
      codeAny (model prog w) A (.compLoop (.ListComp elt [⟨.Tuple elts x1 tp, iter, [], 0⟩] scope pos) 0 it (.ref s₂.heap.objs.size) (compEnvC scope cl H2.objs.size env))
        (compPost (model prog w) A E .none Q (.ref s₂.heap.objs.size) H2.objs.size) s₃ := by
    rintro s₃ rfl
    refine lt_loop (s₂ := s₂) (C := H2.objs.size) W₁ hfp hsz (W₁.frame _ _ _ hst fun b _ o q => old b o q) hpv (fun q => (below _ (plive _ q)).2 rfl) (fun q => (below _ (plive _ q)).1 rfl) (none0 _ (by rw [hC]; exact Nat.le_succ _)) (none0 _ (Nat.le_refl _)) hDC
      (below _ hLlt).1 (below _ hLlt).2 ⟨⟨oL, esL, epL, old _ _ eL, rL⟩, keep1, F.above⟩ FC (fun p hp => ?_) (fun p hp => ?_) hj hsrc hlen rfl turn fun ys nx k h tk m₁ hJ F' FC' N' hn' => ?_
    · rcases List.mem_cons.mp hp with rfl | hp
      · exact ⟨hacc, Ne.symm (below _ hLlt).2, none0 _ (Nat.le_refl _)⟩
      · exact ⟨old _ _ (N p hp).1, (N p hp).2⟩
    · have z := Heap.lt_size (N p hp).1
      exact ⟨(below _ z).2, (below _ z).1, hne p hp⟩
    · have hC0 : h₀.get? H2.objs.size = .none := none0 _ (by rw [hC]; exact Nat.le_succ _)
      exact ⟨m₁, FC'.ns, fun h'' hs'' => done ys nx _ k h'' tk hJ (F'.change hs'' (Ne.symm (below _ hLlt).1) hC0) (fun p hp => by
        rcases List.mem_cons.mp hp with rfl | hp
        · exact ⟨(hs''.2 _ hDC).trans (N' _ (.head _)).1, (N' _ (.head _)).2⟩
        · exact ⟨(hs''.2 _ (hn' p hp).2).trans (N' _ (.tail _ hp)).1, (N' _ (.tail _ hp)).2⟩) fun p hp => (hn' p hp).1⟩
  exact codeAny_compStart_list (loop _ rfl) (W₁.self 0 _ _ _ (W₁.frame _ _ _ hst fun b _ o q => old b o q) (loop _ rfl))

/- FOR -/
noncomputable def LfEnd (kp : Bool) (h₀ : Heap) (L : Addr) (Jn : (Str → Option Value) → List (Addr × Obj) → Prop) (own : List (Addr × Obj)) (s₁ : Shared) (f : Flow) (s₂ : Shared) : Prop :=
  ∃ h' tk dr nx' news' m', (f = .next ∨ f = .cont) ∧ s₂ = { s₁ with heap := h', toks := tk, drawn := dr } ∧ (kp = true → dr = s₁.drawn) ∧ Fr h₀ L h' m' ∧ News h₀ L h' news' ∧ (∀ p ∈ nx', p ∈ news') ∧ (∀ p ∈ own, p ∈ news') ∧ OwnOff own (nx'.map (·.1)) ∧ Jn m' nx'
theorem LfEnd.intro {kp : Bool} {L : Addr} {Jn : (Str → Option Value) → List (Addr × Obj) → Prop} {own nx' news' : List (Addr × Obj)} {s₁ : Shared} {h' : Heap} {tk : Nat} {m' : Str → Option Value} (F : Fr h₀ L h' m') (N : News h₀ L h' news') (hj : Jn m' nx') (ha : OwnOff own (nx'.map (·.1))) (hn : ∀ p ∈ nx', p ∈ news') (ho : ∀ p ∈ own, p ∈ news') :
    LfEnd kp h₀ L Jn own s₁ .next { s₁ with heap := h', toks := tk } := ⟨h', tk, s₁.drawn, nx', news', m', .inl rfl, rfl, fun _ => rfl, F, N, hn, ho, ha, hj⟩
noncomputable def LoTurn (kp : Bool) (PO : List (Addr × Obj) → Prop) (prog : Program) (w : World) (A : Around) (h₀ : Heap) (env : Env) (body : List Stmt) (n : Nat) (P : Nat → Fm → Prop) (J : Nat → (Str → Option Value) → List (Addr × Obj) → Prop) (s₂ : Shared) : Prop :=
  ∀ i f m₁ nx own h tk dr E', i < n → P i f → J i m₁ nx → OwnOff own (nx.map (·.1)) → PO own → (kp = true → dr = s₂.drawn) → Fr h₀ env.locals h (f m₁) → News h₀ env.locals h (nx ++ own) →
    wpAny (model prog w) A (execs body env) (LfEnd kp h₀ env.locals (J (i + 1)) own { s₂ with heap := h, toks := tk, drawn := dr }) E' { s₂ with heap := h, toks := tk, drawn := dr }

noncomputable def LoAt (kp : Bool) (PO : List (Addr × Obj) → Prop) (prog : Program) (w : World) (A : Around) (h₀ : Heap) (env : Env) (target : PySem.Expr) (body : List Stmt) (Q : Flow → Shared → Prop) (it : Value) (s₂ : Shared) : Prop :=
  ∃ (fp priv : List Addr) (n : Nat) (P : Nat → Fm → Prop) (St : Nat → Heap → Prop) (src news : List (Addr × Obj)) (J : Nat → (Str → Option Value) → List (Addr × Obj) → Prop) (m : Str → Option Value),
    Steps prog w A target env it fp priv n P St ∧ (∀ b ∈ fp, b ∈ priv ∨ (∃ o, h₀.get? b = some o) ∨ ∃ o, (b, o) ∈ src) ∧ St 0 s₂.heap ∧ (∀ b ∈ priv, h₀.get? b = none ∧ b ≠ env.locals) ∧ (∀ i h po, St i h → (∀ p ∈ po, p.1 ∈ priv ∧ h.get? p.1 = some p.2) → PO po) ∧
    Fr h₀ env.locals s₂.heap m ∧ News h₀ env.locals s₂.heap news ∧ (∀ p ∈ news, p.1 ∉ priv) ∧ J 0 m news ∧ (∀ i m nx, J i m nx → ∀ p ∈ src, p ∈ nx) ∧
    LoTurn kp PO prog w A h₀ env body n P J s₂ ∧
    ∀ m' nx h tk dr, J n m' nx → (kp = true → dr = s₂.drawn) → Fr h₀ env.locals h m' → News h₀ env.locals h nx → Q .next { s₂ with heap := h, toks := tk, drawn := dr }

inductive LoInv (kp : Bool) (h₀ : Heap) (L : Addr) (n : Nat) (St : Nat → Heap → Prop) (J : Nat → (Str → Option Value) → List (Addr × Obj) → Prop) (priv : List Addr) (s₂ : Shared) : Nat → Shared → Prop
  | mk (i : Nat) (nx : List (Addr × Obj)) (m₁ : Str → Option Value) (h : Heap) (tk : Nat) (dr : Drawn) (hdr : kp = true → dr = s₂.drawn) (hi : i ≤ n) (hst : St i h) (hJ : J i m₁ nx) (F : Fr h₀ L h m₁) (N : News h₀ L h nx) (hn : ∀ p ∈ nx, p.1 ∉ priv) : LoInv kp h₀ L n St J priv s₂ (n + 1 - i) { s₂ with heap := h, toks := tk, drawn := dr }
theorem lo_For {kp : Bool} {PO : List (Addr × Obj) → Prop} {target iter : PySem.Expr} {body : List Stmt} {pos : Pos} {Q : Flow → Shared → Prop}
    (h : wpAny (model prog w) A (eval iter env) (fun xv s₁ => wpAny (model prog w) A (pyIter xv) (fun it s₂ => LoAt kp PO prog w A h₀ env target body Q it s₂) E s₁) E s)
    (hs : ∀ x, foldedSetIterable iter env x = pure x) :
    wpAny (model prog w) A (exec (.For target iter body [] pos) env) Q E s := by
  refine wpAny_For (wpAny_mono h (fun xv s₁ h₁ => wpAny_mono h₁ (fun it s₂ h₂ => ?_) fun _ _ e => e) fun _ _ e => e) hs
  obtain ⟨fp, priv, n, P, St, src, news, J, m, W, hfp, hst, hpv, hnt, F, N, hne, hj, hsrc, turn, done⟩ := h₂
  refine codeAny_forLoop_any (R := fun r s' => match r with | .ok f => Q f s' | .error e => cameBackBy (model prog w) A env E e s')
    (LoInv kp h₀ env.locals n St J priv s₂) ?_ (n + 1)
    (.mk 0 news m s₂.heap s₂.toks s₂.drawn (fun _ => rfl) (Nat.zero_le _) hst hj F N hne)
  rintro _ _ ⟨i, nx, m₁, h, tk, dr, hdr, hi, hst', hJ, F₁, N₁, hn₁⟩
  have hLp : env.locals ∉ priv := fun q => (hpv _ q).2 rfl
  by_cases hlt : i < n
  · refine wpAny_mono (W.item i _ m₁ (fun s₃ => wpAny (model prog w) A (execs body env) (fun f s₃ => match f with
            | .next | .cont => ∃ k', k' < n + 1 - i ∧ LoInv kp h₀ env.locals n St J priv s₂ k' s₃
            | .brk => Q .next s₃
            | .ret v => Q (.ret v) s₃) (notedBy (model prog w) A env fun e s' => cameBackBy (model prog w) A env E e s') s₃)
      (notedBy (model prog w) A env fun e s' => cameBackBy (model prog w) A env E e s') hlt hst' F₁.ns fun f h₂ tk₂ hP hst₂ hnL hk₂ => ?_) (fun r s₁ h₁ => ?_) fun _ _ q => q
    · have keep2 : ∀ b o, h₀.get? b = some o → h₂.get? b = some o := fun b o q => hk₂ b o (fun z => by rw [(hpv _ z).1] at q; cases q) (by rintro rfl; rw [Heap.get?_none_of_le F₁.above] at q; cases q) (F₁.keep b o q)
      obtain ⟨po, po1, po2⟩ := live_list (W.live _ _ hst₂)
      have F₂ : Fr h₀ env.locals h₂ (f m₁) := ⟨hnL, keep2, F₁.above⟩
      have N₂ : News h₀ env.locals h₂ (nx ++ po) := fun p hp => by
        rcases List.mem_append.mp hp with hp | hp
        · have z := N₁ p hp
          exact ⟨hk₂ _ _ (hn₁ p hp) z.2.1 z.1, z.2⟩
        · exact ⟨(po1 p hp).2, (hpv _ (po1 p hp).1).2, (hpv _ (po1 p hp).1).1⟩
      have off : OwnOff po (nx.map (·.1)) := by
        intro p hp b hb
        obtain ⟨q, hq, rfl⟩ := List.mem_map.mp hb
        exact fun q' => hn₁ q hq (q' ▸ (po1 p hp).1)
      refine wpAny_mono (turn i f m₁ nx po h₂ tk₂ dr _ hlt hP hJ off (hnt _ _ _ hst₂ po1) hdr F₂ N₂) (fun fl s₄ h₄ => ?_) fun _ _ q => q
      obtain ⟨h₃, tk₃, dr₃, nx', news', m', hfl, rfl, hdr₃, F₃, N₃, hin, hown, hoff, hJ'⟩ := h₄
      have hnx : ∀ p ∈ nx', p.1 ∉ priv := fun p hp q => by
        obtain ⟨o, ho⟩ := po2 _ q
        exact hoff _ ho _ (List.mem_map_of_mem (f := (·.1)) hp) rfl
      have hst₃ : St (i + 1) h₃ := W.frame _ _ _ hst₂ fun b hb o q => by
        rcases hfp b hb with r | ⟨o', r⟩ | ⟨o', r⟩
        · obtain ⟨o', ho⟩ := po2 _ r
          have z := (po1 _ ho).2
          dsimp only at z
          rw [z] at q; cases q
          exact (N₃ _ (hown _ ho)).1
        · rw [keep2 _ _ r] at q; cases q; exact F₃.keep _ _ r
        · have z := N₂ _ (List.mem_append_left _ (hsrc _ _ _ hJ _ r))
          rw [z.1] at q; cases q
          exact (N₃ _ (hin _ (hsrc _ _ _ hJ' _ r))).1
      have fin : ∃ k', k' < n + 1 - i ∧ LoInv kp h₀ env.locals n St J priv s₂ k' { s₂ with heap := h₃, toks := tk₃, drawn := dr₃ } :=
        ⟨n + 1 - (i + 1), by omega, .mk (i + 1) nx' m' h₃ tk₃ dr₃ (fun q => (hdr₃ q).trans (hdr q)) hlt hst₃ hJ' F₃ (fun p hp => N₃ p (hin p hp)) hnx⟩
      rcases hfl with rfl | rfl
      · exact fin
      · exact fin
    · obtain ⟨v, rfl, h₁⟩ := h₁
      exact h₁
  · have hin : i = n := by omega
    subst hin
    refine W.done _ _ _ hst' fun h₁ tk₁ hk₁ => wpAny_execs_nil ?_
    have keep1 : ∀ b o, h₀.get? b = some o → h₁.get? b = some o := fun b o q => hk₁ b o (fun z => by rw [(hpv _ z).1] at q; cases q) (F₁.keep b o q)
    obtain ⟨oL, esL, epL, eL, rL⟩ := id F₁.ns
    exact done m₁ nx h₁ tk₁ dr hJ hdr ⟨⟨oL, esL, epL, hk₁ _ _ hLp eL, rL⟩, keep1, F₁.above⟩ fun p hp => ⟨hk₁ _ _ (hn₁ p hp) (N₁ p hp).1, (N₁ p hp).2⟩
noncomputable def LfTurn (kp : Bool) (prog : Program) (w : World) (A : Around) (h₀ : Heap) (env : Env) (body : List Stmt) (n : Nat) (P : Nat → Fm → Prop) (J : Nat → (Str → Option Value) → List (Addr × Obj) → Prop) (s₂ : Shared) : Prop :=
  ∀ i f m₁ nx own h tk dr E', i < n → P i f → J i m₁ nx → OwnOff own (nx.map (·.1)) → (kp = true → dr = s₂.drawn) → Fr h₀ env.locals h (f m₁) → News h₀ env.locals h (nx ++ own) →
    wpAny (model prog w) A (execs body env) (LfEnd kp h₀ env.locals (J (i + 1)) own { s₂ with heap := h, toks := tk, drawn := dr }) E' { s₂ with heap := h, toks := tk, drawn := dr }

noncomputable def LfAt (kp : Bool) (prog : Program) (w : World) (A : Around) (h₀ : Heap) (env : Env) (target : PySem.Expr) (body : List Stmt) (Q : Flow → Shared → Prop) (it : Value) (s₂ : Shared) : Prop :=
  ∃ (fp priv : List Addr) (n : Nat) (P : Nat → Fm → Prop) (St : Nat → Heap → Prop) (src news : List (Addr × Obj)) (J : Nat → (Str → Option Value) → List (Addr × Obj) → Prop) (m : Str → Option Value),
    Steps prog w A target env it fp priv n P St ∧ (∀ b ∈ fp, b ∈ priv ∨ (∃ o, h₀.get? b = some o) ∨ ∃ o, (b, o) ∈ src) ∧ St 0 s₂.heap ∧ (∀ b ∈ priv, h₀.get? b = none ∧ b ≠ env.locals) ∧
    Fr h₀ env.locals s₂.heap m ∧ News h₀ env.locals s₂.heap news ∧ (∀ p ∈ news, p.1 ∉ priv) ∧ J 0 m news ∧ (∀ i m nx, J i m nx → ∀ p ∈ src, p ∈ nx) ∧
    LfTurn kp prog w A h₀ env body n P J s₂ ∧
    ∀ m' nx h tk dr, J n m' nx → (kp = true → dr = s₂.drawn) → Fr h₀ env.locals h m' → News h₀ env.locals h nx → Q .next { s₂ with heap := h, toks := tk, drawn := dr }

theorem lf_For {kp : Bool} {target iter : PySem.Expr} {body : List Stmt} {pos : Pos} {Q : Flow → Shared → Prop}
    (h : wpAny (model prog w) A (eval iter env) (fun xv s₁ => wpAny (model prog w) A (pyIter xv) (fun it s₂ => LfAt kp prog w A h₀ env target body Q it s₂) E s₁) E s)
    (hs : ∀ x, foldedSetIterable iter env x = pure x) :
    wpAny (model prog w) A (exec (.For target iter body [] pos) env) Q E s :=
  lo_For (PO := fun _ => True) (wpAny_mono h (fun xv s₁ h₁ => wpAny_mono h₁ (fun it s₂ h₂ => by
    obtain ⟨fp, priv, n, P, St, src, news, J, m, W, hfp, hst, hpv, F, N, hne, hj, hsrc, turn, done⟩ := h₂
    exact ⟨fp, priv, n, P, St, src, news, J, m, W, hfp, hst, hpv, fun _ _ _ _ _ => trivial, F, N, hne, hj, hsrc, fun i f m₁ nx own h tk dr E' a b c d _ => turn i f m₁ nx own h tk dr E' a b c d, done⟩) fun _ _ e => e) fun _ _ e => e) hs
end

section
variable {prog : Program} {w : World} {A : Around} {E : Value → Shared → Prop} {s : Shared} {env : Env} {h₀ : Heap} {m : Str → Option Value} {news : List (Addr × Obj)}

/-- a tuple of the ledger or of what stood before -/
inductive TupSrc (h₀ : Heap) (t : Addr) (vs : List Value) : List (Addr × Obj) → Prop
  | led : TupSrc h₀ t vs [(t, tupO vs)]
  | base {o : Obj} {n : Nat} : h₀.get? t = some o → o.cls = .type "tuple" → o.data = .seq vs.toArray n → TupSrc h₀ t vs []
theorem TupSrc.at {t : Addr} {vs : List Value} {src nx : List (Addr × Obj)} {L : Addr} {h : Heap} (T : TupSrc h₀ t vs src) (F : Fr h₀ L h m) (N : News h₀ L h nx) (hs : ∀ p ∈ src, p ∈ nx) : h.IsTuple t vs.toArray ∧ t ≠ h.objs.size ∧ t < h.objs.size ∧ t ≠ L := by
  cases T with
  | led =>
    have z := N _ (hs _ (.head _))
    exact ⟨⟨_, z.1, rfl, _, rfl⟩, Nat.ne_of_lt (Heap.lt_size z.1), Heap.lt_size z.1, z.2.1⟩
  | base e c d =>
    have z := F.keep _ _ e
    refine ⟨⟨_, z, c, _, d⟩, Nat.ne_of_lt (Heap.lt_size z), Heap.lt_size z, ?_⟩
    rintro rfl
    rw [Heap.get?_none_of_le F.above] at e; cases e
theorem TupSrc.fp {t : Addr} {vs : List Value} {src : List (Addr × Obj)} (T : TupSrc h₀ t vs src) : (∃ o, h₀.get? t = some o) ∨ ∃ o, (t, o) ∈ src := by
  cases T with
  | led => exact .inr ⟨_, .head _⟩
  | base e _ _ => exact .inl ⟨_, e⟩

noncomputable abbrev nmFm (x : Str) (v : Value) : Fm := fun m y => if y = x then some v else m y
noncomputable abbrev prFm (x y : Str) (a b : Value) : Fm := fun m z => if z = y then some b else if z = x then some a else m z

theorem lf_list {kp : Bool} {x : Str} {px : Pos} {body : List Stmt} {Q : Flow → Shared → Prop} {l : Addr} {vs : List Value} {k : Nat} (J : Nat → (Str → Option Value) → List (Addr × Obj) → Prop)
    (hh : A.handled = none) (F : Fr h₀ env.locals s.heap m) (N : News h₀ env.locals s.heap news) (hx : env.kindOf x = some .local) (hp : (env.scope.kind == .class || (env.scope.kind == .module && env.locals != env.globals)) = false)
    (hj : J 0 m news) (hsrc : ∀ i m nx, J i m nx → (l, PySem.W.listOf (List.toArray vs) k) ∈ nx)
    (turn : LfTurn kp prog w A h₀ env body vs.length (fun i f => ∃ v, vs[i]? = some v ∧ f = nmFm x v) J s)
    (done : ∀ m' nx h tk dr, J vs.length m' nx → (kp = true → dr = s.drawn) → Fr h₀ env.locals h m' → News h₀ env.locals h nx → Q .next { s with heap := h, toks := tk, drawn := dr }) :
    wpAny (model prog w) A (pyIter (.ref l)) (fun it s₂ => LfAt kp prog w A h₀ env (.Name x px) body Q it s₂) E s := by
  have hm := hsrc _ _ _ hj
  have hls : s.heap.IsList l (List.toArray vs) := ⟨_, (N _ hm).1, rfl, _, rfl⟩
  have hne : l ≠ s.heap.objs.size := Nat.ne_of_lt (Heap.lt_size (N _ hm).1)
  have hLl : env.locals ≠ s.heap.objs.size := Nat.ne_of_lt F.ns.lt
  refine wpAny_pyIter_list hls ?_
  have W := Walks.list (prog := prog) (w := w) hh s.heap.objs.size l hne (List.toArray vs)
  rw [List.size_toArray] at W
  refine ⟨[s.heap.objs.size, l], [s.heap.objs.size], vs.length, _, _, [(l, PySem.W.listOf (List.toArray vs) k)], news, J, m, Steps.name W (.head _) (fun i h st b hb => ?_) (fun hb => ?_) hx hp, fun b hb => ?_, ⟨⟨_, Heap.get?_push_size _ rfl, rfl, rfl⟩, hls.push _⟩, fun b hb => ?_, F.push _, fun p hp => ⟨Heap.get?_push_of_some _ (N p hp).1, (N p hp).2⟩, fun p hp q => ?_, hj, fun i m nx q p hp => ?_, ?_, done⟩
  · rw [List.mem_singleton.mp hb]; obtain ⟨⟨o, ho, _⟩, _⟩ := st; exact ⟨o, ho⟩
  · rcases of_mem2 hb with hb | hb
    · exact hLl hb
    · exact (N _ hm).2.1 hb.symm
  · rcases of_mem2 hb with rfl | rfl
    · exact .inl (.head _)
    · exact .inr (.inr ⟨_, .head _⟩)
  · rw [List.mem_singleton.mp hb]; exact ⟨none_at F, hLl.symm⟩
  · exact absurd (Heap.lt_size (N p hp).1) ((List.mem_singleton.mp q) ▸ Nat.lt_irrefl _)
  · rw [List.mem_singleton.mp hp]; exact hsrc _ _ _ q
  · intro i f m₁ nx own h tk dr E' hi hf hJ off hd F' N'
    obtain ⟨v, hv, rfl⟩ := hf
    exact turn i _ m₁ nx own h tk dr E' hi ⟨v, by simpa using hv, rfl⟩ hJ off hd F' N'

theorem lf_tuple {kp : Bool} {x : Str} {px : Pos} {body : List Stmt} {Q : Flow → Shared → Prop} {l : Addr} {vs : List Value} {src : List (Addr × Obj)} (T : TupSrc h₀ l vs src) (J : Nat → (Str → Option Value) → List (Addr × Obj) → Prop)
    (hh : A.handled = none) (F : Fr h₀ env.locals s.heap m) (N : News h₀ env.locals s.heap news) (hx : env.kindOf x = some .local) (hp : (env.scope.kind == .class || (env.scope.kind == .module && env.locals != env.globals)) = false)
    (hj : J 0 m news) (hsrc : ∀ i m nx, J i m nx → ∀ p ∈ src, p ∈ nx)
    (turn : LfTurn kp prog w A h₀ env body vs.length (fun i f => ∃ v, vs[i]? = some v ∧ f = nmFm x v) J s)
    (done : ∀ m' nx h tk dr, J vs.length m' nx → (kp = true → dr = s.drawn) → Fr h₀ env.locals h m' → News h₀ env.locals h nx → Q .next { s with heap := h, toks := tk, drawn := dr }) :
    wpAny (model prog w) A (pyIter (.ref l)) (fun it s₂ => LfAt kp prog w A h₀ env (.Name x px) body Q it s₂) E s := by
  obtain ⟨hls, hne, hlt, hlL⟩ := T.at F N (hsrc _ _ _ hj)
  have hLl : env.locals ≠ s.heap.objs.size := Nat.ne_of_lt F.ns.lt
  refine wpAny_pyIter_tuple hls ?_
  have W := Walks.tuple (prog := prog) (w := w) hh s.heap.objs.size l hne (List.toArray vs)
  rw [List.size_toArray] at W
  refine ⟨[s.heap.objs.size, l], [s.heap.objs.size], vs.length, _, _, src, news, J, m, Steps.name W (.head _) (fun i h st b hb => ?_) (fun hb => ?_) hx hp, fun b hb => ?_, ⟨⟨_, Heap.get?_push_size _ rfl, rfl, rfl⟩, hls.push _⟩, fun b hb => ?_, F.push _, fun p hp => ⟨Heap.get?_push_of_some _ (N p hp).1, (N p hp).2⟩, fun p hp q => ?_, hj, hsrc, ?_, done⟩
  · rw [List.mem_singleton.mp hb]; obtain ⟨⟨o, ho, _⟩, _⟩ := st; exact ⟨o, ho⟩
  · rcases of_mem2 hb with hb | hb
    · exact hLl hb
    · exact hlL hb.symm
  · rcases of_mem2 hb with rfl | rfl
    · exact .inl (.head _)
    · exact .inr T.fp
  · rw [List.mem_singleton.mp hb]; exact ⟨none_at F, hLl.symm⟩
  · exact absurd (Heap.lt_size (N p hp).1) ((List.mem_singleton.mp q) ▸ Nat.lt_irrefl _)
  · intro i f m₁ nx own h tk dr E' hi hf hJ off hd F' N'
    obtain ⟨v, hv, rfl⟩ := hf
    exact turn i _ m₁ nx own h tk dr E' hi ⟨v, by simpa using hv, rfl⟩ hJ off hd F' N'

theorem lf_none_list {target : PySem.Expr} {body : List Stmt} {Q : Flow → Shared → Prop} {l : Addr} {k : Nat}
    (hh : A.handled = none) (F : Fr h₀ env.locals s.heap m) (N : News h₀ env.locals s.heap news) (hm : (l, PySem.W.listOf (List.toArray []) k) ∈ news)
    (done : ∀ h tk, Fr h₀ env.locals h m → News h₀ env.locals h news → Q .next { s with heap := h, toks := tk }) :
    wpAny (model prog w) A (pyIter (.ref l)) (fun it s₂ => LfAt true prog w A h₀ env target body Q it s₂) E s := by
  have hls : s.heap.IsList l (List.toArray []) := ⟨_, (N _ hm).1, rfl, _, rfl⟩
  have hne : l ≠ s.heap.objs.size := Nat.ne_of_lt (Heap.lt_size (N _ hm).1)
  have hLl : env.locals ≠ s.heap.objs.size := Nat.ne_of_lt F.ns.lt
  refine wpAny_pyIter_list hls ?_
  have W := Walks.list (prog := prog) (w := w) hh s.heap.objs.size l hne (List.toArray [])
  refine ⟨[s.heap.objs.size, l], [s.heap.objs.size], 0, _, _, [(l, PySem.W.listOf (List.toArray []) k)], news, (fun _ m' nx => m' = m ∧ nx = news), m, Steps.none W (.head _) (fun i h st b hb => ?_), fun b hb => ?_, ⟨⟨_, Heap.get?_push_size _ rfl, rfl, rfl⟩, hls.push _⟩, fun b hb => ?_, F.push _, fun p hp => ⟨Heap.get?_push_of_some _ (N p hp).1, (N p hp).2⟩, fun p hp q => ?_, ⟨rfl, rfl⟩, fun i m nx q p hp => ?_, (fun i f m₁ nx own h tk dr E' hi => absurd hi (Nat.not_lt_zero _)), ?_⟩
  · rw [List.mem_singleton.mp hb]; obtain ⟨⟨o, ho, _⟩, _⟩ := st; exact ⟨o, ho⟩
  · rcases of_mem2 hb with rfl | rfl
    · exact .inl (.head _)
    · exact .inr (.inr ⟨_, .head _⟩)
  · rw [List.mem_singleton.mp hb]; exact ⟨none_at F, hLl.symm⟩
  · exact absurd (Heap.lt_size (N p hp).1) ((List.mem_singleton.mp q) ▸ Nat.lt_irrefl _)
  · rw [List.mem_singleton.mp hp, q.2]; exact hm
  · rintro m' nx h tk dr ⟨rfl, rfl⟩ hd F' N'
    rw [hd rfl]
    exact done h tk F' N'
theorem lf_none_tuple {target : PySem.Expr} {body : List Stmt} {Q : Flow → Shared → Prop} {l : Addr}
    (hh : A.handled = none) (F : Fr h₀ env.locals s.heap m) (N : News h₀ env.locals s.heap news) (hm : (l, tupO []) ∈ news)
    (done : ∀ h tk, Fr h₀ env.locals h m → News h₀ env.locals h news → Q .next { s with heap := h, toks := tk }) :
    wpAny (model prog w) A (pyIter (.ref l)) (fun it s₂ => LfAt true prog w A h₀ env target body Q it s₂) E s := by
  have hls : s.heap.IsTuple l (List.toArray []) := ⟨_, (N _ hm).1, rfl, _, rfl⟩
  have hne : l ≠ s.heap.objs.size := Nat.ne_of_lt (Heap.lt_size (N _ hm).1)
  have hLl : env.locals ≠ s.heap.objs.size := Nat.ne_of_lt F.ns.lt
  refine wpAny_pyIter_tuple hls ?_
  have W := Walks.tuple (prog := prog) (w := w) hh s.heap.objs.size l hne (List.toArray [])
  refine ⟨[s.heap.objs.size, l], [s.heap.objs.size], 0, _, _, [(l, tupO [])], news, (fun _ m' nx => m' = m ∧ nx = news), m, Steps.none W (.head _) (fun i h st b hb => ?_), fun b hb => ?_, ⟨⟨_, Heap.get?_push_size _ rfl, rfl, rfl⟩, hls.push _⟩, fun b hb => ?_, F.push _, fun p hp => ⟨Heap.get?_push_of_some _ (N p hp).1, (N p hp).2⟩, fun p hp q => ?_, ⟨rfl, rfl⟩, fun i m nx q p hp => ?_, (fun i f m₁ nx own h tk dr E' hi => absurd hi (Nat.not_lt_zero _)), ?_⟩
  · rw [List.mem_singleton.mp hb]; obtain ⟨⟨o, ho, _⟩, _⟩ := st; exact ⟨o, ho⟩
  · rcases of_mem2 hb with rfl | rfl
    · exact .inl (.head _)
    · exact .inr (.inr ⟨_, .head _⟩)
  · rw [List.mem_singleton.mp hb]; exact ⟨none_at F, hLl.symm⟩
  · exact absurd (Heap.lt_size (N p hp).1) ((List.mem_singleton.mp q) ▸ Nat.lt_irrefl _)
  · rw [List.mem_singleton.mp hp, q.2]; exact hm
  · rintro m' nx h tk dr ⟨rfl, rfl⟩ hd F' N'
    rw [hd rfl]
    exact done h tk F' N'

/-- a comprehension over a tuple -/
theorem lc_tuple {L : Addr} {elt : PySem.Expr} {x : Str} {ifs : List PySem.Expr} {scope : Scope} {cl : List (Str × Addr)} {md : Addr → Str → Option Value} {Q : Addr → Shared → Prop} {l : Addr} {vs : List Value} {src : List (Addr × Obj)} (T : TupSrc h₀ l vs src) (J : Nat → List Value → List (Addr × Obj) → Prop)
    (hh : A.handled = none) (F : Fr h₀ L s.heap m) (N : News h₀ L s.heap news) (hsz : vs.length ≤ 1000)
    (hj : J 0 [] news) (hsrc : ∀ i ys nx, J i ys nx → ∀ p ∈ src, p ∈ nx) (hlen : ∀ i ys nx, J i ys nx → ys.length ≤ i)
    (turn : LcTurn prog w A h₀ L env m scope cl x ifs elt vs.length (fun i v => vs[i]? = some v) J s)
    (done : ∀ ys nx D k h tk, J vs.length ys nx → Fr h₀ L h (md D) → News h₀ L h ((D, PySem.W.listOf (List.toArray ys) k) :: nx) → (∀ p ∈ nx, p.1 ≠ D) → Q D { s with heap := h, toks := tk }) :
    wpAny (model prog w) A (pyIter (.ref l)) (fun it s₂ => LcAt prog w A h₀ L env m scope cl x ifs elt md Q it s₂) E s := by
  obtain ⟨hls, hne, hlt, hlL⟩ := T.at F N (hsrc _ _ _ hj)
  refine wpAny_pyIter_tuple hls ?_
  have W := Walks.tuple (prog := prog) (w := w) hh s.heap.objs.size l hne (List.toArray vs)
  rw [List.size_toArray] at W
  refine ⟨s.heap.objs.size, [s.heap.objs.size, l], vs.length, _, _, src, news, J, rfl, W, fun b hb => ?_, fun i h st => ?_, hsz, ⟨⟨_, Heap.get?_push_size _ rfl, rfl, rfl⟩, hls.push _⟩, none_at F, Nat.ne_of_lt F.ns.lt, F.push _, fun p hp => ⟨Heap.get?_push_of_some _ (N p hp).1, (N p hp).2⟩, fun p hp => Nat.ne_of_lt (Heap.lt_size (N p hp).1), hj, hsrc, hlen, ?_, done⟩
  · rcases of_mem2 hb with rfl | rfl
    · exact .inl rfl
    · exact .inr T.fp
  · obtain ⟨⟨o, ho, _⟩, _⟩ := st; exact ⟨o, ho⟩
  · intro i v ys nx own C m₂ h tk E' hi hv hJ off hx FL FC kC N'
    exact turn i v ys nx own C m₂ h tk E' hi (by simpa using hv) hJ off hx FL FC kC N'

/-- a comprehension over zip of two tuples -/
theorem lt_zip_tt {elt : PySem.Expr} {x y : Str} {px py tp : Pos} {x1 : Nat} {scope : Scope} {cl : List (Str × Addr)} {Q : Value → Shared → Prop} {l1 l2 : Addr} {vs ws : List Value} {src1 src2 : List (Addr × Obj)} (T1 : TupSrc h₀ l1 vs src1) (T2 : TupSrc h₀ l2 ws src2) (J : Nat → List Value → List (Addr × Obj) → Prop)
    (hh : A.handled = none) (F : Fr h₀ env.locals s.heap m) (N : News h₀ env.locals s.heap news) (hsz : vs.length ≤ 1000)
    (hx : scope.names.lookup x = some .local) (hy : scope.names.lookup y = some .local) (hkind : scope.kind = .function)
    (hj : J 0 [] news) (hsrc1 : ∀ i ys nx, J i ys nx → ∀ p ∈ src1, p ∈ nx) (hsrc2 : ∀ i ys nx, J i ys nx → ∀ p ∈ src2, p ∈ nx) (hlen : ∀ i ys nx, J i ys nx → ys.length ≤ i)
    (turn : LtTurn prog w A h₀ env m scope cl elt (min vs.length ws.length) (fun i f => ∃ a b, (vs[i]? = some a ∧ ws[i]? = some b) ∧ f = prFm x y a b) J s)
    (done : ∀ ys nx D k h tk, J (min vs.length ws.length) ys nx → Fr h₀ env.locals h m → News h₀ env.locals h ((D, PySem.W.listOf (List.toArray ys) k) :: nx) → (∀ p ∈ nx, p.1 ≠ D) → Q (.ref D) { s with heap := h, toks := tk }) :
    wpAny (model prog w) A (call (.type "zip") [.ref l1, .ref l2]) (fun xv s₁ => wpAny (model prog w) A (pyIter xv) (fun it s₂ => LtAt prog w A h₀ env m scope cl (.Tuple [.Name x px, .Name y py] x1 tp) elt Q it s₂) E s₁) E s := by
  obtain ⟨hl1, hn1, hlt1, hL1⟩ := T1.at F N (hsrc1 _ _ _ hj)
  obtain ⟨hl2, hn2, hlt2, hL2⟩ := T2.at F N (hsrc2 _ _ _ hj)
  have hLlt : env.locals < s.heap.objs.size := F.ns.lt
  refine call_zip_tt hl1 hl2 fun h' hz hTI hTO hi1 hi2 hk => ?_
  refine wpAny_pyIter_zip hz ?_
  have D1 := dr_tuple (prog := prog) (w := w) (A := A.in1) hh s.heap.objs.size l1 hn1 vs.toArray
  have D2 := dr_tuple (prog := prog) (w := w) (A := A.in1) hh (s.heap.objs.size + 1) l2 (Nat.ne_of_lt (Nat.lt_succ_of_lt hlt2)) ws.toArray
  rw [List.size_toArray] at D1 D2
  have Z := zapart_new (n := s.heap.objs.size) (f1 := [l1]) (f2 := [l2]) (fun b hb => by rw [List.mem_singleton.mp hb]; exact hlt1) (fun b hb => by rw [List.mem_singleton.mp hb]; exact hlt2)
  have W := zip_walks Z D1 D2
  have none0 : ∀ a, s.heap.objs.size ≤ a → h₀.get? a = .none := fun a ha => by
    cases q : h₀.get? a with
    | none => rfl
    | some o' => exact absurd (Heap.lt_size (F.keep _ _ q)) (Nat.not_lt.mpr ha)
  have pv : ∀ b ∈ ([s.heap.objs.size + 4, s.heap.objs.size + 2, s.heap.objs.size + 3, s.heap.objs.size, s.heap.objs.size + 1] : List Nat), s.heap.objs.size ≤ b := fun b hb => by
    rcases of_mem5 hb with rfl | rfl | rfl | rfl | rfl <;> first | exact Nat.le_add_right _ _ | exact Nat.le_refl _
  refine ⟨_, [s.heap.objs.size + 4, s.heap.objs.size + 2, s.heap.objs.size + 3, s.heap.objs.size, s.heap.objs.size + 1], min vs.length ws.length, _, _, src1 ++ src2, news, J, fun C hC => Steps.pair (P := fun i a b => vs[i]? = some a ∧ ws[i]? = some b) W (fun i vals hv => ?_) hh (fun b hb => ?_) (fun i h st b hb => ?_) hC (lookup_relabel_local hx) (lookup_relabel_local hy) (by simp [compEnvC, relabel, hkind]),
    fun b hb => ?_, Nat.le_trans (Nat.min_le_left ..) hsz, ⟨hz, hTI, ⟨_, _, hTO⟩, ⟨hi1, hl1.at fun o e => hk _ o e⟩, ⟨hi2, hl2.at fun o e => hk _ o e⟩⟩, fun b hb => ⟨none0 _ (pv b hb), fun q => absurd (pv b hb) (by rw [q]; exact Nat.not_le.mpr hLlt)⟩, F.keeps hk, N.grown hk, fun p hp q => absurd (pv _ q) (Nat.not_le.mpr (Heap.lt_size (N p hp).1)), hj, fun i ys nx q p hp => ?_, hlen, ?_, done⟩
  · obtain ⟨a, b, h1, h2, rfl⟩ := hv
    exact ⟨a, b, rfl, by simpa using h1, by simpa using h2⟩
  · rcases of_mem4 hb with rfl | rfl | rfl | rfl <;> first | exact .head _ | exact mem1 | exact mem2 | exact mem3 | exact mem4 | exact mem5
  · obtain ⟨z1, z2, ⟨a, b', z3⟩, z4, z5⟩ := st
    rcases of_mem5 hb with rfl | rfl | rfl | rfl | rfl
    · exact ⟨_, z1⟩
    · exact ⟨_, z2⟩
    · exact ⟨_, z3⟩
    · exact D1.live _ _ z4
    · exact D2.live _ _ z5
  · simp only [List.mem_cons, List.mem_append, List.not_mem_nil, or_false] at hb
    rcases hb with rfl | rfl | rfl | rfl | rfl | (rfl | rfl) | (rfl | rfl)
    · exact .inl (by first | exact .head _ | exact mem1 | exact mem2 | exact mem3 | exact mem4 | exact mem5 | simp)
    · exact .inl (by first | exact .head _ | exact mem1 | exact mem2 | exact mem3 | exact mem4 | exact mem5 | simp)
    · exact .inl (by first | exact .head _ | exact mem1 | exact mem2 | exact mem3 | exact mem4 | exact mem5 | simp)
    · exact .inl (by first | exact .head _ | exact mem1 | exact mem2 | exact mem3 | exact mem4 | exact mem5 | simp)
    · exact .inl (by first | exact .head _ | exact mem1 | exact mem2 | exact mem3 | exact mem4 | exact mem5 | simp)
    · exact .inl (by first | exact .head _ | exact mem1 | exact mem2 | exact mem3 | exact mem4 | exact mem5 | simp)
    · rcases T1.fp with r | ⟨o, r⟩
      · exact .inr (.inl r)
      · exact .inr (.inr ⟨o, List.mem_append_left _ r⟩)
    · exact .inl (by first | exact .head _ | exact mem1 | exact mem2 | exact mem3 | exact mem4 | exact mem5 | simp)
    · rcases T2.fp with r | ⟨o, r⟩
      · exact .inr (.inl r)
      · exact .inr (.inr ⟨o, List.mem_append_right _ r⟩)
  · rcases List.mem_append.mp hp with hp | hp
    · exact hsrc1 _ _ _ q p hp
    · exact hsrc2 _ _ _ q p hp
  · intro i f ys nx own C m₁ h tk E' hi hf hJ off FL FC N'
    exact turn i f ys nx own C m₁ h tk E' hi hf hJ off FL FC N'

noncomputable def KEnd (h₀ : Heap) (L : Addr) (m : Str → Option Value) (nx : List (Addr × Obj)) (R : Value → Prop) (s : Shared) (y : Value) (s₄ : Shared) : Prop := ∃ h' tk', s₄ = { s with heap := h', toks := tk' } ∧ R y ∧ Fr h₀ L h' m ∧ News h₀ L h' nx
theorem KEnd.intro {L : Addr} {nx : List (Addr × Obj)} {R : Value → Prop} {y : Value} {h' : Heap} {tk' : Nat} (hr : R y) (F : Fr h₀ L h' m) (N : News h₀ L h' nx) : KEnd h₀ L m nx R s y { s with heap := h', toks := tk' } := ⟨h', tk', rfl, hr, F, N⟩
theorem KEnd.fix {L : Addr} {nx : List (Addr × Obj)} {J : Prop} {y : Value} {h' : Heap} {tk' : Nat} (hr : J) (F : Fr h₀ L h' m) (N : News h₀ L h' nx) : KEnd h₀ L m nx (fun _ => J) s y { s with heap := h', toks := tk' } := ⟨h', tk', rfl, hr, F, N⟩
theorem lt_zip_11 {elt : PySem.Expr} {x y : Str} {px py tp : Pos} {x1 : Nat} {scope : Scope} {cl : List (Str × Addr)} {Q : Value → Shared → Prop} {l1 l2 : Addr} {a b : Value} {src1 src2 : List (Addr × Obj)} (R : Value → Prop) (T1 : TupSrc h₀ l1 [a] src1) (T2 : TupSrc h₀ l2 [b] src2)
    (hh : A.handled = none) (F : Fr h₀ env.locals s.heap m) (N : News h₀ env.locals s.heap news)
    (hx : scope.names.lookup x = some .local) (hy : scope.names.lookup y = some .local) (hkind : scope.kind = .function) (hs1 : ∀ p ∈ src1, p ∈ news) (hs2 : ∀ p ∈ src2, p ∈ news)
    (turn : ∀ own C m₁ h tk E', Fr h₀ env.locals h m → Fr h₀ C h (prFm x y a b m₁) → News h₀ env.locals h (news ++ own) →
      wpAny (model prog w) A (eval elt (compEnvC scope cl C env)) (KEnd h₀ env.locals m (news ++ own) R s) E' { s with heap := h, toks := tk })
    (done : ∀ v D k h tk, R v → Fr h₀ env.locals h m → News h₀ env.locals h ((D, PySem.W.listOf (List.toArray [v]) k) :: news) → (∀ p ∈ news, p.1 ≠ D) → Q (.ref D) { s with heap := h, toks := tk }) :
    wpAny (model prog w) A (call (.type "zip") [.ref l1, .ref l2]) (fun xv s₁ => wpAny (model prog w) A (pyIter xv) (fun it s₂ => LtAt prog w A h₀ env m scope cl (.Tuple [.Name x px, .Name y py] x1 tp) elt Q it s₂) E s₁) E s := by
  refine lt_zip_tt T1 T2 (fun i ys nx => nx = news ∧ ys.length = i ∧ ∀ v ∈ ys, R v) hh F N (by simp) hx hy hkind ⟨rfl, rfl, by simp⟩ (fun i ys nx q => q.1 ▸ hs1) (fun i ys nx q => q.1 ▸ hs2) (fun i ys nx q => Nat.le_of_eq q.2.1) ?_ ?_
  · rintro i f ys nx own C m₁ h tk E' hi ⟨a', b', ⟨ha, hb⟩, rfl⟩ ⟨rfl, hl, hR⟩ off FL FC N'
    have hi0 : i = 0 := by simp at hi; exact hi
    subst hi0
    simp only [List.length_cons, List.getElem?_cons_zero, Option.some.injEq] at ha hb
    subst ha hb
    refine wpAny_mono (turn own C m₁ h tk E' FL FC N') (fun v s₄ hv => ?_) fun _ _ e => e
    obtain ⟨h', tk', rfl, hr, F', N''⟩ := hv
    refine LcEnd.intro F' N'' ⟨rfl, by simp [hl], fun u hu => ?_⟩ off (fun p hp => List.mem_append_left _ hp) (fun p hp => List.mem_append_right _ hp)
    rcases List.mem_append.mp hu with hu | hu
    · exact hR u hu
    · rw [List.mem_singleton.mp hu]; exact hr
  · rintro ys nx D k h tk ⟨rfl, hl, hR⟩ F' N' hD
    obtain ⟨v, rfl⟩ := List.length_eq_one_iff.mp hl
    exact done v D k h tk (hR v (.head _)) F' N' hD

/- WHERE THE LEDGER STANDS STILL -/
noncomputable def GoF (prog : Program) (w : World) (A : Around) (h₀ : Heap) (L : Addr) (m : Str → Option Value) (nx : List (Addr × Obj)) (cenv : Env) (elt : PySem.Expr) (J : List Value → Prop) (ys : List Value) (s₂ : Shared) (E' : Value → Shared → Prop) (ok : Bool) (s₃ : Shared) : Prop :=
  if ok = true then wpAny (model prog w) A (eval elt cenv) (fun y s₄ => KEnd h₀ L m nx (fun _ => J (ys ++ [y])) s₂ y s₄) E' s₃ else KEnd h₀ L m nx (fun _ => J ys) s₂ .none s₃
theorem GoF.yes {L : Addr} {nx : List (Addr × Obj)} {cenv : Env} {elt : PySem.Expr} {J : List Value → Prop} {ys : List Value} {s₂ s₃ : Shared} {E' : Value → Shared → Prop} {ok : Bool} (hok : ok = true) (h : wpAny (model prog w) A (eval elt cenv) (fun y s₄ => KEnd h₀ L m nx (fun _ => J (ys ++ [y])) s₂ y s₄) E' s₃) :
    GoF prog w A h₀ L m nx cenv elt J ys s₂ E' ok s₃ := by unfold GoF; rw [if_pos hok]; exact h
theorem GoF.no {L : Addr} {nx : List (Addr × Obj)} {cenv : Env} {elt : PySem.Expr} {J : List Value → Prop} {ys : List Value} {s₂ : Shared} {h' : Heap} {tk' : Nat} {E' : Value → Shared → Prop} {ok : Bool} (hok : ok = false) (hj : J ys) (F : Fr h₀ L h' m) (N : News h₀ L h' nx) :
    GoF prog w A h₀ L m nx cenv elt J ys s₂ E' ok { s₂ with heap := h', toks := tk' } := by unfold GoF; rw [if_neg (by rw [hok]; decide)]; exact KEnd.intro hj F N
noncomputable def TestF (prog : Program) (w : World) (A : Around) (h₀ : Heap) (L : Addr) (m : Str → Option Value) (nx : List (Addr × Obj)) (cenv : Env) (elt : PySem.Expr) (J : List Value → Prop) (ys : List Value) (s₂ : Shared) (E' : Value → Shared → Prop) (ifs : List PySem.Expr) : Prop :=
  match ifs with
  | [] => wpAny (model prog w) A (eval elt cenv) (fun y s₄ => KEnd h₀ L m nx (fun _ => J (ys ++ [y])) s₂ y s₄) E' s₂
  | c :: _ => wpAny (model prog w) A (isTrue c cenv (eval c cenv)) (GoF prog w A h₀ L m nx cenv elt J ys s₂ E') E' s₂
theorem TestF.out {L : Addr} {own : List (Addr × Obj)} {cenv : Env} {elt : PySem.Expr} {J : Nat → List Value → Prop} {i : Nat} {ys : List Value} {s₂ : Shared} {E' : Value → Shared → Prop} {ifs : List PySem.Expr} (off : OwnOff own (news.map (·.1)))
    (h : TestF prog w A h₀ L m (news ++ own) cenv elt (J (i + 1)) ys s₂ E' ifs) : LcTest prog w A h₀ L m cenv elt (fun ys nx => nx = news ∧ J (i + 1) ys) ys own s₂ E' ifs := by
  have back : ∀ (s₄ : Shared) (y : Value) (zs : List Value), KEnd h₀ L m (news ++ own) (fun _ => J (i + 1) zs) s₂ y s₄ → LcEnd h₀ L m (fun nx => nx = news ∧ J (i + 1) zs) own s₂ s₄ := by
    rintro s₄ y zs ⟨h', tk', rfl, hj, F', N'⟩
    exact LcEnd.intro F' N' ⟨rfl, hj⟩ off (fun p hp => List.mem_append_left _ hp) (fun p hp => List.mem_append_right _ hp)
  cases ifs with
  | nil =>
    unfold LcTest LcGo
    dsimp only
    rw [if_pos rfl]
    exact wpAny_mono h (fun y s₄ h₄ => back s₄ y _ h₄) fun _ _ q => q
  | cons c r =>
    refine wpAny_mono (show wpAny (model prog w) A (isTrue c cenv (eval c cenv)) (GoF prog w A h₀ L m (news ++ own) cenv elt (J (i + 1)) ys s₂ E') E' s₂ from h) (fun ok s₃ h₃ => ?_) fun _ _ q => q
    unfold LcGo
    unfold GoF at h₃
    cases ok with
    | true => rw [if_pos rfl] at h₃ ⊢; exact wpAny_mono h₃ (fun y s₄ h₄ => back s₄ y _ h₄) fun _ _ q => q
    | false => rw [if_neg (by decide)] at h₃ ⊢; exact back s₃ _ _ h₃

theorem lc_list_fix {L : Addr} {elt : PySem.Expr} {x : Str} {ifs : List PySem.Expr} {scope : Scope} {cl : List (Str × Addr)} {md : Addr → Str → Option Value} {Q : Addr → Shared → Prop} {l : Addr} {vs : List Value} {k : Nat} (J : Nat → List Value → Prop)
    (hh : A.handled = none) (F : Fr h₀ L s.heap m) (N : News h₀ L s.heap news) (hsz : vs.length ≤ 1000) (hm : (l, PySem.W.listOf (List.toArray vs) k) ∈ news)
    (hj : J 0 []) (hlen : ∀ i ys, J i ys → ys.length ≤ i)
    (turn : ∀ i v ys own C m₂ h tk E', i < vs.length → vs[i]? = some v → J i ys → m₂ x = some v → Fr h₀ L h m → Fr h₀ C h m₂ → (∀ h' nx', News h₀ L h' nx' → (∀ p ∈ own, p ∈ nx') → (∀ b o, h₀.get? b = some o → h'.get? b = some o) → Fr h₀ C h' m₂) → News h₀ L h (news ++ own) → TestF prog w A h₀ L m (news ++ own) (compEnvC scope cl C env) elt (J (i + 1)) ys { s with heap := h, toks := tk } E' ifs)
    (done : ∀ ys D k h tk, J vs.length ys → Fr h₀ L h (md D) → News h₀ L h ((D, PySem.W.listOf (List.toArray ys) k) :: news) → (∀ p ∈ news, p.1 ≠ D) → Q D { s with heap := h, toks := tk }) :
    wpAny (model prog w) A (pyIter (.ref l)) (fun it s₂ => LcAt prog w A h₀ L env m scope cl x ifs elt md Q it s₂) E s := by
  refine lc_list (fun i ys nx => nx = news ∧ J i ys) hh F N hsz ⟨rfl, hj⟩ (fun i ys nx q => q.1 ▸ hm) (fun i ys nx q => hlen i ys q.2) ?_ ?_
  · rintro i v ys nx own C m₂ h tk E' hi hv ⟨rfl, hJ⟩ off hx FL FC kC N'
    exact TestF.out off (turn i v ys own C m₂ h tk E' hi hv hJ hx FL FC kC N')
  · rintro ys nx D k h tk ⟨rfl, hJ⟩ F' N' hD
    exact done ys D k h tk hJ F' N' hD
theorem lk_list_fix {L : Addr} {elt : PySem.Expr} {x : Str} {ifs : List PySem.Expr} {scope : Scope} {cl : List (Str × Addr)} {md : Addr → Str → Option Value} {Q : Addr → Shared → Prop} {l : Addr} {vs : List Value} {k : Nat} (J : Nat → List Value → Prop)
    (hh : A.handled = none) (F : Fr h₀ L s.heap m) (N : News h₀ L s.heap news) (hsz : vs.length ≤ 1000) (hm : (l, PySem.W.listOf (List.toArray vs) k) ∈ news)
    (hj : J 0 []) (hlen : ∀ i ys, J i ys → ys.length ≤ i)
    (turn : ∀ i v ys own C m₂ oK h tk E', i < vs.length → vs[i]? = some v → J i ys → oK.data = .cell (some v) → (C + 1, oK) ∈ own → Fr h₀ L h m → Fr h₀ C h m₂ → News h₀ L h (news ++ own) → TestF prog w A h₀ L m (news ++ own) (compEnvC scope ((x, C + 1) :: cl) C env) elt (J (i + 1)) ys { s with heap := h, toks := tk } E' ifs)
    (done : ∀ ys D k h tk, J vs.length ys → Fr h₀ L h (md D) → News h₀ L h ((D, PySem.W.listOf (List.toArray ys) k) :: news) → (∀ p ∈ news, p.1 ≠ D) → Q D { s with heap := h, toks := tk }) :
    wpAny (model prog w) A (pyIter (.ref l)) (fun it s₂ => LkAt prog w A h₀ L env m scope cl x ifs elt md Q it s₂) E s := by
  refine lk_list (fun i ys nx => nx = news ∧ J i ys) hh F N hsz ⟨rfl, hj⟩ (fun i ys nx q => q.1 ▸ hm) (fun i ys nx q => hlen i ys q.2) ?_ ?_
  · rintro i v ys nx own C m₂ oK h tk E' hi hv ⟨rfl, hJ⟩ off dK hK FL FC N'
    exact TestF.out off (turn i v ys own C m₂ oK h tk E' hi hv hJ dK hK FL FC N')
  · rintro ys nx D k h tk ⟨rfl, hJ⟩ F' N' hD
    exact done ys D k h tk hJ F' N' hD
theorem lc_tuple_fix {L : Addr} {elt : PySem.Expr} {x : Str} {ifs : List PySem.Expr} {scope : Scope} {cl : List (Str × Addr)} {md : Addr → Str → Option Value} {Q : Addr → Shared → Prop} {l : Addr} {vs : List Value} {src : List (Addr × Obj)} (T : TupSrc h₀ l vs src) (J : Nat → List Value → Prop)
    (hh : A.handled = none) (F : Fr h₀ L s.heap m) (N : News h₀ L s.heap news) (hsz : vs.length ≤ 1000) (hm : ∀ p ∈ src, p ∈ news)
    (hj : J 0 []) (hlen : ∀ i ys, J i ys → ys.length ≤ i)
    (turn : ∀ i v ys own C m₂ h tk E', i < vs.length → vs[i]? = some v → J i ys → m₂ x = some v → Fr h₀ L h m → Fr h₀ C h m₂ → (∀ h' nx', News h₀ L h' nx' → (∀ p ∈ own, p ∈ nx') → (∀ b o, h₀.get? b = some o → h'.get? b = some o) → Fr h₀ C h' m₂) → News h₀ L h (news ++ own) → TestF prog w A h₀ L m (news ++ own) (compEnvC scope cl C env) elt (J (i + 1)) ys { s with heap := h, toks := tk } E' ifs)
    (done : ∀ ys D k h tk, J vs.length ys → Fr h₀ L h (md D) → News h₀ L h ((D, PySem.W.listOf (List.toArray ys) k) :: news) → (∀ p ∈ news, p.1 ≠ D) → Q D { s with heap := h, toks := tk }) :
    wpAny (model prog w) A (pyIter (.ref l)) (fun it s₂ => LcAt prog w A h₀ L env m scope cl x ifs elt md Q it s₂) E s := by
  refine lc_tuple T (fun i ys nx => nx = news ∧ J i ys) hh F N hsz ⟨rfl, hj⟩ (fun i ys nx q => q.1 ▸ hm) (fun i ys nx q => hlen i ys q.2) ?_ ?_
  · rintro i v ys nx own C m₂ h tk E' hi hv ⟨rfl, hJ⟩ off hx FL FC kC N'
    exact TestF.out off (turn i v ys own C m₂ h tk E' hi hv hJ hx FL FC kC N')
  · rintro ys nx D k h tk ⟨rfl, hJ⟩ F' N' hD
    exact done ys D k h tk hJ F' N' hD
theorem lc_range_fix {L : Addr} {elt : PySem.Expr} {x : Str} {ifs : List PySem.Expr} {scope : Scope} {cl : List (Str × Addr)} {md : Addr → Str → Option Value} {Q : Addr → Shared → Prop} {r : Addr} {n : Nat} {b₀ : Int} {t₀ u₀ v₀ : Tok} (J : Nat → List Value → Prop)
    (hh : A.handled = none) (hr : IsRange s.heap r 0 b₀ 1 t₀ u₀ v₀) (hb : b₀ = (n : Int)) (F : Fr h₀ L s.heap m) (N : News h₀ L s.heap news) (hsz : n ≤ 1000)
    (hj : J 0 []) (hlen : ∀ i ys, J i ys → ys.length ≤ i)
    (turn : ∀ i t ys own C m₂ h tk E', i < n → J i ys → m₂ x = some (.int (i : Int) t) → Fr h₀ L h m → Fr h₀ C h m₂ → (∀ h' nx', News h₀ L h' nx' → (∀ p ∈ own, p ∈ nx') → (∀ b o, h₀.get? b = some o → h'.get? b = some o) → Fr h₀ C h' m₂) → News h₀ L h (news ++ own) → TestF prog w A h₀ L m (news ++ own) (compEnvC scope cl C env) elt (J (i + 1)) ys { s with heap := h, toks := tk } E' ifs)
    (done : ∀ ys D k h tk, J n ys → Fr h₀ L h (md D) → News h₀ L h ((D, PySem.W.listOf (List.toArray ys) k) :: news) → (∀ p ∈ news, p.1 ≠ D) → Q D { s with heap := h, toks := tk }) :
    wpAny (model prog w) A (pyIter (.ref r)) (fun it s₂ => LcAt prog w A h₀ L env m scope cl x ifs elt md Q it s₂) E s := by
  refine lc_range (fun i ys nx => nx = news ∧ J i ys) hh hr hb F N hsz ⟨rfl, hj⟩ (fun i ys nx q => hlen i ys q.2) ?_ ?_
  · rintro i v ys nx own C m₂ h tk E' hi ⟨t, rfl⟩ ⟨rfl, hJ⟩ off hx FL FC kC N'
    exact TestF.out off (turn i t ys own C m₂ h tk E' hi hJ hx FL FC kC N')
  · rintro ys nx D k h tk ⟨rfl, hJ⟩ F' N' hD
    exact done ys D k h tk hJ F' N' hD
end

noncomputable abbrev PG := PySem.Challenge.pw_rr0093_01


/-- a tuple of strs -/
inductive Strs : List Value → List Str → Prop
  | nil : Strs [] []
  | cons (x : Str) (t : Tok) {vs : List Value} {xs : List Str} : Strs vs xs → Strs (.str x t :: vs) (x :: xs)
theorem Strs.snoc {vs : List Value} {xs : List Str} (h : Strs vs xs) (x : Str) (t : Tok) : Strs (vs ++ [.str x t]) (xs ++ [x]) := by
  induction h with
  | nil => exact .cons x t .nil
  | cons y u _ ih => exact .cons y u ih
theorem Strs.len {vs : List Value} {xs : List Str} (h : Strs vs xs) : vs.length = xs.length := by
  induction h with
  | nil => rfl
  | cons _ _ _ ih => simp [ih]

section
variable {prog : Program} {w : World} {A : Around} {E : Value → Shared → Prop} {s : Shared} {h₀ : Heap} {L D : Addr} {m : Str → Option Value} {led : List (Addr × Obj)} {g : Obj → List (Addr × Obj)}
theorem append_M {vs : List Value} {n : Nat} {x : Value} {Q : Value → Shared → Prop} (F : Fr h₀ L s.heap m) (N : News h₀ L s.heap led) (U : UpdF D (PySem.W.listOf (List.toArray vs) n) led g) (hsz : vs.length ≤ 1000)
    (h : ∀ h', Fr h₀ L h' m → News h₀ L h' (g (PySem.W.listOf (List.toArray (vs ++ [x])) (n + 1))) → Q .none { s with heap := h' }) : wpAny (model prog w) A (call (.builtin "list.append") [.ref D, x]) Q E s := by
  obtain ⟨pre, post, rfl, hg, a, b⟩ := U.split
  have z := N (D, PySem.W.listOf (List.toArray vs) n) (List.mem_append.mpr (.inr (.head _)))
  refine append_at (hsz := by rw [List.size_toArray, sizeLine_eq]; omega) z.1 fun h' hs ho' => h h' (F.change hs z.2.1 z.2.2) ?_
  rw [hg]
  have e : (List.toArray vs).push x = List.toArray (vs ++ [x]) := by simp
  rw [e] at ho'
  exact news_set N a b hs ho'
end
theorem ne_all {l : List (Addr × Obj)} {d : Addr} (h : ∀ q ∈ l, q.1 < d) : ∀ p ∈ l, p.1 ≠ d := fun p hp => Nat.ne_of_lt (h p hp)

/-- what stands under the name in the dict of entries: a signature's item -/
structure ItemIn (news : List (Addr × Obj)) (v : Value) (name parent : Str) (sup : List Str) : Prop where
  ex : ∃ it su nm f1 f2 v1 v0 t1 t2 t4 vs t5, v = .ref it ∧ (it, tupO [.str v0 t1, v1, .ref nm, .bool false, .str (Str.ofString "") t4, .str parent t5, .ref su, .ref f1, .ref f2]) ∈ news ∧
    (nm, tupO [.str name t2]) ∈ news ∧ (su, tupO vs) ∈ news ∧ Strs vs sup ∧ (f1, tupO []) ∈ news ∧ (f2, tupO []) ∈ news

theorem ItemIn.mono {news news' : List (Addr × Obj)} (hs : ∀ p ∈ news, p ∈ news') {v : Value} {name parent : Str} {sup : List Str} (h : ItemIn news v name parent sup) : ItemIn news' v name parent sup := by
  obtain ⟨it, su, nm, f1, f2, v1, v0, t1, t2, t4, vs, t5, e, a1, a2, a3, a4, a5, a6⟩ := h.ex
  exact ⟨it, su, nm, f1, f2, v1, v0, t1, t2, t4, vs, t5, e, hs _ a1, hs _ a2, hs _ a3, a4, hs _ a5, hs _ a6⟩
structure SgM (es : List DictEntry) (e : Addr) : Prop where
  entries : getL (Str.ofString "entries") es = some (some (.ref e))
  parent : getL (Str.ofString "parent") es = some none
  supers : getL (Str.ofString "supers") es = some none
  is_subset : getL (Str.ofString "is_subset") es = some none
  direct : getL (Str.ofString "direct") es = some none
  above : getL (Str.ofString "above") es = some none
  top : getL (Str.ofString "top") es = some none
  spot : getL (Str.ofString "spot") es = some none

theorem word1 : True := by
  k_with "k_mem" => first | assumption | exact List.Mem.head _ | (refine' List.Mem.tail _ ?_; k_mem) | (refine List.mem_append_left _ ?_; k_mem) | (refine List.mem_append_right _ ?_; k_mem)
  trivial
local macro_rules | `(tactic| k_mem) => `(tactic| k_extra "k_mem")
theorem word2 : True := by
  k_with "k_all" => exact ne_all (by assumption)
  trivial
local macro_rules | `(tactic| k_all) => `(tactic| k_extra "k_all")
theorem word3 : True := by
  k_with "call builtin:list.append" => (k_here; (with_reducible show wpAny _ _ (call (Value.builtin _) [Value.ref _, _]) _ _ _); k_dflt (refine' append_M ?k1w2 ?k2w2 ?k3w2 ?zw2 ?_; (case k1w2 => k_asm); (case k2w2 => k_asm); (case k3w2 => k_updF); (case zw2 => ((try simp only [List.length_append, List.length_cons, List.length_nil] at *); omega)); k_whole); intro hz9 Fz9 Nz9; (try dsimp only at Nz9); (try k_sweep))
  trivial
local macro_rules | `(tactic| k_get) => `(tactic| assumption)
theorem word4 : True := by
  k_with "subscriptTail" => (k_here; (with_reducible show wpAny _ _ (subscriptTail _ _ (Value.ref _) (Value.str _ _)) _ _ _); k_dflt (refine' kda_item (knd := PySem.strKind _ _) (by k_asm) (by k_mem) (by k_asm) (strKind_is _ _ _ _) (by k_asm) ?_; k_whole))
  trivial

section
variable {w : World} {p : Program} {loose : List Str} {mean : ExcName → Option Value} {mg mb : Str → Option Value}
    {dp un : Nat} {gd : Option (List Code)} {cn : Str} {cs : Scope} {a : Addr} {ccd : Value} {cl : List (Str × Addr)} {outer : List Env} {A₀ : Around} {base h₀ : Heap} {L : Addr} {m : Str → Option Value} {news : List (Addr × Obj)} {s : Shared} {Q E : Value → Shared → Prop}
    (B : Below A₀ base outer h₀) (F : Fr h₀ L s.heap m) (X : (hd.heap_1 w.params).In h₀) (N : News h₀ L s.heap news) (T : Top p loose mean mg mb h₀) (hk : cs.kind = .function)
    {x dx e : Addr} {es : List DictEntry} {n : Nat} {oe : Obj} {kvs : List (Str × Value)} {name : Str} {t : Tok}
    (hx : (x, instObj 394 dx) ∈ news) (hdx : (dx, dictOf es n) ∈ news) (he : (e, oe) ∈ news) (hoe : oe.IsDictOf (PySem.strKind PG w) kvs) (hes : SgM es e)
include B F X N T hk hx hdx he hoe hes

theorem parent_ {v : Value} {par : Str} {sup : List Str} (hd : dp + 8 < recursionLimit) (hu : un + 80 < cLine) (hv : valueAt kvs name = some v) (hi : ItemIn news v name par sup)
    (ret : ∀ t' h' tk', Fr h₀ L h' m → News h₀ L h' news → Q (.str par t') { s with heap := h', toks := tk' }) :
    wpAny (model PG w) (ktrTop dp un gd cn cs L a ccd cl outer) (call (.ref 314) [.ref x, .str name t]) Q E s := by
  obtain ⟨it, su, nm, f1, f2, v1, v0, t1, t2, t4, vs, t5, rfl, hit, hnm, hsu, hvs, hf1, hf2⟩ := hi.ex
  have h1 := hes.entries
  clear hi hes
  refine wpAny_call ?_
  k_dflt cell_enter
  k_steps
  exact ret _ _ _ (by k_asm) (by k_asm)

end


noncomputable def MIs (m : Str → Option Value) (l : List (Str × Value)) : Prop := ∀ p ∈ l, m p.1 = some p.2
theorem MIs.cons {m : Str → Option Value} {x : Str} {v : Value} {l : List (Str × Value)} (h : m x = some v) (r : MIs m l) : MIs m ((x, v) :: l) := fun p hp => by
  rcases List.mem_cons.mp hp with rfl | hp
  · exact h
  · exact r p hp
theorem MIs.nil {m : Str → Option Value} : MIs m [] := fun _ hp => nomatch hp
theorem MIs.one {m : Str → Option Value} {x : Str} {v : Value} {l : List (Str × Value)} (h : MIs m ((x, v) :: l)) : m x = some v := h _ (.head _)
theorem MIs.rest {m : Str → Option Value} {x : Str} {v : Value} {l : List (Str × Value)} (h : MIs m ((x, v) :: l)) : MIs m l := fun p hp => h p (.tail _ hp)
theorem word5 : True := by
  k_with "tb_rel" => first | assumption | exact if_pos rfl | (refine Eq.trans (if_neg (by decide)) ?_; tb_rel) | rfl
  trivial
local macro_rules | `(tactic| tb_rel) => `(tactic| k_extra "tb_rel")
theorem word6 : True := by
  k_with "eval Name" => (k_here; k_dflt (refine' nameX_L (by k_asm) (by first | rfl | tb_rel) ?_ (by rfl) (by rfl); k_whole))
  trivial
-- a frame's map by some names
theorem word7 : True := by
  k_with "tb_start" => first | exact MIs.nil | (refine MIs.cons (by first | rfl | tb_rel) ?_; tb_start)
  trivial
local macro_rules | `(tactic| tb_start) => `(tactic| k_extra "tb_start")

noncomputable def Hold (P : Prop) : Prop := P
theorem hold {P : Prop} (h : Hold P) : P := h
theorem word8 : True := by
  k_with "exec While" => refine hold ?_
  k_with "exec While Compare cons nil" => refine hold ?_
  k_with "call ref" => (k_here; (with_reducible show wpAny _ _ (call (Value.ref 314) [Value.ref _, Value.str _ _]) _ _ _); k_dflt (refine' parent_ ?Bw9 ?Fw9 ?Xw9 ?Nw9 ?Tw9 ?kKw9 ?hxw9 ?hdxw9 ?hew9 ?hoew9 ?hesw9 ?hdw9 ?huw9 ?hvw9 ?hiw9 ?_; (case Bw9 => k_asm); (case Fw9 => k_asm); (case Xw9 => k_asm); (case Nw9 => k_asm); (case Tw9 => k_asm); (case kKw9 => first | exact rfl | assumption); (case hxw9 => k_mem); (case hdxw9 => k_mem); (case hesw9 => assumption); (case hew9 => k_mem); (case hoew9 => assumption); (case hvw9 => assumption); (case hiw9 => first | assumption | (refine' ItemIn.mono ?s9w9 ?i9w9; (case i9w9 => assumption); (case s9w9 => intro p9z9 hp9z9; k_mem))); (case hdw9 => ktr_room); (case huw9 => ktr_units)); intro t9z9 h9z9 tk9z9 F9z9 N9z9)
  trivial

/-- the chain of parents above a name -/
inductive Up (news : List (Addr × Obj)) (kvs : List (Str × Value)) : Str → List Str → Prop
  | top {name : Str} {v : Value} {sup : List Str} : valueAt kvs name = some v → ItemIn news v name (Str.ofString "") sup → Up news kvs name []
  | step {name p : Str} {v : Value} {sup ch : List Str} : valueAt kvs name = some v → ItemIn news v name p sup → p ≠ Str.ofString "" → Up news kvs p ch → Up news kvs name (p :: ch)

section
variable {w : World} {p : Program} {loose : List Str} {mean : ExcName → Option Value} {mg mb : Str → Option Value}
    {dp un : Nat} {gd : Option (List Code)} {cn : Str} {cs : Scope} {a : Addr} {ccd : Value} {cl : List (Str × Addr)} {outer : List Env} {A₀ : Around} {base h₀ : Heap} {L : Addr} {m : Str → Option Value} {news : List (Addr × Obj)} {s : Shared} {Q E : Value → Shared → Prop}
    (B : Below A₀ base outer h₀) (F : Fr h₀ L s.heap m) (X : (hd.heap_1 w.params).In h₀) (N : News h₀ L s.heap news) (T : Top p loose mean mg mb h₀) (hk : cs.kind = .function)
    {x dx e : Addr} {es : List DictEntry} {n : Nat} {oe : Obj} {kvs : List (Str × Value)} {name : Str} {t : Tok}
    (hx : (x, instObj 394 dx) ∈ news) (hdx : (dx, dictOf es n) ∈ news) (he : (e, oe) ∈ news) (hoe : oe.IsDictOf (PySem.strKind PG w) kvs) (hes : SgM es e)
include B F X N T hk hx hdx he hoe hes

theorem above_ {ch : List Str} (hd : dp + 16 < recursionLimit) (hu : un + 160 < cLine) (hup : Up news kvs name ch) (hcl : ch.length ≤ 90)
    (ret : ∀ fl n vs h' tk', Fr h₀ L h' m → News h₀ L h' ((fl, listOf (List.toArray vs) n) :: news) → (∀ q ∈ news, q.1 < fl) → Strs vs ch → Q (.ref fl) { s with heap := h', toks := tk' }) :
    wpAny (model PG w) (ktrTop dp un gd cn cs L a ccd cl outer) (call (.ref 342) [.ref x, .str name t]) Q E s := by
  have h1 := hes.entries
  have h2 := hes.parent
  refine wpAny_call ?_
  k_dflt cell_enter
  k_steps
  unfold Hold
  refine While_inv2 (fun k m₁ nx => ∃ nm t1 fl vs n1 done rest, k = rest.length ∧ MIs m₁ [(Str.ofString "self", .ref x), (Str.ofString "name", .str nm t1), (Str.ofString "found", .ref fl)] ∧ nx = (fl, PySem.W.listOf (List.toArray vs) n1) :: news ∧ (∀ q ∈ news, q.1 < fl) ∧ Strs vs done ∧ done ++ rest = ch ∧ Up news kvs nm rest) (by k_asm) (by k_asm) ⟨name, t, _, [], 0, [], ch, rfl, by tb_start, rfl, by assumption, .nil, rfl, hup⟩ ?_
  rintro k m₁ nx h₁ tk₁ F₁ N₁ ⟨nm, t1, fl, vs, n1, done, rest, rfl, hm, rfl, hfl, hvs, hdr, hup'⟩
  have hm1 := hm.one
  have hm2 := hm.rest.one
  have hm3 := hm.rest.rest.one
  clear hm
  cases hup' with
  | top hv hi =>
    have hl := hvs.len
    k_steps
    rw [List.append_nil] at hdr
    exact ret _ _ _ _ _ (by k_asm) (by k_asm) hfl (hdr ▸ hvs)
  | step hv hi hne hup'' =>
    have hl := hvs.len
    have hl2 : done.length ≤ 90 := by have := congrArg List.length hdr; simp at this; omega
    k_steps
    · exact ⟨_, _, _, _, _, rfl, by k_asm, by k_asm, Nat.lt_succ_self _, _, _, fl, _, _, _, _, rfl, by tb_start, rfl, hfl, hvs.snoc _ _, by simpa using hdr, hup''⟩
    all_goals (exfalso; simp_all)
end
theorem Up.mono {news news' : List (Addr × Obj)} {kvs : List (Str × Value)} (hs : ∀ p ∈ news, p ∈ news') {name : Str} {ch : List Str} (h : Up news kvs name ch) : Up news' kvs name ch := by
  induction h with
  | top hv hi => exact .top hv (hi.mono hs)
  | step hv hi hn _ ih => exact .step hv (hi.mono hs) hn ih
theorem word9 : True := by
  k_with "call ref" => (k_here; (with_reducible show wpAny _ _ (call (Value.ref 342) [Value.ref _, Value.str _ _]) _ _ _); k_dflt (refine' above_ ?Bw10 ?Fw10 ?Xw10 ?Nw10 ?Tw10 ?kKw10 ?hxw10 ?hdxw10 ?hew10 ?hoew10 ?hesw10 ?hdw10 ?huw10 ?hupw10 ?hclw10 ?_; (case Bw10 => k_asm); (case Fw10 => k_asm); (case Xw10 => k_asm); (case Nw10 => k_asm); (case Tw10 => k_asm); (case kKw10 => first | exact rfl | assumption); (case hxw10 => k_mem); (case hdxw10 => k_mem); (case hesw10 => assumption); (case hew10 => k_mem); (case hoew10 => assumption); (case hupw10 => first | assumption | (refine' Up.mono ?s9w10 ?i9w10; (case i9w10 => assumption); (case s9w10 => intro p9z9 hp9z9; k_mem))); (case hdw10 => ktr_room); (case huw10 => ktr_units); (case hclw10 => first | assumption | omega); k_whole); intro fl9z9 n9z9 vs9z9 h9z9 tk9z9 F9z9 N9z9 lt9z9 hs9z9; (have hl9z9 := Strs.len hs9z9))
  trivial

theorem word10 : True := by
  k_with "call type:tuple" => (k_here; (with_reducible show wpAny _ _ (call (Value.type _) [Value.ref _]) _ _ _); k_dflt (refine' call_tuple_tup ?tw11 ?_; (case tw11 => exact News.isTup (by k_asm) (by k_mem))))
  trivial
theorem add_tup_M {prog : Program} {w : World} {A : Around} {E : Value → Shared → Prop} {s : Shared} {h₀ : Heap} {L d e : Addr} {m : Str → Option Value} {led : List (Addr × Obj)} {vs ws : List Value} {Q : Value → Shared → Prop} (F : Fr h₀ L s.heap m) (N : News h₀ L s.heap led) (hd : (d, tupO vs) ∈ led) (he : (e, tupO ws) ∈ led) (hz : vs.length + ws.length ≤ 1000)
    (h : ∀ D tl h', Fr h₀ L h' m → News h₀ L h' (tl ++ led) → (∀ q ∈ led, ∀ p ∈ tl, q.1 < p.1) → (D, tupO (vs ++ ws)) ∈ tl ++ led → Q (.ref D) { s with heap := h' }) : wpAny (model prog w) A (binaryOp .Add (.ref d) (.ref e)) Q E s := by
  refine add_tuples F N (News.isTup N hd) (News.isTup N he) (fun h0 => ?_) (fun _ h1 => ?_) (fun _ _ h' F' N' => ?_) (by rw [sizeLine_eq]; omega)
  · subst h0; exact h e [] s.heap F N (fun _ _ _ hp => nomatch hp) he
  · subst h1; exact h d [] s.heap F N (fun _ _ _ hp => nomatch hp) (by rw [List.append_nil]; exact hd)
  · exact h _ [(s.heap.objs.size, tupO (vs ++ ws))] h' F' N' (fun q hq p hp => by rw [List.mem_singleton.mp hp]; exact Heap.lt_size (N q hq).1) (.head _)
theorem add_list_M {prog : Program} {w : World} {A : Around} {E : Value → Shared → Prop} {s : Shared} {h₀ : Heap} {L d e : Addr} {m : Str → Option Value} {led : List (Addr × Obj)} {vs ws : List Value} {k l : Nat} {Q : Value → Shared → Prop} (F : Fr h₀ L s.heap m) (N : News h₀ L s.heap led) (hd : (d, PySem.W.listOf (List.toArray vs) k) ∈ led) (he : (e, PySem.W.listOf (List.toArray ws) l) ∈ led) (hz : vs.length + ws.length ≤ 1000)
    (h : ∀ D h', Fr h₀ L h' m → News h₀ L h' ((D, PySem.W.listOf (List.toArray (vs ++ ws)) 0) :: led) → (∀ q ∈ led, q.1 < D) → Q (.ref D) { s with heap := h' }) : wpAny (model prog w) A (binaryOp .Add (.ref d) (.ref e)) Q E s :=
  add_lists F N ⟨_, (N _ hd).1, rfl, _, rfl⟩ ⟨_, (N _ he).1, rfl, _, rfl⟩ (fun h' F' N' => h _ h' F' N' fun q hq => Heap.lt_size (N q hq).1) (by rw [sizeLine_eq]; omega)
theorem item_list_M {prog : Program} {w : World} {A : Around} {E : Value → Shared → Prop} {s : Shared} {h₀ : Heap} {L d : Addr} {m : Str → Option Value} {led : List (Addr × Obj)} {vs : List Value} {k : Nat} {i : Int} {u : Tok} {value slice : PySem.Expr} {Q : Value → Shared → Prop} {v : Value} (F : Fr h₀ L s.heap m) (N : News h₀ L s.heap led) (hd : (d, PySem.W.listOf (List.toArray vs) k) ∈ led) (h0 : 0 ≤ i) (hz : i < 2 ^ 63) (hv : vs[i.toNat]? = some v) (h : Q v s)
    (hs : subscripted slice false (.ref d) (.int i u) = operate [.ref d, .int i u] (getItem (.ref d) (.int i u))) (hg : ∀ r, letTemporaryGo value (.ref d) r = pure ()) :
    wpAny (model prog w) A (subscriptTail value slice (.ref d) (.int i u)) Q E s :=
  have hL : s.heap.IsList d (List.toArray vs) := ⟨_, (N _ hd).1, rfl, _, rfl⟩
  subscriptTail_builtin hL.typeIs slot_list_getitem.lookup (wpAny_getItem_list hL h0 hz (by simpa using hv) h) hs hg
theorem last_list_M {prog : Program} {w : World} {A : Around} {E : Value → Shared → Prop} {s : Shared} {h₀ : Heap} {L d : Addr} {m : Str → Option Value} {led : List (Addr × Obj)} {vs : List Value} {k : Nat} {u : Tok} {value slice : PySem.Expr} {Q : Value → Shared → Prop} {v : Value} (_F : Fr h₀ L s.heap m) (N : News h₀ L s.heap led) (hd : (d, PySem.W.listOf (List.toArray vs) k) ∈ led) (hv : vs.getLast? = some v) (h : Q v s)
    (hs : subscripted slice false (.ref d) (.int (-1) u) = operate [.ref d, .int (-1) u] (getItem (.ref d) (.int (-1) u))) :
    wpAny (model prog w) A (subscriptTail value slice (.ref d) (.int (-1) u)) Q E s :=
  have hL : s.heap.IsList d (List.toArray vs) := ⟨_, (N _ hd).1, rfl, _, rfl⟩
  have hne : 0 < vs.length := by cases vs with | nil => cases hv | cons _ _ => exact Nat.succ_pos _
  tail_any hL.typeIs slot_list_getitem.lookup (wpAny_getItem_list_neg hL (by decide) (by rw [List.size_toArray]; have := hne; omega) (by decide) (by
    have e : ((-1 : Int) + ((List.toArray vs).size : Int)).toNat = vs.length - 1 := by rw [List.size_toArray]; omega
    rw [e, List.getElem?_toArray, ← List.getLast?_eq_getElem?]; exact hv) h) hs
theorem word11 : True := by
  k_with "binaryOp Add ref ref" => (k_here; (with_reducible show wpAny _ _ (binaryOp _ (Value.ref _) (Value.ref _)) _ _ _); k_dflt (refine' add_list_M (by k_asm) (by k_asm) (by k_mem) (by k_mem) (by ((try simp only [List.length_append, List.length_cons, List.length_nil] at *); omega)) ?_; k_whole); intro Dz9 hz9 Fz9 Nz9 l1z9)
  trivial
theorem Strs.last {vs : List Value} {xs : List Str} (h : Strs vs xs) : ∀ (hn : xs ≠ []), ∃ t, vs.getLast? = some (.str (xs.getLast hn) t) := by
  induction h with
  | nil => intro hn; exact absurd rfl hn
  | cons x t r ih =>
    intro hn
    cases r with
    | nil => exact ⟨t, rfl⟩
    | cons y u r' =>
      obtain ⟨t', e⟩ := ih (by simp)
      exact ⟨t', by rw [List.getLast?_cons_cons, List.getLast_cons (by simp)]; exact e⟩
theorem len_tup {prog : Program} {w : World} {A : Around} {E : Value → Shared → Prop} {s : Shared} {t : Addr} {vs : List Value} {Q : Value → Shared → Prop} (ht : IsTup s.heap t (List.toArray vs)) (hz : vs.length ≤ 1000)
    (h : Q (.int (vs.length : Int) (s.toks + 1)) { s with toks := s.toks + 1 + 1 }) : wpAny (model prog w) A (call (.builtin "len") [.ref t]) Q E s :=
  len_tuple ht (by rw [List.size_toArray]; omega) (by rw [List.size_toArray]; exact h)
theorem word12 : True := by
  k_with "call builtin:len" => (k_here; (with_reducible show wpAny _ _ (call (Value.builtin "len") [Value.ref _]) _ _ _); k_dflt (refine' len_tup ?tw13 ?zw13 ?_; (case tw13 => exact News.isTup (by k_asm) (by k_mem)); (case zw13 => ((try simp only [List.length_append, List.length_cons, List.length_nil] at *); omega)); k_whole))
  trivial
section
variable {w : World} {p : Program} {loose : List Str} {mean : ExcName → Option Value} {mg mb : Str → Option Value}
    {dp un : Nat} {gd : Option (List Code)} {cn : Str} {cs : Scope} {a : Addr} {ccd : Value} {cl : List (Str × Addr)} {outer : List Env} {A₀ : Around} {base h₀ : Heap} {L : Addr} {m : Str → Option Value} {news : List (Addr × Obj)} {s : Shared} {Q E : Value → Shared → Prop}
    (B : Below A₀ base outer h₀) (F : Fr h₀ L s.heap m) (X : (hd.heap_1 w.params).In h₀) (N : News h₀ L s.heap news) (T : Top p loose mean mg mb h₀) (hk : cs.kind = .function)
    {x dx e : Addr} {es : List DictEntry} {n : Nat} {oe : Obj} {kvs : List (Str × Value)} {name : Str} {t : Tok}
    (hx : (x, instObj 394 dx) ∈ news) (hdx : (dx, dictOf es n) ∈ news) (he : (e, oe) ∈ news) (hoe : oe.IsDictOf (PySem.strKind PG w) kvs) (hes : SgM es e)
include B F X N T hk hx hdx he hoe hes

theorem supers_ {v : Value} {par : Str} {sup : List Str} (hd : dp + 8 < recursionLimit) (hu : un + 80 < cLine) (hv : valueAt kvs name = some v) (hi : ItemIn news v name par sup)
    (ret : ∀ d vs h' tk', Fr h₀ L h' m → News h₀ L h' news → (d, tupO vs) ∈ news → Strs vs sup → Q (.ref d) { s with heap := h', toks := tk' }) :
    wpAny (model PG w) (ktrTop dp un gd cn cs L a ccd cl outer) (call (.ref 321) [.ref x, .str name t]) Q E s := by
  obtain ⟨it, su, nm, f1, f2, v1, v0, t1, t2, t4, vs, t5, rfl, hit, hnm, hsu, hvs, hf1, hf2⟩ := hi.ex
  have h1 := hes.entries
  clear hi hes
  refine wpAny_call ?_
  k_dflt cell_enter
  k_steps
  exact ret _ _ _ _ (by k_asm) (by k_asm) hsu hvs

theorem is_subset_ {v : Value} {par : Str} {sup : List Str} (hd : dp + 8 < recursionLimit) (hu : un + 80 < cLine) (hv : valueAt kvs name = some v) (hi : ItemIn news v name par sup) (hz : sup.length ≤ 100)
    (ret : ∀ h' tk', Fr h₀ L h' m → News h₀ L h' news → Q (.bool (decide (0 < sup.length))) { s with heap := h', toks := tk' }) :
    wpAny (model PG w) (ktrTop dp un gd cn cs L a ccd cl outer) (call (.ref 328) [.ref x, .str name t]) Q E s := by
  obtain ⟨it, su, nm, f1, f2, v1, v0, t1, t2, t4, vs, t5, rfl, hit, hnm, hsu, hvs, hf1, hf2⟩ := hi.ex
  have h1 := hes.entries
  clear hi hes
  have hl := hvs.len
  refine wpAny_call ?_
  k_dflt cell_enter
  k_steps
  have e : (decide ((0:Int) < (vs.length:Int))) = decide (0 < sup.length) := by rw [hl]; exact decide_eq_decide.mpr (by omega)
  rw [e]
  exact ret _ _ (by k_asm) (by k_asm)
end

theorem word13 : True := by
  k_with "call ref" => (k_here; (with_reducible show wpAny _ _ (call (Value.ref 321) [Value.ref _, Value.str _ _]) _ _ _); k_dflt (refine' supers_ ?Bw14 ?Fw14 ?Xw14 ?Nw14 ?Tw14 ?kKw14 ?hxw14 ?hdxw14 ?hew14 ?hoew14 ?hesw14 ?hdw14 ?huw14 ?hvw14 ?hiw14  ?_; (case Bw14 => k_asm); (case Fw14 => k_asm); (case Xw14 => k_asm); (case Nw14 => k_asm); (case Tw14 => k_asm); (case kKw14 => first | exact rfl | assumption); (case hxw14 => k_mem); (case hdxw14 => k_mem); (case hesw14 => assumption); (case hew14 => k_mem); (case hoew14 => assumption); (case hvw14 => assumption); (case hiw14 => first | assumption | (refine' ItemIn.mono ?s9w14 ?i9w14; (case i9w14 => assumption); (case s9w14 => intro p9z9 hp9z9; k_mem))); (case hdw14 => ktr_room); (case huw14 => ktr_units);  k_whole); intro d9z9 vs9z9 h9z9 tk9z9 F9z9 N9z9 hd9z9 hvs9z9; (have hl9z9 := Strs.len hvs9z9))
  k_with "call ref" => (k_here; (with_reducible show wpAny _ _ (call (Value.ref 328) [Value.ref _, Value.str _ _]) _ _ _); k_dflt (refine' is_subset_ ?Bw15 ?Fw15 ?Xw15 ?Nw15 ?Tw15 ?kKw15 ?hxw15 ?hdxw15 ?hew15 ?hoew15 ?hesw15 ?hdw15 ?huw15 ?hvw15 ?hiw15 ?zw15 ?_; (case Bw15 => k_asm); (case Fw15 => k_asm); (case Xw15 => k_asm); (case Nw15 => k_asm); (case Tw15 => k_asm); (case kKw15 => first | exact rfl | assumption); (case hxw15 => k_mem); (case hdxw15 => k_mem); (case hesw15 => assumption); (case hew15 => k_mem); (case hoew15 => assumption); (case hvw15 => assumption); (case hiw15 => first | assumption | (refine' ItemIn.mono ?s9w15 ?i9w15; (case i9w15 => assumption); (case s9w15 => intro p9z9 hp9z9; k_mem))); (case hdw15 => ktr_room); (case huw15 => ktr_units); (case zw15 => first | assumption | (simp only [List.length_nil]; omega)); k_whole); intro h9z9 tk9z9 F9z9 N9z9)
  trivial

section
variable {w : World} {p : Program} {loose : List Str} {mean : ExcName → Option Value} {mg mb : Str → Option Value}
    {dp un : Nat} {gd : Option (List Code)} {cn : Str} {cs : Scope} {a : Addr} {ccd : Value} {cl : List (Str × Addr)} {outer : List Env} {A₀ : Around} {base h₀ : Heap} {L : Addr} {m : Str → Option Value} {news : List (Addr × Obj)} {s : Shared} {Q E : Value → Shared → Prop}
    (B : Below A₀ base outer h₀) (F : Fr h₀ L s.heap m) (X : (hd.heap_1 w.params).In h₀) (N : News h₀ L s.heap news) (T : Top p loose mean mg mb h₀) (hk : cs.kind = .function)
    {x dx e : Addr} {es : List DictEntry} {n : Nat} {oe : Obj} {kvs : List (Str × Value)} {name : Str} {t : Tok}
    (hx : (x, instObj 394 dx) ∈ news) (hdx : (dx, dictOf es n) ∈ news) (he : (e, oe) ∈ news) (hoe : oe.IsDictOf (PySem.strKind PG w) kvs) (hes : SgM es e)
include B F X N T hk hx hdx he hoe hes

theorem direct_ {v : Value} {par : Str} {sup : List Str} (hd : dp + 16 < recursionLimit) (hu : un + 160 < cLine) (hv : valueAt kvs name = some v) (hi : ItemIn news v name par sup) (hz : sup.length ≤ 100)
    (ret : ∀ d tl vs h' tk', Fr h₀ L h' m → News h₀ L h' (tl ++ news) → (∀ q ∈ news, ∀ p ∈ tl, q.1 < p.1) → (d, tupO vs) ∈ tl ++ news → Strs vs (if par = Str.ofString "" then sup else par :: sup) → Q (.ref d) { s with heap := h', toks := tk' }) :
    wpAny (model PG w) (ktrTop dp un gd cn cs L a ccd cl outer) (call (.ref 262) [.ref x, .str name t]) Q E s := by
  have h1 := hes.parent
  have h2 := hes.supers
  refine wpAny_call ?_
  k_dflt cell_enter
  k_steps
  · rename Strs _ sup => hs9
    rename (par != Str.ofString "") = true => hne
    have hl9 := hs9.len
    refine add_tup_M (by k_asm) (by k_asm) (by k_mem) (by k_mem) (by simp only [List.length_cons, List.length_nil]; omega) ?_
    intro D tl h' F' N' hf hD
    k_steps
    refine ret _ (tl ++ [(_, tupO [Value.str par _])]) _ _ _ (by k_asm) (by rw [List.append_assoc]; k_asm) (fun q hq p hp => ?_) (by rw [List.append_assoc]; exact hD) ?_
    · rcases List.mem_append.mp hp with hp | hp
      · exact hf q (.tail _ hq) p hp
      · rw [List.mem_singleton.mp hp]; apply_assumption; exact hq
    · rw [if_neg (by simpa using hne)]; exact .cons _ _ hs9
  · rename Strs _ sup => hs9
    rename (par != Str.ofString "") = false => hne
    have hl9 := hs9.len
    refine add_tup_M (by k_asm) (by k_asm) (by k_mem) (by k_mem) (by simp only [List.length_nil]; omega) ?_
    intro D tl h' F' N' hf hD
    k_steps
    refine ret _ (tl ++ [(_, tupO [])]) _ _ _ (by k_asm) (by rw [List.append_assoc]; k_asm) (fun q hq p hp => ?_) (by rw [List.append_assoc]; exact hD) ?_
    · rcases List.mem_append.mp hp with hp | hp
      · exact hf q (.tail _ hq) p hp
      · rw [List.mem_singleton.mp hp]; apply_assumption; exact hq
    · rw [if_pos (by simpa using hne)]; exact hs9

theorem top_sub_ {v : Value} {par : Str} {sup : List Str} (hd : dp + 16 < recursionLimit) (hu : un + 160 < cLine) (hv : valueAt kvs name = some v) (hi : ItemIn news v name par sup) (hz : sup.length ≤ 100) (hne : 0 < sup.length)
    (ret : ∀ t' h' tk', Fr h₀ L h' m → News h₀ L h' news → Q (.str (Str.ofString "") t') { s with heap := h', toks := tk' }) :
    wpAny (model PG w) (ktrTop dp un gd cn cs L a ccd cl outer) (call (.ref 349) [.ref x, .str name t]) Q E s := by
  have h1 := hes.is_subset
  refine wpAny_call ?_
  k_dflt cell_enter
  k_steps
  exact ret _ _ _ (by k_asm) (by k_asm)

theorem top_base_ {v : Value} {par : Str} {ch : List Str} (hd : dp + 24 < recursionLimit) (hu : un + 240 < cLine) (hv : valueAt kvs name = some v) (hi : ItemIn news v name par []) (hup : Up news kvs name ch) (hcl : ch.length ≤ 90)
    (ret : ∀ t' h' tk', Fr h₀ L h' m → News h₀ L h' news → Q (.str ((name :: ch).getLast (by simp)) t') { s with heap := h', toks := tk' }) :
    wpAny (model PG w) (ktrTop dp un gd cn cs L a ccd cl outer) (call (.ref 349) [.ref x, .str name t]) Q E s := by
  have h1 := hes.is_subset
  have h2 := hes.above
  refine wpAny_call ?_
  k_dflt cell_enter
  k_steps
  rename Strs _ ch => hs9
  obtain ⟨t9, ht9⟩ := (Strs.cons name t hs9).last (by simp)
  refine last_list_M (by k_asm) (by k_asm) (by k_mem) ht9 ?_ (by with_unfolding_all rfl)
  k_steps
  exact ret _ _ _ (by k_asm) (by refine' cb_drop ?n ?s; (case n => k_asm); (case s => intro p hp; k_mem))
end
theorem word14 : True := by
  k_with "call ref" => (k_here; (with_reducible show wpAny _ _ (call (Value.ref 262) [Value.ref _, Value.str _ _]) _ _ _); k_dflt (refine' direct_ ?Bw16 ?Fw16 ?Xw16 ?Nw16 ?Tw16 ?kKw16 ?hxw16 ?hdxw16 ?hew16 ?hoew16 ?hesw16 ?hdw16 ?huw16 ?hvw16 ?hiw16 ?zw16 ?_; (case Bw16 => k_asm); (case Fw16 => k_asm); (case Xw16 => k_asm); (case Nw16 => k_asm); (case Tw16 => k_asm); (case kKw16 => first | exact rfl | assumption); (case hxw16 => k_mem); (case hdxw16 => k_mem); (case hesw16 => assumption); (case hew16 => k_mem); (case hoew16 => assumption); (case hvw16 => assumption); (case hiw16 => first | assumption | (refine' ItemIn.mono ?s9w16 ?i9w16; (case i9w16 => assumption); (case s9w16 => intro p9z9 hp9z9; k_mem))); (case hdw16 => ktr_room); (case huw16 => ktr_units); (case zw16 => first | assumption | (simp only [List.length_nil]; omega)); k_whole); intro d9z9 tl9z9 vs9z9 h9z9 tk9z9 F9z9 N9z9 lt9z9 hd9z9 hvs9z9; (have hl9z9 := Strs.len hvs9z9))
  k_with "call ref" => (k_here; (with_reducible show wpAny _ _ (call (Value.ref 349) [Value.ref _, Value.str _ _]) _ _ _); k_dflt (refine' top_sub_ ?Bw17 ?Fw17 ?Xw17 ?Nw17 ?Tw17 ?kKw17 ?hxw17 ?hdxw17 ?hew17 ?hoew17 ?hesw17 ?hdw17 ?huw17 ?hvw17 ?hiw17 ?zw17 ?new17 ?_; (case Bw17 => k_asm); (case Fw17 => k_asm); (case Xw17 => k_asm); (case Nw17 => k_asm); (case Tw17 => k_asm); (case kKw17 => first | exact rfl | assumption); (case hxw17 => k_mem); (case hdxw17 => k_mem); (case hesw17 => assumption); (case hew17 => k_mem); (case hoew17 => assumption); (case hvw17 => assumption); (case hiw17 => first | assumption | (refine' ItemIn.mono ?s9w17 ?i9w17; (case i9w17 => assumption); (case s9w17 => intro p9z9 hp9z9; k_mem))); (case hdw17 => ktr_room); (case huw17 => ktr_units); (case zw17 => first | assumption | (simp only [List.length_nil]; omega)); (case new17 => first | assumption | omega); k_whole); intro t9z9 h9z9 tk9z9 F9z9 N9z9)
  k_with "call ref" => (k_here; (with_reducible show wpAny _ _ (call (Value.ref 349) [Value.ref _, Value.str _ _]) _ _ _); k_dflt (refine' top_base_ ?Bw18 ?Fw18 ?Xw18 ?Nw18 ?Tw18 ?kKw18 ?hxw18 ?hdxw18 ?hew18 ?hoew18 ?hesw18 ?hdw18 ?huw18 ?hvw18 ?hiw18 ?hupw18 ?hclw18 ?_; (case Bw18 => k_asm); (case Fw18 => k_asm); (case Xw18 => k_asm); (case Nw18 => k_asm); (case Tw18 => k_asm); (case kKw18 => first | exact rfl | assumption); (case hxw18 => k_mem); (case hdxw18 => k_mem); (case hesw18 => assumption); (case hew18 => k_mem); (case hoew18 => assumption); (case hvw18 => assumption); (case hiw18 => first | assumption | (refine' ItemIn.mono ?s9w18 ?i9w18; (case i9w18 => assumption); (case s9w18 => intro p9z9 hp9z9; k_mem))); (case hdw18 => ktr_room); (case huw18 => ktr_units); (case hupw18 => first | assumption | (refine' Up.mono ?s9w18 ?i9w18; (case i9w18 => assumption); (case s9w18 => intro p9z9 hp9z9; k_mem))); (case hclw18 => first | assumption | omega); k_whole); intro t9z9 h9z9 tk9z9 F9z9 N9z9)
  trivial

theorem Strs.are {vs : List Value} {xs : List Str} (h : Strs vs xs) : StrsAre vs xs := by
  induction h with
  | nil => exact .nil
  | cons x t _ ih => exact .cons x t ih
theorem isList_M {h₀ h : Heap} {L d : Addr} {led : List (Addr × Obj)} {vs : List Value} {k : Nat} (N : News h₀ L h led) (hd : (d, PySem.W.listOf (List.toArray vs) k) ∈ led) : h.IsList d (List.toArray vs) := ⟨_, (N _ hd).1, rfl, _, rfl⟩
theorem word15 : True := by
  k_with "compareOp In str ref" => (k_here; (with_reducible show wpAny _ _ (compareOp CmpOp.In (Value.str _ _) (Value.ref _)) _ _ _); k_dflt (refine' in_list_strs (isList_M ?Nw19 ?mw19) ?iw19 ?_; (case Nw19 => k_asm); (case mw19 => k_mem); (case iw19 => exact Strs.are (by assumption)); k_whole))
  k_with "compareOp NotIn str ref" => (k_here; (with_reducible show wpAny _ _ (compareOp CmpOp.NotIn (Value.str _ _) (Value.ref _)) _ _ _); k_dflt (refine' notin_list_strs (isList_M ?Nw20 ?mw20) ?iw20 ?_; (case Nw20 => k_asm); (case mw20 => k_mem); (case iw20 => exact Strs.are (by assumption)); k_whole))
  trivial

theorem word16 : True := by
  k_with "eval ListComp" => refine hold ?_
  k_with "exec Assign cons ListComp" => refine hold ?_
  k_with "CompSrc" => refine hold ?_
  k_with "exec For" => refine hold ?_
  k_with "exec For Name Call" => refine hold ?_
  k_with "exec For Name Call cons nil" => refine hold ?_
  k_with "exec For Name Name" => refine hold ?_
  k_with "exec For Name Name cons nil" => refine hold ?_
  k_with "exec For Name Attribute" => refine hold ?_
  k_with "exec For Name Attribute cons nil" => refine hold ?_
  k_with "exec For Tuple Call" => refine hold ?_
  k_with "exec For Tuple Call cons nil" => refine hold ?_
  k_with "exec For Name Subscript" => refine hold ?_
  k_with "exec For Name Subscript cons nil" => refine hold ?_
  k_with "exec For Name BinOp" => refine hold ?_
  k_with "exec For Name BinOp cons nil" => refine hold ?_
  k_with "ktr_unf" => (refine' code_defC ?k1w37 ?k2w37 ?k3w37 ?k4w37 ?k5w37 ?kAw37 ?kFw37 ?kKw37 ?k6w37 ?k7w37 ?k8w37 ?k9w37 ?kBw37 ?kDw37 ?_ ?c2w37 ?c3w37 ?c4w37; (case kAw37 => exact rfl); (case kFw37 => exact rfl); (case kKw37 => assumption); (case k1w37 => k_asm); (case k2w37 => k_asm); (case k3w37 => k_asm); (case k4w37 => k_asm); (case k5w37 => k_asm); (case k6w37 => k_is); (case k7w37 => k_is); (case k8w37 => ktr_room); (case k9w37 => exact BindsTo.of_eq rfl); (case kBw37 => exact rfl); (case kDw37 => decide +kernel); (case c2w37 => exact rfl); (case c3w37 => exact rfl); (case c4w37 => exact rfl); k_whole; intro gz9 Lz9 hz9 tkz9 cellsz9 FGz9 Fz9 Nz9 Yz9 Bz9 Xz9 Tz9 l1z9; k_cells Yz9; (try simp only [List.cons_append, List.nil_append] at Nz9); (try dsimp only); (try k_lift Bz9); (try k_fold))
  trivial
local macro_rules | `(tactic| ktr_unf) => `(tactic| k_extra "ktr_unf")
structure CoM (ec : List DictEntry) (x kd : Addr) : Prop where
  signatures : getL (Str.ofString "signatures") ec = some (some (.ref x))
  known : getL (Str.ofString "known_columns") ec = some (some (.ref kd))
  is_under : getL (Str.ofString "is_under") ec = some none
  narrower : getL (Str.ofString "narrower") ec = some none
  common : getL (Str.ofString "common") ec = some none
  want_few : getL (Str.ofString "want_few") ec = some none
  plain : getL (Str.ofString "plain") ec = some none
  sig_columns : getL (Str.ofString "sig_columns") ec = some none

section
variable {w : World} {p : Program} {loose : List Str} {mean : ExcName → Option Value} {mg mb : Str → Option Value}
    {dp un : Nat} {gd : Option (List Code)} {cn : Str} {cs : Scope} {a : Addr} {ccd : Value} {cl : List (Str × Addr)} {outer : List Env} {A₀ : Around} {base h₀ : Heap} {L : Addr} {m : Str → Option Value} {news : List (Addr × Obj)} {s : Shared} {Q E : Value → Shared → Prop}
    (B : Below A₀ base outer h₀) (F : Fr h₀ L s.heap m) (X : (hd.heap_1 w.params).In h₀) (N : News h₀ L s.heap news) (T : Top p loose mean mg mb h₀) (hk : cs.kind = .function)
    {x dx e c dc kd : Addr} {es ec : List DictEntry} {n nc : Nat} {oe : Obj} {kvs : List (Str × Value)} {one other : Str} {t t' : Tok}
    (hx : (x, instObj 394 dx) ∈ news) (hdx : (dx, dictOf es n) ∈ news) (he : (e, oe) ∈ news) (hoe : oe.IsDictOf (PySem.strKind PG w) kvs) (hes : SgM es e)
    (hc : (c, instObj 223 dc) ∈ news) (hdc : (dc, dictOf ec nc) ∈ news) (hec : CoM ec x kd)
include B F X N T hk hx hdx he hoe hes hc hdc hec

theorem is_under_ {ch : List Str} (hd : dp + 24 < recursionLimit) (hu : un + 240 < cLine) (hup : Up news kvs one ch) (hcl : ch.length ≤ 90)
    (ret : ∀ h' tk', Fr h₀ L h' m → News h₀ L h' news → Q (.bool (one == other || ch.any (· == other))) { s with heap := h', toks := tk' }) :
    wpAny (model PG w) (ktrTop dp un gd cn cs L a ccd cl outer) (call (.ref 123) [.ref c, .str one t, .str other t']) Q E s := by
  have h1 := hec.signatures
  have h2 := hes.above
  refine wpAny_call ?_
  k_dflt cell_enter
  k_steps
  · rename (one == other) = true => hb
    have e : Value.bool (one == other) = Value.bool (one == other || ch.any (· == other)) := by rw [hb, Bool.true_or]
    rw [e]
    exact ret _ _ (by k_asm) (by k_asm)
  · rename (one == other) = false => hb
    have e : Value.bool (ch.any (· == other)) = Value.bool (one == other || ch.any (· == other)) := by rw [hb, Bool.false_or]
    rw [e]
    exact ret _ _ (by k_asm) (by refine' cb_drop ?n ?s; (case n => k_asm); (case s => intro p hp; k_mem))
end
theorem word17 : True := by
  k_with "call ref" => (k_here; (with_reducible show wpAny _ _ (call (Value.ref 123) [Value.ref _, Value.str _ _, Value.str _ _]) _ _ _); k_dflt (refine' is_under_ ?Bw38 ?Fw38 ?Xw38 ?Nw38 ?Tw38 ?kKw38 ?hxw38 ?hdxw38 ?hew38 ?hoew38 ?hesw38 ?hcw38 ?hdcw38 ?hecw38 ?hdw38 ?huw38 ?hupw38 ?hclw38 ?_; (case Bw38 => k_asm); (case Fw38 => k_asm); (case Xw38 => k_asm); (case Nw38 => k_asm); (case Tw38 => k_asm); (case kKw38 => first | exact rfl | assumption); (case hcw38 => k_mem); (case hdcw38 => k_mem); (case hecw38 => assumption); (case hxw38 => k_mem); (case hdxw38 => k_mem); (case hesw38 => assumption); (case hew38 => k_mem); (case hoew38 => assumption); (case hdw38 => ktr_room); (case huw38 => ktr_units); (case hupw38 => first | assumption | (refine' Up.mono ?s9w38 ?i9w38; (case i9w38 => assumption); (case s9w38 => intro p9z9 hp9z9; k_mem))); (case hclw38 => first | assumption | omega); k_whole); intro h9z9 tk9z9 F9z9 N9z9)
  trivial
section
variable {w : World} {p : Program} {loose : List Str} {mean : ExcName → Option Value} {mg mb : Str → Option Value}
    {dp un : Nat} {gd : Option (List Code)} {cn : Str} {cs : Scope} {a : Addr} {ccd : Value} {cl : List (Str × Addr)} {outer : List Env} {A₀ : Around} {base h₀ : Heap} {L : Addr} {m : Str → Option Value} {news : List (Addr × Obj)} {s : Shared} {Q E : Value → Shared → Prop}
    (B : Below A₀ base outer h₀) (F : Fr h₀ L s.heap m) (X : (hd.heap_1 w.params).In h₀) (N : News h₀ L s.heap news) (T : Top p loose mean mg mb h₀) (hk : cs.kind = .function)
    {x dx e c dc kd : Addr} {es ec : List DictEntry} {n nc : Nat} {oe : Obj} {kvs : List (Str × Value)} {one other : Str} {t t' : Tok}
    (hx : (x, instObj 394 dx) ∈ news) (hdx : (dx, dictOf es n) ∈ news) (he : (e, oe) ∈ news) (hoe : oe.IsDictOf (PySem.strKind PG w) kvs) (hes : SgM es e)
    (hc : (c, instObj 223 dc) ∈ news) (hdc : (dc, dictOf ec nc) ∈ news) (hec : CoM ec x kd)
include B F X N T hk hx hdx he hoe hes hc hdc hec

theorem narrower_ {ch ch' : List Str} (hd : dp + 32 < recursionLimit) (hu : un + 320 < cLine) (hup : Up news kvs one ch) (hcl : ch.length ≤ 90) (hup' : Up news kvs other ch') (hcl' : ch'.length ≤ 90)
    (ret : ∀ t9 h' tk', Fr h₀ L h' m → News h₀ L h' news → Q (.str (if (one == other || ch.any (· == other)) = true then one else if (other == one || ch'.any (· == one)) = true then other else Str.ofString "") t9) { s with heap := h', toks := tk' }) :
    wpAny (model PG w) (ktrTop dp un gd cn cs L a ccd cl outer) (call (.ref 130) [.ref c, .str one t, .str other t']) Q E s := by
  have h1 := hec.is_under
  refine wpAny_call ?_
  k_dflt cell_enter
  k_steps
  · rename (one == other || _) = true => h3
    rw [if_pos h3] at ret
    exact ret _ _ _ (by k_asm) (by k_asm)
  · rename (one == other || _) = false => h3
    rename (other == one || _) = true => h4
    rw [if_neg (by rw [h3]; simp), if_pos h4] at ret
    exact ret _ _ _ (by k_asm) (by k_asm)
  · rename (one == other || _) = false => h3
    rename (other == one || _) = false => h4
    rw [if_neg (by rw [h3]; simp), if_neg (by rw [h4]; simp)] at ret
    exact ret _ _ _ (by k_asm) (by k_asm)
end
theorem word18 : True := by
  k_with "call ref" => (k_here; (with_reducible show wpAny _ _ (call (Value.ref 130) [Value.ref _, Value.str _ _, Value.str _ _]) _ _ _); k_dflt (refine' narrower_ ?Bw39 ?Fw39 ?Xw39 ?Nw39 ?Tw39 ?kKw39 ?hxw39 ?hdxw39 ?hew39 ?hoew39 ?hesw39 ?hcw39 ?hdcw39 ?hecw39 ?hdw39 ?huw39 ?hupw39 ?hclw39 ?hup'w39 ?hcl'w39 ?_; (case Bw39 => k_asm); (case Fw39 => k_asm); (case Xw39 => k_asm); (case Nw39 => k_asm); (case Tw39 => k_asm); (case kKw39 => first | exact rfl | assumption); (case hcw39 => k_mem); (case hdcw39 => k_mem); (case hecw39 => assumption); (case hxw39 => k_mem); (case hdxw39 => k_mem); (case hesw39 => assumption); (case hew39 => k_mem); (case hoew39 => assumption); (case hdw39 => ktr_room); (case huw39 => ktr_units); (case hupw39 => first | assumption | (refine' Up.mono ?s9w39 ?i9w39; (case i9w39 => assumption); (case s9w39 => intro p9z9 hp9z9; k_mem))); (case hclw39 => first | assumption | omega); (case hup'w39 => first | assumption | (refine' Up.mono ?s9w39 ?i9w39; (case i9w39 => assumption); (case s9w39 => intro p9z9 hp9z9; k_mem))); (case hcl'w39 => first | assumption | omega); k_whole); intro t9z9 h9z9 tk9z9 F9z9 N9z9)
  trivial

theorem lcx_local {M : Model} {A : Around} {E : Value → Shared → Prop} {s : Shared} {h₀ : Heap} {C : Addr} {m : Str → Option Value} {scope : Scope} {cl : List (Str × Addr)} {env : Env} {x : Str} {pos : Pos} {v : Value} {Q : Value → Shared → Prop} (F : Fr h₀ C s.heap m) (hv : m x = some v) (h : Q v s)
    (hk : (compEnvC scope cl C env).scope.kind = .function) (hx : (compEnvC scope cl C env).kindOf x = some .local) (hd : (x == ("__debug__" : Str)) = false) :
    wpAny M A (eval (.Name x pos) (compEnvC scope cl C env)) Q E s := wpAny_Name (wpAny_loadName_local hk hx F.ns hv h) hd
theorem word19 : True := by
  k_with "eval Name" => (k_here; (with_reducible show wpAny _ _ (eval (Expr.Name _ _) (compEnvC _ _ _ _)) _ _ _); k_dflt (refine' lcx_local (by k_asm) (by first | rfl | tb_rel) ?_ (by rfl) (by rfl) (by decide); k_whole))
  k_with "call type:zip" => refine hold ?_
  trivial
noncomputable def nar (one other : Str) (ch ch' : List Str) : Str := if (one == other || ch.any (· == other)) = true then one else if (other == one || ch'.any (· == one)) = true then other else Str.ofString ""
section
variable {w : World} {p : Program} {loose : List Str} {mean : ExcName → Option Value} {mg mb : Str → Option Value}
    {dp un : Nat} {gd : Option (List Code)} {cn : Str} {cs : Scope} {a : Addr} {ccd : Value} {cl : List (Str × Addr)} {outer : List Env} {A₀ : Around} {base h₀ : Heap} {L : Addr} {m : Str → Option Value} {news : List (Addr × Obj)} {s : Shared} {Q E : Value → Shared → Prop}
    (B : Below A₀ base outer h₀) (F : Fr h₀ L s.heap m) (X : (hd.heap_1 w.params).In h₀) (N : News h₀ L s.heap news) (T : Top p loose mean mg mb h₀) (hk : cs.kind = .function)
    {x dx e c dc kd : Addr} {es ec : List DictEntry} {n nc : Nat} {oe : Obj} {kvs : List (Str × Value)} {one other : Str} {t t' : Tok}
    (hx : (x, instObj 394 dx) ∈ news) (hdx : (dx, dictOf es n) ∈ news) (he : (e, oe) ∈ news) (hoe : oe.IsDictOf (PySem.strKind PG w) kvs) (hes : SgM es e)
    (hc : (c, instObj 223 dc) ∈ news) (hdc : (dc, dictOf ec nc) ∈ news) (hec : CoM ec x kd)
include B F X N T hk hx hdx he hoe hes hc hdc hec

theorem common_ {ch ch' : List Str} {o1 o2 : Addr} (hd : dp + 40 < recursionLimit) (hu : un + 400 < cLine) (hup : Up news kvs one ch) (hcl : ch.length ≤ 90) (hup' : Up news kvs other ch') (hcl' : ch'.length ≤ 90)
    (ho1 : (o1, tupO [.str one t]) ∈ news) (ho2 : (o2, tupO [.str other t']) ∈ news)
    (ret0 : ∀ h' tk', nar one other ch ch' = Str.ofString "" → Fr h₀ L h' m → News h₀ L h' news → Q .none { s with heap := h', toks := tk' })
    (ret1 : ∀ D t9 h' tk', nar one other ch ch' ≠ Str.ofString "" → Fr h₀ L h' m → News h₀ L h' ((D, tupO [.str (nar one other ch ch') t9]) :: news) → (∀ q ∈ news, q.1 < D) → Q (.ref D) { s with heap := h', toks := tk' }) :
    wpAny (model PG w) (ktrTop dp un gd cn cs L a ccd cl outer) (call (.ref 135) [.ref c, .ref o1, .ref o2]) Q E s := by
  have h1 := hec.narrower
  refine wpAny_call ?_
  k_dflt ktr_unf
  k_steps
  unfold Hold
  rename Fr _ _ _ _ => Fx
  refine lt_eval Fx (by with_unfolding_all rfl) (by decide) (by rfl) (by decide) ?_ (by intro _; rfl)
  k_steps
  unfold Hold
  rename Fr _ _ _ _ => Fx
  rename News _ _ _ _ => Nx
  refine lt_zip_11 (R := fun v => ∃ t, v = .str (nar one other ch ch') t) (a := .str one t) (b := .str other t') .led .led (by with_unfolding_all rfl) Fx Nx (by rfl) (by rfl) (by rfl) (by intro p hp; rw [List.mem_singleton.mp hp]; k_mem) (by intro p hp; rw [List.mem_singleton.mp hp]; k_mem) ?_ ?_
  · intro own C m₁ h tk E' FL FC N'
    try dsimp only [prFm] at FC
    clear Fx Nx
    k_steps
    exact KEnd.intro ⟨_, rfl⟩ (by k_asm) (by k_asm)
  · rintro v D k h tk ⟨t9, rfl⟩ FL N' hD
    clear Fx Nx
    k_steps
    · rename (List.any _ _ = true) => hb
      exact ret0 _ _ (by simpa using hb) (by k_asm) (by refine' cb_drop ?n ?s; (case n => k_asm); (case s => intro p hp; k_mem))
    · rename (List.any _ _ = false) => hb
      rename (_ ∧ _ ∧ AllLt _ _) => hl
      exact ret1 _ t9 _ _ (by simpa using hb) (by k_asm) (by refine' cb_drop ?n ?s; (case n => k_asm); (case s => intro p hp; rcases List.mem_cons.mp hp with rfl | hp; exact .head _; k_mem)) (fun q hq => ktn_ltOf hl.2.2 q hq)
end
theorem word20 : True := by
  k_with "call ref" => (k_here; (with_reducible show wpAny _ _ (call (Value.ref 135) [Value.ref _, Value.ref _, Value.ref _]) _ _ _); k_dflt (refine' common_ ?Bw42 ?Fw42 ?Xw42 ?Nw42 ?Tw42 ?kKw42 ?hxw42 ?hdxw42 ?hew42 ?hoew42 ?hesw42 ?hcw42 ?hdcw42 ?hecw42 ?hdw42 ?huw42 ?hupw42 ?hclw42 ?hup'w42 ?hcl'w42 ?ho1w42 ?ho2w42 ?_ ?_; (case Bw42 => k_asm); (case Fw42 => k_asm); (case Xw42 => k_asm); (case Nw42 => k_asm); (case Tw42 => k_asm); (case kKw42 => first | exact rfl | assumption); (case hcw42 => k_mem); (case hdcw42 => k_mem); (case hecw42 => assumption); (case hxw42 => k_mem); (case hdxw42 => k_mem); (case hesw42 => assumption); (case hew42 => k_mem); (case hoew42 => assumption); (case hdw42 => ktr_room); (case huw42 => ktr_units); (case ho1w42 => k_mem); (case ho2w42 => k_mem); (case hupw42 => first | assumption | (refine' Up.mono ?s9w42 ?i9w42; (case i9w42 => assumption); (case s9w42 => intro p9z9 hp9z9; k_mem))); (case hclw42 => first | assumption | omega); (case hup'w42 => first | assumption | (refine' Up.mono ?s9w42 ?i9w42; (case i9w42 => assumption); (case s9w42 => intro p9z9 hp9z9; k_mem))); (case hcl'w42 => first | assumption | omega); k_whole; first | (intro h9z9 tk9z9 hz9z9 F9z9 N9z9; (try dsimp only at F9z9 N9z9)) | (intro D9z9 t9z9 h9z9 tk9z9 hz9z9 F9z9 N9z9 lt9z9; (try dsimp only at F9z9 N9z9))))
  trivial

section
variable {prog : Program} {w : World} {A : Around} {E : Value → Shared → Prop} {s : Shared} {h₀ : Heap} {L : Addr} {news : List (Addr × Obj)} {Q : Value → Shared → Prop}
theorem eq_dat {a b : Value} {d e : Dat} {r : Bool} (N : News h₀ L s.heap news) (Da : DatIn news a d) (Db : DatIn news b e) (ka : kqdOk 8 d = true) (kb : kqdOk 8 e = true) (hu : A.units + 64 < cLine) (hr : r = true ↔ d = e) (h : Q (.bool r) s) :
    wpAny (model prog w) A (compareOp .Eq a b) Q E s := by
  obtain ⟨as, ra⟩ := kqd_in N 8 Da ka
  obtain ⟨bs, rb⟩ := kqd_in N 8 Db kb
  have la := kqd_lay 8 d ka
  have lb := kqd_lay 8 e kb
  have q := kqd_eqv 8 d e 8 ka kb
  have e : PyData.eqv (kqdP d) (kqdP e) = r := Bool.eq_iff_iff.mpr (q.trans hr.symm)
  refine eq_dataH ra rb ?_ ?_ hu (by rw [e]; exact h)
  · unfold SeqAt.shaped; rw [la.1, Bool.true_and]; exact decide_eq_true (Nat.le_trans la.2 (by decide))
  · unfold SeqAt.shaped; rw [lb.1, Bool.true_and]; exact decide_eq_true (Nat.le_trans lb.2 (by decide))
theorem ne_dat {a b : Value} {d e : Dat} {r : Bool} (N : News h₀ L s.heap news) (Da : DatIn news a d) (Db : DatIn news b e) (ka : kqdOk 8 d = true) (kb : kqdOk 8 e = true) (hu : A.units + 64 < cLine) (hr : r = true ↔ d = e) (h : Q (.bool (!r)) s) :
    wpAny (model prog w) A (compareOp .NotEq a b) Q E s := by
  obtain ⟨as, ra⟩ := kqd_in N 8 Da ka
  obtain ⟨bs, rb⟩ := kqd_in N 8 Db kb
  have la := kqd_lay 8 d ka
  have lb := kqd_lay 8 e kb
  have q := kqd_eqv 8 d e 8 ka kb
  have e : PyData.eqv (kqdP d) (kqdP e) = r := Bool.eq_iff_iff.mpr (q.trans hr.symm)
  refine ne_dataH ra rb ?_ ?_ hu (by rw [e]; exact h)
  · unfold SeqAt.shaped; rw [la.1, Bool.true_and]; exact decide_eq_true (Nat.le_trans la.2 (by decide))
  · unfold SeqAt.shaped; rw [lb.1, Bool.true_and]; exact decide_eq_true (Nat.le_trans lb.2 (by decide))
theorem ok1 {x : Str} (h : PyData.strOk x = true) : kqdOk 8 (.tuple [.str x]) = true := by simp [kqdOk, h]
theorem eq_t1 {a b : Addr} {x y : Str} {t u : Tok} (N : News h₀ L s.heap news) (ha : (a, tupO [.str x t]) ∈ news) (hb : (b, tupO [.str y u]) ∈ news) (ka : PyData.strOk x = true) (kb : PyData.strOk y = true) (hu : A.units + 64 < cLine) (h : Q (.bool (decide (x = y))) s) :
    wpAny (model prog w) A (compareOp .Eq (.ref a) (.ref b)) Q E s :=
  eq_dat N (.tuple (vs := [.str x t]) ha (.cons (.str _ _) .nil)) (.tuple (vs := [.str y u]) hb (.cons (.str _ _) .nil)) (ok1 ka) (ok1 kb) hu (by simp) h
theorem ne_t1 {a b : Addr} {x y : Str} {t u : Tok} (N : News h₀ L s.heap news) (ha : (a, tupO [.str x t]) ∈ news) (hb : (b, tupO [.str y u]) ∈ news) (ka : PyData.strOk x = true) (kb : PyData.strOk y = true) (hu : A.units + 64 < cLine) (h : Q (.bool (!decide (x = y))) s) :
    wpAny (model prog w) A (compareOp .NotEq (.ref a) (.ref b)) Q E s :=
  ne_dat N (.tuple (vs := [.str x t]) ha (.cons (.str _ _) .nil)) (.tuple (vs := [.str y u]) hb (.cons (.str _ _) .nil)) (ok1 ka) (ok1 kb) hu (by simp) h
theorem eq_nt {b : Addr} {y : Str} {u : Tok} (N : News h₀ L s.heap news) (hb : (b, tupO [.str y u]) ∈ news) (kb : PyData.strOk y = true) (hu : A.units + 64 < cLine) (h : Q (.bool false) s) :
    wpAny (model prog w) A (compareOp .Eq .none (.ref b)) Q E s :=
  eq_dat N .none (.tuple (vs := [.str y u]) hb (.cons (.str _ _) .nil)) (by rfl) (ok1 kb) hu (by simp) h
theorem eq_l0 {a b : Addr} {vs : List Value} {ds : List Dat} {k k' : Nat} (N : News h₀ L s.heap news) (ha : (a, PySem.W.listOf (List.toArray vs) k) ∈ news) (hb : (b, PySem.W.listOf (List.toArray []) k') ∈ news) (D : DatAll news vs ds) (ka : ∀ d ∈ ds, kqdOk 7 d = true) (hu : A.units + 64 < cLine) (h : Q (.bool vs.isEmpty) s) :
    wpAny (model prog w) A (compareOp .Eq (.ref a) (.ref b)) Q E s :=
  eq_dat N (.list ha D) (.list hb .nil) (by simpa [kqdOk] using ka) (by rfl) hu (by cases D <;> simp) h
end
theorem word21 : True := by
  k_with "compareOp Eq ref ref" => (k_here; (with_reducible show wpAny _ _ (compareOp CmpOp.Eq (Value.ref _) (Value.ref _)) _ _ _); k_dflt (refine' eq_t1 ?Nw43 ?haw43 ?hbw43 ?kaw43 ?kbw43 ?huw43 ?_; (case Nw43 => k_asm); (case haw43 => k_mem); (case hbw43 => k_mem); (case kaw43 => assumption); (case kbw43 => assumption); (case huw43 => ktr_units); k_whole))
  k_with "compareOp NotEq ref ref" => (k_here; (with_reducible show wpAny _ _ (compareOp CmpOp.NotEq (Value.ref _) (Value.ref _)) _ _ _); k_dflt (refine' ne_t1 ?Nw44 ?haw44 ?hbw44 ?kaw44 ?kbw44 ?huw44 ?_; (case Nw44 => k_asm); (case haw44 => k_mem); (case hbw44 => k_mem); (case kaw44 => assumption); (case kbw44 => assumption); (case huw44 => ktr_units); k_whole))
  k_with "compareOp Eq none ref" => (k_here; (with_reducible show wpAny _ _ (compareOp CmpOp.Eq Value.none (Value.ref _)) _ _ _); k_dflt (refine' eq_nt ?Nw45 ?hbw45 ?kbw45 ?huw45 ?_; (case Nw45 => k_asm); (case hbw45 => k_mem); (case kbw45 => assumption); (case huw45 => ktr_units); k_whole))
  trivial
theorem bnm_ok : ∀ i < 6, PyData.strOk (Tab.bnm i) = true := by decide +kernel

theorem tuple_list_M {prog : Program} {w : World} {A : Around} {E : Value → Shared → Prop} {s : Shared} {h₀ : Heap} {L d : Addr} {m : Str → Option Value} {led : List (Addr × Obj)} {vs : List Value} {k : Nat} {Q : Value → Shared → Prop} (F : Fr h₀ L s.heap m) (N : News h₀ L s.heap led) (hd : (d, PySem.W.listOf (List.toArray vs) k) ∈ led) (hz : vs.length ≤ 1000)
    (h : ∀ D h', Fr h₀ L h' m → News h₀ L h' ((D, tupO vs) :: led) → (∀ q ∈ led, q.1 < D) → Q (.ref D) { s with heap := h' }) : wpAny (model prog w) A (call (.type "tuple") [.ref d]) Q E s := by
  refine PySem.call_tuple_list (isList_M N hd) (fun h' hk => ?_) (by rw [List.size_toArray, sizeLine_eq]; omega)
  have F' := F.keeps hk
  refine h _ _ (F'.push _) (fun p hp => ?_) fun q hq => Heap.lt_size (hk _ _ (N q hq).1)
  rcases List.mem_cons.mp hp with rfl | hp
  · exact ⟨Heap.get?_push_size _ rfl, Ne.symm (Nat.ne_of_lt F'.ns.lt), none_at (s := { s with heap := h' }) F'⟩
  · exact ⟨Heap.get?_push_of_some _ (hk _ _ (N p hp).1), (N p hp).2⟩
theorem word22 : True := by
  k_with "call type:tuple" => (k_here; (with_reducible show wpAny _ _ (call (Value.type _) [Value.ref _]) _ _ _); k_dflt (refine' tuple_list_M ?Fw46 ?Nw46 ?mw46 ?zw46 ?_; (case Fw46 => k_asm); (case Nw46 => k_asm); (case mw46 => k_mem); (case zw46 => first | assumption | omega | ((try simp only [List.length_append, List.length_cons, List.length_nil] at *); omega)); k_whole); intro D9z9 h9z9 F9z9 N9z9 lt9z9; (try dsimp only at F9z9 N9z9))
  trivial
theorem len_list_M {prog : Program} {w : World} {A : Around} {E : Value → Shared → Prop} {s : Shared} {h₀ : Heap} {L d : Addr} {led : List (Addr × Obj)} {vs : List Value} {k : Nat} {Q : Value → Shared → Prop} (N : News h₀ L s.heap led) (hd : (d, PySem.W.listOf (List.toArray vs) k) ∈ led) (hz : vs.length ≤ 100000)
    (h : Q (.int vs.length (s.toks + 1)) { s with toks := s.toks + 1 + 1 }) : wpAny (model prog w) A (call (.builtin "len") [.ref d]) Q E s :=
  Calls.call_len_list (isList_M N hd) (by rw [List.size_toArray]; omega) (by rw [List.size_toArray]; exact h)
theorem word23 : True := by
  k_with "call builtin:len" => (k_here; (with_reducible show wpAny _ _ (call (Value.builtin "len") [Value.ref _]) _ _ _); k_dflt (refine' len_list_M (by k_asm) (by k_mem) (by first | assumption | omega | ((try simp only [List.length_append, List.length_cons, List.length_nil] at *); omega)) ?_; k_whole))
  trivial
section
variable {w : World} {p : Program} {loose : List Str} {mean : ExcName → Option Value} {mg mb : Str → Option Value}
    {dp un : Nat} {gd : Option (List Code)} {cn : Str} {cs : Scope} {a : Addr} {ccd : Value} {cl : List (Str × Addr)} {outer : List Env} {A₀ : Around} {base h₀ : Heap} {L : Addr} {m : Str → Option Value} {news : List (Addr × Obj)} {s : Shared} {Q E : Value → Shared → Prop}
    (B : Below A₀ base outer h₀) (F : Fr h₀ L s.heap m) (X : (hd.heap_1 w.params).In h₀) (N : News h₀ L s.heap news) (T : Top p loose mean mg mb h₀) (hk : cs.kind = .function)
include B F X N T hk
theorem want_few_ {c : Addr} {z : Int} {t : Tok} (hd : dp + 8 < recursionLimit) (hu : un + 80 < cLine) (hz : z ≤ 300)
    (ret : ∀ h' tk', Fr h₀ L h' m → News h₀ L h' news → Q .none { s with heap := h', toks := tk' }) :
    wpAny (model PG w) (ktrTop dp un gd cn cs L a ccd cl outer) (call (.ref 142) [.ref c, .int z t]) Q E s := by
  refine wpAny_call ?_
  k_dflt cell_enter
  k_steps
  exact ret _ _ (by k_asm) (by k_asm)
end
theorem word24 : True := by
  k_with "call ref" => (k_here; (with_reducible show wpAny _ _ (call (Value.ref 142) [Value.ref _, Value.int _ _]) _ _ _); k_dflt (refine' want_few_ ?Bw48 ?Fw48 ?Xw48 ?Nw48 ?Tw48 ?kKw48 ?hdw48 ?huw48 ?hzw48 ?_; (case Bw48 => k_asm); (case Fw48 => k_asm); (case Xw48 => k_asm); (case Nw48 => k_asm); (case Tw48 => k_asm); (case kKw48 => first | exact rfl | assumption); (case hdw48 => ktr_room); (case huw48 => ktr_units); (case hzw48 => first | assumption | omega); k_whole); intro h9z9 tk9z9 F9z9 N9z9)
  k_with "call type:set" => refine hold ?_
  k_with "call builtin:sorted" => refine hold ?_
  trivial
noncomputable def p2 (ch : Nat → List Str) (i j : Nat) : Bool := j != i && (ch i).any (· == Tab.bnm j)
theorem kin_at {news : List (Addr × Obj)} {vs : List Value} {l : List Nat} (k : Tab.KIn news vs l) : ∀ {i : Nat} {v : Value}, vs[i]? = some v → ∃ a t j, l[i]? = some j ∧ v = .ref a ∧ (a, tupO [.str (Tab.bnm j) t]) ∈ news := by
  induction k with
  | nil => intro i v h; simp at h
  | cons hm _ ih =>
    intro i v h
    cases i with
    | zero => simp only [List.getElem?_cons_zero, Option.some.injEq] at h; exact ⟨_, _, _, rfl, h.symm, hm⟩
    | succ i => simp only [List.getElem?_cons_succ] at h ⊢; exact ih h
theorem kin_snoc {news : List (Addr × Obj)} {vs : List Value} {l : List Nat} {a : Addr} {j : Nat} {t : Tok} (k : Tab.KIn news vs l) (hm : (a, tupO [.str (Tab.bnm j) t]) ∈ news) : Tab.KIn news (vs ++ [.ref a]) (l ++ [j]) := by
  induction k with
  | nil => exact .cons hm .nil
  | cons h _ ih => exact .cons h ih
theorem kin_dat {news : List (Addr × Obj)} {vs : List Value} {l : List Nat} (k : Tab.KIn news vs l) : DatAll news vs (l.map fun i => Dat.tuple [Dat.str (Tab.bnm i)]) := by
  induction k with
  | nil => exact .nil
  | cons h _ ih => exact .cons (.tuple (vs := [.str _ _]) h (.cons (.str _ _) .nil)) ih
theorem kin_drop {news : List (Addr × Obj)} {a : Addr} {o : Obj} {v : Option Value} (hd : o.data = .cell v) {vs : List Value} {l : List Nat} (k : Tab.KIn ((a, o) :: news) vs l) : Tab.KIn news vs l := by
  induction k with
  | nil => exact .nil
  | cons h _ ih =>
    rcases List.mem_cons.mp h with h | h
    · cases h; simp at hd
    · exact .cons h ih
theorem nar_ok {x y : Str} {c d : List Str} (hx : PyData.strOk x = true) (hy : PyData.strOk y = true) : PyData.strOk (nar x y c d) = true := by
  unfold nar
  split
  · exact hx
  · split
    · exact hy
    · decide +kernel
theorem bnm_ne : ∀ i < 6, Tab.bnm i ≠ Str.ofString "" := by decide +kernel
theorem nar_eq {ch : Nat → List Str} {i j : Nat} (hi : i < 6) (hj : j < 6) (hne : Tab.bnm j ≠ Tab.bnm i) : (nar (Tab.bnm i) (Tab.bnm j) (ch i) (ch j) = Tab.bnm i ↔ p2 ch i j = true) := by
  have hij : j ≠ i := fun h => hne (h ▸ rfl)
  have e1 : (Tab.bnm i == Tab.bnm j) = false := beq_eq_false_iff_ne.mpr (Ne.symm hne)
  unfold nar p2
  rw [e1, Bool.false_or]
  by_cases hc : ((ch i).any (· == Tab.bnm j)) = true
  · rw [if_pos hc, hc]; simp [hij]
  · rw [if_neg hc]
    simp only [Bool.not_eq_true] at hc
    rw [hc, Bool.and_false]
    refine ⟨fun h => ?_, fun h => by cases h⟩
    split at h
    · exact absurd h hne
    · exact absurd h.symm (bnm_ne i hi)
theorem nar_ne {ch : Nat → List Str} {i j : Nat} (hi : i < 6) (hj : j < 6) (hne : Tab.bnm j ≠ Tab.bnm i) (h : nar (Tab.bnm i) (Tab.bnm j) (ch i) (ch j) = Str.ofString "") : p2 ch i j = false := by
  cases hp : p2 ch i j with
  | false => rfl
  | true => exact absurd (((nar_eq hi hj hne).mpr hp).symm.trans h) (bnm_ne i hi)
theorem flt_true {l : List Nat} {p : Nat → Bool} {i j : Nat} (h : l[i]? = some j) (hp : p j = true) : (l.take (i + 1)).filter p = (l.take i).filter p ++ [j] := by
  rw [List.take_add_one, h, List.filter_append]; simp [hp]
theorem flt_false {l : List Nat} {p : Nat → Bool} {i j : Nat} (h : l[i]? = some j) (hp : p j = false) : (l.take (i + 1)).filter p = (l.take i).filter p := by
  rw [List.take_add_one, h, List.filter_append]; simp [hp]
noncomputable def pl (ch : Nat → List Str) (l : List Nat) : List Nat := (Tab.srt l).filter fun i => !(Tab.srt l).any (p2 ch i)
section
open Tab
variable {w : World} {p : Program} {loose : List Str} {mean : ExcName → Option Value} {mg mb : Str → Option Value}
    {dp un : Nat} {gd : Option (List Code)} {cn : Str} {cs : Scope} {a : Addr} {ccd : Value} {cl : List (Str × Addr)} {outer : List Env} {A₀ : Around} {base h₀ : Heap} {L : Addr} {m : Str → Option Value} {news : List (Addr × Obj)} {s : Shared} {Q E : Value → Shared → Prop}
    (B : Below A₀ base outer h₀) (F : Fr h₀ L s.heap m) (X : (hd.heap_1 w.params).In h₀) (N : News h₀ L s.heap news) (T : Top p loose mean mg mb h₀) (hk : cs.kind = .function)
    {x dx e c dc kd : Addr} {es ec : List DictEntry} {n nc : Nat} {oe : Obj} {kvs : List (Str × Value)}
    (hx : (x, instObj 394 dx) ∈ news) (hdx : (dx, dictOf es n) ∈ news) (he : (e, oe) ∈ news) (hoe : oe.IsDictOf (PySem.strKind PG w) kvs) (hes : SgM es e)
    (hc : (c, instObj 223 dc) ∈ news) (hdc : (dc, dictOf ec nc) ∈ news) (hec : CoM ec x kd)
include B F X N T hk hx hdx he hoe hes hc hdc hec
theorem plain_ {lst : Addr} {vs : List Value} {k : Nat} {l : List Nat} {ch : Nat → List Str} (hd : dp + 48 < recursionLimit) (hu : un + 480 < cLine) (hl : (lst, PySem.W.listOf (List.toArray vs) k) ∈ news) (hK : KIn news vs l) (hnd : l.Nodup) (h6 : ∀ i ∈ l, i < 6) (hne : l ≠ [])
    (hup : ∀ i ∈ l, Up news kvs (bnm i) (ch i)) (hcl : ∀ i ∈ l, (ch i).length ≤ 90)
    (ret : ∀ D vs' h' tk' d', Fr h₀ L h' m → News h₀ L h' ((D, tupO vs') :: news) → (∀ q ∈ news, q.1 < D) → KIn news vs' (pl ch l) → Q (.ref D) { s with heap := h', toks := tk', drawn := d' }) :
    wpAny (model PG w) (ktrTop dp un gd cn cs L a ccd cl outer) (call (.ref 154) [.ref c, .ref lst]) Q E s := by
  have h1 := hec.common
  have h2 := hec.want_few
  refine wpAny_call ?_
  k_dflt ktr_unf
  k_steps
  unfold Hold
  rename Fr _ _ _ _ => Fx
  rename News _ _ _ _ => Nx
  refine set_M (by ktr_units) (by with_unfolding_all rfl) Fx Nx (by k_mem) (KIn.mono (by intro p hp; k_mem) hK) hnd h6 fun S h1 tk1 F1 N1 hS => ?_
  clear Fx Nx
  k_steps
  unfold Hold
  refine sorted_set_M (by ktr_units) (by with_unfolding_all rfl) F1 N1 hS (KIn.mono (by intro p hp; k_mem) hK) hnd h6 hne fun D vs' c' h4 d' hK' F2 N2 lt2 => ?_
  clear F1 N1 hS
  replace hK' := kin_drop (by assumption) (kin_drop (by assumption) hK')
  have hlen := hK'.len
  have hl6 : (srt l).length ≤ 6 := List.length_filter_le (fun x => l.contains x) (List.range 6)
  have lD := ltN (lt2 _ (.head _))
  have lD2 := ltN (lt2 _ (.tail _ (.head _)))
  dsimp only at lD lD2
  rename (∀ p ∈ news, p.1 < _) => l1
  have l2 : ∀ p ∈ news, p.1 < _ + 1 + 1 := fun p hp => Nat.lt_succ_of_lt (Nat.lt_succ_of_lt (l1 p hp))
  k_steps
  unfold Hold
  rename Fr _ _ _ _ => Fx
  rename News _ _ _ _ => Nx
  refine lk_eval Fx (by decide) (by with_unfolding_all rfl) (by intro n; rfl) (by intro h; rfl) (by rfl) (by decide) (by rfl) ?_ (by intro _; rfl)
  k_steps
  have hlenJ : ∀ (q : Nat → Bool) (i : Nat) (ys : List Value), KIn news ys (((srt l).take i).filter q) → ys.length ≤ i := fun q i ys hq => by
    rw [hq.len]; exact Nat.le_trans (List.length_filter_le _ _) (by simp; exact Nat.min_le_left _ _)
  have hsub : ∀ i ∈ srt l, i ∈ l := fun i hi => by simpa [srt] using (List.mem_filter.mp hi).2
  rename News _ _ _ _ => Nx
  refine lk_list_fix (J := fun i ys => KIn news ys (((srt l).take i).filter fun i => !(srt l).any (p2 ch i))) (vs := vs') (k := c') (by with_unfolding_all rfl) Fx Nx (by omega) (by k_mem) .nil (fun i ys q => hlenJ _ i ys q) ?_ ?_
  · intro i v ys own C m₂ oK h tk E' hi hv hJ dK hmK FL FC N'
    obtain ⟨a1, t1, j1, hj1, rfl, ha1⟩ := kin_at hK' hv
    clear Fx Nx
    unfold TestF
    dsimp only
    have hm1 := List.mem_of_getElem? hj1
    have hu1 := hup j1 (hsub _ hm1)
    have hc1 := hcl j1 (hsub _ hm1)
    have h61 := h6 j1 (hsub _ hm1)
    have ho1 := bnm_ok j1 h61
    k_steps
    unfold Hold
    refine lc_eval FL (by decide) (by with_unfolding_all rfl) (by decide) (by rfl) (by decide) (by rfl) ?_ (by intro _; rfl)
    k_steps
    refine lc_list_fix (J := fun i ys => KIn news ys (((srt l).take i).filter (p2 ch j1))) (vs := vs') (k := c') (by with_unfolding_all rfl) FL N' (by omega) (by k_mem) .nil (fun i ys q => hlenJ _ i ys q) ?_ ?_
    · intro i2 v2 ys2 own2 C2 m3 h5 tk5 E2 hi2 hv2 hJ2 hx2 FL2 FC2 kC N5
      obtain ⟨a2, t2, j2, hj2, rfl, ha2⟩ := kin_at hK' hv2
      have hm2 := List.mem_of_getElem? hj2
      have hu2 := hup j2 (hsub _ hm2)
      have hc2 := hcl j2 (hsub _ hm2)
      have h62 := h6 j2 (hsub _ hm2)
      have ho2 := bnm_ok j2 h62
      have ho3 := nar_ok (c := ch j1) (d := ch j2) ho1 ho2
      clear FL FC N'
      unfold TestF
      dsimp only
      have hJf : p2 ch j1 j2 = false → KIn news ys2 (((srt l).take (i2 + 1)).filter (p2 ch j1)) := fun hp => by rw [flt_false hj2 hp]; exact hJ2
      k_steps
      · rename bnm j2 = bnm j1 => e1
        exact GoF.no rfl (hJf (by have := bnm_inj j2 h62 j1 h61 e1; unfold p2; simp [this])) (by k_asm) (by k_asm)
      · rename ¬ bnm j2 = bnm j1 => e1
        rename nar _ _ _ _ = Str.ofString "" => e2
        exact GoF.no rfl (hJf (nar_ne h61 h62 e1 e2)) (by k_asm) (by k_asm)
      · rename ¬ bnm j2 = bnm j1 => e1
        rename nar _ _ _ _ = bnm j1 => e2
        refine GoF.yes rfl ?_
        rename News _ _ _ _ => N7
        rename Fr _ _ _ _ => F7
        have FC3 := kC _ _ N7 (by intro p hp; k_mem) F7.keep
        k_steps
        have hJ3 : KIn news (ys2 ++ [.ref a2]) (((srt l).take (i2 + 1)).filter (p2 ch j1)) := by rw [flt_true hj2 ((nar_eq h61 h62 e1).mp e2)]; exact kin_snoc hJ2 ha2
        exact KEnd.fix hJ3 (by k_asm) (by refine' cb_drop ?n ?s; (case n => k_asm); (case s => intro p hp; k_mem))
      · rename ¬ bnm j2 = bnm j1 => e1
        rename ¬ nar _ _ _ _ = bnm j1 => e2
        exact GoF.no rfl (hJf (Bool.eq_false_iff.mpr fun q => e2 ((nar_eq h61 h62 e1).mpr q))) (by k_asm) (by refine' cb_drop ?n ?s; (case n => k_asm); (case s => intro p hp; k_mem))
    · intro ys2 D2 k2 h5 tk5 hJ2 FL2 N5 hD2
      clear FL FC N'
      rw [hlen, List.take_length] at hJ2
      k_steps
      refine eq_l0 (by k_asm) (by k_mem) (by k_mem) (DatAll.mono (by intro p hp; k_mem) (kin_dat hJ2)) (fun d hd => ?_) (by ktr_units) ?_
      · obtain ⟨i, hi, rfl⟩ := List.mem_map.mp hd
        simp [kqdOk, bnm_ok i (h6 i (hsub _ (List.mem_filter.mp hi).1))]
      have hJf : (srt l).any (p2 ch j1) = true → KIn news ys (((srt l).take (i + 1)).filter fun i => !(srt l).any (p2 ch i)) := fun hp => by rw [flt_false hj1 (by rw [hp]; rfl)]; exact hJ
      have hJt : (srt l).any (p2 ch j1) = false → KIn news (ys ++ [.ref a1]) (((srt l).take (i + 1)).filter fun i => !(srt l).any (p2 ch i)) := fun hp => by rw [flt_true hj1 (by rw [hp]; rfl)]; exact kin_snoc hJ ha1
      have hem : ys2.isEmpty = !(srt l).any (p2 ch j1) := by
        have hl2 := hJ2.len
        cases hp : (srt l).any (p2 ch j1) with
        | false =>
          have : (srt l).filter (p2 ch j1) = [] := List.filter_eq_nil_iff.mpr fun a ha q => by
            have := List.any_eq_false.mp hp a ha
            exact this q
          rw [this] at hl2
          cases ys2 with
          | nil => rfl
          | cons _ _ => simp at hl2
        | true =>
          obtain ⟨a, ha, q⟩ := List.any_eq_true.mp hp
          have : a ∈ (srt l).filter (p2 ch j1) := List.mem_filter.mpr ⟨ha, q⟩
          cases ys2 with
          | nil => simp only [List.length_nil] at hl2; rw [List.eq_nil_of_length_eq_zero hl2.symm] at this; cases this
          | cons _ _ => rfl
      k_steps
      rw [hem]
      cases hp : (srt l).any (p2 ch j1) with
      | true =>
        have hJ3 := hJf hp
        exact GoF.no rfl hJ3 (by k_asm) (by refine' cb_drop ?n ?s; (case n => k_asm); (case s => intro p hp; k_mem))
      | false =>
        have hJ3 := hJt hp
        refine GoF.yes rfl ?_
        k_steps
        exact KEnd.fix hJ3 (by k_asm) (by refine' cb_drop ?n ?s; (case n => k_asm); (case s => intro p hp; k_mem))
  · intro ys D' k' h tk hJ FL N' hD'
    clear Fx Nx
    have hz := Nat.le_trans (hlenJ _ _ _ hJ) (by omega : vs'.length ≤ 1000)
    k_steps
    rw [hlen, List.take_length] at hJ
    rename (∀ q : Addr × Obj, q ∈ _ → q.1 < _) => lt9
    exact ret _ _ _ _ _ (by k_asm) (by refine' cb_drop ?n ?s; (case n => k_asm); (case s => intro p hp; rcases List.mem_cons.mp hp with rfl | hp; exact .head _; k_mem)) (fun q hq => lt9 q (by k_mem)) hJ
end

theorem upd_of {d : Addr} {o o' : Obj} {l : List (Addr × Obj)} {g : Obj → List (Addr × Obj)} (U : UpdF d o l g) : Upd d o o' l (g o') := by
  induction U with
  | head h => exact .head h
  | tail h _ ih => exact .tail h ih
section
variable {prog : Program} {w : World} {A : Around} {E : Value → Shared → Prop} {s : Shared} {h₀ : Heap} {L D b : Addr} {m : Str → Option Value} {led : List (Addr × Obj)} {g : Obj → List (Addr × Obj)}
theorem pop_M {vs : List Value} {y : Value} {n : Nat} {Q : Value → Shared → Prop} (F : Fr h₀ L s.heap m) (N : News h₀ L s.heap led) (U : UpdF D (PySem.W.listOf (List.toArray (vs ++ [y])) n) led g) (hz : vs.length ≤ 1000)
    (h : ∀ h', Fr h₀ L h' m → News h₀ L h' (g (PySem.W.listOf (List.toArray vs) (n + 1))) → Q y { s with heap := h' }) : wpAny (model prog w) A (call (.builtin "list.pop") [.ref D]) Q E s :=
  kl_pop F N (p := vs) (y := y) (kpa_last y vs) (upd_of U) (by simp [sizeLine_eq]; omega) h
theorem extend_M {vs ws : List Value} {n : Nat} {Q : Value → Shared → Prop} (F : Fr h₀ L s.heap m) (N : News h₀ L s.heap led) (U : UpdF D (PySem.W.listOf (List.toArray vs) n) led g) (hb : (b, tupO ws) ∈ led) (hz : vs.length + ws.length ≤ 1000)
    (h : ∀ h' n', Fr h₀ L h' m → News h₀ L h' (g (PySem.W.listOf (List.toArray (vs ++ ws)) n')) → Q .none { s with heap := h' }) : wpAny (model prog w) A (call (.builtin "list.extend") [.ref D, .ref b]) Q E s := by
  have U' : Upd D (PySem.W.listOf (List.toArray vs) n) (PySem.W.listOf (List.toArray (vs ++ ws)) (n + 1)) led (g (PySem.W.listOf (List.toArray (vs ++ ws)) (n + 1))) := upd_of U
  have hd : ¬(!(List.toArray vs).isEmpty && Builtin.List.listTooLong ((List.toArray vs).size + (List.toArray ws).size)) = true := by
    have : Builtin.List.listTooLong ((List.toArray vs).size + (List.toArray ws).size) = false := by
      unfold Builtin.List.listTooLong
      rw [sizeLine_eq, List.size_toArray, List.size_toArray]
      exact decide_eq_false (by omega)
    rw [this]; simp
  cases ws with
  | cons a r =>
    exact kup_extend F N hb (by simp) (by simp) U' hd (by simp [sizeLine_eq] at hz ⊢; omega) (by simp [sizeLine_eq] at hz ⊢; omega) fun h' F' N' => h h' _ F' N'
  | nil =>
    obtain ⟨pre, post, rfl, hg, a, c⟩ := U.split
    have z := N (D, PySem.W.listOf (List.toArray vs) n) (List.mem_append.mpr (.inr (.head _)))
    refine call_meets PySem.F.slot_list_extend ⟨_, z.1, rfl⟩ PySem.F.entry_list_extend (PySem.F.args_list_extend_2 _ _) (PySem.AutoSeq1.list_extend_list_tuple_0 D (List.toArray vs) n b (List.toArray []) 0 hd (by simp [sizeLine_eq] at hz ⊢; omega) (by simp [sizeLine_eq] at hz ⊢; omega)) ⟨z.1, (N _ hb).1, h _ n (F.change (Heap.SameBut.update ..) z.2.1 z.2.2) ?_⟩
    rw [hg]
    exact kl_turn0 _ N a c (by simp) (by simp)
end
theorem Strs.back {vs : List Value} {xs : List Str} {x : Str} (h : Strs vs (xs ++ [x])) : ∃ vs' t, vs = vs' ++ [.str x t] ∧ Strs vs' xs := by
  induction xs generalizing vs with
  | nil =>
    cases h with
    | cons _ t r => cases r; exact ⟨[], t, rfl, .nil⟩
  | cons y ys ih =>
    cases h with
    | cons _ t r =>
      obtain ⟨vs', t', rfl, h'⟩ := ih r
      exact ⟨.str y t :: vs', t', rfl, .cons y t h'⟩
theorem Strs.append {vs ws : List Value} {xs ys : List Str} (h : Strs vs xs) (k : Strs ws ys) : Strs (vs ++ ws) (xs ++ ys) := by
  induction h with
  | nil => exact k
  | cons x t _ ih => exact .cons x t ih

/-- what the entries say: names U, what each is a part of (sup), what bases lie under each (R), the line of parents of each base (ch) -/
structure Wld (news : List (Addr × Obj)) (kvs : List (Str × Value)) (U : List Str) (sup : Str → List Str) (R : Str → Nat → Bool) (ch : Nat → List Str) (rk : Str → Nat) : Prop where
  it : ∀ n ∈ U, ∃ v par, valueAt kvs n = some v ∧ ItemIn news v n par (sup n)
  s3 : ∀ n ∈ U, (sup n).length ≤ 3
  sU : ∀ n ∈ U, ∀ m ∈ sup n, m ∈ U
  base : ∀ n ∈ U, sup n = [] → ∃ i, i < 6 ∧ n = Tab.bnm i ∧ Up news kvs n (ch i)
  chl : ∀ i, (ch i).length ≤ 90
  Rb : ∀ i < 6, ∀ j, R (Tab.bnm i) j = (j == i)
  Rs : ∀ n ∈ U, sup n ≠ [] → ∀ j, R n j = (sup n).any (fun m => R m j)
  rk : ∀ n ∈ U, ∀ m ∈ sup n, rk m < rk n
  len : U.length ≤ 30
theorem Wld.mono {news news' : List (Addr × Obj)} (hs : ∀ p ∈ news, p ∈ news') {kvs : List (Str × Value)} {U : List Str} {sup : Str → List Str} {R : Str → Nat → Bool} {ch : Nat → List Str} {rk : Str → Nat} (W : Wld news kvs U sup R ch rk) : Wld news' kvs U sup R ch rk :=
  { W with
    it := fun n hn => let ⟨v, par, h1, h2⟩ := W.it n hn; ⟨v, par, h1, h2.mono hs⟩
    base := fun n hn h0 => let ⟨i, h1, h2, h3⟩ := W.base n hn h0; ⟨i, h1, h2, h3.mono hs⟩ }

structure Dfs (U : List Str) (sup : Str → List Str) (R : Str → Nat → Bool) (name : Str) (Fd Wt : List Str) : Prop where
  nd : Fd.Nodup
  fU : ∀ n ∈ Fd, n ∈ U
  wU : ∀ n ∈ Wt, n ∈ U
  has : name ∈ Fd ∨ name ∈ Wt
  cl : ∀ n ∈ Fd, ∀ m ∈ sup n, m ∈ Fd ∨ m ∈ Wt
  snd : ∀ n, n ∈ Fd ∨ n ∈ Wt → ∀ j, R n j = true → R name j = true
  wl : Wt.length ≤ 1 + 3 * Fd.length
theorem nodup_le : ∀ {l l' : List Str}, l.Nodup → (∀ x ∈ l, x ∈ l') → l.length ≤ l'.length
  | [], _, _, _ => Nat.zero_le _
  | x :: l, l', hn, hs => by
    have hx := hs x (.head _)
    have hn' := List.nodup_cons.mp hn
    have : l.length ≤ (l'.erase x).length := nodup_le hn'.2 fun y hy => by
      have hne : y ≠ x := fun e => hn'.1 (e ▸ hy)
      exact (List.mem_erase_of_ne hne).mpr (hs y (.tail _ hy))
    have hl := List.length_erase_of_mem hx
    have hp := List.length_pos_of_mem hx
    rw [List.length_cons]
    omega
section
variable {news : List (Addr × Obj)} {kvs : List (Str × Value)} {U : List Str} {sup : Str → List Str} {R : Str → Nat → Bool} {ch : Nat → List Str} {rk : Str → Nat} (W : Wld news kvs U sup R ch rk) {name : Str}
include W
theorem Dfs.start (hn : name ∈ U) : Dfs U sup R name [] [name] where
  nd := .nil
  fU := fun _ h => nomatch h
  wU := fun n h => by rw [List.mem_singleton.mp h]; exact hn
  has := .inr (.head _)
  cl := fun _ h => nomatch h
  snd := fun n h j hr => by rcases h with h | h; cases h; rw [List.mem_singleton.mp h] at hr; exact hr
  wl := by simp
theorem Dfs.flen {Fd Wt : List Str} (D : Dfs U sup R name Fd Wt) : Fd.length ≤ 30 := Nat.le_trans (nodup_le D.nd D.fU) W.len
theorem Dfs.old {Fd Wt : List Str} {x : Str} (D : Dfs U sup R name Fd (Wt ++ [x])) (hx : x ∈ Fd) : Dfs U sup R name Fd Wt where
  nd := D.nd
  fU := D.fU
  wU := fun n h => D.wU n (List.mem_append_left _ h)
  has := by
    rcases D.has with h | h
    · exact .inl h
    · rcases List.mem_append.mp h with h | h
      · exact .inr h
      · rw [List.mem_singleton.mp h]; exact .inl hx
  cl := fun n hn m hm => by
    rcases D.cl n hn m hm with h | h
    · exact .inl h
    · rcases List.mem_append.mp h with h | h
      · exact .inr h
      · rw [List.mem_singleton.mp h]; exact .inl hx
  snd := fun n h j hr => D.snd n (h.imp_right (List.mem_append_left _)) j hr
  wl := by have := D.wl; simp at this; omega
theorem Dfs.new {Fd Wt : List Str} {x : Str} (D : Dfs U sup R name Fd (Wt ++ [x])) (hx : x ∉ Fd) : Dfs U sup R name (Fd ++ [x]) (Wt ++ sup x) := by
  have xU := D.wU x (by simp)
  refine ⟨?_, ?_, ?_, ?_, ?_, ?_, ?_⟩
  · rw [List.nodup_append]
    exact ⟨D.nd, by simp, fun a ha b hb e => hx (by rw [List.mem_singleton.mp hb] at e; exact e ▸ ha)⟩
  · intro n h
    rcases List.mem_append.mp h with h | h
    · exact D.fU n h
    · rw [List.mem_singleton.mp h]; exact xU
  · intro n h
    rcases List.mem_append.mp h with h | h
    · exact D.wU n (List.mem_append_left _ h)
    · exact W.sU x xU n h
  · rcases D.has with h | h
    · exact .inl (List.mem_append_left _ h)
    · rcases List.mem_append.mp h with h | h
      · exact .inr (List.mem_append_left _ h)
      · rw [List.mem_singleton.mp h]; exact .inl (by first | exact .head _ | exact mem1 | exact mem2 | exact mem3 | exact mem4 | exact mem5 | simp)
  · intro n hn m hm
    rcases List.mem_append.mp hn with hn | hn
    · rcases D.cl n hn m hm with h | h
      · exact .inl (List.mem_append_left _ h)
      · rcases List.mem_append.mp h with h | h
        · exact .inr (List.mem_append_left _ h)
        · rw [List.mem_singleton.mp h]; exact .inl (by first | exact .head _ | exact mem1 | exact mem2 | exact mem3 | exact mem4 | exact mem5 | simp)
    · rw [List.mem_singleton.mp hn] at hm; exact .inr (List.mem_append_right _ hm)
  · intro n h j hr
    have hxs : n ∈ sup x → R name j = true := fun h => by
      have hs : sup x ≠ [] := fun e => by rw [e] at h; cases h
      refine D.snd x (.inr (by simp)) j ?_
      rw [W.Rs x xU hs j]
      exact List.any_eq_true.mpr ⟨n, h, hr⟩
    rcases h with h | h
    · rcases List.mem_append.mp h with h | h
      · exact D.snd n (.inl h) j hr
      · rw [List.mem_singleton.mp h] at hr; exact D.snd x (.inr (by simp)) j hr
    · rcases List.mem_append.mp h with h | h
      · exact D.snd n (.inr (List.mem_append_left _ h)) j hr
      · exact hxs h
  · have h1 := D.wl
    have h2 := W.s3 x xU
    simp at h1 ⊢
    omega
theorem Dfs.flen' {Fd Wt : List Str} {x : Str} (D : Dfs U sup R name Fd (Wt ++ [x])) (hx : x ∉ Fd) : Fd.length + 1 ≤ 30 := by
  have := Dfs.flen W (Dfs.new W D hx)
  simpa using this
theorem Dfs.reach {Fd : List Str} (D : Dfs U sup R name Fd []) : ∀ (k : Nat) (n : Str), rk n < k → n ∈ Fd → ∀ j, R n j = true → j < 6 ∧ Tab.bnm j ∈ Fd ∧ sup (Tab.bnm j) = []
  | 0, _, h, _, _, _ => absurd h (Nat.not_lt_zero _)
  | k + 1, n, h, hn, j, hr => by
    have nU := D.fU n hn
    by_cases hs : sup n = []
    · obtain ⟨i, hi, he, _⟩ := W.base n nU hs
      rw [he, W.Rb i hi j] at hr
      have hj : j = i := by simpa using hr
      subst hj
      exact ⟨hi, he ▸ hn, he ▸ hs⟩
    · rw [W.Rs n nU hs j] at hr
      obtain ⟨m, hm, hr⟩ := List.any_eq_true.mp hr
      have hlt := W.rk n nU m hm
      rcases D.cl n hn m hm with h' | h'
      · exact Dfs.reach D k m (by omega) h' j hr
      · cases h'
/-- what the way through the entries finds: the bases that lie under a name -/
theorem Dfs.ends {Fd : List Str} (D : Dfs U sup R name Fd []) (j : Nat) (hj : j < 6) : R name j = true ↔ Tab.bnm j ∈ Fd ∧ sup (Tab.bnm j) = [] := by
  have hn : name ∈ Fd := by rcases D.has with h | h; exact h; cases h
  constructor
  · intro hr
    exact (Dfs.reach W D (rk name + 1) name (Nat.lt_succ_self _) hn j hr).2
  · rintro ⟨h1, h2⟩
    exact D.snd _ (.inl h1) j (by rw [W.Rb j hj j]; simp)
end
noncomputable def dl (R : Str → Nat → Bool) (ch : Nat → List Str) (n : Str) : List Nat := pl ch ((List.range 6).filter fun j => R n j)
theorem srt_eq {l : List Nat} {q : Nat → Bool} (h : ∀ j < 6, (j ∈ l ↔ q j = true)) : Tab.srt l = (List.range 6).filter q := by
  unfold Tab.srt
  refine List.filter_congr fun j hj => ?_
  have := h j (List.mem_range.mp hj)
  cases hq : q j with
  | true => rw [hq] at this; simpa using this.mpr rfl
  | false => rw [hq] at this; simpa using this
theorem srt_srt (q : Nat → Bool) : Tab.srt ((List.range 6).filter q) = (List.range 6).filter q := srt_eq fun j hj => by simp [hj]
theorem pl_eq {l : List Nat} {R : Str → Nat → Bool} {ch : Nat → List Str} {n : Str} (h : ∀ j < 6, (j ∈ l ↔ R n j = true)) : pl ch l = dl R ch n := by
  unfold dl pl
  rw [srt_eq h, srt_srt]
theorem rng1 : ∀ i < 6, (List.range 6).filter (fun j => j == i) = [i] := by decide
theorem dl_base {R : Str → Nat → Bool} {ch : Nat → List Str} {i : Nat} (hi : i < 6) (h : ∀ j, R (Tab.bnm i) j = (j == i)) : dl R ch (Tab.bnm i) = [i] := by
  have e : (List.range 6).filter (fun j => R (Tab.bnm i) j) = [i] := by
    rw [List.filter_congr (q := fun j => j == i) fun j _ => h j]
    exact rng1 i hi
  unfold dl pl
  rw [srt_srt, e]
  simp [p2]

theorem Up.ne {news : List (Addr × Obj)} {kvs : List (Str × Value)} {name : Str} {ch : List Str} (h : Up news kvs name ch) : ∀ n ∈ ch, n ≠ Str.ofString "" := by
  induction h with
  | top _ _ => intro n hn; cases hn
  | step _ _ hne _ ih =>
    intro n hn
    rcases List.mem_cons.mp hn with rfl | hn
    · exact hne
    · exact ih n hn
theorem Up.last_ne {news : List (Addr × Obj)} {kvs : List (Str × Value)} {name : Str} {ch : List Str} (h : Up news kvs name ch) (hn : name ≠ Str.ofString "") : (name :: ch).getLast (by simp) ≠ Str.ofString "" := by
  have := List.getLast_mem (l := name :: ch) (by simp)
  rcases List.mem_cons.mp this with e | e
  · rw [e]; exact hn
  · exact h.ne _ e
theorem word25 : True := by
  k_with "call ref" => (k_here; (with_reducible show wpAny _ _ (call (Value.ref 154) [Value.ref _, Value.ref _]) _ _ _); refine hold ?_)
  k_with "setItem ref str" => refine hold ?_
  k_with "call builtin:list.pop" => (k_here; (with_reducible show wpAny _ _ (call (Value.builtin _) [Value.ref _]) _ _ _); k_dflt (refine' pop_M ?k1w53 ?k2w53 ?k3w53 ?zw53 ?_; (case k1w53 => k_asm); (case k2w53 => k_asm); (case k3w53 => k_updF); (case zw53 => first | assumption | omega); k_whole); intro hz9 Fz9 Nz9; (try dsimp only at Nz9); (try k_sweep))
  k_with "call builtin:list.extend" => (k_here; (with_reducible show wpAny _ _ (call (Value.builtin _) [Value.ref _, Value.ref _]) _ _ _); k_dflt (refine' extend_M ?k1w54 ?k2w54 ?k3w54 ?kbw54 ?zw54 ?_; (case k1w54 => k_asm); (case k2w54 => k_asm); (case k3w54 => k_updF); (case kbw54 => k_mem); (case zw54 => first | assumption | omega); k_whole); intro hz9 nz9 Fz9 Nz9; (try dsimp only at Nz9); (try k_sweep))
  k_with "compareOp NotIn str ref" => (k_here; (with_reducible show wpAny _ _ (compareOp CmpOp.NotIn (Value.str _ _) (Value.ref _)) _ _ _); k_dflt (first | (refine' kdg_notin (knd := PySem.strKind _ _) ?Nw55 ?mw55 ?dw55 ?low55 (strKind_is _ _ _ _) true ?hbw55 ?_; (case Nw55 => k_asm); (case mw55 => k_mem); (case dw55 => assumption); (case low55 => assumption); (case hbw55 => (rename (valueAt _ _ = _) => hvk9; simp [hvk9])); k_whole) | (refine' kdg_notin (knd := PySem.strKind _ _) ?Nw55 ?mw55 ?dw55 ?low55 (strKind_is _ _ _ _) false ?hbw55 ?_; (case Nw55 => k_asm); (case mw55 => k_mem); (case dw55 => assumption); (case low55 => assumption); (case hbw55 => (rename (valueAt _ _ = _) => hvk9; simp [hvk9])); k_whole)))
  trivial
section
open Tab
variable {w : World} {p : Program} {loose : List Str} {mean : ExcName → Option Value} {mg mb : Str → Option Value}
    {dp un : Nat} {gd : Option (List Code)} {cn : Str} {cs : Scope} {a : Addr} {ccd : Value} {cl : List (Str × Addr)} {outer : List Env} {A₀ : Around} {base h₀ : Heap} {L : Addr} {m : Str → Option Value} {news : List (Addr × Obj)} {s : Shared} {Q E : Value → Shared → Prop}
    (B : Below A₀ base outer h₀) (F : Fr h₀ L s.heap m) (X : (hd.heap_1 w.params).In h₀) (T : Top p loose mean mg mb h₀) (hk : cs.kind = .function)
    {x dx e c dc kd : Addr} {es ec : List DictEntry} {n nc : Nat} {oe : Obj} {kvs : List (Str × Value)}
    (hx : (x, instObj 394 dx) ∈ news) (hdx : (dx, dictOf es n) ∈ news) (he : (e, oe) ∈ news) (hoe : oe.IsDictOf (PySem.strKind PG w) kvs) (hes : SgM es e)
    (hc : (c, instObj 223 dc) ∈ news) (hdc : (dc, dictOf ec nc) ∈ news) (hec : CoM ec x kd)
    {U : List Str} {sup : Str → List Str} {R : Str → Nat → Bool} {ch : Nat → List Str} {rk : Str → Nat} (W : Wld news kvs U sup R ch rk)
include B F X T hk hx hdx he hoe hes hc hdc hec W
theorem sig_base_ {name : Str} {t : Tok} (N : News h₀ L s.heap news) (hd : dp + 56 < recursionLimit) (hu : un + 560 < cLine) (hn : name ∈ U) (hs : sup name = [])
    (ret : ∀ D a1 t1 h' tk', Fr h₀ L h' m → News h₀ L h' ((D, tupO [.ref a1]) :: (a1, tupO [.str name t1]) :: news) → (∀ q ∈ news, q.1 < D ∧ q.1 < a1) → Q (.ref D) { s with heap := h', toks := tk' }) :
    wpAny (model PG w) (ktrTop dp un gd cn cs L a ccd cl outer) (call (.ref 159) [.ref c, .str name t]) Q E s := by
  have h1 := hec.signatures
  have h2 := hes.top
  obtain ⟨v, par, hv, hi⟩ := W.it name hn
  obtain ⟨i, hi6, hie, hup⟩ := W.base name hn hs
  have hcl := W.chl i
  have hlast := hup.last_ne (by rw [hie]; exact bnm_ne i hi6)
  rw [hs] at hi
  refine wpAny_call ?_
  k_dflt ktr_unf
  k_steps
  · rename (_ ∧ _ ∧ AllLt _ news) => l1
    rename (_ < _ ∧ AllLt _ news) => l2
    exact ret _ _ _ _ _ (by k_asm) (by refine' cb_drop ?n ?s; (case n => k_asm); (case s => intro p hp; rcases List.mem_cons.mp hp with rfl | hp; exact .head _; rcases List.mem_cons.mp hp with rfl | hp; exact .tail _ (.head _); k_mem)) (fun q hq => ⟨ktn_ltOf l1.2.2 q hq, ktn_ltOf l2.2 q hq⟩)
  all_goals (exfalso; (rename (_ != Str.ofString "") = false => hb); simp at hb; exact hlast hb)
end
theorem Strs.at {vs : List Value} {xs : List Str} (h : Strs vs xs) : ∀ {i : Nat} {v : Value}, vs[i]? = some v → ∃ x t, v = .str x t ∧ xs[i]? = some x := by
  induction h with
  | nil => intro i v h; simp at h
  | cons x t _ ih =>
    intro i v h
    cases i with
    | zero => simp only [List.getElem?_cons_zero, Option.some.injEq] at h; exact ⟨x, t, h.symm, rfl⟩
    | succ i => simp only [List.getElem?_cons_succ] at h ⊢; exact ih h
/-- the bases among names -/
inductive BsOf (sup : Str → List Str) : List Str → List Nat → Prop
  | nil : BsOf sup [] []
  | base {xs : List Str} {l : List Nat} {i : Nat} : BsOf sup xs l → i < 6 → sup (Tab.bnm i) = [] → BsOf sup (xs ++ [Tab.bnm i]) (l ++ [i])
  | sub {xs : List Str} {l : List Nat} {x : Str} : BsOf sup xs l → sup x ≠ [] → BsOf sup (xs ++ [x]) l
theorem BsOf.mem {sup : Str → List Str} {xs : List Str} {l : List Nat} (h : BsOf sup xs l) (j : Nat) (hj : j < 6) : j ∈ l ↔ Tab.bnm j ∈ xs ∧ sup (Tab.bnm j) = [] := by
  induction h with
  | nil => simp
  | base _ hi h0 ih =>
    simp only [List.mem_append, List.mem_singleton, ih]
    constructor
    · rintro (⟨h1, h2⟩ | rfl)
      · exact ⟨.inl h1, h2⟩
      · exact ⟨.inr rfl, h0⟩
    · rintro ⟨h1 | h1, h2⟩
      · exact .inl ⟨h1, h2⟩
      · exact .inr (Tab.bnm_inj _ hj _ hi h1)
  | sub _ hs ih =>
    simp only [List.mem_append, List.mem_singleton, ih]
    constructor
    · rintro ⟨h1, h2⟩; exact ⟨.inl h1, h2⟩
    · rintro ⟨h1 | h1, h2⟩
      · exact ⟨h1, h2⟩
      · exact absurd (h1 ▸ h2) hs
theorem BsOf.lt {sup : Str → List Str} {xs : List Str} {l : List Nat} (h : BsOf sup xs l) : ∀ j ∈ l, j < 6 := by
  induction h with
  | nil => intro j hj; cases hj
  | base _ hi _ ih =>
    intro j hj
    rcases List.mem_append.mp hj with hj | hj
    · exact ih j hj
    · rw [List.mem_singleton.mp hj]; exact hi
  | sub _ _ ih => exact ih
theorem BsOf.nodup {sup : Str → List Str} {xs : List Str} {l : List Nat} (h : BsOf sup xs l) (hn : xs.Nodup) : l.Nodup := by
  induction h with
  | nil => exact .nil
  | base hb hi h0 ih =>
    rw [List.nodup_append] at hn ⊢
    refine ⟨ih hn.1, by simp, fun a ha b hb' e => ?_⟩
    rw [List.mem_singleton.mp hb'] at e
    subst e
    exact hn.2.2 _ ((hb.mem _ hi).mp ha).1 _ (.head _) rfl
  | sub _ _ ih => rw [List.nodup_append] at hn; exact ih hn.1
theorem take_snoc {l : List Str} {i : Nat} {x : Str} (h : l[i]? = some x) : l.take (i + 1) = l.take i ++ [x] := by rw [List.take_add_one, h]; rfl
theorem Wld.some {news : List (Addr × Obj)} {kvs : List (Str × Value)} {U : List Str} {sup : Str → List Str} {R : Str → Nat → Bool} {ch : Nat → List Str} {rk : Str → Nat} (W : Wld news kvs U sup R ch rk) : ∀ (k : Nat) (n : Str), rk n < k → n ∈ U → ∃ j < 6, R n j = true
  | 0, _, h, _ => absurd h (Nat.not_lt_zero _)
  | k + 1, n, h, hn => by
    by_cases hs : sup n = []
    · obtain ⟨i, hi, he, _⟩ := W.base n hn hs
      exact ⟨i, hi, by rw [he, W.Rb i hi i]; simp⟩
    · obtain ⟨m, hm⟩ := List.exists_mem_of_ne_nil _ hs
      have hlt := W.rk n hn m hm
      obtain ⟨j, hj, hr⟩ := W.some k m (by omega) (W.sU n hn m hm)
      exact ⟨j, hj, by rw [W.Rs n hn hs j]; exact List.any_eq_true.mpr ⟨m, hm, hr⟩⟩
theorem LcGo.yes {prog : Program} {w : World} {A : Around} {h₀ : Heap} {L : Addr} {m : Str → Option Value} {cenv : Env} {elt : PySem.Expr} {J : List Value → List (Addr × Obj) → Prop} {ys : List Value} {own : List (Addr × Obj)} {s₂ s₃ : Shared} {E' : Value → Shared → Prop} {ok : Bool} (hok : ok = true)
    (h : wpAny (model prog w) A (eval elt cenv) (fun y s₄ => LcEnd h₀ L m (J (ys ++ [y])) own s₂ s₄) E' s₃) : LcGo prog w A h₀ L m cenv elt J ys own s₂ E' ok s₃ := by unfold LcGo; rw [if_pos hok]; exact h
theorem LcGo.no {prog : Program} {w : World} {A : Around} {h₀ : Heap} {L : Addr} {m : Str → Option Value} {cenv : Env} {elt : PySem.Expr} {J : List Value → List (Addr × Obj) → Prop} {ys : List Value} {own : List (Addr × Obj)} {s₂ s₃ : Shared} {E' : Value → Shared → Prop} {ok : Bool} (hok : ok = false)
    (h : LcEnd h₀ L m (J ys) own s₂ s₃) : LcGo prog w A h₀ L m cenv elt J ys own s₂ E' ok s₃ := by unfold LcGo; rw [if_neg (by rw [hok]; decide)]; exact h
/-- what the known columns are -/
noncomputable def Known (rest : List (Addr × Obj)) (U : List Str) (R : Str → Nat → Bool) (ch : Nat → List Str) (kk : List (Str × Value)) : Prop :=
  ∀ n v, valueAt kk n = some v → n ∈ U ∧ ∃ D vs, v = .ref D ∧ (D, tupO vs) ∈ rest ∧ Tab.KIn rest vs (dl R ch n)
theorem kin_sub {X Y : List (Addr × Obj)} (hs : ∀ a vs, (a, tupO vs) ∈ X → (a, tupO vs) ∈ Y) {vs : List Value} {l : List Nat} (k : Tab.KIn X vs l) : Tab.KIn Y vs l := by
  induction k with
  | nil => exact .nil
  | cons h _ ih => exact .cons (hs _ _ h) ih
theorem valueAt_snoc {kk : List (Str × Value)} {k n : Str} {v u : Value} (h : valueAt (kk ++ [(k, v)]) n = some u) : valueAt kk n = some u ∨ (n = k ∧ u = v) := by
  unfold valueAt at h ⊢
  rw [List.find?_append] at h
  cases hf : kk.find? (fun kv => decide (kv.1 = n)) with
  | some p => rw [hf] at h; exact .inl h
  | none =>
    rw [hf] at h
    simp only [Option.none_or, List.find?_cons, List.find?_nil] at h
    by_cases hk : k = n
    · simp [hk] at h; exact .inr ⟨hk.symm, h.symm⟩
    · simp [hk] at h
theorem valueAt_snoc_self {kk : List (Str × Value)} {k : Str} {v : Value} (h : valueAt kk k = none) : valueAt (kk ++ [(k, v)]) k = some v := by
  unfold valueAt at h ⊢
  rw [List.find?_append]
  cases hf : kk.find? (fun kv => decide (kv.1 = k)) with
  | some p => rw [hf] at h; cases h
  | none => simp
theorem known_len {rest : List (Addr × Obj)} {U : List Str} {R : Str → Nat → Bool} {ch : Nat → List Str} {kk : List (Str × Value)} {ok : Obj} {w : World} (hok : ok.IsDictOf (PySem.strKind PG w) kk) (hK : Known rest U R ch kk) (hU : U.length ≤ 30) : kk.length ≤ 30 := by
  obtain ⟨es, ep, _, _, _, _, hn⟩ := hok
  have := nodup_le hn (l' := U) fun n hm => by
    obtain ⟨⟨k, v⟩, hkv, rfl⟩ := List.mem_map.mp hm
    cases hv : valueAt kk k with
    | some u => exact (hK _ _ hv).1
    | none =>
      exfalso
      have e := valueAt_isSome_eq_any kk k
      rw [hv] at e
      have := List.any_eq_false.mp e.symm _ hkv
      simp at this
  rw [List.length_map] at this
  omega
theorem led4 {h₀ h : Heap} {L : Addr} {a b c d : Addr × Obj} {led : List (Addr × Obj)} (_ : News h₀ L h (a :: b :: c :: d :: led)) : ∃ led' d', d' = d ∧ led' = d' :: led ∧ d ∈ led' := ⟨_, _, rfl, rfl, .head _⟩
section
open Tab
variable {w : World} {p : Program} {loose : List Str} {mean : ExcName → Option Value} {mg mb : Str → Option Value}
    {dp un : Nat} {gd : Option (List Code)} {cn : Str} {cs : Scope} {a : Addr} {ccd : Value} {cl : List (Str × Addr)} {outer : List Env} {A₀ : Around} {base h₀ : Heap} {L : Addr} {m : Str → Option Value} {news : List (Addr × Obj)} {s : Shared} {Q E : Value → Shared → Prop}
    (B : Below A₀ base outer h₀) (F : Fr h₀ L s.heap m) (X : (hd.heap_1 w.params).In h₀) (T : Top p loose mean mg mb h₀) (hk : cs.kind = .function)
    {x dx e c dc kd : Addr} {es ec : List DictEntry} {n nc : Nat} {oe ok : Obj} {kvs kk : List (Str × Value)}
    (hx : (x, instObj 394 dx) ∈ news) (hdx : (dx, dictOf es n) ∈ news) (he : (e, oe) ∈ news) (hoe : oe.IsDictOf (PySem.strKind PG w) kvs) (hes : SgM es e)
    (hc : (c, instObj 223 dc) ∈ news) (hdc : (dc, dictOf ec nc) ∈ news) (hec : CoM ec x kd)
    {U : List Str} {sup : Str → List Str} {R : Str → Nat → Bool} {ch : Nat → List Str} {rk : Str → Nat} (W : Wld news kvs U sup R ch rk)
include B F X T hk hx hdx he hoe hes hc hdc hec W
theorem sig_sub_ {name : Str} {t : Tok} (N : News h₀ L s.heap ((kd, ok) :: news)) (hkd : ∀ p ∈ news, p.1 ≠ kd) (hok : ok.IsDictOf (PySem.strKind PG w) kk) (hK : Known news U R ch kk) (lo : (kd == sysModules) = false) (hd : dp + 64 < recursionLimit) (hu : un + 640 < cLine) (hn : name ∈ U) (hs : sup name ≠ [])
    (ret : ∀ D vs tl ok' kk' h' tk' d', Fr h₀ L h' m → News h₀ L h' ((kd, ok') :: (tl ++ news)) → (∀ p ∈ tl ++ news, p.1 ≠ kd) → (∀ q ∈ (kd, ok) :: news, ∀ p ∈ tl, q.1 < p.1) → ok'.IsDictOf (PySem.strKind PG w) kk' → Known (tl ++ news) U R ch kk' → (D, tupO vs) ∈ tl ++ news → KIn (tl ++ news) vs (dl R ch name) → Q (.ref D) { s with heap := h', toks := tk', drawn := d' }) :
    wpAny (model PG w) (ktrTop dp un gd cn cs L a ccd cl outer) (call (.ref 159) [.ref c, .str name t]) Q E s := by
  have h1 := hec.signatures
  have h2 := hes.top
  have h3 := hes.supers
  have h4 := hec.known
  have h5 := hec.plain
  obtain ⟨v, par, hv, hi⟩ := W.it name hn
  have hs3 := W.s3 name hn
  have hz : (sup name).length ≤ 100 := by omega
  have hne := List.length_pos_iff.mpr hs
  refine wpAny_call ?_
  k_dflt ktr_unf
  cases hvk : valueAt kk name with
  | some v9 =>
    obtain ⟨_, D, vs, rfl, hD, hvs⟩ := hK name _ hvk
    k_steps
    rename News _ _ _ _ => N7
    refine wpAny_getItem_of (knd := PySem.strKind _ _) (strKind_is _ _ _ _) (kda_dict (knd := PySem.strKind _ _) (s := { s with heap := _, toks := _ }) N7 (.tail _ (.head _)) hok).mapOf hvk ?_
    k_steps
    exact ret D vs [] ok kk _ _ _ (by k_asm) (by refine' cb_drop ?n ?s; (case n => k_asm); (case s => intro p hp; k_mem)) hkd (fun _ _ _ hp => nomatch hp) hok hK hD hvs
  | none =>
    k_steps
    unfold Hold
    rename News _ _ _ _ => Nx
    rename (∀ p : Addr × Obj, p ∈ (kd, ok) :: news → p.1 < _) => l1
    rename (_ < _ ∧ _ < _ ∧ _ < _ ∧ AllLt _ news) => lf
    rename (_ < _ ∧ _ < _ ∧ AllLt _ news) => lf1
    obtain ⟨led, cel, hcel, hled, hcell⟩ := led4 Nx
    rw [← hcel, ← hled] at Nx
    rename _ = Data.cell _ => dcell
    have hled' := hled
    rw [hcel] at hled'
    have N2 := cb_drop Nx (fun p hp => List.Mem.tail _ hp)
    clear Nx
    have hsub : ∀ p ∈ (kd, ok) :: news, p ∈ led := fun p hp => by rw [hled]; exact .tail _ hp
    have hsub' : ∀ p ∈ news, p ∈ led := fun p hp => hsub p (.tail _ hp)
    have hf1 : ∀ q ∈ led, q.1 < _ := fun q hq => by
      rw [hled'] at hq
      rcases List.mem_cons.mp hq with rfl | hq
      · exact lf1.1
      · rcases List.mem_cons.mp hq with rfl | hq
        · exact lf1.2.1
        · exact ktn_ltOf lf1.2.2 q hq
    have hf2 : ∀ q ∈ led, q.1 < _ := fun q hq => by
      rw [hled'] at hq
      rcases List.mem_cons.mp hq with rfl | hq
      · exact lf.2.1
      · rcases List.mem_cons.mp hq with rfl | hq
        · exact lf.2.2.1
        · exact ktn_ltOf lf.2.2.2 q hq
    have hx1 := hsub' _ hx
    have hdx1 := hsub' _ hdx
    have he1 := hsub' _ he
    have hc1 := hsub' _ hc
    have hdc1 := hsub' _ hdc
    have hk1 := hsub _ (.head _)
    have W1 := W.mono hsub'
    refine While_inv2 (fun k m₁ nx => ∃ (fl wl : Nat) (vf vw : List Value) (nf nw : Nat) (Fd Wt : List Str), k = 4 * (30 - Fd.length) + Wt.length ∧ MIs m₁ [(Str.ofString "name", .str name t), (Str.ofString "found", .ref fl), (Str.ofString "waiting", .ref wl)] ∧ nx = (wl, PySem.W.listOf (List.toArray vw) nw) :: (fl, PySem.W.listOf (List.toArray vf) nf) :: led ∧ (∀ q ∈ led, q.1 < fl) ∧ (∀ q ∈ led, q.1 < wl) ∧ fl < wl ∧ Strs vf Fd ∧ Strs vw Wt ∧ Dfs U sup R name Fd Wt) (by k_asm) N2 ⟨_, _, [], [.str name t], 0, 0, [], [name], rfl, by tb_start, rfl, hf1, hf2, lf.1, .nil, .cons _ _ .nil, Dfs.start W hn⟩ ?_
    clear hf1 hf2 lf lf1 N2
    rintro k m₁ nx h₁ tk₁ F₁ N₁ ⟨fl, wl, vf, vw, nf, nw, Fd, Wt, rfl, hm, rfl, hfl, hwl, hlt, hvf, hvw, hD⟩
    have hm1 := hm.one
    have hm2 := hm.rest.one
    have hm3 := hm.rest.rest.one
    clear hm
    have hlf := hvf.len
    have hlw := hvw.len
    have hl30 := Dfs.flen W hD
    have hlwt := hD.wl
    rcases List.eq_nil_or_concat Wt with rfl | ⟨Wt', x', rfl⟩
    · cases hvw
      k_steps
      unfold Hold
      rename Fr _ _ _ _ => Fx
      rename News _ _ _ _ => Nx
      refine lc_eval Fx (by decide) (by with_unfolding_all rfl) (by decide) (by rfl) (by decide) (by rfl) ?_ (by intro _; rfl)
      k_steps
      refine lc_list (vs := vf) (k := nf) (J := fun i ys nx => ∃ tl l, nx = tl ++ ((wl, PySem.W.listOf (List.toArray []) nw) :: (fl, PySem.W.listOf (List.toArray vf) nf) :: led) ∧ KIn nx ys l ∧ BsOf sup (Fd.take i) l ∧ (∀ q ∈ (wl, PySem.W.listOf (List.toArray []) nw) :: (fl, PySem.W.listOf (List.toArray vf) nf) :: led, ∀ p ∈ tl, q.1 < p.1) ∧ ys.length ≤ i) (by with_unfolding_all rfl) Fx Nx (by omega) ⟨[], [], rfl, .nil, .nil, (fun _ _ _ hp => nomatch hp), Nat.le_refl _⟩ ?_ (fun i ys nx hJ => by obtain ⟨_, _, _, _, _, _, h⟩ := hJ; exact h) ?_ ?_
      · rintro i ys nx ⟨tl, l, rfl, _⟩
        exact List.mem_append_right _ (.tail _ (.head _))
      · rintro i v1 ys nx own C m₂ h tk E' hi1 hv1 ⟨tl, l, rfl, hKl, hB, hlt2, hyl⟩ off hx2 FL FC kC N'
        obtain ⟨x1, t1, rfl, hx1'⟩ := hvf.at hv1
        have hmF := List.mem_of_getElem? hx1'
        have hU1 := hD.fU x1 hmF
        obtain ⟨v', par', hv', hi'⟩ := W1.it x1 hU1
        have hs3' := W.s3 x1 hU1
        have hz' : (sup x1).length ≤ 100 := by omega
        clear Fx Nx
        unfold LcTest
        dsimp only
        by_cases hsx : sup x1 = []
        · obtain ⟨i1, hi6, hie, hup1⟩ := W1.base x1 hU1 hsx
          have hcl1 := W.chl i1
          have hlast := hup1.last_ne (by rw [hie]; exact bnm_ne i1 hi6)
          rw [hsx] at hi'
          subst hie
          k_steps
          refine LcGo.yes (by simpa using hlast) ?_
          rename News _ _ _ _ => N7
          rename Fr _ _ _ _ => F7
          have FC3 := kC _ _ N7 (by intro p hp; k_mem) F7.keep
          k_steps
          refine kup_newTuple (s := { s with heap := _, toks := _ }) F7 N7 (fun D' h' F' N'' l1 => ?_) (by rw [sizeLine_eq]; simp)
          refine LcEnd.intro F' N'' ⟨(D', tupO [.str (bnm i1) t1]) :: tl, l ++ [i1], rfl, kin_snoc (hKl.mono fun p hp => .tail _ hp) (.head _), by rw [take_snoc hx1']; exact .base hB hi6 hsx, fun q hq p hp => ?_, by simp; omega⟩ (fun p hp b hb => ?_) (fun p hp => ?_) (fun p hp => .tail _ (List.mem_append_right _ hp))
          · rcases List.mem_cons.mp hp with rfl | hp
            · exact l1 q (List.mem_append_left _ (List.mem_append_right _ hq))
            · exact hlt2 q hq p hp
          · rcases List.mem_cons.mp hb with rfl | hb
            · exact Nat.ne_of_lt (l1 p (List.mem_append_right _ hp))
            · exact off p hp b hb
          · rcases List.mem_cons.mp hp with rfl | hp
            · exact .head _
            · exact .tail _ (List.mem_append_left _ hp)
        · have hne' := List.length_pos_iff.mpr hsx
          k_steps
          refine LcGo.no (by simp) ?_
          exact LcEnd.intro (by k_asm) (by k_asm) ⟨tl, l, rfl, hKl, by rw [take_snoc hx1']; exact .sub hB hsx, hlt2, Nat.le_succ_of_le hyl⟩ off (fun p hp => List.mem_append_left _ hp) (fun p hp => List.mem_append_right _ hp)
      · rintro ys nx D k h tk ⟨tl, l, rfl, hKl, hB, hlt2, hyl⟩ FL N' hDn
        clear Fx Nx
        k_steps
        unfold Hold
        rw [hlf, List.take_length] at hB
        have hJ1 := hB.mem
        have hnd := hB.nodup hD.nd
        have h6 := hB.lt
        have hRl : ∀ j < 6, (j ∈ l ↔ R name j = true) := fun j hj => (hJ1 j hj).trans (Dfs.ends W hD j hj).symm
        have hlne : l ≠ [] := by
          obtain ⟨j, hj, hr⟩ := W.some (rk name + 1) name (Nat.lt_succ_self _) hn
          exact fun e => by have := (hRl j hj).mpr hr; rw [e] at this; cases this
        have hupl : ∀ i ∈ l, Up ((D, PySem.W.listOf (List.toArray ys) k) :: (tl ++ (wl, PySem.W.listOf (List.toArray []) nw) :: (fl, PySem.W.listOf (List.toArray vf) nf) :: led)) kvs (bnm i) (ch i) := fun i hi => by
          obtain ⟨hm, h0⟩ := (hJ1 i (h6 i hi)).mp hi
          obtain ⟨i', hi', he', hup'⟩ := W1.base _ (hD.fU _ hm) h0
          have := bnm_inj _ (h6 i hi) _ hi' he'
          subst this
          exact hup'.mono fun p hp => .tail _ (List.mem_append_right _ (.tail _ (.tail _ hp)))
        refine' plain_ (x := x) (e := e) (kd := kd) (vs := ys) (k := k) (l := l) (ch := ch) ?B FL ?X N' ?T ?kK (by k_mem) (by k_mem) (by k_mem) hoe hes (by k_mem) (by k_mem) hec ?hd ?hu (.head _) (KIn.mono (fun p hp => .tail _ hp) hKl) hnd h6 hlne hupl (fun i _ => W.chl i) ?_
        case B => k_asm
        case X => k_asm
        case T => k_asm
        case kK => exact rfl
        case hd => ktr_room
        case hu => ktr_units
        intro D2 vs2 h6' tk6 d6 F6 N6 lt6 hK6
        rw [pl_eq hRl] at hK6
        clear FL N'
        k_steps
        unfold Hold
        rw [hled] at N6 lt6 hK6 hlt2
        have hkd1 := ltN (l1 _ (.head _))
        dsimp only at hkd1
        have hckd : cel.1 ≠ kd := by rw [hcel]; exact Nat.ne_of_gt (Nat.lt_succ_of_lt hkd1)
        have hkdl : (kd, ok) ∈ (wl, PySem.W.listOf (List.toArray []) nw) :: (fl, PySem.W.listOf (List.toArray vf) nf) :: cel :: (kd, ok) :: news := .tail _ (.tail _ (.tail _ (.head _)))
        have hne7 : ∀ p ∈ (D2, tupO vs2) :: cel :: (tl ++ news), p.1 ≠ kd := by
          intro p hp
          rcases List.mem_cons.mp hp with rfl | hp
          · exact Nat.ne_of_gt (lt6 _ (.tail _ (List.mem_append_right _ hkdl)))
          · rcases List.mem_cons.mp hp with rfl | hp
            · exact hckd
            · rcases List.mem_append.mp hp with hp | hp
              · exact Nat.ne_of_gt (hlt2 _ hkdl p hp)
              · exact hkd p hp
        have N7 := cb_drop (news := (kd, ok) :: (D2, tupO vs2) :: cel :: (tl ++ news)) N6 (by
          intro p hp
          simp only [List.mem_cons, List.mem_append] at hp ⊢
          rcases hp with rfl | rfl | rfl | hp | hp
          · simp
          · simp
          · simp
          · simp [hp]
          · simp [hp])
        have hK7 : KIn (((D2, tupO vs2) :: tl) ++ news) vs2 (dl R ch name) := kin_sub (fun a vs hm => by
          have e1 : ∀ (d : Addr) (ws : List Value) (c : Nat), (a, tupO vs) ≠ (d, PySem.W.listOf (List.toArray ws) c) := fun d ws c h => by
            have := congrArg (fun p : Addr × Obj => p.2.cls) h
            simp [PySem.W.listOf] at this
          have e2 : (a, tupO vs) ≠ (kd, ok) := fun h => by
            obtain ⟨es, ep, _, hdt, _⟩ := hok
            have := congrArg (fun p : Addr × Obj => p.2.data) h
            simp only at this
            rw [hdt] at this
            cases this
          have e3 : (a, tupO vs) ≠ cel := fun h => by
            have := congrArg (fun p : Addr × Obj => p.2.data) h
            rw [hcel] at this
            simp only at this
            rw [dcell] at this
            cases this
          rcases List.mem_cons.mp hm with h | h
          · exact absurd h (e1 _ _ _)
          · rcases List.mem_append.mp h with h | h
            · exact List.mem_append_left _ (.tail _ h)
            · rcases List.mem_cons.mp h with h | h
              · exact absurd h (e1 _ _ _)
              · rcases List.mem_cons.mp h with h | h
                · exact absurd h (e1 _ _ _)
                · rcases List.mem_cons.mp h with h | h
                  · exact absurd h e3
                  · rcases List.mem_cons.mp h with h | h
                    · exact absurd h e2
                    · exact List.mem_append_right _ h) hK6
        have hlen := known_len hok hK W.len
        refine kda_set (knd := PySem.strKind _ _) (s := { s with heap := _, toks := _, drawn := _ }) F6 N7 (UpdF.head hne7) hok (strKind_is _ _ _ _) (by rw [sizeLine_eq]; omega) fun h8 ok' F8 N8 hok' => ?_
        rw [stored_absent hvk] at hok'
        rw [hcel] at N8
        clear F6 N6 N7
        k_steps
        refine wpAny_getItem_of (knd := PySem.strKind _ _) (strKind_is _ _ _ _) (kda_dict (knd := PySem.strKind _ _) (s := { s with heap := _, toks := _, drawn := _ }) N8 (.head _) hok').mapOf (valueAt_snoc_self hvk) ?_
        k_steps
        refine ret D2 vs2 ((D2, tupO vs2) :: tl) ok' _ _ _ _ (by k_asm) (by refine' cb_drop ?n ?s; (case n => k_asm); (case s => (intro p hp; simp only [List.mem_cons, List.mem_append, List.cons_append] at hp ⊢; rcases hp with rfl | rfl | hp | hp <;> simp [*]))) ?_ ?_ hok' ?_ (.head _) hK7
        · intro p hp
          rcases List.mem_append.mp hp with hp | hp
          · rcases List.mem_cons.mp hp with rfl | hp
            · exact hne7 _ (.head _)
            · exact hne7 _ (.tail _ (.tail _ (List.mem_append_left _ hp)))
          · exact hkd p hp
        · intro q hq p hp
          have hql : q ∈ (wl, PySem.W.listOf (List.toArray []) nw) :: (fl, PySem.W.listOf (List.toArray vf) nf) :: cel :: (kd, ok) :: news := .tail _ (.tail _ (.tail _ hq))
          rcases List.mem_cons.mp hp with rfl | hp
          · exact lt6 q (.tail _ (List.mem_append_right _ hql))
          · exact hlt2 q hql p hp
        · intro n v hv
          rcases valueAt_snoc hv with h | ⟨rfl, rfl⟩
          · obtain ⟨hU, D0, vs0, e0, hD0, hk0⟩ := hK n v h
            exact ⟨hU, D0, vs0, e0, List.mem_append_right _ hD0, hk0.mono fun p hp => List.mem_append_right _ hp⟩
          · exact ⟨hn, D2, vs2, rfl, .head _, hK7⟩
    · rw [List.concat_eq_append] at hvw hD hlw hlwt ⊢
      obtain ⟨vw', tx, rfl, hvw'⟩ := hvw.back
      obtain ⟨v', par', hv', hi'⟩ := W1.it x' (hD.wU x' (by simp))
      have hs3' := W.s3 x' (hD.wU x' (by simp))
      have hlw' := hvw'.len
      rw [List.length_append, List.length_singleton] at hlwt
      k_steps
      · rename (Fd.any _ = true) => hb
        have hin : x' ∈ Fd := by simpa using hb
        exact ⟨_, _, _, _, _, rfl, by k_asm, by k_asm, by rw [List.length_append, List.length_singleton]; omega, fl, wl, _, _, _, _, _, _, rfl, by tb_start, rfl, hfl, hwl, hlt, hvf, hvw', Dfs.old W hD hin⟩
      · rename (Fd.any _ = false) => hb
        have hin : x' ∉ Fd := fun hm => by have := List.any_eq_false.mp hb x' hm; simp at this
        have hf30 := Dfs.flen' W hD hin
        rename Strs _ (sup x') => hsx
        exact ⟨_, _, _, _, _, rfl, by k_asm, by k_asm, by simp only [List.length_append, List.length_singleton]; omega, fl, wl, _, _, _, _, _, _, rfl, by tb_start, rfl, hfl, hwl, hlt, hvf.snoc x' tx, hvw'.append hsx, Dfs.new W hD hin⟩
      · exfalso
        rename ¬ _ < _ => hb
        apply hb
        rw [List.length_append]
        simp
end

namespace Dp
section
variable {prog : Program} {w : World} {A : Around} {E : Value → Shared → Prop} {s : Shared}
theorem lk_keys : typeLookup (.type "list") "keys" = pure none := am_miss_of_fast (by decide +kernel)
theorem keys_missing {a : Addr} {k : Nat} {xs : Array Value} {Q : Option Value → Shared → Prop} (hx : s.heap.get? a = some { cls := .type "list", dict := none, data := .seq xs k }) (hA : A.handled = none)
    (h : ∀ h' tk, (∀ b o, s.heap.get? b = some o → h'.get? b = some o) → Q none { s with heap := h', toks := tk }) : wpAny (model prog w) A (getAttr? (.ref a) "keys") Q E s := by
  obtain ⟨hp, g, d, tk, os⟩ := s
  have hT : ∀ tk', (⟨hp, g, d, tk', os⟩ : Shared).TypeIs (.ref a) "list" := fun _ => ⟨_, hx, rfl⟩
  have f1 := sub_AttributeError
  have f3 := F.slot_list_getattribute.lookup
  have f4 := F.slot_list_getattribute.bind (.ref a)
  have f5 := am_list_getattr_none
  unfold getAttr? getAttrBy? getAttrBy
  repeat (any_goals (first | assumption | exact hT _ | ((with_reducible show wpAny _ _ (call (Value.builtin "list.__getattribute__") _ _) _ _ _); refine call_meets F.slot_list_getattribute (hT _) am_entry_list_getattribute (F.args_list_getattribute_2 _ _) (meets_getattribute_miss_list a xs k _ "keys" _ lk_keys (by decide +kernel) (by decide +kernel)) ⟨hx, hA, fun h' tk' e hx' => ?_⟩) | wp_step))
  obtain ⟨t', u', he⟩ := hx'.there
  show wpAny _ _ (getattributeRaised _ _ _ _ _ _ _) _ _ _
  unfold getattributeRaised
  repeat (any_goals (first | assumption | wp_step))
  exact h _ _ hx'.of.keeps

/-- pairs of a str and a value -/
inductive Prs (h : Heap) : List Value → List (Str × Value) → Prop
  | nil : Prs h [] []
  | cons {a : Addr} {k : Str} {t : Tok} {y : Value} {vs : List Value} {kvs : List (Str × Value)} : h.IsTuple a #[.str k t, y] → Prs h vs kvs → Prs h (.ref a :: vs) ((k, y) :: kvs)
theorem Prs.keep {h h' : Heap} {vs : List Value} {kvs : List (Str × Value)} (p : Prs h vs kvs) (hk : ∀ b o, o.cls = .type "tuple" → h.get? b = some o → h'.get? b = some o) : Prs h' vs kvs := by
  induction p with
  | nil => exact .nil
  | cons a _ ih =>
    obtain ⟨o, ho, hc, r⟩ := a
    exact .cons ⟨o, hk _ _ hc ho, hc, r⟩ ih
theorem pairItems_tup {a : Addr} {x y : Value} {Q : List Value → Shared → Prop} (ht : s.heap.IsTuple a #[x, y]) (h : Q [x, y] s) : wpAny (model prog w) A (Builtin.Dict.pairItems (.ref a)) Q E s := by
  obtain ⟨o, ho, hc, n, hd⟩ := ht
  unfold Builtin.Dict.pairItems
  refine wpAny_bind (wpAny_typeOf (T := "tuple") ⟨o, ho, hc⟩ ?_)
  rw [if_pos (by decide)]
  refine wpAny_bind (wpAny_seqItems ho hd ?_)
  exact wpAny_pure h
theorem plain_loop : plainId "dict.update.loop" = true := by decide +kernel
theorem entry_loop : entryFor table "dict.update.loop" = some Builtin.«dict.update.loop» := entryFor_of_fast (by kernel_rfl)
theorem fill_loop {I l d : Addr} (hh : A.handled = none) (hli : l ≠ I) (hdl : d ≠ l) (hdI : d ≠ I) :
    ∀ (post pre : List Value) (kpost kpre : List (Str × Value)) (s : Shared) (R : Result → Shared → Prop), (pre ++ post).length ≤ 1000 → ((kpre ++ kpost).map (·.1)).Nodup → pre.length = kpre.length →
      s.heap.IsListIter I l pre.length → s.heap.IsList l (List.toArray (pre ++ post)) → s.heap.DictOf (PySem.strKind prog w) d kpre → Prs s.heap post kpost →
      (∀ h' tk, h'.DictOf (PySem.strKind prog w) d (kpre ++ kpost) → (∀ b o, b ≠ d → b ≠ I → s.heap.get? b = some o → h'.get? b = some o) → R (.ok (.ret .none)) { s with heap := h', toks := tk }) →
      codeAny (model prog w) A (.builtin "dict.update.loop" ⟨[.ref d, .ref I, rawInt (pre.length : Int), .none], []⟩) R s := by
  intro post
  induction post with
  | nil =>
    intro pre kpost kpre s R h6 hnd hlen hit hls hf hk hR
    cases hk
    rw [List.append_nil] at hls hR
    refine codeAny_builtin entry_loop ?_
    rw [Around.under_plainId plain_loop _]
    show wpAny _ A.in1 (pyNext (.ref I) >>= _) _ _ s
    have W := Walks.list (prog := prog) (w := w) (A := A.in1) hh I l hli (List.toArray pre)
    refine wpAny_bind (W.done s _ _ ⟨by rw [List.size_toArray]; exact hit, hls⟩ fun h' tk hk' => ?_)
    show wpAny _ A.in1 (Builtin.Dict.addKeywords d [] >>= _) _ _ _
    refine wpAny_bind (wpAny_pure ?_)
    refine wpAny_pure (hR h' tk ?_ fun b o _ hb e => hk' b o (by simpa using hb) e)
    try rw [List.append_nil]
    obtain ⟨o, es, ep, ho, r⟩ := hf
    exact ⟨o, es, ep, hk' _ _ (by simpa using hdI) ho, r⟩
  | cons v r ih =>
    intro pre kpost kpre s R h6 hnd hlen hit hls hf hk hR
    cases hk with
    | @cons a k t y _ kr ka krr =>
    refine codeAny_builtin entry_loop ?_
    rw [Around.under_plainId plain_loop _]
    show wpAny _ A.in1 (pyNext (.ref I) >>= _) _ _ s
    have W := Walks.list (prog := prog) (w := w) (A := A.in1) hh I l hli (List.toArray (pre ++ .ref a :: r))
    refine wpAny_bind (W.item pre.length s _ _ (by simp) ⟨hit, hls⟩ fun v' h' tk hv' hst hk' => ?_)
    have ev : v' = .ref a := by
      have : (pre ++ Value.ref a :: r)[pre.length]? = some v' := by simpa using hv'
      rw [List.getElem?_append_right (Nat.le_refl _), Nat.sub_self] at this
      simpa using this.symm
    subst ev
    have keep1 : ∀ b o, o.cls = .type "tuple" → s.heap.get? b = some o → h'.get? b = some o := fun b o hc e => hk' b o (by
      intro hm
      rw [List.mem_singleton.mp hm] at e
      obtain ⟨oI, eI, cI, _⟩ := hit
      rw [eI] at e; cases e
      rw [cI] at hc; exact absurd hc (by simp)) e
    have hd1 : h'.DictOf (PySem.strKind prog w) d kpre := by
      obtain ⟨o, es, ep, ho, r⟩ := hf
      exact ⟨o, es, ep, hk' _ _ (by simpa using hdI) ho, r⟩
    have ka1 : h'.IsTuple a #[.str k t, y] := by
      obtain ⟨o, ho, hc, r⟩ := ka
      exact ⟨o, keep1 _ _ hc ho, hc, r⟩
    have hno : stored kpre k y = kpre ++ [(k, y)] := by
      unfold stored
      rw [if_neg]
      intro hany
      obtain ⟨kv, hkv, he⟩ := List.any_eq_true.mp hany
      have e1 : kv.1 = k := by simpa using he
      rw [List.map_append, List.map_cons, List.nodup_append] at hnd
      exact hnd.2.2 k (e1 ▸ List.mem_map_of_mem hkv) k (.head _) rfl
    have hkl : kpre.length ≤ 1000 := by rw [← hlen]; simp at h6; omega
    show wpAny _ A.in1 (holding [Value.ref a] _ >>= _) _ _ { s with heap := h', toks := tk }
    refine wpAny_bind (wpAny_holding ?_)
    refine wpAny_bind (wpAny_mono (Q := fun l s' => l = [Value.str k t, y] ∧ s' = { s with heap := h', toks := tk }) ?_ ?_ fun _ _ e => e)
    · exact wpAny_tryCatch (pairItems_tup (s := { s with heap := h', toks := tk }) ka1 ⟨rfl, rfl⟩)
    · rintro l s' ⟨rfl, rfl⟩
      dsimp only
      refine wpAny_holding (wpAny_dictSet_pairs (knd := PySem.strKind prog w) (s := { s with heap := h', toks := tk }) (hsz := by rw [sizeLine_eq]; omega) (strKind_is _ _ _ _) hd1 fun h'' hm q6 => ?_)
      rw [hno] at hm
      obtain ⟨od, esd, epd, hod, ⟨hcd, _⟩, _⟩ := id hd1
      have keep2 : ∀ b o, o.cls = .type "tuple" → h'.get? b = some o → h''.get? b = some o := fun b o hc e => (q6.2 b (by
        rintro rfl
        rw [hod] at e; cases e
        rw [hcd] at hc; exact absurd hc (by simp))).trans e
      have hit2 : h''.IsListIter I l (pre.length + 1) := hst.1.at fun o e => (q6.2 I hdI.symm).trans e
      have hls2 : h''.IsList l (List.toArray (pre ++ .ref a :: r)) := hst.2.at fun o e => (q6.2 l hdl.symm).trans e
      refine wpAny_pure ⟨plainId_quiet plain_loop _, ?_⟩
      have := ih (pre ++ [.ref a]) kr (kpre ++ [(k, y)]) { s with heap := h'', toks := tk + 1 } R (by simpa using h6) (by simpa using hnd) (by simp [hlen]) (by simpa using hit2) (by simpa using hls2) hm ((krr.keep keep1).keep keep2) fun h3 tk3 f3 k3 => ?_
      · simpa using this
      · refine hR h3 tk3 (by simpa using f3) fun b o hb hb' e => k3 b o hb hb' ((q6.2 b hb).trans (hk' b o (by simpa using hb') e))

theorem dict_call {l : Addr} {vs : List Value} {k : Nat} {kvs : List (Str × Value)} {Q : Value → Shared → Prop} (hh : A.handled = none) (hl : s.heap.get? l = some (PySem.W.listOf (List.toArray vs) k)) (hp : Prs s.heap vs kvs) (hnd : (kvs.map (·.1)).Nodup) (hz : vs.length ≤ 1000)
    (h : ∀ h' tk, h'.DictOf (PySem.strKind prog w) s.heap.objs.size kvs → (∀ b o, s.heap.get? b = some o → h'.get? b = some o) → Q (.ref s.heap.objs.size) { s with heap := h', toks := tk }) :
    wpAny (model prog w) A (call (.type "dict") [.ref l]) Q E s := by
  refine callType_codes (Q₁ := fun obj s₁ => obj = .ref s.heap.objs.size ∧ s₁ = { s with heap := s.heap.push { cls := .type "dict", data := .dict #[] } }) F.kt_called_dict (F.kt_typeCall_dict_1 _) F.entry_dict_init (kt_code_dict_new _ ⟨rfl, rfl⟩) ?_
  rintro obj s₁ ⟨rfl, rfl⟩
  have hnew : (s.heap.push { cls := .type "dict", data := .dict #[] }).DictOf (PySem.strKind prog w) s.heap.objs.size [] := Heap.DictOf.new s.heap
  have hl' : (s.heap.push { cls := .type "dict", data := .dict #[] }).get? l = some (PySem.W.listOf (List.toArray vs) k) := Heap.get?_push_of_some _ hl
  have hlt := Heap.lt_size hl
  refine ⟨hnew.typeIs, F.args_dict_init_2 _ _, ?_⟩
  unfold Builtin.«dict.__init__»
  refine wpAny_bind ?_
  unfold Builtin.Dict.selfAndRest
  refine wpAny_bind (wpAny_notOrdered_dict hnew.typeIs ?_)
  show wpAny _ _ (pure (s.heap.objs.size, [Value.ref l])) _ _ _
  refine wpAny_pure ?_
  show wpAny _ _ (Builtin.Dict.updateFrom "dict.__init__" s.heap.objs.size (.ref l) [] .none) _ _ _
  unfold Builtin.Dict.updateFrom
  refine wpAny_bind (wpAny_typeOf (T := "list") ⟨_, hl', rfl⟩ ?_)
  rw [if_pos (by decide)]
  refine wpAny_bind (keys_missing (s := { s with heap := s.heap.push { cls := .type "dict", data := .dict #[] } }) hl' (by simpa using hh) fun h2 tk2 hk2 => ?_)
  rw [if_pos (show (none : Option Value).isNone = true from rfl)]
  refine wpAny_bind (wpAny_rule ?_)
  have hl2 : h2.IsList l (List.toArray vs) := ⟨_, hk2 _ _ hl', rfl, _, rfl⟩
  refine wpAny_bind (wpAny_pyIter_list (s := { s with heap := h2, toks := tk2 }) hl2 ?_)
  refine wpAny_pure ⟨plainId_quiet plain_loop _, ?_⟩
  have hlt2 : l < h2.objs.size := Heap.lt_size hl2.choose_spec.1
  obtain ⟨od, hod, _⟩ := id hnew
  have hd2 : s.heap.objs.size < h2.objs.size := by
    obtain ⟨o, es, ep, ho, _⟩ := hnew
    exact Heap.lt_size (hk2 _ _ ho)
  have := fill_loop (prog := prog) (w := w) (A := A.in1) (l := l) (I := h2.objs.size) (d := s.heap.objs.size) (by simpa using hh) (Nat.ne_of_lt hlt2) (Nat.ne_of_gt hlt) (Nat.ne_of_lt hd2) vs [] kvs [] { s with heap := h2.push { cls := .type "list_iterator", data := .fields #[.ref l, rawInt 0] }, toks := tk2 }
    (wants (fun r s₂ => r = .none ∧ Q (.ref s.heap.objs.size) s₂) E) (by simpa using hz) (by simpa using hnd) rfl ⟨_, Heap.get?_push_size _ rfl, rfl, rfl⟩ (hl2.push _) (by
      obtain ⟨o, es, ep, ho, r⟩ := hnew
      exact ⟨o, es, ep, Heap.get?_push_of_some _ (hk2 _ _ ho), r⟩) (hp.keep fun b o _ e => Heap.get?_push_of_some _ (hk2 _ _ (Heap.get?_push_of_some _ e))) fun h3 tk3 f3 k3 => ⟨rfl, h h3 tk3 f3 fun b o e => k3 b o (Nat.ne_of_lt (Heap.lt_size e)) (Nat.ne_of_lt (Nat.lt_trans (Heap.lt_size e) hd2)) (Heap.get?_push_of_some _ (hk2 _ _ (Heap.get?_push_of_some _ e)))⟩
  exact this
end
end Dp

theorem word26 : True := by
  k_with "k_all" => first | assumption | exact ne_all (by assumption)
  trivial
theorem word27 : True := by
  k_with "compareOp In str ref" => (k_here; (with_reducible show wpAny _ _ (compareOp CmpOp.In (Value.str _ _) (Value.ref _)) _ _ _); k_dflt (first | (refine' kda_in (knd := PySem.strKind _ _) ?Nw57 ?mw57 ?dw57 ?low57 (strKind_is _ _ _ _) true ?hbw57 ?_; (case Nw57 => k_asm); (case mw57 => k_mem); (case dw57 => assumption); (case low57 => assumption); (case hbw57 => (rename (valueAt _ _ = _) => hvk9; simp [hvk9])); k_whole) | (refine' kda_in (knd := PySem.strKind _ _) ?Nw57 ?mw57 ?dw57 ?low57 (strKind_is _ _ _ _) false ?hbw57 ?_; (case Nw57 => k_asm); (case mw57 => k_mem); (case dw57 => assumption); (case low57 => assumption); (case hbw57 => (rename (valueAt _ _ = _) => hvk9; simp [hvk9])); k_whole)))
  trivial
theorem off_of {own nx : List (Addr × Obj)} (off : OwnOff own (nx.map (·.1))) {q : Addr × Obj} (hq : q ∈ nx) : ∀ p ∈ own, p.1 ≠ q.1 := fun p hp => off p hp _ (List.mem_map_of_mem (f := (·.1)) hq)
theorem ne_app {l own : List (Addr × Obj)} {d : Addr} (h : ∀ p ∈ l, p.1 ≠ d) (k : ∀ p ∈ own, p.1 ≠ d) : ∀ p ∈ l ++ own, p.1 ≠ d := fun p hp => (List.mem_append.mp hp).elim (h p) (k p)
theorem lf_ForM {prog : Program} {w : World} {A : Around} {E : Value → Shared → Prop} {s : Shared} {env : Env} {h₀ : Heap} {m : Str → Option Value} (kp : Bool) {target iter : PySem.Expr} {body : List Stmt} {pos : Pos} {Q : Flow → Shared → Prop} (_F : Fr h₀ env.locals s.heap m)
    (h : wpAny (model prog w) A (eval iter env) (fun xv s₁ => wpAny (model prog w) A (pyIter xv) (fun it s₂ => LfAt kp prog w A h₀ env target body Q it s₂) E s₁) E s)
    (hs : ∀ x, foldedSetIterable iter env x = pure x) :
    wpAny (model prog w) A (exec (.For target iter body [] pos) env) Q E s := lf_For h hs
section
variable {w : World} {p : Program} {loose : List Str} {mean : ExcName → Option Value} {mg mb : Str → Option Value}
    {dp un : Nat} {gd : Option (List Code)} {cn : Str} {cs : Scope} {a : Addr} {ccd : Value} {cl : List (Str × Addr)} {outer : List Env} {A₀ : Around} {base h₀ : Heap} {L : Addr} {m : Str → Option Value} {news : List (Addr × Obj)} {s : Shared} {Q E : Value → Shared → Prop}
    (B : Below A₀ base outer h₀) (F : Fr h₀ L s.heap m) (X : (hd.heap_1 w.params).In h₀) (T : Top p loose mean mg mb h₀) (hk : cs.kind = .function)
    {x dx e st : Addr} {es : List DictEntry} {n : Nat} {oe : Obj} {kvs : List (Str × Value)} {name : Str} {t : Tok}
    (hx : (x, instObj 394 dx) ∈ news) (hdx : (dx, dictOf es n) ∈ news) (hoe : oe.IsDictOf (PySem.strKind PG w) kvs) (h1 : getL (Str.ofString "entries") es = some (some (.ref e))) (h2 : getL (Str.ofString "stands") es = some (some (.ref st)))
include B F X T hk hx hdx hoe h1 h2
theorem take_ {v : Value} {par : Str} {sup : List Str} {vs : List Value} {n1 : Nat} (N : News h₀ L s.heap ((e, oe) :: (st, PySem.W.listOf (List.toArray vs) n1) :: news)) (hne : e ≠ st) (he : ∀ p ∈ news, p.1 ≠ e) (hst : ∀ p ∈ news, p.1 ≠ st) (lo : (e == sysModules) = false)
    (hd : dp + 8 < recursionLimit) (hu : un + 80 < cLine) (hv : valueAt kvs name = none) (hi : ItemIn news v name par sup) (hz : sup.length ≤ 100) (hz2 : kvs.length ≤ 100) (hz3 : vs.length ≤ 100)
    (ret : ∀ oe' n' t' h' tk', Fr h₀ L h' m → News h₀ L h' ((e, oe') :: (st, PySem.W.listOf (List.toArray (vs ++ [.str name t'])) n') :: news) → oe'.IsDictOf (PySem.strKind PG w) (kvs ++ [(name, v)]) → Q .none { s with heap := h', toks := tk' }) :
    wpAny (model PG w) (ktrTop dp un gd cn cs L a ccd cl outer) (call (.ref 248) [.ref x, v]) Q E s := by
  obtain ⟨it, su, nm, f1, f2, v1, v0, t1, t2, t4, vsu, t5, rfl, hit, hnm, hsu, hvs, hf1, hf2⟩ := hi.ex
  have hl := hvs.len
  refine wpAny_call ?_
  k_dflt cell_enter
  k_steps
  unfold Hold
  rename Fr _ _ _ _ => Fx
  refine lf_ForM true Fx ?_ (by intro _; rfl)
  k_steps
  rename Fr _ _ _ _ => Fx
  rename News _ _ _ _ => Nx
  refine lf_tuple (vs := [.str name t2]) .led (fun i m₁ nx => ∃ oe' n' vs', MIs m₁ [(Str.ofString "self", .ref x), (Str.ofString "item", .ref it)] ∧ nx = (e, oe') :: (st, PySem.W.listOf (List.toArray vs') n') :: news ∧ ((i = 0 ∧ oe' = oe ∧ vs' = vs) ∨ (i = 1 ∧ oe'.IsDictOf (PySem.strKind PG w) (kvs ++ [(name, .ref it)]) ∧ ∃ t', vs' = vs ++ [.str name t']))) (by with_unfolding_all rfl) Fx Nx (by rfl) (by rfl) ⟨oe, n1, vs, by tb_start, rfl, .inl ⟨rfl, rfl, rfl⟩⟩ ?_ ?_ ?_
  · rintro i m₁ nx ⟨oe', n', vs', _, rfl, _⟩ p hp
    rw [List.mem_singleton.mp hp]
    k_mem
  · rintro i f m₁ nx own h tk dr E' hi ⟨v, hv, rfl⟩ ⟨oe', n', vs', hm, rfl, hc⟩ off hdr F' N'
    have hi0 : i = 0 := by simp at hi; exact hi
    subst hi0
    obtain ⟨_, rfl, rfl⟩ | ⟨h0, _⟩ := hc
    rotate_left
    · cases h0
    simp only [List.getElem?_cons_zero, Option.some.injEq] at hv
    subst hv
    have hm1 := hm.one
    have hm2 := hm.rest.one
    clear hm
    simp only [List.cons_append] at N'
    k_steps
    have hes : ∀ p ∈ (st, PySem.W.listOf (List.toArray vs') n') :: (news ++ own), p.1 ≠ e := List.forall_mem_cons.mpr ⟨Ne.symm hne, ne_app he (off_of off (.head _))⟩
    refine kda_set (knd := PySem.strKind _ _) (s := { s with heap := _, toks := _, drawn := _ }) (by k_asm) (by k_asm) (UpdF.head hes) hoe (strKind_is _ _ _ _) (by rw [sizeLine_eq]; omega) fun h8 ok' F8 N8 hok' => ?_
    rw [stored_absent hv] at hok'
    have hst' : ∀ p ∈ news ++ own, p.1 ≠ st := ne_app hst (off_of off (.tail _ (.head _)))
    have hne' : (e : Nat) ≠ st := hne
    k_steps
    rename Fr _ _ _ _ => F9
    rename News _ _ _ _ => N9
    exact LfEnd.intro F9 N9 ⟨ok', _, _, by tb_start, rfl, .inr ⟨by simp, hok', _, rfl⟩⟩ off (fun p hp => List.mem_append_left own hp) (fun p hp => .tail _ (.tail _ (List.mem_append_right _ hp)))
  · rintro m₁ nx h tk dr ⟨oe', n', vs', hm, rfl, hc⟩ hdr F' N'
    obtain ⟨h0, _⟩ | ⟨_, hoe', t', rfl⟩ := hc
    · cases h0
    clear Fx Nx
    have hm1 := hm.one
    have hm2 := hm.rest.one
    clear hm
    have hdr' := hdr rfl
    subst hdr'
    k_steps
    all_goals exact ret oe' n' t' _ _ (by k_asm) (by k_asm) hoe'
end

section
variable {prog : Program} {w : World} {A : Around} {E : Value → Shared → Prop} {s : Shared} {env : Env} {h₀ : Heap} {m : Str → Option Value} {news : List (Addr × Obj)}
noncomputable def LfFix (h₀ : Heap) (L : Addr) (Jn : (Str → Option Value) → Prop) (nx : List (Addr × Obj)) (s₁ : Shared) (f : Flow) (s₂ : Shared) : Prop :=
  ∃ h' tk m', (f = .next ∨ f = .cont) ∧ s₂ = { s₁ with heap := h', toks := tk } ∧ Fr h₀ L h' m' ∧ News h₀ L h' nx ∧ Jn m'
theorem LfFix.intro {L : Addr} {Jn : (Str → Option Value) → Prop} {nx : List (Addr × Obj)} {s₁ : Shared} {h' : Heap} {tk : Nat} {m' : Str → Option Value} (F : Fr h₀ L h' m') (N : News h₀ L h' nx) (hj : Jn m') : LfFix h₀ L Jn nx s₁ .next { s₁ with heap := h', toks := tk } := ⟨h', tk, m', .inl rfl, rfl, F, N, hj⟩
theorem LfFix.out {kp : Bool} {L : Addr} {Jn : (Str → Option Value) → Prop} {own : List (Addr × Obj)} {s₁ s₂ : Shared} {f : Flow} (off : OwnOff own (news.map (·.1))) (h : LfFix h₀ L Jn (news ++ own) s₁ f s₂) : LfEnd kp h₀ L (fun m nx => nx = news ∧ Jn m) own s₁ f s₂ := by
  obtain ⟨h', tk, m', hf, rfl, F, N, hj⟩ := h
  exact ⟨h', tk, s₁.drawn, news, news ++ own, m', hf, rfl, fun _ => rfl, F, N, fun p hp => List.mem_append_left _ hp, fun p hp => List.mem_append_right _ hp, off, rfl, hj⟩
theorem lf_tuple_fix {x : Str} {px : Pos} {body : List Stmt} {Q : Flow → Shared → Prop} {l : Addr} {vs : List Value} (J : Nat → (Str → Option Value) → Prop)
    (hh : A.handled = none) (F : Fr h₀ env.locals s.heap m) (N : News h₀ env.locals s.heap news) (hm : (l, tupO vs) ∈ news) (hx : env.kindOf x = some .local) (hp : (env.scope.kind == .class || (env.scope.kind == .module && env.locals != env.globals)) = false)
    (hj : J 0 m)
    (turn : ∀ i v m₁ own h tk E', vs[i]? = some v → J i m₁ → Fr h₀ env.locals h (nmFm x v m₁) → News h₀ env.locals h (news ++ own) →
      wpAny (model prog w) A (execs body env) (LfFix h₀ env.locals (J (i + 1)) (news ++ own) { s with heap := h, toks := tk }) E' { s with heap := h, toks := tk })
    (done : ∀ m' h tk, J vs.length m' → Fr h₀ env.locals h m' → News h₀ env.locals h news → Q .next { s with heap := h, toks := tk }) :
    wpAny (model prog w) A (pyIter (.ref l)) (fun it s₂ => LfAt true prog w A h₀ env (.Name x px) body Q it s₂) E s := by
  refine lf_tuple .led (fun i m nx => nx = news ∧ J i m) hh F N hx hp ⟨rfl, hj⟩ (fun i m nx q p hp => by rw [List.mem_singleton.mp hp, q.1]; exact hm) ?_ ?_
  · rintro i f m₁ nx own h tk dr E' hi ⟨v, hv, rfl⟩ ⟨rfl, hJ⟩ off hdr F' N'
    have := hdr rfl
    subst this
    exact wpAny_mono (turn i v m₁ own h tk E' hv hJ F' N') (fun f s₄ h₄ => LfFix.out off h₄) fun _ _ q => q
  · rintro m' nx h tk dr ⟨rfl, hJ⟩ hdr F' N'
    have := hdr rfl
    subst this
    exact done m' h tk hJ F' N'
theorem lf_list_fix {x : Str} {px : Pos} {body : List Stmt} {Q : Flow → Shared → Prop} {l : Addr} {vs : List Value} {k : Nat} (J : Nat → (Str → Option Value) → Prop)
    (hh : A.handled = none) (F : Fr h₀ env.locals s.heap m) (N : News h₀ env.locals s.heap news) (hm : (l, PySem.W.listOf (List.toArray vs) k) ∈ news) (hx : env.kindOf x = some .local) (hp : (env.scope.kind == .class || (env.scope.kind == .module && env.locals != env.globals)) = false)
    (hj : J 0 m)
    (turn : ∀ i v m₁ own h tk E', vs[i]? = some v → J i m₁ → Fr h₀ env.locals h (nmFm x v m₁) → News h₀ env.locals h (news ++ own) →
      wpAny (model prog w) A (execs body env) (LfFix h₀ env.locals (J (i + 1)) (news ++ own) { s with heap := h, toks := tk }) E' { s with heap := h, toks := tk })
    (done : ∀ m' h tk, J vs.length m' → Fr h₀ env.locals h m' → News h₀ env.locals h news → Q .next { s with heap := h, toks := tk }) :
    wpAny (model prog w) A (pyIter (.ref l)) (fun it s₂ => LfAt true prog w A h₀ env (.Name x px) body Q it s₂) E s := by
  refine lf_list (k := k) (fun i m nx => nx = news ∧ J i m) hh F N hx hp ⟨rfl, hj⟩ (fun i m nx q => by rw [q.1]; exact hm) ?_ ?_
  · rintro i f m₁ nx own h tk dr E' hi ⟨v, hv, rfl⟩ ⟨rfl, hJ⟩ off hdr F' N'
    have := hdr rfl
    subst this
    exact wpAny_mono (turn i v m₁ own h tk E' hv hJ F' N') (fun f s₄ h₄ => LfFix.out off h₄) fun _ _ q => q
  · rintro m' nx h tk dr ⟨rfl, hJ⟩ hdr F' N'
    have := hdr rfl
    subst this
    exact done m' h tk hJ F' N'
end
section
variable {w : World} {p : Program} {loose : List Str} {mean : ExcName → Option Value} {mg mb : Str → Option Value}
    {dp un : Nat} {gd : Option (List Code)} {cn : Str} {cs : Scope} {a : Addr} {ccd : Value} {cl : List (Str × Addr)} {outer : List Env} {A₀ : Around} {base h₀ : Heap} {L : Addr} {m : Str → Option Value} {news : List (Addr × Obj)} {s : Shared} {Q E : Value → Shared → Prop}
    (B : Below A₀ base outer h₀) (F : Fr h₀ L s.heap m) (X : (hd.heap_1 w.params).In h₀) (N : News h₀ L s.heap news) (T : Top p loose mean mg mb h₀) (hk : cs.kind = .function)
    {x dx e : Addr} {es : List DictEntry} {n : Nat} {oe : Obj} {kvs : List (Str × Value)} {name : Str} {t : Tok}
    (hx : (x, instObj 394 dx) ∈ news) (hdx : (dx, dictOf es n) ∈ news) (he : (e, oe) ∈ news) (hoe : oe.IsDictOf (PySem.strKind PG w) kvs) (hes : SgM es e)
include B F X N T hk hx hdx he hoe hes
theorem look_ {v : Value} {par : Str} {sup : List Str} (lo : (e == sysModules) = false) (hd : dp + 24 < recursionLimit) (hu : un + 240 < cLine) (hv : valueAt kvs name = some v) (hi : ItemIn news v name par sup) (hz : sup.length ≤ 100)
    (hin : ∀ o ∈ (if par = Str.ofString "" then sup else par :: sup), ∃ v', valueAt kvs o = some v') (hp : par ≠ Str.ofString "" → ∃ v' par', valueAt kvs par = some v' ∧ ItemIn news v' par par' [])
    (ret : ∀ h' tk', Fr h₀ L h' m → News h₀ L h' news → Q .none { s with heap := h', toks := tk' }) :
    wpAny (model PG w) (ktrTop dp un gd cn cs L a ccd cl outer) (call (.ref 255) [.ref x, .str name t]) Q E s := by
  have h1 := hes.direct
  have h2 := hes.parent
  have h3 := hes.is_subset
  have h4 := hes.entries
  refine wpAny_call ?_
  k_dflt cell_enter
  k_steps
  unfold Hold
  rename Fr _ _ _ _ => Fx
  refine lf_ForM true Fx ?_ (by intro _; rfl)
  k_steps
  rename Fr _ _ _ _ => Fx
  rename News _ _ _ _ => Nx
  rename Strs _ _ => hs9
  rename (_, tupO _) ∈ _ ++ _ => hd9
  refine lf_tuple_fix (fun i m₁ => MIs m₁ [(Str.ofString "self", .ref x), (Str.ofString "name", .str name t)]) (by with_unfolding_all rfl) Fx Nx hd9 (by rfl) (by rfl) (by tb_start) ?_ ?_
  · rintro i v m₁ own h tk E' hv hm F' N'
    obtain ⟨o1, t1, rfl, ho1⟩ := hs9.at hv
    obtain ⟨v2, hv2⟩ := hin o1 (List.mem_of_getElem? ho1)
    have hm1 := hm.one
    have hm2 := hm.rest.one
    clear hm Fx Nx
    k_steps
    exact LfFix.intro (by k_asm) (by k_asm) (by tb_start)
  · rintro m₁ h tk hm F' N'
    clear Fx Nx
    have hm1 := hm.one
    have hm2 := hm.rest.one
    clear hm
    by_cases hpe : par = Str.ofString ""
    · subst hpe
      k_steps
      exact ret _ _ (by k_asm) (by refine' cb_drop ?n ?s; (case n => k_asm); (case s => intro p hp; k_mem))
    · obtain ⟨v3, par3, hv3, hi3⟩ := hp hpe
      k_steps
      · exact ret _ _ (by k_asm) (by refine' cb_drop ?n ?s; (case n => k_asm); (case s => intro p hp; k_mem))
      all_goals (exfalso; (rename (par != Str.ofString "") = false => hb); simp at hb; exact hpe hb)
end

theorem list_list_M {prog : Program} {w : World} {A : Around} {E : Value → Shared → Prop} {s : Shared} {h₀ : Heap} {L b : Addr} {m : Str → Option Value} {news : List (Addr × Obj)} {vs : List Value} {k : Nat} {Q : Value → Shared → Prop} (F : Fr h₀ L s.heap m) (N : News h₀ L s.heap news) (hb : (b, PySem.W.listOf (List.toArray vs) k) ∈ news) (hz : vs.length ≤ 1000)
    (h : ∀ D c h', Fr h₀ L h' m → News h₀ L h' ((D, PySem.W.listOf (List.toArray vs) c) :: news) → (∀ q ∈ news, q.1 < D) → Q (.ref D) { s with heap := h' }) : wpAny (model prog w) A (call (.type "list") [.ref b]) Q E s :=
  kup_listOf F N hb rfl h (by rw [sizeLine_eq]; simp; omega)
theorem word28 : True := by
  k_with "call type:list" => (k_here; (with_reducible show wpAny _ _ (call (Value.type _) [Value.ref _]) _ _ _); k_dflt (refine' list_list_M ?Fw58 ?Nw58 ?mw58 ?zw58 ?_; (case Fw58 => k_asm); (case Nw58 => k_asm); (case mw58 => k_mem); (case zw58 => first | assumption | omega); k_whole); intro D9z9 c9z9 h9z9 F9z9 N9z9 lt9z9; (try dsimp only at F9z9 N9z9); (try k_lt lt9z9))
  trivial
theorem Strs.cut {x : Str} {vs : List Value} {xs : List Str} (h : Strs vs xs) : x ∈ xs → ∃ p t q ps qs, vs = p ++ .str x t :: q ∧ xs = ps ++ x :: qs ∧ x ∉ ps ∧ Strs p ps ∧ Strs q qs := by
  induction h with
  | nil => exact fun hx => nomatch hx
  | @cons y t vs xs r ih =>
    intro hx
    by_cases e : x = y
    · subst e
      exact ⟨[], t, vs, [], xs, rfl, rfl, List.not_mem_nil, .nil, r⟩
    · obtain ⟨p, t', q, ps, qs, rfl, rfl, h1, h2, h3⟩ := ih ((List.mem_cons.mp hx).resolve_left e)
      exact ⟨.str y t :: p, t', q, y :: ps, qs, rfl, rfl, fun hm => (List.mem_cons.mp hm).elim e h1, .cons y t h2, h3⟩
noncomputable def eqS (x : Str) : Value → Bool
  | .str z _ => z.cps.toList == x.cps.toList
  | _ => false
theorem eqS_gives {x : Str} {t : Tok} {vs : List Value} {xs : List Str} (h : Strs vs xs) : ∀ y ∈ vs, PySem.MeetsSeq.EqGives y (.str x t) (eqS x y) := by
  induction h with
  | nil => intro y hy; cases hy
  | cons z u _ ih =>
    intro y hy
    rcases List.mem_cons.mp hy with rfl | hy
    · exact PySem.SeqRoads2.EqGives.str z x u t
    · exact ih y hy
theorem eqS_no {x : Str} {vs : List Value} {xs : List Str} (h : Strs vs xs) (hx : x ∉ xs) : ∀ y ∈ vs, eqS x y = false := by
  induction h with
  | nil => intro y hy; cases hy
  | cons z u _ ih =>
    intro y hy
    rcases List.mem_cons.mp hy with rfl | hy
    · show (z.cps.toList == x.cps.toList) = false
      rw [beq_eq_false_iff_ne]
      intro e
      apply hx
      have : z = x := by
        obtain ⟨⟨a⟩⟩ := z; obtain ⟨⟨b⟩⟩ := x
        simp only at e
        subst e; rfl
      exact this ▸ .head _
    · exact ih (fun q => hx (.tail _ q)) y hy
theorem remove_M {prog : Program} {w : World} {A : Around} {E : Value → Shared → Prop} {s : Shared} {h₀ : Heap} {L D : Addr} {m : Str → Option Value} {led : List (Addr × Obj)} {g : Obj → List (Addr × Obj)} {p q : List Value} {ps qs : List Str} {x : Str} {t t' : Tok} {n : Nat} {Q : Value → Shared → Prop} (F : Fr h₀ L s.heap m) (N : News h₀ L s.heap led) (U : UpdF D (PySem.W.listOf (List.toArray (p ++ .str x t :: q)) n) led g)
    (hp : Strs p ps) (hq : Strs q qs) (hx : x ∉ ps) (hz : (p ++ .str x t :: q).length ≤ 1000) (h : ∀ h' n', Fr h₀ L h' m → News h₀ L h' (g (PySem.W.listOf (List.toArray (p ++ q)) n')) → Q .none { s with heap := h' }) :
    wpAny (model prog w) A (call (.builtin "list.remove") [.ref D, .str x t']) Q E s := by
  obtain ⟨pre, post, rfl, hg, a, b⟩ := U.split
  have z := N (D, PySem.W.listOf (List.toArray (p ++ .str x t :: q)) n) (List.mem_append.mpr (.inr (.head _)))
  have hall : Strs (p ++ .str x t :: q) (ps ++ x :: qs) := hp.append (.cons x t hq)
  have hno := eqS_no hp hx
  refine call_meets PySem.F.slot_list_remove ⟨_, z.1, rfl⟩ PySem.F.entry_list_remove (PySem.F.args_list_remove_2 _ _) (PySem.MeetsSeq.list_remove D _ n _ (eqS x) (fun y hy => eqS_gives hall y (by simpa using hy)) p.length (by simp) (by simp [eqS]) (fun m hm hlt => hno _ (by
    have : (List.toArray (p ++ Value.str x t :: q))[m] = p[m] := by simp [List.getElem_append_left hlt]
    rw [this]; exact List.getElem_mem _)) (by rw [List.size_toArray, sizeLine_eq]; omega)) ⟨z.1, h _ (n + 1) (F.change (Heap.SameBut.update ..) z.2.1 z.2.2) ?_⟩
  rw [hg]
  exact kl_turn _ N a b (kl_erase p q _) (by simp)
theorem strs_dat {news : List (Addr × Obj)} {vs : List Value} {xs : List Str} (h : Strs vs xs) : DatAll news vs (xs.map Dat.str) := by
  induction h with
  | nil => exact .nil
  | cons x t _ ih => exact .cons (.str x t) ih
theorem word29 : True := by
  k_with "call builtin:list.remove" => refine hold ?_
  trivial
theorem lc_tup_led {prog : Program} {w : World} {A : Around} {E : Value → Shared → Prop} {s : Shared} {env : Env} {h₀ : Heap} {m : Str → Option Value} {news : List (Addr × Obj)} {L : Addr} {elt : PySem.Expr} {x : Str} {ifs : List PySem.Expr} {scope : Scope} {cl : List (Str × Addr)} {md : Addr → Str → Option Value} {Q : Addr → Shared → Prop} {l : Addr} {vs : List Value} (J : Nat → List Value → Prop)
    (hh : A.handled = none) (F : Fr h₀ L s.heap m) (N : News h₀ L s.heap news) (hm : (l, tupO vs) ∈ news) (hsz : vs.length ≤ 1000)
    (hj : J 0 []) (hlen : ∀ i ys, J i ys → ys.length ≤ i)
    (turn : ∀ i v ys own C m₂ h tk E', i < vs.length → vs[i]? = some v → J i ys → m₂ x = some v → Fr h₀ L h m → Fr h₀ C h m₂ → (∀ h' nx', News h₀ L h' nx' → (∀ p ∈ own, p ∈ nx') → (∀ b o, h₀.get? b = some o → h'.get? b = some o) → Fr h₀ C h' m₂) → News h₀ L h (news ++ own) → TestF prog w A h₀ L m (news ++ own) (compEnvC scope cl C env) elt (J (i + 1)) ys { s with heap := h, toks := tk } E' ifs)
    (done : ∀ ys D k h tk, J vs.length ys → Fr h₀ L h (md D) → News h₀ L h ((D, PySem.W.listOf (List.toArray ys) k) :: news) → (∀ p ∈ news, p.1 ≠ D) → Q D { s with heap := h, toks := tk }) :
    wpAny (model prog w) A (pyIter (.ref l)) (fun it s₂ => LcAt prog w A h₀ L env m scope cl x ifs elt md Q it s₂) E s :=
  lc_tuple_fix .led J hh F N hsz (fun p hp => by rw [List.mem_singleton.mp hp]; exact hm) hj hlen turn done
theorem fltS_true {l : List Str} {p : Str → Bool} {i : Nat} {j : Str} (h : l[i]? = some j) (hp : p j = true) : (l.take (i + 1)).filter p = (l.take i).filter p ++ [j] := by
  rw [List.take_add_one, h, List.filter_append]; simp [hp]
theorem fltS_false {l : List Str} {p : Str → Bool} {i : Nat} {j : Str} (h : l[i]? = some j) (hp : p j = false) : (l.take (i + 1)).filter p = (l.take i).filter p := by
  rw [List.take_add_one, h, List.filter_append]; simp [hp]
theorem led5 {h₀ h : Heap} {L : Addr} {a b c d e : Addr × Obj} {led : List (Addr × Obj)} (_ : News h₀ L h (a :: b :: c :: d :: e :: led)) : ∃ led' d' e' c', d' = d ∧ e' = e ∧ c' = c.1 ∧ led' = d' :: e' :: led := ⟨_, _, _, _, rfl, rfl, rfl, rfl⟩
noncomputable def dirs (par : Str → Str) (sup : Str → List Str) (o : Str) : List Str := if par o = Str.ofString "" then sup o else par o :: sup o
noncomputable def rdy (par : Str → Str) (sup : Str → List Str) (Fd : List Str) (o : Str) : Bool := (dirs par sup o).all fun q => Fd.any (· == q)
/-- the state of the ordering -/
structure Ord1 (ns Fd Rs : List Str) : Prop where
  nd : Rs.Nodup
  rU : ∀ o ∈ Rs, o ∈ ns
  fU : ∀ o ∈ Fd, o ∈ ns
  all : ∀ o ∈ ns, o ∈ Fd ∨ o ∈ Rs
  len : Fd.length + Rs.length = ns.length
theorem Ord1.able {par : Str → Str} {sup : Str → List Str} {rk : Str → Nat} {ns Fd Rs : List Str} (O : Ord1 ns Fd Rs) (hin : ∀ o ∈ ns, ∀ q ∈ dirs par sup o, q ∈ ns ∧ rk q < rk o) :
    ∀ (k : Nat) (o : Str), rk o < k → o ∈ Rs → ∃ o' ∈ Rs, rdy par sup Fd o' = true
  | 0, _, h, _ => absurd h (Nat.not_lt_zero _)
  | k + 1, o, h, ho => by
    by_cases hr : rdy par sup Fd o = true
    · exact ⟨o, ho, hr⟩
    · unfold rdy at hr
      rw [Bool.not_eq_true, List.all_eq_false] at hr
      obtain ⟨q, hq, hn⟩ := hr
      obtain ⟨h1, h2⟩ := hin o (O.rU o ho) q hq
      rcases O.all q h1 with hf | hf
      · exfalso
        apply hn
        exact List.any_eq_true.mpr ⟨q, hf, by simp⟩
      · exact O.able hin k q (by omega) hf
theorem Ord1.step {ns Fd ps qs : List Str} {o : Str} (O : Ord1 ns Fd (ps ++ o :: qs)) : Ord1 ns (Fd ++ [o]) (ps ++ qs) where
  nd := by
    have h := O.nd
    rw [List.nodup_append] at h ⊢
    refine ⟨h.1, (List.nodup_cons.mp h.2.1).2, fun a ha b hb => h.2.2 a ha b (.tail _ hb)⟩
  rU := fun q hq => O.rU q (by
    rcases List.mem_append.mp hq with h | h
    · exact List.mem_append_left _ h
    · exact List.mem_append_right _ (.tail _ h))
  fU := fun q hq => by
    rcases List.mem_append.mp hq with h | h
    · exact O.fU q h
    · rw [List.mem_singleton.mp h]; exact O.rU o (by simp)
  all := fun q hq => by
    rcases O.all q hq with h | h
    · exact .inl (List.mem_append_left _ h)
    · rcases List.mem_append.mp h with h | h
      · exact .inr (List.mem_append_left _ h)
      · rcases List.mem_cons.mp h with rfl | h
        · exact .inl (by first | exact .head _ | exact mem1 | exact mem2 | exact mem3 | exact mem4 | exact mem5 | simp)
        · exact .inr (List.mem_append_right _ h)
  len := by have := O.len; simp at this ⊢; omega
section
theorem word30 : True := by
  k_with "compareOp Eq ref ref" => refine hold ?_
  k_with "subscriptTail" => (k_here; (with_reducible show wpAny _ _ (subscriptTail _ _ (Value.ref _) (Value.int _ _)) _ _ _); k_dflt (refine' item_list_M ?Fw61 ?Nw61 ?mw61 ?h0w61 ?hzw61 ?hvw61 ?_ (by with_unfolding_all rfl) (by intro _; with_unfolding_all rfl); (case Fw61 => k_asm); (case Nw61 => k_asm); (case mw61 => k_mem); (case h0w61 => decide); (case hzw61 => decide); (case hvw61 => first | assumption | rfl); k_whole))
  trivial
variable {w : World} {p : Program} {loose : List Str} {mean : ExcName → Option Value} {mg mb : Str → Option Value}
    {dp un : Nat} {gd : Option (List Code)} {cn : Str} {cs : Scope} {a : Addr} {ccd : Value} {cl : List (Str × Addr)} {outer : List Env} {A₀ : Around} {base h₀ : Heap} {L : Addr} {m : Str → Option Value} {news : List (Addr × Obj)} {s : Shared} {Q E : Value → Shared → Prop}
    (B : Below A₀ base outer h₀) (F : Fr h₀ L s.heap m) (X : (hd.heap_1 w.params).In h₀) (N : News h₀ L s.heap news) (T : Top p loose mean mg mb h₀) (hk : cs.kind = .function)
    {x dx e st : Addr} {es : List DictEntry} {n : Nat} {oe : Obj} {kvs : List (Str × Value)}
    (hx : (x, instObj 394 dx) ∈ news) (hdx : (dx, dictOf es n) ∈ news) (he : (e, oe) ∈ news) (hoe : oe.IsDictOf (PySem.strKind PG w) kvs) (hes : SgM es e)
include B F X N T hk hx hdx he hoe hes
theorem first_ {vs : List Value} {ns : List Str} {n1 : Nat} (h0 : getL (Str.ofString "stands") es = some (some (.ref st))) (hst : (st, PySem.W.listOf (List.toArray vs) n1) ∈ news) (hvs : Strs vs ns) (hnl : ns.length ≤ 30) (hnd : ns.Nodup) (hd : dp + 24 < recursionLimit) (hu : un + 240 < cLine)
    (par : Str → Str) (sup : Str → List Str) (rk : Str → Nat) (hit : ∀ o ∈ ns, ∃ v, valueAt kvs o = some v ∧ ItemIn news v o (par o) (sup o)) (hz : ∀ o ∈ ns, (sup o).length ≤ 3) (hok : ∀ o ∈ ns, PyData.strOk o = true)
    (hin : ∀ o ∈ ns, ∀ q ∈ dirs par sup o, q ∈ ns ∧ rk q < rk o)
    (ret : ∀ D vs' ns' n' h' tk', Fr h₀ L h' m → News h₀ L h' ((D, PySem.W.listOf (List.toArray vs') n') :: news) → (∀ q ∈ news, q.1 < D) → Strs vs' ns' → ns'.length ≤ 30 → (∀ o ∈ ns', o ∈ ns) → Q (.ref D) { s with heap := h', toks := tk' }) :
    wpAny (model PG w) (ktrTop dp un gd cn cs L a ccd cl outer) (call (.ref 267) [.ref x]) Q E s := by
  have h1 := hes.direct
  have h4 := hes.entries
  have hlv := hvs.len
  refine wpAny_call ?_
  k_dflt ktr_unf
  rename (∀ p ∈ news, p.1 < _) => l1
  have l2 : ∀ p ∈ news, p.1 < _ + 1 + 1 := fun p hp => Nat.lt_succ_of_lt (Nat.lt_succ_of_lt (l1 p hp))
  k_steps
  unfold Hold
  rename Fr _ _ _ _ => Fx
  rename News _ _ _ _ => Nx
  rename (_ < _ ∧ _ < _ ∧ AllLt _ news) => lf
  rename (_ < _ ∧ _ < _ ∧ _ < _ ∧ AllLt _ news) => lr
  obtain ⟨led, cA, cB, fl, hcA, hcB, hfl0, hled⟩ := led5 Nx
  dsimp only at hfl0
  subst hfl0
  have Nx2 := Nx
  rw [← hcA, ← hcB, ← hled] at Nx
  have hled' := hled
  rw [hcA, hcB] at hled'
  have N2 := cb_drop Nx (fun p hp => List.Mem.tail _ hp)
  clear Nx Nx2
  have hsub : ∀ p ∈ news, p ∈ led := fun p hp => by rw [hled]; exact .tail _ (.tail _ hp)
  have hfl : ∀ q ∈ led, q.1 < fl := fun q hq => by
    rw [hled'] at hq
    rcases List.mem_cons.mp hq with rfl | hq
    · exact lf.1
    · rcases List.mem_cons.mp hq with rfl | hq
      · exact lf.2.1
      · exact ktn_ltOf lf.2.2 q hq
  have hrl : ∀ q ∈ led, q.1 < _ := fun q hq => by
    rw [hled'] at hq
    rcases List.mem_cons.mp hq with rfl | hq
    · exact lr.2.1
    · rcases List.mem_cons.mp hq with rfl | hq
      · exact lr.2.2.1
      · exact ktn_ltOf lr.2.2.2 q hq
  have hcA1 : cA ∈ led := by rw [hled]; exact .head _
  have hcB1 : cB ∈ led := by rw [hled]; exact .tail _ (.head _)
  rw [hcA] at hcA1
  rw [hcB] at hcB1
  have hx1 := hsub _ hx
  have hdx1 := hsub _ hdx
  have he1 := hsub _ he
  refine While_inv2 (fun k m₁ nx => ∃ (rl : Nat) (vf vr : List Value) (nf nr : Nat) (Fd Rs : List Str), k = Rs.length ∧ MIs m₁ [(Str.ofString "rest", .ref rl)] ∧ nx = (rl, PySem.W.listOf (List.toArray vr) nr) :: (fl, PySem.W.listOf (List.toArray vf) nf) :: led ∧ (∀ q ∈ led, q.1 < rl) ∧ fl < rl ∧ Strs vf Fd ∧ Strs vr Rs ∧ Ord1 ns Fd Rs) (by k_asm) N2 ⟨_, [], vs, _, _, [], ns, rfl, by tb_start, rfl, hrl, lr.1, .nil, hvs, ⟨hnd, fun _ h => h, (fun _ h => nomatch h), fun _ h => .inr h, by simp⟩⟩ ?_
  clear hrl lf lr N2
  rintro k m₁ nx h₁ tk₁ F₁ N₁ ⟨rl, vf, vr, nf, nr, Fd, Rs, rfl, hm, rfl, hrl, hlt, hvf, hvr, hO⟩
  have hm1 := hm.one
  clear hm
  have hlf := hvf.len
  have hlr := hvr.len
  have hlen := hO.len
  match Rs, hvr, hO with
  | [], hvr, hO =>
    cases hvr
    k_steps
    exact ret fl vf Fd nf _ _ (by k_asm) (by refine' cb_drop ?n ?s; (case n => k_asm); (case s => intro p hp; rcases List.mem_cons.mp hp with rfl | hp; exact .tail _ (.head _); exact .tail _ (.tail _ (hsub p hp)))) (fun q hq => hfl q (hsub q hq)) hvf (by simp at hlen; omega) hO.fU
  | o :: Rs', hvr, hO =>
    have hlr' : vr.length = Rs'.length + 1 := hlr
    k_steps
    unfold Hold
    rename Fr _ _ _ _ => Fx
    refine lc_assign Fx (by decide) (by with_unfolding_all rfl) (by with_unfolding_all rfl) (by decide) (by rfl) (by decide) (by rfl) (by rfl) (by rfl) ?_ (by intro _; rfl)
    k_steps
    rename News _ _ _ _ => Nx
    refine lc_list_fix (J := fun i ys => Strs ys (((o :: Rs').take i).filter (rdy par sup Fd))) (vs := vr) (k := nr) (by with_unfolding_all rfl) Fx Nx (by simp at hlen; omega) (by k_mem) .nil (fun i ys q => by rw [q.len]; exact Nat.le_trans (List.length_filter_le _ _) (by simp; exact Nat.min_le_left _ _)) ?_ ?_
    · intro i v ys own C m₂ h tk E' hi hv hJ hx2 FL FC kC N'
      obtain ⟨o1, t1, rfl, ho1⟩ := hvr.at hv
      have hoR := List.mem_of_getElem? ho1
      have hoN := hO.rU _ hoR
      obtain ⟨v1, hv1, hi1⟩ := hit o1 hoN
      have hz1 := hz o1 hoN
      have hz2 : (sup o1).length ≤ 100 := by omega
      clear Fx Nx
      unfold TestF
      dsimp only
      have hi1 := hi1.mono hsub
      k_steps
      unfold Hold
      refine lc_eval FL (by decide) (by with_unfolding_all rfl) (by decide) (by rfl) (by decide) (by rfl) ?_ (by intro _; rfl)
      k_steps
      rename Strs _ (ite _ _ _) => hs9
      rename (_, tupO _) ∈ _ ++ _ => hd9
      rename News _ _ _ _ => Nx
      rename Fr _ _ _ _ => Fx
      have hs9 : Strs _ (dirs par sup o1) := hs9
      have hl9 := hs9.len
      have hld : (dirs par sup o1).length ≤ 4 := by unfold dirs; split <;> (try simp only [List.length_cons]) <;> omega
      refine lc_tup_led (J := fun i ys => Strs ys (((dirs par sup o1).take i).filter fun q => !Fd.any (· == q))) (by with_unfolding_all rfl) Fx Nx hd9 (by omega) .nil (fun i ys q => by rw [q.len]; exact Nat.le_trans (List.length_filter_le _ _) (by simp; exact Nat.min_le_left _ _)) ?_ ?_
      · intro i2 v2 ys2 own2 C2 m3 h5 tk5 E2 hi2 hv2 hJ2 hx3 FL2 FC2 kC2 N5
        obtain ⟨o2, t2, rfl, ho2⟩ := hs9.at hv2
        clear Fx Nx
        unfold TestF
        dsimp only
        k_steps
        cases hb : Fd.any (· == o2) with
        | true =>
          refine GoF.no (by first | rfl | simpa using hb) (by rw [fltS_false ho2 (by rw [hb]; rfl)]; exact hJ2) (by k_asm) (by k_asm)
        | false =>
          refine GoF.yes (by first | rfl | simpa using hb) ?_
          rename News _ _ _ _ => N7
          rename Fr _ _ _ _ => F7
          have FC3 := kC2 _ _ N7 (by intro p hp; k_mem) F7.keep
          k_steps
          have hJ3 : Strs (ys2 ++ [.str o2 t2]) (((dirs par sup o1).take (i2 + 1)).filter fun q => !Fd.any (· == q)) := by rw [fltS_true ho2 (by rw [hb]; rfl)]; exact hJ2.snoc o2 t2
          exact KEnd.fix hJ3 (by k_asm) (by k_asm)
      · intro ys2 D2 k2 h5 tk5 hJ2 FL2 N5 hD2
        clear Fx Nx
        rw [hl9, List.take_length] at hJ2
        have hem : ys2.isEmpty = rdy par sup Fd o1 := by
          have hl2 := hJ2.len
          unfold rdy
          cases hp : (dirs par sup o1).all fun q => Fd.any (· == q) with
          | true =>
            have : (dirs par sup o1).filter (fun q => !Fd.any (· == q)) = [] := List.filter_eq_nil_iff.mpr fun a ha q => by
              have := List.all_eq_true.mp hp a ha
              rw [this] at q
              cases q
            rw [this] at hl2
            cases ys2 with
            | nil => rfl
            | cons _ _ => cases hl2
          | false =>
            obtain ⟨a, ha, q⟩ := List.all_eq_false.mp hp
            have : a ∈ (dirs par sup o1).filter (fun q => !Fd.any (· == q)) := List.mem_filter.mpr ⟨ha, by rw [Bool.not_eq_true] at q; rw [q]; rfl⟩
            cases ys2 with
            | nil => rw [List.eq_nil_of_length_eq_zero hl2.symm] at this; cases this
            | cons _ _ => rfl
        k_steps
        unfold Hold
        refine eq_l0 (by k_asm) (by k_mem) (by k_mem) (strs_dat hJ2) (fun d hd => ?_) (by ktr_units) ?_
        · obtain ⟨i, hi, rfl⟩ := List.mem_map.mp hd
          have := (hin o1 hoN i (List.mem_filter.mp hi).1).1
          simp [kqdOk, hok i this]
        k_steps
        rw [hem]
        cases hr : rdy par sup Fd o1 with
        | false =>
          exact GoF.no rfl (by rw [fltS_false ho1 hr]; exact hJ) (by k_asm) (by refine' cb_drop ?n ?s; (case n => k_asm); (case s => intro p hp; k_mem))
        | true =>
          refine GoF.yes rfl ?_
          rename News _ _ _ _ => N7
          rename Fr _ _ _ _ => F7
          have FC3 := kC _ _ N7 (by intro p hp; k_mem) F7.keep
          k_steps
          have hJ3 : Strs (ys ++ [.str o1 t1]) (((o :: Rs').take (i + 1)).filter (rdy par sup Fd)) := by rw [fltS_true ho1 hr]; exact hJ.snoc o1 t1
          exact KEnd.fix hJ3 (by k_asm) (by refine' cb_drop ?n ?s; (case n => k_asm); (case s => intro p hp; k_mem))
    · intro ys D' k' h tk hJ FL N' hD'
      clear Fx Nx
      rw [hlr, List.take_length] at hJ
      have hly := hJ.len
      obtain ⟨oa, hoa, hra⟩ := hO.able hin (rk o + 1) o (Nat.lt_succ_self _) (.head _)
      have hma : oa ∈ (o :: Rs').filter (rdy par sup Fd) := List.mem_filter.mpr ⟨hoa, hra⟩
      have hyl : ys.length ≤ 30 := by rw [hly]; exact Nat.le_trans (List.length_filter_le _ _) (by omega)
      cases hfe : (o :: Rs').filter (rdy par sup Fd) with
      | nil => rw [hfe] at hma; cases hma
      | cons o' fs =>
        have ho' : o' ∈ o :: Rs' := by
          have : o' ∈ (o :: Rs').filter (rdy par sup Fd) := by rw [hfe]; exact .head _
          exact (List.mem_filter.mp this).1
        rw [hfe] at hJ
        obtain ⟨p1, t1, q1, ps, qs, hpe, hRe, hni, hp1, hq1⟩ := hvr.cut ho'
        obtain ⟨t', hy0, hyp⟩ : ∃ t', ys[(0 : Int).toNat]? = some (.str o' t') ∧ 0 < ys.length := by
          cases hJ with
          | cons _ t' _ => exact ⟨t', rfl, by simp⟩
        have hy1 : ((ys.length : Int) == 0) = false := beq_eq_false_iff_ne.mpr (by omega)
        clear hJ hly
        have hDr : (D' : Nat) ≠ rl := fun e => hD' _ (.head _) e.symm
        have hDf : (D' : Nat) ≠ fl := fun e => hD' _ (.tail _ (.head _)) e.symm
        k_steps
        unfold Hold
        have hvl : (p1 ++ Value.str o' t1 :: q1).length ≤ 1000 := by rw [← hpe]; omega
        rename News _ _ _ _ => N7
        rename Fr _ _ _ _ => F7
        rw [hpe] at N7
        refine remove_M F7 N7 (UpdF.tail hDr (UpdF.head (List.forall_mem_cons.mpr ⟨Nat.ne_of_lt hlt, ne_all hrl⟩))) hp1 hq1 hni hvl fun h8 n8 F8 N8 => ?_
        clear F7 N7
        k_steps
        rw [hRe] at hO
        have hO2 := hO.step
        refine ⟨_, _, _, _, _, rfl, by k_asm, by refine' cb_drop ?n ?s; (case n => k_asm); (case s => exact fun p hp => List.Mem.tail _ hp), ?_, rl, vf ++ [.str o' t'], p1 ++ q1, _, _, Fd ++ [o'], ps ++ qs, rfl, by tb_start, rfl, hrl, hlt, hvf.snoc o' t', hp1.append hq1, hO2⟩
        have := congrArg List.length hRe
        simp at this ⊢
        omega
end

theorem word31 : True := by
  k_with_none
  k_with "omega" => first | (with_reducible (first | assumption | exact ge0 _ | exact cl_lt (by with_unfolding_all rfl) | exact room_dp (by assumption) (by with_unfolding_all rfl) | exact room_dp0 (by assumption) (by with_unfolding_all rfl) | exact unit_dp (by assumption) (by with_unfolding_all rfl) | exact unit_dp0 (by assumption) (by with_unfolding_all rfl) | exact le_up (by assumption) (by with_unfolding_all rfl) | exact lt_up (by assumption) (by with_unfolding_all rfl) | exact lt_of_le_up (by assumption) (by with_unfolding_all rfl) | exact eq_le_up (by assumption) (by assumption) (by with_unfolding_all rfl) | exact clo_lt (by with_unfolding_all rfl) | exact clo_le (by with_unfolding_all rfl) | exact Nat.ne_of_gt (by assumption) | exact Nat.ne_of_lt (by assumption) | exact ne_s1 _ | exact Ne.symm (ne_s1 _) | exact ne_s2 _ | exact Ne.symm (ne_s2 _) | exact ne_s3 _ | exact Ne.symm (ne_s3 _) | exact int_gt (by decide) | exact int_lt (by assumption) (by decide) | exact int_le (by assumption) (by decide) | exact le_lt_up (by assumption) (by assumption) (by with_unfolding_all rfl) | exact le_le_up (by assumption) (by assumption) (by with_unfolding_all rfl))) | lia | omega (splitDisjunctions := true)
  k_with "k_mem" => first | assumption | exact List.Mem.head _ | (refine' List.Mem.tail _ ?_; k_mem) | (refine List.mem_append_left _ ?_; k_mem) | (refine List.mem_append_right _ ?_; k_mem)
  k_with "k_all" => exact ne_all (by assumption)
  k_with "call builtin:list.append" => (k_here; (with_reducible show wpAny _ _ (call (Value.builtin _) [Value.ref _, _]) _ _ _); k_dflt (refine' append_M ?k1w2 ?k2w2 ?k3w2 ?zw2 ?_; (case k1w2 => k_asm); (case k2w2 => k_asm); (case k3w2 => k_updF); (case zw2 => ((try simp only [List.length_append, List.length_cons, List.length_nil] at *); omega)); k_whole); intro hz9 Fz9 Nz9; (try dsimp only at Nz9); (try k_sweep))
  k_with "subscriptTail" => (k_here; (with_reducible show wpAny _ _ (subscriptTail _ _ (Value.ref _) (Value.str _ _)) _ _ _); k_dflt (refine' kda_item (knd := PySem.strKind _ _) (by k_asm) (by k_mem) (by k_asm) (strKind_is _ _ _ _) (by k_asm) ?_; k_whole))
  k_with "tb_rel" => first | assumption | exact if_pos rfl | (refine Eq.trans (if_neg (by decide)) ?_; tb_rel) | rfl
  k_with "eval Name" => (k_here; k_dflt (refine' nameX_L (by k_asm) (by first | rfl | tb_rel) ?_ (by rfl) (by rfl); k_whole))
  k_with "tb_start" => first | exact MIs.nil | (refine MIs.cons (by first | rfl | tb_rel) ?_; tb_start)
  k_with "exec While" => refine hold ?_
  k_with "exec While Compare cons nil" => refine hold ?_
  k_with "call ref" => (k_here; (with_reducible show wpAny _ _ (call (Value.ref 314) [Value.ref _, Value.str _ _]) _ _ _); k_dflt (refine' parent_ ?Bw9 ?Fw9 ?Xw9 ?Nw9 ?Tw9 ?kKw9 ?hxw9 ?hdxw9 ?hew9 ?hoew9 ?hesw9 ?hdw9 ?huw9 ?hvw9 ?hiw9 ?_; (case Bw9 => k_asm); (case Fw9 => k_asm); (case Xw9 => k_asm); (case Nw9 => k_asm); (case Tw9 => k_asm); (case kKw9 => first | exact rfl | assumption); (case hxw9 => k_mem); (case hdxw9 => k_mem); (case hesw9 => assumption); (case hew9 => k_mem); (case hoew9 => assumption); (case hvw9 => assumption); (case hiw9 => first | assumption | (refine' ItemIn.mono ?s9w9 ?i9w9; (case i9w9 => assumption); (case s9w9 => intro p9z9 hp9z9; k_mem))); (case hdw9 => ktr_room); (case huw9 => ktr_units)); intro t9z9 h9z9 tk9z9 F9z9 N9z9)
  k_with "call ref" => (k_here; (with_reducible show wpAny _ _ (call (Value.ref 342) [Value.ref _, Value.str _ _]) _ _ _); k_dflt (refine' above_ ?Bw10 ?Fw10 ?Xw10 ?Nw10 ?Tw10 ?kKw10 ?hxw10 ?hdxw10 ?hew10 ?hoew10 ?hesw10 ?hdw10 ?huw10 ?hupw10 ?hclw10 ?_; (case Bw10 => k_asm); (case Fw10 => k_asm); (case Xw10 => k_asm); (case Nw10 => k_asm); (case Tw10 => k_asm); (case kKw10 => first | exact rfl | assumption); (case hxw10 => k_mem); (case hdxw10 => k_mem); (case hesw10 => assumption); (case hew10 => k_mem); (case hoew10 => assumption); (case hupw10 => first | assumption | (refine' Up.mono ?s9w10 ?i9w10; (case i9w10 => assumption); (case s9w10 => intro p9z9 hp9z9; k_mem))); (case hdw10 => ktr_room); (case huw10 => ktr_units); (case hclw10 => first | assumption | omega); k_whole); intro fl9z9 n9z9 vs9z9 h9z9 tk9z9 F9z9 N9z9 lt9z9 hs9z9; (have hl9z9 := Strs.len hs9z9))
  k_with "call type:tuple" => (k_here; (with_reducible show wpAny _ _ (call (Value.type _) [Value.ref _]) _ _ _); k_dflt (refine' call_tuple_tup ?tw11 ?_; (case tw11 => exact News.isTup (by k_asm) (by k_mem))))
  k_with "binaryOp Add ref ref" => (k_here; (with_reducible show wpAny _ _ (binaryOp _ (Value.ref _) (Value.ref _)) _ _ _); k_dflt (refine' add_list_M (by k_asm) (by k_asm) (by k_mem) (by k_mem) (by ((try simp only [List.length_append, List.length_cons, List.length_nil] at *); omega)) ?_; k_whole); intro Dz9 hz9 Fz9 Nz9 l1z9)
  k_with "call builtin:len" => (k_here; (with_reducible show wpAny _ _ (call (Value.builtin "len") [Value.ref _]) _ _ _); k_dflt (refine' len_tup ?tw13 ?zw13 ?_; (case tw13 => exact News.isTup (by k_asm) (by k_mem)); (case zw13 => ((try simp only [List.length_append, List.length_cons, List.length_nil] at *); omega)); k_whole))
  k_with "call ref" => (k_here; (with_reducible show wpAny _ _ (call (Value.ref 321) [Value.ref _, Value.str _ _]) _ _ _); k_dflt (refine' supers_ ?Bw14 ?Fw14 ?Xw14 ?Nw14 ?Tw14 ?kKw14 ?hxw14 ?hdxw14 ?hew14 ?hoew14 ?hesw14 ?hdw14 ?huw14 ?hvw14 ?hiw14  ?_; (case Bw14 => k_asm); (case Fw14 => k_asm); (case Xw14 => k_asm); (case Nw14 => k_asm); (case Tw14 => k_asm); (case kKw14 => first | exact rfl | assumption); (case hxw14 => k_mem); (case hdxw14 => k_mem); (case hesw14 => assumption); (case hew14 => k_mem); (case hoew14 => assumption); (case hvw14 => assumption); (case hiw14 => first | assumption | (refine' ItemIn.mono ?s9w14 ?i9w14; (case i9w14 => assumption); (case s9w14 => intro p9z9 hp9z9; k_mem))); (case hdw14 => ktr_room); (case huw14 => ktr_units);  k_whole); intro d9z9 vs9z9 h9z9 tk9z9 F9z9 N9z9 hd9z9 hvs9z9; (have hl9z9 := Strs.len hvs9z9))
  k_with "call ref" => (k_here; (with_reducible show wpAny _ _ (call (Value.ref 328) [Value.ref _, Value.str _ _]) _ _ _); k_dflt (refine' is_subset_ ?Bw15 ?Fw15 ?Xw15 ?Nw15 ?Tw15 ?kKw15 ?hxw15 ?hdxw15 ?hew15 ?hoew15 ?hesw15 ?hdw15 ?huw15 ?hvw15 ?hiw15 ?zw15 ?_; (case Bw15 => k_asm); (case Fw15 => k_asm); (case Xw15 => k_asm); (case Nw15 => k_asm); (case Tw15 => k_asm); (case kKw15 => first | exact rfl | assumption); (case hxw15 => k_mem); (case hdxw15 => k_mem); (case hesw15 => assumption); (case hew15 => k_mem); (case hoew15 => assumption); (case hvw15 => assumption); (case hiw15 => first | assumption | (refine' ItemIn.mono ?s9w15 ?i9w15; (case i9w15 => assumption); (case s9w15 => intro p9z9 hp9z9; k_mem))); (case hdw15 => ktr_room); (case huw15 => ktr_units); (case zw15 => first | assumption | (simp only [List.length_nil]; omega)); k_whole); intro h9z9 tk9z9 F9z9 N9z9)
  k_with "call ref" => (k_here; (with_reducible show wpAny _ _ (call (Value.ref 262) [Value.ref _, Value.str _ _]) _ _ _); k_dflt (refine' direct_ ?Bw16 ?Fw16 ?Xw16 ?Nw16 ?Tw16 ?kKw16 ?hxw16 ?hdxw16 ?hew16 ?hoew16 ?hesw16 ?hdw16 ?huw16 ?hvw16 ?hiw16 ?zw16 ?_; (case Bw16 => k_asm); (case Fw16 => k_asm); (case Xw16 => k_asm); (case Nw16 => k_asm); (case Tw16 => k_asm); (case kKw16 => first | exact rfl | assumption); (case hxw16 => k_mem); (case hdxw16 => k_mem); (case hesw16 => assumption); (case hew16 => k_mem); (case hoew16 => assumption); (case hvw16 => assumption); (case hiw16 => first | assumption | (refine' ItemIn.mono ?s9w16 ?i9w16; (case i9w16 => assumption); (case s9w16 => intro p9z9 hp9z9; k_mem))); (case hdw16 => ktr_room); (case huw16 => ktr_units); (case zw16 => first | assumption | (simp only [List.length_nil]; omega)); k_whole); intro d9z9 tl9z9 vs9z9 h9z9 tk9z9 F9z9 N9z9 lt9z9 hd9z9 hvs9z9; (have hl9z9 := Strs.len hvs9z9))
  k_with "call ref" => (k_here; (with_reducible show wpAny _ _ (call (Value.ref 349) [Value.ref _, Value.str _ _]) _ _ _); k_dflt (refine' top_sub_ ?Bw17 ?Fw17 ?Xw17 ?Nw17 ?Tw17 ?kKw17 ?hxw17 ?hdxw17 ?hew17 ?hoew17 ?hesw17 ?hdw17 ?huw17 ?hvw17 ?hiw17 ?zw17 ?new17 ?_; (case Bw17 => k_asm); (case Fw17 => k_asm); (case Xw17 => k_asm); (case Nw17 => k_asm); (case Tw17 => k_asm); (case kKw17 => first | exact rfl | assumption); (case hxw17 => k_mem); (case hdxw17 => k_mem); (case hesw17 => assumption); (case hew17 => k_mem); (case hoew17 => assumption); (case hvw17 => assumption); (case hiw17 => first | assumption | (refine' ItemIn.mono ?s9w17 ?i9w17; (case i9w17 => assumption); (case s9w17 => intro p9z9 hp9z9; k_mem))); (case hdw17 => ktr_room); (case huw17 => ktr_units); (case zw17 => first | assumption | (simp only [List.length_nil]; omega)); (case new17 => first | assumption | omega); k_whole); intro t9z9 h9z9 tk9z9 F9z9 N9z9)
  k_with "call ref" => (k_here; (with_reducible show wpAny _ _ (call (Value.ref 349) [Value.ref _, Value.str _ _]) _ _ _); k_dflt (refine' top_base_ ?Bw18 ?Fw18 ?Xw18 ?Nw18 ?Tw18 ?kKw18 ?hxw18 ?hdxw18 ?hew18 ?hoew18 ?hesw18 ?hdw18 ?huw18 ?hvw18 ?hiw18 ?hupw18 ?hclw18 ?_; (case Bw18 => k_asm); (case Fw18 => k_asm); (case Xw18 => k_asm); (case Nw18 => k_asm); (case Tw18 => k_asm); (case kKw18 => first | exact rfl | assumption); (case hxw18 => k_mem); (case hdxw18 => k_mem); (case hesw18 => assumption); (case hew18 => k_mem); (case hoew18 => assumption); (case hvw18 => assumption); (case hiw18 => first | assumption | (refine' ItemIn.mono ?s9w18 ?i9w18; (case i9w18 => assumption); (case s9w18 => intro p9z9 hp9z9; k_mem))); (case hdw18 => ktr_room); (case huw18 => ktr_units); (case hupw18 => first | assumption | (refine' Up.mono ?s9w18 ?i9w18; (case i9w18 => assumption); (case s9w18 => intro p9z9 hp9z9; k_mem))); (case hclw18 => first | assumption | omega); k_whole); intro t9z9 h9z9 tk9z9 F9z9 N9z9)
  k_with "compareOp In str ref" => (k_here; (with_reducible show wpAny _ _ (compareOp CmpOp.In (Value.str _ _) (Value.ref _)) _ _ _); k_dflt (refine' in_list_strs (isList_M ?Nw19 ?mw19) ?iw19 ?_; (case Nw19 => k_asm); (case mw19 => k_mem); (case iw19 => exact Strs.are (by assumption)); k_whole))
  k_with "compareOp NotIn str ref" => (k_here; (with_reducible show wpAny _ _ (compareOp CmpOp.NotIn (Value.str _ _) (Value.ref _)) _ _ _); k_dflt (refine' notin_list_strs (isList_M ?Nw20 ?mw20) ?iw20 ?_; (case Nw20 => k_asm); (case mw20 => k_mem); (case iw20 => exact Strs.are (by assumption)); k_whole))
  k_with "eval ListComp" => refine hold ?_
  k_with "exec Assign cons ListComp" => refine hold ?_
  k_with "CompSrc" => refine hold ?_
  k_with "exec For" => refine hold ?_
  k_with "exec For Name Call" => refine hold ?_
  k_with "exec For Name Call cons nil" => refine hold ?_
  k_with "exec For Name Name" => refine hold ?_
  k_with "exec For Name Name cons nil" => refine hold ?_
  k_with "exec For Name Attribute" => refine hold ?_
  k_with "exec For Name Attribute cons nil" => refine hold ?_
  k_with "exec For Tuple Call" => refine hold ?_
  k_with "exec For Tuple Call cons nil" => refine hold ?_
  k_with "exec For Name Subscript" => refine hold ?_
  k_with "exec For Name Subscript cons nil" => refine hold ?_
  k_with "exec For Name BinOp" => refine hold ?_
  k_with "exec For Name BinOp cons nil" => refine hold ?_
  k_with "ktr_unf" => (refine' code_defC ?k1w37 ?k2w37 ?k3w37 ?k4w37 ?k5w37 ?kAw37 ?kFw37 ?kKw37 ?k6w37 ?k7w37 ?k8w37 ?k9w37 ?kBw37 ?kDw37 ?_ ?c2w37 ?c3w37 ?c4w37; (case kAw37 => exact rfl); (case kFw37 => exact rfl); (case kKw37 => assumption); (case k1w37 => k_asm); (case k2w37 => k_asm); (case k3w37 => k_asm); (case k4w37 => k_asm); (case k5w37 => k_asm); (case k6w37 => k_is); (case k7w37 => k_is); (case k8w37 => ktr_room); (case k9w37 => exact BindsTo.of_eq rfl); (case kBw37 => exact rfl); (case kDw37 => decide +kernel); (case c2w37 => exact rfl); (case c3w37 => exact rfl); (case c4w37 => exact rfl); k_whole; intro gz9 Lz9 hz9 tkz9 cellsz9 FGz9 Fz9 Nz9 Yz9 Bz9 Xz9 Tz9 l1z9; k_cells Yz9; (try simp only [List.cons_append, List.nil_append] at Nz9); (try dsimp only); (try k_lift Bz9); (try k_fold))
  k_with "call ref" => (k_here; (with_reducible show wpAny _ _ (call (Value.ref 123) [Value.ref _, Value.str _ _, Value.str _ _]) _ _ _); k_dflt (refine' is_under_ ?Bw38 ?Fw38 ?Xw38 ?Nw38 ?Tw38 ?kKw38 ?hxw38 ?hdxw38 ?hew38 ?hoew38 ?hesw38 ?hcw38 ?hdcw38 ?hecw38 ?hdw38 ?huw38 ?hupw38 ?hclw38 ?_; (case Bw38 => k_asm); (case Fw38 => k_asm); (case Xw38 => k_asm); (case Nw38 => k_asm); (case Tw38 => k_asm); (case kKw38 => first | exact rfl | assumption); (case hcw38 => k_mem); (case hdcw38 => k_mem); (case hecw38 => assumption); (case hxw38 => k_mem); (case hdxw38 => k_mem); (case hesw38 => assumption); (case hew38 => k_mem); (case hoew38 => assumption); (case hdw38 => ktr_room); (case huw38 => ktr_units); (case hupw38 => first | assumption | (refine' Up.mono ?s9w38 ?i9w38; (case i9w38 => assumption); (case s9w38 => intro p9z9 hp9z9; k_mem))); (case hclw38 => first | assumption | omega); k_whole); intro h9z9 tk9z9 F9z9 N9z9)
  k_with "call ref" => (k_here; (with_reducible show wpAny _ _ (call (Value.ref 130) [Value.ref _, Value.str _ _, Value.str _ _]) _ _ _); k_dflt (refine' narrower_ ?Bw39 ?Fw39 ?Xw39 ?Nw39 ?Tw39 ?kKw39 ?hxw39 ?hdxw39 ?hew39 ?hoew39 ?hesw39 ?hcw39 ?hdcw39 ?hecw39 ?hdw39 ?huw39 ?hupw39 ?hclw39 ?hup'w39 ?hcl'w39 ?_; (case Bw39 => k_asm); (case Fw39 => k_asm); (case Xw39 => k_asm); (case Nw39 => k_asm); (case Tw39 => k_asm); (case kKw39 => first | exact rfl | assumption); (case hcw39 => k_mem); (case hdcw39 => k_mem); (case hecw39 => assumption); (case hxw39 => k_mem); (case hdxw39 => k_mem); (case hesw39 => assumption); (case hew39 => k_mem); (case hoew39 => assumption); (case hdw39 => ktr_room); (case huw39 => ktr_units); (case hupw39 => first | assumption | (refine' Up.mono ?s9w39 ?i9w39; (case i9w39 => assumption); (case s9w39 => intro p9z9 hp9z9; k_mem))); (case hclw39 => first | assumption | omega); (case hup'w39 => first | assumption | (refine' Up.mono ?s9w39 ?i9w39; (case i9w39 => assumption); (case s9w39 => intro p9z9 hp9z9; k_mem))); (case hcl'w39 => first | assumption | omega); k_whole); intro t9z9 h9z9 tk9z9 F9z9 N9z9)
  k_with "eval Name" => (k_here; (with_reducible show wpAny _ _ (eval (Expr.Name _ _) (compEnvC _ _ _ _)) _ _ _); k_dflt (refine' lcx_local (by k_asm) (by first | rfl | tb_rel) ?_ (by rfl) (by rfl) (by decide); k_whole))
  k_with "call type:zip" => refine hold ?_
  k_with "call ref" => (k_here; (with_reducible show wpAny _ _ (call (Value.ref 135) [Value.ref _, Value.ref _, Value.ref _]) _ _ _); k_dflt (refine' common_ ?Bw42 ?Fw42 ?Xw42 ?Nw42 ?Tw42 ?kKw42 ?hxw42 ?hdxw42 ?hew42 ?hoew42 ?hesw42 ?hcw42 ?hdcw42 ?hecw42 ?hdw42 ?huw42 ?hupw42 ?hclw42 ?hup'w42 ?hcl'w42 ?ho1w42 ?ho2w42 ?_ ?_; (case Bw42 => k_asm); (case Fw42 => k_asm); (case Xw42 => k_asm); (case Nw42 => k_asm); (case Tw42 => k_asm); (case kKw42 => first | exact rfl | assumption); (case hcw42 => k_mem); (case hdcw42 => k_mem); (case hecw42 => assumption); (case hxw42 => k_mem); (case hdxw42 => k_mem); (case hesw42 => assumption); (case hew42 => k_mem); (case hoew42 => assumption); (case hdw42 => ktr_room); (case huw42 => ktr_units); (case ho1w42 => k_mem); (case ho2w42 => k_mem); (case hupw42 => first | assumption | (refine' Up.mono ?s9w42 ?i9w42; (case i9w42 => assumption); (case s9w42 => intro p9z9 hp9z9; k_mem))); (case hclw42 => first | assumption | omega); (case hup'w42 => first | assumption | (refine' Up.mono ?s9w42 ?i9w42; (case i9w42 => assumption); (case s9w42 => intro p9z9 hp9z9; k_mem))); (case hcl'w42 => first | assumption | omega); k_whole; first | (intro h9z9 tk9z9 hz9z9 F9z9 N9z9; (try dsimp only at F9z9 N9z9)) | (intro D9z9 t9z9 h9z9 tk9z9 hz9z9 F9z9 N9z9 lt9z9; (try dsimp only at F9z9 N9z9))))
  k_with "compareOp Eq ref ref" => (k_here; (with_reducible show wpAny _ _ (compareOp CmpOp.Eq (Value.ref _) (Value.ref _)) _ _ _); k_dflt (refine' eq_t1 ?Nw43 ?haw43 ?hbw43 ?kaw43 ?kbw43 ?huw43 ?_; (case Nw43 => k_asm); (case haw43 => k_mem); (case hbw43 => k_mem); (case kaw43 => assumption); (case kbw43 => assumption); (case huw43 => ktr_units); k_whole))
  k_with "compareOp NotEq ref ref" => (k_here; (with_reducible show wpAny _ _ (compareOp CmpOp.NotEq (Value.ref _) (Value.ref _)) _ _ _); k_dflt (refine' ne_t1 ?Nw44 ?haw44 ?hbw44 ?kaw44 ?kbw44 ?huw44 ?_; (case Nw44 => k_asm); (case haw44 => k_mem); (case hbw44 => k_mem); (case kaw44 => assumption); (case kbw44 => assumption); (case huw44 => ktr_units); k_whole))
  k_with "compareOp Eq none ref" => (k_here; (with_reducible show wpAny _ _ (compareOp CmpOp.Eq Value.none (Value.ref _)) _ _ _); k_dflt (refine' eq_nt ?Nw45 ?hbw45 ?kbw45 ?huw45 ?_; (case Nw45 => k_asm); (case hbw45 => k_mem); (case kbw45 => assumption); (case huw45 => ktr_units); k_whole))
  k_with "call type:tuple" => (k_here; (with_reducible show wpAny _ _ (call (Value.type _) [Value.ref _]) _ _ _); k_dflt (refine' tuple_list_M ?Fw46 ?Nw46 ?mw46 ?zw46 ?_; (case Fw46 => k_asm); (case Nw46 => k_asm); (case mw46 => k_mem); (case zw46 => first | assumption | omega | ((try simp only [List.length_append, List.length_cons, List.length_nil] at *); omega)); k_whole); intro D9z9 h9z9 F9z9 N9z9 lt9z9; (try dsimp only at F9z9 N9z9))
  k_with "call builtin:len" => (k_here; (with_reducible show wpAny _ _ (call (Value.builtin "len") [Value.ref _]) _ _ _); k_dflt (refine' len_list_M (by k_asm) (by k_mem) (by first | assumption | omega | ((try simp only [List.length_append, List.length_cons, List.length_nil] at *); omega)) ?_; k_whole))
  k_with "call ref" => (k_here; (with_reducible show wpAny _ _ (call (Value.ref 142) [Value.ref _, Value.int _ _]) _ _ _); k_dflt (refine' want_few_ ?Bw48 ?Fw48 ?Xw48 ?Nw48 ?Tw48 ?kKw48 ?hdw48 ?huw48 ?hzw48 ?_; (case Bw48 => k_asm); (case Fw48 => k_asm); (case Xw48 => k_asm); (case Nw48 => k_asm); (case Tw48 => k_asm); (case kKw48 => first | exact rfl | assumption); (case hdw48 => ktr_room); (case huw48 => ktr_units); (case hzw48 => first | assumption | omega); k_whole); intro h9z9 tk9z9 F9z9 N9z9)
  k_with "call type:set" => refine hold ?_
  k_with "call builtin:sorted" => refine hold ?_
  k_with "call ref" => (k_here; (with_reducible show wpAny _ _ (call (Value.ref 154) [Value.ref _, Value.ref _]) _ _ _); refine hold ?_)
  k_with "setItem ref str" => refine hold ?_
  k_with "call builtin:list.pop" => (k_here; (with_reducible show wpAny _ _ (call (Value.builtin _) [Value.ref _]) _ _ _); k_dflt (refine' pop_M ?k1w53 ?k2w53 ?k3w53 ?zw53 ?_; (case k1w53 => k_asm); (case k2w53 => k_asm); (case k3w53 => k_updF); (case zw53 => first | assumption | omega); k_whole); intro hz9 Fz9 Nz9; (try dsimp only at Nz9); (try k_sweep))
  k_with "call builtin:list.extend" => (k_here; (with_reducible show wpAny _ _ (call (Value.builtin _) [Value.ref _, Value.ref _]) _ _ _); k_dflt (refine' extend_M ?k1w54 ?k2w54 ?k3w54 ?kbw54 ?zw54 ?_; (case k1w54 => k_asm); (case k2w54 => k_asm); (case k3w54 => k_updF); (case kbw54 => k_mem); (case zw54 => first | assumption | omega); k_whole); intro hz9 nz9 Fz9 Nz9; (try dsimp only at Nz9); (try k_sweep))
  k_with "compareOp NotIn str ref" => (k_here; (with_reducible show wpAny _ _ (compareOp CmpOp.NotIn (Value.str _ _) (Value.ref _)) _ _ _); k_dflt (first | (refine' kdg_notin (knd := PySem.strKind _ _) ?Nw55 ?mw55 ?dw55 ?low55 (strKind_is _ _ _ _) true ?hbw55 ?_; (case Nw55 => k_asm); (case mw55 => k_mem); (case dw55 => assumption); (case low55 => assumption); (case hbw55 => (rename (valueAt _ _ = _) => hvk9; simp [hvk9])); k_whole) | (refine' kdg_notin (knd := PySem.strKind _ _) ?Nw55 ?mw55 ?dw55 ?low55 (strKind_is _ _ _ _) false ?hbw55 ?_; (case Nw55 => k_asm); (case mw55 => k_mem); (case dw55 => assumption); (case low55 => assumption); (case hbw55 => (rename (valueAt _ _ = _) => hvk9; simp [hvk9])); k_whole)))
  k_with "k_all" => first | assumption | exact ne_all (by assumption)
  k_with "compareOp In str ref" => (k_here; (with_reducible show wpAny _ _ (compareOp CmpOp.In (Value.str _ _) (Value.ref _)) _ _ _); k_dflt (first | (refine' kda_in (knd := PySem.strKind _ _) ?Nw57 ?mw57 ?dw57 ?low57 (strKind_is _ _ _ _) true ?hbw57 ?_; (case Nw57 => k_asm); (case mw57 => k_mem); (case dw57 => assumption); (case low57 => assumption); (case hbw57 => (rename (valueAt _ _ = _) => hvk9; simp [hvk9])); k_whole) | (refine' kda_in (knd := PySem.strKind _ _) ?Nw57 ?mw57 ?dw57 ?low57 (strKind_is _ _ _ _) false ?hbw57 ?_; (case Nw57 => k_asm); (case mw57 => k_mem); (case dw57 => assumption); (case low57 => assumption); (case hbw57 => (rename (valueAt _ _ = _) => hvk9; simp [hvk9])); k_whole)))
  k_with "call type:list" => (k_here; (with_reducible show wpAny _ _ (call (Value.type _) [Value.ref _]) _ _ _); k_dflt (refine' list_list_M ?Fw58 ?Nw58 ?mw58 ?zw58 ?_; (case Fw58 => k_asm); (case Nw58 => k_asm); (case mw58 => k_mem); (case zw58 => first | assumption | omega); k_whole); intro D9z9 c9z9 h9z9 F9z9 N9z9 lt9z9; (try dsimp only at F9z9 N9z9); (try k_lt lt9z9))
  k_with "call builtin:list.remove" => refine hold ?_
  trivial
section
variable {w : World} {p : Program} {loose : List Str} {mean : ExcName → Option Value} {mg mb : Str → Option Value}
    {dp un : Nat} {gd : Option (List Code)} {cn : Str} {cs : Scope} {a : Addr} {ccd : Value} {cl : List (Str × Addr)} {outer : List Env} {A₀ : Around} {base h₀ : Heap} {L : Addr} {m : Str → Option Value} {news : List (Addr × Obj)} {s : Shared} {Q E : Value → Shared → Prop}
    (B : Below A₀ base outer h₀) (F : Fr h₀ L s.heap m) (X : (hd.heap_1 w.params).In h₀) (N : News h₀ L s.heap news) (T : Top p loose mean mg mb h₀) (hk : cs.kind = .function)
    {x dx e ol fl : Addr} {es : List DictEntry} {n : Nat} {oe : Obj} {kvs : List (Str × Value)}
    (hx : (x, instObj 394 dx) ∈ news) (hdx : (dx, dictOf es n) ∈ news)
include B F X N T hk hx hdx
theorem fields_ {vs : List Value} {ns : List Str} {n1 : Nat} (he : (e, oe) ∈ news) (hoe : oe.IsDictOf (PySem.strKind PG w) kvs) (h1 : getL (Str.ofString "entries") es = some (some (.ref e))) (h0 : getL (Str.ofString "ordered") es = some (some (.ref ol))) (hol : (ol, PySem.W.listOf (List.toArray vs) n1) ∈ news) (hvs : Strs vs ns) (hnl : ns.length ≤ 30) (hd : dp + 24 < recursionLimit) (hu : un + 240 < cLine)
    (par : Str → Str) (sup : Str → List Str) (hit : ∀ o ∈ ns, ∃ v, valueAt kvs o = some v ∧ ItemIn news v o (par o) (sup o))
    (ret : ∀ D h' tk', Fr h₀ L h' m → News h₀ L h' ((D, PySem.W.listOf (List.toArray []) 0) :: news) → (∀ q ∈ news, q.1 < D) → Q (.ref D) { s with heap := h', toks := tk' }) :
    wpAny (model PG w) (ktrTop dp un gd cn cs L a ccd cl outer) (call (.ref 274) [.ref x]) Q E s := by
  refine wpAny_call ?_
  k_dflt cell_enter
  k_steps
  unfold Hold
  rename Fr _ _ _ _ => Fx
  refine lf_ForM true Fx ?_ (by intro _; rfl)
  k_steps
  rename Fr _ _ _ _ => Fx
  rename News _ _ _ _ => Nx
  refine lf_list_fix (vs := vs) (k := n1) (fun i m₁ => ∃ t, MIs m₁ [(Str.ofString "self", .ref x), (Str.ofString "found", .ref _), (Str.ofString "group", .int 0 t)]) (by with_unfolding_all rfl) Fx Nx (by k_mem) (by rfl) (by rfl) ⟨_, by tb_start⟩ ?_ ?_
  · rintro i v m₁ own h tk E' hv ⟨t, hm⟩ F' N'
    obtain ⟨o1, t1, rfl, ho1⟩ := hvs.at hv
    obtain ⟨v1, hv1, hi1⟩ := hit o1 (List.mem_of_getElem? ho1)
    obtain ⟨it, su, nm, f1, f2, v3, v0, t3, t2, t4, vsu, t5, rfl, hit2, hnm, hsu, hvs2, hf1, hf2⟩ := hi1.ex
    have hm1 := hm.one
    have hm2 := hm.rest.one
    have hm3 := hm.rest.rest.one
    clear hm Fx Nx
    k_steps
    unfold Hold
    rename Fr _ _ _ _ => Fx
    refine lf_ForM true Fx ?_ (by intro _; rfl)
    k_steps
    rename Fr _ _ _ _ => Fx
    rename News _ _ _ _ => Nx
    refine lf_none_tuple (by with_unfolding_all rfl) Fx Nx (by k_mem) fun h5 tk5 F5 N5 => ?_
    clear Fx Nx
    k_steps
    exact LfFix.intro (by k_asm) (by k_asm) ⟨_, by tb_start⟩
  · rintro m₁ h tk ⟨t, hm⟩ F' N'
    clear Fx Nx
    have hm1 := hm.one
    have hm2 := hm.rest.one
    clear hm
    k_steps
    rename (∀ q : Addr × Obj, q ∈ news → q.1 < _) => l1
    exact ret _ _ _ (by k_asm) (by refine' cb_drop ?n ?s; (case n => k_asm); (case s => intro p hp; k_mem)) l1
theorem lookf_ {n1 : Nat} (h0 : getL (Str.ofString "own_fields") es = some (some (.ref fl))) (hfl : (fl, PySem.W.listOf (List.toArray []) n1) ∈ news) (hd : dp + 24 < recursionLimit) (hu : un + 240 < cLine)
    (ret : ∀ h' tk', Fr h₀ L h' m → News h₀ L h' news → Q .none { s with heap := h', toks := tk' }) :
    wpAny (model PG w) (ktrTop dp un gd cn cs L a ccd cl outer) (call (.ref 281) [.ref x]) Q E s := by
  refine wpAny_call ?_
  k_dflt cell_enter
  k_steps
  unfold Hold
  rename Fr _ _ _ _ => Fx
  refine lf_ForM true Fx ?_ (by intro _; rfl)
  k_steps
  rename Fr _ _ _ _ => Fx
  rename News _ _ _ _ => Nx
  refine lf_none_list (by with_unfolding_all rfl) Fx Nx (by k_mem) fun h5 tk5 F5 N5 => ?_
  clear Fx Nx
  k_steps
  exact ret _ _ (by k_asm) (by refine' cb_drop ?n ?s; (case n => k_asm); (case s => intro p hp; k_mem))
end

/-- an item of the law -/
structure SigIn (news : List (Addr × Obj)) (v : Value) (name parent : Str) (sup : List Str) : Prop where
  ex : ∃ it su nm f1 f2 v1 t1 t2 t4 vs t5, v = .ref it ∧ (it, tupO [.str (Str.ofString "sig") t1, v1, .ref nm, .bool false, .str (Str.ofString "") t4, .str parent t5, .ref su, .ref f1, .ref f2]) ∈ news ∧
    (nm, tupO [.str name t2]) ∈ news ∧ (su, tupO vs) ∈ news ∧ Strs vs sup ∧ (f1, tupO []) ∈ news ∧ (f2, tupO []) ∈ news
theorem SigIn.item {news : List (Addr × Obj)} {v : Value} {name parent : Str} {sup : List Str} (h : SigIn news v name parent sup) : ItemIn news v name parent sup := by
  obtain ⟨it, su, nm, f1, f2, v1, t1, t2, t4, vs, t5, a⟩ := h.ex
  exact ⟨it, su, nm, f1, f2, v1, _, t1, t2, t4, vs, t5, a⟩
/-- the items of the law, in the order of a list -/
inductive Its (news : List (Addr × Obj)) (par : Str → Str) (sup : Str → List Str) : List Value → List Str → Prop
  | nil : Its news par sup [] []
  | cons {v : Value} {o : Str} {vs : List Value} {ns : List Str} : SigIn news v o (par o) (sup o) → Its news par sup vs ns → Its news par sup (v :: vs) (o :: ns)
theorem Its.len {news : List (Addr × Obj)} {par : Str → Str} {sup : Str → List Str} {vs : List Value} {ns : List Str} (h : Its news par sup vs ns) : vs.length = ns.length := by
  induction h with
  | nil => rfl
  | cons _ _ ih => simp [ih]
theorem Its.at {news : List (Addr × Obj)} {par : Str → Str} {sup : Str → List Str} {vs : List Value} {ns : List Str} (h : Its news par sup vs ns) : ∀ {i : Nat} {v : Value}, vs[i]? = some v → ∃ o, ns[i]? = some o ∧ SigIn news v o (par o) (sup o) := by
  induction h with
  | nil => intro i v h; simp at h
  | cons hi _ ih =>
    intro i v h
    cases i with
    | zero => simp only [List.getElem?_cons_zero, Option.some.injEq] at h; exact ⟨_, rfl, h ▸ hi⟩
    | succ i => simp only [List.getElem?_cons_succ] at h ⊢; exact ih h
theorem Its.value {news : List (Addr × Obj)} {par : Str → Str} {sup : Str → List Str} {vs : List Value} {ns : List Str} (h : Its news par sup vs ns) : ∀ o ∈ ns, ∃ v, valueAt (ns.zip vs) o = some v ∧ SigIn news v o (par o) (sup o) := by
  induction h with
  | nil => intro o ho; cases ho
  | @cons v o' vs ns hi _ ih =>
    intro o ho
    unfold valueAt at ih ⊢
    rw [List.zip_cons_cons, List.find?_cons]
    by_cases e : o' = o
    · subst e; exact ⟨v, by simp, hi⟩
    · rw [show (decide ((o', v).1 = o)) = false from decide_eq_false e]
      exact ih o ((List.mem_cons.mp ho).resolve_left (Ne.symm e))
theorem zip_keys {ns : List Str} {vs : List Value} (h : vs.length = ns.length) : (ns.zip vs).map (·.1) = ns := by
  rw [List.map_fst_zip]; omega
theorem value_none {kvs : List (Str × Value)} {o : Str} (h : o ∉ kvs.map (·.1)) : valueAt kvs o = none := by
  unfold valueAt
  rw [List.find?_eq_none.mpr]
  · rfl
  · intro kv hkv e
    simp only [decide_eq_true_eq] at e
    exact h (e ▸ List.mem_map_of_mem hkv)
theorem zip_take_snoc {ns : List Str} {vs : List Value} {i : Nat} {o : Str} {v : Value} (h1 : ns[i]? = some o) (h2 : vs[i]? = some v) : (ns.zip vs).take (i + 1) = (ns.zip vs).take i ++ [(o, v)] := by
  have : (ns.zip vs)[i]? = some (o, v) := by rw [List.getElem?_zip_eq_some]; exact ⟨h1, h2⟩
  rw [List.take_add_one, this]; rfl
theorem not_in_take {ns : List Str} (hn : ns.Nodup) {i : Nat} {o : Str} (h : ns[i]? = some o) : o ∉ ns.take i := fun hm => by
  have e := List.take_append_drop i ns
  rw [← e] at hn
  have h2 : o ∈ ns.drop i := List.mem_of_getElem? (i := 0) (by rw [List.getElem?_drop]; exact h)
  exact (List.nodup_append.mp hn).2.2 o hm o h2 rfl
theorem word32 : True := by
  k_with "ktr_units" => (have hcL9z9 := cLine_is; (try simp only [units_under_make, units_in1, units_deeper, Around.mark_units, units_caller] at *); (try dsimp only [ktrTop] at *); omega)
  trivial
local macro_rules | `(tactic| ktr_units) => `(tactic| k_extra "ktr_units")
theorem init_led {h₀ h : Heap} {L op st e dx : Addr} {o1 o2 oe ox : Obj} {es : List DictEntry} {n x : Nat} {news : List (Addr × Obj)} (N : News h₀ L h ((op, o1) :: (st, o2) :: (e, oe) :: (x, ox) :: (dx, dictOf es n) :: news)) :
    ∃ op' st' e' es' n' led, op' = op ∧ st' = st ∧ e' = e ∧ es' = es ∧ n' = n ∧ led = (op', o1) :: (x, ox) :: (dx, dictOf es' n') :: news ∧ News h₀ L h ((e', oe) :: (st', o2) :: led) :=
  ⟨_, _, _, _, _, _, rfl, rfl, rfl, rfl, rfl, rfl, cb_drop N (sub_cons mem2 (sub_cons mem1 (sub_cons (.head _) fun _ hp => .tail _ (.tail _ (.tail _ hp)))))⟩
section
theorem word33 : True := by
  k_with "call ref" => (k_here; (with_reducible show wpAny _ _ (call (Value.ref 248) [Value.ref _, Value.ref _]) _ _ _); refine hold ?_)
  k_with "call ref" => (k_here; (with_reducible show wpAny _ _ (call (Value.ref 255) [Value.ref _, Value.str _ _]) _ _ _); refine hold ?_)
  k_with "call ref" => (k_here; (with_reducible show wpAny _ _ (call (Value.ref 267) _) _ _ _); refine hold ?_)
  k_with "call ref" => (k_here; (with_reducible show wpAny _ _ (call (Value.ref 274) _) _ _ _); refine hold ?_)
  k_with "call ref" => (k_here; (with_reducible show wpAny _ _ (call (Value.ref 281) _) _ _ _); refine hold ?_)
  trivial
variable {w : World} {p : Program} {loose : List Str} {mean : ExcName → Option Value} {mg mb : Str → Option Value}
    {dp un : Nat} {gd : Option (List Code)} {cn : Str} {cs : Scope} {a : Addr} {ccd : Value} {cl : List (Str × Addr)} {outer : List Env} {A₀ : Around} {base h₀ : Heap} {L : Addr} {m : Str → Option Value} {news : List (Addr × Obj)} {s : Shared} {Q E : Value → Shared → Prop}
    (B : Below A₀ base outer h₀) (F : Fr h₀ L s.heap m) (X : (hd.heap_1 w.params).In h₀) (N : News h₀ L s.heap news) (T : Top p loose mean mg mb h₀) (hk : cs.kind = .function)
include B F X N T hk
theorem sigs_ {il : Addr} {vs : List Value} {ns : List Str} {n1 : Nat} (hil : (il, PySem.W.listOf (List.toArray vs) n1) ∈ news) (par : Str → Str) (sup : Str → List Str) (rk : Str → Nat) (hI : Its news par sup vs ns) (hnl : ns.length ≤ 30) (hnd : ns.Nodup) (hd : dp + 40 < recursionLimit) (hu : un + 400 < cLine)
    (hz : ∀ o ∈ ns, (sup o).length ≤ 3) (hok : ∀ o ∈ ns, PyData.strOk o = true) (hin : ∀ o ∈ ns, ∀ q ∈ dirs par sup o, q ∈ ns ∧ rk q < rk o) (hpar : ∀ o ∈ ns, par o ≠ Str.ofString "" → sup (par o) = [])
    (ret : ∀ x dx es n e oe tl h' tk', Fr h₀ L h' m → News h₀ L h' (tl ++ news) → (∀ q ∈ news, ∀ p ∈ tl, q.1 < p.1) → (x, instObj 394 dx) ∈ tl → (dx, dictOf es n) ∈ tl → (e, oe) ∈ tl → oe.IsDictOf (PySem.strKind PG w) (ns.zip vs) → SgM es e → Q (.ref x) { s with heap := h', toks := tk' }) :
    wpAny (model PG w) (ktrTop dp un gd cn cs L a ccd cl outer) (call (.ref 394) [.ref il]) Q E s := by
  refine' call_cls ?k1 ?k2 ?k3 ?k4 ?k5 ?k6 ?_
  case k1 => k_asm
  case k2 => k_asm
  case k3 => k_asm
  case k4 => k_is
  case k5 => k_is
  case k6 => k_is
  intro x dx h1 F1 N1 l1 l2
  have l3 := ltN l2
  have l4 : ∀ p ∈ news, p.1 ≠ dx := ne_all l1
  have l5 : ∀ p ∈ news, p.1 < x := fun p hp => Nat.lt_trans (l1 p hp) l2
  k_dflt cell_enter
  k_steps
  unfold Hold
  rename Fr _ _ _ _ => Fx
  refine lf_ForM true Fx ?_ (by intro _; rfl)
  k_steps
  rename Fr _ _ _ _ => Fx
  rename News _ _ _ _ => Nx
  obtain ⟨op, st, e, es, n, led, e1, e2, e3, hes, e5, hled, N2⟩ := init_led Nx
  subst e1 e2 e3
  clear Nx
  rename (_ < _ ∧ _ < _ ∧ AllLt _ news) => oe3
  rename (_ < _ ∧ _ < _ ∧ _ < _ ∧ AllLt _ news) => ost
  rename (_ < _ ∧ _ < _ ∧ _ < _ ∧ _ < _ ∧ AllLt _ news) => oop
  have ne1 : ∀ p ∈ led, p.1 ≠ e := fun p hp => by
    rw [hled] at hp
    rcases List.mem_cons.mp hp with rfl | hp
    · exact Nat.ne_of_gt oop.2.1
    · rcases List.mem_cons.mp hp with rfl | hp
      · exact Nat.ne_of_lt oe3.1
      · rcases List.mem_cons.mp hp with rfl | hp
        · exact Nat.ne_of_lt oe3.2.1
        · exact Nat.ne_of_lt (ktn_ltOf oe3.2.2 p hp)
  have ne2 : ∀ p ∈ led, p.1 ≠ st := fun p hp => by
    rw [hled] at hp
    rcases List.mem_cons.mp hp with rfl | hp
    · exact Nat.ne_of_gt oop.1
    · rcases List.mem_cons.mp hp with rfl | hp
      · exact Nat.ne_of_lt ost.2.1
      · rcases List.mem_cons.mp hp with rfl | hp
        · exact Nat.ne_of_lt ost.2.2.1
        · exact Nat.ne_of_lt (ktn_ltOf ost.2.2.2 p hp)
  have ne3 : e ≠ st := Nat.ne_of_lt ost.1
  have lo : (e == sysModules) = false := by assumption
  rename Obj.IsDictOf (PySem.strKind PG w) _ [] => hde
  have hsub : ∀ p ∈ news, p ∈ led := fun p hp => by rw [hled]; exact .tail _ (.tail _ (.tail _ hp))
  have hx1 : (x, instObj 394 dx) ∈ led := by rw [hled]; exact .tail _ (.head _)
  have hdx1 : (dx, dictOf es n) ∈ led := by rw [hled]; exact .tail _ (.tail _ (.head _))
  have hil1 := hsub _ hil
  have g1 : getL (Str.ofString "entries") es = some (some (.ref e)) := by rw [hes]; k_get
  have g2 : getL (Str.ofString "stands") es = some (some (.ref st)) := by rw [hes]; k_get
  have gt : getL (Str.ofString "take_sig") es = some none := by rw [hes]; k_get
  have hlI := hI.len
  refine lf_list (vs := vs) (k := n1) (fun i m₁ nx => ∃ oe' n' vs', MIs m₁ [(Str.ofString "self", .ref x), (Str.ofString "items", .ref il)] ∧ nx = (e, oe') :: (st, PySem.W.listOf (List.toArray vs') n') :: led ∧ oe'.IsDictOf (PySem.strKind PG w) ((ns.zip vs).take i) ∧ Strs vs' (ns.take i)) (by with_unfolding_all rfl) Fx N2 (by rfl) (by rfl) ⟨_, 0, [], by tb_start, rfl, hde, .nil⟩ ?_ ?_ ?_
  · rintro i m₁ nx ⟨oe', n', vs', _, rfl, _⟩
    exact .tail _ (.tail _ hil1)
  · rintro i f m₁ nx own h tk dr E' hi ⟨v, hv, rfl⟩ ⟨oe', n', vs', hm, rfl, hoe', hvs'⟩ off hdr F' N'
    have hdr' := hdr rfl
    subst hdr'
    obtain ⟨o, ho, hsi⟩ := hI.at hv
    have hii := hsi.item
    obtain ⟨it, su, nm, f1, f2, v1, t1, t2, t4, vsu, t5, rfl, hit, _⟩ := hsi.ex
    have hm1 := hm.one
    have hm2 := hm.rest.one
    clear hm Fx N2
    simp only [List.cons_append] at N'
    have hit1 := hsub _ hit
    k_steps
    unfold Hold
    rename News _ _ _ _ => N7
    k_dflt (refine' take_ (name := o) (par := par o) (sup := sup o) (vs := vs') ?B ?F ?X ?T ?hk (List.mem_append_left _ hx1) (List.mem_append_left _ hdx1) hoe' g1 g2 N7 ne3 (ne_app ne1 (off_of off (.head _))) (ne_app ne2 (off_of off (.tail _ (.head _)))) lo ?hd ?hu ?hv (hii.mono fun p hp => List.mem_append_left _ (hsub p hp)) ?hz ?hz2 ?hz3 ?_)
    case B => k_asm
    case F => k_asm
    case X => k_asm
    case T => k_asm
    case hk => exact rfl
    case hd => ktr_room
    case hu => ktr_units
    case hv =>
      refine value_none ?_
      rw [List.map_take, zip_keys hlI]
      exact not_in_take hnd ho
    case hz => exact Nat.le_trans (hz o (List.mem_of_getElem? ho)) (by decide)
    case hz2 => rw [List.length_take, List.length_zip]; omega
    case hz3 => rw [hvs'.len, List.length_take]; omega
    intro oe2 n2 t2 h2 tk2 F2 N2 hoe2
    clear N7 F' 
    k_steps
    rename News _ _ _ _ => N9
    rename Fr _ _ _ _ => F9
    exact LfEnd.intro F9 N9 ⟨oe2, n2, vs' ++ [Value.str o t2], by tb_start, rfl, by rw [zip_take_snoc ho hv]; exact hoe2, by rw [take_snoc ho]; exact hvs'.snoc o t2⟩ off (fun p hp => List.mem_append_left own hp) (fun p hp => .tail _ (.tail _ (List.mem_append_right _ hp)))
  · rintro m₁ nx h tk dr ⟨oe', n', vs', hm, rfl, hoe', hvs'⟩ hdr F' N'
    have hdr' := hdr rfl
    subst hdr'
    have hm1 := hm.one
    have hm2 := hm.rest.one
    clear hm Fx N2
    rw [hlI, List.take_length] at hvs'
    rw [List.take_of_length_le (by rw [List.length_zip]; omega)] at hoe'
    have hhs : SgM es e := ⟨g1, by rw [hes]; k_get, by rw [hes]; k_get, by rw [hes]; k_get, by rw [hes]; k_get, by rw [hes]; k_get, by rw [hes]; k_get, by rw [hes]; k_get⟩
    have gl : getL (Str.ofString "look_above") es = some none := by rw [hes]; k_get
    have hval : ∀ o ∈ ns, ∃ v, valueAt (ns.zip vs) o = some v ∧ SigIn news v o (par o) (sup o) := hI.value
    k_steps
    unfold Hold
    rename Fr _ _ _ _ => Fx
    refine lf_ForM true Fx ?_ (by intro _; rfl)
    k_steps
    rename Fr _ _ _ _ => Fx
    rename News _ _ _ _ => Nx
    refine lf_list_fix (vs := vs') (k := n') (fun i m₁ => MIs m₁ [(Str.ofString "self", .ref x), (Str.ofString "items", .ref il)]) (by with_unfolding_all rfl) Fx Nx (by k_mem) (by rfl) (by rfl) (by tb_start) ?_ ?_
    · rintro i v m₁ own h tk E' hv hm F' N'
      obtain ⟨o, t1, rfl, ho⟩ := hvs'.at hv
      have hoN := List.mem_of_getElem? ho
      obtain ⟨v1, hv1, hs1⟩ := hval o hoN
      have hm1 := hm.one
      have hm2 := hm.rest.one
      clear hm Fx Nx
      k_steps
      unfold Hold
      rename News _ _ _ _ => N7
      k_dflt (refine' look_ (par := par o) (sup := sup o) ?B ?F ?X N7 ?T ?hk ?hx ?hdx ?he hoe' hhs lo ?hd ?hu hv1 (hs1.item.mono ?hsb) ?hz ?hin ?hp ?_)
      case B => k_asm
      case F => k_asm
      case X => k_asm
      case T => k_asm
      case hk => exact rfl
      case hx => k_mem
      case hdx => k_mem
      case he => k_mem
      case hd => ktr_room
      case hu => ktr_units
      case hsb => intro p hp; exact List.mem_append_left _ (.tail _ (.tail _ (hsub p hp)))
      case hz => exact Nat.le_trans (hz o hoN) (by decide)
      case hin =>
        intro q hq
        obtain ⟨v2, hv2, _⟩ := hval q (hin o hoN q hq).1
        exact ⟨v2, hv2⟩
      case hp =>
        intro hne
        have hpn := (hin o hoN (par o) (by unfold dirs; rw [if_neg hne]; exact .head _)).1
        obtain ⟨v2, hv2, hs2⟩ := hval (par o) hpn
        refine ⟨v2, par (par o), hv2, ?_⟩
        have := hs2.item
        rw [hpar o hoN hne] at this
        exact this.mono fun p hp => List.mem_append_left _ (.tail _ (.tail _ (hsub p hp)))
      intro h2 tk2 F2 N2
      clear N7 F'
      k_steps
      exact LfFix.intro (by k_asm) (by k_asm) (by tb_start)
    · rintro m₁ h tk hm F' N'
      have hm1 := hm.one
      have hm2 := hm.rest.one
      clear hm Fx Nx
      have gp : getL (Str.ofString "parents_first") es = some none := by rw [hes]; k_get
      have gf : getL (Str.ofString "all_fields") es = some none := by rw [hes]; k_get
      have gk : getL (Str.ofString "look_fields") es = some none := by rw [hes]; k_get
      k_steps
      unfold Hold
      rename News _ _ _ _ => N7
      k_dflt (refine' first_ ?B ?F ?X N7 ?T ?hk ?hx ?hdx ?he hoe' hhs g2 (st := st) ?hst hvs' hnl hnd ?hd ?hu par sup rk ?hit hz hok hin ?_)
      case B => k_asm
      case F => k_asm
      case X => k_asm
      case T => k_asm
      case hk => exact rfl
      case hx => k_mem
      case hdx => k_mem
      case he => k_mem
      case hst => k_mem
      case hd => ktr_room
      case hu => ktr_units
      case hit => exact fun o ho => let ⟨v, h1, h2⟩ := hval o ho; ⟨v, h1, h2.item.mono fun p hp => .tail _ (.tail _ (hsub p hp))⟩
      intro ol vs2 ns2 n2 h2 tk2 F2 N2 lt2 hvs2 hnl2 hns2
      clear N7 F'
      rw [hled] at N2 lt2
      subst hes e5
      k_lt lt2
      k_steps
      unfold Hold
      rename News _ _ _ _ => N7
      k_dflt (refine' fields_ (e := e) (ol := ol) ?B ?F ?X N7 ?T ?hk ?hx ?hdx ?he hoe' ?h1 ?h0 ?hol hvs2 hnl2 ?hd ?hu par sup ?hit ?_)
      case B => k_asm
      case F => k_asm
      case X => k_asm
      case T => k_asm
      case hk => exact rfl
      case hx => k_mem
      case hdx => k_mem
      case he => k_mem
      case h1 => k_get
      case h0 => k_get
      case hol => k_mem
      case hd => ktr_room
      case hu => ktr_units
      case hit => exact fun o ho => let ⟨v, h1, h2⟩ := hval o (hns2 o ho); ⟨v, h1, h2.item.mono fun p hp => .tail _ (.tail _ (.tail _ (.tail _ (.tail _ (.tail _ hp)))))⟩
      intro fl h3 tk3 F3 N3 lt3
      clear N7
      k_lt lt3
      k_steps
      unfold Hold
      rename News _ _ _ _ => N7
      k_dflt (refine' lookf_ (fl := fl) ?B ?F ?X N7 ?T ?hk ?hx ?hdx ?h0 ?hfl ?hd ?hu ?_)
      case B => k_asm
      case F => k_asm
      case X => k_asm
      case T => k_asm
      case hk => exact rfl
      case hx => k_mem
      case hdx => k_mem
      case h0 => k_get
      case hfl => k_mem
      case hd => ktr_room
      case hu => ktr_units
      intro h4 tk4 F4 N4
      clear N7
      k_steps
      unfold Hold
      rename Fr _ _ _ _ => Fx
      refine lf_ForM true Fx ?_ (by intro _; rfl)
      k_steps
      rename Fr _ _ _ _ => Fx
      rename News _ _ _ _ => Nx
      refine lf_list_fix (vs := vs) (k := n1) (fun i m₁ => MIs m₁ [(Str.ofString "self", .ref x), (Str.ofString "items", .ref il)]) (by with_unfolding_all rfl) Fx Nx (by k_mem) (by rfl) (by rfl) (by tb_start) ?_ ?_
      · rintro i v m₁ own h tk E' hv hm F' N'
        obtain ⟨o, ho, hsi⟩ := hI.at hv
        obtain ⟨it, su, nm, f1, f2, v1, t1, t2, t4, vsu, t5, rfl, hit, _⟩ := hsi.ex
        have hm1 := hm.one
        have hm2 := hm.rest.one
        clear hm Fx Nx
        k_steps
        exact LfFix.intro (by k_asm) (by k_asm) (by tb_start)
      · rintro m₁ h tk hm F' N'
        clear Fx Nx
        have hm1 := hm.one
        have hm2 := hm.rest.one
        clear hm
        k_steps
        rename News _ _ _ _ => N9
        rename Fr _ _ _ _ => F9
        refine ret x dx _ _ e oe' [_, _, _, _, _, _, _] _ _ F9 N9 ?_ (.tail _ (.tail _ (.tail _ (.tail _ (.tail _ (.head _)))))) (.tail _ (.tail _ (.tail _ (.tail _ (.tail _ (.tail _ (.head _))))))) (.tail _ (.tail _ (.head _))) hoe' ⟨?_, ?_, ?_, ?_, ?_, ?_, ?_, ?_⟩
        · intro q hq p hp
          rcases of_mem7 hp with rfl | rfl | rfl | rfl | rfl | rfl | rfl
          · exact ktn_ltOf lt3.2.2.2.2.2.2 q hq
          · exact ktn_ltOf lt2.2.2.2.2.2 q hq
          · exact ktn_ltOf oe3.2.2 q hq
          · exact ktn_ltOf ost.2.2.2 q hq
          · exact ktn_ltOf oop.2.2.2.2 q hq
          · exact l5 q hq
          · exact l1 q hq
        all_goals k_get
end

theorem word34 : True := by
  k_with_none
  k_with "omega" => first | (with_reducible (first | assumption | exact ge0 _ | exact cl_lt (by with_unfolding_all rfl) | exact room_dp (by assumption) (by with_unfolding_all rfl) | exact room_dp0 (by assumption) (by with_unfolding_all rfl) | exact unit_dp (by assumption) (by with_unfolding_all rfl) | exact unit_dp0 (by assumption) (by with_unfolding_all rfl) | exact le_up (by assumption) (by with_unfolding_all rfl) | exact lt_up (by assumption) (by with_unfolding_all rfl) | exact lt_of_le_up (by assumption) (by with_unfolding_all rfl) | exact eq_le_up (by assumption) (by assumption) (by with_unfolding_all rfl) | exact clo_lt (by with_unfolding_all rfl) | exact clo_le (by with_unfolding_all rfl) | exact Nat.ne_of_gt (by assumption) | exact Nat.ne_of_lt (by assumption) | exact ne_s1 _ | exact Ne.symm (ne_s1 _) | exact ne_s2 _ | exact Ne.symm (ne_s2 _) | exact ne_s3 _ | exact Ne.symm (ne_s3 _) | exact int_gt (by decide) | exact int_lt (by assumption) (by decide) | exact int_le (by assumption) (by decide) | exact le_lt_up (by assumption) (by assumption) (by with_unfolding_all rfl) | exact le_le_up (by assumption) (by assumption) (by with_unfolding_all rfl))) | lia | omega (splitDisjunctions := true)
  k_with "k_mem" => first | assumption | exact List.Mem.head _ | (refine' List.Mem.tail _ ?_; k_mem) | (refine List.mem_append_left _ ?_; k_mem) | (refine List.mem_append_right _ ?_; k_mem)
  k_with "k_all" => exact ne_all (by assumption)
  k_with "call builtin:list.append" => (k_here; (with_reducible show wpAny _ _ (call (Value.builtin _) [Value.ref _, _]) _ _ _); k_dflt (refine' append_M ?k1w2 ?k2w2 ?k3w2 ?zw2 ?_; (case k1w2 => k_asm); (case k2w2 => k_asm); (case k3w2 => k_updF); (case zw2 => ((try simp only [List.length_append, List.length_cons, List.length_nil] at *); omega)); k_whole); intro hz9 Fz9 Nz9; (try dsimp only at Nz9); (try k_sweep))
  k_with "subscriptTail" => (k_here; (with_reducible show wpAny _ _ (subscriptTail _ _ (Value.ref _) (Value.str _ _)) _ _ _); k_dflt (refine' kda_item (knd := PySem.strKind _ _) (by k_asm) (by k_mem) (by k_asm) (strKind_is _ _ _ _) (by k_asm) ?_; k_whole))
  k_with "tb_rel" => first | assumption | exact if_pos rfl | (refine Eq.trans (if_neg (by decide)) ?_; tb_rel) | rfl
  k_with "eval Name" => (k_here; k_dflt (refine' nameX_L (by k_asm) (by first | rfl | tb_rel) ?_ (by rfl) (by rfl); k_whole))
  k_with "tb_start" => first | exact MIs.nil | (refine MIs.cons (by first | rfl | tb_rel) ?_; tb_start)
  k_with "exec While" => refine hold ?_
  k_with "exec While Compare cons nil" => refine hold ?_
  k_with "call ref" => (k_here; (with_reducible show wpAny _ _ (call (Value.ref 314) [Value.ref _, Value.str _ _]) _ _ _); k_dflt (refine' parent_ ?Bw9 ?Fw9 ?Xw9 ?Nw9 ?Tw9 ?kKw9 ?hxw9 ?hdxw9 ?hew9 ?hoew9 ?hesw9 ?hdw9 ?huw9 ?hvw9 ?hiw9 ?_; (case Bw9 => k_asm); (case Fw9 => k_asm); (case Xw9 => k_asm); (case Nw9 => k_asm); (case Tw9 => k_asm); (case kKw9 => first | exact rfl | assumption); (case hxw9 => k_mem); (case hdxw9 => k_mem); (case hesw9 => assumption); (case hew9 => k_mem); (case hoew9 => assumption); (case hvw9 => assumption); (case hiw9 => first | assumption | (refine' ItemIn.mono ?s9w9 ?i9w9; (case i9w9 => assumption); (case s9w9 => intro p9z9 hp9z9; k_mem))); (case hdw9 => ktr_room); (case huw9 => ktr_units)); intro t9z9 h9z9 tk9z9 F9z9 N9z9)
  k_with "call ref" => (k_here; (with_reducible show wpAny _ _ (call (Value.ref 342) [Value.ref _, Value.str _ _]) _ _ _); k_dflt (refine' above_ ?Bw10 ?Fw10 ?Xw10 ?Nw10 ?Tw10 ?kKw10 ?hxw10 ?hdxw10 ?hew10 ?hoew10 ?hesw10 ?hdw10 ?huw10 ?hupw10 ?hclw10 ?_; (case Bw10 => k_asm); (case Fw10 => k_asm); (case Xw10 => k_asm); (case Nw10 => k_asm); (case Tw10 => k_asm); (case kKw10 => first | exact rfl | assumption); (case hxw10 => k_mem); (case hdxw10 => k_mem); (case hesw10 => assumption); (case hew10 => k_mem); (case hoew10 => assumption); (case hupw10 => first | assumption | (refine' Up.mono ?s9w10 ?i9w10; (case i9w10 => assumption); (case s9w10 => intro p9z9 hp9z9; k_mem))); (case hdw10 => ktr_room); (case huw10 => ktr_units); (case hclw10 => first | assumption | omega); k_whole); intro fl9z9 n9z9 vs9z9 h9z9 tk9z9 F9z9 N9z9 lt9z9 hs9z9; (have hl9z9 := Strs.len hs9z9))
  k_with "call type:tuple" => (k_here; (with_reducible show wpAny _ _ (call (Value.type _) [Value.ref _]) _ _ _); k_dflt (refine' call_tuple_tup ?tw11 ?_; (case tw11 => exact News.isTup (by k_asm) (by k_mem))))
  k_with "binaryOp Add ref ref" => (k_here; (with_reducible show wpAny _ _ (binaryOp _ (Value.ref _) (Value.ref _)) _ _ _); k_dflt (refine' add_list_M (by k_asm) (by k_asm) (by k_mem) (by k_mem) (by ((try simp only [List.length_append, List.length_cons, List.length_nil] at *); omega)) ?_; k_whole); intro Dz9 hz9 Fz9 Nz9 l1z9)
  k_with "call builtin:len" => (k_here; (with_reducible show wpAny _ _ (call (Value.builtin "len") [Value.ref _]) _ _ _); k_dflt (refine' len_tup ?tw13 ?zw13 ?_; (case tw13 => exact News.isTup (by k_asm) (by k_mem)); (case zw13 => ((try simp only [List.length_append, List.length_cons, List.length_nil] at *); omega)); k_whole))
  k_with "call ref" => (k_here; (with_reducible show wpAny _ _ (call (Value.ref 321) [Value.ref _, Value.str _ _]) _ _ _); k_dflt (refine' supers_ ?Bw14 ?Fw14 ?Xw14 ?Nw14 ?Tw14 ?kKw14 ?hxw14 ?hdxw14 ?hew14 ?hoew14 ?hesw14 ?hdw14 ?huw14 ?hvw14 ?hiw14  ?_; (case Bw14 => k_asm); (case Fw14 => k_asm); (case Xw14 => k_asm); (case Nw14 => k_asm); (case Tw14 => k_asm); (case kKw14 => first | exact rfl | assumption); (case hxw14 => k_mem); (case hdxw14 => k_mem); (case hesw14 => assumption); (case hew14 => k_mem); (case hoew14 => assumption); (case hvw14 => assumption); (case hiw14 => first | assumption | (refine' ItemIn.mono ?s9w14 ?i9w14; (case i9w14 => assumption); (case s9w14 => intro p9z9 hp9z9; k_mem))); (case hdw14 => ktr_room); (case huw14 => ktr_units);  k_whole); intro d9z9 vs9z9 h9z9 tk9z9 F9z9 N9z9 hd9z9 hvs9z9; (have hl9z9 := Strs.len hvs9z9))
  k_with "call ref" => (k_here; (with_reducible show wpAny _ _ (call (Value.ref 328) [Value.ref _, Value.str _ _]) _ _ _); k_dflt (refine' is_subset_ ?Bw15 ?Fw15 ?Xw15 ?Nw15 ?Tw15 ?kKw15 ?hxw15 ?hdxw15 ?hew15 ?hoew15 ?hesw15 ?hdw15 ?huw15 ?hvw15 ?hiw15 ?zw15 ?_; (case Bw15 => k_asm); (case Fw15 => k_asm); (case Xw15 => k_asm); (case Nw15 => k_asm); (case Tw15 => k_asm); (case kKw15 => first | exact rfl | assumption); (case hxw15 => k_mem); (case hdxw15 => k_mem); (case hesw15 => assumption); (case hew15 => k_mem); (case hoew15 => assumption); (case hvw15 => assumption); (case hiw15 => first | assumption | (refine' ItemIn.mono ?s9w15 ?i9w15; (case i9w15 => assumption); (case s9w15 => intro p9z9 hp9z9; k_mem))); (case hdw15 => ktr_room); (case huw15 => ktr_units); (case zw15 => first | assumption | (simp only [List.length_nil]; omega)); k_whole); intro h9z9 tk9z9 F9z9 N9z9)
  k_with "call ref" => (k_here; (with_reducible show wpAny _ _ (call (Value.ref 262) [Value.ref _, Value.str _ _]) _ _ _); k_dflt (refine' direct_ ?Bw16 ?Fw16 ?Xw16 ?Nw16 ?Tw16 ?kKw16 ?hxw16 ?hdxw16 ?hew16 ?hoew16 ?hesw16 ?hdw16 ?huw16 ?hvw16 ?hiw16 ?zw16 ?_; (case Bw16 => k_asm); (case Fw16 => k_asm); (case Xw16 => k_asm); (case Nw16 => k_asm); (case Tw16 => k_asm); (case kKw16 => first | exact rfl | assumption); (case hxw16 => k_mem); (case hdxw16 => k_mem); (case hesw16 => assumption); (case hew16 => k_mem); (case hoew16 => assumption); (case hvw16 => assumption); (case hiw16 => first | assumption | (refine' ItemIn.mono ?s9w16 ?i9w16; (case i9w16 => assumption); (case s9w16 => intro p9z9 hp9z9; k_mem))); (case hdw16 => ktr_room); (case huw16 => ktr_units); (case zw16 => first | assumption | (simp only [List.length_nil]; omega)); k_whole); intro d9z9 tl9z9 vs9z9 h9z9 tk9z9 F9z9 N9z9 lt9z9 hd9z9 hvs9z9; (have hl9z9 := Strs.len hvs9z9))
  k_with "call ref" => (k_here; (with_reducible show wpAny _ _ (call (Value.ref 349) [Value.ref _, Value.str _ _]) _ _ _); k_dflt (refine' top_sub_ ?Bw17 ?Fw17 ?Xw17 ?Nw17 ?Tw17 ?kKw17 ?hxw17 ?hdxw17 ?hew17 ?hoew17 ?hesw17 ?hdw17 ?huw17 ?hvw17 ?hiw17 ?zw17 ?new17 ?_; (case Bw17 => k_asm); (case Fw17 => k_asm); (case Xw17 => k_asm); (case Nw17 => k_asm); (case Tw17 => k_asm); (case kKw17 => first | exact rfl | assumption); (case hxw17 => k_mem); (case hdxw17 => k_mem); (case hesw17 => assumption); (case hew17 => k_mem); (case hoew17 => assumption); (case hvw17 => assumption); (case hiw17 => first | assumption | (refine' ItemIn.mono ?s9w17 ?i9w17; (case i9w17 => assumption); (case s9w17 => intro p9z9 hp9z9; k_mem))); (case hdw17 => ktr_room); (case huw17 => ktr_units); (case zw17 => first | assumption | (simp only [List.length_nil]; omega)); (case new17 => first | assumption | omega); k_whole); intro t9z9 h9z9 tk9z9 F9z9 N9z9)
  k_with "call ref" => (k_here; (with_reducible show wpAny _ _ (call (Value.ref 349) [Value.ref _, Value.str _ _]) _ _ _); k_dflt (refine' top_base_ ?Bw18 ?Fw18 ?Xw18 ?Nw18 ?Tw18 ?kKw18 ?hxw18 ?hdxw18 ?hew18 ?hoew18 ?hesw18 ?hdw18 ?huw18 ?hvw18 ?hiw18 ?hupw18 ?hclw18 ?_; (case Bw18 => k_asm); (case Fw18 => k_asm); (case Xw18 => k_asm); (case Nw18 => k_asm); (case Tw18 => k_asm); (case kKw18 => first | exact rfl | assumption); (case hxw18 => k_mem); (case hdxw18 => k_mem); (case hesw18 => assumption); (case hew18 => k_mem); (case hoew18 => assumption); (case hvw18 => assumption); (case hiw18 => first | assumption | (refine' ItemIn.mono ?s9w18 ?i9w18; (case i9w18 => assumption); (case s9w18 => intro p9z9 hp9z9; k_mem))); (case hdw18 => ktr_room); (case huw18 => ktr_units); (case hupw18 => first | assumption | (refine' Up.mono ?s9w18 ?i9w18; (case i9w18 => assumption); (case s9w18 => intro p9z9 hp9z9; k_mem))); (case hclw18 => first | assumption | omega); k_whole); intro t9z9 h9z9 tk9z9 F9z9 N9z9)
  k_with "compareOp In str ref" => (k_here; (with_reducible show wpAny _ _ (compareOp CmpOp.In (Value.str _ _) (Value.ref _)) _ _ _); k_dflt (refine' in_list_strs (isList_M ?Nw19 ?mw19) ?iw19 ?_; (case Nw19 => k_asm); (case mw19 => k_mem); (case iw19 => exact Strs.are (by assumption)); k_whole))
  k_with "compareOp NotIn str ref" => (k_here; (with_reducible show wpAny _ _ (compareOp CmpOp.NotIn (Value.str _ _) (Value.ref _)) _ _ _); k_dflt (refine' notin_list_strs (isList_M ?Nw20 ?mw20) ?iw20 ?_; (case Nw20 => k_asm); (case mw20 => k_mem); (case iw20 => exact Strs.are (by assumption)); k_whole))
  k_with "eval ListComp" => refine hold ?_
  k_with "exec Assign cons ListComp" => refine hold ?_
  k_with "CompSrc" => refine hold ?_
  k_with "exec For" => refine hold ?_
  k_with "exec For Name Call" => refine hold ?_
  k_with "exec For Name Call cons nil" => refine hold ?_
  k_with "exec For Name Name" => refine hold ?_
  k_with "exec For Name Name cons nil" => refine hold ?_
  k_with "exec For Name Attribute" => refine hold ?_
  k_with "exec For Name Attribute cons nil" => refine hold ?_
  k_with "exec For Tuple Call" => refine hold ?_
  k_with "exec For Tuple Call cons nil" => refine hold ?_
  k_with "exec For Name Subscript" => refine hold ?_
  k_with "exec For Name Subscript cons nil" => refine hold ?_
  k_with "exec For Name BinOp" => refine hold ?_
  k_with "exec For Name BinOp cons nil" => refine hold ?_
  k_with "ktr_unf" => (refine' code_defC ?k1w37 ?k2w37 ?k3w37 ?k4w37 ?k5w37 ?kAw37 ?kFw37 ?kKw37 ?k6w37 ?k7w37 ?k8w37 ?k9w37 ?kBw37 ?kDw37 ?_ ?c2w37 ?c3w37 ?c4w37; (case kAw37 => exact rfl); (case kFw37 => exact rfl); (case kKw37 => assumption); (case k1w37 => k_asm); (case k2w37 => k_asm); (case k3w37 => k_asm); (case k4w37 => k_asm); (case k5w37 => k_asm); (case k6w37 => k_is); (case k7w37 => k_is); (case k8w37 => ktr_room); (case k9w37 => exact BindsTo.of_eq rfl); (case kBw37 => exact rfl); (case kDw37 => decide +kernel); (case c2w37 => exact rfl); (case c3w37 => exact rfl); (case c4w37 => exact rfl); k_whole; intro gz9 Lz9 hz9 tkz9 cellsz9 FGz9 Fz9 Nz9 Yz9 Bz9 Xz9 Tz9 l1z9; k_cells Yz9; (try simp only [List.cons_append, List.nil_append] at Nz9); (try dsimp only); (try k_lift Bz9); (try k_fold))
  k_with "call ref" => (k_here; (with_reducible show wpAny _ _ (call (Value.ref 123) [Value.ref _, Value.str _ _, Value.str _ _]) _ _ _); k_dflt (refine' is_under_ ?Bw38 ?Fw38 ?Xw38 ?Nw38 ?Tw38 ?kKw38 ?hxw38 ?hdxw38 ?hew38 ?hoew38 ?hesw38 ?hcw38 ?hdcw38 ?hecw38 ?hdw38 ?huw38 ?hupw38 ?hclw38 ?_; (case Bw38 => k_asm); (case Fw38 => k_asm); (case Xw38 => k_asm); (case Nw38 => k_asm); (case Tw38 => k_asm); (case kKw38 => first | exact rfl | assumption); (case hcw38 => k_mem); (case hdcw38 => k_mem); (case hecw38 => assumption); (case hxw38 => k_mem); (case hdxw38 => k_mem); (case hesw38 => assumption); (case hew38 => k_mem); (case hoew38 => assumption); (case hdw38 => ktr_room); (case huw38 => ktr_units); (case hupw38 => first | assumption | (refine' Up.mono ?s9w38 ?i9w38; (case i9w38 => assumption); (case s9w38 => intro p9z9 hp9z9; k_mem))); (case hclw38 => first | assumption | omega); k_whole); intro h9z9 tk9z9 F9z9 N9z9)
  k_with "call ref" => (k_here; (with_reducible show wpAny _ _ (call (Value.ref 130) [Value.ref _, Value.str _ _, Value.str _ _]) _ _ _); k_dflt (refine' narrower_ ?Bw39 ?Fw39 ?Xw39 ?Nw39 ?Tw39 ?kKw39 ?hxw39 ?hdxw39 ?hew39 ?hoew39 ?hesw39 ?hcw39 ?hdcw39 ?hecw39 ?hdw39 ?huw39 ?hupw39 ?hclw39 ?hup'w39 ?hcl'w39 ?_; (case Bw39 => k_asm); (case Fw39 => k_asm); (case Xw39 => k_asm); (case Nw39 => k_asm); (case Tw39 => k_asm); (case kKw39 => first | exact rfl | assumption); (case hcw39 => k_mem); (case hdcw39 => k_mem); (case hecw39 => assumption); (case hxw39 => k_mem); (case hdxw39 => k_mem); (case hesw39 => assumption); (case hew39 => k_mem); (case hoew39 => assumption); (case hdw39 => ktr_room); (case huw39 => ktr_units); (case hupw39 => first | assumption | (refine' Up.mono ?s9w39 ?i9w39; (case i9w39 => assumption); (case s9w39 => intro p9z9 hp9z9; k_mem))); (case hclw39 => first | assumption | omega); (case hup'w39 => first | assumption | (refine' Up.mono ?s9w39 ?i9w39; (case i9w39 => assumption); (case s9w39 => intro p9z9 hp9z9; k_mem))); (case hcl'w39 => first | assumption | omega); k_whole); intro t9z9 h9z9 tk9z9 F9z9 N9z9)
  k_with "eval Name" => (k_here; (with_reducible show wpAny _ _ (eval (Expr.Name _ _) (compEnvC _ _ _ _)) _ _ _); k_dflt (refine' lcx_local (by k_asm) (by first | rfl | tb_rel) ?_ (by rfl) (by rfl) (by decide); k_whole))
  k_with "call type:zip" => refine hold ?_
  k_with "call ref" => (k_here; (with_reducible show wpAny _ _ (call (Value.ref 135) [Value.ref _, Value.ref _, Value.ref _]) _ _ _); k_dflt (refine' common_ ?Bw42 ?Fw42 ?Xw42 ?Nw42 ?Tw42 ?kKw42 ?hxw42 ?hdxw42 ?hew42 ?hoew42 ?hesw42 ?hcw42 ?hdcw42 ?hecw42 ?hdw42 ?huw42 ?hupw42 ?hclw42 ?hup'w42 ?hcl'w42 ?ho1w42 ?ho2w42 ?_ ?_; (case Bw42 => k_asm); (case Fw42 => k_asm); (case Xw42 => k_asm); (case Nw42 => k_asm); (case Tw42 => k_asm); (case kKw42 => first | exact rfl | assumption); (case hcw42 => k_mem); (case hdcw42 => k_mem); (case hecw42 => assumption); (case hxw42 => k_mem); (case hdxw42 => k_mem); (case hesw42 => assumption); (case hew42 => k_mem); (case hoew42 => assumption); (case hdw42 => ktr_room); (case huw42 => ktr_units); (case ho1w42 => k_mem); (case ho2w42 => k_mem); (case hupw42 => first | assumption | (refine' Up.mono ?s9w42 ?i9w42; (case i9w42 => assumption); (case s9w42 => intro p9z9 hp9z9; k_mem))); (case hclw42 => first | assumption | omega); (case hup'w42 => first | assumption | (refine' Up.mono ?s9w42 ?i9w42; (case i9w42 => assumption); (case s9w42 => intro p9z9 hp9z9; k_mem))); (case hcl'w42 => first | assumption | omega); k_whole; first | (intro h9z9 tk9z9 hz9z9 F9z9 N9z9; (try dsimp only at F9z9 N9z9)) | (intro D9z9 t9z9 h9z9 tk9z9 hz9z9 F9z9 N9z9 lt9z9; (try dsimp only at F9z9 N9z9))))
  k_with "compareOp Eq ref ref" => (k_here; (with_reducible show wpAny _ _ (compareOp CmpOp.Eq (Value.ref _) (Value.ref _)) _ _ _); k_dflt (refine' eq_t1 ?Nw43 ?haw43 ?hbw43 ?kaw43 ?kbw43 ?huw43 ?_; (case Nw43 => k_asm); (case haw43 => k_mem); (case hbw43 => k_mem); (case kaw43 => assumption); (case kbw43 => assumption); (case huw43 => ktr_units); k_whole))
  k_with "compareOp NotEq ref ref" => (k_here; (with_reducible show wpAny _ _ (compareOp CmpOp.NotEq (Value.ref _) (Value.ref _)) _ _ _); k_dflt (refine' ne_t1 ?Nw44 ?haw44 ?hbw44 ?kaw44 ?kbw44 ?huw44 ?_; (case Nw44 => k_asm); (case haw44 => k_mem); (case hbw44 => k_mem); (case kaw44 => assumption); (case kbw44 => assumption); (case huw44 => ktr_units); k_whole))
  k_with "compareOp Eq none ref" => (k_here; (with_reducible show wpAny _ _ (compareOp CmpOp.Eq Value.none (Value.ref _)) _ _ _); k_dflt (refine' eq_nt ?Nw45 ?hbw45 ?kbw45 ?huw45 ?_; (case Nw45 => k_asm); (case hbw45 => k_mem); (case kbw45 => assumption); (case huw45 => ktr_units); k_whole))
  k_with "call type:tuple" => (k_here; (with_reducible show wpAny _ _ (call (Value.type _) [Value.ref _]) _ _ _); k_dflt (refine' tuple_list_M ?Fw46 ?Nw46 ?mw46 ?zw46 ?_; (case Fw46 => k_asm); (case Nw46 => k_asm); (case mw46 => k_mem); (case zw46 => first | assumption | omega | ((try simp only [List.length_append, List.length_cons, List.length_nil] at *); omega)); k_whole); intro D9z9 h9z9 F9z9 N9z9 lt9z9; (try dsimp only at F9z9 N9z9))
  k_with "call builtin:len" => (k_here; (with_reducible show wpAny _ _ (call (Value.builtin "len") [Value.ref _]) _ _ _); k_dflt (refine' len_list_M (by k_asm) (by k_mem) (by first | assumption | omega | ((try simp only [List.length_append, List.length_cons, List.length_nil] at *); omega)) ?_; k_whole))
  k_with "call ref" => (k_here; (with_reducible show wpAny _ _ (call (Value.ref 142) [Value.ref _, Value.int _ _]) _ _ _); k_dflt (refine' want_few_ ?Bw48 ?Fw48 ?Xw48 ?Nw48 ?Tw48 ?kKw48 ?hdw48 ?huw48 ?hzw48 ?_; (case Bw48 => k_asm); (case Fw48 => k_asm); (case Xw48 => k_asm); (case Nw48 => k_asm); (case Tw48 => k_asm); (case kKw48 => first | exact rfl | assumption); (case hdw48 => ktr_room); (case huw48 => ktr_units); (case hzw48 => first | assumption | omega); k_whole); intro h9z9 tk9z9 F9z9 N9z9)
  k_with "call type:set" => refine hold ?_
  k_with "call builtin:sorted" => refine hold ?_
  k_with "call ref" => (k_here; (with_reducible show wpAny _ _ (call (Value.ref 154) [Value.ref _, Value.ref _]) _ _ _); refine hold ?_)
  k_with "setItem ref str" => refine hold ?_
  k_with "call builtin:list.pop" => (k_here; (with_reducible show wpAny _ _ (call (Value.builtin _) [Value.ref _]) _ _ _); k_dflt (refine' pop_M ?k1w53 ?k2w53 ?k3w53 ?zw53 ?_; (case k1w53 => k_asm); (case k2w53 => k_asm); (case k3w53 => k_updF); (case zw53 => first | assumption | omega); k_whole); intro hz9 Fz9 Nz9; (try dsimp only at Nz9); (try k_sweep))
  k_with "call builtin:list.extend" => (k_here; (with_reducible show wpAny _ _ (call (Value.builtin _) [Value.ref _, Value.ref _]) _ _ _); k_dflt (refine' extend_M ?k1w54 ?k2w54 ?k3w54 ?kbw54 ?zw54 ?_; (case k1w54 => k_asm); (case k2w54 => k_asm); (case k3w54 => k_updF); (case kbw54 => k_mem); (case zw54 => first | assumption | omega); k_whole); intro hz9 nz9 Fz9 Nz9; (try dsimp only at Nz9); (try k_sweep))
  k_with "compareOp NotIn str ref" => (k_here; (with_reducible show wpAny _ _ (compareOp CmpOp.NotIn (Value.str _ _) (Value.ref _)) _ _ _); k_dflt (first | (refine' kdg_notin (knd := PySem.strKind _ _) ?Nw55 ?mw55 ?dw55 ?low55 (strKind_is _ _ _ _) true ?hbw55 ?_; (case Nw55 => k_asm); (case mw55 => k_mem); (case dw55 => assumption); (case low55 => assumption); (case hbw55 => (rename (valueAt _ _ = _) => hvk9; simp [hvk9])); k_whole) | (refine' kdg_notin (knd := PySem.strKind _ _) ?Nw55 ?mw55 ?dw55 ?low55 (strKind_is _ _ _ _) false ?hbw55 ?_; (case Nw55 => k_asm); (case mw55 => k_mem); (case dw55 => assumption); (case low55 => assumption); (case hbw55 => (rename (valueAt _ _ = _) => hvk9; simp [hvk9])); k_whole)))
  k_with "k_all" => first | assumption | exact ne_all (by assumption)
  k_with "compareOp In str ref" => (k_here; (with_reducible show wpAny _ _ (compareOp CmpOp.In (Value.str _ _) (Value.ref _)) _ _ _); k_dflt (first | (refine' kda_in (knd := PySem.strKind _ _) ?Nw57 ?mw57 ?dw57 ?low57 (strKind_is _ _ _ _) true ?hbw57 ?_; (case Nw57 => k_asm); (case mw57 => k_mem); (case dw57 => assumption); (case low57 => assumption); (case hbw57 => (rename (valueAt _ _ = _) => hvk9; simp [hvk9])); k_whole) | (refine' kda_in (knd := PySem.strKind _ _) ?Nw57 ?mw57 ?dw57 ?low57 (strKind_is _ _ _ _) false ?hbw57 ?_; (case Nw57 => k_asm); (case mw57 => k_mem); (case dw57 => assumption); (case low57 => assumption); (case hbw57 => (rename (valueAt _ _ = _) => hvk9; simp [hvk9])); k_whole)))
  k_with "call type:list" => (k_here; (with_reducible show wpAny _ _ (call (Value.type _) [Value.ref _]) _ _ _); k_dflt (refine' list_list_M ?Fw58 ?Nw58 ?mw58 ?zw58 ?_; (case Fw58 => k_asm); (case Nw58 => k_asm); (case mw58 => k_mem); (case zw58 => first | assumption | omega); k_whole); intro D9z9 c9z9 h9z9 F9z9 N9z9 lt9z9; (try dsimp only at F9z9 N9z9); (try k_lt lt9z9))
  k_with "call builtin:list.remove" => refine hold ?_
  k_with "ktr_units" => (have hcL9z9 := cLine_is; (try simp only [units_under_make, units_in1, units_deeper, Around.mark_units, units_caller] at *); (try dsimp only [ktrTop] at *); omega)
  trivial
section
variable {w : World} {p : Program} {loose : List Str} {mean : ExcName → Option Value} {mg mb : Str → Option Value}
    {dp un : Nat} {gd : Option (List Code)} {cn : Str} {cs : Scope} {a : Addr} {ccd : Value} {cl : List (Str × Addr)} {outer : List Env} {A₀ : Around} {base h₀ : Heap} {L : Addr} {m : Str → Option Value} {news : List (Addr × Obj)} {s : Shared} {Q E : Value → Shared → Prop}
    (B : Below A₀ base outer h₀) (F : Fr h₀ L s.heap m) (X : (hd.heap_1 w.params).In h₀) (T : Top p loose mean mg mb h₀) (hk : cs.kind = .function)
include B F X T hk
theorem tip_ {jg jc : Addr} {oj : Obj} {vs : List Value} {ns : List Int} {n1 : Nat} {k : Int} {tk0 t : Tok} {many : Int} (N : News h₀ L s.heap ((jg, oj) :: news)) (hne : ∀ p ∈ news, p.1 ≠ jg) (lo : (jg == sysModules) = false) (hoj : oj.IsDictOf (PySem.strKind PG w) [(Str.ofString "cells", .ref jc), (Str.ofString "spot", .int k tk0)])
    (hjc : (jc, PySem.W.listOf (List.toArray vs) n1) ∈ news) (hvs : IntsAre vs ns) (hl : ns.length ≤ 40) (hns : ∀ c ∈ ns, 0 ≤ c ∧ c < 1000003) (hk0 : 0 ≤ k) (hk1 : k ≤ 100) (hm0 : 0 < many) (hm1 : many ≤ 4000) (hd : dp + 8 < recursionLimit) (hu : un + 80 < cLine)
    (ret : ∀ r t' oj' tk1 h' tk', 0 ≤ r → r < many → Fr h₀ L h' m → News h₀ L h' ((jg, oj') :: news) → oj'.IsDictOf (PySem.strKind PG w) [(Str.ofString "cells", .ref jc), (Str.ofString "spot", .int (k + 1) tk1)] → Q (.int r t') { s with heap := h', toks := tk' }) :
    wpAny (model PG w) (ktrTop dp un gd cn cs L a ccd cl outer) (call (.ref 406) [.ref jg, .int many t]) Q E s := by
  have hlv := hvs.length
  have v1 : valueAt [(Str.ofString "cells", Value.ref jc), (Str.ofString "spot", Value.int k tk0)] (Str.ofString "spot") = some (.int k tk0) := rfl
  have v2 : valueAt [(Str.ofString "cells", Value.ref jc), (Str.ofString "spot", Value.int k tk0)] (Str.ofString "cells") = some (.ref jc) := rfl
  refine wpAny_call ?_
  k_dflt cell_enter
  k_steps
  unfold Hold
  rename News _ _ _ _ => N7
  rename Fr _ _ _ _ => F7
  refine kda_set (knd := PySem.strKind _ _) (s := { s with heap := _, toks := _ }) F7 N7 (UpdF.head hne) hoj (strKind_is _ _ _ _) (by rw [sizeLine_eq]; simp) fun h8 oj' F8 N8 hoj' => ?_
  clear F7 N7
  have e8 : ∀ v : Value, stored [(Str.ofString "cells", Value.ref jc), (Str.ofString "spot", Value.int k tk0)] (Str.ofString "spot") v = [(Str.ofString "cells", Value.ref jc), (Str.ofString "spot", v)] := fun v => rfl
  rw [e8] at hoj'
  obtain ⟨tz, hoj'⟩ : ∃ tz, oj'.IsDictOf (PySem.strKind PG w) [(Str.ofString "cells", Value.ref jc), (Str.ofString "spot", Value.int (k + 1) tz)] := ⟨_, hoj'⟩
  have v4 : valueAt [(Str.ofString "cells", Value.ref jc), (Str.ofString "spot", Value.int (k + 1) tz)] (Str.ofString "cells") = some (.ref jc) := rfl
  clear v1 v2 hoj
  k_steps
  all_goals exact ret _ _ oj' tz _ _ (Int.fmod_nonneg_of_pos _ hm0) (Int.fmod_lt_of_pos _ hm0) (by k_asm) (by k_asm) hoj'
end

section
open PySem.AutoSeq1 (wpAny_loadPart')
theorem meets_enumerate_newT (l : Addr) (items : Array Value) (n : Nat) (dct : Option Addr) (sl : Array (Option Value)) :
    Meets (Builtin.«enumerate.__new__» ⟨[.type "enumerate", .ref l], []⟩) (fun _ R s => s.heap.get? l = some { cls := .type "tuple", dict := dct, data := .seq items n, slots := sl } ∧
      R (.ok (.ret (.ref (s.heap.push { cls := .type "tuple_iterator", data := .fields #[.ref l, .int 0 0] }).objs.size)))
        { s with heap := (s.heap.push { cls := .type "tuple_iterator", data := .fields #[.ref l, .int 0 0] }).push { cls := .type "enumerate", data := .fields #[.none, .bool false, .ref s.heap.objs.size, rawInt 0, .none, .none] } }) :=
  .of_wp fun prog w A R s h => by
    obtain ⟨hp, g, d, tk, os⟩ := s; obtain ⟨hl, h⟩ := h
    have hsub := sub_enumerate
    have hL : Heap.IsTuple (Shared.heap ⟨hp, g, d, tk, os⟩) l items := ⟨_, hl, rfl, n, rfl⟩
    wp_walk using wpAny_loadPart' hl
    refine wpAny_stack_any fun st => wpAny_pure ?_
    split
    · rename_i c _ _ _ _ _
      cases (c == Value.type "enumerate")
      · wp_walk using wpAny_loadPart' hl, wpAny_pyIter_tuple hL
        exact ⟨_, rfl, h⟩
      · wp_walk using wpAny_loadPart' hl, wpAny_pyIter_tuple hL
        exact ⟨_, rfl, h⟩
    · wp_walk using wpAny_loadPart' hl, wpAny_pyIter_tuple hL
      exact ⟨_, rfl, h⟩
theorem call_enumerate_tuple {prog : Program} {w : World} {A : Around} {E : Value → Shared → Prop} {s : Shared} {l : Addr} {items : Array Value} {Q : Value → Shared → Prop} (hL : s.heap.IsTuple l items)
    (h : ∀ h', IsEnum h' (s.heap.objs.size + 1) s.heap.objs.size 0 .none → h'.IsTupleIter s.heap.objs.size l 0 → (∀ b o, s.heap.get? b = some o → h'.get? b = some o) → Q (.ref (s.heap.objs.size + 1)) { s with heap := h' }) :
    wpAny (model prog w) A (call (.type "enumerate") [.ref l]) Q E s := by
  obtain ⟨⟨c, dct, dt, sl⟩, hl, hc, n, hd⟩ := hL
  replace hc : c = .type "tuple" := hc
  replace hd : dt = .seq items n := hd
  subst hc hd
  refine callType_new F.called_enumerate (by decide) (F.typeCall_enumerate_1 _) (F.newCall_enumerate_1 _) (fun obj => F.args_object_init_2 obj _) F.entry_enumerate_new
    (meets_enumerate_newT l items n dct sl) ⟨hl, ?_⟩
  have hz : (s.heap.push { cls := .type "tuple_iterator", data := .fields #[.ref l, .int 0 0] }).objs.size = s.heap.objs.size + 1 := Heap.size_push ..
  show _ ∧ _
  rw [hz]
  have he : IsEnum ((s.heap.push { cls := .type "tuple_iterator", data := .fields #[.ref l, .int 0 0] }).push
      { cls := .type "enumerate", data := .fields #[.none, .bool false, .ref s.heap.objs.size, rawInt 0, .none, .none] }) (s.heap.objs.size + 1) s.heap.objs.size 0 .none := by
    have := Heap.get?_push_size (s.heap.push { cls := .type "tuple_iterator", data := .fields #[.ref l, .int 0 0] })
      (o := { cls := .type "enumerate", data := .fields #[.none, .bool false, .ref s.heap.objs.size, rawInt 0, .none, .none] }) rfl
    rw [hz] at this; exact this
  exact ⟨⟨_, he, rfl⟩, h _ he ⟨_, Heap.get?_push_of_some _ (Heap.get?_push_size _ rfl), rfl, rfl⟩ fun b o x => Heap.get?_push_of_some _ (Heap.get?_push_of_some _ x)⟩
end
section
variable {prog : Program} {w : World} {A : Around} {E : Value → Shared → Prop} {s : Shared} {env : Env} {h₀ : Heap} {m : Str → Option Value} {news : List (Addr × Obj)}
theorem none_ge {L : Addr} (F : Fr h₀ L s.heap m) : ∀ a, s.heap.objs.size ≤ a → h₀.get? a = .none := fun a ha => by
  cases q : h₀.get? a with
  | none => rfl
  | some o' => exact absurd (Heap.lt_size (F.keep _ _ q)) (Nat.not_lt.mpr ha)
/-- a for loop over the pairs of an enumerated list -/
theorem lf_enum_list {kp : Bool} {x y : Str} {px py tp : Pos} {x1 : Nat} {body : List Stmt} {Q : Flow → Shared → Prop} {l : Addr} {vs : List Value} {k : Nat} (J : Nat → (Str → Option Value) → List (Addr × Obj) → Prop)
    (hh : A.handled = none) (F : Fr h₀ env.locals s.heap m) (N : News h₀ env.locals s.heap news) (hx : env.kindOf x = some .local) (hy : env.kindOf y = some .local) (hp : (env.scope.kind == .class || (env.scope.kind == .module && env.locals != env.globals)) = false)
    (hj : J 0 m news) (hsrc : ∀ i m nx, J i m nx → (l, PySem.W.listOf (List.toArray vs) k) ∈ nx)
    (turn : LfTurn kp prog w A h₀ env body vs.length (fun i f => ∃ t v, vs[i]? = some v ∧ f = prFm x y (.int (i : Int) t) v) J s)
    (done : ∀ m' nx h tk dr, J vs.length m' nx → (kp = true → dr = s.drawn) → Fr h₀ env.locals h m' → News h₀ env.locals h nx → Q .next { s with heap := h, toks := tk, drawn := dr }) :
    wpAny (model prog w) A (call (.type "enumerate") [.ref l]) (fun xv s₁ => wpAny (model prog w) A (pyIter xv) (fun it s₂ => LfAt kp prog w A h₀ env (.Tuple [.Name x px, .Name y py] x1 tp) body Q it s₂) E s₁) E s := by
  have hm := hsrc _ _ _ hj
  have hls : s.heap.IsList l (List.toArray vs) := ⟨_, (N _ hm).1, rfl, _, rfl⟩
  have hlt : l < s.heap.objs.size := Heap.lt_size (N _ hm).1
  have hLlt : env.locals < s.heap.objs.size := F.ns.lt
  refine call_enumerate_list hls fun h' he hit hsz hk => ?_
  refine wpAny_pyIter_enum he ?_
  have W := WalksT.enumerate (prog := prog) (w := w) hh (s.heap.objs.size + 1) s.heap.objs.size l (Nat.succ_ne_self _) (Nat.ne_of_lt (Nat.lt_succ_of_lt hlt)) (Nat.ne_of_lt hlt) (List.toArray vs)
  rw [List.size_toArray] at W
  refine ⟨[s.heap.objs.size + 1, s.heap.objs.size, l], [s.heap.objs.size + 1, s.heap.objs.size], vs.length, _, _, [(l, PySem.W.listOf (List.toArray vs) k)], news, J, m, Steps.pair (P := fun i a b => ∃ t, a = .int (i : Int) t ∧ vs[i]? = some b) W (fun i vals hv => ?_) hh (fun b hb => hb) (fun i h st b hb => ?_) (fun hb => ?_) hx hy hp, fun b hb => ?_, ⟨⟨_, he⟩, hit, hls.at fun o e => hk _ o e⟩, fun b hb => ?_, F.keeps hk, N.grown hk, fun p hp q => ?_, hj, fun i m nx q p hp => ?_, ?_, done⟩
  · obtain ⟨t, v, h1, rfl⟩ := hv
    exact ⟨_, _, rfl, t, rfl, by simpa using h1⟩
  · obtain ⟨⟨_, z1⟩, ⟨o, z2, _⟩, _⟩ := st
    rcases of_mem2 hb with rfl | rfl
    · exact ⟨_, z1⟩
    · exact ⟨o, z2⟩
  · rcases of_mem3 hb with hb | hb | hb
    · exact absurd hLlt (by rw [hb]; exact Nat.not_lt.mpr (Nat.le_succ _))
    · exact absurd hLlt (by rw [hb]; exact Nat.lt_irrefl _)
    · exact (N _ hm).2.1 hb.symm
  · rcases of_mem3 hb with rfl | rfl | rfl
    · exact .inl (by first | exact .head _ | exact mem1 | exact mem2 | exact mem3 | exact mem4 | exact mem5 | simp)
    · exact .inl (by first | exact .head _ | exact mem1 | exact mem2 | exact mem3 | exact mem4 | exact mem5 | simp)
    · exact .inr (.inr ⟨_, .head _⟩)
  · have hge : s.heap.objs.size ≤ b := by
      rcases of_mem2 hb with rfl | rfl
      · exact Nat.le_succ _
      · exact Nat.le_refl _
    exact ⟨none_ge F b hge, fun q => absurd hge (by rw [q]; exact Nat.not_le.mpr hLlt)⟩
  · have hlt' := Heap.lt_size (N p hp).1
    rcases of_mem2 q with q | q
    · rw [q] at hlt'; exact absurd hlt' (Nat.not_lt.mpr (Nat.le_succ _))
    · rw [q] at hlt'; exact Nat.lt_irrefl _ hlt'
  · rw [List.mem_singleton.mp hp]; exact hsrc _ _ _ q
  · rintro i f m₁ nx own h tk dr E' hi ⟨a, b, ⟨t, rfl, hv⟩, rfl⟩ hJ off hd F' N'
    exact turn i _ m₁ nx own h tk dr E' hi ⟨t, b, hv, rfl⟩ hJ off hd F' N'
/-- a for loop over zip of a range and a tuple -/
theorem lf_zip_rt {kp : Bool} {x y : Str} {px py tp : Pos} {x1 : Nat} {body : List Stmt} {Q : Flow → Shared → Prop} {l1 l2 : Addr} {n : Nat} {b₀ : Int} {t₀ u₀ v₀ : Tok} {ws : List Value} {src : List (Addr × Obj)} (J : Nat → (Str → Option Value) → List (Addr × Obj) → Prop)
    (hr : IsRange s.heap l1 0 b₀ 1 t₀ u₀ v₀) (hb : b₀ = (n : Int)) (hn : n ≤ 1000) (T2 : TupSrc h₀ l2 ws src)
    (hh : A.handled = none) (F : Fr h₀ env.locals s.heap m) (N : News h₀ env.locals s.heap news) (hx : env.kindOf x = some .local) (hy : env.kindOf y = some .local) (hp : (env.scope.kind == .class || (env.scope.kind == .module && env.locals != env.globals)) = false)
    (hj : J 0 m news) (hsrc : ∀ i m nx, J i m nx → ∀ p ∈ src, p ∈ nx)
    (turn : LfTurn kp prog w A h₀ env body (min n ws.length) (fun i f => ∃ t v, ws[i]? = some v ∧ f = prFm x y (.int (i : Int) t) v) J s)
    (done : ∀ m' nx h tk dr, J (min n ws.length) m' nx → (kp = true → dr = s.drawn) → Fr h₀ env.locals h m' → News h₀ env.locals h nx → Q .next { s with heap := h, toks := tk, drawn := dr }) :
    wpAny (model prog w) A (call (.type "zip") [.ref l1, .ref l2]) (fun xv s₁ => wpAny (model prog w) A (pyIter xv) (fun it s₂ => LfAt kp prog w A h₀ env (.Tuple [.Name x px, .Name y py] x1 tp) body Q it s₂) E s₁) E s := by
  obtain ⟨hl2, hn2, hlt2, hL2⟩ := T2.at F N (hsrc _ _ _ hj)
  have hLlt : env.locals < s.heap.objs.size := F.ns.lt
  refine call_zip_rt hr hb hn hl2 fun h' hz hTI hTO hi1 hi2 hk => ?_
  refine wpAny_pyIter_zip hz ?_
  have D1 := dr_range (prog := prog) (w := w) (A := A.in1) hh s.heap.objs.size n
  have D2 := dr_tuple (prog := prog) (w := w) (A := A.in1) hh (s.heap.objs.size + 1) l2 (Nat.ne_of_lt (Nat.lt_succ_of_lt hlt2)) ws.toArray
  rw [List.size_toArray] at D2
  have Z := zapart_new (n := s.heap.objs.size) (f1 := []) (f2 := [l2]) (fun b hb => nomatch hb) (fun b hb => by rw [List.mem_singleton.mp hb]; exact hlt2)
  have W := zip_walks Z D1 D2
  have pv : ∀ b ∈ ([s.heap.objs.size + 4, s.heap.objs.size + 2, s.heap.objs.size + 3, s.heap.objs.size, s.heap.objs.size + 1] : List Nat), s.heap.objs.size ≤ b := fun b hb => by
    rcases of_mem5 hb with rfl | rfl | rfl | rfl | rfl <;> first | exact Nat.le_add_right _ _ | exact Nat.le_refl _
  refine ⟨_, [s.heap.objs.size + 4, s.heap.objs.size + 2, s.heap.objs.size + 3, s.heap.objs.size, s.heap.objs.size + 1], min n ws.length, _, _, src, news, J, m, Steps.pair (P := fun i a b => ∃ t, a = .int (i : Int) t ∧ ws[i]? = some b) W (fun i vals hv => ?_) hh (fun b hb => ?_) (fun i h st b hb => ?_) (fun hb => ?_) hx hy hp,
    fun b hb => ?_, ⟨hz, hTI, ⟨_, _, hTO⟩, by simpa using hi1, ⟨hi2, hl2.at fun o e => hk _ o e⟩⟩, fun b hb => ⟨none_ge F _ (pv b hb), fun q => absurd (pv b hb) (by rw [q]; exact Nat.not_le.mpr hLlt)⟩, F.keeps hk, N.grown hk, fun p hp q => absurd (pv _ q) (Nat.not_le.mpr (Heap.lt_size (N p hp).1)), hj, hsrc, ?_, done⟩
  · obtain ⟨a, b, ⟨t, h1⟩, h2, rfl⟩ := hv
    exact ⟨a, b, rfl, t, h1, by simpa using h2⟩
  · rcases of_mem4 hb with rfl | rfl | rfl | rfl <;> first | exact .head _ | exact mem1 | exact mem2 | exact mem3 | exact mem4 | exact mem5
  · obtain ⟨z1, z2, ⟨a, b', z3⟩, z4, z5⟩ := st
    rcases of_mem5 hb with rfl | rfl | rfl | rfl | rfl
    · exact ⟨_, z1⟩
    · exact ⟨_, z2⟩
    · exact ⟨_, z3⟩
    · exact D1.live _ _ z4
    · exact D2.live _ _ z5
  · rcases of_mem8 hb with hb | hb | hb | hb | hb | hb | hb | hb
    all_goals first | exact hL2 hb.symm | exact absurd hLlt (Nat.not_lt.mpr (by rw [hb]; first | exact Nat.le_add_right _ _ | exact Nat.le_refl _))
  · rcases of_mem8 hb with rfl | rfl | rfl | rfl | rfl | rfl | rfl | rfl
    · exact .inl (by first | exact .head _ | exact mem1 | exact mem2 | exact mem3 | exact mem4 | exact mem5 | simp)
    · exact .inl (by first | exact .head _ | exact mem1 | exact mem2 | exact mem3 | exact mem4 | exact mem5 | simp)
    · exact .inl (by first | exact .head _ | exact mem1 | exact mem2 | exact mem3 | exact mem4 | exact mem5 | simp)
    · exact .inl (by first | exact .head _ | exact mem1 | exact mem2 | exact mem3 | exact mem4 | exact mem5 | simp)
    · exact .inl (by first | exact .head _ | exact mem1 | exact mem2 | exact mem3 | exact mem4 | exact mem5 | simp)
    · exact .inl (by first | exact .head _ | exact mem1 | exact mem2 | exact mem3 | exact mem4 | exact mem5 | simp)
    · exact .inl (by first | exact .head _ | exact mem1 | exact mem2 | exact mem3 | exact mem4 | exact mem5 | simp)
    · exact .inr T2.fp
  · rintro i f m₁ nx own h tk dr E' hi ⟨a, b, ⟨t, rfl, hv⟩, rfl⟩ hJ off hd F' N'
    exact turn i _ m₁ nx own h tk dr E' hi ⟨t, b, hv, rfl⟩ hJ off hd F' N'
/-- a comprehension over an enumerated tuple -/
theorem lt_enum_tuple {elt : PySem.Expr} {x y : Str} {px py tp : Pos} {x1 : Nat} {scope : Scope} {cl : List (Str × Addr)} {Q : Value → Shared → Prop} {l : Addr} {vs : List Value} {src : List (Addr × Obj)} (T : TupSrc h₀ l vs src) (J : Nat → List Value → List (Addr × Obj) → Prop)
    (hh : A.handled = none) (F : Fr h₀ env.locals s.heap m) (N : News h₀ env.locals s.heap news) (hsz : vs.length ≤ 1000)
    (hx : scope.names.lookup x = some .local) (hy : scope.names.lookup y = some .local) (hkind : scope.kind = .function)
    (hj : J 0 [] news) (hsrc : ∀ i ys nx, J i ys nx → ∀ p ∈ src, p ∈ nx) (hlen : ∀ i ys nx, J i ys nx → ys.length ≤ i)
    (turn : LtTurn prog w A h₀ env m scope cl elt vs.length (fun i f => ∃ t v, vs[i]? = some v ∧ f = prFm x y (.int (i : Int) t) v) J s)
    (done : ∀ ys nx D k h tk, J vs.length ys nx → Fr h₀ env.locals h m → News h₀ env.locals h ((D, PySem.W.listOf (List.toArray ys) k) :: nx) → (∀ p ∈ nx, p.1 ≠ D) → Q (.ref D) { s with heap := h, toks := tk }) :
    wpAny (model prog w) A (call (.type "enumerate") [.ref l]) (fun xv s₁ => wpAny (model prog w) A (pyIter xv) (fun it s₂ => LtAt prog w A h₀ env m scope cl (.Tuple [.Name x px, .Name y py] x1 tp) elt Q it s₂) E s₁) E s := by
  obtain ⟨hls, hne, hlt, hlL⟩ := T.at F N (hsrc _ _ _ hj)
  have hLlt : env.locals < s.heap.objs.size := F.ns.lt
  refine call_enumerate_tuple hls fun h' he hit hk => ?_
  refine wpAny_pyIter_enum he ?_
  have D1 := dr_tuple (prog := prog) (w := w) (A := A.in1) hh s.heap.objs.size l (Nat.ne_of_lt hlt) vs.toArray
  rw [List.size_toArray] at D1
  have W := WalksT.enumerateD D1 (s.heap.objs.size + 1) (Nat.succ_ne_self _) (by simp only [List.mem_cons, List.not_mem_nil, or_false]; rintro (q | q); exact Nat.succ_ne_self _ q; exact absurd hlt (by rw [← q]; exact Nat.not_lt.mpr (Nat.le_succ _))) (by simp)
  have pv : ∀ b ∈ ([s.heap.objs.size + 1, s.heap.objs.size] : List Nat), s.heap.objs.size ≤ b := fun b hb => by
    rcases of_mem2 hb with rfl | rfl <;> first | exact Nat.le_add_right _ _ | exact Nat.le_refl _
  refine ⟨_, [s.heap.objs.size + 1, s.heap.objs.size], vs.length, _, _, src, news, J, fun C hC => Steps.pair (P := fun i a b => ∃ t, a = .int (i : Int) t ∧ vs[i]? = some b) W (fun i vals hv => ?_) hh (fun b hb => hb) (fun i h st b hb => ?_) hC (lookup_relabel_local hx) (lookup_relabel_local hy) (by simp [compEnvC, relabel, hkind]),
    fun b hb => ?_, hsz, ⟨⟨_, he⟩, hit, hls.at fun o e => hk _ o e⟩, fun b hb => ⟨none_ge F _ (pv b hb), fun q => absurd (pv b hb) (by rw [q]; exact Nat.not_le.mpr hLlt)⟩, F.keeps hk, N.grown hk, fun p hp q => absurd (pv _ q) (Nat.not_le.mpr (Heap.lt_size (N p hp).1)), hj, hsrc, hlen, ?_, done⟩
  · obtain ⟨t, v, h1, rfl⟩ := hv
    exact ⟨_, _, rfl, t, rfl, by simpa using h1⟩
  · obtain ⟨⟨_, z1⟩, z2⟩ := st
    rcases of_mem2 hb with rfl | rfl
    · exact ⟨_, z1⟩
    · exact D1.live _ _ z2
  · rcases of_mem3 hb with rfl | rfl | rfl
    · exact .inl (by first | exact .head _ | exact mem1 | exact mem2 | exact mem3 | exact mem4 | exact mem5 | simp)
    · exact .inl (by first | exact .head _ | exact mem1 | exact mem2 | exact mem3 | exact mem4 | exact mem5 | simp)
    · exact .inr T.fp
  · rintro i f ys nx own C m₁ h tk E' hi ⟨a, b, ⟨t, rfl, hv⟩, rfl⟩ hJ off FL FC N'
    exact turn i _ ys nx own C m₁ h tk E' hi ⟨t, b, hv, rfl⟩ hJ off FL FC N'
end

noncomputable def bs : Nat → Str
  | 0 => Str.ofString "M"
  | 1 => Str.ofString "C"
  | 2 => Str.ofString "T"
  | 3 => Str.ofString "A"
  | 4 => Str.ofString "R"
  | _ => Str.ofString "E"
noncomputable def sn (i : Nat) : Str := Str.ofString "S" ++ Str.ofString (toString (i : Int))
noncomputable def NmOk (k : Nat) (x : Str) : Prop := (∃ i, i < k ∧ x = sn i) ∨ ∃ j, j < 6 ∧ x = bs j
noncomputable def basesV : List Value := [.str (Str.ofString "M") 691, .str (Str.ofString "C") 692, .str (Str.ofString "T") 693, .str (Str.ofString "A") 694, .str (Str.ofString "R") 695, .str (Str.ofString "E") 696]
theorem bases_at (w : World) : (hd.heap_1 w.params).lookup 399 = some ⟨.type "tuple", none, .seq (List.toArray basesV) 0, #[]⟩ := by k_is
theorem bases_get : ∀ i < 6, ∃ t, basesV[i]? = some (.str (bs i) t) := fun i hi => ⟨691 + i, by
  rw [show basesV = (List.range 6).map fun i => Value.str (bs i) (691 + i) from rfl, List.getElem?_map, List.getElem?_range hi]; rfl⟩
theorem bases_tup {w : World} {h₀ h : Heap} {L : Addr} {m : Str → Option Value} (X : (hd.heap_1 w.params).In h₀) (F : Fr h₀ L h m) : IsTup h 399 (List.toArray basesV) := ⟨_, F.keep _ _ (X _ _ (bases_at w)), rfl, _, rfl⟩
theorem seqIx {k : Int} {n : Nat} (h0 : 0 ≤ k) (hz : k < n) : seqIndex? k n = some k.toNat := by
  unfold seqIndex?
  have h1 : ¬ k < 0 := by omega
  simp only [h1, if_false]
  rw [if_pos (by simp [h0, hz])]
theorem item_tup_any {prog : Program} {w : World} {A : Around} {E : Value → Shared → Prop} {s : Shared} {value slice : PySem.Expr} {t : Addr} {vs : List Value} {k : Int} {u : Tok} {x : Value} {Q : Value → Shared → Prop} (ht : IsTup s.heap t (List.toArray vs)) (h0 : 0 ≤ k) (hz : k < vs.length) (hl : vs.length ≤ 1000) (hx : vs[k.toNat]? = some x) (h : Q x s)
    (hs : subscripted slice false (.ref t) (.int k u) = operate [.ref t, .int k u] (getItem (.ref t) (.int k u)) ) :
    wpAny (model prog w) A (subscriptTail value slice (.ref t) (.int k u)) Q E s :=
  tail_any ht.typeIs slot_tuple_getitem.lookup (getItem_tuple ht (by omega) (by omega) (j := k.toNat) (by rw [List.size_toArray]; exact seqIx h0 hz) (by simpa using hx) h) hs
theorem at6 {Q : Nat → Prop} (q0 : Q 0) (q1 : Q 1) (q2 : Q 2) (q3 : Q 3) (q4 : Q 4) (q5 : Q 5) : ∀ i < 6, Q i := fun i hi => by
  rcases i with _ | _ | _ | _ | _ | _ | i
  · exact q0
  · exact q1
  · exact q2
  · exact q3
  · exact q4
  · exact q5
  · exact absurd hi (Nat.not_lt.mpr (Nat.le_add_left 6 i))
theorem pick6 {P : Int → Prop} {z0 z1 z2 z3 z4 z5 : Int} {t0 t1 t2 t3 t4 t5 : Tok} (h0 : P z0) (h1 : P z1) (h2 : P z2) (h3 : P z3) (h4 : P z4) (h5 : P z5) : ∀ i < 6, ∃ b t, [Value.int z0 t0, .int z1 t1, .int z2 t2, .int z3 t3, .int z4 t4, .int z5 t5][i]? = some (.int b t) ∧ P b :=
  at6 ⟨_, _, rfl, h0⟩ ⟨_, _, rfl, h1⟩ ⟨_, _, rfl, h2⟩ ⟨_, _, rfl, h3⟩ ⟨_, _, rfl, h4⟩ ⟨_, _, rfl, h5⟩
theorem get3 {P : Int → Prop} {z0 z1 z2 : Int} {t0 t1 t2 : Tok} (h0 : P z0) (h1 : P z1) (h2 : P z2) {i : Nat} {v : Value} (h : [Value.int z0 t0, .int z1 t1, .int z2 t2][i]? = some v) : ∃ b t, v = .int b t ∧ P b := by
  match i with
  | 0 => cases h; exact ⟨_, _, rfl, h0⟩
  | 1 => cases h; exact ⟨_, _, rfl, h1⟩
  | 2 => cases h; exact ⟨_, _, rfl, h2⟩
  | i + 3 => simp at h
noncomputable abbrev rgO (n : Int) (t u v : Tok) : Obj := { cls := .type "range", data := .fields #[.int 0 t, .int n u, .int 1 v] }
theorem range_M {prog : Program} {w : World} {A : Around} {E : Value → Shared → Prop} {s : Shared} {h₀ : Heap} {L : Addr} {m : Str → Option Value} {news : List (Addr × Obj)} {n : Int} {t : Tok} {Q : Value → Shared → Prop} (F : Fr h₀ L s.heap m) (N : News h₀ L s.heap news)
    (h : ∀ r t₁ u₁ v₁ h' tk, Fr h₀ L h' m → News h₀ L h' ((r, rgO n t₁ u₁ v₁) :: news) → (∀ q ∈ news, q.1 < r) → Q (.ref r) { s with heap := h', toks := tk }) : wpAny (model prog w) A (call (.type "range") [.int n t]) Q E s :=
  range1_rows F N fun h' tk t₁ u₁ v₁ hr F' N' hk => h _ t₁ u₁ v₁ h' tk F' (fun p hp => by
    rcases List.mem_cons.mp hp with rfl | hp
    · exact ⟨hr, Ne.symm (Nat.ne_of_lt F.ns.lt), none_at F⟩
    · exact N' p hp) fun q hq => Heap.lt_size (N q hq).1
theorem item6 {prog : Program} {w : World} {A : Around} {E : Value → Shared → Prop} {s : Shared} {h₀ : Heap} {L : Addr} {led : List (Addr × Obj)} {value slice : PySem.Expr} {t : Addr} {k : Int} {u : Tok} {Q : Value → Shared → Prop} (P : Int → Prop) {z0 z1 z2 z3 z4 z5 : Int} {t0 t1 t2 t3 t4 t5 : Tok}
    (N : News h₀ L s.heap ((t, { cls := .type "tuple", data := .seq #[.int z0 t0, .int z1 t1, .int z2 t2, .int z3 t3, .int z4 t4, .int z5 t5] }) :: led)) (h0 : 0 ≤ k) (hz : k < 6) (p0 : P z0) (p1 : P z1) (p2 : P z2) (p3 : P z3) (p4 : P z4) (p5 : P z5) (h : ∀ b tb, P b → Q (.int b tb) s)
    (hs : subscripted slice false (.ref t) (.int k u) = operate [.ref t, .int k u] (getItem (.ref t) (.int k u)) ) :
    wpAny (model prog w) A (subscriptTail value slice (.ref t) (.int k u)) Q E s := by
  obtain ⟨b, tb, hb, hP⟩ := pick6 (t0 := t0) (t1 := t1) (t2 := t2) (t3 := t3) (t4 := t4) (t5 := t5) p0 p1 p2 p3 p4 p5 k.toNat (by omega)
  exact item_tup_any (vs := [.int z0 t0, .int z1 t1, .int z2 t2, .int z3 t3, .int z4 t4, .int z5 t5]) (News.isTup N (.head _)) h0 hz (by simp) hb (h b tb hP) hs
theorem itemB {w : World} {A : Around} {E : Value → Shared → Prop} {s : Shared} {h₀ : Heap} {L : Addr} {m : Str → Option Value} {value slice : PySem.Expr} {k : Int} {u : Tok} {Q : Value → Shared → Prop} (X : (hd.heap_1 w.params).In h₀) (F : Fr h₀ L s.heap m) (h0 : 0 ≤ k) (hz : k < 6) (h : ∀ tb, Q (.str (bs k.toNat) tb) s)
    (hs : subscripted slice false (.ref 399) (.int k u) = operate [.ref 399, .int k u] (getItem (.ref 399) (.int k u)) ) :
    wpAny (model PG w) A (subscriptTail value slice (.ref 399) (.int k u)) Q E s := by
  obtain ⟨tb, hb⟩ := bases_get k.toNat (by omega)
  exact item_tup_any (bases_tup X F) h0 hz (by decide) hb (h tb) hs
theorem zip_led {h₀ h : Heap} {L : Addr} {D r fl : Nat} {a b c n : Int} {ta tb tc t u v : Tok} {o : Obj} {news : List (Addr × Obj)} (N : News h₀ L h ((D, { cls := .type "tuple", data := .seq #[.int a ta, .int b tb, .int c tc] }) :: (r, rgO n t u v) :: (fl, o) :: news)) :
    ∃ (D' r' fl' : Nat) (ws : List Value) (ro : Obj) (t' u' v' : Tok), D' = D ∧ r' = r ∧ fl' = fl ∧ (∃ ta tb tc, ws = [.int a ta, .int b tb, .int c tc]) ∧ News h₀ L h ((D', tupO ws) :: (r', ro) :: (fl', o) :: news) ∧ IsRange h r' 0 n 1 t' u' v' :=
  ⟨_, _, _, _, _, _, _, _, rfl, rfl, rfl, ⟨ta, tb, tc, rfl⟩, N, (N _ (.tail _ (.head _))).1⟩
section
theorem word35 : True := by
  k_with "call type:range" => (k_here; k_dflt (refine' range_M ?Fw68 ?Nw68 ?_; (case Fw68 => k_asm); (case Nw68 => k_asm); k_whole); intro r9z9 t9z9 u9z9 v9z9 h9z9 tk9z9 F9z9 N9z9 lt9z9; (try dsimp only at F9z9 N9z9); (try k_lt lt9z9))
  k_with "call type:zip" => refine hold ?_
  k_with "exec For Tuple Call cons nil" => refine hold ?_
  k_with "subscriptTail" => (k_here; (with_reducible show wpAny _ _ (subscriptTail _ _ (Value.ref _) (Value.int _ _)) _ _ _); refine hold ?_)
  trivial
variable {w : World} {p : Program} {loose : List Str} {mean : ExcName → Option Value} {mg mb : Str → Option Value}
    {dp un : Nat} {gd : Option (List Code)} {cn : Str} {cs : Scope} {a : Addr} {ccd : Value} {cl : List (Str × Addr)} {outer : List Env} {A₀ : Around} {base h₀ : Heap} {L : Addr} {m : Str → Option Value} {news : List (Addr × Obj)} {s : Shared} {Q E : Value → Shared → Prop}
    (B : Below A₀ base outer h₀) (F : Fr h₀ L s.heap m) (X : (hd.heap_1 w.params).In h₀) (N : News h₀ L s.heap news) (T : Top p loose mean mg mb h₀) (hk : cs.kind = .function)
include B F X N T hk
theorem over_ {cell : Int} {k : Nat} {t1 t2 : Tok} (h0 : 0 ≤ cell) (h1 : cell < 3888) (hk20 : k ≤ 20) (hd : dp + 8 < recursionLimit) (hu : un + 80 < cLine)
    (ret : ∀ D vs xs h' tk', Fr h₀ L h' m → News h₀ L h' ((D, tupO vs) :: news) → (∀ q ∈ news, q.1 < D) → Strs vs xs → 1 ≤ xs.length → xs.length ≤ 3 → (∀ x ∈ xs, NmOk k x) → Q (.ref D) { s with heap := h', toks := tk' }) :
    wpAny (model PG w) (ktrTop dp un gd cn cs L a ccd cl outer) (call (.ref 413) [.int cell t1, .int (k : Int) t2]) Q E s := by
  refine wpAny_call ?_
  k_dflt cell_enter
  k_steps
  unfold Hold
  rename Fr _ _ _ _ => Fx
  refine lf_ForM true Fx ?_ (by intro _; rfl)
  k_steps
  unfold Hold
  rename Fr _ _ _ _ => Fx
  rename News _ _ _ _ => Nx
  have hf0 := Int.fmod_nonneg_of_pos cell (b := 3) (by decide)
  have hf1 := Int.fmod_lt_of_pos cell (b := 3) (by decide)
  obtain ⟨nn, hnn, hn1, hn3⟩ : ∃ n : Nat, 1 + cell.fmod 3 = (n : Int) ∧ 1 ≤ n ∧ n ≤ 3 := ⟨(1 + cell.fmod 3).toNat, by omega, by omega, by omega⟩
  obtain ⟨D, r, fl, ws, ro, t', u', v', e1, e2, e3, ⟨ta, tb, tc, hws⟩, Ny, hr⟩ := zip_led Nx
  subst e1 e2 e3
  clear Nx
  rename (∀ p : Addr × Obj, p ∈ news → p.1 < fl) => lfl
  rename (_ < _ ∧ _ < _ ∧ AllLt _ news) => lD
  rename (_ < _ ∧ AllLt _ news) => lr
  have hDf : (D : Nat) ≠ fl := Nat.ne_of_gt lD.2.1
  have hrf : (r : Nat) ≠ fl := Nat.ne_of_gt lr.1
  refine lf_zip_rt (ws := ws) (src := [(D, tupO ws)]) (fun i m₁ nx => ∃ vf nf xs, MIs m₁ [(Str.ofString "cell", .int cell t1), (Str.ofString "k", .int (k : Int) t2), (Str.ofString "found", .ref fl)] ∧ nx = (D, tupO ws) :: (r, ro) :: (fl, PySem.W.listOf (List.toArray vf) nf) :: news ∧ Strs vf xs ∧ xs.length = i ∧ ∀ x ∈ xs, NmOk k x) hr hnn (by omega) .led (by with_unfolding_all rfl) Fx Ny (by rfl) (by rfl) (by rfl) ⟨[], 0, [], by tb_start, rfl, .nil, rfl, fun _ h => nomatch h⟩ ?_ ?_ ?_
  · rintro i m₁ nx ⟨vf, nf, xs, _, rfl, _⟩ p hp
    rw [List.mem_singleton.mp hp]
    exact .head _
  · rintro i f m₁ nx own h tk dr E' hi ⟨tp, v, hv, rfl⟩ ⟨vf, nf, xs, hm, rfl, hvf, hlx, hxs⟩ off hdr F' N'
    have hdr' := hdr rfl
    subst hdr'
    obtain ⟨wd, tw, rfl, hw0, hw1⟩ := get3 (P := fun b => 3 ≤ b ∧ b ≤ 108) (by decide) (by decide) (by decide) (hws ▸ hv)
    have hm1 := hm.one
    have hm2 := hm.rest.one
    have hm3 := hm.rest.rest.one
    have hi3 : i ≤ 2 := by rw [hws] at hi; simp at hi; omega
    clear hm Fx Ny
    simp only [List.cons_append] at N'
    k_steps
    unfold Hold
    rename News _ _ _ _ => N7
    have hx0 := Int.fmod_nonneg_of_pos (cell.fdiv wd) (b := 6) (by decide)
    have hx1 := Int.fmod_lt_of_pos (cell.fdiv wd) (b := 6) (by decide)
    refine item6 (fun b => b = 1 ∨ b = 2 ∨ b = 4 ∨ b = (k : Int) + 1) N7 hx0 hx1 (by simp) (by simp) (by simp) (by simp) (by simp) (by simp) (fun b tb hb => ?_) (by with_unfolding_all rfl)
    have hb1 : 1 ≤ b ∧ b ≤ (k : Int) + 4 := by omega
    have hnf : ∀ p ∈ news ++ own, p.1 ≠ fl := ne_app (fun p hp => Nat.ne_of_lt (lfl p hp)) (off_of off (.tail _ (.tail _ (.head _))))
    have hlf := hvf.len
    have hvz : vf.length ≤ 1000 := by omega
    k_steps
    · rename News _ _ _ _ => N9
      rename Fr _ _ _ _ => F9
      refine LfEnd.intro F9 N9 ⟨vf ++ [_], _, xs ++ [_], by tb_start, rfl, hvf.snoc _ _, by simp [hlx], ?_⟩ off (fun p hp => .tail _ (List.mem_append_left own hp)) (fun p hp => .tail _ (.tail _ (.tail _ (.tail _ (List.mem_append_right _ hp)))))
      intro x hx
      rcases List.mem_append.mp hx with hx | hx
      · exact hxs x hx
      · rw [List.mem_singleton.mp hx]
        refine .inl ⟨((k : Int) - b).toNat, by omega, ?_⟩
        unfold sn
        rw [Int.toNat_of_nonneg (by omega)]
    · unfold Hold
      rename Fr _ _ _ _ => F9
      have hy0 := Int.fmod_nonneg_of_pos (cell.fdiv 648 + i) (b := 6) (by decide)
      have hy1 := Int.fmod_lt_of_pos (cell.fdiv 648 + i) (b := 6) (by decide)
      refine itemB (by k_asm) F9 hy0 hy1 (fun tb => ?_) (by with_unfolding_all rfl)
      k_steps
      rename News _ _ _ _ => N9
      rename Fr _ _ _ _ => F9
      refine LfEnd.intro F9 N9 ⟨vf ++ [_], _, xs ++ [_], by tb_start, rfl, hvf.snoc _ _, by simp [hlx], ?_⟩ off (fun p hp => .tail _ (List.mem_append_left own hp)) (fun p hp => .tail _ (.tail _ (.tail _ (.tail _ (List.mem_append_right _ hp)))))
      intro x hx
      rcases List.mem_append.mp hx with hx | hx
      · exact hxs x hx
      · rw [List.mem_singleton.mp hx]
        exact .inr ⟨_, by omega, rfl⟩
  · rintro m₁ nx h tk dr ⟨vf, nf, xs, hm, rfl, hvf, hlx, hxs⟩ hdr F' N'
    have hdr' := hdr rfl
    subst hdr'
    have hm1 := hm.one
    have hm2 := hm.rest.one
    have hm3 := hm.rest.rest.one
    clear hm Fx Ny
    have hlw : ws.length = 3 := by rw [hws]; rfl
    rw [hlw] at hlx
    have hlf := hvf.len
    have hvz : vf.length ≤ 1000 := by omega
    k_steps
    rename (∀ q : Addr × Obj, q ∈ _ → q.1 < _) => lt9
    exact ret _ vf xs _ _ (by k_asm) (by refine' cb_drop ?n ?s; (case n => k_asm); (case s => intro p hp; rcases List.mem_cons.mp hp with rfl | hp; exact .head _; k_mem)) (fun q hq => lt9 q (.tail _ (.tail _ (.tail _ hq)))) hvf (by omega) (by omega) hxs
end

theorem word36 : True := by
  k_with_none
  k_with "omega" => first | (with_reducible (first | assumption | exact ge0 _ | exact cl_lt (by with_unfolding_all rfl) | exact room_dp (by assumption) (by with_unfolding_all rfl) | exact room_dp0 (by assumption) (by with_unfolding_all rfl) | exact unit_dp (by assumption) (by with_unfolding_all rfl) | exact unit_dp0 (by assumption) (by with_unfolding_all rfl) | exact le_up (by assumption) (by with_unfolding_all rfl) | exact lt_up (by assumption) (by with_unfolding_all rfl) | exact lt_of_le_up (by assumption) (by with_unfolding_all rfl) | exact eq_le_up (by assumption) (by assumption) (by with_unfolding_all rfl) | exact clo_lt (by with_unfolding_all rfl) | exact clo_le (by with_unfolding_all rfl) | exact Nat.ne_of_gt (by assumption) | exact Nat.ne_of_lt (by assumption) | exact ne_s1 _ | exact Ne.symm (ne_s1 _) | exact ne_s2 _ | exact Ne.symm (ne_s2 _) | exact ne_s3 _ | exact Ne.symm (ne_s3 _) | exact int_gt (by decide) | exact int_lt (by assumption) (by decide) | exact int_le (by assumption) (by decide) | exact le_lt_up (by assumption) (by assumption) (by with_unfolding_all rfl) | exact le_le_up (by assumption) (by assumption) (by with_unfolding_all rfl))) | lia | omega (splitDisjunctions := true)
  k_with "k_mem" => first | assumption | exact List.Mem.head _ | (refine' List.Mem.tail _ ?_; k_mem) | (refine List.mem_append_left _ ?_; k_mem) | (refine List.mem_append_right _ ?_; k_mem)
  k_with "k_all" => exact ne_all (by assumption)
  k_with "call builtin:list.append" => (k_here; (with_reducible show wpAny _ _ (call (Value.builtin _) [Value.ref _, _]) _ _ _); k_dflt (refine' append_M ?k1w2 ?k2w2 ?k3w2 ?zw2 ?_; (case k1w2 => k_asm); (case k2w2 => k_asm); (case k3w2 => k_updF); (case zw2 => ((try simp only [List.length_append, List.length_cons, List.length_nil] at *); omega)); k_whole); intro hz9 Fz9 Nz9; (try dsimp only at Nz9); (try k_sweep))
  k_with "subscriptTail" => (k_here; (with_reducible show wpAny _ _ (subscriptTail _ _ (Value.ref _) (Value.str _ _)) _ _ _); k_dflt (refine' kda_item (knd := PySem.strKind _ _) (by k_asm) (by k_mem) (by k_asm) (strKind_is _ _ _ _) (by k_asm) ?_; k_whole))
  k_with "tb_rel" => first | assumption | exact if_pos rfl | (refine Eq.trans (if_neg (by decide)) ?_; tb_rel) | rfl
  k_with "eval Name" => (k_here; k_dflt (refine' nameX_L (by k_asm) (by first | rfl | tb_rel) ?_ (by rfl) (by rfl); k_whole))
  k_with "tb_start" => first | exact MIs.nil | (refine MIs.cons (by first | rfl | tb_rel) ?_; tb_start)
  k_with "exec While" => refine hold ?_
  k_with "exec While Compare cons nil" => refine hold ?_
  k_with "call ref" => (k_here; (with_reducible show wpAny _ _ (call (Value.ref 314) [Value.ref _, Value.str _ _]) _ _ _); k_dflt (refine' parent_ ?Bw9 ?Fw9 ?Xw9 ?Nw9 ?Tw9 ?kKw9 ?hxw9 ?hdxw9 ?hew9 ?hoew9 ?hesw9 ?hdw9 ?huw9 ?hvw9 ?hiw9 ?_; (case Bw9 => k_asm); (case Fw9 => k_asm); (case Xw9 => k_asm); (case Nw9 => k_asm); (case Tw9 => k_asm); (case kKw9 => first | exact rfl | assumption); (case hxw9 => k_mem); (case hdxw9 => k_mem); (case hesw9 => assumption); (case hew9 => k_mem); (case hoew9 => assumption); (case hvw9 => assumption); (case hiw9 => first | assumption | (refine' ItemIn.mono ?s9w9 ?i9w9; (case i9w9 => assumption); (case s9w9 => intro p9z9 hp9z9; k_mem))); (case hdw9 => ktr_room); (case huw9 => ktr_units)); intro t9z9 h9z9 tk9z9 F9z9 N9z9)
  k_with "call ref" => (k_here; (with_reducible show wpAny _ _ (call (Value.ref 342) [Value.ref _, Value.str _ _]) _ _ _); k_dflt (refine' above_ ?Bw10 ?Fw10 ?Xw10 ?Nw10 ?Tw10 ?kKw10 ?hxw10 ?hdxw10 ?hew10 ?hoew10 ?hesw10 ?hdw10 ?huw10 ?hupw10 ?hclw10 ?_; (case Bw10 => k_asm); (case Fw10 => k_asm); (case Xw10 => k_asm); (case Nw10 => k_asm); (case Tw10 => k_asm); (case kKw10 => first | exact rfl | assumption); (case hxw10 => k_mem); (case hdxw10 => k_mem); (case hesw10 => assumption); (case hew10 => k_mem); (case hoew10 => assumption); (case hupw10 => first | assumption | (refine' Up.mono ?s9w10 ?i9w10; (case i9w10 => assumption); (case s9w10 => intro p9z9 hp9z9; k_mem))); (case hdw10 => ktr_room); (case huw10 => ktr_units); (case hclw10 => first | assumption | omega); k_whole); intro fl9z9 n9z9 vs9z9 h9z9 tk9z9 F9z9 N9z9 lt9z9 hs9z9; (have hl9z9 := Strs.len hs9z9))
  k_with "call type:tuple" => (k_here; (with_reducible show wpAny _ _ (call (Value.type _) [Value.ref _]) _ _ _); k_dflt (refine' call_tuple_tup ?tw11 ?_; (case tw11 => exact News.isTup (by k_asm) (by k_mem))))
  k_with "binaryOp Add ref ref" => (k_here; (with_reducible show wpAny _ _ (binaryOp _ (Value.ref _) (Value.ref _)) _ _ _); k_dflt (refine' add_list_M (by k_asm) (by k_asm) (by k_mem) (by k_mem) (by ((try simp only [List.length_append, List.length_cons, List.length_nil] at *); omega)) ?_; k_whole); intro Dz9 hz9 Fz9 Nz9 l1z9)
  k_with "call builtin:len" => (k_here; (with_reducible show wpAny _ _ (call (Value.builtin "len") [Value.ref _]) _ _ _); k_dflt (refine' len_tup ?tw13 ?zw13 ?_; (case tw13 => exact News.isTup (by k_asm) (by k_mem)); (case zw13 => ((try simp only [List.length_append, List.length_cons, List.length_nil] at *); omega)); k_whole))
  k_with "call ref" => (k_here; (with_reducible show wpAny _ _ (call (Value.ref 321) [Value.ref _, Value.str _ _]) _ _ _); k_dflt (refine' supers_ ?Bw14 ?Fw14 ?Xw14 ?Nw14 ?Tw14 ?kKw14 ?hxw14 ?hdxw14 ?hew14 ?hoew14 ?hesw14 ?hdw14 ?huw14 ?hvw14 ?hiw14  ?_; (case Bw14 => k_asm); (case Fw14 => k_asm); (case Xw14 => k_asm); (case Nw14 => k_asm); (case Tw14 => k_asm); (case kKw14 => first | exact rfl | assumption); (case hxw14 => k_mem); (case hdxw14 => k_mem); (case hesw14 => assumption); (case hew14 => k_mem); (case hoew14 => assumption); (case hvw14 => assumption); (case hiw14 => first | assumption | (refine' ItemIn.mono ?s9w14 ?i9w14; (case i9w14 => assumption); (case s9w14 => intro p9z9 hp9z9; k_mem))); (case hdw14 => ktr_room); (case huw14 => ktr_units);  k_whole); intro d9z9 vs9z9 h9z9 tk9z9 F9z9 N9z9 hd9z9 hvs9z9; (have hl9z9 := Strs.len hvs9z9))
  k_with "call ref" => (k_here; (with_reducible show wpAny _ _ (call (Value.ref 328) [Value.ref _, Value.str _ _]) _ _ _); k_dflt (refine' is_subset_ ?Bw15 ?Fw15 ?Xw15 ?Nw15 ?Tw15 ?kKw15 ?hxw15 ?hdxw15 ?hew15 ?hoew15 ?hesw15 ?hdw15 ?huw15 ?hvw15 ?hiw15 ?zw15 ?_; (case Bw15 => k_asm); (case Fw15 => k_asm); (case Xw15 => k_asm); (case Nw15 => k_asm); (case Tw15 => k_asm); (case kKw15 => first | exact rfl | assumption); (case hxw15 => k_mem); (case hdxw15 => k_mem); (case hesw15 => assumption); (case hew15 => k_mem); (case hoew15 => assumption); (case hvw15 => assumption); (case hiw15 => first | assumption | (refine' ItemIn.mono ?s9w15 ?i9w15; (case i9w15 => assumption); (case s9w15 => intro p9z9 hp9z9; k_mem))); (case hdw15 => ktr_room); (case huw15 => ktr_units); (case zw15 => first | assumption | (simp only [List.length_nil]; omega)); k_whole); intro h9z9 tk9z9 F9z9 N9z9)
  k_with "call ref" => (k_here; (with_reducible show wpAny _ _ (call (Value.ref 262) [Value.ref _, Value.str _ _]) _ _ _); k_dflt (refine' direct_ ?Bw16 ?Fw16 ?Xw16 ?Nw16 ?Tw16 ?kKw16 ?hxw16 ?hdxw16 ?hew16 ?hoew16 ?hesw16 ?hdw16 ?huw16 ?hvw16 ?hiw16 ?zw16 ?_; (case Bw16 => k_asm); (case Fw16 => k_asm); (case Xw16 => k_asm); (case Nw16 => k_asm); (case Tw16 => k_asm); (case kKw16 => first | exact rfl | assumption); (case hxw16 => k_mem); (case hdxw16 => k_mem); (case hesw16 => assumption); (case hew16 => k_mem); (case hoew16 => assumption); (case hvw16 => assumption); (case hiw16 => first | assumption | (refine' ItemIn.mono ?s9w16 ?i9w16; (case i9w16 => assumption); (case s9w16 => intro p9z9 hp9z9; k_mem))); (case hdw16 => ktr_room); (case huw16 => ktr_units); (case zw16 => first | assumption | (simp only [List.length_nil]; omega)); k_whole); intro d9z9 tl9z9 vs9z9 h9z9 tk9z9 F9z9 N9z9 lt9z9 hd9z9 hvs9z9; (have hl9z9 := Strs.len hvs9z9))
  k_with "call ref" => (k_here; (with_reducible show wpAny _ _ (call (Value.ref 349) [Value.ref _, Value.str _ _]) _ _ _); k_dflt (refine' top_sub_ ?Bw17 ?Fw17 ?Xw17 ?Nw17 ?Tw17 ?kKw17 ?hxw17 ?hdxw17 ?hew17 ?hoew17 ?hesw17 ?hdw17 ?huw17 ?hvw17 ?hiw17 ?zw17 ?new17 ?_; (case Bw17 => k_asm); (case Fw17 => k_asm); (case Xw17 => k_asm); (case Nw17 => k_asm); (case Tw17 => k_asm); (case kKw17 => first | exact rfl | assumption); (case hxw17 => k_mem); (case hdxw17 => k_mem); (case hesw17 => assumption); (case hew17 => k_mem); (case hoew17 => assumption); (case hvw17 => assumption); (case hiw17 => first | assumption | (refine' ItemIn.mono ?s9w17 ?i9w17; (case i9w17 => assumption); (case s9w17 => intro p9z9 hp9z9; k_mem))); (case hdw17 => ktr_room); (case huw17 => ktr_units); (case zw17 => first | assumption | (simp only [List.length_nil]; omega)); (case new17 => first | assumption | omega); k_whole); intro t9z9 h9z9 tk9z9 F9z9 N9z9)
  k_with "call ref" => (k_here; (with_reducible show wpAny _ _ (call (Value.ref 349) [Value.ref _, Value.str _ _]) _ _ _); k_dflt (refine' top_base_ ?Bw18 ?Fw18 ?Xw18 ?Nw18 ?Tw18 ?kKw18 ?hxw18 ?hdxw18 ?hew18 ?hoew18 ?hesw18 ?hdw18 ?huw18 ?hvw18 ?hiw18 ?hupw18 ?hclw18 ?_; (case Bw18 => k_asm); (case Fw18 => k_asm); (case Xw18 => k_asm); (case Nw18 => k_asm); (case Tw18 => k_asm); (case kKw18 => first | exact rfl | assumption); (case hxw18 => k_mem); (case hdxw18 => k_mem); (case hesw18 => assumption); (case hew18 => k_mem); (case hoew18 => assumption); (case hvw18 => assumption); (case hiw18 => first | assumption | (refine' ItemIn.mono ?s9w18 ?i9w18; (case i9w18 => assumption); (case s9w18 => intro p9z9 hp9z9; k_mem))); (case hdw18 => ktr_room); (case huw18 => ktr_units); (case hupw18 => first | assumption | (refine' Up.mono ?s9w18 ?i9w18; (case i9w18 => assumption); (case s9w18 => intro p9z9 hp9z9; k_mem))); (case hclw18 => first | assumption | omega); k_whole); intro t9z9 h9z9 tk9z9 F9z9 N9z9)
  k_with "compareOp In str ref" => (k_here; (with_reducible show wpAny _ _ (compareOp CmpOp.In (Value.str _ _) (Value.ref _)) _ _ _); k_dflt (refine' in_list_strs (isList_M ?Nw19 ?mw19) ?iw19 ?_; (case Nw19 => k_asm); (case mw19 => k_mem); (case iw19 => exact Strs.are (by assumption)); k_whole))
  k_with "compareOp NotIn str ref" => (k_here; (with_reducible show wpAny _ _ (compareOp CmpOp.NotIn (Value.str _ _) (Value.ref _)) _ _ _); k_dflt (refine' notin_list_strs (isList_M ?Nw20 ?mw20) ?iw20 ?_; (case Nw20 => k_asm); (case mw20 => k_mem); (case iw20 => exact Strs.are (by assumption)); k_whole))
  k_with "eval ListComp" => refine hold ?_
  k_with "exec Assign cons ListComp" => refine hold ?_
  k_with "CompSrc" => refine hold ?_
  k_with "exec For" => refine hold ?_
  k_with "exec For Name Call" => refine hold ?_
  k_with "exec For Name Call cons nil" => refine hold ?_
  k_with "exec For Name Name" => refine hold ?_
  k_with "exec For Name Name cons nil" => refine hold ?_
  k_with "exec For Name Attribute" => refine hold ?_
  k_with "exec For Name Attribute cons nil" => refine hold ?_
  k_with "exec For Tuple Call" => refine hold ?_
  k_with "exec For Tuple Call cons nil" => refine hold ?_
  k_with "exec For Name Subscript" => refine hold ?_
  k_with "exec For Name Subscript cons nil" => refine hold ?_
  k_with "exec For Name BinOp" => refine hold ?_
  k_with "exec For Name BinOp cons nil" => refine hold ?_
  k_with "ktr_unf" => (refine' code_defC ?k1w37 ?k2w37 ?k3w37 ?k4w37 ?k5w37 ?kAw37 ?kFw37 ?kKw37 ?k6w37 ?k7w37 ?k8w37 ?k9w37 ?kBw37 ?kDw37 ?_ ?c2w37 ?c3w37 ?c4w37; (case kAw37 => exact rfl); (case kFw37 => exact rfl); (case kKw37 => assumption); (case k1w37 => k_asm); (case k2w37 => k_asm); (case k3w37 => k_asm); (case k4w37 => k_asm); (case k5w37 => k_asm); (case k6w37 => k_is); (case k7w37 => k_is); (case k8w37 => ktr_room); (case k9w37 => exact BindsTo.of_eq rfl); (case kBw37 => exact rfl); (case kDw37 => decide +kernel); (case c2w37 => exact rfl); (case c3w37 => exact rfl); (case c4w37 => exact rfl); k_whole; intro gz9 Lz9 hz9 tkz9 cellsz9 FGz9 Fz9 Nz9 Yz9 Bz9 Xz9 Tz9 l1z9; k_cells Yz9; (try simp only [List.cons_append, List.nil_append] at Nz9); (try dsimp only); (try k_lift Bz9); (try k_fold))
  k_with "call ref" => (k_here; (with_reducible show wpAny _ _ (call (Value.ref 123) [Value.ref _, Value.str _ _, Value.str _ _]) _ _ _); k_dflt (refine' is_under_ ?Bw38 ?Fw38 ?Xw38 ?Nw38 ?Tw38 ?kKw38 ?hxw38 ?hdxw38 ?hew38 ?hoew38 ?hesw38 ?hcw38 ?hdcw38 ?hecw38 ?hdw38 ?huw38 ?hupw38 ?hclw38 ?_; (case Bw38 => k_asm); (case Fw38 => k_asm); (case Xw38 => k_asm); (case Nw38 => k_asm); (case Tw38 => k_asm); (case kKw38 => first | exact rfl | assumption); (case hcw38 => k_mem); (case hdcw38 => k_mem); (case hecw38 => assumption); (case hxw38 => k_mem); (case hdxw38 => k_mem); (case hesw38 => assumption); (case hew38 => k_mem); (case hoew38 => assumption); (case hdw38 => ktr_room); (case huw38 => ktr_units); (case hupw38 => first | assumption | (refine' Up.mono ?s9w38 ?i9w38; (case i9w38 => assumption); (case s9w38 => intro p9z9 hp9z9; k_mem))); (case hclw38 => first | assumption | omega); k_whole); intro h9z9 tk9z9 F9z9 N9z9)
  k_with "call ref" => (k_here; (with_reducible show wpAny _ _ (call (Value.ref 130) [Value.ref _, Value.str _ _, Value.str _ _]) _ _ _); k_dflt (refine' narrower_ ?Bw39 ?Fw39 ?Xw39 ?Nw39 ?Tw39 ?kKw39 ?hxw39 ?hdxw39 ?hew39 ?hoew39 ?hesw39 ?hcw39 ?hdcw39 ?hecw39 ?hdw39 ?huw39 ?hupw39 ?hclw39 ?hup'w39 ?hcl'w39 ?_; (case Bw39 => k_asm); (case Fw39 => k_asm); (case Xw39 => k_asm); (case Nw39 => k_asm); (case Tw39 => k_asm); (case kKw39 => first | exact rfl | assumption); (case hcw39 => k_mem); (case hdcw39 => k_mem); (case hecw39 => assumption); (case hxw39 => k_mem); (case hdxw39 => k_mem); (case hesw39 => assumption); (case hew39 => k_mem); (case hoew39 => assumption); (case hdw39 => ktr_room); (case huw39 => ktr_units); (case hupw39 => first | assumption | (refine' Up.mono ?s9w39 ?i9w39; (case i9w39 => assumption); (case s9w39 => intro p9z9 hp9z9; k_mem))); (case hclw39 => first | assumption | omega); (case hup'w39 => first | assumption | (refine' Up.mono ?s9w39 ?i9w39; (case i9w39 => assumption); (case s9w39 => intro p9z9 hp9z9; k_mem))); (case hcl'w39 => first | assumption | omega); k_whole); intro t9z9 h9z9 tk9z9 F9z9 N9z9)
  k_with "eval Name" => (k_here; (with_reducible show wpAny _ _ (eval (Expr.Name _ _) (compEnvC _ _ _ _)) _ _ _); k_dflt (refine' lcx_local (by k_asm) (by first | rfl | tb_rel) ?_ (by rfl) (by rfl) (by decide); k_whole))
  k_with "call type:zip" => refine hold ?_
  k_with "call ref" => (k_here; (with_reducible show wpAny _ _ (call (Value.ref 135) [Value.ref _, Value.ref _, Value.ref _]) _ _ _); k_dflt (refine' common_ ?Bw42 ?Fw42 ?Xw42 ?Nw42 ?Tw42 ?kKw42 ?hxw42 ?hdxw42 ?hew42 ?hoew42 ?hesw42 ?hcw42 ?hdcw42 ?hecw42 ?hdw42 ?huw42 ?hupw42 ?hclw42 ?hup'w42 ?hcl'w42 ?ho1w42 ?ho2w42 ?_ ?_; (case Bw42 => k_asm); (case Fw42 => k_asm); (case Xw42 => k_asm); (case Nw42 => k_asm); (case Tw42 => k_asm); (case kKw42 => first | exact rfl | assumption); (case hcw42 => k_mem); (case hdcw42 => k_mem); (case hecw42 => assumption); (case hxw42 => k_mem); (case hdxw42 => k_mem); (case hesw42 => assumption); (case hew42 => k_mem); (case hoew42 => assumption); (case hdw42 => ktr_room); (case huw42 => ktr_units); (case ho1w42 => k_mem); (case ho2w42 => k_mem); (case hupw42 => first | assumption | (refine' Up.mono ?s9w42 ?i9w42; (case i9w42 => assumption); (case s9w42 => intro p9z9 hp9z9; k_mem))); (case hclw42 => first | assumption | omega); (case hup'w42 => first | assumption | (refine' Up.mono ?s9w42 ?i9w42; (case i9w42 => assumption); (case s9w42 => intro p9z9 hp9z9; k_mem))); (case hcl'w42 => first | assumption | omega); k_whole; first | (intro h9z9 tk9z9 hz9z9 F9z9 N9z9; (try dsimp only at F9z9 N9z9)) | (intro D9z9 t9z9 h9z9 tk9z9 hz9z9 F9z9 N9z9 lt9z9; (try dsimp only at F9z9 N9z9))))
  k_with "compareOp Eq ref ref" => (k_here; (with_reducible show wpAny _ _ (compareOp CmpOp.Eq (Value.ref _) (Value.ref _)) _ _ _); k_dflt (refine' eq_t1 ?Nw43 ?haw43 ?hbw43 ?kaw43 ?kbw43 ?huw43 ?_; (case Nw43 => k_asm); (case haw43 => k_mem); (case hbw43 => k_mem); (case kaw43 => assumption); (case kbw43 => assumption); (case huw43 => ktr_units); k_whole))
  k_with "compareOp NotEq ref ref" => (k_here; (with_reducible show wpAny _ _ (compareOp CmpOp.NotEq (Value.ref _) (Value.ref _)) _ _ _); k_dflt (refine' ne_t1 ?Nw44 ?haw44 ?hbw44 ?kaw44 ?kbw44 ?huw44 ?_; (case Nw44 => k_asm); (case haw44 => k_mem); (case hbw44 => k_mem); (case kaw44 => assumption); (case kbw44 => assumption); (case huw44 => ktr_units); k_whole))
  k_with "compareOp Eq none ref" => (k_here; (with_reducible show wpAny _ _ (compareOp CmpOp.Eq Value.none (Value.ref _)) _ _ _); k_dflt (refine' eq_nt ?Nw45 ?hbw45 ?kbw45 ?huw45 ?_; (case Nw45 => k_asm); (case hbw45 => k_mem); (case kbw45 => assumption); (case huw45 => ktr_units); k_whole))
  k_with "call type:tuple" => (k_here; (with_reducible show wpAny _ _ (call (Value.type _) [Value.ref _]) _ _ _); k_dflt (refine' tuple_list_M ?Fw46 ?Nw46 ?mw46 ?zw46 ?_; (case Fw46 => k_asm); (case Nw46 => k_asm); (case mw46 => k_mem); (case zw46 => first | assumption | omega | ((try simp only [List.length_append, List.length_cons, List.length_nil] at *); omega)); k_whole); intro D9z9 h9z9 F9z9 N9z9 lt9z9; (try dsimp only at F9z9 N9z9))
  k_with "call builtin:len" => (k_here; (with_reducible show wpAny _ _ (call (Value.builtin "len") [Value.ref _]) _ _ _); k_dflt (refine' len_list_M (by k_asm) (by k_mem) (by first | assumption | omega | ((try simp only [List.length_append, List.length_cons, List.length_nil] at *); omega)) ?_; k_whole))
  k_with "call ref" => (k_here; (with_reducible show wpAny _ _ (call (Value.ref 142) [Value.ref _, Value.int _ _]) _ _ _); k_dflt (refine' want_few_ ?Bw48 ?Fw48 ?Xw48 ?Nw48 ?Tw48 ?kKw48 ?hdw48 ?huw48 ?hzw48 ?_; (case Bw48 => k_asm); (case Fw48 => k_asm); (case Xw48 => k_asm); (case Nw48 => k_asm); (case Tw48 => k_asm); (case kKw48 => first | exact rfl | assumption); (case hdw48 => ktr_room); (case huw48 => ktr_units); (case hzw48 => first | assumption | omega); k_whole); intro h9z9 tk9z9 F9z9 N9z9)
  k_with "call type:set" => refine hold ?_
  k_with "call builtin:sorted" => refine hold ?_
  k_with "call ref" => (k_here; (with_reducible show wpAny _ _ (call (Value.ref 154) [Value.ref _, Value.ref _]) _ _ _); refine hold ?_)
  k_with "setItem ref str" => refine hold ?_
  k_with "call builtin:list.pop" => (k_here; (with_reducible show wpAny _ _ (call (Value.builtin _) [Value.ref _]) _ _ _); k_dflt (refine' pop_M ?k1w53 ?k2w53 ?k3w53 ?zw53 ?_; (case k1w53 => k_asm); (case k2w53 => k_asm); (case k3w53 => k_updF); (case zw53 => first | assumption | omega); k_whole); intro hz9 Fz9 Nz9; (try dsimp only at Nz9); (try k_sweep))
  k_with "call builtin:list.extend" => (k_here; (with_reducible show wpAny _ _ (call (Value.builtin _) [Value.ref _, Value.ref _]) _ _ _); k_dflt (refine' extend_M ?k1w54 ?k2w54 ?k3w54 ?kbw54 ?zw54 ?_; (case k1w54 => k_asm); (case k2w54 => k_asm); (case k3w54 => k_updF); (case kbw54 => k_mem); (case zw54 => first | assumption | omega); k_whole); intro hz9 nz9 Fz9 Nz9; (try dsimp only at Nz9); (try k_sweep))
  k_with "compareOp NotIn str ref" => (k_here; (with_reducible show wpAny _ _ (compareOp CmpOp.NotIn (Value.str _ _) (Value.ref _)) _ _ _); k_dflt (first | (refine' kdg_notin (knd := PySem.strKind _ _) ?Nw55 ?mw55 ?dw55 ?low55 (strKind_is _ _ _ _) true ?hbw55 ?_; (case Nw55 => k_asm); (case mw55 => k_mem); (case dw55 => assumption); (case low55 => assumption); (case hbw55 => (rename (valueAt _ _ = _) => hvk9; simp [hvk9])); k_whole) | (refine' kdg_notin (knd := PySem.strKind _ _) ?Nw55 ?mw55 ?dw55 ?low55 (strKind_is _ _ _ _) false ?hbw55 ?_; (case Nw55 => k_asm); (case mw55 => k_mem); (case dw55 => assumption); (case low55 => assumption); (case hbw55 => (rename (valueAt _ _ = _) => hvk9; simp [hvk9])); k_whole)))
  k_with "k_all" => first | assumption | exact ne_all (by assumption)
  k_with "compareOp In str ref" => (k_here; (with_reducible show wpAny _ _ (compareOp CmpOp.In (Value.str _ _) (Value.ref _)) _ _ _); k_dflt (first | (refine' kda_in (knd := PySem.strKind _ _) ?Nw57 ?mw57 ?dw57 ?low57 (strKind_is _ _ _ _) true ?hbw57 ?_; (case Nw57 => k_asm); (case mw57 => k_mem); (case dw57 => assumption); (case low57 => assumption); (case hbw57 => (rename (valueAt _ _ = _) => hvk9; simp [hvk9])); k_whole) | (refine' kda_in (knd := PySem.strKind _ _) ?Nw57 ?mw57 ?dw57 ?low57 (strKind_is _ _ _ _) false ?hbw57 ?_; (case Nw57 => k_asm); (case mw57 => k_mem); (case dw57 => assumption); (case low57 => assumption); (case hbw57 => (rename (valueAt _ _ = _) => hvk9; simp [hvk9])); k_whole)))
  k_with "call type:list" => (k_here; (with_reducible show wpAny _ _ (call (Value.type _) [Value.ref _]) _ _ _); k_dflt (refine' list_list_M ?Fw58 ?Nw58 ?mw58 ?zw58 ?_; (case Fw58 => k_asm); (case Nw58 => k_asm); (case mw58 => k_mem); (case zw58 => first | assumption | omega); k_whole); intro D9z9 c9z9 h9z9 F9z9 N9z9 lt9z9; (try dsimp only at F9z9 N9z9); (try k_lt lt9z9))
  k_with "call builtin:list.remove" => refine hold ?_
  k_with "ktr_units" => (have hcL9z9 := cLine_is; (try simp only [units_under_make, units_in1, units_deeper, Around.mark_units, units_caller] at *); (try dsimp only [ktrTop] at *); omega)
  trivial
theorem updF_app {D : Addr} {o : Obj} {r : List (Addr × Obj)} {g : Obj → List (Addr × Obj)} : ∀ {tl : List (Addr × Obj)}, (∀ p ∈ tl, p.1 ≠ D) → UpdF D o r g → UpdF D o (tl ++ r) (fun o' => tl ++ g o')
  | [], _, U => U
  | p :: tl, h, U => UpdF.tail (h p (.head _)) (updF_app (fun q hq => h q (.tail _ hq)) U)
theorem SigIn.mono {news news' : List (Addr × Obj)} (hs : ∀ p ∈ news, p ∈ news') {v : Value} {name parent : Str} {sup : List Str} (h : SigIn news v name parent sup) : SigIn news' v name parent sup := by
  obtain ⟨it, su, nm, f1, f2, v1, t1, t2, t4, vs, t5, e, a1, a2, a3, a4, a5, a6⟩ := h.ex
  exact ⟨it, su, nm, f1, f2, v1, t1, t2, t4, vs, t5, e, hs _ a1, hs _ a2, hs _ a3, a4, hs _ a5, hs _ a6⟩
theorem Its.mono {news news' : List (Addr × Obj)} (hs : ∀ p ∈ news, p ∈ news') {par : Str → Str} {sup : Str → List Str} {vs : List Value} {ns : List Str} (h : Its news par sup vs ns) : Its news' par sup vs ns := by
  induction h with
  | nil => exact .nil
  | cons hi _ ih => exact .cons (hi.mono hs) ih
theorem Its.snoc {news : List (Addr × Obj)} {par : Str → Str} {sup : Str → List Str} {vs : List Value} {ns : List Str} {v : Value} {o : Str} (h : Its news par sup vs ns) (hi : SigIn news v o (par o) (sup o)) : Its news par sup (vs ++ [v]) (ns ++ [o]) := by
  induction h with
  | nil => exact .cons hi .nil
  | cons hj _ ih => exact .cons hj ih
theorem Its.get {news : List (Addr × Obj)} {par : Str → Str} {sup : Str → List Str} {vs : List Value} {ns : List Str} (h : Its news par sup vs ns) {i : Nat} {o : Str} (ho : ns[i]? = some o) : ∃ v, vs[i]? = some v ∧ SigIn news v o (par o) (sup o) := by
  cases hv : vs[i]? with
  | none =>
    rw [List.getElem?_eq_none_iff, h.len, ← List.getElem?_eq_none_iff, ho] at hv
    cases hv
  | some v =>
    obtain ⟨o', ho', hs⟩ := h.at hv
    rw [ho] at ho'
    cases ho'
    exact ⟨v, rfl, hs⟩
theorem Its.places {news : List (Addr × Obj)} {par : Str → Str} {sup : Str → List Str} {vs : List Value} {ns : List Str} (h : Its news par sup vs ns) : ∀ js : List Nat, Its news par sup (js.filterMap (vs[·]?)) (js.filterMap (ns[·]?))
  | [] => .nil
  | j :: js => by
    have ih := Its.places h js
    cases hn : ns[j]? with
    | some n =>
      obtain ⟨v, hv, hs⟩ := h.get hn
      simp only [List.filterMap_cons, hn, hv]
      exact .cons hs ih
    | none =>
      have hv : vs[j]? = none := by rw [List.getElem?_eq_none_iff] at hn ⊢; rw [h.len]; exact hn
      simp only [List.filterMap_cons, hn, hv]
      exact ih
theorem range_all {α : Type} : ∀ l : List α, (List.range l.length).filterMap (l[·]?) = l
  | [] => rfl
  | a :: r => by
    rw [List.length_cons, List.range_succ_eq_map, List.filterMap_cons]
    simp only [List.getElem?_cons_zero, List.filterMap_map]
    congr 1
    exact (Tab.fm_congr fun i _ => by simp).trans (range_all r)
noncomputable def jsOf (lo hi st : Option Int) (n : Nat) : List Nat := sliceRange (sliceBounds lo hi st n).1 (sliceBounds lo hi st n).2.1 (sliceBounds lo hi st n).2.2
theorem pick_js {vs : List Value} (lo hi st : Option Int) : slicePick (List.toArray vs) lo hi st = ((jsOf lo hi st vs.length).filterMap (vs[·]?)).toArray := by
  unfold slicePick jsOf
  simp
theorem pick_toList {vs : List Value} (lo hi st : Option Int) : (slicePick (List.toArray vs) lo hi st).toList = (jsOf lo hi st vs.length).filterMap (vs[·]?) := by rw [pick_js]
theorem js_rev : ∀ n < 40, ((jsOf none none (some (-1)) n).isPerm (List.range n)) = true := by decide +kernel
theorem js_two : ∀ n < 40, ((jsOf none none (some 2) n ++ jsOf (some 1) none (some 2) n).isPerm (List.range n)) = true := by decide +kernel
theorem its_perm {js : List Nat} {ns : List Str} (h : js.isPerm (List.range ns.length) = true) : (js.filterMap (ns[·]?)).Perm ns := by
  have := (List.isPerm_iff.mp h).filterMap (ns[·]?)
  rwa [range_all] at this
noncomputable def nms (q : Nat) : List Str := (List.range 6).map bs ++ (List.range q).map sn
theorem nms_len (q : Nat) : (nms q).length = 6 + q := by simp [nms]
/-- the parts: tuples of names -/
inductive Prts (news : List (Addr × Obj)) : List Value → List (List Str) → Prop
  | nil : Prts news [] []
  | cons {a : Addr} {vs : List Value} {xs : List Str} {us : List Value} {os : List (List Str)} : (a, tupO vs) ∈ news → Strs vs xs → Prts news us os → Prts news (.ref a :: us) (xs :: os)
theorem Prts.len {news : List (Addr × Obj)} {us : List Value} {os : List (List Str)} (h : Prts news us os) : us.length = os.length := by
  induction h with
  | nil => rfl
  | cons _ _ _ ih => simp [ih]
theorem Prts.mono {news news' : List (Addr × Obj)} (hs : ∀ p ∈ news, p ∈ news') {us : List Value} {os : List (List Str)} (h : Prts news us os) : Prts news' us os := by
  induction h with
  | nil => exact .nil
  | cons hm hv _ ih => exact .cons (hs _ hm) hv ih
theorem Prts.at {news : List (Addr × Obj)} {us : List Value} {os : List (List Str)} (h : Prts news us os) : ∀ {i : Nat} {v : Value}, us[i]? = some v → ∃ a vs xs, v = .ref a ∧ os[i]? = some xs ∧ (a, tupO vs) ∈ news ∧ Strs vs xs := by
  induction h with
  | nil => intro i v h; simp at h
  | cons hm hv _ ih =>
    intro i v h
    cases i with
    | zero => simp only [List.getElem?_cons_zero, Option.some.injEq] at h; exact ⟨_, _, _, h.symm, rfl, hm, hv⟩
    | succ i => simp only [List.getElem?_cons_succ] at h ⊢; exact ih h
theorem Prts.snoc {news : List (Addr × Obj)} {us : List Value} {os : List (List Str)} {a : Addr} {vs : List Value} {xs : List Str} (h : Prts news us os) (hm : (a, tupO vs) ∈ news) (hv : Strs vs xs) : Prts news (us ++ [.ref a]) (os ++ [xs]) := by
  induction h with
  | nil => exact .cons hm hv .nil
  | cons hm' hv' _ ih => exact .cons hm' hv' ih
theorem nm1 {h₀ h : Heap} {L : Addr} {l : Nat} {o : Obj} {news : List (Addr × Obj)} (_ : News h₀ L h ((l, o) :: news)) : ∃ l' : Nat, l' = l := ⟨_, rfl⟩
theorem item_led {h₀ h : Heap} {L : Addr} {it nm su f1 f2 : Nat} {R : List (Addr × Obj)} {s1 s4 pr x : Str} {v1 : Value} {t1 t2 t4 t5 : Tok} (N : News h₀ L h ((it, { cls := .type "tuple", data := .seq #[.str s1 t1, v1, .ref nm, .bool false, .str s4 t4, .str pr t5, .ref su, .ref f1, .ref f2] }) :: (f2, { cls := .type "tuple", data := .seq #[] }) :: (f1, { cls := .type "tuple", data := .seq #[] }) :: (su, { cls := .type "tuple", data := .seq #[] }) :: (nm, { cls := .type "tuple", data := .seq #[.str x t2] }) :: R)) (e1 : s1 = Str.ofString "sig") (e4 : s4 = Str.ofString "") :
    ∃ (it' nm' su' f1' f2' : Nat) (o1 o2 o3 o4 o5 : Obj), it' = it ∧ nm' = nm ∧ su' = su ∧ f1' = f1 ∧ f2' = f2 ∧ News h₀ L h ((it', o1) :: (f2', o2) :: (f1', o3) :: (su', o4) :: (nm', o5) :: R) ∧ SigIn [(it', o1), (f2', o2), (f1', o3), (su', o4), (nm', o5)] (.ref it') x pr [] :=
  ⟨it, nm, su, f1, f2, _, _, _, _, _, rfl, rfl, rfl, rfl, rfl, N, ⟨it, su, nm, f1, f2, v1, t1, t2, t4, [], t5, rfl, by rw [e1, e4]; exact .head _, mem4, mem3, .nil, mem2, mem1⟩⟩
theorem item_led2 {h₀ h : Heap} {L : Addr} {it nm su f1 f2 : Nat} {R : List (Addr × Obj)} {s1 s4 s5 x : Str} {v1 : Value} {t1 t2 t4 t5 : Tok} {vs : List Value} {xs : List Str} (N : News h₀ L h ((it, { cls := .type "tuple", data := .seq #[.str s1 t1, v1, .ref nm, .bool false, .str s4 t4, .str s5 t5, .ref su, .ref f1, .ref f2] }) :: (f2, { cls := .type "tuple", data := .seq #[] }) :: (f1, { cls := .type "tuple", data := .seq #[] }) :: (nm, { cls := .type "tuple", data := .seq #[.str x t2] }) :: R)) (e1 : s1 = Str.ofString "sig") (e4 : s4 = Str.ofString "") (e5 : s5 = Str.ofString "") (hsu : (su, tupO vs) ∈ R) (hvs : Strs vs xs) :
    ∃ (it' nm' f1' f2' : Nat) (o1 o2 o3 o5 : Obj), it' = it ∧ nm' = nm ∧ f1' = f1 ∧ f2' = f2 ∧ News h₀ L h ((it', o1) :: (f2', o2) :: (f1', o3) :: (nm', o5) :: R) ∧ SigIn ((it', o1) :: (f2', o2) :: (f1', o3) :: (nm', o5) :: [(su, tupO vs)]) (.ref it') x (Str.ofString "") xs :=
  ⟨it, nm, f1, f2, _, _, _, _, rfl, rfl, rfl, rfl, N, ⟨it, su, nm, f1, f2, v1, t1, t2, t4, vs, t5, rfl, by rw [e1, e4, e5]; exact .head _, mem3, mem4, hvs, mem2, mem1⟩⟩
theorem off_new {own tl five news : List (Addr × Obj)} {fl : Addr} {o o' : Obj} (off : OwnOff own ((tl ++ (fl, o) :: news).map (·.1))) (h5 : ∀ q ∈ own, ∀ p ∈ five, q.1 < p.1) : OwnOff own (((five ++ tl) ++ (fl, o') :: news).map (·.1)) := by
  intro p hp b hb
  obtain ⟨q, hq, rfl⟩ := List.mem_map.mp hb
  rw [List.append_assoc] at hq
  rcases List.mem_append.mp hq with hq | hq
  · exact Nat.ne_of_lt (h5 p hp q hq)
  · refine off p hp _ ?_
    rcases List.mem_append.mp hq with hq | hq
    · exact List.mem_map_of_mem (List.mem_append_left _ hq)
    · rcases List.mem_cons.mp hq with rfl | hq
      · exact List.mem_map.mpr ⟨(fl, o), List.mem_append_right _ (.head _), rfl⟩
      · exact List.mem_map_of_mem (List.mem_append_right _ (.tail _ hq))
theorem items_end {h₀ h' : Heap} {L fl : Addr} {m' : Str → Option Value} {tl five news own : List (Addr × Obj)} {o o' : Obj} {Jn : (Str → Option Value) → List (Addr × Obj) → Prop} {s₁ : Shared} {tk : Nat} (F : Fr h₀ L h' m') (N : News h₀ L h' ((five ++ tl) ++ (fl, o') :: (news ++ own))) (off : OwnOff own ((tl ++ (fl, o) :: news).map (·.1)))
    (h5 : ∀ q ∈ tl ++ (fl, o) :: (news ++ own), ∀ p ∈ five, q.1 < p.1) (hj : Jn m' ((five ++ tl) ++ (fl, o') :: news)) : LfEnd true h₀ L Jn own s₁ .next { s₁ with heap := h', toks := tk } :=
  LfEnd.intro F N hj (off_new off fun q hq => h5 q (List.mem_append_right _ (.tail _ (List.mem_append_right _ hq))))
    (fun p hp => by
      rcases List.mem_append.mp hp with hp | hp
      · exact List.mem_append_left _ hp
      · rcases List.mem_cons.mp hp with rfl | hp
        · exact List.mem_append_right _ (.head _)
        · exact List.mem_append_right _ (.tail _ (List.mem_append_left _ hp)))
    (fun p hp => List.mem_append_right _ (.tail _ (List.mem_append_right _ hp)))
theorem five_lt {R : List (Addr × Obj)} {it nm su f1 f2 : Nat} {o1 o2 o3 o4 o5 : Obj} (a : ∀ q ∈ R, q.1 < nm) (b : nm < su) (c : nm < f1) (d : nm < f2) (e : nm < it) : ∀ q ∈ R, ∀ p ∈ [(it, o1), (f2, o2), (f1, o3), (su, o4), (nm, o5)], q.1 < p.1 := fun q hq p hp => by
  have h0 := a q hq
  rcases of_mem5 hp with rfl | rfl | rfl | rfl | rfl
  · exact Nat.lt_trans h0 e
  · exact Nat.lt_trans h0 d
  · exact Nat.lt_trans h0 c
  · exact Nat.lt_trans h0 b
  · exact h0
theorem four_lt {R : List (Addr × Obj)} {it nm f1 f2 : Nat} {o1 o2 o3 o5 : Obj} (a : ∀ q ∈ R, q.1 < nm) (c : nm < f1) (d : nm < f2) (e : nm < it) : ∀ q ∈ R, ∀ p ∈ [(it, o1), (f2, o2), (f1, o3), (nm, o5)], q.1 < p.1 := fun q hq p hp => by
  have h0 := a q hq
  rcases of_mem4 hp with rfl | rfl | rfl | rfl
  · exact Nat.lt_trans h0 e
  · exact Nat.lt_trans h0 d
  · exact Nat.lt_trans h0 c
  · exact h0
section
theorem word37 : True := by
  k_with "subscriptTail Name Slice ref ref" => (k_here; (with_reducible show wpAny _ _ (subscriptTail _ (PySem.Expr.Slice _ _ (some _) _) (Value.ref _) (Value.ref _)) _ _ _); k_dflt (refine' kmk_slice3_lit ?Fw70 ?Nw70 ?lw70 ?pw70 ?qw70 ?kw70 ?ow70 ?ew70 ?_ ?sw70 ?tw70 ?zw70; (case Fw70 => k_asm); (case Nw70 => k_asm); (case lw70 => exact isList_M (by k_asm) (by k_mem)); (case pw70 => kmk_part); (case qw70 => kmk_part); (case kw70 => kmk_part); (case ow70 => decide); (case ew70 => exact rfl); (case sw70 => with_unfolding_all rfl); (case tw70 => kmk_pure); (case zw70 => (rw [List.size_toArray, sizeLine_eq]; omega))); intro Dz9 hz9 Fz9 Nz9 l1z9)
  k_with "exec For Tuple Call cons nil" => refine hold ?_
  k_with "call type:enumerate" => refine hold ?_
  k_with "call builtin:list.append" => refine hold ?_
  k_with "subscriptTail" => (k_here; (with_reducible show wpAny _ _ (subscriptTail _ _ (Value.ref _) _) _ _ _); refine hold ?_)
  trivial
variable {w : World} {p : Program} {loose : List Str} {mean : ExcName → Option Value} {mg mb : Str → Option Value}
    {dp un : Nat} {gd : Option (List Code)} {cn : Str} {cs : Scope} {a : Addr} {ccd : Value} {cl : List (Str × Addr)} {outer : List Env} {A₀ : Around} {base h₀ : Heap} {L : Addr} {m : Str → Option Value} {news : List (Addr × Obj)} {s : Shared} {Q E : Value → Shared → Prop}
    (B : Below A₀ base outer h₀) (F : Fr h₀ L s.heap m) (X : (hd.heap_1 w.params).In h₀) (N : News h₀ L s.heap news) (T : Top p loose mean mg mb h₀) (hk : cs.kind = .function)
include B F X N T hk
theorem items_ {pl ql : Addr} {pvs qvs : List Value} {prs : List Int} {os : List (List Str)} {n1 n2 : Nat} {way : Int} {tw : Tok} (hpl : (pl, PySem.W.listOf (List.toArray pvs) n1) ∈ news) (hpv : IntsAre pvs prs) (hpn : prs.length = 6) (hpr : ∀ (j : Nat) (x : Int), prs[j]? = some x → -1 ≤ x ∧ x < j)
    (hql : (ql, PySem.W.listOf (List.toArray qvs) n2) ∈ news) (hqv : Prts news qvs os) (hos : os.length ≤ 20) (hw0 : 0 ≤ way) (hw1 : way < 3)
    (par : Str → Str) (sup : Str → List Str) (hpb : ∀ (j : Nat) (x : Int), prs[j]? = some x → par (bs j) = if 0 ≤ x then bs x.toNat else Str.ofString "") (hsb : ∀ j < 6, sup (bs j) = []) (hps : ∀ k < os.length, par (sn k) = Str.ofString "") (hss : ∀ (k : Nat) (xs : List Str), os[k]? = some xs → sup (sn k) = xs)
    (hd : dp + 8 < recursionLimit) (hu : un + 80 < cLine)
    (ret : ∀ D vs ns n tl h' tk', Fr h₀ L h' m → News h₀ L h' ((D, PySem.W.listOf (List.toArray vs) n) :: (tl ++ news)) → (∀ q ∈ news, q.1 < D) → (∀ q ∈ news, ∀ p ∈ tl, q.1 < p.1) → Its (tl ++ news) par sup vs ns → ns.Perm (nms os.length) → Q (.ref D) { s with heap := h', toks := tk' }) :
    wpAny (model PG w) (ktrTop dp un gd cn cs L a ccd cl outer) (call (.ref 420) [.ref pl, .ref ql, .int way tw]) Q E s := by
  refine wpAny_call ?_
  k_dflt cell_enter
  k_steps
  unfold Hold
  rename Fr _ _ _ _ => Fx
  refine lf_ForM true Fx ?_ (by intro _; rfl)
  k_steps
  unfold Hold
  rename Fr _ _ _ _ => Fx
  rename News _ _ _ _ => Nx
  rename (∀ p : Addr × Obj, p ∈ news → p.1 < _) => lfl
  obtain ⟨fl, hfl⟩ := nm1 Nx
  subst hfl
  have hlp := hpv.length
  refine lf_enum_list (vs := pvs) (k := n1) (fun i m₁ nx => ∃ tl vf nf, MIs m₁ [(Str.ofString "parents", .ref pl), (Str.ofString "parts", .ref ql), (Str.ofString "way", .int way tw), (Str.ofString "found", .ref fl)] ∧ nx = tl ++ (fl, PySem.W.listOf (List.toArray vf) nf) :: news ∧ Its tl par sup vf ((List.range i).map bs) ∧ (∀ p ∈ tl, fl < p.1)) (by with_unfolding_all rfl) Fx Nx (by rfl) (by rfl) (by rfl) ⟨[], [], 0, by tb_start, rfl, .nil, (fun _ h => nomatch h)⟩ ?_ ?_ ?_
  · rintro i m₁ nx ⟨tl, vf, nf, _, rfl, _⟩
    exact List.mem_append_right _ (.tail _ hpl)
  · rintro i f m₁ nx own h tk dr E' hi ⟨tj, v, hv, rfl⟩ ⟨tl, vf, nf, hm, rfl, hI, hlt⟩ off hdr F' N'
    have hdr' := hdr rfl
    subst hdr'
    have hi6 : i < 6 := by omega
    obtain ⟨x, hx⟩ : ∃ x, prs[i]? = some x := ⟨_, List.getElem?_eq_getElem (by omega)⟩
    obtain ⟨tx, hx2⟩ := hpv.get i x hx
    rw [hv] at hx2
    obtain rfl := Option.some.inj hx2
    obtain ⟨hx0, hx1⟩ := hpr i x hx
    have hm1 := hm.one
    have hm2 := hm.rest.one
    have hm3 := hm.rest.rest.one
    have hm4 := hm.rest.rest.rest.one
    clear hm Fx Nx
    rw [List.append_assoc, List.cons_append] at N'
    have hoF := off_of off (List.mem_append_right tl (.head _))
    have hnf : ∀ p ∈ news ++ own, p.1 ≠ fl := ne_app (fun p hp => Nat.ne_of_lt (lfl p hp)) hoF
    have hvz : vf.length ≤ 1000 := by rw [hI.len]; simp; omega
    have hltl : ∀ p ∈ tl, p.1 ≠ fl := fun p hp => Nat.ne_of_gt (hlt p hp)
    k_steps
    unfold Hold
    rename Fr _ _ _ _ => F9
    refine itemB (by k_asm) F9 (by omega) (by omega) (fun tb => ?_) (by with_unfolding_all rfl)
    by_cases hxx : 0 ≤ x
    · k_steps
      unfold Hold
      rename Fr _ _ _ _ => F9
      refine itemB (by k_asm) F9 hxx (by omega) (fun tb2 => ?_) (by with_unfolding_all rfl)
      k_steps
      unfold Hold
      rename News _ _ _ _ => N9
      obtain ⟨it, nm, su, f1, f2, o1, o2, o3, o4, o5, e1, e2, e3, e4, e5, N8, hsi⟩ := item_led N9 rfl rfl
      subst e1 e2 e3 e4 e5
      clear N9
      rename (∀ p : Addr × Obj, p ∈ tl ++ _ → p.1 < nm) => a1
      rename (nm < su ∧ _) => a2
      rename (su < f1 ∧ nm < f1 ∧ _) => a3
      rename (f1 < f2 ∧ su < f2 ∧ nm < f2 ∧ _) => a4
      rename (f2 < it ∧ f1 < it ∧ su < it ∧ nm < it ∧ _) => a5
      have h5 := five_lt (o1 := o1) (o2 := o2) (o3 := o3) (o4 := o4) (o5 := o5) a1 a2.1 a3.2.1 a4.2.2.1 a5.2.2.2.1
      rename Fr _ _ _ _ => F9
      refine append_M F9 N8 (updF_app (tl := [(it, o1), (f2, o2), (f1, o3), (su, o4), (nm, o5)] ++ tl) (fun p hp => (List.mem_append.mp hp).elim (fun hp => Nat.ne_of_gt (h5 _ (List.mem_append_right _ (.head _)) p hp)) (hltl p)) (UpdF.head hnf)) hvz fun h8 F8 N8 => ?_
      clear F9
      k_steps
      rename Fr _ _ _ _ => F9
      rename News _ _ _ _ => N9
      refine items_end (five := [(it, o1), (f2, o2), (f1, o3), (su, o4), (nm, o5)]) F9 N9 off h5 ⟨_, vf ++ [Value.ref it], _, by tb_start, rfl, ?_, fun p hp => (List.mem_append.mp hp).elim (fun hp => h5 _ (List.mem_append_right _ (.head _)) p hp) (hlt p)⟩
      rw [List.range_succ, List.map_append]
      refine (hI.mono fun p hp => List.mem_append_right _ hp).snoc ?_
      have hpe := hpb i x hx
      rw [if_pos hxx] at hpe
      rw [hpe, hsb i hi6]
      exact hsi.mono fun p hp => List.mem_append_left _ hp
    · k_steps
      unfold Hold
      rename News _ _ _ _ => N9
      obtain ⟨it, nm, su, f1, f2, o1, o2, o3, o4, o5, e1, e2, e3, e4, e5, N8, hsi⟩ := item_led N9 rfl rfl
      subst e1 e2 e3 e4 e5
      clear N9
      rename (∀ p : Addr × Obj, p ∈ tl ++ _ → p.1 < nm) => a1
      rename (nm < su ∧ _) => a2
      rename (su < f1 ∧ nm < f1 ∧ _) => a3
      rename (f1 < f2 ∧ su < f2 ∧ nm < f2 ∧ _) => a4
      rename (f2 < it ∧ f1 < it ∧ su < it ∧ nm < it ∧ _) => a5
      have h5 := five_lt (o1 := o1) (o2 := o2) (o3 := o3) (o4 := o4) (o5 := o5) a1 a2.1 a3.2.1 a4.2.2.1 a5.2.2.2.1
      rename Fr _ _ _ _ => F9
      refine append_M F9 N8 (updF_app (tl := [(it, o1), (f2, o2), (f1, o3), (su, o4), (nm, o5)] ++ tl) (fun p hp => (List.mem_append.mp hp).elim (fun hp => Nat.ne_of_gt (h5 _ (List.mem_append_right _ (.head _)) p hp)) (hltl p)) (UpdF.head hnf)) hvz fun h8 F8 N8 => ?_
      clear F9
      k_steps
      rename Fr _ _ _ _ => F9
      rename News _ _ _ _ => N9
      refine items_end (five := [(it, o1), (f2, o2), (f1, o3), (su, o4), (nm, o5)]) F9 N9 off h5 ⟨_, vf ++ [Value.ref it], _, by tb_start, rfl, ?_, fun p hp => (List.mem_append.mp hp).elim (fun hp => h5 _ (List.mem_append_right _ (.head _)) p hp) (hlt p)⟩
      rw [List.range_succ, List.map_append]
      refine (hI.mono fun p hp => List.mem_append_right _ hp).snoc ?_
      have hpe := hpb i x hx
      rw [if_neg hxx] at hpe
      rw [hpe, hsb i hi6]
      exact hsi.mono fun p hp => List.mem_append_left _ hp
  · rintro m₁ nx h tk dr ⟨tl, vf, nf, hm, rfl, hI, hlt⟩ hdr F' N'
    have hdr' := hdr rfl
    subst hdr'
    have hm1 := hm.one
    have hm2 := hm.rest.one
    have hm3 := hm.rest.rest.one
    have hm4 := hm.rest.rest.rest.one
    clear hm Fx Nx
    rw [hlp, hpn] at hI
    k_steps
    unfold Hold
    rename Fr _ _ _ _ => Fx
    refine lf_ForM true Fx ?_ (by intro _; rfl)
    k_steps
    unfold Hold
    rename Fr _ _ _ _ => Fx
    rename News _ _ _ _ => Nx
    have hlq := hqv.len
    refine lf_enum_list (vs := qvs) (k := n2) (fun i m₁ nx => ∃ tl vf nf, MIs m₁ [(Str.ofString "way", .int way tw), (Str.ofString "found", .ref fl)] ∧ nx = tl ++ (fl, PySem.W.listOf (List.toArray vf) nf) :: news ∧ Its (tl ++ news) par sup vf ((List.range 6).map bs ++ (List.range i).map sn) ∧ (∀ p ∈ tl, fl < p.1)) (by with_unfolding_all rfl) Fx Nx (by rfl) (by rfl) (by rfl) ⟨tl, vf, nf, by tb_start, rfl, by rw [show (List.range 0).map sn = [] from rfl, List.append_nil]; exact hI.mono fun p hp => List.mem_append_left _ hp, hlt⟩ ?_ ?_ ?_
    · rintro i m₁ nx ⟨tl, vf, nf, _, rfl, _⟩
      exact List.mem_append_right _ (.tail _ hql)
    · clear Fx Nx hI hlt
      rintro i f m₁ nx own h tk dr E' hi ⟨tj, v, hv, rfl⟩ ⟨tl, vf, nf, hm, rfl, hI, hlt⟩ off hdr F' N'
      have hdr' := hdr rfl
      subst hdr'
      obtain ⟨su, vsu, xs, rfl, hxs, hsu, hvsu⟩ := hqv.at hv
      have hm1 := hm.one
      have hm2 := hm.rest.one
      clear hm
      rw [List.append_assoc, List.cons_append] at N'
      have hoF := off_of off (List.mem_append_right tl (.head _))
      have hnf : ∀ p ∈ news ++ own, p.1 ≠ fl := ne_app (fun p hp => Nat.ne_of_lt (lfl p hp)) hoF
      have hltl : ∀ p ∈ tl, p.1 ≠ fl := fun p hp => Nat.ne_of_gt (hlt p hp)
      have hvz : vf.length ≤ 1000 := by rw [hI.len]; simp; omega
      have hi20 : i < 20 := by omega
      k_steps
      unfold Hold
      rename News _ _ _ _ => N9
      obtain ⟨it, nm, f1, f2, o1, o2, o3, o5, e1, e2, e4, e5, N8, hsi⟩ := item_led2 N9 rfl rfl rfl (List.mem_append_right _ (.tail _ (List.mem_append_left _ hsu))) hvsu
      subst e1 e2 e4 e5
      clear N9
      rename (∀ p : Addr × Obj, p ∈ tl ++ _ → p.1 < nm) => a1
      rename (nm < f1 ∧ _) => a3
      rename (f1 < f2 ∧ nm < f2 ∧ _) => a4
      rename (f2 < it ∧ f1 < it ∧ nm < it ∧ _) => a5
      have h5 := four_lt (o1 := o1) (o2 := o2) (o3 := o3) (o5 := o5) a1 a3.1 a4.2.1 a5.2.2.1
      rename Fr _ _ _ _ => F9
      refine append_M F9 N8 (updF_app (tl := [(it, o1), (f2, o2), (f1, o3), (nm, o5)] ++ tl) (fun p hp => (List.mem_append.mp hp).elim (fun hp => Nat.ne_of_gt (h5 _ (List.mem_append_right _ (.head _)) p hp)) (hltl p)) (UpdF.head hnf)) hvz fun h8 F8 N8 => ?_
      clear F9
      k_steps
      rename Fr _ _ _ _ => F9
      rename News _ _ _ _ => N9
      refine items_end (five := [(it, o1), (f2, o2), (f1, o3), (nm, o5)]) F9 N9 off h5 ⟨_, vf ++ [Value.ref it], _, by tb_start, rfl, ?_, fun p hp => (List.mem_append.mp hp).elim (fun hp => h5 _ (List.mem_append_right _ (.head _)) p hp) (hlt p)⟩
      rw [show (List.range (i + 1)).map sn = (List.range i).map sn ++ [sn i] by rw [List.range_succ, List.map_append]; rfl, ← List.append_assoc]
      refine (hI.mono fun p hp => by rw [List.append_assoc]; exact List.mem_append_right _ hp).snoc ?_
      rw [hps i (by omega), hss i xs hxs]
      exact hsi.mono fun p hp => by
        rcases of_mem5 hp with rfl | rfl | rfl | rfl | rfl <;> first | with_reducible exact mem0 | with_reducible exact mem1 | with_reducible exact mem2 | with_reducible exact mem3 | simp [hsu]
    · clear Fx Nx hI hlt
      rintro m₁ nx h tk dr ⟨tl, vf, nf, hm, rfl, hI, hlt⟩ hdr F' N'
      have hdr' := hdr rfl
      subst hdr'
      have hm1 := hm.one
      have hm2 := hm.rest.one
      clear hm
      rw [hlq] at hI
      have hlI := hI.len
      have hvz : vf.length ≤ 1000 := by rw [hlI]; simp; omega
      have hr1 : nms os.length = (List.range 6).map bs ++ (List.range os.length).map sn := rfl
      rw [← hr1] at hI hlI
      rw [nms_len] at hlI
      have hz1 : (slicePick (List.toArray vf) none none (some 2)).toList.length ≤ vf.length := by have := slicePick_size_le (List.toArray vf) none none (some 2); simpa using this
      have hz2 : (slicePick (List.toArray vf) (some 1) none (some 2)).toList.length ≤ vf.length := by have := slicePick_size_le (List.toArray vf) (some 1) none (some 2); simpa using this
      have hvl : vf.length = (nms os.length).length := by rw [nms_len]; exact hlI
      rename News _ _ _ _ => N5
      have N6 := cb_drop (news := (fl, PySem.W.listOf (List.toArray vf) nf) :: (tl ++ news)) N5 (fun p hp => by simp only [List.mem_cons, List.mem_append] at hp ⊢; rcases hp with rfl | hp | hp <;> simp [*])
      clear N5
      have hltn : ∀ q ∈ news, ∀ p ∈ tl, q.1 < p.1 := fun q hq p hp => Nat.lt_trans (lfl q hq) (hlt p hp)
      rcases (by omega : way = 0 ∨ way = 1 ∨ way = 2) with rfl | rfl | rfl
      · k_steps
        exact ret fl vf _ nf tl _ _ (by k_asm) (by k_asm) lfl hltn hI (.refl _)
      · k_steps
        rename (∀ q : Addr × Obj, q ∈ _ → q.1 < _) => lt9
        refine ret _ (slicePick (List.toArray vf) none none (some (-1))).toList ((jsOf none none (some (-1)) vf.length).filterMap ((nms os.length)[·]?)) _ tl _ _ (by k_asm) (by refine' cb_drop ?n ?s; (case n => k_asm); (case s => intro p hp; rcases List.mem_cons.mp hp with rfl | hp; exact .head _; repeat first | exact hp | refine List.Mem.tail _ ?_)) (fun q hq => lt9 q (.tail _ (List.mem_append_right _ hq))) hltn ?_ ?_
        · rw [pick_toList]
          exact (hI.places _).mono fun p hp => hp
        · rw [hvl]
          exact its_perm (js_rev _ (by rw [nms_len]; omega))
      · k_steps
        rename (∀ q : Addr × Obj, q ∈ _ → q.1 < _) => lt9
        refine ret _ ((slicePick (List.toArray vf) none none (some 2)).toList ++ (slicePick (List.toArray vf) (some 1) none (some 2)).toList) ((jsOf none none (some 2) vf.length ++ jsOf (some 1) none (some 2) vf.length).filterMap ((nms os.length)[·]?)) _ tl _ _ (by k_asm) (by refine' cb_drop ?n ?s; (case n => k_asm); (case s => intro p hp; rcases List.mem_cons.mp hp with rfl | hp; exact .head _; repeat first | exact hp | refine List.Mem.tail _ ?_)) (fun q hq => lt9 q (.tail _ (.tail _ (.tail _ (List.mem_append_right _ hq))))) hltn ?_ ?_
        · rw [pick_toList, pick_toList, ← List.filterMap_append]
          exact (hI.places _).mono fun p hp => hp
        · rw [hvl]
          exact its_perm (js_two _ (by rw [nms_len]; omega))
end

theorem word38 : True := by
  k_with_none
  k_with "omega" => first | (with_reducible (first | assumption | exact ge0 _ | exact cl_lt (by with_unfolding_all rfl) | exact room_dp (by assumption) (by with_unfolding_all rfl) | exact room_dp0 (by assumption) (by with_unfolding_all rfl) | exact unit_dp (by assumption) (by with_unfolding_all rfl) | exact unit_dp0 (by assumption) (by with_unfolding_all rfl) | exact le_up (by assumption) (by with_unfolding_all rfl) | exact lt_up (by assumption) (by with_unfolding_all rfl) | exact lt_of_le_up (by assumption) (by with_unfolding_all rfl) | exact eq_le_up (by assumption) (by assumption) (by with_unfolding_all rfl) | exact clo_lt (by with_unfolding_all rfl) | exact clo_le (by with_unfolding_all rfl) | exact Nat.ne_of_gt (by assumption) | exact Nat.ne_of_lt (by assumption) | exact ne_s1 _ | exact Ne.symm (ne_s1 _) | exact ne_s2 _ | exact Ne.symm (ne_s2 _) | exact ne_s3 _ | exact Ne.symm (ne_s3 _) | exact int_gt (by decide) | exact int_lt (by assumption) (by decide) | exact int_le (by assumption) (by decide) | exact le_lt_up (by assumption) (by assumption) (by with_unfolding_all rfl) | exact le_le_up (by assumption) (by assumption) (by with_unfolding_all rfl))) | lia | omega (splitDisjunctions := true)
  k_with "k_mem" => first | assumption | exact List.Mem.head _ | (refine' List.Mem.tail _ ?_; k_mem) | (refine List.mem_append_left _ ?_; k_mem) | (refine List.mem_append_right _ ?_; k_mem)
  k_with "k_all" => exact ne_all (by assumption)
  k_with "call builtin:list.append" => (k_here; (with_reducible show wpAny _ _ (call (Value.builtin _) [Value.ref _, _]) _ _ _); k_dflt (refine' append_M ?k1w2 ?k2w2 ?k3w2 ?zw2 ?_; (case k1w2 => k_asm); (case k2w2 => k_asm); (case k3w2 => k_updF); (case zw2 => ((try simp only [List.length_append, List.length_cons, List.length_nil] at *); omega)); k_whole); intro hz9 Fz9 Nz9; (try dsimp only at Nz9); (try k_sweep))
  k_with "subscriptTail" => (k_here; (with_reducible show wpAny _ _ (subscriptTail _ _ (Value.ref _) (Value.str _ _)) _ _ _); k_dflt (refine' kda_item (knd := PySem.strKind _ _) (by k_asm) (by k_mem) (by k_asm) (strKind_is _ _ _ _) (by k_asm) ?_; k_whole))
  k_with "tb_rel" => first | assumption | exact if_pos rfl | (refine Eq.trans (if_neg (by decide)) ?_; tb_rel) | rfl
  k_with "eval Name" => (k_here; k_dflt (refine' nameX_L (by k_asm) (by first | rfl | tb_rel) ?_ (by rfl) (by rfl); k_whole))
  k_with "tb_start" => first | exact MIs.nil | (refine MIs.cons (by first | rfl | tb_rel) ?_; tb_start)
  k_with "exec While" => refine hold ?_
  k_with "exec While Compare cons nil" => refine hold ?_
  k_with "call ref" => (k_here; (with_reducible show wpAny _ _ (call (Value.ref 314) [Value.ref _, Value.str _ _]) _ _ _); k_dflt (refine' parent_ ?Bw9 ?Fw9 ?Xw9 ?Nw9 ?Tw9 ?kKw9 ?hxw9 ?hdxw9 ?hew9 ?hoew9 ?hesw9 ?hdw9 ?huw9 ?hvw9 ?hiw9 ?_; (case Bw9 => k_asm); (case Fw9 => k_asm); (case Xw9 => k_asm); (case Nw9 => k_asm); (case Tw9 => k_asm); (case kKw9 => first | exact rfl | assumption); (case hxw9 => k_mem); (case hdxw9 => k_mem); (case hesw9 => assumption); (case hew9 => k_mem); (case hoew9 => assumption); (case hvw9 => assumption); (case hiw9 => first | assumption | (refine' ItemIn.mono ?s9w9 ?i9w9; (case i9w9 => assumption); (case s9w9 => intro p9z9 hp9z9; k_mem))); (case hdw9 => ktr_room); (case huw9 => ktr_units)); intro t9z9 h9z9 tk9z9 F9z9 N9z9)
  k_with "call ref" => (k_here; (with_reducible show wpAny _ _ (call (Value.ref 342) [Value.ref _, Value.str _ _]) _ _ _); k_dflt (refine' above_ ?Bw10 ?Fw10 ?Xw10 ?Nw10 ?Tw10 ?kKw10 ?hxw10 ?hdxw10 ?hew10 ?hoew10 ?hesw10 ?hdw10 ?huw10 ?hupw10 ?hclw10 ?_; (case Bw10 => k_asm); (case Fw10 => k_asm); (case Xw10 => k_asm); (case Nw10 => k_asm); (case Tw10 => k_asm); (case kKw10 => first | exact rfl | assumption); (case hxw10 => k_mem); (case hdxw10 => k_mem); (case hesw10 => assumption); (case hew10 => k_mem); (case hoew10 => assumption); (case hupw10 => first | assumption | (refine' Up.mono ?s9w10 ?i9w10; (case i9w10 => assumption); (case s9w10 => intro p9z9 hp9z9; k_mem))); (case hdw10 => ktr_room); (case huw10 => ktr_units); (case hclw10 => first | assumption | omega); k_whole); intro fl9z9 n9z9 vs9z9 h9z9 tk9z9 F9z9 N9z9 lt9z9 hs9z9; (have hl9z9 := Strs.len hs9z9))
  k_with "call type:tuple" => (k_here; (with_reducible show wpAny _ _ (call (Value.type _) [Value.ref _]) _ _ _); k_dflt (refine' call_tuple_tup ?tw11 ?_; (case tw11 => exact News.isTup (by k_asm) (by k_mem))))
  k_with "binaryOp Add ref ref" => (k_here; (with_reducible show wpAny _ _ (binaryOp _ (Value.ref _) (Value.ref _)) _ _ _); k_dflt (refine' add_list_M (by k_asm) (by k_asm) (by k_mem) (by k_mem) (by ((try simp only [List.length_append, List.length_cons, List.length_nil] at *); omega)) ?_; k_whole); intro Dz9 hz9 Fz9 Nz9 l1z9)
  k_with "call builtin:len" => (k_here; (with_reducible show wpAny _ _ (call (Value.builtin "len") [Value.ref _]) _ _ _); k_dflt (refine' len_tup ?tw13 ?zw13 ?_; (case tw13 => exact News.isTup (by k_asm) (by k_mem)); (case zw13 => ((try simp only [List.length_append, List.length_cons, List.length_nil] at *); omega)); k_whole))
  k_with "call ref" => (k_here; (with_reducible show wpAny _ _ (call (Value.ref 321) [Value.ref _, Value.str _ _]) _ _ _); k_dflt (refine' supers_ ?Bw14 ?Fw14 ?Xw14 ?Nw14 ?Tw14 ?kKw14 ?hxw14 ?hdxw14 ?hew14 ?hoew14 ?hesw14 ?hdw14 ?huw14 ?hvw14 ?hiw14  ?_; (case Bw14 => k_asm); (case Fw14 => k_asm); (case Xw14 => k_asm); (case Nw14 => k_asm); (case Tw14 => k_asm); (case kKw14 => first | exact rfl | assumption); (case hxw14 => k_mem); (case hdxw14 => k_mem); (case hesw14 => assumption); (case hew14 => k_mem); (case hoew14 => assumption); (case hvw14 => assumption); (case hiw14 => first | assumption | (refine' ItemIn.mono ?s9w14 ?i9w14; (case i9w14 => assumption); (case s9w14 => intro p9z9 hp9z9; k_mem))); (case hdw14 => ktr_room); (case huw14 => ktr_units);  k_whole); intro d9z9 vs9z9 h9z9 tk9z9 F9z9 N9z9 hd9z9 hvs9z9; (have hl9z9 := Strs.len hvs9z9))
  k_with "call ref" => (k_here; (with_reducible show wpAny _ _ (call (Value.ref 328) [Value.ref _, Value.str _ _]) _ _ _); k_dflt (refine' is_subset_ ?Bw15 ?Fw15 ?Xw15 ?Nw15 ?Tw15 ?kKw15 ?hxw15 ?hdxw15 ?hew15 ?hoew15 ?hesw15 ?hdw15 ?huw15 ?hvw15 ?hiw15 ?zw15 ?_; (case Bw15 => k_asm); (case Fw15 => k_asm); (case Xw15 => k_asm); (case Nw15 => k_asm); (case Tw15 => k_asm); (case kKw15 => first | exact rfl | assumption); (case hxw15 => k_mem); (case hdxw15 => k_mem); (case hesw15 => assumption); (case hew15 => k_mem); (case hoew15 => assumption); (case hvw15 => assumption); (case hiw15 => first | assumption | (refine' ItemIn.mono ?s9w15 ?i9w15; (case i9w15 => assumption); (case s9w15 => intro p9z9 hp9z9; k_mem))); (case hdw15 => ktr_room); (case huw15 => ktr_units); (case zw15 => first | assumption | (simp only [List.length_nil]; omega)); k_whole); intro h9z9 tk9z9 F9z9 N9z9)
  k_with "call ref" => (k_here; (with_reducible show wpAny _ _ (call (Value.ref 262) [Value.ref _, Value.str _ _]) _ _ _); k_dflt (refine' direct_ ?Bw16 ?Fw16 ?Xw16 ?Nw16 ?Tw16 ?kKw16 ?hxw16 ?hdxw16 ?hew16 ?hoew16 ?hesw16 ?hdw16 ?huw16 ?hvw16 ?hiw16 ?zw16 ?_; (case Bw16 => k_asm); (case Fw16 => k_asm); (case Xw16 => k_asm); (case Nw16 => k_asm); (case Tw16 => k_asm); (case kKw16 => first | exact rfl | assumption); (case hxw16 => k_mem); (case hdxw16 => k_mem); (case hesw16 => assumption); (case hew16 => k_mem); (case hoew16 => assumption); (case hvw16 => assumption); (case hiw16 => first | assumption | (refine' ItemIn.mono ?s9w16 ?i9w16; (case i9w16 => assumption); (case s9w16 => intro p9z9 hp9z9; k_mem))); (case hdw16 => ktr_room); (case huw16 => ktr_units); (case zw16 => first | assumption | (simp only [List.length_nil]; omega)); k_whole); intro d9z9 tl9z9 vs9z9 h9z9 tk9z9 F9z9 N9z9 lt9z9 hd9z9 hvs9z9; (have hl9z9 := Strs.len hvs9z9))
  k_with "call ref" => (k_here; (with_reducible show wpAny _ _ (call (Value.ref 349) [Value.ref _, Value.str _ _]) _ _ _); k_dflt (refine' top_sub_ ?Bw17 ?Fw17 ?Xw17 ?Nw17 ?Tw17 ?kKw17 ?hxw17 ?hdxw17 ?hew17 ?hoew17 ?hesw17 ?hdw17 ?huw17 ?hvw17 ?hiw17 ?zw17 ?new17 ?_; (case Bw17 => k_asm); (case Fw17 => k_asm); (case Xw17 => k_asm); (case Nw17 => k_asm); (case Tw17 => k_asm); (case kKw17 => first | exact rfl | assumption); (case hxw17 => k_mem); (case hdxw17 => k_mem); (case hesw17 => assumption); (case hew17 => k_mem); (case hoew17 => assumption); (case hvw17 => assumption); (case hiw17 => first | assumption | (refine' ItemIn.mono ?s9w17 ?i9w17; (case i9w17 => assumption); (case s9w17 => intro p9z9 hp9z9; k_mem))); (case hdw17 => ktr_room); (case huw17 => ktr_units); (case zw17 => first | assumption | (simp only [List.length_nil]; omega)); (case new17 => first | assumption | omega); k_whole); intro t9z9 h9z9 tk9z9 F9z9 N9z9)
  k_with "call ref" => (k_here; (with_reducible show wpAny _ _ (call (Value.ref 349) [Value.ref _, Value.str _ _]) _ _ _); k_dflt (refine' top_base_ ?Bw18 ?Fw18 ?Xw18 ?Nw18 ?Tw18 ?kKw18 ?hxw18 ?hdxw18 ?hew18 ?hoew18 ?hesw18 ?hdw18 ?huw18 ?hvw18 ?hiw18 ?hupw18 ?hclw18 ?_; (case Bw18 => k_asm); (case Fw18 => k_asm); (case Xw18 => k_asm); (case Nw18 => k_asm); (case Tw18 => k_asm); (case kKw18 => first | exact rfl | assumption); (case hxw18 => k_mem); (case hdxw18 => k_mem); (case hesw18 => assumption); (case hew18 => k_mem); (case hoew18 => assumption); (case hvw18 => assumption); (case hiw18 => first | assumption | (refine' ItemIn.mono ?s9w18 ?i9w18; (case i9w18 => assumption); (case s9w18 => intro p9z9 hp9z9; k_mem))); (case hdw18 => ktr_room); (case huw18 => ktr_units); (case hupw18 => first | assumption | (refine' Up.mono ?s9w18 ?i9w18; (case i9w18 => assumption); (case s9w18 => intro p9z9 hp9z9; k_mem))); (case hclw18 => first | assumption | omega); k_whole); intro t9z9 h9z9 tk9z9 F9z9 N9z9)
  k_with "compareOp In str ref" => (k_here; (with_reducible show wpAny _ _ (compareOp CmpOp.In (Value.str _ _) (Value.ref _)) _ _ _); k_dflt (refine' in_list_strs (isList_M ?Nw19 ?mw19) ?iw19 ?_; (case Nw19 => k_asm); (case mw19 => k_mem); (case iw19 => exact Strs.are (by assumption)); k_whole))
  k_with "compareOp NotIn str ref" => (k_here; (with_reducible show wpAny _ _ (compareOp CmpOp.NotIn (Value.str _ _) (Value.ref _)) _ _ _); k_dflt (refine' notin_list_strs (isList_M ?Nw20 ?mw20) ?iw20 ?_; (case Nw20 => k_asm); (case mw20 => k_mem); (case iw20 => exact Strs.are (by assumption)); k_whole))
  k_with "eval ListComp" => refine hold ?_
  k_with "exec Assign cons ListComp" => refine hold ?_
  k_with "CompSrc" => refine hold ?_
  k_with "exec For" => refine hold ?_
  k_with "exec For Name Call" => refine hold ?_
  k_with "exec For Name Call cons nil" => refine hold ?_
  k_with "exec For Name Name" => refine hold ?_
  k_with "exec For Name Name cons nil" => refine hold ?_
  k_with "exec For Name Attribute" => refine hold ?_
  k_with "exec For Name Attribute cons nil" => refine hold ?_
  k_with "exec For Tuple Call" => refine hold ?_
  k_with "exec For Tuple Call cons nil" => refine hold ?_
  k_with "exec For Name Subscript" => refine hold ?_
  k_with "exec For Name Subscript cons nil" => refine hold ?_
  k_with "exec For Name BinOp" => refine hold ?_
  k_with "exec For Name BinOp cons nil" => refine hold ?_
  k_with "ktr_unf" => (refine' code_defC ?k1w37 ?k2w37 ?k3w37 ?k4w37 ?k5w37 ?kAw37 ?kFw37 ?kKw37 ?k6w37 ?k7w37 ?k8w37 ?k9w37 ?kBw37 ?kDw37 ?_ ?c2w37 ?c3w37 ?c4w37; (case kAw37 => exact rfl); (case kFw37 => exact rfl); (case kKw37 => assumption); (case k1w37 => k_asm); (case k2w37 => k_asm); (case k3w37 => k_asm); (case k4w37 => k_asm); (case k5w37 => k_asm); (case k6w37 => k_is); (case k7w37 => k_is); (case k8w37 => ktr_room); (case k9w37 => exact BindsTo.of_eq rfl); (case kBw37 => exact rfl); (case kDw37 => decide +kernel); (case c2w37 => exact rfl); (case c3w37 => exact rfl); (case c4w37 => exact rfl); k_whole; intro gz9 Lz9 hz9 tkz9 cellsz9 FGz9 Fz9 Nz9 Yz9 Bz9 Xz9 Tz9 l1z9; k_cells Yz9; (try simp only [List.cons_append, List.nil_append] at Nz9); (try dsimp only); (try k_lift Bz9); (try k_fold))
  k_with "call ref" => (k_here; (with_reducible show wpAny _ _ (call (Value.ref 123) [Value.ref _, Value.str _ _, Value.str _ _]) _ _ _); k_dflt (refine' is_under_ ?Bw38 ?Fw38 ?Xw38 ?Nw38 ?Tw38 ?kKw38 ?hxw38 ?hdxw38 ?hew38 ?hoew38 ?hesw38 ?hcw38 ?hdcw38 ?hecw38 ?hdw38 ?huw38 ?hupw38 ?hclw38 ?_; (case Bw38 => k_asm); (case Fw38 => k_asm); (case Xw38 => k_asm); (case Nw38 => k_asm); (case Tw38 => k_asm); (case kKw38 => first | exact rfl | assumption); (case hcw38 => k_mem); (case hdcw38 => k_mem); (case hecw38 => assumption); (case hxw38 => k_mem); (case hdxw38 => k_mem); (case hesw38 => assumption); (case hew38 => k_mem); (case hoew38 => assumption); (case hdw38 => ktr_room); (case huw38 => ktr_units); (case hupw38 => first | assumption | (refine' Up.mono ?s9w38 ?i9w38; (case i9w38 => assumption); (case s9w38 => intro p9z9 hp9z9; k_mem))); (case hclw38 => first | assumption | omega); k_whole); intro h9z9 tk9z9 F9z9 N9z9)
  k_with "call ref" => (k_here; (with_reducible show wpAny _ _ (call (Value.ref 130) [Value.ref _, Value.str _ _, Value.str _ _]) _ _ _); k_dflt (refine' narrower_ ?Bw39 ?Fw39 ?Xw39 ?Nw39 ?Tw39 ?kKw39 ?hxw39 ?hdxw39 ?hew39 ?hoew39 ?hesw39 ?hcw39 ?hdcw39 ?hecw39 ?hdw39 ?huw39 ?hupw39 ?hclw39 ?hup'w39 ?hcl'w39 ?_; (case Bw39 => k_asm); (case Fw39 => k_asm); (case Xw39 => k_asm); (case Nw39 => k_asm); (case Tw39 => k_asm); (case kKw39 => first | exact rfl | assumption); (case hcw39 => k_mem); (case hdcw39 => k_mem); (case hecw39 => assumption); (case hxw39 => k_mem); (case hdxw39 => k_mem); (case hesw39 => assumption); (case hew39 => k_mem); (case hoew39 => assumption); (case hdw39 => ktr_room); (case huw39 => ktr_units); (case hupw39 => first | assumption | (refine' Up.mono ?s9w39 ?i9w39; (case i9w39 => assumption); (case s9w39 => intro p9z9 hp9z9; k_mem))); (case hclw39 => first | assumption | omega); (case hup'w39 => first | assumption | (refine' Up.mono ?s9w39 ?i9w39; (case i9w39 => assumption); (case s9w39 => intro p9z9 hp9z9; k_mem))); (case hcl'w39 => first | assumption | omega); k_whole); intro t9z9 h9z9 tk9z9 F9z9 N9z9)
  k_with "eval Name" => (k_here; (with_reducible show wpAny _ _ (eval (Expr.Name _ _) (compEnvC _ _ _ _)) _ _ _); k_dflt (refine' lcx_local (by k_asm) (by first | rfl | tb_rel) ?_ (by rfl) (by rfl) (by decide); k_whole))
  k_with "call type:zip" => refine hold ?_
  k_with "call ref" => (k_here; (with_reducible show wpAny _ _ (call (Value.ref 135) [Value.ref _, Value.ref _, Value.ref _]) _ _ _); k_dflt (refine' common_ ?Bw42 ?Fw42 ?Xw42 ?Nw42 ?Tw42 ?kKw42 ?hxw42 ?hdxw42 ?hew42 ?hoew42 ?hesw42 ?hcw42 ?hdcw42 ?hecw42 ?hdw42 ?huw42 ?hupw42 ?hclw42 ?hup'w42 ?hcl'w42 ?ho1w42 ?ho2w42 ?_ ?_; (case Bw42 => k_asm); (case Fw42 => k_asm); (case Xw42 => k_asm); (case Nw42 => k_asm); (case Tw42 => k_asm); (case kKw42 => first | exact rfl | assumption); (case hcw42 => k_mem); (case hdcw42 => k_mem); (case hecw42 => assumption); (case hxw42 => k_mem); (case hdxw42 => k_mem); (case hesw42 => assumption); (case hew42 => k_mem); (case hoew42 => assumption); (case hdw42 => ktr_room); (case huw42 => ktr_units); (case ho1w42 => k_mem); (case ho2w42 => k_mem); (case hupw42 => first | assumption | (refine' Up.mono ?s9w42 ?i9w42; (case i9w42 => assumption); (case s9w42 => intro p9z9 hp9z9; k_mem))); (case hclw42 => first | assumption | omega); (case hup'w42 => first | assumption | (refine' Up.mono ?s9w42 ?i9w42; (case i9w42 => assumption); (case s9w42 => intro p9z9 hp9z9; k_mem))); (case hcl'w42 => first | assumption | omega); k_whole; first | (intro h9z9 tk9z9 hz9z9 F9z9 N9z9; (try dsimp only at F9z9 N9z9)) | (intro D9z9 t9z9 h9z9 tk9z9 hz9z9 F9z9 N9z9 lt9z9; (try dsimp only at F9z9 N9z9))))
  k_with "compareOp Eq ref ref" => (k_here; (with_reducible show wpAny _ _ (compareOp CmpOp.Eq (Value.ref _) (Value.ref _)) _ _ _); k_dflt (refine' eq_t1 ?Nw43 ?haw43 ?hbw43 ?kaw43 ?kbw43 ?huw43 ?_; (case Nw43 => k_asm); (case haw43 => k_mem); (case hbw43 => k_mem); (case kaw43 => assumption); (case kbw43 => assumption); (case huw43 => ktr_units); k_whole))
  k_with "compareOp NotEq ref ref" => (k_here; (with_reducible show wpAny _ _ (compareOp CmpOp.NotEq (Value.ref _) (Value.ref _)) _ _ _); k_dflt (refine' ne_t1 ?Nw44 ?haw44 ?hbw44 ?kaw44 ?kbw44 ?huw44 ?_; (case Nw44 => k_asm); (case haw44 => k_mem); (case hbw44 => k_mem); (case kaw44 => assumption); (case kbw44 => assumption); (case huw44 => ktr_units); k_whole))
  k_with "compareOp Eq none ref" => (k_here; (with_reducible show wpAny _ _ (compareOp CmpOp.Eq Value.none (Value.ref _)) _ _ _); k_dflt (refine' eq_nt ?Nw45 ?hbw45 ?kbw45 ?huw45 ?_; (case Nw45 => k_asm); (case hbw45 => k_mem); (case kbw45 => assumption); (case huw45 => ktr_units); k_whole))
  k_with "call type:tuple" => (k_here; (with_reducible show wpAny _ _ (call (Value.type _) [Value.ref _]) _ _ _); k_dflt (refine' tuple_list_M ?Fw46 ?Nw46 ?mw46 ?zw46 ?_; (case Fw46 => k_asm); (case Nw46 => k_asm); (case mw46 => k_mem); (case zw46 => first | assumption | omega | ((try simp only [List.length_append, List.length_cons, List.length_nil] at *); omega)); k_whole); intro D9z9 h9z9 F9z9 N9z9 lt9z9; (try dsimp only at F9z9 N9z9))
  k_with "call builtin:len" => (k_here; (with_reducible show wpAny _ _ (call (Value.builtin "len") [Value.ref _]) _ _ _); k_dflt (refine' len_list_M (by k_asm) (by k_mem) (by first | assumption | omega | ((try simp only [List.length_append, List.length_cons, List.length_nil] at *); omega)) ?_; k_whole))
  k_with "call ref" => (k_here; (with_reducible show wpAny _ _ (call (Value.ref 142) [Value.ref _, Value.int _ _]) _ _ _); k_dflt (refine' want_few_ ?Bw48 ?Fw48 ?Xw48 ?Nw48 ?Tw48 ?kKw48 ?hdw48 ?huw48 ?hzw48 ?_; (case Bw48 => k_asm); (case Fw48 => k_asm); (case Xw48 => k_asm); (case Nw48 => k_asm); (case Tw48 => k_asm); (case kKw48 => first | exact rfl | assumption); (case hdw48 => ktr_room); (case huw48 => ktr_units); (case hzw48 => first | assumption | omega); k_whole); intro h9z9 tk9z9 F9z9 N9z9)
  k_with "call type:set" => refine hold ?_
  k_with "call builtin:sorted" => refine hold ?_
  k_with "call ref" => (k_here; (with_reducible show wpAny _ _ (call (Value.ref 154) [Value.ref _, Value.ref _]) _ _ _); refine hold ?_)
  k_with "setItem ref str" => refine hold ?_
  k_with "call builtin:list.pop" => (k_here; (with_reducible show wpAny _ _ (call (Value.builtin _) [Value.ref _]) _ _ _); k_dflt (refine' pop_M ?k1w53 ?k2w53 ?k3w53 ?zw53 ?_; (case k1w53 => k_asm); (case k2w53 => k_asm); (case k3w53 => k_updF); (case zw53 => first | assumption | omega); k_whole); intro hz9 Fz9 Nz9; (try dsimp only at Nz9); (try k_sweep))
  k_with "call builtin:list.extend" => (k_here; (with_reducible show wpAny _ _ (call (Value.builtin _) [Value.ref _, Value.ref _]) _ _ _); k_dflt (refine' extend_M ?k1w54 ?k2w54 ?k3w54 ?kbw54 ?zw54 ?_; (case k1w54 => k_asm); (case k2w54 => k_asm); (case k3w54 => k_updF); (case kbw54 => k_mem); (case zw54 => first | assumption | omega); k_whole); intro hz9 nz9 Fz9 Nz9; (try dsimp only at Nz9); (try k_sweep))
  k_with "compareOp NotIn str ref" => (k_here; (with_reducible show wpAny _ _ (compareOp CmpOp.NotIn (Value.str _ _) (Value.ref _)) _ _ _); k_dflt (first | (refine' kdg_notin (knd := PySem.strKind _ _) ?Nw55 ?mw55 ?dw55 ?low55 (strKind_is _ _ _ _) true ?hbw55 ?_; (case Nw55 => k_asm); (case mw55 => k_mem); (case dw55 => assumption); (case low55 => assumption); (case hbw55 => (rename (valueAt _ _ = _) => hvk9; simp [hvk9])); k_whole) | (refine' kdg_notin (knd := PySem.strKind _ _) ?Nw55 ?mw55 ?dw55 ?low55 (strKind_is _ _ _ _) false ?hbw55 ?_; (case Nw55 => k_asm); (case mw55 => k_mem); (case dw55 => assumption); (case low55 => assumption); (case hbw55 => (rename (valueAt _ _ = _) => hvk9; simp [hvk9])); k_whole)))
  k_with "k_all" => first | assumption | exact ne_all (by assumption)
  k_with "compareOp In str ref" => (k_here; (with_reducible show wpAny _ _ (compareOp CmpOp.In (Value.str _ _) (Value.ref _)) _ _ _); k_dflt (first | (refine' kda_in (knd := PySem.strKind _ _) ?Nw57 ?mw57 ?dw57 ?low57 (strKind_is _ _ _ _) true ?hbw57 ?_; (case Nw57 => k_asm); (case mw57 => k_mem); (case dw57 => assumption); (case low57 => assumption); (case hbw57 => (rename (valueAt _ _ = _) => hvk9; simp [hvk9])); k_whole) | (refine' kda_in (knd := PySem.strKind _ _) ?Nw57 ?mw57 ?dw57 ?low57 (strKind_is _ _ _ _) false ?hbw57 ?_; (case Nw57 => k_asm); (case mw57 => k_mem); (case dw57 => assumption); (case low57 => assumption); (case hbw57 => (rename (valueAt _ _ = _) => hvk9; simp [hvk9])); k_whole)))
  k_with "call type:list" => (k_here; (with_reducible show wpAny _ _ (call (Value.type _) [Value.ref _]) _ _ _); k_dflt (refine' list_list_M ?Fw58 ?Nw58 ?mw58 ?zw58 ?_; (case Fw58 => k_asm); (case Nw58 => k_asm); (case mw58 => k_mem); (case zw58 => first | assumption | omega); k_whole); intro D9z9 c9z9 h9z9 F9z9 N9z9 lt9z9; (try dsimp only at F9z9 N9z9); (try k_lt lt9z9))
  k_with "call builtin:list.remove" => refine hold ?_
  k_with "ktr_units" => (have hcL9z9 := cLine_is; (try simp only [units_under_make, units_in1, units_deeper, Around.mark_units, units_caller] at *); (try dsimp only [ktrTop] at *); omega)
  trivial
theorem Steps.cell {prog : Program} {w : World} {A : Around} {env : Env} {x : Str} {px : Pos} {I c : Addr} {fp : List Addr} {n : Nat} {P : Nat → Value → Prop} {St : Nat → Heap → Prop} (W : Walks prog w A I fp [I] n P St)
    (liveI : ∀ i h, St i h → ∃ o, h.get? I = some o) (hcf : c ∉ fp) (hkf : env.scope.kind = .function) (hx : env.kindOf x = some .cell) (hlk : env.cells.lookup x = some c) (hL : env.locals ∉ fp) (hLc : env.locals ≠ c) :
    Steps prog w A (.Name x px) env (.ref I) (c :: fp) [c, I] n (fun _ f => f = id) (fun i h => St i h ∧ ∃ v₀, h.IsCell c v₀ ∧ ∀ j, i = j + 1 → ∃ v, P j v ∧ v₀ = some v) where
  frame := fun i h h' ⟨st, v₀, ⟨o, ho, hd⟩, hv⟩ hk => ⟨W.frame _ _ _ st fun b hb o e => hk b (.tail _ hb) o e, v₀, ⟨o, hk c (.head _) o ho, hd⟩, hv⟩
  live := fun i h ⟨st, v₀, ⟨o, ho, hd⟩, hv⟩ b hb => by
    rcases of_mem2 hb with rfl | rfl
    · exact ⟨o, ho⟩
    · exact liveI i h st
  item := fun i s m Q E hi ⟨st, v₀, ⟨o, ho, hd⟩, hv⟩ hn hQ => by
    have hIf : I ∈ fp := W.sub I (List.mem_singleton.mpr rfl)
    have hcI : c ≠ I := fun q => hcf (q ▸ hIf)
    have hIL : env.locals ≠ I := fun q => hL (q ▸ hIf)
    refine W.item i s _ E hi st fun v h₁ tk₁ hP st₁ hk₁ => ⟨v, rfl, ?_⟩
    show wpAny _ _ (pure ()) _ _ _
    refine wpAny_pure ?_
    refine wpAny_assign_Name (wpAny_storeName_cell hkf hx hlk ⟨o, hk₁ c o (by simpa using hcI) ho, hd⟩ fun h₂ hv₂ hs₂ => ?_)
    refine hQ id h₂ _ rfl ⟨W.frame _ _ _ st₁ fun b hb o e => (hs₂.2 b (fun q => hcf (q ▸ hb))).trans e, some v, hv₂, fun j e => ⟨v, by cases e; exact hP, rfl⟩⟩ ((hn.at' fun o e => hk₁ _ o (by simpa using hIL) e).sameBut hs₂ hLc) fun b o hb hbL e => (hs₂.2 b (fun q => hb (q ▸ .head _))).trans (hk₁ b o (fun q => hb (by rw [List.mem_singleton.mp q]; exact .tail _ (.head _))) e)
  done := fun s Q E ⟨st, _⟩ hQ => W.done s Q E st fun h tk hk => hQ h tk fun b o hb e => hk b o (fun q => hb (by rw [List.mem_singleton.mp q]; exact .tail _ (.head _))) e
  self := fun i s Q E ⟨st, _⟩ hq => W.self i s Q E st hq
section
variable {prog : Program} {w : World} {A : Around} {E : Value → Shared → Prop} {s : Shared} {env : Env} {h₀ : Heap} {m : Str → Option Value}
noncomputable def LsTurn (kp : Bool) (prog : Program) (w : World) (A : Around) (h₀ : Heap) (env : Env) (body : List Stmt) (n : Nat) (P : Nat → Fm → Prop) (St : Nat → Heap → Prop) (priv : List Addr) (J : Nat → (Str → Option Value) → List (Addr × Obj) → Prop) (s₂ : Shared) : Prop :=
  ∀ i f m₁ nx own h tk dr E', i < n → P i f → St (i + 1) h → (∀ b ∈ priv, ∃ o, (b, o) ∈ own) → (∀ p ∈ own, p.1 ∈ priv) → J i m₁ nx → OwnOff own (nx.map (·.1)) → (kp = true → dr = s₂.drawn) → Fr h₀ env.locals h (f m₁) → News h₀ env.locals h (nx ++ own) →
    wpAny (model prog w) A (execs body env) (LfEnd kp h₀ env.locals (J (i + 1)) own { s₂ with heap := h, toks := tk, drawn := dr }) E' { s₂ with heap := h, toks := tk, drawn := dr }

noncomputable def LsAt (kp : Bool) (prog : Program) (w : World) (A : Around) (h₀ : Heap) (env : Env) (target : PySem.Expr) (body : List Stmt) (Q : Flow → Shared → Prop) (it : Value) (s₂ : Shared) : Prop :=
  ∃ (fp priv : List Addr) (n : Nat) (P : Nat → Fm → Prop) (St : Nat → Heap → Prop) (src news : List (Addr × Obj)) (J : Nat → (Str → Option Value) → List (Addr × Obj) → Prop) (m : Str → Option Value),
    Steps prog w A target env it fp priv n P St ∧ (∀ b ∈ fp, b ∈ priv ∨ (∃ o, h₀.get? b = some o) ∨ ∃ o, (b, o) ∈ src) ∧ St 0 s₂.heap ∧ (∀ b ∈ priv, h₀.get? b = none ∧ b ≠ env.locals) ∧
    Fr h₀ env.locals s₂.heap m ∧ News h₀ env.locals s₂.heap news ∧ (∀ p ∈ news, p.1 ∉ priv) ∧ J 0 m news ∧ (∀ i m nx, J i m nx → ∀ p ∈ src, p ∈ nx) ∧
    LsTurn kp prog w A h₀ env body n P St priv J s₂ ∧
    ∀ m' nx h tk dr, J n m' nx → (kp = true → dr = s₂.drawn) → Fr h₀ env.locals h m' → News h₀ env.locals h nx → Q .next { s₂ with heap := h, toks := tk, drawn := dr }

theorem ls_For {kp : Bool} {target iter : PySem.Expr} {body : List Stmt} {pos : Pos} {Q : Flow → Shared → Prop}
    (h : wpAny (model prog w) A (eval iter env) (fun xv s₁ => wpAny (model prog w) A (pyIter xv) (fun it s₂ => LsAt kp prog w A h₀ env target body Q it s₂) E s₁) E s)
    (hs : ∀ x, foldedSetIterable iter env x = pure x) :
    wpAny (model prog w) A (exec (.For target iter body [] pos) env) Q E s := by
  refine wpAny_For (wpAny_mono h (fun xv s₁ h₁ => wpAny_mono h₁ (fun it s₂ h₂ => ?_) fun _ _ e => e) fun _ _ e => e) hs
  obtain ⟨fp, priv, n, P, St, src, news, J, m, W, hfp, hst, hpv, F, N, hne, hj, hsrc, turn, done⟩ := h₂
  refine codeAny_forLoop_any (R := fun r s' => match r with | .ok f => Q f s' | .error e => cameBackBy (model prog w) A env E e s')
    (LoInv kp h₀ env.locals n St J priv s₂) ?_ (n + 1)
    (.mk 0 news m s₂.heap s₂.toks s₂.drawn (fun _ => rfl) (Nat.zero_le _) hst hj F N hne)
  rintro _ _ ⟨i, nx, m₁, h, tk, dr, hdr, hi, hst', hJ, F₁, N₁, hn₁⟩
  have hLp : env.locals ∉ priv := fun q => (hpv _ q).2 rfl
  by_cases hlt : i < n
  · refine wpAny_mono (W.item i _ m₁ (fun s₃ => wpAny (model prog w) A (execs body env) (fun f s₃ => match f with
            | .next | .cont => ∃ k', k' < n + 1 - i ∧ LoInv kp h₀ env.locals n St J priv s₂ k' s₃
            | .brk => Q .next s₃
            | .ret v => Q (.ret v) s₃) (notedBy (model prog w) A env fun e s' => cameBackBy (model prog w) A env E e s') s₃)
      (notedBy (model prog w) A env fun e s' => cameBackBy (model prog w) A env E e s') hlt hst' F₁.ns fun f h₂ tk₂ hP hst₂ hnL hk₂ => ?_) (fun r s₁ h₁ => ?_) fun _ _ q => q
    · have keep2 : ∀ b o, h₀.get? b = some o → h₂.get? b = some o := fun b o q => hk₂ b o (fun z => by rw [(hpv _ z).1] at q; cases q) (by rintro rfl; rw [Heap.get?_none_of_le F₁.above] at q; cases q) (F₁.keep b o q)
      obtain ⟨po, po1, po2⟩ := live_list (W.live _ _ hst₂)
      have F₂ : Fr h₀ env.locals h₂ (f m₁) := ⟨hnL, keep2, F₁.above⟩
      have N₂ : News h₀ env.locals h₂ (nx ++ po) := fun p hp => by
        rcases List.mem_append.mp hp with hp | hp
        · have z := N₁ p hp
          exact ⟨hk₂ _ _ (hn₁ p hp) z.2.1 z.1, z.2⟩
        · exact ⟨(po1 p hp).2, (hpv _ (po1 p hp).1).2, (hpv _ (po1 p hp).1).1⟩
      have off : OwnOff po (nx.map (·.1)) := by
        intro p hp b hb
        obtain ⟨q, hq, rfl⟩ := List.mem_map.mp hb
        exact fun q' => hn₁ q hq (q' ▸ (po1 p hp).1)
      refine wpAny_mono (turn i f m₁ nx po h₂ tk₂ dr _ hlt hP hst₂ po2 (fun p hp => (po1 p hp).1) hJ off hdr F₂ N₂) (fun fl s₄ h₄ => ?_) fun _ _ q => q
      obtain ⟨h₃, tk₃, dr₃, nx', news', m', hfl, rfl, hdr₃, F₃, N₃, hin, hown, hoff, hJ'⟩ := h₄
      have hnx : ∀ p ∈ nx', p.1 ∉ priv := fun p hp q => by
        obtain ⟨o, ho⟩ := po2 _ q
        exact hoff _ ho _ (List.mem_map_of_mem (f := (·.1)) hp) rfl
      have hst₃ : St (i + 1) h₃ := W.frame _ _ _ hst₂ fun b hb o q => by
        rcases hfp b hb with r | ⟨o', r⟩ | ⟨o', r⟩
        · obtain ⟨o', ho⟩ := po2 _ r
          have z := (po1 _ ho).2
          dsimp only at z
          rw [z] at q; cases q
          exact (N₃ _ (hown _ ho)).1
        · rw [keep2 _ _ r] at q; cases q; exact F₃.keep _ _ r
        · have z := N₂ _ (List.mem_append_left _ (hsrc _ _ _ hJ _ r))
          rw [z.1] at q; cases q
          exact (N₃ _ (hin _ (hsrc _ _ _ hJ' _ r))).1
      have fin : ∃ k', k' < n + 1 - i ∧ LoInv kp h₀ env.locals n St J priv s₂ k' { s₂ with heap := h₃, toks := tk₃, drawn := dr₃ } :=
        ⟨n + 1 - (i + 1), by omega, .mk (i + 1) nx' m' h₃ tk₃ dr₃ (fun q => (hdr₃ q).trans (hdr q)) hlt hst₃ hJ' F₃ (fun p hp => N₃ p (hin p hp)) hnx⟩
      rcases hfl with rfl | rfl
      · exact fin
      · exact fin
    · obtain ⟨v, rfl, h₁⟩ := h₁
      exact h₁
  · have hin : i = n := by omega
    subst hin
    refine W.done _ _ _ hst' fun h₁ tk₁ hk₁ => wpAny_execs_nil ?_
    have keep1 : ∀ b o, h₀.get? b = some o → h₁.get? b = some o := fun b o q => hk₁ b o (fun z => by rw [(hpv _ z).1] at q; cases q) (F₁.keep b o q)
    obtain ⟨oL, esL, epL, eL, rL⟩ := id F₁.ns
    exact done m₁ nx h₁ tk₁ dr hJ hdr ⟨⟨oL, esL, epL, hk₁ _ _ hLp eL, rL⟩, keep1, F₁.above⟩ fun p hp => ⟨hk₁ _ _ (hn₁ p hp) (N₁ p hp).1, (N₁ p hp).2⟩
/-- a for loop over a dict's keys into a cell -/
theorem ls_dict {K : Type} [DecidableEq K] {knd : KeyKind prog w K} {x : Str} {px : Pos} {body : List Stmt} {Q : Flow → Shared → Prop} {l c : Addr} {o oc : Obj} {v₀ : Option Value} {kvs : List (K × Value)} {news : List (Addr × Obj)} (J : Nat → (Str → Option Value) → List (Addr × Obj) → Prop)
    (hh : A.handled = none) (hd : o.IsDictOf knd kvs) (F : Fr h₀ env.locals s.heap m) (N : News h₀ env.locals s.heap ((c, oc) :: news)) (hcn : ∀ p ∈ news, p.1 ≠ c) (hoc : oc.data = .cell v₀) (hkf : env.scope.kind = .function) (hx : env.kindOf x = some .cell) (hlk : env.cells.lookup x = some c) (hsm : (l == sysModules) = false)
    (hj : J 0 m news) (hsrc : ∀ i m nx, J i m nx → (l, o) ∈ nx)
    (turn : ∀ i k y v oc' m₁ nx own h tk E', kvs[i]? = some (k, y) → knd.is k v = true → oc'.data = .cell (some v) → (c, oc') ∈ own → (∀ p ∈ own, ∀ vs, p.2 ≠ tupO vs) → J i m₁ nx → OwnOff own (nx.map (·.1)) → Fr h₀ env.locals h m₁ → News h₀ env.locals h (nx ++ own) →
      wpAny (model prog w) A (execs body env) (LfEnd true h₀ env.locals (J (i + 1)) own { s with heap := h, toks := tk }) E' { s with heap := h, toks := tk })
    (done : ∀ m' nx h tk, J kvs.length m' nx → Fr h₀ env.locals h m' → News h₀ env.locals h nx → Q .next { s with heap := h, toks := tk }) :
    wpAny (model prog w) A (pyIter (.ref l)) (fun it s₂ => LsAt true prog w A h₀ env (.Name x px) body Q it s₂) E s := by
  have hm := hsrc _ _ _ hj
  obtain ⟨es, ep, hc, hdat, hk, hpr, hn⟩ := id hd
  have Nn := cb_drop N (fun p hp => List.Mem.tail _ hp)
  have hls : s.heap.DictAt knd l kvs ep := ⟨o, es, (Nn _ hm).1, hc, hdat, hk, hpr, hn⟩
  have hne : l ≠ s.heap.objs.size := Nat.ne_of_lt (Heap.lt_size (Nn _ hm).1)
  have hLl : env.locals ≠ s.heap.objs.size := Nat.ne_of_lt F.ns.lt
  have hcs := Heap.lt_size (N _ (.head _)).1
  have hcl : c ≠ l := fun q => hcn _ hm q.symm
  refine wpAny_pyIter_dict hsm hls ?_
  have W := Walks.dictKeys (A := A) (knd := knd) hh s.heap.objs.size l hne kvs ep
  refine ⟨[c, s.heap.objs.size, l], [c, s.heap.objs.size], kvs.length, _, _, [(l, o)], news, J, m, Steps.cell W (fun i h st => ?_) (fun hb => ?_) hkf hx hlk (fun hb => ?_) (Ne.symm (N _ (.head _)).2.1), fun b hb => ?_, ⟨⟨⟨_, Heap.get?_push_size _ rfl, rfl, rfl⟩, ⟨o, es, Heap.get?_push_of_some _ (Nn _ hm).1, hc, hdat, hk, hpr, hn⟩⟩, v₀, ⟨oc, Heap.get?_push_of_some _ (N _ (.head _)).1, hoc⟩, fun j e => by cases e⟩, fun b hb => ?_, F.push _, fun p hp => ⟨Heap.get?_push_of_some _ (Nn p hp).1, (Nn p hp).2⟩, fun p hp q => ?_, hj, fun i m nx q p hp => ?_, ?_, ?_⟩
  · obtain ⟨⟨o, ho, _⟩, _⟩ := st; exact ⟨o, ho⟩
  · rcases of_mem2 hb with hb | hb
    · exact absurd hcs (by rw [hb]; exact Nat.lt_irrefl _)
    · exact hcl hb
  · rcases of_mem2 hb with hb | hb
    · exact hLl hb
    · exact (Nn _ hm).2.1 hb.symm
  · rcases of_mem3 hb with rfl | rfl | rfl
    · exact .inl (.head _)
    · exact .inl (.tail _ (.head _))
    · exact .inr (.inr ⟨_, .head _⟩)
  · rcases of_mem2 hb with rfl | rfl
    · exact ⟨(N _ (.head _)).2.2, (N _ (.head _)).2.1⟩
    · exact ⟨none_at F, hLl.symm⟩
  · rcases of_mem2 q with q | q
    · exact hcn p hp q
    · have := Heap.lt_size (Nn p hp).1; rw [q] at this; exact Nat.lt_irrefl _ this
  · rw [List.mem_singleton.mp hp]; exact hsrc _ _ _ q
  · rintro i f m₁ nx own h tk dr E' hi hf ⟨st, v₁, ⟨o₁, ho₁, hd₁⟩, hv₁⟩ hpo hpi hJ off hdr F' N'
    have hdr' := hdr rfl
    subst hdr'
    obtain ⟨v, ⟨k, y, hky, hkv⟩, rfl⟩ := hv₁ i rfl
    obtain ⟨o₂, ho₂⟩ := hpo c (.head _)
    have e := (N' _ (List.mem_append_right _ ho₂)).1
    dsimp only at e
    rw [ho₁] at e
    cases e
    rw [hf] at F'
    refine turn i k y v o₁ m₁ nx own h tk E' hky hkv hd₁ ho₂ (fun p hp vs q => ?_) hJ off F' N'
    have z := (N' p (List.mem_append_right _ hp)).1
    have hb := hpi p hp
    rcases of_mem2 hb with hb | hb
    · rw [hb, ho₁] at z
      obtain rfl := Option.some.inj z
      rw [q] at hd₁
      cases hd₁
    · obtain ⟨oI, hoI, hcI, _⟩ := st.1
      rw [hb, hoI] at z
      obtain rfl := Option.some.inj z
      rw [q] at hcI
      exact absurd (show Value.type "tuple" = Value.type "dict_keyiterator" from hcI) (by decide)
  · intro m' nx h tk dr hJ hdr F' N'
    have hdr' := hdr rfl
    subst hdr'
    exact done m' nx h tk hJ F' N'
end

theorem or6 : ∀ a < 64, ∀ b < 64, Builtin.bitOr (a : Nat) (b : Nat) = (((a ||| b : Nat)) : Int) ∧ (a ||| b) < 64 := by decide +kernel
theorem and6 : ∀ a < 64, ∀ b < 64, Builtin.bitAnd (a : Nat) (b : Nat) = (((a &&& b : Nat)) : Int) := by decide +kernel
theorem shr6 : ∀ a < 64, ∀ j < 6, (Builtin.bitAnd (((a : Nat) : Int).fdiv (2 ^ j)) 1 == 1) = a.testBit j := by decide +kernel
theorem pow6 : ∀ j < 6, (2 ^ j : Nat) < 64 := by decide
/-- ints by names -/
inductive BtAre (bt : Str → Nat) : List (Str × Value) → List Str → Prop
  | nil : BtAre bt [] []
  | cons {n : Str} {t : Tok} {kvs : List (Str × Value)} {ns : List Str} : BtAre bt kvs ns → BtAre bt ((n, .int (bt n : Nat) t) :: kvs) (n :: ns)
theorem BtAre.snoc {bt : Str → Nat} {kvs : List (Str × Value)} {ns : List Str} (h : BtAre bt kvs ns) (n : Str) (t : Tok) : BtAre bt (kvs ++ [(n, .int (bt n : Nat) t)]) (ns ++ [n]) := by
  induction h with
  | nil => exact .cons .nil
  | cons _ ih => exact .cons ih
theorem BtAre.keys {bt : Str → Nat} {kvs : List (Str × Value)} {ns : List Str} (h : BtAre bt kvs ns) : kvs.map (·.1) = ns := by
  induction h with
  | nil => rfl
  | cons _ ih => rw [List.map_cons, ih]
theorem BtAre.len {bt : Str → Nat} {kvs : List (Str × Value)} {ns : List Str} (h : BtAre bt kvs ns) : kvs.length = ns.length := by rw [← h.keys, List.length_map]
theorem BtAre.at {bt : Str → Nat} {kvs : List (Str × Value)} {ns : List Str} (h : BtAre bt kvs ns) : ∀ n ∈ ns, ∃ t, valueAt kvs n = some (.int (bt n : Nat) t) := by
  induction h with
  | nil => intro n hn; cases hn
  | @cons n' t kvs ns _ ih =>
    intro n hn
    unfold valueAt at ih ⊢
    rw [List.find?_cons]
    by_cases e : n' = n
    · subst e; exact ⟨t, by simp⟩
    · rw [show (decide ((n', Value.int (bt n' : Nat) t).1 = n)) = false from decide_eq_false e]
      exact ih n ((List.mem_cons.mp hn).resolve_left (Ne.symm e))
inductive PrsN (news : List (Addr × Obj)) : List Value → List (Str × Value) → Prop
  | nil : PrsN news [] []
  | cons {a : Addr} {k : Str} {t : Tok} {y : Value} {vs : List Value} {kvs : List (Str × Value)} : (a, tupO [.str k t, y]) ∈ news → PrsN news vs kvs → PrsN news (.ref a :: vs) ((k, y) :: kvs)
theorem PrsN.mono {news news' : List (Addr × Obj)} (hs : ∀ p ∈ news, p ∈ news') {vs : List Value} {kvs : List (Str × Value)} (h : PrsN news vs kvs) : PrsN news' vs kvs := by
  induction h with
  | nil => exact .nil
  | cons hm _ ih => exact .cons (hs _ hm) ih
theorem PrsN.snoc {news : List (Addr × Obj)} {a : Addr} {k : Str} {t : Tok} {y : Value} {vs : List Value} {kvs : List (Str × Value)} (h : PrsN news vs kvs) (hm : (a, tupO [.str k t, y]) ∈ news) : PrsN news (vs ++ [.ref a]) (kvs ++ [(k, y)]) := by
  induction h with
  | nil => exact .cons hm .nil
  | cons hm' _ ih => exact .cons hm' ih
theorem PrsN.prs {h₀ h : Heap} {L : Addr} {news : List (Addr × Obj)} (N : News h₀ L h news) {vs : List Value} {kvs : List (Str × Value)} (p : PrsN news vs kvs) : Dp.Prs h vs kvs := by
  induction p with
  | nil => exact .nil
  | cons hm _ ih => exact .cons ⟨_, (N _ hm).1, rfl, _, rfl⟩ ih
theorem due_led {h₀ h : Heap} {L : Nat} {o1 o2 o3 : Obj} {news : List (Addr × Obj)} (_ : News h₀ L h ((L + 1 + 1 + 1, o1) :: (L + 1 + 1, o2) :: (L + 1, o3) :: news)) : ∃ (L' : Nat) (q1 q2 q3 : Obj), L' = L ∧ q1 = o1 ∧ q2 = o2 ∧ q3 = o3 := ⟨_, _, _, _, rfl, rfl, rfl, rfl⟩
theorem due_led2 {h₀ h : Heap} {L al Db c1 c2 c3 : Nat} {D : Addr} {t o1 od q1 qa qb : Obj} {news : List (Addr × Obj)} (N : News h₀ L h ((D, t) :: (al, o1) :: (Db, od) :: (c3, q1) :: (c2, qa) :: (c1, qb) :: news)) : ∃ (al' : Nat) (qa' qb' : Obj) (led1 : List (Addr × Obj)), al' = al ∧ qa' = qa ∧ qb' = qb ∧ led1 = (Db, od) :: (c3, q1) :: (c2, qa') :: (c1, qb') :: news ∧ News h₀ L h ((al', o1) :: led1) := ⟨_, _, _, _, rfl, rfl, rfl, rfl, cb_drop N (fun p hp => .tail _ hp)⟩
theorem ints_snoc {vs : List Value} {ns : List Int} (h : IntsAre vs ns) (n : Int) (t : Tok) : IntsAre (vs ++ [.int n t]) (ns ++ [n]) := by
  induction h with
  | nil => exact .cons n t .nil
  | cons a u _ ih => exact .cons a u ih
theorem pair_M {prog : Program} {w : World} {A : Around} {E : Value → Shared → Prop} {s : Shared} {h₀ : Heap} {L : Addr} {m : Str → Option Value} {news : List (Addr × Obj)} {k : Str} {y : Int} {t t9 : Tok} {Q : Value → Shared → Prop} (F : Fr h₀ L s.heap m) (N : News h₀ L s.heap news)
    (h : ∀ D h' t', Fr h₀ L h' m → News h₀ L h' ((D, tupO [.str k t, .int y t']) :: news) → (∀ q ∈ news, q.1 < D) → Q (.ref D) { s with heap := h' }) : wpAny (model prog w) A (newTuple [.str k t, .int y t9]) Q E s :=
  kup_newTuple F N (fun D h' F' N' l1 => h D h' t9 F' N' l1) (by rw [sizeLine_eq]; simp)
theorem or_val {a : Nat} {x : Nat} (ha : a < 64) (hx : x < 6) : Builtin.bitOr (a : Int) ((2 : Int) ^ x) = ((a ||| 2 ^ x : Nat) : Int) := by
  have h := (or6 a ha (2 ^ x) (pow6 x hx)).1
  have e : ((2 ^ x : Nat) : Int) = (2 : Int) ^ x := by simp
  rw [← e]
  exact h
noncomputable def orF (bt : Str → Nat) (xs : List Str) : Nat := xs.foldl (fun a o => a ||| bt o) 0
theorem orF_snoc (bt : Str → Nat) (xs : List Str) (o : Str) : orF bt (xs ++ [o]) = orF bt xs ||| bt o := by simp [orF]
theorem orF_lt {bt : Str → Nat} (hb : ∀ n, bt n < 64) (xs : List Str) : orF bt xs < 64 := by
  have : ∀ (xs : List Str) (a : Nat), a < 64 → xs.foldl (fun a o => a ||| bt o) a < 64 := by
    intro xs
    induction xs with
    | nil => intro a h; exact h
    | cons o r ih => intro a h; exact ih _ ((or6 a h _ (hb o)).2)
  exact this xs 0 (by decide)
theorem sn_new : ∀ i < 21, sn i ∉ (List.range 6).map bs ++ (List.range i).map sn := by decide +kernel
theorem NmOk.mem {k : Nat} {x : Str} (h : NmOk k x) : x ∈ (List.range 6).map bs ++ (List.range k).map sn := by
  rcases h with ⟨i, hi, rfl⟩ | ⟨j, hj, rfl⟩
  · exact List.mem_append_right _ (List.mem_map_of_mem (List.mem_range.mpr hi))
  · exact List.mem_append_left _ (List.mem_map_of_mem (List.mem_range.mpr hj))
noncomputable def rho : Nat → Nat
  | 0 => 3
  | 1 => 1
  | 2 => 5
  | 3 => 0
  | 4 => 4
  | _ => 2
theorem rho_lt : ∀ j < 6, rho j < 6 := by decide
theorem bs_rho : ∀ j < 6, bs j = Tab.bnm (rho j) := by decide +kernel
theorem rho_inj : ∀ i < 6, ∀ j < 6, rho i = rho j → i = j := by decide
noncomputable def keptB (bt : Str → Nat) (ab : Nat → Nat) (n : Str) (j : Nat) : Bool := (bt n).testBit j && (ab j &&& bt n) == 0
noncomputable def keptJ (bt : Str → Nat) (ab : Nat → Nat) (n : Str) : List Nat := (List.range 6).filter (keptB bt ab n)
noncomputable def kp (bt : Str → Nat) (ab : Nat → Nat) (n : Str) : List Nat := Tab.srt ((keptJ bt ab n).map rho)
inductive DueAre (news : List (Addr × Obj)) (f : Str → List Nat) : List (Str × Value) → List Str → Prop
  | nil : DueAre news f [] []
  | cons {n : Str} {D : Addr} {vs : List Value} {kvs : List (Str × Value)} {ns : List Str} : (D, tupO vs) ∈ news → Tab.KIn news vs (f n) → DueAre news f kvs ns → DueAre news f ((n, .ref D) :: kvs) (n :: ns)
theorem DueAre.mono {news news' : List (Addr × Obj)} (hs : ∀ p ∈ news, p ∈ news') {f : Str → List Nat} {kvs : List (Str × Value)} {ns : List Str} (h : DueAre news f kvs ns) : DueAre news' f kvs ns := by
  induction h with
  | nil => exact .nil
  | cons h1 h2 _ ih => exact .cons (hs _ h1) (h2.mono hs) ih
theorem DueAre.snoc {news : List (Addr × Obj)} {f : Str → List Nat} {kvs : List (Str × Value)} {ns : List Str} {n : Str} {D : Addr} {vs : List Value} (h : DueAre news f kvs ns) (h1 : (D, tupO vs) ∈ news) (h2 : Tab.KIn news vs (f n)) : DueAre news f (kvs ++ [(n, .ref D)]) (ns ++ [n]) := by
  induction h with
  | nil => exact .cons h1 h2 .nil
  | cons a b _ ih => exact .cons a b ih
theorem DueAre.keys {news : List (Addr × Obj)} {f : Str → List Nat} {kvs : List (Str × Value)} {ns : List Str} (h : DueAre news f kvs ns) : kvs.map (·.1) = ns := by
  induction h with
  | nil => rfl
  | cons _ _ _ ih => rw [List.map_cons, ih]
theorem DueAre.at {news : List (Addr × Obj)} {f : Str → List Nat} {kvs : List (Str × Value)} {ns : List Str} (h : DueAre news f kvs ns) : ∀ n ∈ ns, ∃ D vs, valueAt kvs n = some (.ref D) ∧ (D, tupO vs) ∈ news ∧ Tab.KIn news vs (f n) := by
  induction h with
  | nil => intro n hn; cases hn
  | @cons n' D vs kvs ns h1 h2 _ ih =>
    intro n hn
    unfold valueAt at ih ⊢
    rw [List.find?_cons]
    by_cases e : n' = n
    · subst e; exact ⟨D, vs, by simp, h1, h2⟩
    · rw [show (decide ((n', Value.ref D).1 = n)) = false from decide_eq_false e]
      exact ih n ((List.mem_cons.mp hn).resolve_left (Ne.symm e))
theorem due_led3 {h₀ h : Heap} {L dd Db : Nat} {o1 ok : Obj} {R : List (Addr × Obj)} (_ : News h₀ L h ((dd, o1) :: (Db, ok) :: R)) : ∃ (dd' : Nat) (o' : Obj), dd' = dd ∧ o' = o1 := ⟨_, _, rfl, rfl⟩
theorem str_of_is {w : World} {k : Str} {v : Value} (h : (PySem.strKind PG w).is k v = true) : ∃ t, v = .str k t := by
  cases v with
  | str x t =>
    have e := (PySem.strKind PG w).inj _ _ _ h (strKind_is PG w x t)
    exact ⟨t, by rw [e]⟩
  | _ => cases h
theorem ls_ForM {prog : Program} {w : World} {A : Around} {E : Value → Shared → Prop} {s : Shared} {env : Env} {h₀ : Heap} {m : Str → Option Value} (kp : Bool) {target iter : PySem.Expr} {body : List Stmt} {pos : Pos} {Q : Flow → Shared → Prop} (_F : Fr h₀ env.locals s.heap m)
    (h : wpAny (model prog w) A (eval iter env) (fun xv s₁ => wpAny (model prog w) A (pyIter xv) (fun it s₂ => LsAt kp prog w A h₀ env target body Q it s₂) E s₁) E s)
    (hs : ∀ x, foldedSetIterable iter env x = pure x) :
    wpAny (model prog w) A (exec (.For target iter body [] pos) env) Q E s := ls_For h hs
theorem kept_step {bt : Str → Nat} {ab : Nat → Nat} {k : Str} {ys : List Value} {i : Nat} {t : Tok} (h : IntsAre ys (((List.range i).filter (keptB bt ab k)).map fun (j : Nat) => (j : Int))) (hk : keptB bt ab k i = true) : IntsAre (ys ++ [.int (i : Int) t]) (((List.range (i + 1)).filter (keptB bt ab k)).map fun (j : Nat) => (j : Int)) := by
  rw [List.range_succ, List.filter_append, List.map_append]
  rw [show [i].filter (keptB bt ab k) = [i] by simp [hk]]
  exact ints_snoc h _ _
theorem kept_skip {bt : Str → Nat} {ab : Nat → Nat} {k : Str} {ys : List Value} {i : Nat} (h : IntsAre ys (((List.range i).filter (keptB bt ab k)).map fun (j : Nat) => (j : Int))) (hk : keptB bt ab k i = false) : IntsAre ys (((List.range (i + 1)).filter (keptB bt ab k)).map fun (j : Nat) => (j : Int)) := by
  rw [List.range_succ, List.filter_append, List.map_append]
  rw [show [i].filter (keptB bt ab k) = [] by simp [hk], List.map_nil, List.append_nil]
  exact h
theorem single_M {prog : Program} {w : World} {A : Around} {E : Value → Shared → Prop} {s : Shared} {h₀ : Heap} {L : Addr} {m : Str → Option Value} {news : List (Addr × Obj)} {k : Str} {t9 : Tok} {Q : Value → Shared → Prop} (F : Fr h₀ L s.heap m) (N : News h₀ L s.heap news)
    (h : ∀ D h' t', Fr h₀ L h' m → News h₀ L h' ((D, tupO [.str k t']) :: news) → (∀ q ∈ news, q.1 < D) → Q (.ref D) { s with heap := h' }) : wpAny (model prog w) A (newTuple [.str k t9]) Q E s :=
  kup_newTuple F N (fun D h' F' N' l1 => h D h' t9 F' N' l1) (by rw [sizeLine_eq]; simp)
theorem led_name {h₀ h : Heap} {L : Addr} {led : List (Addr × Obj)} (N : News h₀ L h led) : ∃ led', led' = led ∧ News h₀ L h led' := ⟨_, rfl, N⟩
theorem take_snocN {l : List Nat} {i : Nat} {x : Nat} (h : l[i]? = some x) : l.take (i + 1) = l.take i ++ [x] := by rw [List.take_add_one, h]; rfl
theorem keptJ_lt {bt : Str → Nat} {ab : Nat → Nat} {n : Str} : ∀ j ∈ keptJ bt ab n, j < 6 := fun j hj => List.mem_range.mp (List.mem_filter.mp hj).1
theorem keptJ_nodup (bt : Str → Nat) (ab : Nat → Nat) (n : Str) : (keptJ bt ab n).Nodup := List.nodup_range.filter _
theorem map_rho_nodup : ∀ {l : List Nat}, l.Nodup → (∀ j ∈ l, j < 6) → (l.map rho).Nodup
  | [], _, _ => .nil
  | j :: l, hn, h6 => by
    rw [List.map_cons, List.nodup_cons]
    have hn' := List.nodup_cons.mp hn
    refine ⟨fun hm => ?_, map_rho_nodup hn'.2 fun i hi => h6 i (.tail _ hi)⟩
    obtain ⟨i, hi, e⟩ := List.mem_map.mp hm
    have := rho_inj i (h6 i (.tail _ hi)) j (h6 j (.head _)) e
    exact hn'.1 (this ▸ hi)
theorem nms_nodup : ∀ q < 21, (nms q).Nodup := by decide +kernel
theorem not_tup_list {a d : Addr} {vs ws : List Value} {c : Nat} : (a, tupO vs) ≠ (d, PySem.W.listOf (List.toArray ws) c) := fun h => by
  have := congrArg (fun p : Addr × Obj => p.2.cls) h
  simp [PySem.W.listOf] at this
theorem not_tup_dict {w : World} {a d : Addr} {vs : List Value} {o : Obj} {kvs : List (Str × Value)} (ho : o.IsDictOf (PySem.strKind PG w) kvs) : (a, tupO vs) ≠ (d, o) := fun h => by
  obtain ⟨es, ep, _, hdt, _⟩ := ho
  have := congrArg (fun p : Addr × Obj => p.2.data) h
  simp only at this
  rw [hdt] at this
  cases this
theorem bs_nodup : ((List.range 6).map bs).Nodup := by decide +kernel
theorem dict_M {w : World} {A : Around} {E : Value → Shared → Prop} {s : Shared} {h₀ : Heap} {L l : Addr} {m : Str → Option Value} {news : List (Addr × Obj)} {vs : List Value} {k : Nat} {kvs : List (Str × Value)} {Q : Value → Shared → Prop} (hh : A.handled = none) (F : Fr h₀ L s.heap m) (N : News h₀ L s.heap news) (hm : sysModules < h₀.objs.size) (hl : (l, PySem.W.listOf (List.toArray vs) k) ∈ news) (hp : Dp.Prs s.heap vs kvs) (hnd : (kvs.map (·.1)).Nodup) (hz : vs.length ≤ 1000)
    (h : ∀ D o h' tk, Fr h₀ L h' m → News h₀ L h' ((D, o) :: news) → o.IsDictOf (PySem.strKind PG w) kvs → (∀ q ∈ news, q.1 < D) → (D == sysModules) = false → Q (.ref D) { s with heap := h', toks := tk }) :
    wpAny (model PG w) A (call (.type "dict") [.ref l]) Q E s := by
  refine Dp.dict_call hh (N _ hl).1 hp hnd hz fun h' tk hd hk => ?_
  obtain ⟨o, ho, hd'⟩ := Heap.dictOf_iff.mp hd
  refine h _ o h' tk (F.keeps hk) (fun p hp => ?_) hd' (fun q hq => Heap.lt_size (N q hq).1) (F.notModules hm)
  rcases List.mem_cons.mp hp with rfl | hp
  · exact ⟨ho, Ne.symm (Nat.ne_of_lt F.ns.lt), none_at F⟩
  · exact N.grown hk p hp
section
theorem word39 : True := by
  k_with "call type:enumerate" => refine hold ?_
  k_with "call type:dict" => refine hold ?_
  k_with "subscriptTail" => (k_here; (with_reducible show wpAny _ _ (subscriptTail _ _ (Value.ref _) (Value.int _ _)) _ _ _); refine hold ?_)
  k_with "exec For Tuple Call cons nil" => refine hold ?_
  trivial
variable {w : World} {p : Program} {loose : List Str} {mean : ExcName → Option Value} {mg mb : Str → Option Value}
    {dp un : Nat} {gd : Option (List Code)} {cn : Str} {cs : Scope} {a : Addr} {ccd : Value} {cl : List (Str × Addr)} {outer : List Env} {A₀ : Around} {base h₀ : Heap} {L : Addr} {m : Str → Option Value} {news : List (Addr × Obj)} {s : Shared} {Q E : Value → Shared → Prop}
    (B : Below A₀ base outer h₀) (F : Fr h₀ L s.heap m) (X : (hd.heap_1 w.params).In h₀) (N : News h₀ L s.heap news) (T : Top p loose mean mg mb h₀) (hk : cs.kind = .function)
include B F X N T hk
set_option maxHeartbeats 1600000 in
theorem due_ {pl ql : Addr} {pvs qvs : List Value} {prs : List Int} {os : List (List Str)} {n1 n2 : Nat} (hpl : (pl, PySem.W.listOf (List.toArray pvs) n1) ∈ news) (hpv : IntsAre pvs prs) (hpn : prs.length = 6) (hpr : ∀ (j : Nat) (x : Int), prs[j]? = some x → -1 ≤ x ∧ x < j)
    (hql : (ql, PySem.W.listOf (List.toArray qvs) n2) ∈ news) (hqv : Prts news qvs os) (hos : os.length ≤ 20)
    (bt : Str → Nat) (ab : Nat → Nat) (hbb : ∀ j < 6, bt (bs j) = 2 ^ j)
    (hab : ∀ (j : Nat) (x : Int), prs[j]? = some x → ab j = if 0 ≤ x then ab x.toNat ||| 2 ^ x.toNat else 0) (hal : ∀ j, ab j < 64) (hbl : ∀ n, bt n < 64) (hkn : ∀ n ∈ nms os.length, keptJ bt ab n ≠ []) (hbs : ∀ (k : Nat) (xs : List Str), os[k]? = some xs → bt (sn k) = xs.foldl (fun a o => a ||| bt o) 0) (hpo : ∀ (k : Nat) (xs : List Str), os[k]? = some xs → ∀ o ∈ xs, NmOk k o)
    (hd : dp + 8 < recursionLimit) (hu : un + 80 < cLine)
    (ret : ∀ D od kd tl h' tk', Fr h₀ L h' m → News h₀ L h' ((D, od) :: (tl ++ news)) → (∀ q ∈ news, q.1 < D) → (∀ q ∈ news, ∀ p ∈ tl, q.1 < p.1) → (∀ p ∈ tl, p.1 ≠ D) → od.IsDictOf (PySem.strKind PG w) kd → (D == sysModules) = false → DueAre (tl ++ news) (kp bt ab) kd (nms os.length) → Q (.ref D) { s with heap := h', toks := tk' }) :
    wpAny (model PG w) (ktrTop dp un gd cn cs L a ccd cl outer) (call (.ref 425) [.ref pl, .ref ql]) Q E s := by
  refine wpAny_call ?_
  k_dflt ktr_unf
  rename (∀ p ∈ news, p.1 < _) => l1
  have l2 : ∀ p ∈ news, p.1 < _ + 1 + 1 + 1 := fun p hp => Nat.lt_succ_of_lt (Nat.lt_succ_of_lt (Nat.lt_succ_of_lt (l1 p hp)))
  have l3 : ∀ p ∈ news, p.1 < _ + 1 + 1 := fun p hp => Nat.lt_succ_of_lt (Nat.lt_succ_of_lt (l1 p hp))
  have l4 : ∀ p ∈ news, p.1 < _ + 1 := fun p hp => Nat.lt_succ_of_lt (l1 p hp)
  k_steps
  unfold Hold
  rename Fr _ _ _ _ => Fx
  rename News _ _ _ _ => Nx
  obtain ⟨L0, q1, q2, q3, e1, e2, e3, e4⟩ := due_led Nx
  subst e1 e2 e3 e4
  obtain ⟨led, hled⟩ : ∃ led, led = (L0 + 1 + 1 + 1, q1) :: (L0 + 1 + 1, q2) :: (L0 + 1, q3) :: news := ⟨_, rfl⟩
  rw [← hled] at Nx
  refine lt_eval Fx (by with_unfolding_all rfl) (by decide) (by rfl) (by decide) ?_ (by intro _; rfl)
  k_steps
  unfold Hold
  rename Frag.In _ _ => hX
  refine lt_enum_tuple (vs := basesV) (TupSrc.base (hX _ _ (bases_at w)) rfl rfl) (fun i ys nx => ∃ tl kvs, nx = tl ++ led ∧ (∀ q ∈ led, ∀ p ∈ tl, q.1 < p.1) ∧ PrsN nx ys kvs ∧ BtAre bt kvs ((List.range i).map bs) ∧ ys.length = i) (by with_unfolding_all rfl) Fx Nx (by decide) (by rfl) (by rfl) (by rfl) ⟨[], [], rfl, (fun _ _ _ h => nomatch h), .nil, .nil, rfl⟩ (fun i ys nx q p hp => nomatch hp) (fun i ys nx q => by obtain ⟨_, _, _, _, _, _, h⟩ := q; omega) ?_ ?_
  · rintro i f ys nx own C m₁ h tk E' hi ⟨tj, v, hv, rfl⟩ ⟨tl, kvs, rfl, hlt, hP, hB, hly⟩ off FL FC N'
    have hi6 : i < 6 := hi
    obtain ⟨tb, hb⟩ := bases_get i hi6
    rw [hv] at hb
    obtain rfl := Option.some.inj hb
    try dsimp only [prFm] at FC
    clear Fx Nx
    k_steps
    have e2 : (2 : Int) ^ ((i : Int)).toNat = ((bt (bs i) : Nat) : Int) := by rw [hbb i hi6]; simp
    rw [e2]
    refine pair_M (s := { s with heap := _, toks := _ }) FL N' fun D' h' t9 F' N'' l1 => ?_
    refine LcEnd.intro F' N'' ⟨(D', tupO [.str (bs i) tb, .int ((bt (bs i) : Nat) : Int) t9]) :: tl, kvs ++ [(bs i, .int ((bt (bs i) : Nat) : Int) t9)], rfl, fun q hq p hp => ?_, (hP.mono fun p hp => .tail _ hp).snoc (.head _), ?_, by simp [hly]⟩ (fun p hp b hb => ?_) (fun p hp => ?_) (fun p hp => .tail _ (List.mem_append_right _ hp))
    · rcases List.mem_cons.mp hp with rfl | hp
      · exact l1 q (List.mem_append_left _ (List.mem_append_right _ hq))
      · exact hlt q hq p hp
    · rw [List.range_succ, List.map_append]
      exact hB.snoc (bs i) _
    · rcases List.mem_cons.mp hb with rfl | hb
      · exact Nat.ne_of_lt (l1 p (List.mem_append_right _ hp))
      · exact off p hp b hb
    · rcases List.mem_cons.mp hp with rfl | hp
      · exact .head _
      · exact .tail _ (List.mem_append_left _ hp)
  · rintro ys nx D k h tk ⟨tl, kvs, rfl, hlt, hP, hB, hly⟩ FL N' hDn
    clear Fx Nx
    k_steps
    unfold Hold
    rename Top _ _ _ _ _ _ => hT
    refine dict_M (by with_unfolding_all rfl) FL N' (modules_low hT.nolimit) (.head _) (PrsN.prs N' (hP.mono fun p hp => .tail _ hp)) (by rw [hB.keys]; exact bs_nodup) (by rw [hly]; decide) fun Db od h1 tk1 F1 N1 hod lt1 lo1 => ?_
    have b0 : ∀ q ∈ led, q.1 < Db := fun q hq => lt1 q (.tail _ (List.mem_append_right _ hq))
    have N2 := cb_drop (news := (Db, od) :: led) N1 (fun p hp => by rcases List.mem_cons.mp hp with rfl | hp; exact .head _; exact .tail _ (.tail _ (List.mem_append_right _ hp)))
    clear FL N' N1 lt1 hDn hlt hP
    rw [hled] at N2 b0
    k_lt b0
    k_steps
    unfold Hold
    rename Fr _ _ _ _ => Fx
    rename News _ _ _ _ => Nx
    rename (_ < _ ∧ _ < _ ∧ _ < _ ∧ _ < _ ∧ AllLt _ news) => lal
    obtain ⟨al, qa, qb, led1, e1, e2, e3, hled1, N3⟩ := due_led2 Nx
    subst e1 e2 e3
    clear Nx
    have nal : ∀ p ∈ led1, p.1 ≠ al := fun p hp => by
      rw [hled1] at hp
      rcases List.mem_cons.mp hp with rfl | hp
      · exact Nat.ne_of_lt lal.1
      · rcases List.mem_cons.mp hp with rfl | hp
        · exact Nat.ne_of_lt lal.2.1
        · rcases List.mem_cons.mp hp with rfl | hp
          · exact Nat.ne_of_lt lal.2.2.1
          · rcases List.mem_cons.mp hp with rfl | hp
            · exact Nat.ne_of_lt lal.2.2.2.1
            · exact Nat.ne_of_lt (ktn_ltOf lal.2.2.2.2 p hp)
    have hqa : (L0 + 1 + 1, qa) ∈ led1 := by rw [hled1]; exact .tail _ (.tail _ (.head _))
    have hqb : (L0 + 1, qb) ∈ led1 := by rw [hled1]; exact .tail _ (.tail _ (.tail _ (.head _)))
    have hsub : ∀ p ∈ news, p ∈ led1 := fun p hp => by rw [hled1]; exact .tail _ (.tail _ (.tail _ (.tail _ hp)))
    have hlp := hpv.length
    refine lf_ForM true Fx ?_ (by intro _; rfl)
    k_steps
    refine lf_list (vs := pvs) (k := n1) (fun i m₁ nx => ∃ va na, MIs m₁ [(Str.ofString "parts", .ref ql)] ∧ nx = (al, PySem.W.listOf (List.toArray va) na) :: led1 ∧ IntsAre va ((List.range i).map fun j => (ab j : Int))) (by with_unfolding_all rfl) Fx N3 (by rfl) (by rfl) ⟨[], 0, by tb_start, rfl, .nil⟩ ?_ ?_ ?_
    · rintro i m₁ nx ⟨va, na, _, rfl, _⟩
      exact .tail _ (hsub _ hpl)
    · rintro i f m₁ nx own h tk dr E' hi ⟨v, hv, rfl⟩ ⟨va, na, hm, rfl, hva⟩ off hdr F' N'
      have hdr' := hdr rfl
      subst hdr'
      obtain ⟨x, hx⟩ : ∃ x, prs[i]? = some x := ⟨_, List.getElem?_eq_getElem (by omega)⟩
      obtain ⟨tx, hx2⟩ := hpv.get i x hx
      rw [hv] at hx2
      obtain rfl := Option.some.inj hx2
      obtain ⟨hx0, hx1⟩ := hpr i x hx
      have hm1 := hm.one
      clear hm Fx N3
      simp only [List.cons_append] at N'
      have hna : ∀ p ∈ led1 ++ own, p.1 ≠ al := ne_app nal (off_of off (.head _))
      have hvl := hva.length
      have hvz : va.length ≤ 1000 := by rw [hvl]; simp; omega
      have hae := hab i x hx
      by_cases hxx : 0 ≤ x
      · rw [if_pos hxx] at hae
        obtain ⟨ty, hy⟩ := hva.get x.toNat (ab x.toNat : Int) (by rw [List.getElem?_map, List.getElem?_range (by omega)]; rfl)
        k_steps
        unfold Hold
        rename News _ _ _ _ => N9
        rename Fr _ _ _ _ => F9
        refine item_list_M F9 N9 (.head _) hxx (by omega) hy ?_ (by with_unfolding_all rfl) (by intro _; with_unfolding_all rfl)
        k_steps
        rename News _ _ _ _ => N9
        rename Fr _ _ _ _ => F9
        refine LfEnd.intro F9 N9 ⟨va ++ [_], _, by tb_start, rfl, ?_⟩ off (fun p hp => List.mem_append_left own hp) (fun p hp => .tail _ (List.mem_append_right _ hp))
        rw [List.range_succ, List.map_append, or_val (hal _) (by omega), ← hae]
        exact ints_snoc hva _ _
      · rw [if_neg hxx] at hae
        k_steps
        rename News _ _ _ _ => N9
        rename Fr _ _ _ _ => F9
        refine LfEnd.intro F9 N9 ⟨va ++ [_], _, by tb_start, rfl, ?_⟩ off (fun p hp => List.mem_append_left own hp) (fun p hp => .tail _ (List.mem_append_right _ hp))
        rw [List.range_succ, List.map_append, List.map_cons, List.map_nil, hae]
        exact ints_snoc hva _ _
    · rintro m₁ nx h tk dr ⟨va, na, hm, rfl, hva⟩ hdr F' N'
      have hdr' := hdr rfl
      subst hdr'
      have hm1 := hm.one
      clear hm Fx N3
      rw [hlp, hpn] at hva
      k_steps
      unfold Hold
      rename Fr _ _ _ _ => Fx
      refine lf_ForM true Fx ?_ (by intro _; rfl)
      k_steps
      unfold Hold
      rename Fr _ _ _ _ => Fx
      rename News _ _ _ _ => Nx
      obtain ⟨led2, hled2⟩ : ∃ led2, led2 = (al, PySem.W.listOf (List.toArray va) na) :: (L0 + 1 + 1 + 1, q1) :: (L0 + 1 + 1, qa) :: (L0 + 1, qb) :: news := ⟨_, rfl⟩
      have N4 := cb_drop (news := (Db, od) :: led2) Nx (by
        rw [hled2, hled1]
        repeat first | (refine sub_cons (by first | with_reducible exact mem0 | with_reducible exact mem1 | with_reducible exact mem2 | with_reducible exact mem3 | with_reducible exact mem4 | with_reducible exact mem5 | with_reducible exact mem6 | with_reducible exact mem7) ?_) | exact fun p hp => by repeat first | with_reducible exact hp | refine List.mem_cons_of_mem _ ?_)
      clear Nx
      have nDb : ∀ p ∈ led2, p.1 ≠ Db := fun p hp => by
        rw [hled2] at hp
        rcases List.mem_cons.mp hp with rfl | hp
        · exact Nat.ne_of_gt lal.1
        · rcases List.mem_cons.mp hp with rfl | hp
          · exact Nat.ne_of_lt b0.1
          · rcases List.mem_cons.mp hp with rfl | hp
            · exact Nat.ne_of_lt b0.2.1
            · rcases List.mem_cons.mp hp with rfl | hp
              · exact Nat.ne_of_lt b0.2.2.1
              · exact Nat.ne_of_lt (ktn_ltOf b0.2.2.2 p hp)
      have hqa2 : (L0 + 1 + 1, qa) ∈ led2 := by rw [hled2]; exact .tail _ (.tail _ (.head _))
      have hqb2 : (L0 + 1, qb) ∈ led2 := by rw [hled2]; exact .tail _ (.tail _ (.tail _ (.head _)))
      have hsub2 : ∀ p ∈ news, p ∈ led2 := fun p hp => by rw [hled2]; exact .tail _ (.tail _ (.tail _ (.tail _ hp)))
      have hlq := hqv.len
      refine lf_enum_list (vs := qvs) (k := n2) (fun i m₁ nx => ∃ ok kvs, nx = (Db, ok) :: led2 ∧ ok.IsDictOf (PySem.strKind PG w) kvs ∧ BtAre bt kvs ((List.range 6).map bs ++ (List.range i).map sn)) (by with_unfolding_all rfl) Fx N4 (by rfl) (by rfl) (by rfl) ⟨od, kvs, rfl, hod, by rw [show (List.range 0).map sn = [] from rfl, List.append_nil]; exact hB⟩ ?_ ?_ ?_
      · rintro i m₁ nx ⟨ok, kvs, rfl, _⟩
        exact .tail _ (hsub2 _ hql)
      · clear Fx N4 hod hB
        rintro i f m₁ nx own h tk dr E' hi ⟨tj, v, hv, rfl⟩ ⟨ok, kvs, rfl, hok, hB⟩ off hdr F' N'
        have hdr' := hdr rfl
        subst hdr'
        obtain ⟨su, vsu, xs, rfl, hxs, hsu, hvsu⟩ := hqv.at hv
        have hsu2 := hsub2 _ hsu
        have hi20 : i < 20 := by omega
        have hnm := hpo i xs hxs
        simp only [List.cons_append] at N'
        have hnD : ∀ p ∈ led2 ++ own, p.1 ≠ Db := ne_app nDb (off_of off (.head _))
        have hkl := hB.len
        have hkl2 : kvs.length ≤ 30 := by rw [hkl]; simp; omega
        k_steps
        unfold Hold
        rename Fr _ _ _ _ => Fx
        refine lf_ForM true Fx ?_ (by intro _; rfl)
        k_steps
        rename Fr _ _ _ _ => Fx
        rename News _ _ _ _ => Nx
        refine lf_tuple_fix (vs := vsu) (fun i2 m₂ => ∃ t, MIs m₂ [(Str.ofString "k", .int (i : Int) tj), (Str.ofString "found", .int ((orF bt (xs.take i2) : Nat) : Int) t)]) (by with_unfolding_all rfl) Fx Nx (.tail _ (List.mem_append_left _ hsu2)) (by rfl) (by rfl) ⟨_, by tb_start⟩ ?_ ?_
        · rintro i2 v2 m₂ own2 h2 tk2 E2 hv2 ⟨t3, hm⟩ F2 N2
          obtain ⟨o1, t1, rfl, ho1⟩ := hvsu.at hv2
          obtain ⟨t4, hbv⟩ := hB.at o1 (hnm o1 (List.mem_of_getElem? ho1)).mem
          have hm1 := hm.one
          have hm2 := hm.rest.one
          clear hm Fx Nx
          k_steps
          rename Fr _ _ _ _ => F9
          rename News _ _ _ _ => N9
          have e9 := (or6 _ (orF_lt hbl (xs.take i2)) _ (hbl o1)).1
          rw [← orF_snoc, ← take_snoc ho1] at e9
          rw [e9] at F9
          exact LfFix.intro F9 N9 ⟨_, by tb_start⟩
        · rintro m₂ h2 tk2 ⟨t3, hm⟩ F2 N2
          have hm1 := hm.one
          have hm2 := hm.rest.one
          clear hm Fx Nx
          rw [hvsu.len, List.take_length, show orF bt xs = bt (sn i) from (hbs i xs hxs).symm] at hm2
          k_steps
          unfold Hold
          rename News _ _ _ _ => N9
          rename Fr _ _ _ _ => F9
          refine kda_set (knd := PySem.strKind _ _) (s := { s with heap := _, toks := _ }) F9 N9 (UpdF.head hnD) hok (strKind_is _ _ _ _) (by rw [sizeLine_eq]; omega) fun h8 ok' F8 N8 hok' => ?_
          have hno : valueAt kvs (sn i) = none := value_none (by rw [hB.keys]; exact sn_new i (by omega))
          obtain ⟨t8, hok''⟩ : ∃ t8, ok'.IsDictOf (PySem.strKind PG w) (stored kvs (sn i) (.int ((bt (sn i) : Nat) : Int) t8)) := ⟨_, hok'⟩
          rw [stored_absent hno] at hok''
          clear N9 F9
          k_steps
          rename News _ _ _ _ => N9
          rename Fr _ _ _ _ => F9
          refine LfEnd.intro F9 N9 ⟨ok', _, rfl, hok'', ?_⟩ off (fun p hp => List.mem_append_left own hp) (fun p hp => .tail _ (List.mem_append_right _ hp))
          rw [show (List.range (i + 1)).map sn = (List.range i).map sn ++ [sn i] by rw [List.range_succ, List.map_append]; rfl, ← List.append_assoc]
          exact hB.snoc (sn i) t8
      · clear Fx N4 hod hB
        rintro m₁ nx h tk dr ⟨ok, kvs, rfl, hok, hB⟩ hdr F' N'
        have hdr' := hdr rfl
        subst hdr'
        rw [hlq] at hB
        k_steps
        unfold Hold
        rename Fr _ _ _ _ => Fx
        rename News _ _ _ _ => Nx
        obtain ⟨dd, odd, e1, e2⟩ := due_led3 Nx
        subst e1 e2
        rename (_ == sysModules) = false => lod
        rename Obj.IsDictOf (PySem.strKind PG w) _ [] => hdd
        rename (Db < dd ∧ AllLt dd led2) => ldd
        obtain ⟨led3, hled3⟩ : ∃ led3, led3 = (al, PySem.W.listOf (List.toArray va) na) :: (L0 + 1 + 1, qa) :: (L0 + 1, qb) :: news := ⟨_, rfl⟩
        have N5 := cb_drop (news := (L0 + 1 + 1 + 1, q1) :: (dd, odd) :: (Db, ok) :: led3) Nx (by
          rw [hled3, hled2]
          repeat first | (refine sub_cons (by first | with_reducible exact mem0 | with_reducible exact mem1 | with_reducible exact mem2 | with_reducible exact mem3 | with_reducible exact mem4 | with_reducible exact mem5 | with_reducible exact mem6 | with_reducible exact mem7) ?_) | exact fun p hp => by repeat first | with_reducible exact hp | refine List.mem_cons_of_mem _ ?_)
        clear Nx
        have hc1 : ∀ p ∈ (dd, odd) :: (Db, ok) :: led3, p.1 ≠ L0 + 1 + 1 + 1 := fun p hp => by
          rw [hled3] at hp
          rcases List.mem_cons.mp hp with rfl | hp
          · exact Nat.ne_of_gt (Nat.lt_trans b0.1 ldd.1)
          · rcases List.mem_cons.mp hp with rfl | hp
            · exact Nat.ne_of_gt b0.1
            · rcases List.mem_cons.mp hp with rfl | hp
              · exact Nat.ne_of_gt lal.2.1
              · rcases List.mem_cons.mp hp with rfl | hp
                · exact Nat.ne_of_lt (Nat.lt_succ_self _)
                · rcases List.mem_cons.mp hp with rfl | hp
                  · exact Nat.ne_of_lt (Nat.lt_succ_of_lt (Nat.lt_succ_self _))
                  · exact Nat.ne_of_lt (l2 p hp)
        have hdl : ∀ p ∈ (Db, ok) :: led3, p.1 < dd := fun p hp => by
          rcases List.mem_cons.mp hp with rfl | hp
          · exact ldd.1
          · refine ktn_ltOf ldd.2 p ?_
            exact (by rw [hled3, hled2]; repeat first | (refine sub_cons (by first | with_reducible exact mem0 | with_reducible exact mem1 | with_reducible exact mem2 | with_reducible exact mem3 | with_reducible exact mem4 | with_reducible exact mem5 | with_reducible exact mem6 | with_reducible exact mem7) ?_) | exact fun p hp => by repeat first | with_reducible exact hp | refine List.mem_cons_of_mem _ ?_ : ∀ q ∈ led3, q ∈ led2) p hp
        have hva3 : (al, PySem.W.listOf (List.toArray va) na) ∈ led3 := by rw [hled3]; exact .head _
        have hqa3 : (L0 + 1 + 1, qa) ∈ led3 := by rw [hled3]; exact .tail _ (.head _)
        have hqb3 : (L0 + 1, qb) ∈ led3 := by rw [hled3]; exact .tail _ (.tail _ (.head _))
        have hsub3 : ∀ p ∈ news, p ∈ led3 := fun p hp => by rw [hled3]; exact .tail _ (.tail _ (.tail _ hp))
        have hnk := hB.len
        have hnl : kvs.length ≤ 30 := by rw [hnk]; simp; omega
        obtain ⟨v0, hv0⟩ : ∃ v0, q1.data = .cell v0 := ⟨_, by assumption⟩
        refine ls_ForM true Fx ?_ (by intro _; rfl)
        k_steps
        refine ls_dict (knd := PySem.strKind PG w) (kvs := kvs) (o := ok) (fun i m₁ nx => ∃ tl o2 kd, MIs m₁ [(Str.ofString "due", .ref dd)] ∧ nx = (dd, o2) :: (tl ++ (Db, ok) :: led3) ∧ o2.IsDictOf (PySem.strKind PG w) kd ∧ (∀ p ∈ tl, dd < p.1) ∧ DueAre (tl ++ (Db, ok) :: led3) (kp bt ab) kd ((nms os.length).take i)) (by with_unfolding_all rfl) hok Fx N5 hc1 hv0 (by rfl) (by rfl) (by rfl) lo1 ⟨[], odd, [], by tb_start, rfl, hdd, (fun _ h => nomatch h), .nil⟩ ?_ ?_ ?_
        · rintro i m₁ nx ⟨tl, o2, kd, _, rfl, _⟩
          exact .tail _ (List.mem_append_right _ (.head _))
        · clear Fx N5
          rintro i k y v oc m₁ nx own h tk E' hky hkv hoc hco hown ⟨tl, o2, kd, hm, rfl, ho2, hlt, hD⟩ off F' N'
          obtain ⟨tn, rfl⟩ := str_of_is hkv
          have hkn1 : (nms os.length)[i]? = some k := by
            have e : (kvs.map (·.1))[i]? = some k := by rw [List.getElem?_map, hky]; rfl
            rw [hB.keys] at e
            exact e
          have hkm := List.mem_of_getElem? hkn1
          obtain ⟨tb, hbv⟩ := hB.at k hkm
          have hm1 := hm.one
          clear hm
          simp only [List.cons_append] at N'
          k_steps
          unfold Hold
          rename Fr _ _ _ _ => Fx
          refine lc_assign Fx (by decide) (by with_unfolding_all rfl) (by with_unfolding_all rfl) (by decide) (by rfl) (by decide) (by rfl) (by rfl) (by rfl) ?_ (by intro _; rfl)
          k_steps
          rename Fr _ _ _ _ => Fx
          rename News _ _ _ _ => Nx
          refine lc_range_fix (n := 6) (J := fun i2 ys => IntsAre ys (((List.range i2).filter (keptB bt ab k)).map fun (j : Nat) => (j : Int))) (by with_unfolding_all rfl) (by assumption) (by rfl) Fx Nx (by decide) .nil (fun i2 ys q => by rw [q.length, List.length_map]; exact Nat.le_trans (List.length_filter_le _ _) (Nat.le_of_eq List.length_range)) ?_ ?_
          · intro i2 t2 ys own2 C m₂ h2 tk2 E2 hi2 hJ hx2 FL FC kC N2
            clear Fx Nx
            obtain ⟨ta, hy⟩ := hva.get i2 (ab i2 : Int) (by rw [List.getElem?_map, List.getElem?_range hi2]; rfl)
            unfold TestF
            dsimp only
            have s6 : (Builtin.bitAnd (((bt k : Nat) : Int).fdiv (2 ^ ((i2 : Nat) : Int).toNat)) 1 == 1) = (bt k).testBit i2 := shr6 (bt k) (hbl k) i2 hi2
            have a6 : Builtin.bitAnd ((ab i2 : Nat) : Int) ((bt k : Nat) : Int) = ((ab i2 &&& bt k : Nat) : Int) := and6 _ (hal i2) _ (hbl k)
            k_steps
            · unfold Hold
              refine item_list_M FL N2 (by k_mem) (by omega) (by omega) hy ?_ (by with_unfolding_all rfl) (by intro _; with_unfolding_all rfl)
              have h1 : (bt k).testBit i2 = true := by rw [← s6]; exact beq_iff_eq.mpr (by assumption)
              k_steps
              · rename Builtin.bitAnd _ _ = 0 => hB0
                have h2 : (ab i2 &&& bt k) = 0 := by have := a6.symm.trans hB0; omega
                have hk2 : keptB bt ab k i2 = true := by unfold keptB; rw [h1, h2]; rfl
                refine GoF.yes rfl ?_
                have FC3 := kC _ _ N2 (by intro p hp; k_mem) FL.keep
                k_steps
                exact KEnd.fix (kept_step hJ hk2) (by k_asm) (by k_asm)
              · rename Builtin.bitAnd _ _ ≠ 0 => hB0
                have h2 : (ab i2 &&& bt k) ≠ 0 := fun e => hB0 (by rw [a6, e]; rfl)
                have hk2 : keptB bt ab k i2 = false := by unfold keptB; rw [h1]; simpa using h2
                exact GoF.no rfl (kept_skip hJ hk2) (by k_asm) (by k_asm)
            · have h1 : (bt k).testBit i2 = false := by rw [← s6]; exact beq_eq_false_iff_ne.mpr (by assumption)
              have hk2 : keptB bt ab k i2 = false := by unfold keptB; rw [h1]; rfl
              exact GoF.no rfl (kept_skip hJ hk2) (by k_asm) (by k_asm)
          · intro ys D' k' h2 tk2 hJ FL N2 hD'
            clear Fx Nx
            have hy := hJ.length
            k_steps
            unfold Hold
            rename Fr _ _ _ _ => Fx
            rename News _ _ _ _ => Nx
            refine lc_eval Fx (by decide) (by with_unfolding_all rfl) (by decide) (by rfl) (by decide) (by rfl) ?_ (by intro _; rfl)
            k_steps
            obtain ⟨base0, hbase, Nx⟩ := led_name Nx
            have hyk : ys.length = (keptJ bt ab k).length := by rw [hy, List.length_map]; rfl
            have hk6 : (keptJ bt ab k).length ≤ 6 := Nat.le_trans (List.length_filter_le _ _) (by simp)
            have hDb : (D', PySem.W.listOf (List.toArray ys) k') ∈ base0 := by rw [hbase]; exact .head _
            refine lc_list (vs := ys) (k := k') (J := fun i3 ys3 nx => ∃ tl3, nx = tl3 ++ base0 ∧ Tab.KIn nx ys3 (((keptJ bt ab k).take i3).map rho) ∧ (∀ q ∈ base0, ∀ p ∈ tl3, q.1 < p.1) ∧ ys3.length ≤ i3) (by with_unfolding_all rfl) Fx Nx (by omega) ⟨[], rfl, .nil, (fun _ _ _ h => nomatch h), Nat.le_refl _⟩ ?_ (fun i ys nx q => by obtain ⟨_, _, _, _, h⟩ := q; exact h) ?_ ?_
            · rintro i3 ys3 nx ⟨tl3, rfl, _⟩
              exact List.mem_append_right _ hDb
            · rintro i3 v3 ys3 nx own3 C m3 h3 tk3 E3 hi3 hv3 ⟨tl3, rfl, hK3, hlt3, hl3⟩ off3 hx3 FL3 FC3 kC3 N3
              obtain ⟨j, hj⟩ : ∃ j, (keptJ bt ab k)[i3]? = some j := ⟨_, List.getElem?_eq_getElem (by omega)⟩
              have hj6 := keptJ_lt j (List.mem_of_getElem? hj)
              obtain ⟨tj, hjv⟩ := hJ.get i3 (j : Int) (by rw [List.getElem?_map, show ((List.range 6).filter (keptB bt ab k)) = keptJ bt ab k from rfl, hj]; rfl)
              rw [hv3] at hjv
              obtain rfl := Option.some.inj hjv
              clear Fx Nx
              unfold LcTest
              dsimp only
              refine LcGo.yes rfl ?_
              k_steps
              unfold Hold
              refine itemB (by k_asm) FL3 (by omega) (by omega) (fun tb2 => ?_) (by with_unfolding_all rfl)
              k_steps
              rw [show bs ((j : Int)).toNat = Tab.bnm (rho j) from bs_rho j hj6]
              refine single_M (s := { s with heap := _, toks := _ }) FL3 N3 fun D4 h4 t4 F4 N4 l4' => ?_
              refine LcEnd.intro F4 N4 ⟨(D4, tupO [.str (Tab.bnm (rho j)) t4]) :: tl3, rfl, ?_, fun q hq p hp => ?_, by simp; omega⟩ (fun p hp b hb => ?_) (fun p hp => ?_) (fun p hp => .tail _ (List.mem_append_right _ hp))
              · rw [take_snocN hj, List.map_append]
                exact kin_snoc (hK3.mono fun p hp => .tail _ hp) (.head _)
              · rcases List.mem_cons.mp hp with rfl | hp
                · exact l4' q (List.mem_append_left _ (List.mem_append_right _ hq))
                · exact hlt3 q hq p hp
              · rcases List.mem_cons.mp hb with rfl | hb
                · exact Nat.ne_of_lt (l4' p (List.mem_append_right _ hp))
                · exact off3 p hp b hb
              · rcases List.mem_cons.mp hp with rfl | hp
                · exact .head _
                · exact .tail _ (List.mem_append_left _ hp)
            · rintro ys3 nx D3 k3 h3 tk3 ⟨tl3, rfl, hK3, hlt3, hl3⟩ FL3 N3 hD3
              clear Fx Nx
              rw [hyk, List.take_length] at hK3
              k_steps
              unfold Hold
              refine sorted_list_M FL3 N3 (.head _) (hK3.mono fun p hp => .tail _ hp) (map_rho_nodup (keptJ_nodup bt ab k) keptJ_lt) (fun x hx => by obtain ⟨j, hj, rfl⟩ := List.mem_map.mp hx; exact rho_lt j (keptJ_lt j hj)) (fun e => hkn k hkm (List.map_eq_nil_iff.mp e)) fun D4 vs4 c4 h4 hK4 F4 N4 lt4 => ?_
              clear FL3 N3
              have hddb : (dd, o2) ∈ base0 := by rw [hbase]; exact .tail _ (.head _)
              have hownb : ∀ p ∈ own, p ∈ base0 := fun p hp => by rw [hbase]; exact .tail _ (.tail _ (List.mem_append_right _ hp))
              have hcob := hownb _ hco
              have hl4 := hK4.len
              have hl4' : vs4.length ≤ 1000 := by rw [hl4]; exact Nat.le_trans (List.length_filter_le _ _) (by simp)
              k_steps
              unfold Hold
              rename News _ _ _ _ => N5
              obtain ⟨D5, e5⟩ := nm1 N5
              subst e5
              rename (∀ q : Addr × Obj, q ∈ _ → q.1 < D5) => lt5
              rename Fr _ _ _ _ => F5
              have hb5 : ∀ p ∈ base0, p.1 < D5 := fun p hp => lt5 p (.tail _ (.tail _ (List.mem_append_right _ hp)))
              have htlb : ∀ p ∈ tl ++ (Db, ok) :: led3, p ∈ base0 := fun p hp => by rw [hbase]; exact .tail _ (.tail _ (List.mem_append_left _ hp))
              have N6 := cb_drop (news := (dd, o2) :: (D5, tupO vs4) :: (tl3 ++ (tl ++ (Db, ok) :: led3) ++ own)) N5 (fun p hp => by
                rcases List.mem_cons.mp hp with rfl | hp
                · exact .tail _ (.tail _ (.tail _ (List.mem_append_right _ hddb)))
                · rcases List.mem_cons.mp hp with rfl | hp
                  · exact .head _
                  · refine .tail _ (.tail _ (.tail _ ?_))
                    rcases List.mem_append.mp hp with hp | hp
                    · rcases List.mem_append.mp hp with hp | hp
                      · exact List.mem_append_left _ hp
                      · exact List.mem_append_right _ (htlb p hp)
                    · exact List.mem_append_right _ (hownb p hp))
              have hnd : ∀ p ∈ (D5, tupO vs4) :: (tl3 ++ (tl ++ (Db, ok) :: led3) ++ own), p.1 ≠ dd := fun p hp => by
                rcases List.mem_cons.mp hp with rfl | hp
                · exact Nat.ne_of_gt (hb5 _ hddb)
                · rcases List.mem_append.mp hp with hp | hp
                  · rcases List.mem_append.mp hp with hp | hp
                    · exact Nat.ne_of_gt (hlt3 _ hddb p hp)
                    · rcases List.mem_append.mp hp with hp | hp
                      · exact Nat.ne_of_gt (hlt p hp)
                      · exact Nat.ne_of_lt (hdl p hp)
                  · exact off_of off (.head _) p hp
              have hno : valueAt kd k = none := value_none (by rw [hD.keys]; exact not_in_take (nms_nodup _ (by omega)) hkn1)
              have hkdl : kd.length ≤ 30 := by
                have e := congrArg List.length hD.keys
                rw [List.length_map, List.length_take, nms_len] at e
                omega
              refine kda_set (knd := PySem.strKind _ _) (s := { s with heap := _, toks := _ }) F5 N6 (UpdF.head hnd) ho2 (strKind_is _ _ _ _) (by rw [sizeLine_eq]; omega) fun h8 o3 F8 N8 ho3 => ?_
              rw [stored_absent hno] at ho3
              clear N5 N6 F5 F4 N4
              k_steps
              rename News _ _ _ _ => N9
              rename Fr _ _ _ _ => F9
              refine LfEnd.intro F9 N9 ⟨(D5, tupO vs4) :: (tl3 ++ tl), o3, kd ++ [(k, .ref D5)], by tb_start, rfl, ho3, fun p hp => ?_, ?_⟩ (fun p hp b hb => ?_) (fun p hp => ?_) (fun p hp => .tail _ (.tail _ (List.mem_append_right _ hp)))
              · rcases List.mem_cons.mp hp with rfl | hp
                · exact hb5 _ hddb
                · rcases List.mem_append.mp hp with hp | hp
                  · exact hlt3 _ hddb p hp
                  · exact hlt p hp
              · rw [take_snoc hkn1]
                refine (hD.mono fun p hp => ?_).snoc (.head _) ?_
                · rw [List.cons_append, List.append_assoc]
                  exact .tail _ (List.mem_append_right _ hp)
                · refine kin_sub (fun a vs hm => ?_) hK4
                  rw [List.cons_append, List.append_assoc]
                  rcases List.mem_cons.mp hm with hm | hm
                  · exact absurd hm not_tup_list
                  · rcases List.mem_append.mp hm with hm | hm
                    · exact .tail _ (List.mem_append_left _ hm)
                    · rw [hbase] at hm
                      rcases List.mem_cons.mp hm with hm | hm
                      · exact absurd hm not_tup_list
                      · rcases List.mem_cons.mp hm with hm | hm
                        · exact absurd hm (not_tup_dict ho2)
                        · rcases List.mem_append.mp hm with hm | hm
                          · exact .tail _ (List.mem_append_right _ hm)
                          · exact absurd rfl (hown _ hm vs)
              · obtain ⟨q, hq, rfl⟩ := List.mem_map.mp hb
                rw [List.cons_append, List.append_assoc] at hq
                rcases List.mem_cons.mp hq with rfl | hq
                · exact off p hp _ (.head _)
                · rcases List.mem_cons.mp hq with rfl | hq
                  · exact Nat.ne_of_lt (hb5 p (hownb p hp))
                  · rcases List.mem_append.mp hq with hq | hq
                    · exact Nat.ne_of_lt (hlt3 p (hownb p hp) q hq)
                    · exact off p hp _ (List.mem_map_of_mem (.tail _ hq))
              · rw [List.cons_append, List.append_assoc] at hp
                rcases List.mem_cons.mp hp with rfl | hp
                · exact .head _
                · rcases List.mem_cons.mp hp with rfl | hp
                  · exact .tail _ (.head _)
                  · exact .tail _ (.tail _ (List.mem_append_left _ hp))
        · clear Fx N5
          rintro m₁ nx h tk ⟨tl, o2, kd, hm, rfl, ho2, hlt, hD⟩ F' N'
          have hm1 := hm.one
          clear hm
          rw [hnk, show (List.range 6).map bs ++ (List.range os.length).map sn = nms os.length from rfl, List.take_length] at hD
          have hfour : ∀ p ∈ [(Db, ok), (al, PySem.W.listOf (List.toArray va) na), (L0 + 1 + 1, qa), (L0 + 1, qb)], p ∈ (Db, ok) :: led3 := fun p hp => by
            rw [hled3]
            rcases of_mem4 hp with rfl | rfl | rfl | rfl <;> first | exact .head _ | exact mem1 | exact mem2 | exact mem3
          have hback : ∀ p ∈ tl ++ (Db, ok) :: led3, p ∈ (tl ++ [(Db, ok), (al, PySem.W.listOf (List.toArray va) na), (L0 + 1 + 1, qa), (L0 + 1, qb)]) ++ news := fun p hp => by
            rw [hled3] at hp
            rcases List.mem_append.mp hp with hp | hp
            · exact List.mem_append_left _ (List.mem_append_left _ hp)
            · rw [List.append_assoc]; exact List.mem_append_right _ hp
          k_steps
          refine ret dd o2 kd (tl ++ [(Db, ok), (al, PySem.W.listOf (List.toArray va) na), (L0 + 1 + 1, qa), (L0 + 1, qb)]) _ _ (by k_asm) ?N (fun q hq => hdl q (.tail _ (hsub3 q hq))) ?b ?c ho2 lod (hD.mono hback)
          case N =>
            refine' cb_drop ?n ?s
            case n => k_asm
            case s =>
              intro p hp
              rcases List.mem_cons.mp hp with rfl | hp
              · exact .head _
              · refine .tail _ ?_
                rcases List.mem_append.mp hp with hp | hp
                · rcases List.mem_append.mp hp with hp | hp
                  · exact List.mem_append_left _ hp
                  · exact List.mem_append_right _ (hfour p hp)
                · exact List.mem_append_right _ (.tail _ (hsub3 p hp))
          case b =>
            intro q hq p hp
            rcases List.mem_append.mp hp with hp | hp
            · exact Nat.lt_trans (hdl q (.tail _ (hsub3 q hq))) (hlt p hp)
            · rcases of_mem4 hp with rfl | rfl | rfl | rfl
              · exact ktn_ltOf b0.2.2.2 q hq
              · exact ktn_ltOf lal.2.2.2.2 q hq
              · exact l3 q hq
              · exact l4 q hq
          case c =>
            intro p hp
            rcases List.mem_append.mp hp with hp | hp
            · exact Nat.ne_of_gt (hlt p hp)
            · exact Nat.ne_of_lt (hdl p (hfour p hp))
end

theorem word40 : True := by
  k_with_none
  k_with "omega" => first | (with_reducible (first | assumption | exact ge0 _ | exact cl_lt (by with_unfolding_all rfl) | exact room_dp (by assumption) (by with_unfolding_all rfl) | exact room_dp0 (by assumption) (by with_unfolding_all rfl) | exact unit_dp (by assumption) (by with_unfolding_all rfl) | exact unit_dp0 (by assumption) (by with_unfolding_all rfl) | exact le_up (by assumption) (by with_unfolding_all rfl) | exact lt_up (by assumption) (by with_unfolding_all rfl) | exact lt_of_le_up (by assumption) (by with_unfolding_all rfl) | exact eq_le_up (by assumption) (by assumption) (by with_unfolding_all rfl) | exact clo_lt (by with_unfolding_all rfl) | exact clo_le (by with_unfolding_all rfl) | exact Nat.ne_of_gt (by assumption) | exact Nat.ne_of_lt (by assumption) | exact ne_s1 _ | exact Ne.symm (ne_s1 _) | exact ne_s2 _ | exact Ne.symm (ne_s2 _) | exact ne_s3 _ | exact Ne.symm (ne_s3 _) | exact int_gt (by decide) | exact int_lt (by assumption) (by decide) | exact int_le (by assumption) (by decide) | exact le_lt_up (by assumption) (by assumption) (by with_unfolding_all rfl) | exact le_le_up (by assumption) (by assumption) (by with_unfolding_all rfl))) | lia | omega (splitDisjunctions := true)
  k_with "k_mem" => first | assumption | exact List.Mem.head _ | (refine' List.Mem.tail _ ?_; k_mem) | (refine List.mem_append_left _ ?_; k_mem) | (refine List.mem_append_right _ ?_; k_mem)
  k_with "k_all" => exact ne_all (by assumption)
  k_with "call builtin:list.append" => (k_here; (with_reducible show wpAny _ _ (call (Value.builtin _) [Value.ref _, _]) _ _ _); k_dflt (refine' append_M ?k1w2 ?k2w2 ?k3w2 ?zw2 ?_; (case k1w2 => k_asm); (case k2w2 => k_asm); (case k3w2 => k_updF); (case zw2 => ((try simp only [List.length_append, List.length_cons, List.length_nil] at *); omega)); k_whole); intro hz9 Fz9 Nz9; (try dsimp only at Nz9); (try k_sweep))
  k_with "subscriptTail" => (k_here; (with_reducible show wpAny _ _ (subscriptTail _ _ (Value.ref _) (Value.str _ _)) _ _ _); k_dflt (refine' kda_item (knd := PySem.strKind _ _) (by k_asm) (by k_mem) (by k_asm) (strKind_is _ _ _ _) (by k_asm) ?_; k_whole))
  k_with "tb_rel" => first | assumption | exact if_pos rfl | (refine Eq.trans (if_neg (by decide)) ?_; tb_rel) | rfl
  k_with "eval Name" => (k_here; k_dflt (refine' nameX_L (by k_asm) (by first | rfl | tb_rel) ?_ (by rfl) (by rfl); k_whole))
  k_with "tb_start" => first | exact MIs.nil | (refine MIs.cons (by first | rfl | tb_rel) ?_; tb_start)
  k_with "exec While" => refine hold ?_
  k_with "exec While Compare cons nil" => refine hold ?_
  k_with "call ref" => (k_here; (with_reducible show wpAny _ _ (call (Value.ref 314) [Value.ref _, Value.str _ _]) _ _ _); k_dflt (refine' parent_ ?Bw9 ?Fw9 ?Xw9 ?Nw9 ?Tw9 ?kKw9 ?hxw9 ?hdxw9 ?hew9 ?hoew9 ?hesw9 ?hdw9 ?huw9 ?hvw9 ?hiw9 ?_; (case Bw9 => k_asm); (case Fw9 => k_asm); (case Xw9 => k_asm); (case Nw9 => k_asm); (case Tw9 => k_asm); (case kKw9 => first | exact rfl | assumption); (case hxw9 => k_mem); (case hdxw9 => k_mem); (case hesw9 => assumption); (case hew9 => k_mem); (case hoew9 => assumption); (case hvw9 => assumption); (case hiw9 => first | assumption | (refine' ItemIn.mono ?s9w9 ?i9w9; (case i9w9 => assumption); (case s9w9 => intro p9z9 hp9z9; k_mem))); (case hdw9 => ktr_room); (case huw9 => ktr_units)); intro t9z9 h9z9 tk9z9 F9z9 N9z9)
  k_with "call ref" => (k_here; (with_reducible show wpAny _ _ (call (Value.ref 342) [Value.ref _, Value.str _ _]) _ _ _); k_dflt (refine' above_ ?Bw10 ?Fw10 ?Xw10 ?Nw10 ?Tw10 ?kKw10 ?hxw10 ?hdxw10 ?hew10 ?hoew10 ?hesw10 ?hdw10 ?huw10 ?hupw10 ?hclw10 ?_; (case Bw10 => k_asm); (case Fw10 => k_asm); (case Xw10 => k_asm); (case Nw10 => k_asm); (case Tw10 => k_asm); (case kKw10 => first | exact rfl | assumption); (case hxw10 => k_mem); (case hdxw10 => k_mem); (case hesw10 => assumption); (case hew10 => k_mem); (case hoew10 => assumption); (case hupw10 => first | assumption | (refine' Up.mono ?s9w10 ?i9w10; (case i9w10 => assumption); (case s9w10 => intro p9z9 hp9z9; k_mem))); (case hdw10 => ktr_room); (case huw10 => ktr_units); (case hclw10 => first | assumption | omega); k_whole); intro fl9z9 n9z9 vs9z9 h9z9 tk9z9 F9z9 N9z9 lt9z9 hs9z9; (have hl9z9 := Strs.len hs9z9))
  k_with "call type:tuple" => (k_here; (with_reducible show wpAny _ _ (call (Value.type _) [Value.ref _]) _ _ _); k_dflt (refine' call_tuple_tup ?tw11 ?_; (case tw11 => exact News.isTup (by k_asm) (by k_mem))))
  k_with "binaryOp Add ref ref" => (k_here; (with_reducible show wpAny _ _ (binaryOp _ (Value.ref _) (Value.ref _)) _ _ _); k_dflt (refine' add_list_M (by k_asm) (by k_asm) (by k_mem) (by k_mem) (by ((try simp only [List.length_append, List.length_cons, List.length_nil] at *); omega)) ?_; k_whole); intro Dz9 hz9 Fz9 Nz9 l1z9)
  k_with "call builtin:len" => (k_here; (with_reducible show wpAny _ _ (call (Value.builtin "len") [Value.ref _]) _ _ _); k_dflt (refine' len_tup ?tw13 ?zw13 ?_; (case tw13 => exact News.isTup (by k_asm) (by k_mem)); (case zw13 => ((try simp only [List.length_append, List.length_cons, List.length_nil] at *); omega)); k_whole))
  k_with "call ref" => (k_here; (with_reducible show wpAny _ _ (call (Value.ref 321) [Value.ref _, Value.str _ _]) _ _ _); k_dflt (refine' supers_ ?Bw14 ?Fw14 ?Xw14 ?Nw14 ?Tw14 ?kKw14 ?hxw14 ?hdxw14 ?hew14 ?hoew14 ?hesw14 ?hdw14 ?huw14 ?hvw14 ?hiw14  ?_; (case Bw14 => k_asm); (case Fw14 => k_asm); (case Xw14 => k_asm); (case Nw14 => k_asm); (case Tw14 => k_asm); (case kKw14 => first | exact rfl | assumption); (case hxw14 => k_mem); (case hdxw14 => k_mem); (case hesw14 => assumption); (case hew14 => k_mem); (case hoew14 => assumption); (case hvw14 => assumption); (case hiw14 => first | assumption | (refine' ItemIn.mono ?s9w14 ?i9w14; (case i9w14 => assumption); (case s9w14 => intro p9z9 hp9z9; k_mem))); (case hdw14 => ktr_room); (case huw14 => ktr_units);  k_whole); intro d9z9 vs9z9 h9z9 tk9z9 F9z9 N9z9 hd9z9 hvs9z9; (have hl9z9 := Strs.len hvs9z9))
  k_with "call ref" => (k_here; (with_reducible show wpAny _ _ (call (Value.ref 328) [Value.ref _, Value.str _ _]) _ _ _); k_dflt (refine' is_subset_ ?Bw15 ?Fw15 ?Xw15 ?Nw15 ?Tw15 ?kKw15 ?hxw15 ?hdxw15 ?hew15 ?hoew15 ?hesw15 ?hdw15 ?huw15 ?hvw15 ?hiw15 ?zw15 ?_; (case Bw15 => k_asm); (case Fw15 => k_asm); (case Xw15 => k_asm); (case Nw15 => k_asm); (case Tw15 => k_asm); (case kKw15 => first | exact rfl | assumption); (case hxw15 => k_mem); (case hdxw15 => k_mem); (case hesw15 => assumption); (case hew15 => k_mem); (case hoew15 => assumption); (case hvw15 => assumption); (case hiw15 => first | assumption | (refine' ItemIn.mono ?s9w15 ?i9w15; (case i9w15 => assumption); (case s9w15 => intro p9z9 hp9z9; k_mem))); (case hdw15 => ktr_room); (case huw15 => ktr_units); (case zw15 => first | assumption | (simp only [List.length_nil]; omega)); k_whole); intro h9z9 tk9z9 F9z9 N9z9)
  k_with "call ref" => (k_here; (with_reducible show wpAny _ _ (call (Value.ref 262) [Value.ref _, Value.str _ _]) _ _ _); k_dflt (refine' direct_ ?Bw16 ?Fw16 ?Xw16 ?Nw16 ?Tw16 ?kKw16 ?hxw16 ?hdxw16 ?hew16 ?hoew16 ?hesw16 ?hdw16 ?huw16 ?hvw16 ?hiw16 ?zw16 ?_; (case Bw16 => k_asm); (case Fw16 => k_asm); (case Xw16 => k_asm); (case Nw16 => k_asm); (case Tw16 => k_asm); (case kKw16 => first | exact rfl | assumption); (case hxw16 => k_mem); (case hdxw16 => k_mem); (case hesw16 => assumption); (case hew16 => k_mem); (case hoew16 => assumption); (case hvw16 => assumption); (case hiw16 => first | assumption | (refine' ItemIn.mono ?s9w16 ?i9w16; (case i9w16 => assumption); (case s9w16 => intro p9z9 hp9z9; k_mem))); (case hdw16 => ktr_room); (case huw16 => ktr_units); (case zw16 => first | assumption | (simp only [List.length_nil]; omega)); k_whole); intro d9z9 tl9z9 vs9z9 h9z9 tk9z9 F9z9 N9z9 lt9z9 hd9z9 hvs9z9; (have hl9z9 := Strs.len hvs9z9))
  k_with "call ref" => (k_here; (with_reducible show wpAny _ _ (call (Value.ref 349) [Value.ref _, Value.str _ _]) _ _ _); k_dflt (refine' top_sub_ ?Bw17 ?Fw17 ?Xw17 ?Nw17 ?Tw17 ?kKw17 ?hxw17 ?hdxw17 ?hew17 ?hoew17 ?hesw17 ?hdw17 ?huw17 ?hvw17 ?hiw17 ?zw17 ?new17 ?_; (case Bw17 => k_asm); (case Fw17 => k_asm); (case Xw17 => k_asm); (case Nw17 => k_asm); (case Tw17 => k_asm); (case kKw17 => first | exact rfl | assumption); (case hxw17 => k_mem); (case hdxw17 => k_mem); (case hesw17 => assumption); (case hew17 => k_mem); (case hoew17 => assumption); (case hvw17 => assumption); (case hiw17 => first | assumption | (refine' ItemIn.mono ?s9w17 ?i9w17; (case i9w17 => assumption); (case s9w17 => intro p9z9 hp9z9; k_mem))); (case hdw17 => ktr_room); (case huw17 => ktr_units); (case zw17 => first | assumption | (simp only [List.length_nil]; omega)); (case new17 => first | assumption | omega); k_whole); intro t9z9 h9z9 tk9z9 F9z9 N9z9)
  k_with "call ref" => (k_here; (with_reducible show wpAny _ _ (call (Value.ref 349) [Value.ref _, Value.str _ _]) _ _ _); k_dflt (refine' top_base_ ?Bw18 ?Fw18 ?Xw18 ?Nw18 ?Tw18 ?kKw18 ?hxw18 ?hdxw18 ?hew18 ?hoew18 ?hesw18 ?hdw18 ?huw18 ?hvw18 ?hiw18 ?hupw18 ?hclw18 ?_; (case Bw18 => k_asm); (case Fw18 => k_asm); (case Xw18 => k_asm); (case Nw18 => k_asm); (case Tw18 => k_asm); (case kKw18 => first | exact rfl | assumption); (case hxw18 => k_mem); (case hdxw18 => k_mem); (case hesw18 => assumption); (case hew18 => k_mem); (case hoew18 => assumption); (case hvw18 => assumption); (case hiw18 => first | assumption | (refine' ItemIn.mono ?s9w18 ?i9w18; (case i9w18 => assumption); (case s9w18 => intro p9z9 hp9z9; k_mem))); (case hdw18 => ktr_room); (case huw18 => ktr_units); (case hupw18 => first | assumption | (refine' Up.mono ?s9w18 ?i9w18; (case i9w18 => assumption); (case s9w18 => intro p9z9 hp9z9; k_mem))); (case hclw18 => first | assumption | omega); k_whole); intro t9z9 h9z9 tk9z9 F9z9 N9z9)
  k_with "compareOp In str ref" => (k_here; (with_reducible show wpAny _ _ (compareOp CmpOp.In (Value.str _ _) (Value.ref _)) _ _ _); k_dflt (refine' in_list_strs (isList_M ?Nw19 ?mw19) ?iw19 ?_; (case Nw19 => k_asm); (case mw19 => k_mem); (case iw19 => exact Strs.are (by assumption)); k_whole))
  k_with "compareOp NotIn str ref" => (k_here; (with_reducible show wpAny _ _ (compareOp CmpOp.NotIn (Value.str _ _) (Value.ref _)) _ _ _); k_dflt (refine' notin_list_strs (isList_M ?Nw20 ?mw20) ?iw20 ?_; (case Nw20 => k_asm); (case mw20 => k_mem); (case iw20 => exact Strs.are (by assumption)); k_whole))
  k_with "eval ListComp" => refine hold ?_
  k_with "exec Assign cons ListComp" => refine hold ?_
  k_with "CompSrc" => refine hold ?_
  k_with "exec For" => refine hold ?_
  k_with "exec For Name Call" => refine hold ?_
  k_with "exec For Name Call cons nil" => refine hold ?_
  k_with "exec For Name Name" => refine hold ?_
  k_with "exec For Name Name cons nil" => refine hold ?_
  k_with "exec For Name Attribute" => refine hold ?_
  k_with "exec For Name Attribute cons nil" => refine hold ?_
  k_with "exec For Tuple Call" => refine hold ?_
  k_with "exec For Tuple Call cons nil" => refine hold ?_
  k_with "exec For Name Subscript" => refine hold ?_
  k_with "exec For Name Subscript cons nil" => refine hold ?_
  k_with "exec For Name BinOp" => refine hold ?_
  k_with "exec For Name BinOp cons nil" => refine hold ?_
  k_with "ktr_unf" => (refine' code_defC ?k1w37 ?k2w37 ?k3w37 ?k4w37 ?k5w37 ?kAw37 ?kFw37 ?kKw37 ?k6w37 ?k7w37 ?k8w37 ?k9w37 ?kBw37 ?kDw37 ?_ ?c2w37 ?c3w37 ?c4w37; (case kAw37 => exact rfl); (case kFw37 => exact rfl); (case kKw37 => assumption); (case k1w37 => k_asm); (case k2w37 => k_asm); (case k3w37 => k_asm); (case k4w37 => k_asm); (case k5w37 => k_asm); (case k6w37 => k_is); (case k7w37 => k_is); (case k8w37 => ktr_room); (case k9w37 => exact BindsTo.of_eq rfl); (case kBw37 => exact rfl); (case kDw37 => decide +kernel); (case c2w37 => exact rfl); (case c3w37 => exact rfl); (case c4w37 => exact rfl); k_whole; intro gz9 Lz9 hz9 tkz9 cellsz9 FGz9 Fz9 Nz9 Yz9 Bz9 Xz9 Tz9 l1z9; k_cells Yz9; (try simp only [List.cons_append, List.nil_append] at Nz9); (try dsimp only); (try k_lift Bz9); (try k_fold))
  k_with "call ref" => (k_here; (with_reducible show wpAny _ _ (call (Value.ref 123) [Value.ref _, Value.str _ _, Value.str _ _]) _ _ _); k_dflt (refine' is_under_ ?Bw38 ?Fw38 ?Xw38 ?Nw38 ?Tw38 ?kKw38 ?hxw38 ?hdxw38 ?hew38 ?hoew38 ?hesw38 ?hcw38 ?hdcw38 ?hecw38 ?hdw38 ?huw38 ?hupw38 ?hclw38 ?_; (case Bw38 => k_asm); (case Fw38 => k_asm); (case Xw38 => k_asm); (case Nw38 => k_asm); (case Tw38 => k_asm); (case kKw38 => first | exact rfl | assumption); (case hcw38 => k_mem); (case hdcw38 => k_mem); (case hecw38 => assumption); (case hxw38 => k_mem); (case hdxw38 => k_mem); (case hesw38 => assumption); (case hew38 => k_mem); (case hoew38 => assumption); (case hdw38 => ktr_room); (case huw38 => ktr_units); (case hupw38 => first | assumption | (refine' Up.mono ?s9w38 ?i9w38; (case i9w38 => assumption); (case s9w38 => intro p9z9 hp9z9; k_mem))); (case hclw38 => first | assumption | omega); k_whole); intro h9z9 tk9z9 F9z9 N9z9)
  k_with "call ref" => (k_here; (with_reducible show wpAny _ _ (call (Value.ref 130) [Value.ref _, Value.str _ _, Value.str _ _]) _ _ _); k_dflt (refine' narrower_ ?Bw39 ?Fw39 ?Xw39 ?Nw39 ?Tw39 ?kKw39 ?hxw39 ?hdxw39 ?hew39 ?hoew39 ?hesw39 ?hcw39 ?hdcw39 ?hecw39 ?hdw39 ?huw39 ?hupw39 ?hclw39 ?hup'w39 ?hcl'w39 ?_; (case Bw39 => k_asm); (case Fw39 => k_asm); (case Xw39 => k_asm); (case Nw39 => k_asm); (case Tw39 => k_asm); (case kKw39 => first | exact rfl | assumption); (case hcw39 => k_mem); (case hdcw39 => k_mem); (case hecw39 => assumption); (case hxw39 => k_mem); (case hdxw39 => k_mem); (case hesw39 => assumption); (case hew39 => k_mem); (case hoew39 => assumption); (case hdw39 => ktr_room); (case huw39 => ktr_units); (case hupw39 => first | assumption | (refine' Up.mono ?s9w39 ?i9w39; (case i9w39 => assumption); (case s9w39 => intro p9z9 hp9z9; k_mem))); (case hclw39 => first | assumption | omega); (case hup'w39 => first | assumption | (refine' Up.mono ?s9w39 ?i9w39; (case i9w39 => assumption); (case s9w39 => intro p9z9 hp9z9; k_mem))); (case hcl'w39 => first | assumption | omega); k_whole); intro t9z9 h9z9 tk9z9 F9z9 N9z9)
  k_with "eval Name" => (k_here; (with_reducible show wpAny _ _ (eval (Expr.Name _ _) (compEnvC _ _ _ _)) _ _ _); k_dflt (refine' lcx_local (by k_asm) (by first | rfl | tb_rel) ?_ (by rfl) (by rfl) (by decide); k_whole))
  k_with "call type:zip" => refine hold ?_
  k_with "call ref" => (k_here; (with_reducible show wpAny _ _ (call (Value.ref 135) [Value.ref _, Value.ref _, Value.ref _]) _ _ _); k_dflt (refine' common_ ?Bw42 ?Fw42 ?Xw42 ?Nw42 ?Tw42 ?kKw42 ?hxw42 ?hdxw42 ?hew42 ?hoew42 ?hesw42 ?hcw42 ?hdcw42 ?hecw42 ?hdw42 ?huw42 ?hupw42 ?hclw42 ?hup'w42 ?hcl'w42 ?ho1w42 ?ho2w42 ?_ ?_; (case Bw42 => k_asm); (case Fw42 => k_asm); (case Xw42 => k_asm); (case Nw42 => k_asm); (case Tw42 => k_asm); (case kKw42 => first | exact rfl | assumption); (case hcw42 => k_mem); (case hdcw42 => k_mem); (case hecw42 => assumption); (case hxw42 => k_mem); (case hdxw42 => k_mem); (case hesw42 => assumption); (case hew42 => k_mem); (case hoew42 => assumption); (case hdw42 => ktr_room); (case huw42 => ktr_units); (case ho1w42 => k_mem); (case ho2w42 => k_mem); (case hupw42 => first | assumption | (refine' Up.mono ?s9w42 ?i9w42; (case i9w42 => assumption); (case s9w42 => intro p9z9 hp9z9; k_mem))); (case hclw42 => first | assumption | omega); (case hup'w42 => first | assumption | (refine' Up.mono ?s9w42 ?i9w42; (case i9w42 => assumption); (case s9w42 => intro p9z9 hp9z9; k_mem))); (case hcl'w42 => first | assumption | omega); k_whole; first | (intro h9z9 tk9z9 hz9z9 F9z9 N9z9; (try dsimp only at F9z9 N9z9)) | (intro D9z9 t9z9 h9z9 tk9z9 hz9z9 F9z9 N9z9 lt9z9; (try dsimp only at F9z9 N9z9))))
  k_with "compareOp Eq ref ref" => (k_here; (with_reducible show wpAny _ _ (compareOp CmpOp.Eq (Value.ref _) (Value.ref _)) _ _ _); k_dflt (refine' eq_t1 ?Nw43 ?haw43 ?hbw43 ?kaw43 ?kbw43 ?huw43 ?_; (case Nw43 => k_asm); (case haw43 => k_mem); (case hbw43 => k_mem); (case kaw43 => assumption); (case kbw43 => assumption); (case huw43 => ktr_units); k_whole))
  k_with "compareOp NotEq ref ref" => (k_here; (with_reducible show wpAny _ _ (compareOp CmpOp.NotEq (Value.ref _) (Value.ref _)) _ _ _); k_dflt (refine' ne_t1 ?Nw44 ?haw44 ?hbw44 ?kaw44 ?kbw44 ?huw44 ?_; (case Nw44 => k_asm); (case haw44 => k_mem); (case hbw44 => k_mem); (case kaw44 => assumption); (case kbw44 => assumption); (case huw44 => ktr_units); k_whole))
  k_with "compareOp Eq none ref" => (k_here; (with_reducible show wpAny _ _ (compareOp CmpOp.Eq Value.none (Value.ref _)) _ _ _); k_dflt (refine' eq_nt ?Nw45 ?hbw45 ?kbw45 ?huw45 ?_; (case Nw45 => k_asm); (case hbw45 => k_mem); (case kbw45 => assumption); (case huw45 => ktr_units); k_whole))
  k_with "call type:tuple" => (k_here; (with_reducible show wpAny _ _ (call (Value.type _) [Value.ref _]) _ _ _); k_dflt (refine' tuple_list_M ?Fw46 ?Nw46 ?mw46 ?zw46 ?_; (case Fw46 => k_asm); (case Nw46 => k_asm); (case mw46 => k_mem); (case zw46 => first | assumption | omega | ((try simp only [List.length_append, List.length_cons, List.length_nil] at *); omega)); k_whole); intro D9z9 h9z9 F9z9 N9z9 lt9z9; (try dsimp only at F9z9 N9z9))
  k_with "call builtin:len" => (k_here; (with_reducible show wpAny _ _ (call (Value.builtin "len") [Value.ref _]) _ _ _); k_dflt (refine' len_list_M (by k_asm) (by k_mem) (by first | assumption | omega | ((try simp only [List.length_append, List.length_cons, List.length_nil] at *); omega)) ?_; k_whole))
  k_with "call ref" => (k_here; (with_reducible show wpAny _ _ (call (Value.ref 142) [Value.ref _, Value.int _ _]) _ _ _); k_dflt (refine' want_few_ ?Bw48 ?Fw48 ?Xw48 ?Nw48 ?Tw48 ?kKw48 ?hdw48 ?huw48 ?hzw48 ?_; (case Bw48 => k_asm); (case Fw48 => k_asm); (case Xw48 => k_asm); (case Nw48 => k_asm); (case Tw48 => k_asm); (case kKw48 => first | exact rfl | assumption); (case hdw48 => ktr_room); (case huw48 => ktr_units); (case hzw48 => first | assumption | omega); k_whole); intro h9z9 tk9z9 F9z9 N9z9)
  k_with "call type:set" => refine hold ?_
  k_with "call builtin:sorted" => refine hold ?_
  k_with "call ref" => (k_here; (with_reducible show wpAny _ _ (call (Value.ref 154) [Value.ref _, Value.ref _]) _ _ _); refine hold ?_)
  k_with "setItem ref str" => refine hold ?_
  k_with "call builtin:list.pop" => (k_here; (with_reducible show wpAny _ _ (call (Value.builtin _) [Value.ref _]) _ _ _); k_dflt (refine' pop_M ?k1w53 ?k2w53 ?k3w53 ?zw53 ?_; (case k1w53 => k_asm); (case k2w53 => k_asm); (case k3w53 => k_updF); (case zw53 => first | assumption | omega); k_whole); intro hz9 Fz9 Nz9; (try dsimp only at Nz9); (try k_sweep))
  k_with "call builtin:list.extend" => (k_here; (with_reducible show wpAny _ _ (call (Value.builtin _) [Value.ref _, Value.ref _]) _ _ _); k_dflt (refine' extend_M ?k1w54 ?k2w54 ?k3w54 ?kbw54 ?zw54 ?_; (case k1w54 => k_asm); (case k2w54 => k_asm); (case k3w54 => k_updF); (case kbw54 => k_mem); (case zw54 => first | assumption | omega); k_whole); intro hz9 nz9 Fz9 Nz9; (try dsimp only at Nz9); (try k_sweep))
  k_with "compareOp NotIn str ref" => (k_here; (with_reducible show wpAny _ _ (compareOp CmpOp.NotIn (Value.str _ _) (Value.ref _)) _ _ _); k_dflt (first | (refine' kdg_notin (knd := PySem.strKind _ _) ?Nw55 ?mw55 ?dw55 ?low55 (strKind_is _ _ _ _) true ?hbw55 ?_; (case Nw55 => k_asm); (case mw55 => k_mem); (case dw55 => assumption); (case low55 => assumption); (case hbw55 => (rename (valueAt _ _ = _) => hvk9; simp [hvk9])); k_whole) | (refine' kdg_notin (knd := PySem.strKind _ _) ?Nw55 ?mw55 ?dw55 ?low55 (strKind_is _ _ _ _) false ?hbw55 ?_; (case Nw55 => k_asm); (case mw55 => k_mem); (case dw55 => assumption); (case low55 => assumption); (case hbw55 => (rename (valueAt _ _ = _) => hvk9; simp [hvk9])); k_whole)))
  k_with "k_all" => first | assumption | exact ne_all (by assumption)
  k_with "compareOp In str ref" => (k_here; (with_reducible show wpAny _ _ (compareOp CmpOp.In (Value.str _ _) (Value.ref _)) _ _ _); k_dflt (first | (refine' kda_in (knd := PySem.strKind _ _) ?Nw57 ?mw57 ?dw57 ?low57 (strKind_is _ _ _ _) true ?hbw57 ?_; (case Nw57 => k_asm); (case mw57 => k_mem); (case dw57 => assumption); (case low57 => assumption); (case hbw57 => (rename (valueAt _ _ = _) => hvk9; simp [hvk9])); k_whole) | (refine' kda_in (knd := PySem.strKind _ _) ?Nw57 ?mw57 ?dw57 ?low57 (strKind_is _ _ _ _) false ?hbw57 ?_; (case Nw57 => k_asm); (case mw57 => k_mem); (case dw57 => assumption); (case low57 => assumption); (case hbw57 => (rename (valueAt _ _ = _) => hvk9; simp [hvk9])); k_whole)))
  k_with "call type:list" => (k_here; (with_reducible show wpAny _ _ (call (Value.type _) [Value.ref _]) _ _ _); k_dflt (refine' list_list_M ?Fw58 ?Nw58 ?mw58 ?zw58 ?_; (case Fw58 => k_asm); (case Nw58 => k_asm); (case mw58 => k_mem); (case zw58 => first | assumption | omega); k_whole); intro D9z9 c9z9 h9z9 F9z9 N9z9 lt9z9; (try dsimp only at F9z9 N9z9); (try k_lt lt9z9))
  k_with "call builtin:list.remove" => refine hold ?_
  k_with "ktr_units" => (have hcL9z9 := cLine_is; (try simp only [units_under_make, units_in1, units_deeper, Around.mark_units, units_caller] at *); (try dsimp only [ktrTop] at *); omega)
  trivial
/-! the plain law -/
noncomputable def abF (ps : List Int) : Nat → Nat → Nat
  | 0, _ => 0
  | f + 1, j => match ps[j]? with
    | some x => if 0 ≤ x then abF ps f x.toNat ||| 2 ^ x.toNat else 0
    | none => 0
noncomputable def abO (ps : List Int) (j : Nat) : Nat := abF ps (j + 1) j
noncomputable def ancF (ps : List Int) : Nat → Nat → List Str
  | 0, _ => []
  | f + 1, j => match ps[j]? with
    | some x => if 0 ≤ x then bs x.toNat :: ancF ps f x.toNat else []
    | none => []
noncomputable def ancO (ps : List Int) (j : Nat) : List Str := ancF ps (j + 1) j
noncomputable def POk (ps : List Int) : Prop := ps.length = 6 ∧ ∀ (j : Nat) (x : Int), ps[j]? = some x → -1 ≤ x ∧ x < j
theorem abF_more {ps : List Int} (hp : POk ps) : ∀ (f j : Nat), j < f → abF ps f j = abF ps (j + 1) j
  | 0, _, h => absurd h (Nat.not_lt_zero _)
  | f + 1, j, h => by
    show (match ps[j]? with | some x => if 0 ≤ x then abF ps f x.toNat ||| 2 ^ x.toNat else 0 | none => 0) = match ps[j]? with | some x => if 0 ≤ x then abF ps j x.toNat ||| 2 ^ x.toNat else 0 | none => 0
    cases hx : ps[j]? with
    | none => rfl
    | some x =>
      dsimp only
      split
      · rename_i h0
        obtain ⟨_, h2⟩ := hp.2 j x hx
        have hj : x.toNat < j := by omega
        rw [abF_more hp f x.toNat (by omega), abF_more hp j x.toNat hj]
      · rfl
  termination_by f => f
  decreasing_by all_goals omega
theorem abO_eq {ps : List Int} (hp : POk ps) (j : Nat) (x : Int) (hx : ps[j]? = some x) : abO ps j = if 0 ≤ x then abO ps x.toNat ||| 2 ^ x.toNat else 0 := by
  obtain ⟨_, h2⟩ := hp.2 j x hx
  show (match ps[j]? with | some x => if 0 ≤ x then abF ps j x.toNat ||| 2 ^ x.toNat else 0 | none => 0) = _
  rw [hx]
  dsimp only
  split
  · rw [abF_more hp j x.toNat (by omega)]; rfl
  · rfl
theorem ancF_more {ps : List Int} (hp : POk ps) : ∀ (f j : Nat), j < f → ancF ps f j = ancF ps (j + 1) j
  | 0, _, h => absurd h (Nat.not_lt_zero _)
  | f + 1, j, h => by
    show (match ps[j]? with | some x => if 0 ≤ x then bs x.toNat :: ancF ps f x.toNat else [] | none => []) = match ps[j]? with | some x => if 0 ≤ x then bs x.toNat :: ancF ps j x.toNat else [] | none => []
    cases hx : ps[j]? with
    | none => rfl
    | some x =>
      dsimp only
      split
      · rename_i h0
        obtain ⟨_, h2⟩ := hp.2 j x hx
        have hj : x.toNat < j := by omega
        rw [ancF_more hp f x.toNat (by omega), ancF_more hp j x.toNat hj]
      · rfl
  termination_by f => f
  decreasing_by all_goals omega
theorem ancO_eq {ps : List Int} (hp : POk ps) (j : Nat) (x : Int) (hx : ps[j]? = some x) : ancO ps j = if 0 ≤ x then bs x.toNat :: ancO ps x.toNat else [] := by
  obtain ⟨_, h2⟩ := hp.2 j x hx
  show (match ps[j]? with | some x => if 0 ≤ x then bs x.toNat :: ancF ps j x.toNat else [] | none => []) = _
  rw [hx]
  dsimp only
  split
  · rw [ancF_more hp j x.toNat (by omega)]; rfl
  · rfl
theorem POk.lt {ps : List Int} (hp : POk ps) {j : Nat} {x : Int} (hx : ps[j]? = some x) : j < 6 ∧ x < j := by
  obtain ⟨h, _⟩ := List.getElem?_eq_some_iff.mp hx
  exact ⟨hp.1 ▸ h, (hp.2 j x hx).2⟩
theorem abO_none {ps : List Int} (j : Nat) (hx : ps[j]? = none) : abO ps j = 0 := by
  show (match ps[j]? with | some x => if 0 ≤ x then abF ps j x.toNat ||| 2 ^ x.toNat else 0 | none => 0) = _
  rw [hx]
theorem ancO_none {ps : List Int} (j : Nat) (hx : ps[j]? = none) : ancO ps j = [] := by
  show (match ps[j]? with | some x => if 0 ≤ x then bs x.toNat :: ancF ps j x.toNat else [] | none => []) = _
  rw [hx]
theorem abO_lt {ps : List Int} (hp : POk ps) : ∀ (k j : Nat), j < k → abO ps j < 64
  | 0, _, h => absurd h (Nat.not_lt_zero _)
  | k + 1, j, h => by
    cases hx : ps[j]? with
    | none => rw [abO_none j hx]; decide
    | some x =>
      obtain ⟨h6, h2⟩ := hp.lt hx
      rw [abO_eq hp j x hx]
      split
      · exact (or6 _ (abO_lt hp k x.toNat (by omega)) _ (pow6 _ (by omega))).2
      · decide
theorem abO_lt64 {ps : List Int} (hp : POk ps) (j : Nat) : abO ps j < 64 := abO_lt hp (j + 1) j (Nat.lt_succ_self _)
theorem bs_inj : ∀ i < 6, ∀ j < 6, bs i = bs j → i = j := by decide +kernel
/-- the bits above a base are its line of parents -/
theorem ab_anc {ps : List Int} (hp : POk ps) : ∀ (k j : Nat), j < k → ∀ i < 6, (abO ps j).testBit i = (ancO ps j).any (· == bs i)
  | 0, _, h, _, _ => absurd h (Nat.not_lt_zero _)
  | k + 1, j, h, i, hi => by
    cases hx : ps[j]? with
    | none => rw [abO_none j hx, ancO_none j hx]; simp
    | some x =>
      obtain ⟨h6, h2⟩ := hp.lt hx
      rw [abO_eq hp j x hx, ancO_eq hp j x hx]
      split
      · rw [Nat.testBit_or, ab_anc hp k x.toNat (by omega) i hi, List.any_cons, Nat.testBit_two_pow, Bool.or_comm]
        congr 1
        by_cases e : x.toNat = i
        · subst e; simp
        · have : bs x.toNat ≠ bs i := fun q => e (bs_inj _ (by omega) _ hi q)
          simp [e, this]
      · simp
theorem anc_lt {ps : List Int} (hp : POk ps) : ∀ (k j : Nat), j < k → ∀ n ∈ ancO ps j, ∃ i, i < j ∧ n = bs i
  | 0, _, h, _, _ => absurd h (Nat.not_lt_zero _)
  | k + 1, j, h, n, hn => by
    cases hx : ps[j]? with
    | none => rw [ancO_none j hx] at hn; cases hn
    | some x =>
      obtain ⟨h6, h2⟩ := hp.lt hx
      rw [ancO_eq hp j x hx] at hn
      split at hn
      · rcases List.mem_cons.mp hn with rfl | hn
        · exact ⟨x.toNat, by omega, rfl⟩
        · obtain ⟨i, hi, e⟩ := anc_lt hp k x.toNat (by omega) n hn
          exact ⟨i, by omega, e⟩
      · cases hn
theorem anc_len {ps : List Int} (hp : POk ps) : ∀ (k j : Nat), j < k → (ancO ps j).length ≤ j
  | 0, _, h => absurd h (Nat.not_lt_zero _)
  | k + 1, j, h => by
    cases hx : ps[j]? with
    | none => rw [ancO_none j hx]; exact Nat.zero_le _
    | some x =>
      obtain ⟨h6, h2⟩ := hp.lt hx
      rw [ancO_eq hp j x hx]
      split
      · have := anc_len hp k x.toNat (by omega)
        rw [List.length_cons]; omega
      · exact Nat.zero_le _
noncomputable def sig : Nat → Nat
  | 0 => 3
  | 1 => 1
  | 2 => 5
  | 3 => 0
  | 4 => 4
  | _ => 2
theorem sig_lt : ∀ i < 6, sig i < 6 := by decide
theorem rho_sig : ∀ i < 6, rho (sig i) = i := by decide
theorem sig_rho : ∀ j < 6, sig (rho j) = j := by decide
theorem bnm_sig : ∀ i < 6, Tab.bnm i = bs (sig i) := by decide +kernel
/-- what lies under a name, by rank -/
noncomputable def Rf (bt : Str → Nat) (n : Str) (i : Nat) : Bool := decide (i < 6) && (bt n).testBit (sig i)
noncomputable def chf (ps : List Int) (i : Nat) : List Str := if i < 6 then ancO ps (sig i) else []
theorem land_zero {a b : Nat} (ha : a < 64) : a &&& b = 0 ↔ ∀ i < 6, ¬ (a.testBit i = true ∧ b.testBit i = true) := by
  constructor
  · intro h i _ ⟨h1, h2⟩
    have : (a &&& b).testBit i = true := by rw [Nat.testBit_and, h1, h2]; rfl
    rw [h] at this; simp at this
  · intro h
    apply Nat.eq_of_testBit_eq
    intro i
    rw [Nat.testBit_and, Nat.zero_testBit]
    by_cases hi : i < 6
    · have := h i hi
      cases h1 : a.testBit i <;> cases h2 : b.testBit i <;> simp_all
    · have : a.testBit i = false := Nat.testBit_lt_two_pow (Nat.lt_of_lt_of_le ha (by
        have : (2 : Nat) ^ 6 ≤ 2 ^ i := Nat.pow_le_pow_right (by decide) (by omega)
        exact this))
      rw [this]; rfl
theorem kp_dl {ps : List Int} (hp : POk ps) (bt : Str → Nat) (n : Str) : kp bt (abO ps) n = dl (Rf bt) (chf ps) n := by
  unfold kp dl pl
  rw [srt_srt]
  unfold Tab.srt
  rw [List.filter_filter]
  refine List.filter_congr fun i hi => ?_
  have hi6 := List.mem_range.mp hi
  have e1 : ((keptJ bt (abO ps) n).map rho).contains i = keptB bt (abO ps) n (sig i) := by
    rw [Bool.eq_iff_iff, List.contains_iff_mem, List.mem_map]
    constructor
    · rintro ⟨j, hj, rfl⟩
      rw [sig_rho j (keptJ_lt j hj)]
      exact (List.mem_filter.mp hj).2
    · intro h
      exact ⟨sig i, List.mem_filter.mpr ⟨List.mem_range.mpr (sig_lt i hi6), h⟩, rho_sig i hi6⟩
  rw [e1]
  unfold keptB
  have e2 : Rf bt n i = (bt n).testBit (sig i) := by unfold Rf; simp [hi6]
  rw [e2, Bool.and_comm]
  congr 1
  rw [Bool.eq_iff_iff, beq_iff_eq, land_zero (abO_lt64 hp _), Bool.not_eq_true', List.any_eq_false]
  have hac := ab_anc hp (sig i + 1) (sig i) (Nat.lt_succ_self _)
  constructor
  · intro h i' hi' hp2
    obtain ⟨h1, h2⟩ := List.mem_filter.mp hi'
    have hi'6 := List.mem_range.mp h1
    unfold p2 at hp2
    rw [Bool.and_eq_true] at hp2
    have h3 := hp2.2
    unfold chf at h3
    rw [if_pos hi6, bnm_sig i' hi'6, ← hac (sig i') (sig_lt i' hi'6)] at h3
    unfold Rf at h2
    rw [Bool.and_eq_true] at h2
    exact h (sig i') (sig_lt i' hi'6) ⟨h3, h2.2⟩
  · intro h j hj ⟨h1, h2⟩
    have hrj := rho_lt j hj
    refine h (rho j) (List.mem_filter.mpr ⟨List.mem_range.mpr hrj, ?_⟩) ?_
    · unfold Rf; rw [sig_rho j hj, h2]; simp [hrj]
    · unfold p2 chf
      rw [if_pos hi6, bnm_sig _ hrj, sig_rho j hj, ← hac j hj, h1, Bool.and_true]
      have hne : rho j ≠ i := fun e => by
        have hj' : j = sig i := by rw [← e, sig_rho j hj]
        rw [hac j hj] at h1
        obtain ⟨m, hm, hme⟩ := List.any_eq_true.mp h1
        obtain ⟨i2, hi2, e2⟩ := anc_lt hp (sig i + 1) (sig i) (Nat.lt_succ_self _) m hm
        have : bs i2 = bs j := by rw [← e2]; exact beq_iff_eq.mp hme
        have := bs_inj i2 (by have := sig_lt i hi6; omega) j hj this
        omega
      simpa using hne

noncomputable def idxB (n : Str) : Option Nat := (List.range 6).find? fun j => bs j == n
noncomputable def idxS (q : Nat) (n : Str) : Option Nat := (List.range q).find? fun k => sn k == n
theorem idxB_bs : ∀ j < 6, idxB (bs j) = some j := by decide +kernel
theorem idxB_sn : ∀ k < 21, idxB (sn k) = none := by decide +kernel
theorem idxS_sn : ∀ q < 21, ∀ k < q, idxS q (sn k) = some k := by decide +kernel
theorem idxB_lt {n : Str} {j : Nat} (h : idxB n = some j) : j < 6 := List.mem_range.mp (List.mem_of_find?_eq_some h)
noncomputable def btF (os : List (List Str)) : Nat → Str → Nat
  | 0, _ => 0
  | f + 1, n => match idxB n with
    | some j => 2 ^ j
    | none => match idxS os.length n with
      | some k => (os.getD k []).foldl (fun a o => a ||| btF os f o) 0
      | none => 0
noncomputable def btO (os : List (List Str)) (n : Str) : Nat := btF os (os.length + 1) n
structure OsOk (os : List (List Str)) : Prop where
  len : os.length ≤ 20
  ok : ∀ (k : Nat) (xs : List Str), os[k]? = some xs → 1 ≤ xs.length ∧ xs.length ≤ 3 ∧ ∀ o ∈ xs, NmOk k o
theorem btF_b (os : List (List Str)) (f : Nat) {j : Nat} (hj : j < 6) : btF os (f + 1) (bs j) = 2 ^ j := by
  unfold btF; rw [idxB_bs j hj]
theorem btF_s {os : List (List Str)} (h : OsOk os) (f : Nat) {k : Nat} {xs : List Str} (hx : os[k]? = some xs) : btF os (f + 1) (sn k) = xs.foldl (fun a o => a ||| btF os f o) 0 := by
  obtain ⟨hk, e⟩ := List.getElem?_eq_some_iff.mp hx
  have hl := h.len
  rw [btF]
  rw [idxB_sn k (by omega)]
  dsimp only
  rw [idxS_sn _ (by omega) k hk]
  dsimp only
  rw [List.getD_eq_getElem?_getD, hx]
  rfl
theorem fold_congr {f g : Str → Nat} : ∀ (xs : List Str) (a : Nat), (∀ o ∈ xs, f o = g o) → xs.foldl (fun a o => a ||| f o) a = xs.foldl (fun a o => a ||| g o) a
  | [], _, _ => rfl
  | x :: xs, a, h => by
    rw [List.foldl_cons, List.foldl_cons, h x (.head _)]
    exact fold_congr xs _ fun o ho => h o (.tail _ ho)
theorem btF_stab {os : List (List Str)} (h : OsOk os) : ∀ (k f g : Nat), k ≤ os.length → k < f → k < g → ∀ o, NmOk k o → btF os f o = btF os g o := by
  intro k
  induction k using Nat.strongRecOn with
  | _ k ih =>
    intro f g hk hf hg o ho
    obtain ⟨f', rfl⟩ : ∃ f', f = f' + 1 := ⟨f - 1, by omega⟩
    obtain ⟨g', rfl⟩ : ∃ g', g = g' + 1 := ⟨g - 1, by omega⟩
    rcases ho with ⟨i, hi, rfl⟩ | ⟨j, hj, rfl⟩
    · obtain ⟨xs, hx⟩ : ∃ xs, os[i]? = some xs := ⟨_, List.getElem?_eq_getElem (by omega)⟩
      rw [btF_s h f' hx, btF_s h g' hx]
      exact fold_congr xs 0 fun o ho => ih i hi f' g' (by omega) (by omega) (by omega) o ((h.ok i xs hx).2.2 o ho)
    · rw [btF_b os f' hj, btF_b os g' hj]
theorem btO_b (os : List (List Str)) : ∀ j < 6, btO os (bs j) = 2 ^ j := fun j hj => btF_b os _ hj
theorem btO_s {os : List (List Str)} (h : OsOk os) (k : Nat) (xs : List Str) (hx : os[k]? = some xs) : btO os (sn k) = xs.foldl (fun a o => a ||| btO os o) 0 := by
  obtain ⟨hk, e⟩ := List.getElem?_eq_some_iff.mp hx
  unfold btO
  rw [btF_s h _ hx]
  exact fold_congr xs 0 fun o ho => btF_stab h k _ _ (by omega) (by omega) (by omega) o ((h.ok k xs hx).2.2 o ho)
theorem fold_lt {f : Str → Nat} (hf : ∀ n, f n < 64) : ∀ (xs : List Str) (a : Nat), a < 64 → xs.foldl (fun a o => a ||| f o) a < 64
  | [], _, h => h
  | x :: xs, a, h => fold_lt hf xs _ (or6 a h _ (hf x)).2
theorem btF_lt (os : List (List Str)) : ∀ (f : Nat) (n : Str), btF os f n < 64
  | 0, _ => by rw [btF]; decide
  | f + 1, n => by
    rw [btF]
    split
    · rename_i j hj; exact pow6 j (idxB_lt hj)
    · split
      · exact fold_lt (btF_lt os f) _ 0 (by decide)
      · decide
theorem btO_lt (os : List (List Str)) (n : Str) : btO os n < 64 := btF_lt os _ n
theorem fold_bit {f : Str → Nat} (j : Nat) : ∀ (xs : List Str) (a : Nat), (xs.foldl (fun a o => a ||| f o) a).testBit j = (a.testBit j || xs.any fun o => (f o).testBit j)
  | [], a => by simp
  | x :: xs, a => by rw [List.foldl_cons, fold_bit j xs, Nat.testBit_or, List.any_cons, Bool.or_assoc]
theorem bt_some {os : List (List Str)} (h : OsOk os) : ∀ (k : Nat), k ≤ os.length → ∀ o, NmOk k o → ∃ j < 6, (btO os o).testBit j = true := by
  intro k
  induction k using Nat.strongRecOn with
  | _ k ih =>
    intro hk o ho
    rcases ho with ⟨i, hi, rfl⟩ | ⟨j, hj, rfl⟩
    · obtain ⟨xs, hx⟩ : ∃ xs, os[i]? = some xs := ⟨_, List.getElem?_eq_getElem (by omega)⟩
      obtain ⟨h1, _, h3⟩ := h.ok i xs hx
      obtain ⟨o, ho⟩ := List.exists_mem_of_ne_nil xs (by intro e; rw [e] at h1; simp at h1)
      obtain ⟨j, hj, hb⟩ := ih i hi (by omega) o (h3 o ho)
      refine ⟨j, hj, ?_⟩
      rw [btO_s h i xs hx, fold_bit, Nat.zero_testBit, Bool.false_or]
      exact List.any_eq_true.mpr ⟨o, ho, hb⟩
    · exact ⟨j, hj, by rw [btO_b os j hj, Nat.testBit_two_pow]; simp⟩
theorem low_bit {b : Nat} : ∀ (j : Nat), b.testBit j = true → ∃ i ≤ j, b.testBit i = true ∧ ∀ m < i, b.testBit m = false := by
  intro j
  induction j using Nat.strongRecOn with
  | _ j ih =>
    intro h
    by_cases hc : ∃ m < j, b.testBit m = true
    · obtain ⟨m, hm, hb⟩ := hc
      obtain ⟨i, hi, h1, h2⟩ := ih m hm hb
      exact ⟨i, by omega, h1, h2⟩
    · exact ⟨j, Nat.le_refl _, h, fun m hm => Bool.eq_false_iff.mpr fun q => hc ⟨m, hm, q⟩⟩
theorem nms_ok {q : Nat} {n : Str} (h : n ∈ nms q) : NmOk q n := by
  rcases List.mem_append.mp h with h | h
  · obtain ⟨j, hj, rfl⟩ := List.mem_map.mp h
    exact .inr ⟨j, List.mem_range.mp hj, rfl⟩
  · obtain ⟨i, hi, rfl⟩ := List.mem_map.mp h
    exact .inl ⟨i, List.mem_range.mp hi, rfl⟩
theorem kept_some {ps : List Int} (hp : POk ps) {os : List (List Str)} (h : OsOk os) : ∀ n ∈ nms os.length, keptJ (btO os) (abO ps) n ≠ [] := fun n hn => by
  obtain ⟨j, hj, hb⟩ := bt_some h os.length (Nat.le_refl _) n (nms_ok hn)
  obtain ⟨i, hi, h1, h2⟩ := low_bit j hb
  have hi6 : i < 6 := by omega
  have : i ∈ keptJ (btO os) (abO ps) n := by
    refine List.mem_filter.mpr ⟨List.mem_range.mpr hi6, ?_⟩
    unfold keptB
    rw [h1, Bool.true_and, beq_iff_eq, land_zero (abO_lt64 hp _)]
    rintro m hm ⟨h3, h4⟩
    rw [ab_anc hp (i + 1) i (Nat.lt_succ_self _) m hm] at h3
    obtain ⟨x, hx, hxe⟩ := List.any_eq_true.mp h3
    obtain ⟨i2, hi2, e2⟩ := anc_lt hp (i + 1) i (Nat.lt_succ_self _) x hx
    have e3 : bs i2 = bs m := by rw [← e2]; exact beq_iff_eq.mp hxe
    have := bs_inj i2 (by omega) m hm e3
    rw [h2 m (by omega)] at h4
    cases h4
  exact fun e => by rw [e] at this; cases this

noncomputable def parO (ps : List Int) (n : Str) : Str := match idxB n with
  | some j => match ps[j]? with
    | some x => if 0 ≤ x then bs x.toNat else Str.ofString ""
    | none => Str.ofString ""
  | none => Str.ofString ""
noncomputable def supO (os : List (List Str)) (n : Str) : List Str := match idxB n with
  | some _ => []
  | none => match idxS os.length n with
    | some k => os.getD k []
    | none => []
noncomputable def rkO (q : Nat) (n : Str) : Nat := match idxB n with
  | some j => j
  | none => match idxS q n with
    | some k => 6 + k
    | none => 0
theorem parO_b (ps : List Int) (j : Nat) (x : Int) (hj : j < 6) (hx : ps[j]? = some x) : parO ps (bs j) = if 0 ≤ x then bs x.toNat else Str.ofString "" := by
  unfold parO; rw [idxB_bs j hj]; dsimp only; rw [hx]
theorem parO_s (ps : List Int) (k : Nat) (hk : k < 21) : parO ps (sn k) = Str.ofString "" := by unfold parO; rw [idxB_sn k hk]
theorem supO_b (os : List (List Str)) : ∀ j < 6, supO os (bs j) = [] := fun j hj => by unfold supO; rw [idxB_bs j hj]
theorem supO_s {os : List (List Str)} (h : OsOk os) (k : Nat) (xs : List Str) (hx : os[k]? = some xs) : supO os (sn k) = xs := by
  obtain ⟨hk, e⟩ := List.getElem?_eq_some_iff.mp hx
  have hl := h.len
  unfold supO
  rw [idxB_sn k (by omega)]
  dsimp only
  rw [idxS_sn _ (by omega) k hk]
  dsimp only
  rw [List.getD_eq_getElem?_getD, hx]
  rfl
theorem rkO_b (q : Nat) : ∀ j < 6, rkO q (bs j) = j := fun j hj => by unfold rkO; rw [idxB_bs j hj]
theorem rkO_s {q k : Nat} (hq : q < 21) (hk : k < q) : rkO q (sn k) = 6 + k := by unfold rkO; rw [idxB_sn k (by omega)]; dsimp only; rw [idxS_sn q hq k hk]
theorem bs_ne : ∀ j < 6, bs j ≠ Str.ofString "" := by decide +kernel
theorem bs_mem (q : Nat) {j : Nat} (hj : j < 6) : bs j ∈ nms q := List.mem_append_left _ (List.mem_map_of_mem (List.mem_range.mpr hj))
theorem sn_mem {q k : Nat} (hk : k < q) : sn k ∈ nms q := List.mem_append_right _ (List.mem_map_of_mem (List.mem_range.mpr hk))
theorem NmOk.mem2 {q k : Nat} (hk : k ≤ q) {x : Str} (h : NmOk k x) : x ∈ nms q := by
  rcases h with ⟨i, hi, rfl⟩ | ⟨j, hj, rfl⟩
  · exact sn_mem (by omega)
  · exact bs_mem q hj
theorem nms_strOk : ∀ n ∈ nms 20, PyData.strOk n = true := by decide +kernel
theorem nms_sub {q : Nat} (hq : q ≤ 20) : ∀ n ∈ nms q, n ∈ nms 20 := fun n hn => (nms_ok hn).mem2 hq
/-- what Signatures(items) asks of the names -/
theorem dirs_in {ps : List Int} (hp : POk ps) {os : List (List Str)} (h : OsOk os) : ∀ o ∈ nms os.length, ∀ q ∈ dirs (parO ps) (supO os) o, q ∈ nms os.length ∧ rkO os.length q < rkO os.length o := fun o ho q hq => by
  have hl := h.len
  rcases nms_ok ho with ⟨k, hk, rfl⟩ | ⟨j, hj, rfl⟩
  · obtain ⟨xs, hx⟩ : ∃ xs, os[k]? = some xs := ⟨_, List.getElem?_eq_getElem hk⟩
    unfold dirs at hq
    rw [if_pos (parO_s ps k (by omega)), supO_s h k xs hx] at hq
    have hn := (h.ok k xs hx).2.2 q hq
    refine ⟨hn.mem2 (by omega), ?_⟩
    rw [rkO_s (by omega) hk]
    rcases hn with ⟨i, hi, rfl⟩ | ⟨j, hj, rfl⟩
    · rw [rkO_s (by omega) (by omega)]; omega
    · rw [rkO_b _ j hj]; omega
  · obtain ⟨x, hx⟩ : ∃ x, ps[j]? = some x := ⟨_, List.getElem?_eq_getElem (by rw [hp.1]; exact hj)⟩
    obtain ⟨_, h2⟩ := hp.lt hx
    unfold dirs at hq
    rw [parO_b ps j x hj hx, supO_b os j hj] at hq
    by_cases hxx : 0 ≤ x
    · rw [if_pos hxx, if_neg (bs_ne _ (by omega))] at hq
      rw [List.mem_singleton.mp hq]
      refine ⟨bs_mem _ (by omega), ?_⟩
      rw [rkO_b _ _ (by omega), rkO_b _ j hj]; omega
    · rw [if_neg hxx, if_pos rfl] at hq
      cases hq
theorem par_base {ps : List Int} (hp : POk ps) {os : List (List Str)} (h : OsOk os) : ∀ o ∈ nms os.length, parO ps o ≠ Str.ofString "" → supO os (parO ps o) = [] := fun o ho hne => by
  have hl := h.len
  rcases nms_ok ho with ⟨k, hk, rfl⟩ | ⟨j, hj, rfl⟩
  · exact absurd (parO_s ps k (by omega)) hne
  · obtain ⟨x, hx⟩ : ∃ x, ps[j]? = some x := ⟨_, List.getElem?_eq_getElem (by rw [hp.1]; exact hj)⟩
    obtain ⟨_, h2⟩ := hp.lt hx
    rw [parO_b ps j x hj hx] at hne ⊢
    by_cases hxx : 0 ≤ x
    · rw [if_pos hxx]; exact supO_b os _ (by omega)
    · rw [if_neg hxx] at hne; exact absurd rfl hne
theorem sup_len {os : List (List Str)} (h : OsOk os) : ∀ o ∈ nms os.length, (supO os o).length ≤ 3 := fun o ho => by
  rcases nms_ok ho with ⟨k, hk, rfl⟩ | ⟨j, hj, rfl⟩
  · obtain ⟨xs, hx⟩ : ∃ xs, os[k]? = some xs := ⟨_, List.getElem?_eq_getElem hk⟩
    rw [supO_s h k xs hx]; exact (h.ok k xs hx).2.1
  · rw [supO_b os j hj]; decide
theorem up_of {news : List (Addr × Obj)} {kvs : List (Str × Value)} {ps : List Int} (hp : POk ps) {os : List (List Str)} (hv : ∀ o ∈ nms os.length, ∃ v, valueAt kvs o = some v ∧ ItemIn news v o (parO ps o) (supO os o)) : ∀ (k j : Nat), j < k → j < 6 → Up news kvs (bs j) (ancO ps j)
  | 0, _, h, _ => absurd h (Nat.not_lt_zero _)
  | k + 1, j, h, hj => by
    obtain ⟨x, hx⟩ : ∃ x, ps[j]? = some x := ⟨_, List.getElem?_eq_getElem (by rw [hp.1]; exact hj)⟩
    obtain ⟨_, h2⟩ := hp.lt hx
    obtain ⟨v, h3, h4⟩ := hv (bs j) (bs_mem _ hj)
    rw [parO_b ps j x hj hx] at h4
    rw [ancO_eq hp j x hx]
    by_cases hxx : 0 ≤ x
    · rw [if_pos hxx] at h4 ⊢
      exact .step h3 h4 (bs_ne _ (by omega)) (up_of hp hv k x.toNat (by omega) (by omega))
    · rw [if_neg hxx] at h4 ⊢
      exact .top h3 h4
theorem wld {news : List (Addr × Obj)} {vs : List Value} {ns : List Str} {ps : List Int} (hp : POk ps) {os : List (List Str)} (h : OsOk os) (hI : Its news (parO ps) (supO os) vs ns) (hns : ns.Perm (nms os.length)) :
    Wld news (ns.zip vs) (nms os.length) (supO os) (Rf (btO os)) (chf ps) (rkO os.length) := by
  have hl := h.len
  have hv : ∀ o ∈ nms os.length, ∃ v, valueAt (ns.zip vs) o = some v ∧ ItemIn news v o (parO ps o) (supO os o) := fun o ho =>
    let ⟨v, h1, h2⟩ := hI.value o (hns.mem_iff.mpr ho); ⟨v, h1, h2.item⟩
  refine ⟨fun n hn => ?_, sup_len h, fun n hn m hm => ?_, fun n hn hs => ?_, fun i => ?_, fun i hi j => ?_, fun n hn hs j => ?_, fun n hn m hm => ?_, ?_⟩
  · obtain ⟨v, h1, h2⟩ := hv n hn
    exact ⟨v, _, h1, h2⟩
  · refine (dirs_in hp h n hn m ?_).1
    unfold dirs; split
    · exact hm
    · exact .tail _ hm
  · rcases nms_ok hn with ⟨k, hk, rfl⟩ | ⟨j, hj, rfl⟩
    · obtain ⟨xs, hx⟩ : ∃ xs, os[k]? = some xs := ⟨_, List.getElem?_eq_getElem hk⟩
      rw [supO_s h k xs hx] at hs
      have := (h.ok k xs hx).1
      rw [hs] at this; simp at this
    · refine ⟨rho j, rho_lt j hj, bs_rho j hj, ?_⟩
      unfold chf
      rw [if_pos (rho_lt j hj), sig_rho j hj]
      exact up_of hp hv (j + 1) j (Nat.lt_succ_self _) hj
  · unfold chf
    split
    · rename_i hi
      have := anc_len hp (sig i + 1) (sig i) (Nat.lt_succ_self _)
      have := sig_lt i hi
      omega
    · exact Nat.zero_le _
  · rw [bnm_sig i hi]
    unfold Rf
    rw [btO_b os _ (sig_lt i hi), Nat.testBit_two_pow]
    by_cases hj : j < 6
    · by_cases e : j = i
      · subst e; simp [hj]
      · have : sig i ≠ sig j := fun q => e (by rw [← rho_sig j hj, ← q, rho_sig i hi])
        simp [hj, e, this]
    · have e : j ≠ i := by omega
      simp [hj, e]
  · rcases nms_ok hn with ⟨k, hk, rfl⟩ | ⟨j', hj', rfl⟩
    · obtain ⟨xs, hx⟩ : ∃ xs, os[k]? = some xs := ⟨_, List.getElem?_eq_getElem hk⟩
      rw [supO_s h k xs hx]
      unfold Rf
      rw [btO_s h k xs hx, fold_bit, Nat.zero_testBit, Bool.false_or]
      by_cases hj : j < 6
      · simp [hj]
      · simp [hj]
    · exact absurd (supO_b os j' hj') hs
  · refine (dirs_in hp h n hn m ?_).2
    unfold dirs; split
    · exact hm
    · exact .tail _ hm
  · rw [nms_len]; omega

section
variable {w : World} {p : Program} {loose : List Str} {mean : ExcName → Option Value} {mg mb : Str → Option Value}
    {dp un : Nat} {gd : Option (List Code)} {cn : Str} {cs : Scope} {a : Addr} {ccd : Value} {cl : List (Str × Addr)} {outer : List Env} {A₀ : Around} {base h₀ : Heap} {L : Addr} {m : Str → Option Value} {news : List (Addr × Obj)} {s : Shared} {Q E : Value → Shared → Prop}
    (B : Below A₀ base outer h₀) (F : Fr h₀ L s.heap m) (X : (hd.heap_1 w.params).In h₀) (N : News h₀ L s.heap news) (T : Top p loose mean mg mb h₀) (hk : cs.kind = .function)
include B F X N T hk
theorem cols_ {x : Addr} (hd : dp + 16 < recursionLimit) (hu : un + 160 < cLine)
    (ret : ∀ c dc kd ec nc ok h' tk', Fr h₀ L h' m → News h₀ L h' ((kd, ok) :: (c, instObj 223 dc) :: (dc, dictOf ec nc) :: news) → (∀ q ∈ news, q.1 < kd ∧ q.1 < c ∧ q.1 < dc) → (c < kd ∧ dc < kd) → (kd == sysModules) = false → ok.IsDictOf (PySem.strKind PG w) [] → CoM ec x kd → Q (.ref c) { s with heap := h', toks := tk' }) :
    wpAny (model PG w) (ktrTop dp un gd cn cs L a ccd cl outer) (call (.ref 223) [.ref x]) Q E s := by
  refine' call_cls ?k1 ?k2 ?k3 ?k4 ?k5 ?k6 ?_
  case k1 => k_asm
  case k2 => k_asm
  case k3 => k_asm
  case k4 => k_is
  case k5 => k_is
  case k6 => k_is
  intro c dc h1 F1 N1 l1 l2
  have l3 := ltN l2
  have l4 : ∀ p ∈ news, p.1 ≠ dc := ne_all l1
  have l5 : ∀ p ∈ news, p.1 < c := fun p hp => Nat.lt_trans (l1 p hp) l2
  k_dflt cell_enter
  k_steps
  rename (c < _ ∧ dc < _ ∧ AllLt _ news) => lk
  have hlo := ‹(_ == sysModules) = false›
  have hkd := ‹Obj.IsDictOf (PySem.strKind PG w) _ []›
  exact ret _ _ _ _ _ _ _ _ (by k_asm) (by k_asm) (fun q hq => ⟨ktn_ltOf lk.2.2 q hq, l5 q hq, l1 q hq⟩) ⟨lk.1, lk.2.1⟩ hlo hkd ⟨by k_get, by k_get, by k_get, by k_get, by k_get, by k_get, by k_get, by k_get⟩
end

/-! a cell comes to the front of the ledger -/
noncomputable def offA (c : Addr) (led : List (Addr × Obj)) : List (Addr × Obj) := led.filter fun p => decide (p.1 ≠ c)
theorem offA_ne {c : Addr} {led : List (Addr × Obj)} : ∀ p ∈ offA c led, p.1 ≠ c := fun p hp => of_decide_eq_true (List.mem_filter.mp hp).2
theorem offA_in {c : Addr} {led : List (Addr × Obj)} {p : Addr × Obj} (hp : p ∈ led) (hne : p.1 ≠ c) : p ∈ offA c led := List.mem_filter.mpr ⟨hp, decide_eq_true hne⟩
theorem offA_sub {c : Addr} {led : List (Addr × Obj)} {p : Addr × Obj} (hp : p ∈ offA c led) : p ∈ led := (List.mem_filter.mp hp).1
theorem off_tup {h₀ h : Heap} {L c : Addr} {o : Obj} {led : List (Addr × Obj)} (N : News h₀ L h led) (hc : (c, o) ∈ led) (hd : ∀ vs, o ≠ tupO vs) {a : Addr} {vs : List Value} (ha : (a, tupO vs) ∈ led) : (a, tupO vs) ∈ offA c led :=
  offA_in ha (N.twoPlaces ha hc fun e => hd vs e.symm)
theorem off_lst {h₀ h : Heap} {L c : Addr} {o : Obj} {led : List (Addr × Obj)} (N : News h₀ L h led) (hc : (c, o) ∈ led) (hd : ∀ vs k, o ≠ PySem.W.listOf vs k) {a : Addr} {vs : Array Value} {k : Nat} (ha : (a, PySem.W.listOf vs k) ∈ led) : (a, PySem.W.listOf vs k) ∈ offA c led :=
  offA_in ha (N.twoPlaces ha hc fun e => hd vs k e.symm)
theorem cell_notup {o : Obj} {v : Option Value} (hd : o.data = .cell v) (vs : List Value) : o ≠ tupO vs := fun e => by rw [e] at hd; cases hd
theorem cell_nolst {o : Obj} {v : Option Value} (hd : o.data = .cell v) (vs : Array Value) (k : Nat) : o ≠ PySem.W.listOf vs k := fun e => by rw [e] at hd; cases hd
theorem dict_notup {w : World} {o : Obj} {kvs : List (Str × Value)} (hd : o.IsDictOf (PySem.strKind PG w) kvs) (vs : List Value) : o ≠ tupO vs := fun e => by
  obtain ⟨es, ep, _, h, _⟩ := hd
  rw [e] at h; cases h
theorem dict_nolst {w : World} {o : Obj} {kvs : List (Str × Value)} (hd : o.IsDictOf (PySem.strKind PG w) kvs) (vs : Array Value) (k : Nat) : o ≠ PySem.W.listOf vs k := fun e => by
  obtain ⟨es, ep, _, h, _⟩ := hd
  rw [e] at h; cases h
theorem Prts.sub {X Y : List (Addr × Obj)} (hs : ∀ a vs, (a, tupO vs) ∈ X → (a, tupO vs) ∈ Y) {us : List Value} {os : List (List Str)} (h : Prts X us os) : Prts Y us os := by
  induction h with
  | nil => exact .nil
  | cons h1 h2 _ ih => exact .cons (hs _ _ h1) h2 ih
theorem DueAre.sub {X Y : List (Addr × Obj)} (hs : ∀ a vs, (a, tupO vs) ∈ X → (a, tupO vs) ∈ Y) {f : Str → List Nat} {kvs : List (Str × Value)} {ns : List Str} (h : DueAre X f kvs ns) : DueAre Y f kvs ns := by
  induction h with
  | nil => exact .nil
  | cons h1 h2 _ ih => exact .cons (hs _ _ h1) (kin_sub hs h2) ih
/-! the names of the law -/
theorem bases_strs : Strs basesV ((List.range 6).map bs) := .cons _ _ (.cons _ _ (.cons _ _ (.cons _ _ (.cons _ _ (.cons _ _ .nil)))))
noncomputable def nmL (q : Nat) : List Str := ((List.range q).map fun i => sn (q - 1 - i)) ++ (List.range 6).map bs
theorem nmL_len (q : Nat) : (nmL q).length = q + 6 := by simp [nmL]
theorem nmL_mem {q : Nat} {n : Str} (h : n ∈ nmL q) : n ∈ nms q := by
  rcases List.mem_append.mp h with h | h
  · obtain ⟨i, hi, rfl⟩ := List.mem_map.mp h
    have := List.mem_range.mp hi
    exact sn_mem (by omega)
  · exact List.mem_append_left _ h
theorem Strs.nth {vs : List Value} {xs : List Str} (h : Strs vs xs) {i : Nat} (hi : i < xs.length) : ∃ x t, vs[i]? = some (.str x t) ∧ x ∈ xs := by
  obtain ⟨x, t, e, hx⟩ := h.at (List.getElem?_eq_getElem (by rw [h.len]; exact hi))
  exact ⟨x, t, by rw [List.getElem?_eq_getElem (by rw [h.len]; exact hi), e], List.mem_of_getElem? hx⟩
/-! two tuples of 1-tuples of the same names are equal -/
theorem kin_okd {l : List Nat} (h6 : ∀ i ∈ l, i < 6) : ∀ d ∈ l.map (fun i => Dat.tuple [Dat.str (Tab.bnm i)]), kqdOk 7 d = true := fun d hd => by
  obtain ⟨i, hi, rfl⟩ := List.mem_map.mp hd
  have := bnm_ok i (h6 i hi)
  simp [kqdOk, this]
theorem ne_kin {prog : Program} {w : World} {A : Around} {E : Value → Shared → Prop} {s : Shared} {h₀ : Heap} {L : Addr} {news : List (Addr × Obj)} {Q : Value → Shared → Prop} {a b : Addr} {vs us : List Value} {l : List Nat} (N : News h₀ L s.heap news) (ha : (a, tupO vs) ∈ news) (hb : (b, tupO us) ∈ news) (ka : Tab.KIn news vs l) (kb : Tab.KIn news us l) (h6 : ∀ i ∈ l, i < 6) (hu : A.units + 64 < cLine) (h : Q (.bool false) s) :
    wpAny (model prog w) A (compareOp .NotEq (.ref a) (.ref b)) Q E s :=
  have hok : kqdOk 8 (.tuple (l.map fun i => Dat.tuple [Dat.str (Tab.bnm i)])) = true := by simpa [kqdOk] using kin_okd h6
  ne_dat (r := true) N (.tuple ha (kin_dat ka)) (.tuple hb (kin_dat kb)) hok hok hu (by simp) h
theorem dl_lt {R : Str → Nat → Bool} {ch : Nat → List Str} {n : Str} : ∀ i ∈ dl R ch n, i < 6 := fun i hi => by
  unfold dl pl Tab.srt at hi
  exact List.mem_range.mp (List.mem_filter.mp (List.mem_filter.mp hi).1).1

/-- a for loop whose own objects are no tuples -/
noncomputable abbrev NoTup (po : List (Addr × Obj)) : Prop := ∀ p ∈ po, ∀ vs, p.2 ≠ tupO vs
section
variable {prog : Program} {w : World} {A : Around} {E : Value → Shared → Prop} {s : Shared} {env : Env} {h₀ : Heap} {m : Str → Option Value} {news : List (Addr × Obj)}
theorem lg_list {kp : Bool} {x : Str} {px : Pos} {body : List Stmt} {Q : Flow → Shared → Prop} {l : Addr} {vs : List Value} {k : Nat} (J : Nat → (Str → Option Value) → List (Addr × Obj) → Prop)
    (hh : A.handled = none) (F : Fr h₀ env.locals s.heap m) (N : News h₀ env.locals s.heap news) (hx : env.kindOf x = some .local) (hp : (env.scope.kind == .class || (env.scope.kind == .module && env.locals != env.globals)) = false)
    (hj : J 0 m news) (hsrc : ∀ i m nx, J i m nx → (l, PySem.W.listOf (List.toArray vs) k) ∈ nx)
    (turn : LoTurn kp NoTup prog w A h₀ env body vs.length (fun i f => ∃ v, vs[i]? = some v ∧ f = nmFm x v) J s)
    (done : ∀ m' nx h tk dr, J vs.length m' nx → (kp = true → dr = s.drawn) → Fr h₀ env.locals h m' → News h₀ env.locals h nx → Q .next { s with heap := h, toks := tk, drawn := dr }) :
    wpAny (model prog w) A (pyIter (.ref l)) (fun it s₂ => LoAt kp NoTup prog w A h₀ env (.Name x px) body Q it s₂) E s := by
  have hm := hsrc _ _ _ hj
  have hls : s.heap.IsList l (List.toArray vs) := ⟨_, (N _ hm).1, rfl, _, rfl⟩
  have hne : l ≠ s.heap.objs.size := Nat.ne_of_lt (Heap.lt_size (N _ hm).1)
  have hLl : env.locals ≠ s.heap.objs.size := Nat.ne_of_lt F.ns.lt
  refine wpAny_pyIter_list hls ?_
  have W := Walks.list (prog := prog) (w := w) hh s.heap.objs.size l hne (List.toArray vs)
  rw [List.size_toArray] at W
  refine ⟨[s.heap.objs.size, l], [s.heap.objs.size], vs.length, _, _, [(l, PySem.W.listOf (List.toArray vs) k)], news, J, m, Steps.name W (.head _) (fun i h st b hb => ?_) (fun hb => ?_) hx hp, fun b hb => ?_, ⟨⟨_, Heap.get?_push_size _ rfl, rfl, rfl⟩, hls.push _⟩, fun b hb => ?_, ?_, F.push _, fun p hp => ⟨Heap.get?_push_of_some _ (N p hp).1, (N p hp).2⟩, fun p hp q => ?_, hj, fun i m nx q p hp => ?_, ?_, done⟩
  · rw [List.mem_singleton.mp hb]; obtain ⟨⟨o, ho, _⟩, _⟩ := st; exact ⟨o, ho⟩
  · rcases of_mem2 hb with hb | hb
    · exact hLl hb
    · exact (N _ hm).2.1 hb.symm
  · rcases of_mem2 hb with rfl | rfl
    · exact .inl (.head _)
    · exact .inr (.inr ⟨_, .head _⟩)
  · rw [List.mem_singleton.mp hb]; exact ⟨none_at F, hLl.symm⟩
  · rintro i h po ⟨⟨o, ho, hc, _⟩, _⟩ hpo p hp vs e
    obtain ⟨hb, e1⟩ := hpo p hp
    rw [List.mem_singleton.mp hb] at e1
    have e2 := Option.some.inj (ho.symm.trans e1)
    rw [e2, e] at hc
    simp at hc
  · exact absurd (Heap.lt_size (N p hp).1) ((List.mem_singleton.mp q) ▸ Nat.lt_irrefl _)
  · rw [List.mem_singleton.mp hp]; exact hsrc _ _ _ q
  · intro i f m₁ nx own h tk dr E' hi hf hJ off hnt hd F' N'
    obtain ⟨v, hv, rfl⟩ := hf
    exact turn i _ m₁ nx own h tk dr E' hi ⟨v, by simpa using hv, rfl⟩ hJ off hnt hd F' N'
end

section
open Tab
variable {w : World} {p : Program} {loose : List Str} {mean : ExcName → Option Value} {mg mb : Str → Option Value}
    {dp un : Nat} {gd : Option (List Code)} {cn : Str} {cs : Scope} {a : Addr} {ccd : Value} {cl : List (Str × Addr)} {outer : List Env} {A₀ : Around} {base h₀ : Heap} {L : Addr} {m : Str → Option Value} {news : List (Addr × Obj)} {s : Shared} {Q E : Value → Shared → Prop}
    (B : Below A₀ base outer h₀) (F : Fr h₀ L s.heap m) (X : (hd.heap_1 w.params).In h₀) (T : Top p loose mean mg mb h₀) (hk : cs.kind = .function)
    {x dx e c dc kd : Addr} {es ec : List DictEntry} {n nc : Nat} {oe ok : Obj} {kvs kk : List (Str × Value)}
    (hx : (x, instObj 394 dx) ∈ news) (hdx : (dx, dictOf es n) ∈ news) (he : (e, oe) ∈ news) (hoe : oe.IsDictOf (PySem.strKind PG w) kvs) (hes : SgM es e)
    (hc : (c, instObj 223 dc) ∈ news) (hdc : (dc, dictOf ec nc) ∈ news) (hec : CoM ec x kd)
    {U : List Str} {sup : Str → List Str} {R : Str → Nat → Bool} {ch : Nat → List Str} {rk : Str → Nat} (W : Wld news kvs U sup R ch rk)
include B F X T hk hx hdx he hoe hes hc hdc hec W
/-- sig_columns of any name -/
theorem ask_ {name : Str} {t : Tok} {rest : List (Addr × Obj)} (N : News h₀ L s.heap ((kd, ok) :: news)) (hkd : ∀ p ∈ news, p.1 ≠ kd) (hok : ok.IsDictOf (PySem.strKind PG w) kk) (hr1 : ∀ p ∈ rest, p ∈ news) (hr2 : ∀ a vs, (a, tupO vs) ∈ news → (a, tupO vs) ∈ rest) (hK : Known rest U R ch kk) (lo : (kd == sysModules) = false) (hd : dp + 64 < recursionLimit) (hu : un + 640 < cLine) (hn : name ∈ U)
    (ret : ∀ D vs tl ok' kk' h' tk' d', Fr h₀ L h' m → News h₀ L h' ((kd, ok') :: (tl ++ news)) → (∀ p ∈ tl ++ news, p.1 ≠ kd) → (∀ q ∈ (kd, ok) :: news, ∀ p ∈ tl, q.1 < p.1) → ok'.IsDictOf (PySem.strKind PG w) kk' → Known (tl ++ rest) U R ch kk' → (D, tupO vs) ∈ tl ++ rest → KIn (tl ++ rest) vs (dl R ch name) → Q (.ref D) { s with heap := h', toks := tk', drawn := d' }) :
    wpAny (model PG w) (ktrTop dp un gd cn cs L a ccd cl outer) (call (.ref 159) [.ref c, .str name t]) Q E s := by
  have hK0 : Known news U R ch kk := fun n v hv =>
    let ⟨h1, D, vs, h2, h3, h4⟩ := hK n v hv
    ⟨h1, D, vs, h2, hr1 _ h3, h4.mono hr1⟩
  have hs2 : ∀ (tl : List (Addr × Obj)) (a : Addr) (vs : List Value), (a, tupO vs) ∈ tl ++ news → (a, tupO vs) ∈ tl ++ rest := fun tl a vs h =>
    (List.mem_append.mp h).elim (fun h => List.mem_append_left _ h) fun h => List.mem_append_right _ (hr2 a vs h)
  by_cases hs : sup name = []
  · obtain ⟨i, hi6, hie, _⟩ := W.base name hn hs
    refine sig_base_ B F X T hk (.tail _ hx) (.tail _ hdx) (.tail _ he) hoe hes (.tail _ hc) (.tail _ hdc) hec (W.mono fun p hp => .tail _ hp) N (by omega) (by omega) hn hs fun D a1 t1 h' tk' F1 N1 l1 => ?_
    have hl1 : ∀ q ∈ (kd, ok) :: news, ∀ p ∈ [(D, tupO [.ref a1]), (a1, tupO [.str name t1])], q.1 < p.1 := fun q hq p hp => by
      rcases List.mem_cons.mp hp with rfl | hp
      · exact (l1 q hq).1
      · rw [List.mem_singleton.mp hp]; exact (l1 q hq).2
    have e : dl R ch name = [i] := by rw [hie]; exact dl_base hi6 (W.Rb i hi6)
    refine ret D [.ref a1] [(D, tupO [.ref a1]), (a1, tupO [.str name t1])] ok kk h' tk' s.drawn F1 (cb_drop N1 fun p hp => ?_) (fun p hp => ?_) hl1 hok (fun n v hv => ?_) (.head _) ?_
    · rcases List.mem_cons.mp hp with rfl | hp
      · exact .tail _ (.tail _ (.head _))
      · rcases List.mem_cons.mp hp with rfl | hp
        · exact .head _
        · rcases List.mem_cons.mp hp with rfl | hp
          · exact .tail _ (.head _)
          · exact .tail _ (.tail _ (.tail _ hp))
    · rcases List.mem_append.mp hp with hp | hp
      · exact Nat.ne_of_gt (hl1 _ (.head _) p hp)
      · exact hkd p hp
    · obtain ⟨h1, D', vs', h2, h3, h4⟩ := hK n v hv
      exact ⟨h1, D', vs', h2, List.mem_append_right _ h3, h4.mono fun p hp => List.mem_append_right _ hp⟩
    · rw [e]
      rw [hie]
      exact .cons (.tail _ (.head _)) .nil
  · refine sig_sub_ B F X T hk hx hdx he hoe hes hc hdc hec W N hkd hok hK0 lo hd hu hn hs fun D vs tl ok' kk' h' tk' d' F1 N1 n1 l1 ho' hK' hm hk' => ?_
    refine ret D vs tl ok' kk' h' tk' d' F1 N1 n1 l1 ho' (fun n v hv => ?_) (hs2 tl _ _ hm) (kin_sub (hs2 tl) hk')
    obtain ⟨h1, D', vs', h2, h3, h4⟩ := hK' n v hv
    exact ⟨h1, D', vs', h2, hs2 tl _ _ h3, kin_sub (hs2 tl) h4⟩
end

theorem two_front {w : World} {h₀ h : Heap} {L : Addr} {led : List (Addr × Obj)} (N : News h₀ L h led) {jg c : Addr} {oj q : Obj} {kvs : List (Str × Value)} {v : Option Value} (hj : (jg, oj) ∈ led) (hc : (c, q) ∈ led) (hd : q.data = .cell v) (hoj : oj.IsDictOf (PySem.strKind PG w) kvs) :
    ∃ Z, News h₀ L h ((jg, oj) :: (c, q) :: Z) ∧ jg ≠ c ∧ (∀ p ∈ Z, p.1 ≠ c) ∧ (∀ p ∈ Z, p.1 ≠ jg) ∧ (∀ a vs, (a, tupO vs) ∈ led → (a, tupO vs) ∈ Z) ∧ (∀ a vs k, (a, PySem.W.listOf vs k) ∈ led → (a, PySem.W.listOf vs k) ∈ Z) ∧ ∀ p ∈ led, p.1 ≠ c → p.1 ≠ jg → p ∈ Z := by
  have hne : jg ≠ c := N.twoPlaces hj hc fun e => by
    obtain ⟨es, ep, _, h, _⟩ := hoj
    dsimp only at e
    rw [e, hd] at h; cases h
  have hjc : (jg, oj) ∈ offA c led := offA_in hj hne
  have N1 : News h₀ L h (offA c led) := cb_drop N fun p hp => offA_sub hp
  refine ⟨offA jg (offA c led), cb_drop N fun p hp => ?_, hne, fun p hp => offA_ne p (offA_sub hp), offA_ne, fun a vs hm => off_tup N1 hjc (dict_notup hoj) (off_tup N hc (cell_notup hd) hm), fun a vs k hm => off_lst N1 hjc (dict_nolst hoj) (off_lst N hc (cell_nolst hd) hm), fun p hp h1 h2 => offA_in (offA_in hp h1) h2⟩
  rcases List.mem_cons.mp hp with rfl | hp
  · exact hj
  · rcases List.mem_cons.mp hp with rfl | hp
    · exact hc
    · exact offA_sub (offA_sub hp)
theorem g_led {h₀ h : Heap} {L : Addr} {a q : Addr × Obj} {Z : List (Addr × Obj)} (N : News h₀ L h (a :: q :: Z)) : ∃ G, G = q :: Z ∧ News h₀ L h (a :: G) := ⟨_, rfl, N⟩
theorem off1 (L : Nat) : L + 1 ≠ L + 1 + 1 + 1 + 1 := by omega
theorem off2 (L : Nat) : L + 1 + 1 ≠ L + 1 + 1 + 1 + 1 := by omega
theorem off3 (L : Nat) : L + 1 + 1 + 1 ≠ L + 1 + 1 + 1 + 1 := by omega
theorem g_led2 {h₀ h : Heap} {L : Addr} {a b : Addr × Obj} {Z : List (Addr × Obj)} (N : News h₀ L h (a :: b :: Z)) : ∃ G, G = Z ∧ News h₀ L h (a :: b :: G) := ⟨_, rfl, N⟩
theorem lg_ForM {prog : Program} {w : World} {A : Around} {E : Value → Shared → Prop} {s : Shared} {env : Env} {h₀ : Heap} {m : Str → Option Value} (kp : Bool) {target iter : PySem.Expr} {body : List Stmt} {pos : Pos} {Q : Flow → Shared → Prop} (_F : Fr h₀ env.locals s.heap m)
    (h : wpAny (model prog w) A (eval iter env) (fun xv s₁ => wpAny (model prog w) A (pyIter xv) (fun it s₂ => LoAt kp NoTup prog w A h₀ env target body Q it s₂) E s₁) E s)
    (hs : ∀ x, foldedSetIterable iter env x = pure x) :
    wpAny (model prog w) A (exec (.For target iter body [] pos) env) Q E s := lo_For h hs
theorem LfEnd.any {h₀ : Heap} {L : Addr} {Jn : (Str → Option Value) → List (Addr × Obj) → Prop} {own nx' news' : List (Addr × Obj)} {s₁ : Shared} {h' : Heap} {tk : Nat} {dr : Drawn} {m' : Str → Option Value} (F : Fr h₀ L h' m') (N : News h₀ L h' news') (hj : Jn m' nx') (ha : OwnOff own (nx'.map (·.1))) (hn : ∀ p ∈ nx', p ∈ news') (ho : ∀ p ∈ own, p ∈ news') :
    LfEnd false h₀ L Jn own s₁ .next { s₁ with heap := h', toks := tk, drawn := dr } := ⟨h', tk, dr, nx', news', m', .inl rfl, rfl, (fun h => nomatch h), F, N, hn, ho, ha, hj⟩
theorem g_led1 {h₀ h : Heap} {L : Addr} {a : Addr × Obj} {Z : List (Addr × Obj)} (N : News h₀ L h (a :: Z)) : ∃ G, G = Z ∧ News h₀ L h (a :: G) := ⟨_, rfl, N⟩
theorem Strs.places {vs : List Value} {xs : List Str} (h : Strs vs xs) : ∀ js : List Nat, Strs (js.filterMap (vs[·]?)) (js.filterMap (xs[·]?))
  | [] => .nil
  | j :: js => by
    have ih := Strs.places h js
    cases hv : vs[j]? with
    | some v =>
      obtain ⟨x, t, rfl, hx⟩ := h.at hv
      simp only [List.filterMap_cons, hv, hx]
      exact .cons x t ih
    | none =>
      have hx : xs[j]? = none := by rw [List.getElem?_eq_none_iff] at hv ⊢; rw [← h.len]; exact hv
      simp only [List.filterMap_cons, hv, hx]
      exact ih
theorem places_mem {xs : List Str} {js : List Nat} {x : Str} (h : x ∈ js.filterMap (xs[·]?)) : x ∈ xs := by
  obtain ⟨j, _, hj⟩ := List.mem_filterMap.mp h
  exact List.mem_of_getElem? hj

theorem ints40 {ws : List Value} {ns : List Int} (h : IntsAre ws (List.take 40 ns)) : ∃ ns', IntsAre ws ns' ∧ ns'.length ≤ 40 := ⟨_, h, List.length_take_le 40 ns⟩
theorem bound_snoc {ps : List Int} {i : Nat} {v : Int} (hl : ps.length = i) (hb : ∀ (j : Nat) (x : Int), ps[j]? = some x → -1 ≤ x ∧ x < j) (h0 : -1 ≤ v) (h1 : v < i) : ∀ (j : Nat) (x : Int), (ps ++ [v])[j]? = some x → -1 ≤ x ∧ x < j := fun j x hx => by
  by_cases hj : j < ps.length
  · rw [List.getElem?_append_left hj] at hx
    exact hb j x hx
  · rw [List.getElem?_append_right (by omega)] at hx
    obtain ⟨h, e⟩ := List.getElem?_eq_some_iff.mp hx
    simp at h
    have : j = i := by omega
    subst this
    simp at e
    rw [← e]
    exact ⟨h0, h1⟩
theorem parts_led {h₀ h : Heap} {L : Addr} {D jg jc c4 c3 c2 c1 : Addr} {o1 oj oc q4 q3 q2 q1 : Obj} (N : News h₀ L h [(D, o1), (jg, oj), (jc, oc), (c4, q4), (c3, q3), (c2, q2), (c1, q1)]) : ∃ R, R = [(D, o1), (jc, oc), (c4, q4), (c3, q3), (c2, q2), (c1, q1)] ∧ News h₀ L h ((jg, oj) :: R) ∧ (D, o1) ∈ R ∧ (jc, oc) ∈ R ∧ (c4, q4) ∈ R ∧ (c3, q3) ∈ R ∧ (c2, q2) ∈ R ∧ (c1, q1) ∈ R :=
  ⟨_, rfl, cb_drop N (sub_cons mem1 (sub_cons (.head _) fun _ hp => .tail _ (.tail _ hp))), .head _, mem1, mem2, mem3, mem4, mem5⟩
theorem jug_led {h₀ h : Heap} {L : Addr} {D D' d' : Nat} {c1 c2 c3 c4 : Nat} {o1 o2 o' w0 w1 w2 w3 : Obj} (N : News h₀ L h [(D, o1), (D', o2), (d', o'), (c4, w3), (c3, w2), (c2, w1), (c1, w0)]) : ∃ (D0 d0 : Nat) (od q3 q2 q1 q0 : Obj), D0 = D ∧ d0 = d' ∧ od = o' ∧ q3 = w3 ∧ q2 = w2 ∧ q1 = w1 ∧ q0 = w0 ∧ News h₀ L h [(d0, od), (D0, o1), (c4, q3), (c3, q2), (c2, q1), (c1, q0)] :=
  ⟨_, _, _, _, _, _, _, rfl, rfl, rfl, rfl, rfl, rfl, rfl, cb_drop N (sub_cons mem2 (sub_cons (.head _) fun _ hp => .tail _ (.tail _ (.tail _ hp))))⟩
section
theorem word41 : True := by
  k_with "subscriptTail" => (k_here; (with_reducible show wpAny _ _ (subscriptTail _ _ (Value.ref _) (Value.int _ _)) _ _ _); refine hold ?_)
  k_with "call ref" => (k_here; (with_reducible show wpAny _ _ (call (Value.ref 406) _) _ _ _); refine hold ?_)
  k_with "call ref" => (k_here; (with_reducible show wpAny _ _ (call (Value.ref 413) _) _ _ _); refine hold ?_)
  k_with "call ref" => (k_here; (with_reducible show wpAny _ _ (call (Value.ref 420) _) _ _ _); refine hold ?_)
  k_with "call ref" => (k_here; (with_reducible show wpAny _ _ (call (Value.ref 425) _) _ _ _); refine hold ?_)
  k_with "call ref" => (k_here; (with_reducible show wpAny _ _ (call (Value.ref 394) _) _ _ _); refine hold ?_)
  k_with "call ref" => (k_here; (with_reducible show wpAny _ _ (call (Value.ref 159) _) _ _ _); refine hold ?_)
  k_with "call ref" => (k_here; (with_reducible show wpAny _ _ (call (Value.ref 223) _) _ _ _); refine hold ?_)
  k_with "compareOp NotEq ref ref" => (k_here; (with_reducible show wpAny _ _ (compareOp CmpOp.NotEq (Value.ref _) (Value.ref _)) _ _ _); refine hold ?_)
  k_with "subscriptTail Name Slice ref ref" => (k_here; (with_reducible show wpAny _ _ (subscriptTail _ (PySem.Expr.Slice _ _ (some _) _) (Value.ref _) (Value.ref _)) _ _ _); k_dflt (refine' kmk_slice3_lit ?Fw70 ?Nw70 ?lw70 ?pw70 ?qw70 ?kw70 ?ow70 ?ew70 ?_ ?sw70 ?tw70 ?zw70; (case Fw70 => k_asm); (case Nw70 => k_asm); (case lw70 => exact isList_M (by k_asm) (by k_mem)); (case pw70 => kmk_part); (case qw70 => kmk_part); (case kw70 => kmk_part); (case ow70 => decide); (case ew70 => exact rfl); (case sw70 => with_unfolding_all rfl); (case tw70 => kmk_pure); (case zw70 => (rw [List.size_toArray, sizeLine_eq]; omega))); intro Dz9 hz9 Fz9 Nz9 l1z9)
  trivial
theorem law_walk : PySem.Challenge.rw_rr0093_01.Holds := by
  refine hd ?_
  k_go0
  all_goals try k_fold
  k_steps
  rotate_left
  all_goals try exact default
  unfold Hold
  rename Fr _ _ _ _ => Fx
  refine lc_eval Fx (by decide) (by with_unfolding_all rfl) (by decide) (by rfl) (by decide) (by rfl) ?_ (by intro _; rfl)
  k_steps
  rename IntsAre _ (List.take 40 _) => hI
  rename Fr _ _ _ _ => Fx
  rename News _ _ _ _ => Nx
  obtain ⟨ns, hI, hl40⟩ := ints40 hI
  have hiv := hI.length
  refine lc_list_fix (J := fun i ys => ∃ cs : List Int, IntsAre ys cs ∧ ys.length = i ∧ ∀ c ∈ cs, 0 ≤ c ∧ c < 1000003) (by with_unfolding_all rfl) Fx Nx (by omega) (.head _) ⟨[], .nil, rfl, (fun _ h => nomatch h)⟩ (fun i ys q => by obtain ⟨_, _, h, _⟩ := q; omega) ?_ ?_
  · intro i v ys own C m₂ h tk E' hi hv hJ hx2 FL FC kC N'
    obtain ⟨cs, hcs, hl, hcb⟩ := hJ
    obtain ⟨n, hn⟩ : ∃ n, ns[i]? = some n := ⟨_, List.getElem?_eq_getElem (by rw [← hiv]; exact hi)⟩
    obtain ⟨tn, hn2⟩ := hI.get i n hn
    rw [hv] at hn2
    obtain rfl := Option.some.inj hn2
    clear Fx Nx
    unfold TestF
    dsimp only
    k_steps
    exact KEnd.fix ⟨cs ++ [n.fmod 1000003], ints_snoc hcs _ _, by simp [hl], fun c hc => (List.mem_append.mp hc).elim (hcb c) fun hc => by rw [List.mem_singleton.mp hc]; exact ⟨Int.fmod_nonneg_of_pos _ (by decide), Int.fmod_lt_of_pos _ (by decide)⟩⟩ (by k_asm) (by k_asm)
  · intro ys D k h tk hJ FL N' hD
    obtain ⟨cs, hcs, hl, hcb⟩ := hJ
    clear Fx Nx
    k_steps
    rename News _ _ _ _ => N5
    rename Obj.IsDictOf _ _ [] => hod
    obtain ⟨jc, jg, ojg, q3, q2, q1, q0, e1, e2, e3, e4, e5, e6, e7, N6⟩ := jug_led N5
    subst e1 e2 e3 e4 e5 e6 e7
    clear N5
    have hjne : (jc : Nat) ≠ jg := fun e => hD _ (.tail _ (.head _)) e.symm
    rename (_ < jg ∧ _) => ljg
    have hj4 : (jc : Nat) ≠ _ + 1 + 1 + 1 + 1 := fun e => hD _ (.tail _ (.tail _ (.head _))) e.symm
    have hj3 : (jc : Nat) ≠ _ + 1 + 1 + 1 := fun e => hD _ (.tail _ (.tail _ (.tail _ (.head _)))) e.symm
    have hj2 : (jc : Nat) ≠ _ + 1 + 1 := fun e => hD _ (.tail _ (.tail _ (.tail _ (.tail _ (.head _))))) e.symm
    have hj1 : (jc : Nat) ≠ _ + 1 := fun e => hD _ (.tail _ (.tail _ (.tail _ (.tail _ (.tail _ (.head _)))))) e.symm
    rename Fr _ _ _ _ => F5
    refine kdn_made_str F5 N6 (UpdF.head (List.forall_mem_cons.mpr ⟨hjne, List.forall_mem_cons.mpr ⟨Nat.ne_of_lt ljg.1, List.forall_mem_cons.mpr ⟨Nat.ne_of_lt ljg.2.1, List.forall_mem_cons.mpr ⟨Nat.ne_of_lt ljg.2.2.1, List.forall_mem_cons.mpr ⟨Nat.ne_of_lt ljg.2.2.2, fun _ h => nomatch h⟩⟩⟩⟩⟩)) hod rfl (of_decide_eq_true (by first | rfl | kernel_rfl!)) fun h6 oj F6 N7 hoj => ?_
    clear F5 N6 hod hD
    obtain ⟨tk0, hoj⟩ : ∃ t, oj.IsDictOf (PySem.strKind PG _) [(Str.ofString "cells", .ref jc), (Str.ofString "spot", .int 0 t)] := ⟨_, hoj⟩
    k_steps
    unfold Hold
    have hjA : ∀ o5 o4 o3 o2 o1 : Obj, ∀ p ∈ [(jc, o5), (_ + 1 + 1 + 1 + 1, o4), (_ + 1 + 1 + 1, o3), (_ + 1 + 1, o2), (_ + 1, o1)], p.1 ≠ jg := fun o5 o4 o3 o2 o1 => List.forall_mem_cons.mpr ⟨hjne, List.forall_mem_cons.mpr ⟨Nat.ne_of_lt ljg.1, List.forall_mem_cons.mpr ⟨Nat.ne_of_lt ljg.2.1, List.forall_mem_cons.mpr ⟨Nat.ne_of_lt ljg.2.2.1, List.forall_mem_cons.mpr ⟨Nat.ne_of_lt ljg.2.2.2, fun _ h => nomatch h⟩⟩⟩⟩⟩
    rename (jg == sysModules) = false => lojg
    have hiy := hcs.length
    rename News _ _ _ _ => N8
    rename Fr _ _ _ _ => F8
    k_dflt (refine' tip_ ?B F8 ?X ?T ?hk N8 (hjA _ _ _ _ _) lojg hoj (.head _) hcs (by omega) hcb (by decide) (by decide) (by decide) (by decide) ?hd ?hu ?_)
    case B => k_asm
    case X => k_asm
    case T => k_asm
    case hk => exact rfl
    case hd => ktr_room
    case hu => ktr_units
    intro r1 t1 oj1 tk1 h71 tk17 r10 r11 F1 N1 hoj1
    clear F8 N8
    k_steps
    unfold Hold
    rename News _ _ _ _ => N8
    rename Fr _ _ _ _ => F8
    k_dflt (refine' tip_ ?B F8 ?X ?T ?hk N8 (hjA _ _ _ _ _) lojg hoj1 (.head _) hcs (by omega) hcb (by decide) (by decide) (by decide) (by decide) ?hd ?hu ?_)
    case B => k_asm
    case X => k_asm
    case T => k_asm
    case hk => exact rfl
    case hd => ktr_room
    case hu => ktr_units
    intro r2 t2 oj2 tk2 h72 tk27 r20 r21 F2 N2 hoj2
    clear F8 N8
    k_steps
    unfold Hold
    rename News _ _ _ _ => N8
    rename Fr _ _ _ _ => F8
    k_dflt (refine' tip_ ?B F8 ?X ?T ?hk N8 (hjA _ _ _ _ _) lojg hoj2 (.head _) hcs (by omega) hcb (by decide) (by decide) (by decide) (by decide) ?hd ?hu ?_)
    case B => k_asm
    case X => k_asm
    case T => k_asm
    case hk => exact rfl
    case hd => ktr_room
    case hu => ktr_units
    intro r3 t3 oj3 tk3 h73 tk37 r30 r31 F3 N3 hoj3
    clear F8 N8
    k_steps
    unfold Hold
    rename News _ _ _ _ => N8
    have N9 := cb_drop N8 (fun p hp => List.Mem.tail _ hp)
    clear N8
    rename Fr _ _ _ _ => Fx
    refine lc_assign Fx (by decide) (by with_unfolding_all rfl) (by with_unfolding_all rfl) (by decide) (by rfl) (by decide) (by rfl) (by rfl) (by rfl) ?_ (by intro _; rfl)
    k_steps
    rename Fr _ _ _ _ => Fx
    rename News _ _ _ _ => Nx
    refine lc_range_fix (n := 6) (J := fun i ys => ∃ ps : List Int, IntsAre ys ps ∧ ps.length = i ∧ ∀ (j : Nat) (x : Int), ps[j]? = some x → -1 ≤ x ∧ x < j) (by with_unfolding_all rfl) (by assumption) (by rfl) Fx Nx (by decide) ⟨[], .nil, rfl, fun j x h => by simp at h⟩ (fun i ys q => by obtain ⟨ps, h1, h2, _⟩ := q; rw [h1.length]; omega) ?_ ?_
    · rintro i2 t9 ys2 own2 C m₂ h9 tk9 E2 hi2 ⟨ps, hps, hpl, hpb⟩ hx2 FL FC kC N2
      clear Fx Nx
      unfold TestF
      dsimp only
      k_steps
      refine kup_newTuple (s := { heap := _, gens := _, drawn := _, toks := _, os := _ }) FL N2 (fun D9 h10 F10 N10 l10 => ?_) (by rw [sizeLine_eq]; simp)
      have FC3 := kC _ _ N10 (fun p hp => .tail _ (List.mem_append_right _ hp)) F10.keep
      clear FC
      k_steps
      unfold Hold
      refine item6 (fun b => 1 ≤ b ∧ b ≤ 120) N10 (by omega) (by omega) (by decide) (by decide) (by decide) (by decide) (by decide) (by decide) (fun b tb hb => ?_) (by with_unfolding_all rfl)
      obtain ⟨hb1, hb2⟩ := hb
      have hi2z : ((i2 : Nat) : Int) + 1 ≠ 0 := by omega
      have hv0 := Int.fmod_nonneg_of_pos (r2.fdiv b) (b := (i2 : Int) + 1) (by omega)
      have hv1 := Int.fmod_lt_of_pos (r2.fdiv b) (b := (i2 : Int) + 1) (by omega)
      k_steps
      exact KEnd.fix ⟨ps ++ [(r2.fdiv b).fmod ((i2 : Int) + 1) - 1], ints_snoc hps _ _, by simp [hpl], bound_snoc hpl hpb (by omega) (by omega)⟩ (by k_asm) (by refine' cb_drop ?n ?s; (case n => k_asm); (case s => intro p hp; exact .tail _ hp))
    · rintro ys2 D2 k2 h9 tk9 ⟨ps, hps, hpl, hpb⟩ FL N2 hD
      clear Fx Nx
      k_steps
      unfold Hold
      obtain ⟨mn, hmn, hmn1, hmn2⟩ : ∃ n : Nat, 12 + r1 = (n : Int) ∧ 12 ≤ n ∧ n ≤ 20 := ⟨(12 + r1).toNat, by omega, by omega, by omega⟩
      rename Fr _ _ _ _ => Fx
      refine lc_assign Fx (by decide) (by with_unfolding_all rfl) (by with_unfolding_all rfl) (by decide) (by rfl) (by decide) (by rfl) (by rfl) (by rfl) ?_ (by intro _; rfl)
      k_steps
      rename Fr _ _ _ _ => Fx
      rename News _ _ _ _ => Nx
      obtain ⟨R1, hR1, Ny, hm1, hm2, hm3, hm4, hm5, hm6⟩ := parts_led Nx
      clear Nx
      have hneR : ∀ p ∈ R1, p.1 ≠ jg := fun p hp => by
        rw [hR1] at hp
        rcases List.mem_cons.mp hp with rfl | hp
        · exact fun e => hD _ (.head _) e.symm
        · exact hjA _ _ _ _ _ p hp
      refine lc_range (n := mn) (J := fun i ys nx => ∃ tl oj tkj os, nx = (jg, oj) :: (tl ++ R1) ∧ oj.IsDictOf (PySem.strKind PG _) [(Str.ofString "cells", .ref jc), (Str.ofString "spot", .int (3 + (i : Int)) tkj)] ∧ Prts tl ys os ∧ os.length = i ∧ ys.length ≤ i ∧ (∀ p ∈ tl, jg < p.1 ∧ ∀ q ∈ R1, q.1 < p.1) ∧ (∀ (k : Nat) (xs : List Str), os[k]? = some xs → 1 ≤ xs.length ∧ xs.length ≤ 3 ∧ ∀ o ∈ xs, NmOk k o)) (by with_unfolding_all rfl) (by assumption) hmn Fx Ny (by omega) ⟨[], oj3, _, [], rfl, hoj3, .nil, rfl, Nat.le_refl _, (fun _ h => nomatch h), fun k xs h => by simp at h⟩ (fun i ys q => by intro h; obtain ⟨_, _, _, _, _, _, _, _, h, _⟩ := h; exact h) ?_ ?_
      · rintro i3 v3 ys3 nx own3 C m3 h3 tk3 E3 hi3 ⟨t3, rfl⟩ ⟨tl, oj, tkj, os, rfl, hoj, hP, hol, hyl, hlt, hos⟩ off3 hx3 FL3 FC3 kC3 N3
        clear Fx Ny
        simp only [List.cons_append] at N3
        have hneo : ∀ p ∈ (tl ++ R1) ++ own3, p.1 ≠ jg := ne_app (ne_app (fun p hp => Nat.ne_of_gt (hlt p hp).1) hneR) (off_of off3 (.head _))
        unfold LcTest
        dsimp only
        refine LcGo.yes rfl ?_
        k_steps
        unfold Hold
        k_dflt (refine' tip_ ?B FL3 ?X ?T ?hk N3 hneo lojg hoj (List.mem_append_left _ (List.mem_append_right _ hm2)) hcs (by omega) hcb (by omega) (by omega) (by decide) (by decide) ?hd ?hu ?_)
        case B => k_asm
        case X => k_asm
        case T => k_asm
        case hk => exact rfl
        case hd => ktr_room
        case hu => ktr_units
        intro r9 t9 oj9 tkk h9 tk9 r90 r91 F9 N9 hoj9
        have FC4 := kC3 _ _ N9 (fun p hp => .tail _ (List.mem_append_right _ hp)) F9.keep
        clear FC3 FL3 N3
        k_steps
        unfold Hold
        k_dflt (refine' over_ ?B F9 ?X N9 ?T ?hk r90 r91 (by omega) ?hd ?hu ?_)
        case B => k_asm
        case X => k_asm
        case T => k_asm
        case hk => exact rfl
        case hd => ktr_room
        case hu => ktr_units
        intro D5 vs5 xs5 h5 tk5 F5 N5 lt5 hvs5 hx51 hx52 hxs5
        clear FC4 F9 N9
        k_steps
        have hcast : 3 + ((i3 : Nat) : Int) + 1 = 3 + ((i3 + 1 : Nat) : Int) := by omega
        rw [hcast] at hoj9
        refine LcEnd.intro F5 N5 ⟨(D5, tupO vs5) :: tl, oj9, tkk, os ++ [xs5], rfl, hoj9, ?_, by simp [hol], by simp; omega, ?_, ?_⟩ (fun p hp b hb => ?_) (fun p hp => ?_) (fun p hp => .tail _ (.tail _ (List.mem_append_right _ hp)))
        · exact (hP.mono fun p hp => .tail _ hp).snoc (.head _) hvs5
        · intro p hp
          rcases List.mem_cons.mp hp with rfl | hp
          · exact ⟨lt5 _ (.head _), fun q hq => lt5 q (.tail _ (List.mem_append_left _ (List.mem_append_right _ hq)))⟩
          · exact hlt p hp
        · intro k xs hk
          by_cases hkl : k < os.length
          · rw [List.getElem?_append_left hkl] at hk
            exact hos k xs hk
          · rw [List.getElem?_append_right (by omega)] at hk
            obtain ⟨hq, e⟩ := List.getElem?_eq_some_iff.mp hk
            simp at hq
            have hki : k = i3 := by omega
            subst hki
            simp at e
            rw [← e]
            exact ⟨hx51, hx52, hxs5⟩
        · obtain ⟨q, hq, rfl⟩ := List.mem_map.mp hb
          rcases List.mem_cons.mp hq with rfl | hq
          · exact off3 p hp _ (.head _)
          · rcases List.mem_cons.mp hq with rfl | hq
            · exact Nat.ne_of_lt (lt5 p (.tail _ (List.mem_append_right _ hp)))
            · exact off3 p hp _ (List.mem_map_of_mem (.tail _ hq))
        · rcases List.mem_cons.mp hp with rfl | hp
          · exact .tail _ (.head _)
          · rcases List.mem_cons.mp hp with rfl | hp
            · exact .head _
            · exact .tail _ (.tail _ (List.mem_append_left _ hp))
      · rintro ys3 nx D3 k3 h3 tk3 ⟨tl, oj, tkj, os, rfl, hoj, hP, hol, hyl, hlt, hos⟩ FL3 N3 hD3
        clear Fx Ny
        k_steps
        unfold Hold
        have hP0 : POk ps := ⟨hpl, hpb⟩
        have hO : OsOk os := ⟨by omega, hos⟩
        k_dflt (refine' due_ ?B FL3 ?X N3 ?T ?hk ?hpl hps hpl hpb (.head _) (hP.mono ?sub) (by omega) (btO os) (abO ps) (btO_b os) (abO_eq hP0) (abO_lt64 hP0) (btO_lt os) (kept_some hP0 hO) (btO_s hO) (fun k xs h => (hos k xs h).2.2) ?hd ?hu ?_)
        case B => k_asm
        case X => k_asm
        case T => k_asm
        case hk => exact rfl
        case hpl => exact .tail _ (.tail _ (List.mem_append_right _ hm1))
        case sub => exact fun p hp => .tail _ (.tail _ (List.mem_append_left _ hp))
        case hd => ktr_room
        case hu => ktr_units
        intro Dd od kd tl4 h4 tk4 F4 N4 ld1 ld2 ld3 hod4 lod4 hDue
        clear FL3 N3
        k_steps
        unfold Hold
        rename Fr _ _ _ _ => Fx
        rename News _ _ _ _ => Nx
        have hmm1 : ∀ p ∈ R1, p ∈ tl4 ++ (D3, PySem.W.listOf (List.toArray ys3) k3) :: (jg, oj) :: (tl ++ R1) := fun p hp => List.mem_append_right _ (.tail _ (.tail _ (List.mem_append_right _ hp)))
        have hc1 := hmm1 _ hm6
        have hc2 := hmm1 _ hm5
        have hc3 := hmm1 _ hm4
        have hc4 := hmm1 _ hm3
        refine lc_eval Fx (by decide) (by with_unfolding_all rfl) (by decide) (by rfl) (by decide) (by rfl) ?_ (by intro _; rfl)
        k_steps
        rename Fr _ _ _ _ => Fx
        rename News _ _ _ _ => Nx
        refine lc_range_fix (n := mn) (J := fun i ys => Strs ys ((List.range i).map fun i => sn (mn - 1 - i))) (by with_unfolding_all rfl) (by assumption) hmn Fx Nx (by omega) .nil (fun i ys q => by rw [q.len]; simp) ?_ ?_
        · intro i5 t5 ys5 own5 C5 m5 h5 tk5 E5 hi5 hJ5 hx5 FL5 FC5 kC5 N5
          clear Fx Nx
          unfold TestF
          dsimp only
          have hv5 : 12 + r1 - 1 - (i5 : Int) = ((mn - 1 - i5 : Nat) : Int) := by omega
          k_steps
          rw [hv5]
          refine KEnd.fix ?_ (by k_asm) (by k_asm)
          rw [List.range_succ, List.map_append]
          exact hJ5.snoc (sn (mn - 1 - i5)) _
        · intro ys5 D5 k5 h5 tk5 hJ5 FL5 N5 hD5
          clear Fx Nx
          k_steps
          rename Frag.In _ _ => hXX
          refine list_copyKT FL5 N5 (bases_tup hXX FL5) (fun D6 c6 h6 F6 N6 l6 => ?_) (by decide)
          have hy5 : ys5.length = mn := by rw [hJ5.len, List.length_map, List.length_range]
          have hb6 : basesV.length = 6 := rfl
          k_steps
          rename News _ _ _ _ => Nx
          rename Fr _ _ _ _ => Fx
          rename (∀ q : Addr × Obj, q ∈ (D6, _) :: _ → q.1 < _) => l7
          obtain ⟨D7, hD7⟩ := nm1 Nx
          subst hD7
          rename q3.data = _ => hq3
          have hnm : Strs (ys5 ++ basesV) (nmL mn) := hJ5.append bases_strs
          obtain ⟨Z, Nz, hz1, hz2, hz3, hz4, hz5, hz6⟩ := two_front Nx (.tail _ (.tail _ (.tail _ (.tail _ (List.mem_append_right _ (.tail _ (.head _))))))) (.tail _ (.tail _ (.tail _ (.tail _ hc4)))) hq3 hoj
          have z1 := hz6 _ (.tail _ (.tail _ (.tail _ (.tail _ (hmm1 _ hm6))))) (off1 _) (hneR _ hm6)
          have z2 := hz6 _ (.tail _ (.tail _ (.tail _ (.tail _ (hmm1 _ hm5))))) (off2 _) (hneR _ hm5)
          have z3 := hz6 _ (.tail _ (.tail _ (.tail _ (.tail _ (hmm1 _ hm4))))) (off3 _) (hneR _ hm4)
          have zp := hz5 _ _ _ (.tail _ (.tail _ (.tail _ (.tail _ (hmm1 _ hm1)))))
          have zc := hz5 _ _ _ (.tail _ (.tail _ (.tail _ (.tail _ (hmm1 _ hm2)))))
          have zq := hz5 D3 _ _ (.tail _ (.tail _ (.tail _ (.tail _ (List.mem_append_right _ (.head _))))))
          have zn := hz5 D7 _ _ (.head _)
          have hdj : jg < Dd := ld1 (jg, oj) (.tail _ (.head _))
          have hdc : _ < Dd := ld1 _ (.tail _ (.tail _ (List.mem_append_right _ hm3)))
          have zd := hz6 (Dd, od) (.tail _ (.tail _ (.tail _ (.head _)))) (Nat.ne_of_gt hdc) (Nat.ne_of_gt hdj)
          have zP : Prts Z ys3 os := (hP.mono fun p hp => .tail _ (.tail _ (.tail _ (.tail _ (List.mem_append_right _ (.tail _ (.tail _ (List.mem_append_left _ hp)))))))).sub hz4
          have zD : DueAre Z (kp (btO os) (abO ps)) kd (nms os.length) := hDue.sub fun a vs hm => hz4 a vs (.tail _ (.tail _ (.tail _ (.tail _ hm))))
          refine storeX_C Fx Nz (by rfl) (UpdF.tail hz1 (UpdF.head hz2)) hq3 fun h7 o7 F7 N7 d7 => ?_
          try dsimp only at N7
          obtain ⟨G, hG, N8⟩ := g_led N7
          clear N7
          have hGj : ∀ p ∈ G, p.1 ≠ jg := fun p hp => by
            rw [hG] at hp
            rcases List.mem_cons.mp hp with rfl | hp
            · exact hz1.symm
            · exact hz3 p hp
          have hZG : ∀ p ∈ Z, p ∈ G := fun p hp => by rw [hG]; exact .tail _ hp
          have g1 := hZG _ z1
          have g2 := hZG _ z2
          have g3 := hZG _ z3
          have g4 := (show _ ∈ G by rw [hG]; exact .head _)
          have gp := hZG _ zp
          have gc := hZG _ zc
          have gq := hZG _ zq
          have gn := hZG _ zn
          have gd := hZG _ zd
          have gP := zP.mono hZG
          have gD := zD.mono hZG
          clear Nx Fx Nz hz1 hz2 hz3 hz4 hz5 hz6 z1 z2 z3 zp zc zq zn zd zP zD hZG l7
          clear hc1 hc2 hc3 hc4 hmm1 hm1 hm2 hm3 hm4 hm5 hm6 hneR hR1 hD5 l6 N6 F6 FL5 N5 ld1 ld2 ld3 hDue hlt hP hD3 hD hG
          obtain ⟨m7, hm7, F9⟩ : ∃ m7, MIs m7 [(Str.ofString "due", .ref Dd), (Str.ofString "parts", .ref D3), (Str.ofString "parents", .ref D2), (Str.ofString "way", .int r3 t3)] ∧ Fr _ _ h7 m7 := ⟨_, by tb_start, F7⟩
          clear F7
          have mm1 := hm7.one
          have mm2 := hm7.rest.one
          have mm3 := hm7.rest.rest.one
          have mm4 := hm7.rest.rest.rest.one
          clear hm7
          k_steps
          unfold Hold
          rename Fr _ _ _ _ => Fx
          refine lc_assign Fx (by decide) (by with_unfolding_all rfl) (by with_unfolding_all rfl) (by decide) (by rfl) (by decide) (by rfl) (by rfl) (by rfl) ?_ (by intro _; rfl)
          k_steps
          unfold Hold
          rename Fr _ _ _ _ => F8
          rename News _ _ _ _ => N9
          k_dflt (refine' tip_ ?B F8 ?X ?T ?hk N9 hGj lojg hoj gc hcs (by omega) hcb (by omega) (by omega) (by decide) (by decide) ?hd ?hu ?_)
          case B => k_asm
          case X => k_asm
          case T => k_asm
          case hk => exact rfl
          case hd => ktr_room
          case hu => ktr_units
          intro rA tA ojA tkA hA tkA' rA0 rA1 FA NA hojA
          clear F8 N9 hoj
          k_steps
          obtain ⟨ln, hln, hln1, hln2⟩ : ∃ n : Nat, 3 + rA = (n : Int) ∧ 3 ≤ n ∧ n ≤ 5 := ⟨(3 + rA).toNat, by omega, by omega, by omega⟩
          rename Fr _ _ _ _ => Fx
          rename News _ _ _ _ => Nx
          have hlen6 : (ys5 ++ basesV).length = mn + 6 := by rw [List.length_append, hy5, hb6]
          refine lc_range (n := ln) (J := fun i ys nx => ∃ oj tkj as, nx = (jg, oj) :: G ∧ oj.IsDictOf (PySem.strKind PG _) [(Str.ofString "cells", .ref jc), (Str.ofString "spot", .int (3 + (mn : Int) + 1 + (i : Int)) tkj)] ∧ Strs ys as ∧ as.length = i ∧ ∀ a ∈ as, a ∈ nms mn) (by with_unfolding_all rfl) (by assumption) hln Fx Nx (by omega) ⟨ojA, tkA, [], rfl, by simpa using hojA, .nil, rfl, (fun _ h => nomatch h)⟩ (fun i ys nx q => by obtain ⟨_, _, as, _, _, h1, h2, _⟩ := q; rw [h1.len]; omega) ?_ ?_
          · rintro i3 v3 ys3' nx own3 C m3 h3' tk3' E3 hi3 ⟨t3', rfl⟩ ⟨ojB, tkB, as, rfl, hojB, has, hal, hau⟩ off3 hx3 FL3 FC3 kC3 N3
            clear Fx Nx
            simp only [List.cons_append] at N3
            have hneo : ∀ p ∈ G ++ own3, p.1 ≠ jg := ne_app hGj (off_of off3 (.head _))
            unfold LcTest
            dsimp only
            refine LcGo.yes rfl ?_
            k_steps
            unfold Hold
            rw [hlen6]
            k_dflt (refine' tip_ ?B FL3 ?X ?T ?hk N3 hneo lojg hojB (List.mem_append_left _ gc) hcs (by omega) hcb (by omega) (by omega) (by omega) (by omega) ?hd ?hu ?_)
            case B => k_asm
            case X => k_asm
            case T => k_asm
            case hk => exact rfl
            case hd => ktr_room
            case hu => ktr_units
            intro rB tB ojC tkC hB tkB' rB0 rB1 FB NB hojC
            have FC4 := kC3 _ _ NB (fun p hp => .tail _ (List.mem_append_right _ hp)) FB.keep
            clear FC3 FL3 N3
            obtain ⟨xB, txB, hxB, hxm⟩ := hnm.nth (i := rB.toNat) (by rw [nmL_len]; omega)
            k_steps
            unfold Hold
            refine item_list_M FB NB (.tail _ (List.mem_append_left _ gn)) rB0 (by omega) hxB ?_ (by with_unfolding_all rfl) (by intro _; with_unfolding_all rfl)
            have hcast : 3 + (mn : Int) + 1 + (i3 : Int) + 1 = 3 + (mn : Int) + 1 + ((i3 + 1 : Nat) : Int) := by omega
            rw [hcast] at hojC
            exact LcEnd.intro FB NB ⟨ojC, tkC, as ++ [xB], rfl, hojC, has.snoc xB txB, by simp [hal], fun a ha => by
              rcases List.mem_append.mp ha with ha | ha
              · exact hau a ha
              · rw [List.mem_singleton.mp ha]; exact nmL_mem hxm⟩ off3 (fun p hp => by
              rcases List.mem_cons.mp hp with rfl | hp
              · exact .head _
              · exact .tail _ (List.mem_append_left _ hp)) (fun p hp => .tail _ (List.mem_append_right _ hp))
          · rintro ys4 nx D8 k8 h8 tk8 ⟨ojB, tkB, as, rfl, hojB, has, hal, hau⟩ FL8 N8' hD8
            clear Fx Nx
            k_steps
            unfold Hold
            rename Fr _ _ _ _ => Fx
            rename News _ _ _ _ => Nx
            k_dflt (refine' items_ ?B Fx ?X Nx ?T ?hk ?hpl hps hpl hpb ?hql ?hqv (by omega) r30 r31 (parO ps) (supO os) (fun j x hx => parO_b ps j x (hP0.lt hx).1 hx) (supO_b os) (fun k hk => parO_s ps k (by omega)) (fun k xs h => supO_s hO k xs h) ?hd ?hu ?_)
            case B => k_asm
            case X => k_asm
            case T => k_asm
            case hk => exact rfl
            case hpl => exact .tail _ (.tail _ gp)
            case hql => exact .tail _ (.tail _ gq)
            case hqv => exact gP.mono fun p hp => .tail _ (.tail _ hp)
            case hd => ktr_room
            case hu => ktr_units
            intro D9 vs9 ns9 n9 tl9 h9' tk9' F9 N9' lt9 lt9b hI9 hp9
            clear Fx Nx
            k_steps
            unfold Hold
            have hI9' := hI9.mono (news' := (D9, PySem.W.listOf vs9.toArray n9) :: (tl9 ++ (D8, PySem.W.listOf ys4.toArray k8) :: (jg, ojB) :: G)) (fun p hp => .tail _ hp)
            have hmem9 : ∀ o ∈ ns9, o ∈ nms os.length := fun o ho => hp9.mem_iff.mp ho
            rename Fr _ _ _ _ => Fx
            rename News _ _ _ _ => Nx
            k_dflt (refine' sigs_ ?B Fx ?X Nx ?T ?hk (.head _) (parO ps) (supO os) (rkO os.length) hI9' ?hnl ?hnd ?hd ?hu (fun o ho => sup_len hO o (hmem9 o ho)) (fun o ho => nms_strOk o (nms_sub (by omega) o (hmem9 o ho))) (fun o ho q hq => ⟨hp9.mem_iff.mpr (dirs_in hP0 hO o (hmem9 o ho) q hq).1, (dirs_in hP0 hO o (hmem9 o ho) q hq).2⟩) (fun o ho h => par_base hP0 hO o (hmem9 o ho) h) ?_)
            case B => k_asm
            case X => k_asm
            case T => k_asm
            case hk => exact rfl
            case hnl => rw [hp9.length_eq, nms_len]; omega
            case hnd => exact hp9.nodup_iff.mpr (nms_nodup _ (by omega))
            case hd => ktr_room
            case hu => ktr_units
            intro sx sdx ses sn1 se soe tl10 h10 tk10 F10 N10 lt10 hsx hsdx hse hsoe hses
            clear Fx Nx
            obtain ⟨R9, hR9, N11⟩ := led_name N10
            clear N10
            have W0 := wld hP0 hO hI9 hp9
            have hb9 : ∀ p ∈ tl9 ++ (D8, PySem.W.listOf ys4.toArray k8) :: (jg, ojB) :: G, p ∈ R9 := fun p hp => by rw [hR9]; exact List.mem_append_right _ (.tail _ hp)
            have hb10 : ∀ p ∈ tl10, p ∈ R9 := fun p hp => by rw [hR9]; exact List.mem_append_left _ hp
            have hGR : ∀ p ∈ G, p ∈ R9 := fun p hp => hb9 _ (List.mem_append_right _ (.tail _ (.tail _ hp)))
            have W1 := W0.mono hb9
            have r1 := hb10 _ hsx
            have r2 := hb10 _ hsdx
            have r3 := hb10 _ hse
            have r4 := hb9 (D8, _) (List.mem_append_right _ (.head _))
            have r5 := hGR _ gd
            have rD := gD.mono hGR
            clear W0 hb9 hb10 hGR hsx hsdx hse gD gd gP gn gq gc gp g1 g2 g3 g4 hGj hI9 hI9' lt10 lt9 lt9b hR9 hmem9 hnm
            k_steps
            unfold Hold
            rename Fr _ _ _ _ => Fx
            rename News _ _ _ _ => Nx
            k_dflt (refine' cols_ ?B Fx ?X Nx ?T ?hk ?hd ?hu ?_)
            case B => k_asm
            case X => k_asm
            case T => k_asm
            case hk => exact rfl
            case hd => ktr_room
            case hu => ktr_units
            intro c1 dc1 kd1 ec1 nc1 ok1 h11 tk11 F11 N11 lt11 lt11b lo1 hok1 hec1
            clear Fx Nx
            k_steps
            unfold Hold
            rename Fr _ _ _ _ => Fx
            rename News _ _ _ _ => Nx
            k_dflt (refine' cols_ ?B Fx ?X Nx ?T ?hk ?hd ?hu ?_)
            case B => k_asm
            case X => k_asm
            case T => k_asm
            case hk => exact rfl
            case hd => ktr_room
            case hu => ktr_units
            intro c2 dc2 kd2 ec2 nc2 ok2 h12 tk12 F12 N12 lt12 lt12b lo2 hok2 hec2
            clear Fx Nx
            k_steps
            unfold Hold
            rename Fr _ _ _ _ => Fx
            rename News _ _ _ _ => Nx
            have k12 : kd1 < kd2 ∧ kd1 < c2 ∧ kd1 < dc2 := lt12 _ (.head _)
            have n1 : ∀ p ∈ (kd2, ok2) :: (c2, instObj 223 dc2) :: (dc2, dictOf ec2 nc2) :: (c1, instObj 223 dc1) :: (dc1, dictOf ec1 nc1) :: R9, p.1 ≠ kd1 := fun p hp => by
              rcases List.mem_cons.mp hp with rfl | hp
              · exact Nat.ne_of_gt k12.1
              rcases List.mem_cons.mp hp with rfl | hp
              · exact Nat.ne_of_gt k12.2.1
              rcases List.mem_cons.mp hp with rfl | hp
              · exact Nat.ne_of_gt k12.2.2
              rcases List.mem_cons.mp hp with rfl | hp
              · exact Nat.ne_of_lt lt11b.1
              rcases List.mem_cons.mp hp with rfl | hp
              · exact Nat.ne_of_lt lt11b.2
              exact Nat.ne_of_lt (lt11 p hp).1
            have n2 : ∀ p ∈ (c2, instObj 223 dc2) :: (dc2, dictOf ec2 nc2) :: (c1, instObj 223 dc1) :: (dc1, dictOf ec1 nc1) :: R9, p.1 ≠ kd2 := fun p hp => by
              rcases List.mem_cons.mp hp with rfl | hp
              · exact Nat.ne_of_lt lt12b.1
              rcases List.mem_cons.mp hp with rfl | hp
              · exact Nat.ne_of_lt lt12b.2
              exact Nat.ne_of_lt (lt12 p (.tail _ hp)).1
            have N13 := cb_drop (news := (kd1, ok1) :: (kd2, ok2) :: (c2, instObj 223 dc2) :: (dc2, dictOf ec2 nc2) :: (c1, instObj 223 dc1) :: (dc1, dictOf ec1 nc1) :: R9) Nx (by repeat first | (refine sub_cons (by first | with_reducible exact mem0 | with_reducible exact mem1 | with_reducible exact mem2 | with_reducible exact mem3 | with_reducible exact mem4 | with_reducible exact mem5 | with_reducible exact mem6 | with_reducible exact mem7) ?_) | exact fun p hp => by repeat first | with_reducible exact hp | refine List.mem_cons_of_mem _ ?_)
            clear Nx
            obtain ⟨G2, hG2, N14⟩ := g_led2 N13
            rw [← hG2] at n1 n2
            have e1 : (c2, instObj 223 dc2) ∈ G2 := by rw [hG2]; exact .head _
            have e2 : (dc2, dictOf ec2 nc2) ∈ G2 := by rw [hG2]; exact .tail _ (.head _)
            have e3 : (c1, instObj 223 dc1) ∈ G2 := by rw [hG2]; exact .tail _ (.tail _ (.head _))
            have e4 : (dc1, dictOf ec1 nc1) ∈ G2 := by rw [hG2]; exact .tail _ (.tail _ (.tail _ (.head _)))
            have hR2 : ∀ p ∈ R9, p ∈ G2 := fun p hp => by rw [hG2]; exact .tail _ (.tail _ (.tail _ (.tail _ hp)))
            have W2 := W1.mono hR2
            have u1 := hR2 _ r1
            have u2 := hR2 _ r2
            have u3 := hR2 _ r3
            have u4 := hR2 _ r4
            have u5 := hR2 _ r5
            have uD := rD.mono hR2
            have hy4 : ys4.length = ln := by rw [has.len, hal]
            clear N13 hG2 hR2 W1 r1 r2 r3 r4 r5 rD lt11 lt11b lt12 lt12b
            refine lg_ForM false Fx ?_ (by intro _; rfl)
            k_steps
            rename Fr _ _ _ _ => Fx
            rename News _ _ _ _ => Nx
            rename (∀ q : Addr × Obj, q ∈ (kd1, ok1) :: _ → q.1 < _) => l10
            obtain ⟨Da, hDa⟩ := nm1 Nx
            subst hDa
            have hss : Strs (ys4 ++ ys4) (as ++ as) := has.append has
            have hUa : ∀ a ∈ as, a ∈ nms os.length := fun a ha => by rw [hol]; exact hau a ha
            have n3 : ∀ p ∈ (Da, PySem.W.listOf (List.toArray (ys4 ++ ys4)) 0) :: (kd2, ok2) :: G2, p.1 ≠ kd1 := fun p hp => by
              rcases List.mem_cons.mp hp with rfl | hp
              · exact Nat.ne_of_gt (l10 (kd1, ok1) (.head _))
              · exact n1 p hp
            have n4 : Da ≠ kd2 := Nat.ne_of_gt (l10 (kd2, ok2) (.tail _ (.head _)))
            have N15 := cb_drop (news := (kd1, ok1) :: (Da, PySem.W.listOf (List.toArray (ys4 ++ ys4)) 0) :: (kd2, ok2) :: G2) Nx (by first | exact sub_cons mem1 (sub_cons mem0 fun p hp => .tail _ (.tail _ hp)) | (intro p hp; simp only [List.mem_cons] at hp ⊢; rcases hp with rfl | rfl | rfl | hp <;> simp [*]))
            clear Nx l10
            obtain ⟨R, hR, N16⟩ := g_led N15
            clear N15
            rw [← hR] at n3
            have hGR : ∀ p ∈ G2, p ∈ R := fun p hp => by rw [hR]; exact .tail _ (.tail _ hp)
            have v0 : (Da, PySem.W.listOf (List.toArray (ys4 ++ ys4)) 0) ∈ R := by rw [hR]; exact .head _
            have hUs : ∀ a ∈ as ++ as, a ∈ nms os.length := fun a ha => (List.mem_append.mp ha).elim (hUa a) (hUa a)
            refine lg_list (vs := ys4 ++ ys4) (k := 0) (fun i m₁ nx => ∃ tl ok kk, MIs m₁ [(Str.ofString "due", .ref Dd), (Str.ofString "asked", .ref D8), (Str.ofString "looker", .ref c1), (Str.ofString "late", .ref c2)] ∧ nx = (kd1, ok) :: (tl ++ R) ∧ (∀ p ∈ tl ++ R, p.1 ≠ kd1) ∧ (∀ q ∈ R, ∀ p ∈ tl, q.1 < p.1) ∧ ok.IsDictOf (PySem.strKind PG _) kk ∧ Known (tl ++ R) (nms os.length) (Rf (btO os)) (chf ps) kk) (by with_unfolding_all rfl) Fx N16 (by rfl) (by rfl) ⟨[], ok1, [], by tb_start, rfl, n3, (fun _ _ _ h => nomatch h), hok1, fun n v h => by cases h⟩ ?_ ?_ ?_
            · rintro i m₁ nx ⟨tl, ok, kk, _, rfl, _⟩
              exact .tail _ (List.mem_append_right _ v0)
            · rintro i f m₁ nx own h tk dr E' hi ⟨v, hv, rfl⟩ ⟨tl, ok, kk, hm, rfl, hne, hlt, hok, hK⟩ off hnt hdr F' N'
              obtain ⟨x, tx, rfl, hx⟩ := hss.at hv
              have hxU : x ∈ nms os.length := hUs x (List.mem_of_getElem? hx)
              obtain ⟨Dn, vsn, hvn, hDn, hKn⟩ := uD.at x hxU
              have hm1 := hm.one
              have hm2 := hm.rest.one
              have hm3 := hm.rest.rest.one
              have hm4 := hm.rest.rest.rest.one
              clear hm Fx N16
              simp only [List.cons_append] at N'
              obtain ⟨Y, hY, N17⟩ := g_led1 N'
              clear N'
              have hRY : ∀ p ∈ R, p ∈ Y := fun p hp => by rw [hY]; exact List.mem_append_left _ (List.mem_append_right _ hp)
              have hGY : ∀ p ∈ G2, p ∈ Y := fun p hp => hRY p (hGR p hp)
              have hoY : ∀ p ∈ own, p ∈ Y := fun p hp => by rw [hY]; exact List.mem_append_right _ hp
              have htY : ∀ p ∈ tl ++ R, p ∈ Y := fun p hp => by rw [hY]; exact List.mem_append_left _ hp
              have y1 := hGY _ u1
              have y2 := hGY _ u2
              have y3 := hGY _ u3
              have y4 := hGY _ e3
              have y5 := hGY _ e4
              have y6 := hGY _ u5
              have q1 := hec1.sig_columns
              k_steps
              unfold Hold
              rename Fr _ _ _ _ => F7
              rename News _ _ _ _ => N7
              k_dflt (refine' ask_ (rest := tl ++ R) ?B F7 ?X ?T ?hk y1 y2 y3 hsoe hses y4 y5 hec1 (W2.mono hGY) N7 ?hkd hok htY ?hr2 hK lo1 ?hd ?hu hxU ?_)
              case B => k_asm
              case X => k_asm
              case T => k_asm
              case hk => exact rfl
              case hkd => rw [hY]; exact ne_app hne (off_of off (.head _))
              case hr2 =>
                intro a vs hm
                rw [hY] at hm
                rcases List.mem_append.mp hm with h | h
                · exact h
                · exact absurd rfl (hnt _ h vs)
              case hd => ktr_room
              case hu => ktr_units
              intro D vs tl2 ok' kk' h' tk' d' F2 N2 nn2 l2 hok' hK' hD hvs
              clear F7 N7
              have w6 : (Dd, od) ∈ (kd1, ok') :: (tl2 ++ Y) := .tail _ (List.mem_append_right _ y6)
              k_steps
              unfold Hold
              rename Fr _ _ _ _ => F7
              rename News _ _ _ _ => N7
              rw [kp_dl hP0] at hKn
              have hT : ∀ p ∈ tl2 ++ (tl ++ R), p ∈ (kd1, ok') :: (tl2 ++ Y) := fun p hp => by
                rcases List.mem_append.mp hp with hp | hp
                · exact .tail _ (List.mem_append_left _ hp)
                · exact .tail _ (List.mem_append_right _ (htY p hp))
              have hT2 : ∀ p ∈ G2, p ∈ (kd1, ok') :: (tl2 ++ Y) := fun p hp => .tail _ (List.mem_append_right _ (hGY p hp))
              refine ne_kin N7 (hT _ hD) (hT2 _ hDn) (hvs.mono hT) (hKn.mono hT2) dl_lt (by ktr_units) ?_
              k_steps
              refine LfEnd.any F7 N7 ⟨tl2 ++ tl, ok', kk', by tb_start, by rw [List.append_assoc], ?_, ?_, hok', by rw [List.append_assoc]; exact hK'⟩ ?_ ?_ (fun p hp => .tail _ (List.mem_append_right _ (hoY p hp)))
              · intro p hp
                rw [List.append_assoc] at hp
                rcases List.mem_append.mp hp with hp | hp
                · exact nn2 p (List.mem_append_left _ hp)
                · exact nn2 p (List.mem_append_right _ (htY p hp))
              · intro q hq p hp
                rcases List.mem_append.mp hp with hp | hp
                · exact l2 q (.tail _ (hRY q hq)) p hp
                · exact hlt q hq p hp
              · intro p hp b hb
                rcases List.mem_cons.mp hb with rfl | hb
                · exact off p hp _ (.head _)
                · obtain ⟨q, hq, rfl⟩ := List.mem_map.mp hb
                  rcases List.mem_append.mp hq with hq | hq
                  · exact Nat.ne_of_lt (l2 p (.tail _ (hoY p hp)) q hq)
                  · exact off p hp _ (.tail _ (List.mem_map_of_mem hq))
              · intro p hp
                rcases List.mem_cons.mp hp with rfl | hp
                · exact .head _
                · exact hT p hp
            · rintro m₁ nx h tk dr ⟨tl, ok, kk, hm, rfl, hne, hlt, hok, hK⟩ hdr F' N'
              clear Fx N16
              have N20 := cb_drop (news := (kd2, ok2) :: G2) N' (fun p hp => .tail _ (List.mem_append_right _ (by rw [hR]; exact .tail _ hp)))
              have hm1 := hm.one
              have hm2 := hm.rest.one
              have hm3 := hm.rest.rest.one
              have hm4 := hm.rest.rest.rest.one
              clear hm N' hne hlt hok hK hR hGR n3 v0
              k_steps
              unfold Hold
              rename Fr _ _ _ _ => Fx
              rename News _ _ _ _ => Nx
              refine lg_ForM false Fx ?_ (by intro _; rfl)
              clear hUs hss hdr
              have hvz : ys4.length ≤ 1000 := by omega
              k_steps
              rename Fr _ _ _ _ => Fx
              rename News _ _ _ _ => Nx
              rename (∀ q : Addr × Obj, q ∈ (kd2, ok2) :: _ → q.1 < _) => l10
              obtain ⟨Db, hDb⟩ := nm1 Nx
              subst hDb
              obtain ⟨vsR, hvR⟩ : ∃ vsR, vsR = (slicePick (List.toArray ys4) none none (some (-1))).toList := ⟨_, rfl⟩
              have hss : Strs vsR ((jsOf none none (some (-1)) ys4.length).filterMap (as[·]?)) := by rw [hvR, pick_toList]; exact has.places _
              have hUs : ∀ a ∈ (jsOf none none (some (-1)) ys4.length).filterMap (as[·]?), a ∈ nms os.length := fun a ha => hUa a (places_mem ha)
              try rw [← hvR] at Nx
              have n3 : ∀ p ∈ (Db, PySem.W.listOf (List.toArray vsR) 0) :: G2, p.1 ≠ kd2 := fun p hp => by
                rcases List.mem_cons.mp hp with rfl | hp
                · exact Nat.ne_of_gt (l10 (kd2, ok2) (.head _))
                · exact n2 p hp
              have N15 := cb_drop (news := (kd2, ok2) :: (Db, PySem.W.listOf (List.toArray vsR) 0) :: G2) Nx (by first | exact sub_cons mem1 (sub_cons mem0 fun p hp => .tail _ (.tail _ hp)) | (intro p hp; simp only [List.mem_cons] at hp ⊢; rcases hp with rfl | rfl | hp <;> simp [*]))
              clear Nx l10 hvR
              obtain ⟨R, hR, N16⟩ := g_led1 N15
              clear N15
              rw [← hR] at n3
              have hGR : ∀ p ∈ G2, p ∈ R := fun p hp => by rw [hR]; exact .tail _ hp
              have v0 : (Db, PySem.W.listOf (List.toArray vsR) 0) ∈ R := by rw [hR]; exact .head _
              refine lg_list (vs := vsR) (k := 0) (fun i m₁ nx => ∃ tl ok kk, MIs m₁ [(Str.ofString "due", .ref Dd), (Str.ofString "late", .ref c2)] ∧ nx = (kd2, ok) :: (tl ++ R) ∧ (∀ p ∈ tl ++ R, p.1 ≠ kd2) ∧ (∀ q ∈ R, ∀ p ∈ tl, q.1 < p.1) ∧ ok.IsDictOf (PySem.strKind PG _) kk ∧ Known (tl ++ R) (nms os.length) (Rf (btO os)) (chf ps) kk) (by with_unfolding_all rfl) Fx N16 (by rfl) (by rfl) ⟨[], ok2, [], by tb_start, rfl, n3, (fun _ _ _ h => nomatch h), hok2, fun n v h => by cases h⟩ ?_ ?_ ?_
              · rintro i m₁ nx ⟨tl, ok, kk, _, rfl, _⟩
                exact .tail _ (List.mem_append_right _ v0)
              · rintro i f m₁ nx own h tk dr E' hi ⟨v, hv, rfl⟩ ⟨tl, ok, kk, hm, rfl, hne, hlt, hok, hK⟩ off hnt hdr F' N'
                obtain ⟨x, tx, rfl, hx⟩ := hss.at hv
                have hxU : x ∈ nms os.length := hUs x (List.mem_of_getElem? hx)
                obtain ⟨Dn, vsn, hvn, hDn, hKn⟩ := uD.at x hxU
                have hm1 := hm.one
                have hm4 := hm.rest.one
                clear hm Fx N16
                simp only [List.cons_append] at N'
                obtain ⟨Y, hY, N17⟩ := g_led1 N'
                clear N'
                have hRY : ∀ p ∈ R, p ∈ Y := fun p hp => by rw [hY]; exact List.mem_append_left _ (List.mem_append_right _ hp)
                have hGY : ∀ p ∈ G2, p ∈ Y := fun p hp => hRY p (hGR p hp)
                have hoY : ∀ p ∈ own, p ∈ Y := fun p hp => by rw [hY]; exact List.mem_append_right _ hp
                have htY : ∀ p ∈ tl ++ R, p ∈ Y := fun p hp => by rw [hY]; exact List.mem_append_left _ hp
                have y1 := hGY _ u1
                have y2 := hGY _ u2
                have y3 := hGY _ u3
                have y4 := hGY _ e1
                have y5 := hGY _ e2
                have y6 := hGY _ u5
                have q1 := hec2.sig_columns
                k_steps
                unfold Hold
                rename Fr _ _ _ _ => F7
                rename News _ _ _ _ => N7
                k_dflt (refine' ask_ (rest := tl ++ R) ?B F7 ?X ?T ?hk y1 y2 y3 hsoe hses y4 y5 hec2 (W2.mono hGY) N7 ?hkd hok htY ?hr2 hK lo2 ?hd ?hu hxU ?_)
                case B => k_asm
                case X => k_asm
                case T => k_asm
                case hk => exact rfl
                case hkd => rw [hY]; exact ne_app hne (off_of off (.head _))
                case hr2 =>
                  intro a vs hm
                  rw [hY] at hm
                  rcases List.mem_append.mp hm with h | h
                  · exact h
                  · exact absurd rfl (hnt _ h vs)
                case hd => ktr_room
                case hu => ktr_units
                intro D vs tl2 ok' kk' h' tk' d' F2 N2 nn2 l2 hok' hK' hD hvs
                clear F7 N7
                have w6 : (Dd, od) ∈ (kd2, ok') :: (tl2 ++ Y) := .tail _ (List.mem_append_right _ y6)
                k_steps
                unfold Hold
                rename Fr _ _ _ _ => F7
                rename News _ _ _ _ => N7
                rw [kp_dl hP0] at hKn
                have hT : ∀ p ∈ tl2 ++ (tl ++ R), p ∈ (kd2, ok') :: (tl2 ++ Y) := fun p hp => by
                  rcases List.mem_append.mp hp with hp | hp
                  · exact .tail _ (List.mem_append_left _ hp)
                  · exact .tail _ (List.mem_append_right _ (htY p hp))
                have hT2 : ∀ p ∈ G2, p ∈ (kd2, ok') :: (tl2 ++ Y) := fun p hp => .tail _ (List.mem_append_right _ (hGY p hp))
                refine ne_kin N7 (hT _ hD) (hT2 _ hDn) (hvs.mono hT) (hKn.mono hT2) dl_lt (by ktr_units) ?_
                k_steps
                refine LfEnd.any F7 N7 ⟨tl2 ++ tl, ok', kk', by tb_start, by rw [List.append_assoc], ?_, ?_, hok', by rw [List.append_assoc]; exact hK'⟩ ?_ ?_ (fun p hp => .tail _ (List.mem_append_right _ (hoY p hp)))
                · intro p hp
                  rw [List.append_assoc] at hp
                  rcases List.mem_append.mp hp with hp | hp
                  · exact nn2 p (List.mem_append_left _ hp)
                  · exact nn2 p (List.mem_append_right _ (htY p hp))
                · intro q hq p hp
                  rcases List.mem_append.mp hp with hp | hp
                  · exact l2 q (.tail _ (hRY q hq)) p hp
                  · exact hlt q hq p hp
                · intro p hp b hb
                  rcases List.mem_cons.mp hb with rfl | hb
                  · exact off p hp _ (.head _)
                  · obtain ⟨q, hq, rfl⟩ := List.mem_map.mp hb
                    rcases List.mem_append.mp hq with hq | hq
                    · exact Nat.ne_of_lt (l2 p (.tail _ (hoY p hp)) q hq)
                    · exact off p hp _ (.tail _ (List.mem_map_of_mem hq))
                · intro p hp
                  rcases List.mem_cons.mp hp with rfl | hp
                  · exact .head _
                  · exact hT p hp
              · rintro m₁ nx h tk dr ⟨tl, ok, kk, hm, rfl, hne, hlt, hok, hK⟩ hdr F' N'
                clear Fx N16
                clear hm hne hlt hok hK hR hGR n3 v0
                k_steps
end

end Mine
theorem PySem.Challenge.cw_rr0093_01_holds : PySem.Challenge.rw_rr0093_01.Holds := by
  exact Mine.law_walk
