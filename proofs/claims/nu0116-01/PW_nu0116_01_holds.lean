import PyProof.Rows.All
import Wide.All
import OpenK.AllK
import Wide.FinOn
import PySem.Challenge.RW_nu0116_01
/-! The law of AckPolicy.on_octets. The head once (open_top); each def that the law calls is walked once, as a contract over any ledger;
the pool's loop by its invariant (k_state); the law's own loop by tbr_invG with the invariant Jn. -/
open PySem PySem.W PyProof.Rows
set_option Elab.async false
set_option maxRecDepth 100000
set_option maxHeartbeats 8000000
namespace Nu
open_top hd for PySem.Challenge.rw_nu0116_01
theorem fill : PySem.Challenge.rw_nu0116_01 = PySem.Challenge.rw_nu0116_01 ∧ ∀ P, hd.heap_39 P = hd.heap_39 P := by
  k_fill
  w_top off
  exact ⟨rfl, fun _ => rfl⟩
/-! _law_take -/
section
theorem fm0 (y : Int) {n : Int} (h : 1 ≤ n) : 0 ≤ y.fmod n := Int.fmod_nonneg_of_pos y (by omega)
theorem fm1 (y : Int) {n : Int} (h : 1 ≤ n) : y.fmod n < n := Int.fmod_lt_of_pos y (by omega)
theorem fd0 {y n : Int} (h0 : 0 ≤ y) (h : 1 ≤ n) : 0 ≤ y.fdiv n := Int.fdiv_nonneg h0 (by omega)
theorem bits64 (y : Int) : Builtin.Int.intBits (y.fmod 2147483647) ≤ 64 :=
  intBits_le_64 (by have := fm0 y (n := 2147483647) (by decide); omega) (by have := fm1 y (n := 2147483647) (by decide); omega)
local macro_rules | `(tactic| walk_at "binaryOp Mult int int") => `(tactic| (k_here; (refine PySem.P.mul_int ?_ (IntMulOk.of_left (bits64 _)))))
theorem take_ct {prog : Program} {w : World} {p : Program} {loose : List Str} {mean : ExcName → Option Value} {mg mb : Str → Option Value}
    {dp un : Nat} {gd : Option (List Code)} {cn : Str} {cs : Scope} {a : Addr} {ccd : Value} {cl : List (Str × Addr)} {outer : List Env} {A₀ : Around} {base h₀ : Heap} {L : Addr} {m : Str → Option Value} {s : Shared}
    {Q E : Value → Shared → Prop} {l : Addr} {own : List (Addr × Obj)} {d x top : Int} {t1 t2 t3 : Tok} {n : Nat}
    (B : Below A₀ base outer h₀) (F : Fr h₀ L s.heap m) (X : (hd.heap_39 w.params).In h₀) (N : News h₀ L s.heap ((l, listOf #[.int d t1, .int x t2] n) :: own)) (T : Top p loose mean mg mb h₀) (hk : cs.kind = .function)
    (off : OwnOff own [l]) (hd0 : 0 ≤ d) (hx0 : 0 ≤ x) (hx1 : x < 2147483647) (htop : 1 ≤ top) (htop2 : top ≤ 100) (hdp : dp + 9 < recursionLimit) (hun : un + 90 < cLine)
    (ret : ∀ r d' x' t t1' t2' n' h' tk', 0 ≤ r → r < top → 0 ≤ d' → 0 ≤ x' → x' < 2147483647 → Fr h₀ L h' m → News h₀ L h' ((l, listOf #[.int d' t1', .int x' t2'] n') :: own) → Q (.int r t) { s with heap := h', toks := tk' }) :
    wpAny (model prog w) (ktrTop dp un gd cn cs L a ccd cl outer) (call (.ref 85) [.ref l, .int top t3]) Q E s := by
  refine wpAny_call ?_
  k_dflt ktr_enter
  k_steps
  · exact ret _ _ _ _ _ _ _ _ _ (fm0 _ htop) (fm1 _ htop) (fd0 hd0 htop) hx0 hx1 (by k_asm) (by k_asm)
  · exact ret _ _ _ _ _ _ _ _ _ (fm0 _ htop) (fm1 _ htop) hd0 (fm0 _ (by decide)) (fm1 _ (by decide)) (by k_asm) (by k_asm)
end
/-! _law_take on any ledger; the sizes of the pool -/
section
theorem take_ctU {prog : Program} {w : World} {p : Program} {loose : List Str} {mean : ExcName → Option Value} {mg mb : Str → Option Value}
    {dp un : Nat} {gd : Option (List Code)} {cn : Str} {cs : Scope} {a : Addr} {ccd : Value} {cl : List (Str × Addr)} {outer : List Env} {A₀ : Around} {base h₀ : Heap} {L : Addr} {m : Str → Option Value} {s : Shared}
    {Q E : Value → Shared → Prop} {l : Addr} {news : List (Addr × Obj)} {g : Obj → List (Addr × Obj)} {d x top : Int} {t1 t2 t3 : Tok} {n : Nat}
    (B : Below A₀ base outer h₀) (F : Fr h₀ L s.heap m) (X : (hd.heap_39 w.params).In h₀) (N : News h₀ L s.heap news) (U : UpdF l (listOf #[.int d t1, .int x t2] n) news g) (T : Top p loose mean mg mb h₀) (hk : cs.kind = .function)
    (hd0 : 0 ≤ d) (hx0 : 0 ≤ x) (hx1 : x < 2147483647) (htop : 1 ≤ top) (htop2 : top ≤ 100) (hdp : dp + 9 < recursionLimit) (hun : un + 90 < cLine)
    (ret : ∀ r d' x' t t1' t2' n' h' tk', 0 ≤ r → r < top → 0 ≤ d' → 0 ≤ x' → x' < 2147483647 → Fr h₀ L h' m → News h₀ L h' (g (listOf #[.int d' t1', .int x' t2'] n')) → Q (.int r t) { s with heap := h', toks := tk' }) :
    wpAny (model prog w) (ktrTop dp un gd cn cs L a ccd cl outer) (call (.ref 85) [.ref l, .int top t3]) Q E s := by
  obtain ⟨pre, post, rfl, hg, ha, hb⟩ := U.split
  refine take_ct (own := pre ++ post) (t1 := t1) (t2 := t2) (n := n) B F X (fun p hp => N p ?_) T hk ?_ hd0 hx0 hx1 htop htop2 hdp hun ?_
  · simp only [List.mem_cons, List.mem_append] at hp ⊢
    rcases hp with h | h | h
    · exact .inr (.inl h)
    · exact .inl h
    · exact .inr (.inr h)
  · intro p hp b hb'
    rw [List.mem_singleton.mp hb']
    rcases List.mem_append.mp hp with h | h
    · exact ha p h
    · exact hb p h
  · intro r d' x' t t1' t2' n' h' tk' h1 h2 h3 h4 h5 F' N'
    refine ret r d' x' t t1' t2' n' h' tk' h1 h2 h3 h4 h5 F' ?_
    rw [hg]
    intro p hp
    refine N' p ?_
    simp only [List.mem_cons, List.mem_append] at hp ⊢
    rcases hp with h | h | h
    · exact .inr (.inl h)
    · exact .inl h
    · exact .inr (.inr h)


theorem item_bits {ns pre post : List Int} {n : Int} (e : ns = pre ++ n :: post) (h : PyData.layable0 (.list (ns.map .int)) = true) : Builtin.Int.intBits n ≤ 1048576 :=
  intBits_le_of_item (by rw [e]; simp) h
theorem flip_bits {n : Int} (h : Builtin.Int.intBits n ≤ 1048576) : Builtin.Int.intBits (-1 - n) ≤ 1048577 := by
  rw [intBits_le_iff] at h ⊢
  rw [show (1048577 : Nat) = 1048576 + 1 from rfl, Nat.pow_succ]
  have hp : 0 < 2 ^ 1048576 := Nat.two_pow_pos _
  generalize 2 ^ 1048576 = z at h hp ⊢
  omega
def PoolInv (pre : List Int) (d x : Int) : Prop := 0 ≤ d ∧ Builtin.Int.intBits d ≤ 1048580 * pre.length ∧ 0 ≤ x ∧ x < 2147483647
theorem pool_start : PoolInv [] 0 37 := ⟨by decide, by decide, by decide, by decide⟩
theorem pool_len {ns pre post : List Int} {n : Int} (e : ns = pre ++ n :: post) (hl : ¬ ((63 : Nat) : Int) < (ns.length : Int)) : pre.length ≤ 62 := by
  have : ns.length = pre.length + (post.length + 1) := by rw [e]; simp
  omega
theorem pool_mul {ns pre post : List Int} {n m d x : Int} (e : ns = pre ++ n :: post) (hl : ¬ ((63 : Nat) : Int) < (ns.length : Int)) (I : PoolInv pre d x) (hm : Builtin.Int.intBits m ≤ 1048577) : IntMulOk d m :=
  IntMulOk.of_le I.2.1 hm (by have := pool_len e hl; omega)
theorem pool_mulA {ns pre post : List Int} {n d x : Int} (e : ns = pre ++ n :: post) (h : PyData.layable0 (.list (ns.map .int)) = true) (hl : ¬ ((63 : Nat) : Int) < (ns.length : Int)) (I : PoolInv pre d x) : IntMulOk d n :=
  pool_mul e hl I (Nat.le_succ_of_le (item_bits e h))
theorem pool_mulB {ns pre post : List Int} {n d x : Int} (e : ns = pre ++ n :: post) (h : PyData.layable0 (.list (ns.map .int)) = true) (hl : ¬ ((63 : Nat) : Int) < (ns.length : Int)) (I : PoolInv pre d x) : IntMulOk d (-1 - n) :=
  pool_mul e hl I (flip_bits (item_bits e h))
theorem grow_bits {d m : Int} {k : Nat} (h0 : 0 ≤ d) (hd : Builtin.Int.intBits d ≤ k) (hm : Builtin.Int.intBits m ≤ 1048577) : Builtin.Int.intBits (d * m + m) ≤ k + 1048580 := by
  rw [intBits_le_iff] at hd hm ⊢
  have e : d * m + m = (d + 1) * m := by rw [Int.add_mul, Int.one_mul]
  rw [e, Int.natAbs_mul]
  have h1 : (d + 1).natAbs ≤ 2 ^ k := by omega
  have h2 : m.natAbs ≤ 2 ^ 1048577 := Nat.le_of_lt hm
  refine Nat.lt_of_le_of_lt (Nat.mul_le_mul h1 h2) ?_
  rw [← Nat.pow_add]
  exact Nat.pow_lt_pow_right (by decide) (by omega)
theorem pool_keep {pre : List Int} {n d x y : Int} (I : PoolInv pre d x) : PoolInv (pre ++ [n]) d (y.fmod 2147483647) :=
  ⟨I.1, Nat.le_trans I.2.1 (by rw [List.length_append]; omega), fm0 _ (by decide), fm1 _ (by decide)⟩
theorem pool_grow {pre : List Int} {n m d x y : Int} (I : PoolInv pre d x) (h0 : 0 ≤ m) (hm : Builtin.Int.intBits m ≤ 1048577) : PoolInv (pre ++ [n]) (d * m + m) (y.fmod 2147483647) :=
  ⟨Int.add_nonneg (Int.mul_nonneg I.1 h0) h0, Nat.le_trans (grow_bits I.1 I.2.1 hm) (by rw [List.length_append, List.length_singleton]; omega), fm0 _ (by decide), fm1 _ (by decide)⟩
theorem pool_growA {ns pre post : List Int} {n d x y : Int} (e : ns = pre ++ n :: post) (h : PyData.layable0 (.list (ns.map .int)) = true) (I : PoolInv pre d x) (h0 : 0 ≤ n) : PoolInv (pre ++ [n]) (d * n + n) (y.fmod 2147483647) :=
  pool_grow I h0 (Nat.le_succ_of_le (item_bits e h))
theorem pool_growB {ns pre post : List Int} {n d x y : Int} (e : ns = pre ++ n :: post) (h : PyData.layable0 (.list (ns.map .int)) = true) (I : PoolInv pre d x) (h0 : ¬ 0 ≤ n) : PoolInv (pre ++ [n]) (d * (-1 - n) + (-1 - n)) (y.fmod 2147483647) :=
  pool_grow I (by omega) (flip_bits (item_bits e h))
end
/-! _law_asked_right, _law_sent -/
section
def DF (D : Int) (dv fv : Value) : Prop := (dv = .none ∧ fv = .none) ∨ ∃ f t t', dv = .int (f + D) t ∧ fv = .int f t'
local macro_rules | `(tactic| k_room) => `(tactic| ktr_room)
local macro_rules | `(tactic| walk_at "subscriptTail") => `(tactic| (k_here; (with_reducible show wpAny _ _ (subscriptTail _ _ (Value.ref _) (Value.str _ _)) _ _ _); k_dflt (refine kda_item (knd := PySem.strKind _ _) (by k_asm) (by k_mem) (by k_asm) (strKind_is _ _ _ _) (by rfl) ?_)))
local macro_rules | `(tactic| walk_at "setItem ref str") => `(tactic| (k_here; k_dflt (refine' kda_set (knd := PySem.strKind _ _) ?F ?N ?U ?d (strKind_is _ _ _ _) ?z ?_; (case F => k_asm); (case N => k_asm); (case U => k_updF); (case d => k_asm); (case z => rw [sizeLine_eq]; exact Nat.le_of_ble_eq_true (by with_unfolding_all rfl))); intro h' o' F' N' hd'; (try kob_lit); (try dsimp only at N'); (try dsimp only)))
theorem asked_ct0 {prog : Program} {w : World} {p : Program} {loose : List Str} {mean : ExcName → Option Value} {mg mb : Str → Option Value}
    {dp un : Nat} {gd : Option (List Code)} {cn : Str} {cs : Scope} {a : Addr} {ccd : Value} {cl : List (Str × Addr)} {outer : List Env} {A₀ : Around} {base h₀ : Heap} {L : Addr} {m : Str → Option Value} {s : Shared}
    {Q E : Value → Shared → Prop} {pl pd tw wa : Addr} {o : Obj} {own : List (Addr × Obj)} {D W now : Int} {dv fv : Value} {gap gap2 must : Bool} {a1 a2 a3 a4 : Int} {k1 k2 k3 k4 u1 u2 v1 tn : Tok}
    (B : Below A₀ base outer h₀) (F : Fr h₀ L s.heap m) (X : (hd.heap_39 w.params).In h₀) (N : News h₀ L s.heap ((pl, instObj 67 pd) :: (pd, dictOf [⟨a1, .str (Str.ofString "delay") k1, .int D u1⟩, ⟨a2, .str (Str.ofString "waiting") k2, .int W u2⟩, ⟨a3, .str (Str.ofString "due") k3, dv⟩, ⟨a4, .str (Str.ofString "has_gap") k4, .bool gap⟩] 4) :: (tw, o) :: own)) (T : Top p loose mean mg mb h₀) (hk : cs.kind = .function)
    (ho : o.IsDictOf (strKind prog w) [(Str.ofString "delay", .int D v1), (Str.ofString "waiting", .ref wa), (Str.ofString "must", .bool must), (Str.ofString "gap", .bool gap2), (Str.ofString "first", fv)])
    (hm : must = decide (2 ≤ W)) (hdf : DF D dv fv) (hdp : dp + 9 < recursionLimit) (hun : un + 90 < cLine)
    (ret : ∀ h' tk', Fr h₀ L h' m → News h₀ L h' ((pl, instObj 67 pd) :: (pd, dictOf [⟨a1, .str (Str.ofString "delay") k1, .int D u1⟩, ⟨a2, .str (Str.ofString "waiting") k2, .int W u2⟩, ⟨a3, .str (Str.ofString "due") k3, dv⟩, ⟨a4, .str (Str.ofString "has_gap") k4, .bool gap⟩] 4) :: (tw, o) :: own) → Q (.bool true) { s with heap := h', toks := tk' }) :
    wpAny (model prog w) (ktrTop dp un gd cn cs L a ccd cl outer) (call (.ref 106) [.ref pl, .ref tw, .int now tn]) Q E s := by
  rcases hdf with ⟨rfl, rfl⟩ | ⟨f, t, t', rfl, rfl⟩
  · by_cases hW : 2 ≤ W
    · rw [decide_eq_true hW] at hm
      subst hm
      refine wpAny_call ?_
      k_dflt ktr_enter
      k_steps
      all_goals first | exact ret _ _ (by k_asm) (by k_asm) | (exfalso; omega) | (rw [beq_self_eq_true]; exact ret _ _ (by k_asm) (by k_asm)) | fail "no end"
    · rw [decide_eq_false hW] at hm
      subst hm
      refine wpAny_call ?_
      k_dflt ktr_enter
      k_steps
      all_goals first | exact ret _ _ (by k_asm) (by k_asm) | (exfalso; omega) | (rw [beq_self_eq_true]; exact ret _ _ (by k_asm) (by k_asm)) | fail "no end"
  · by_cases hW : 2 ≤ W
    · rw [decide_eq_true hW] at hm
      subst hm
      refine wpAny_call ?_
      k_dflt ktr_enter
      k_steps
      all_goals first | exact ret _ _ (by k_asm) (by k_asm) | (exfalso; omega) | (rw [beq_self_eq_true]; exact ret _ _ (by k_asm) (by k_asm)) | fail "no end"
    · rw [decide_eq_false hW] at hm
      subst hm
      refine wpAny_call ?_
      k_dflt ktr_enter
      k_steps
      all_goals first | exact ret _ _ (by k_asm) (by k_asm) | (exfalso; omega) | (rw [beq_self_eq_true]; exact ret _ _ (by k_asm) (by k_asm)) | fail "no end"
theorem asked_ct {prog : Program} {w : World} {p : Program} {loose : List Str} {mean : ExcName → Option Value} {mg mb : Str → Option Value}
    {dp un : Nat} {gd : Option (List Code)} {cn : Str} {cs : Scope} {a : Addr} {ccd : Value} {cl : List (Str × Addr)} {outer : List Env} {A₀ : Around} {base h₀ : Heap} {L : Addr} {m : Str → Option Value} {s : Shared}
    {Q E : Value → Shared → Prop} {pl pd tw wa : Addr} {o : Obj} {news : List (Addr × Obj)} {D W now : Int} {dv fv : Value} {gap gap2 must : Bool} {a1 a2 a3 a4 : Int} {k1 k2 k3 k4 u1 u2 v1 tn : Tok}
    (B : Below A₀ base outer h₀) (F : Fr h₀ L s.heap m) (X : (hd.heap_39 w.params).In h₀) (N : News h₀ L s.heap news) (T : Top p loose mean mg mb h₀) (hk : cs.kind = .function) (h1 : (pl, instObj 67 pd) ∈ news) (h2 : (pd, dictOf [⟨a1, .str (Str.ofString "delay") k1, .int D u1⟩, ⟨a2, .str (Str.ofString "waiting") k2, .int W u2⟩, ⟨a3, .str (Str.ofString "due") k3, dv⟩, ⟨a4, .str (Str.ofString "has_gap") k4, .bool gap⟩] 4) ∈ news) (h3 : (tw, o) ∈ news)
    (ho : o.IsDictOf (strKind prog w) [(Str.ofString "delay", .int D v1), (Str.ofString "waiting", .ref wa), (Str.ofString "must", .bool must), (Str.ofString "gap", .bool gap2), (Str.ofString "first", fv)])
    (hm : must = decide (2 ≤ W)) (hdf : DF D dv fv) (hdp : dp + 9 < recursionLimit) (hun : un + 90 < cLine)
    (ret : ∀ h' tk', Fr h₀ L h' m → News h₀ L h' news → Q (.bool true) { s with heap := h', toks := tk' }) :
    wpAny (model prog w) (ktrTop dp un gd cn cs L a ccd cl outer) (call (.ref 106) [.ref pl, .ref tw, .int now tn]) Q E s :=
  asked_ct0 (own := news) B F X (fun p hp => by
    rcases List.mem_cons.mp hp with rfl | hp
    · exact N _ h1
    rcases List.mem_cons.mp hp with rfl | hp
    · exact N _ h2
    rcases List.mem_cons.mp hp with rfl | hp
    · exact N _ h3
    exact N _ hp) T hk ho hm hdf hdp hun fun h' tk' F' N' => ret h' tk' F' fun p hp => N' p (.tail _ (.tail _ (.tail _ hp)))
theorem sent_ct0 {prog : Program} {w : World} {p : Program} {loose : List Str} {mean : ExcName → Option Value} {mg mb : Str → Option Value}
    {dp un : Nat} {gd : Option (List Code)} {cn : Str} {cs : Scope} {a : Addr} {ccd : Value} {cl : List (Str × Addr)} {outer : List Env} {A₀ : Around} {base h₀ : Heap} {L : Addr} {m : Str → Option Value} {s : Shared}
    {Q E : Value → Shared → Prop} {pl pd tw wa : Nat} {o : Obj} {own : List (Addr × Obj)} {D W : Int} {dv fv : Value} {gap gap2 must : Bool} {a1 a2 a3 a4 : Int} {k1 k2 k3 k4 u1 u2 v1 : Tok}
    (B : Below A₀ base outer h₀) (F : Fr h₀ L s.heap m) (X : (hd.heap_39 w.params).In h₀) (N : News h₀ L s.heap ((pl, instObj 67 pd) :: (pd, dictOf [⟨a1, .str (Str.ofString "delay") k1, .int D u1⟩, ⟨a2, .str (Str.ofString "waiting") k2, .int W u2⟩, ⟨a3, .str (Str.ofString "due") k3, dv⟩, ⟨a4, .str (Str.ofString "has_gap") k4, .bool gap⟩] 4) :: (tw, o) :: own)) (T : Top p loose mean mg mb h₀) (hk : cs.kind = .function) (off : OwnOff own [pl, pd, tw]) (l1 : pd < pl) (l2 : pl < tw)
    (ho : o.IsDictOf (strKind prog w) [(Str.ofString "delay", .int D v1), (Str.ofString "waiting", .ref wa), (Str.ofString "must", .bool must), (Str.ofString "gap", .bool gap2), (Str.ofString "first", fv)]) (hdp : dp + 9 < recursionLimit) (hun : un + 90 < cLine)
    (ret : ∀ h' tk' o' wa' u2' v1', pl < wa' ∧ pd < wa' ∧ tw < wa' ∧ AllLt wa' own → o'.IsDictOf (strKind prog w) [(Str.ofString "delay", .int D v1'), (Str.ofString "waiting", .ref wa'), (Str.ofString "must", .bool false), (Str.ofString "gap", .bool gap2), (Str.ofString "first", .none)] → Fr h₀ L h' m → News h₀ L h' ((wa', listOf #[] 0) :: ((pl, instObj 67 pd) :: (pd, dictOf [⟨a1, .str (Str.ofString "delay") k1, .int D u1⟩, ⟨a2, .str (Str.ofString "waiting") k2, .int 0 u2'⟩, ⟨a3, .str (Str.ofString "due") k3, .none⟩, ⟨a4, .str (Str.ofString "has_gap") k4, .bool gap⟩] 4) :: (tw, o') :: own)) → Q (.bool true) { s with heap := h', toks := tk' }) :
    wpAny (model prog w) (ktrTop dp un gd cn cs L a ccd cl outer) (call (.ref 120) [.ref pl, .ref tw]) Q E s := by
  refine wpAny_call ?_
  k_dflt ktr_enter
  k_steps
  (rename News h₀ L _ _ => kN9)
  (rename Obj.IsDictOf _ _ _ => hd9)
  exact ret _ _ _ _ _ _ (by assumption) (by with_unfolding_all exact hd9) (by k_asm) (fun p hp => kN9 p (.tail _ hp))
end
/-! on_octets -/
section
local macro_rules | `(tactic| k_room) => `(tactic| ktr_room)
theorem oct_ct0 {prog : Program} {w : World} {p : Program} {loose : List Str} {mean : ExcName → Option Value} {mg mb : Str → Option Value}
    {dp un : Nat} {gd : Option (List Code)} {cn : Str} {cs : Scope} {a : Addr} {ccd : Value} {cl : List (Str × Addr)} {outer : List Env} {A₀ : Around} {base h₀ : Heap} {L : Addr} {m : Str → Option Value} {s : Shared}
    {Q E : Value → Shared → Prop} {pl pd : Nat} {own : List (Addr × Obj)} {D W now : Int} {dv : Value} {gap io hh : Bool} {a1 a2 a3 a4 : Int} {k1 k2 k3 k4 u1 u2 tn : Tok}
    (B : Below A₀ base outer h₀) (F : Fr h₀ L s.heap m) (X : (hd.heap_39 w.params).In h₀) (N : News h₀ L s.heap ((pl, instObj 67 pd) :: (pd, dictOf [⟨a1, .str (Str.ofString "delay") k1, .int D u1⟩, ⟨a2, .str (Str.ofString "waiting") k2, .int W u2⟩, ⟨a3, .str (Str.ofString "due") k3, dv⟩, ⟨a4, .str (Str.ofString "has_gap") k4, .bool gap⟩] 4) :: own)) (T : Top p loose mean mg mb h₀) (hk : cs.kind = .function) (off : OwnOff own [pl, pd]) (l1 : pd < pl) (hW0 : 0 ≤ W) (hz : W = 0 → dv = .none) (hdp : dp + 9 < recursionLimit) (hun : un + 90 < cLine)
    (retN : (!io || gap || hh || decide (D ≤ 0) || decide (1 ≤ W)) = true → ∀ h' tk' u2' t, Fr h₀ L h' m → News h₀ L h' ((pl, instObj 67 pd) :: (pd, dictOf [⟨a1, .str (Str.ofString "delay") k1, .int D u1⟩, ⟨a2, .str (Str.ofString "waiting") k2, .int 2 u2'⟩, ⟨a3, .str (Str.ofString "due") k3, dv⟩, ⟨a4, .str (Str.ofString "has_gap") k4, .bool (hh || !io)⟩] 4) :: own) → Q (.str (Str.ofString "now") t) { s with heap := h', toks := tk' })
    (retL : (!io || gap || hh || decide (D ≤ 0) || decide (1 ≤ W)) = false → ∀ h' tk' u2' t' t, Fr h₀ L h' m → News h₀ L h' ((pl, instObj 67 pd) :: (pd, dictOf [⟨a1, .str (Str.ofString "delay") k1, .int D u1⟩, ⟨a2, .str (Str.ofString "waiting") k2, .int 1 u2'⟩, ⟨a3, .str (Str.ofString "due") k3, (.int (now + D) t')⟩, ⟨a4, .str (Str.ofString "has_gap") k4, .bool (hh || !io)⟩] 4) :: own) → Q (.str (Str.ofString "later") t) { s with heap := h', toks := tk' }) :
    wpAny (model prog w) (ktrTop dp un gd cn cs L a ccd cl outer) (call (.ref 36) [.ref pl, .bool io, .int now tn, .bool hh]) Q E s := by
  by_cases hW : W = 0
  · have hdv := hz hW
    subst hW hdv
    cases io <;> cases hh
    all_goals (
      refine wpAny_call ?_
      k_dflt (refine' code_def ?k1 ?k2 ?k3 ?k4 ?k5 ?kA ?kF ?kK ?k6 ?k7 ?k8 ?k9 ?kB ?_ ?c2 ?c3 ?c4 ?c5; (case kA => exact rfl); (case kF => exact rfl); (case kK => assumption); (case k1 => k_asm); (case k2 => k_asm); (case k3 => k_asm); (case k4 => k_asm); (case k5 => k_asm); (case k6 => k_is); (case k7 => k_is); (case k8 => ktr_room); (case k9 => first | exact BindsTo.of_eq rfl | exact binds_K (by k_in) rfl (by k_is) rfl rfl rfl); (case c5 => decide); (case kB => exact locs rfl); (case c2 => exact rfl); (case c3 => exact rfl); (case c4 => exact rfl); k_whole; intro g' L' h' FG' F' N' B' X' T'; (try dsimp only); (try k_fold))
      k_steps
      all_goals first
        | exact retN (by simp_all) _ _ _ _ (by k_asm) (by k_asm)
        | exact retL (by simp_all) _ _ _ _ _ (by k_asm) (by k_asm)
        | fail "no end")
  · have hW1 : 1 ≤ W := by omega
    cases io <;> cases hh
    all_goals (
      refine wpAny_call ?_
      k_dflt (refine' code_def ?k1 ?k2 ?k3 ?k4 ?k5 ?kA ?kF ?kK ?k6 ?k7 ?k8 ?k9 ?kB ?_ ?c2 ?c3 ?c4 ?c5; (case kA => exact rfl); (case kF => exact rfl); (case kK => assumption); (case k1 => k_asm); (case k2 => k_asm); (case k3 => k_asm); (case k4 => k_asm); (case k5 => k_asm); (case k6 => k_is); (case k7 => k_is); (case k8 => ktr_room); (case k9 => first | exact BindsTo.of_eq rfl | exact binds_K (by k_in) rfl (by k_is) rfl rfl rfl); (case c5 => decide); (case kB => exact locs rfl); (case c2 => exact rfl); (case c3 => exact rfl); (case c4 => exact rfl); k_whole; intro g' L' h' FG' F' N' B' X' T'; (try dsimp only); (try k_fold))
      k_steps
      all_goals first
        | exact retN (by simp_all) _ _ _ _ (by k_asm) (by k_asm)
        | (exfalso; omega)
        | fail "no end")
end
/-! _law_word -/
section
local macro_rules | `(tactic| k_room) => `(tactic| ktr_room)
local macro_rules | `(tactic| walk_at "subscriptTail") => `(tactic| (k_here; (with_reducible show wpAny _ _ (subscriptTail _ _ (Value.ref _) (Value.str _ _)) _ _ _); k_dflt (refine kda_item (knd := PySem.strKind _ _) (by k_asm) (by k_mem) (by k_asm) (strKind_is _ _ _ _) (by rfl) ?_)))
local macro_rules | `(tactic| walk_at "setItem ref str") => `(tactic| (k_here; k_dflt (refine' kda_set (knd := PySem.strKind _ _) ?F ?N ?U ?d (strKind_is _ _ _ _) ?z ?_; (case F => k_asm); (case N => k_asm); (case U => k_updF); (case d => k_asm); (case z => rw [sizeLine_eq]; exact Nat.le_of_ble_eq_true (by with_unfolding_all rfl))); intro h' o' F' N' hd'; (try kob_lit); (try dsimp only at N'); (try dsimp only)))
local macro_rules | `(tactic| walk_at "call builtin:len") => `(tactic| (k_here; (with_reducible show wpAny _ _ (call (Value.builtin "len") [Value.ref _]) _ _ _); k_dflt (refine len_list (News.isList (by k_asm) (by k_mem)) (by omega) ?_)))
local macro_rules | `(tactic| walk_at "call builtin:list.append") => `(tactic| (k_here; (with_reducible show wpAny _ _ (call (Value.builtin _) [Value.ref _, _]) _ _ _); k_dflt (refine' append_K ?k1 ?k2 ?k3 ?_ ?z; (case k1 => k_asm); (case k2 => k_asm); (case k3 => k_upd); (case z => (rw [PySem.sizeLine_eq]; omega)); k_whole); intro h' F' N'))
theorem isd_must {prog : Program} {w : World} {o : Obj} {D : Int} {wa : Addr} {x y g : Bool} {fv : Value} {v1 : Tok} (h : o.IsDictOf (strKind prog w) [(Str.ofString "delay", .int D v1), (Str.ofString "waiting", .ref wa), (Str.ofString "must", .bool x), (Str.ofString "gap", .bool g), (Str.ofString "first", fv)]) (e : x = y) : o.IsDictOf (strKind prog w) [(Str.ofString "delay", .int D v1), (Str.ofString "waiting", .ref wa), (Str.ofString "must", .bool y), (Str.ofString "gap", .bool g), (Str.ofString "first", fv)] := by
  subst e; exact h
theorem word_ct0 {prog : Program} {w : World} {p : Program} {loose : List Str} {mean : ExcName → Option Value} {mg mb : Str → Option Value}
    {dp un : Nat} {gd : Option (List Code)} {cn : Str} {cs : Scope} {a : Addr} {ccd : Value} {cl : List (Str × Addr)} {outer : List Env} {A₀ : Around} {base h₀ : Heap} {L : Addr} {m : Str → Option Value} {s : Shared}
    {Q E : Value → Shared → Prop} {tw wa : Nat} {o : Obj} {its : Array Value} {e : Nat} {own : List (Addr × Obj)} {D now : Int} {fv : Value} {must gap2 io hh : Bool} {v1 tn : Tok}
    (B : Below A₀ base outer h₀) (F : Fr h₀ L s.heap m) (X : (hd.heap_39 w.params).In h₀) (N : News h₀ L s.heap ((tw, o) :: (wa, listOf its e) :: own)) (T : Top p loose mean mg mb h₀) (hk : cs.kind = .function) (off : OwnOff own [tw, wa]) (l1 : tw < wa) (hsz : its.size ≤ 1000)
    (ho : o.IsDictOf (strKind prog w) [(Str.ofString "delay", .int D v1), (Str.ofString "waiting", .ref wa), (Str.ofString "must", .bool must), (Str.ofString "gap", .bool gap2), (Str.ofString "first", fv)]) (hdp : dp + 9 < recursionLimit) (hun : un + 90 < cLine)
    (retN : (!io || hh || gap2 || decide (D = 0) || decide (0 < its.size)) = true → ∀ h' tk' o' t, o'.IsDictOf (strKind prog w) [(Str.ofString "delay", .int D v1), (Str.ofString "waiting", .ref wa), (Str.ofString "must", .bool true), (Str.ofString "gap", .bool (hh || !io)), (Str.ofString "first", fv)] → Fr h₀ L h' m → News h₀ L h' ((tw, o') :: (wa, listOf (its.push (.int now tn)) (e + 1)) :: own) → Q (.str (Str.ofString "now") t) { s with heap := h', toks := tk' })
    (retL : (!io || hh || gap2 || decide (D = 0) || decide (0 < its.size)) = false → ∀ h' tk' o' t, o'.IsDictOf (strKind prog w) [(Str.ofString "delay", .int D v1), (Str.ofString "waiting", .ref wa), (Str.ofString "must", .bool must), (Str.ofString "gap", .bool (hh || !io)), (Str.ofString "first", fv)] → Fr h₀ L h' m → News h₀ L h' ((tw, o') :: (wa, listOf (its.push (.int now tn)) (e + 1)) :: own) → Q (.str (Str.ofString "later") t) { s with heap := h', toks := tk' }) :
    wpAny (model prog w) (ktrTop dp un gd cn cs L a ccd cl outer) (call (.ref 92) [.ref tw, .bool io, .int now tn, .bool hh]) Q E s := by
  cases io <;> cases hh <;> cases must
  all_goals (
      refine wpAny_call ?_
      k_dflt (refine' code_def ?k1 ?k2 ?k3 ?k4 ?k5 ?kA ?kF ?kK ?k6 ?k7 ?k8 ?k9 ?kB ?_ ?c2 ?c3 ?c4 ?c5; (case kA => exact rfl); (case kF => exact rfl); (case kK => assumption); (case k1 => k_asm); (case k2 => k_asm); (case k3 => k_asm); (case k4 => k_asm); (case k5 => k_asm); (case k6 => k_is); (case k7 => k_is); (case k8 => ktr_room); (case k9 => first | exact BindsTo.of_eq rfl | exact binds_K (by k_in) rfl (by k_is) rfl rfl rfl); (case c5 => decide); (case kB => exact locs rfl); (case c2 => exact rfl); (case c3 => exact rfl); (case c4 => exact rfl); k_whole; intro g' L' h' FG' F' N' B' X' T'; (try dsimp only); (try k_fold))
      k_steps
      all_goals (rename Obj.IsDictOf _ _ _ => hd9)
      all_goals first
        | (exfalso; omega)
        | exact retN (by simp_all) _ _ _ _ (isd_must (by with_unfolding_all exact hd9) (by first | rfl | assumption | exact decide_eq_true (by assumption) | exact decide_eq_false (by assumption) | (simp; omega))) (by k_asm) (by k_asm)
        | exact retL (by simp_all) _ _ _ _ (isd_must (by with_unfolding_all exact hd9) (by first | rfl | assumption | exact decide_eq_true (by assumption) | exact decide_eq_false (by assumption) | (simp; omega))) (by k_asm) (by k_asm)
        | fail "no end")
end
/-! is_due; the contracts on any ledger -/
section
local macro_rules | `(tactic| k_room) => `(tactic| ktr_room)
def DvOk (dv : Value) : Prop := dv = .none ∨ ∃ f t, dv = .int f t
theorem DF.ok {D : Int} {dv fv : Value} (h : DF D dv fv) : DvOk dv := by
  rcases h with ⟨h, _⟩ | ⟨f, t, _, h, _⟩
  · exact .inl h
  · exact .inr ⟨_, _, h⟩
theorem isdue_ct0 {prog : Program} {w : World} {p : Program} {loose : List Str} {mean : ExcName → Option Value} {mg mb : Str → Option Value}
    {dp un : Nat} {gd : Option (List Code)} {cn : Str} {cs : Scope} {a : Addr} {ccd : Value} {cl : List (Str × Addr)} {outer : List Env} {A₀ : Around} {base h₀ : Heap} {L : Addr} {m : Str → Option Value} {s : Shared}
    {Q E : Value → Shared → Prop} {pl pd : Nat} {own : List (Addr × Obj)} {D W now : Int} {dv : Value} {gap : Bool} {a1 a2 a3 a4 : Int} {k1 k2 k3 k4 u1 u2 tn : Tok}
    (B : Below A₀ base outer h₀) (F : Fr h₀ L s.heap m) (X : (hd.heap_39 w.params).In h₀) (N : News h₀ L s.heap ((pl, instObj 67 pd) :: (pd, dictOf [⟨a1, .str (Str.ofString "delay") k1, .int D u1⟩, ⟨a2, .str (Str.ofString "waiting") k2, .int W u2⟩, ⟨a3, .str (Str.ofString "due") k3, dv⟩, ⟨a4, .str (Str.ofString "has_gap") k4, .bool gap⟩] 4) :: own)) (T : Top p loose mean mg mb h₀) (hk : cs.kind = .function) (hdv : DvOk dv) (hdp : dp + 9 < recursionLimit) (hun : un + 90 < cLine)
    (ret : ∀ b h' tk', Fr h₀ L h' m → News h₀ L h' ((pl, instObj 67 pd) :: (pd, dictOf [⟨a1, .str (Str.ofString "delay") k1, .int D u1⟩, ⟨a2, .str (Str.ofString "waiting") k2, .int W u2⟩, ⟨a3, .str (Str.ofString "due") k3, dv⟩, ⟨a4, .str (Str.ofString "has_gap") k4, .bool gap⟩] 4) :: own) → Q (.bool b) { s with heap := h', toks := tk' }) :
    wpAny (model prog w) (ktrTop dp un gd cn cs L a ccd cl outer) (call (.ref 50) [.ref pl, .int now tn]) Q E s := by
  rcases hdv with rfl | ⟨f, t, rfl⟩
  all_goals (
      refine wpAny_call ?_
      k_dflt (refine' code_def ?k1 ?k2 ?k3 ?k4 ?k5 ?kA ?kF ?kK ?k6 ?k7 ?k8 ?k9 ?kB ?_ ?c2 ?c3 ?c4 ?c5; (case kA => exact rfl); (case kF => exact rfl); (case kK => assumption); (case k1 => k_asm); (case k2 => k_asm); (case k3 => k_asm); (case k4 => k_asm); (case k5 => k_asm); (case k6 => k_is); (case k7 => k_is); (case k8 => ktr_room); (case k9 => first | exact BindsTo.of_eq rfl | exact binds_K (by k_in) rfl (by k_is) rfl rfl rfl); (case c5 => decide); (case kB => exact locs rfl); (case c2 => exact rfl); (case c3 => exact rfl); (case c4 => exact rfl); k_whole; intro g' L' h' FG' F' N' B' X' T'; (try dsimp only); (try k_fold))
      k_steps
      all_goals first
        | exact ret _ _ _ (by k_asm) (by k_asm)
        | fail "no end")
theorem isdue_ct {prog : Program} {w : World} {p : Program} {loose : List Str} {mean : ExcName → Option Value} {mg mb : Str → Option Value}
    {dp un : Nat} {gd : Option (List Code)} {cn : Str} {cs : Scope} {a : Addr} {ccd : Value} {cl : List (Str × Addr)} {outer : List Env} {A₀ : Around} {base h₀ : Heap} {L : Addr} {m : Str → Option Value} {s : Shared}
    {Q E : Value → Shared → Prop} {pl pd : Nat} {news : List (Addr × Obj)} {D W now : Int} {dv : Value} {gap : Bool} {a1 a2 a3 a4 : Int} {k1 k2 k3 k4 u1 u2 tn : Tok}
    (B : Below A₀ base outer h₀) (F : Fr h₀ L s.heap m) (X : (hd.heap_39 w.params).In h₀) (N : News h₀ L s.heap news) (T : Top p loose mean mg mb h₀) (hk : cs.kind = .function) (h1 : (pl, instObj 67 pd) ∈ news) (h2 : (pd, dictOf [⟨a1, .str (Str.ofString "delay") k1, .int D u1⟩, ⟨a2, .str (Str.ofString "waiting") k2, .int W u2⟩, ⟨a3, .str (Str.ofString "due") k3, dv⟩, ⟨a4, .str (Str.ofString "has_gap") k4, .bool gap⟩] 4) ∈ news) (hdv : DvOk dv) (hdp : dp + 9 < recursionLimit) (hun : un + 90 < cLine)
    (ret : ∀ b h' tk', Fr h₀ L h' m → News h₀ L h' news → Q (.bool b) { s with heap := h', toks := tk' }) :
    wpAny (model prog w) (ktrTop dp un gd cn cs L a ccd cl outer) (call (.ref 50) [.ref pl, .int now tn]) Q E s :=
  isdue_ct0 (own := news) B F X (fun p hp => by
    rcases List.mem_cons.mp hp with rfl | hp
    · exact N _ h1
    rcases List.mem_cons.mp hp with rfl | hp
    · exact N _ h2
    exact N _ hp) T hk hdv hdp hun fun b h' tk' F' N' => ret b h' tk' F' fun p hp => N' p (.tail _ (.tail _ hp))
theorem upd_mem {d : Addr} {o : Obj} {news : List (Addr × Obj)} {g : Obj → List (Addr × Obj)} (U : UpdF d o news g) : (d, o) ∈ news ∧ ∀ o' p, p ∈ g o' → p = (d, o') ∨ (p ∈ news ∧ p.1 ≠ d) := by
  obtain ⟨pre, post, rfl, hg, ha, hb⟩ := U.split
  refine ⟨by simp, fun o' p hp => ?_⟩
  rw [hg] at hp
  rcases List.mem_append.mp hp with h | h
  · exact .inr ⟨by simp [h], ha p h⟩
  · rcases List.mem_cons.mp h with h | h
    · exact .inl h
    · exact .inr ⟨by simp [h], hb p h⟩
theorem news_same {h₀ h : Heap} {L d : Addr} {news : List (Addr × Obj)} {o : Obj} {p : Addr × Obj} (N : News h₀ L h news) (h1 : (d, o) ∈ news) (h2 : p ∈ news) (e : p.1 = d) : p = (d, o) := by
  have q1 := (N _ h1).1
  have q2 := (N _ h2).1
  rw [e, q1] at q2
  exact Prod.ext e (Option.some.inj q2).symm
def rest (news : List (Addr × Obj)) (t : List Nat) : List (Addr × Obj) := news.filter fun p => decide (p.1 ∉ t)
theorem rest_in {news : List (Addr × Obj)} {t : List Nat} {p : Addr × Obj} (h : p ∈ rest news t) : p ∈ news := (List.mem_filter.mp h).1
theorem rest_off {news : List (Addr × Obj)} {t : List Nat} : OwnOff (rest news t) t := by
  intro p hp b hb e
  have := (List.mem_filter.mp hp).2
  rw [e] at this
  exact (of_decide_eq_true this) hb
theorem in_rest {news : List (Addr × Obj)} {t : List Nat} {p : Addr × Obj} (h : p ∈ news) (n : p.1 ∉ t) : p ∈ rest news t := List.mem_filter.mpr ⟨h, decide_eq_true n⟩
theorem oct_ctU {prog : Program} {w : World} {p : Program} {loose : List Str} {mean : ExcName → Option Value} {mg mb : Str → Option Value}
    {dp un : Nat} {gd : Option (List Code)} {cn : Str} {cs : Scope} {a : Addr} {ccd : Value} {cl : List (Str × Addr)} {outer : List Env} {A₀ : Around} {base h₀ : Heap} {L : Addr} {m : Str → Option Value} {s : Shared}
    {Q E : Value → Shared → Prop} {pl pd : Nat} {news : List (Addr × Obj)} {g : Obj → List (Addr × Obj)} {D W now : Int} {dv : Value} {gap io hh : Bool} {a1 a2 a3 a4 : Int} {k1 k2 k3 k4 u1 u2 tn : Tok}
    (B : Below A₀ base outer h₀) (F : Fr h₀ L s.heap m) (X : (hd.heap_39 w.params).In h₀) (N : News h₀ L s.heap news) (T : Top p loose mean mg mb h₀) (hk : cs.kind = .function) (hpl : (pl, instObj 67 pd) ∈ news) (U : UpdF pd (dictOf [⟨a1, .str (Str.ofString "delay") k1, .int D u1⟩, ⟨a2, .str (Str.ofString "waiting") k2, .int W u2⟩, ⟨a3, .str (Str.ofString "due") k3, dv⟩, ⟨a4, .str (Str.ofString "has_gap") k4, .bool gap⟩] 4) news g) (l1 : pd < pl) (hW0 : 0 ≤ W) (hz : W = 0 → dv = .none) (hdp : dp + 9 < recursionLimit) (hun : un + 90 < cLine)
    (retN : (!io || gap || hh || decide (D ≤ 0) || decide (1 ≤ W)) = true → ∀ h' tk' u2' (_t8 : Tok) t, Fr h₀ L h' m → News h₀ L h' (g (dictOf [⟨a1, .str (Str.ofString "delay") k1, .int D u1⟩, ⟨a2, .str (Str.ofString "waiting") k2, .int 2 u2'⟩, ⟨a3, .str (Str.ofString "due") k3, dv⟩, ⟨a4, .str (Str.ofString "has_gap") k4, .bool (hh || !io)⟩] 4)) → Q (.str (Str.ofString "now") t) { s with heap := h', toks := tk' })
    (retL : (!io || gap || hh || decide (D ≤ 0) || decide (1 ≤ W)) = false → ∀ h' tk' u2' t' t, Fr h₀ L h' m → News h₀ L h' (g (dictOf [⟨a1, .str (Str.ofString "delay") k1, .int D u1⟩, ⟨a2, .str (Str.ofString "waiting") k2, .int 1 u2'⟩, ⟨a3, .str (Str.ofString "due") k3, (.int (now + D) t')⟩, ⟨a4, .str (Str.ofString "has_gap") k4, .bool (hh || !io)⟩] 4)) → Q (.str (Str.ofString "later") t) { s with heap := h', toks := tk' }) :
    wpAny (model prog w) (ktrTop dp un gd cn cs L a ccd cl outer) (call (.ref 36) [.ref pl, .bool io, .int now tn, .bool hh]) Q E s := by
  obtain ⟨m1, m2⟩ := upd_mem U
  have back : ∀ (h' : Heap) (o' : Obj), News h₀ L h' ((pl, instObj 67 pd) :: (pd, o') :: rest news [pl, pd]) → News h₀ L h' (g o') := fun h' o' N' p hp => by
    rcases m2 o' p hp with rfl | ⟨h1, h2⟩
    · exact N' _ (.tail _ (.head _))
    · by_cases e : p.1 = pl
      · rw [news_same N hpl h1 e]; exact N' _ (.head _)
      · exact N' _ (.tail _ (.tail _ (in_rest h1 (by simp [e, h2]))))
  refine oct_ct0 (own := rest news [pl, pd]) (u2 := u2) B F X (fun p hp => ?_) T hk rest_off l1 hW0 hz hdp hun (fun hb h' tk' u2' t F' N' => retN hb h' tk' u2' t t F' (back _ _ N')) (fun hb h' tk' u2' t' t F' N' => retL hb h' tk' u2' t' t F' (back _ _ N'))
  rcases List.mem_cons.mp hp with rfl | hp
  · exact N _ hpl
  rcases List.mem_cons.mp hp with rfl | hp
  · exact N _ m1
  exact N _ (rest_in hp)
theorem word_ctU {prog : Program} {w : World} {p : Program} {loose : List Str} {mean : ExcName → Option Value} {mg mb : Str → Option Value}
    {dp un : Nat} {gd : Option (List Code)} {cn : Str} {cs : Scope} {a : Addr} {ccd : Value} {cl : List (Str × Addr)} {outer : List Env} {A₀ : Around} {base h₀ : Heap} {L : Addr} {m : Str → Option Value} {s : Shared}
    {Q E : Value → Shared → Prop} {tw wa : Nat} {o : Obj} {its : Array Value} {e : Nat} {news : List (Addr × Obj)} {g1 : Obj → List (Addr × Obj)} {g2 : Obj → Obj → List (Addr × Obj)} {D now : Int} {fv : Value} {must gap2 io hh : Bool} {v1 tn : Tok}
    (B : Below A₀ base outer h₀) (F : Fr h₀ L s.heap m) (X : (hd.heap_39 w.params).In h₀) (N : News h₀ L s.heap news) (T : Top p loose mean mg mb h₀) (hk : cs.kind = .function) (U1 : UpdF tw o news g1) (ho : o.IsDictOf (strKind prog w) [(Str.ofString "delay", .int D v1), (Str.ofString "waiting", .ref wa), (Str.ofString "must", .bool must), (Str.ofString "gap", .bool gap2), (Str.ofString "first", fv)]) (U2 : ∀ a, UpdF wa (listOf its e) (g1 a) (g2 a)) (l1 : tw < wa) (hsz : its.size ≤ 1000) (hdp : dp + 9 < recursionLimit) (hun : un + 90 < cLine)
    (retN : (!io || hh || gap2 || decide (D = 0) || decide (0 < its.size)) = true → ∀ h' tk' o' t, o'.IsDictOf (strKind prog w) [(Str.ofString "delay", .int D v1), (Str.ofString "waiting", .ref wa), (Str.ofString "must", .bool true), (Str.ofString "gap", .bool (hh || !io)), (Str.ofString "first", fv)] → Fr h₀ L h' m → News h₀ L h' (g2 o' (listOf (its.push (.int now tn)) (e + 1))) → Q (.str (Str.ofString "now") t) { s with heap := h', toks := tk' })
    (retL : (!io || hh || gap2 || decide (D = 0) || decide (0 < its.size)) = false → ∀ h' tk' o' t, o'.IsDictOf (strKind prog w) [(Str.ofString "delay", .int D v1), (Str.ofString "waiting", .ref wa), (Str.ofString "must", .bool must), (Str.ofString "gap", .bool (hh || !io)), (Str.ofString "first", fv)] → Fr h₀ L h' m → News h₀ L h' (g2 o' (listOf (its.push (.int now tn)) (e + 1))) → Q (.str (Str.ofString "later") t) { s with heap := h', toks := tk' }) :
    wpAny (model prog w) (ktrTop dp un gd cn cs L a ccd cl outer) (call (.ref 92) [.ref tw, .bool io, .int now tn, .bool hh]) Q E s := by
  obtain ⟨m1, m2⟩ := upd_mem U1
  have m3 : (wa, listOf its e) ∈ news := by
    rcases m2 o _ (upd_mem (U2 o)).1 with h | h
    · exact absurd (Prod.mk.inj h).1.symm (Nat.ne_of_lt l1)
    · exact h.1
  have back : ∀ (h' : Heap) (a b : Obj), News h₀ L h' ((tw, a) :: (wa, b) :: rest news [tw, wa]) → News h₀ L h' (g2 a b) := fun h' a b N' p hp => by
    rcases (upd_mem (U2 a)).2 b p hp with rfl | ⟨h1, h2⟩
    · exact N' _ (.tail _ (.head _))
    · rcases m2 a p h1 with rfl | ⟨h3, h4⟩
      · exact N' _ (.head _)
      · exact N' _ (.tail _ (.tail _ (in_rest h3 (by simp [h2, h4]))))
  refine word_ct0 (own := rest news [tw, wa]) (e := e) B F X (fun p hp => ?_) T hk rest_off l1 hsz ho hdp hun (fun hb h' tk' o' t ho' F' N' => retN hb h' tk' o' t ho' F' (back _ _ _ N')) (fun hb h' tk' o' t ho' F' N' => retL hb h' tk' o' t ho' F' (back _ _ _ N'))
  rcases List.mem_cons.mp hp with rfl | hp
  · exact N _ m1
  rcases List.mem_cons.mp hp with rfl | hp
  · exact N _ m3
  exact N _ (rest_in hp)
theorem allLt_in {d : Nat} {l : List (Addr × Obj)} (h : AllLt d l) : ∀ p ∈ l, p.1 < d := by
  induction l with
  | nil => intro p hp; cases hp
  | cons q r ih =>
    intro p hp
    rcases List.mem_cons.mp hp with rfl | hp
    · exact h.1
    · exact ih h.2 p hp
theorem sent_ctU {prog : Program} {w : World} {p : Program} {loose : List Str} {mean : ExcName → Option Value} {mg mb : Str → Option Value}
    {dp un : Nat} {gd : Option (List Code)} {cn : Str} {cs : Scope} {a : Addr} {ccd : Value} {cl : List (Str × Addr)} {outer : List Env} {A₀ : Around} {base h₀ : Heap} {L : Addr} {m : Str → Option Value} {s : Shared}
    {Q E : Value → Shared → Prop} {pl pd tw wa : Nat} {o : Obj} {news : List (Addr × Obj)} {g1 : Obj → List (Addr × Obj)} {g2 : Obj → Obj → List (Addr × Obj)} {D W : Int} {dv fv : Value} {gap gap2 must : Bool} {a1 a2 a3 a4 : Int} {k1 k2 k3 k4 u1 u2 v1 : Tok}
    (B : Below A₀ base outer h₀) (F : Fr h₀ L s.heap m) (X : (hd.heap_39 w.params).In h₀) (N : News h₀ L s.heap news) (T : Top p loose mean mg mb h₀) (hk : cs.kind = .function) (hpl : (pl, instObj 67 pd) ∈ news) (U1 : UpdF pd (dictOf [⟨a1, .str (Str.ofString "delay") k1, .int D u1⟩, ⟨a2, .str (Str.ofString "waiting") k2, .int W u2⟩, ⟨a3, .str (Str.ofString "due") k3, dv⟩, ⟨a4, .str (Str.ofString "has_gap") k4, .bool gap⟩] 4) news g1) (U2 : ∀ a, UpdF tw o (g1 a) (g2 a)) (ho : o.IsDictOf (strKind prog w) [(Str.ofString "delay", .int D v1), (Str.ofString "waiting", .ref wa), (Str.ofString "must", .bool must), (Str.ofString "gap", .bool gap2), (Str.ofString "first", fv)]) (l1 : pd < pl) (l2 : pl < tw) (hdp : dp + 9 < recursionLimit) (hun : un + 90 < cLine)
    (ret : ∀ h' tk' o' wa' u2' v1', (∀ p ∈ news, p.1 < wa') → o'.IsDictOf (strKind prog w) [(Str.ofString "delay", .int D v1'), (Str.ofString "waiting", .ref wa'), (Str.ofString "must", .bool false), (Str.ofString "gap", .bool gap2), (Str.ofString "first", .none)] → Fr h₀ L h' m → News h₀ L h' ((wa', listOf #[] 0) :: g2 (dictOf [⟨a1, .str (Str.ofString "delay") k1, .int D u1⟩, ⟨a2, .str (Str.ofString "waiting") k2, .int 0 u2'⟩, ⟨a3, .str (Str.ofString "due") k3, .none⟩, ⟨a4, .str (Str.ofString "has_gap") k4, .bool gap⟩] 4) o') → Q (.bool true) { s with heap := h', toks := tk' }) :
    wpAny (model prog w) (ktrTop dp un gd cn cs L a ccd cl outer) (call (.ref 120) [.ref pl, .ref tw]) Q E s := by
  obtain ⟨m1, m2⟩ := upd_mem U1
  have m3 : (tw, o) ∈ news := by
    rcases m2 _ _ (upd_mem (U2 (dictOf [⟨a1, .str (Str.ofString "delay") k1, .int D u1⟩, ⟨a2, .str (Str.ofString "waiting") k2, .int W u2⟩, ⟨a3, .str (Str.ofString "due") k3, dv⟩, ⟨a4, .str (Str.ofString "has_gap") k4, .bool gap⟩] 4))).1 with h | h
    · exact absurd (Prod.mk.inj h).1.symm (Nat.ne_of_lt (Nat.lt_trans l1 l2))
    · exact h.1
  have back : ∀ (h' : Heap) (x : Addr × Obj) (a b : Obj), News h₀ L h' (x :: (pl, instObj 67 pd) :: (pd, a) :: (tw, b) :: rest news [pl, pd, tw]) → News h₀ L h' (x :: g2 a b) := fun h' x a b N' p hp => by
    rcases List.mem_cons.mp hp with rfl | hp
    · exact N' _ (.head _)
    rcases (upd_mem (U2 a)).2 b p hp with rfl | ⟨h1, h2⟩
    · exact N' _ (.tail _ (.tail _ (.tail _ (.head _))))
    · rcases m2 a p h1 with rfl | ⟨h3, h4⟩
      · exact N' _ (.tail _ (.tail _ (.head _)))
      · by_cases e : p.1 = pl
        · rw [news_same N hpl h3 e]; exact N' _ (.tail _ (.head _))
        · exact N' _ (.tail _ (.tail _ (.tail _ (.tail _ (in_rest h3 (by simp [h2, h4, e]))))))
  refine sent_ct0 (own := rest news [pl, pd, tw]) (W := W) (dv := dv) (gap := gap) (u2 := u2) B F X (fun p hp => ?_) T hk rest_off l1 l2 ho hdp hun (fun h' tk' o' wa' u2' v1' hlt ho' F' N' => ret h' tk' o' wa' u2' v1' (fun p hp => ?_) ho' F' (back _ _ _ _ N'))
  · rcases List.mem_cons.mp hp with rfl | hp
    · exact N _ hpl
    rcases List.mem_cons.mp hp with rfl | hp
    · exact N _ m1
    rcases List.mem_cons.mp hp with rfl | hp
    · exact N _ m3
    exact N _ (rest_in hp)
  · obtain ⟨z1, z2, z3, z4⟩ := hlt
    by_cases q1 : p.1 = pl
    · rw [q1]; exact z1
    by_cases q2 : p.1 = pd
    · rw [q2]; exact z2
    by_cases q3 : p.1 = tw
    · rw [q3]; exact z3
    exact allLt_in z4 p (in_rest hp (by simp [q1, q2, q3]))
end
/-! _law_event_right -/
section
def St (D W : Int) (dv fv : Value) (must : Bool) (k : Nat) : Prop :=
  must = decide (2 ≤ W) ∧ 0 ≤ W ∧ W ≤ 2 ∧ (W = 0 ↔ k = 0) ∧ DF D dv fv ∧ (W = 0 → dv = .none ∧ fv = .none)
theorem St.now {D W : Int} {dv fv : Value} {must : Bool} {k j : Nat} (h : St D W dv fv must k) (hj : 0 < j) : St D 2 dv fv true j :=
  ⟨rfl, by decide, by decide, ⟨fun e => absurd e (by decide), fun e => by omega⟩, h.2.2.2.2.1, fun e => absurd e (by decide)⟩
theorem St.sent {D : Int} : St D 0 .none .none false 0 :=
  ⟨rfl, by decide, by decide, ⟨fun _ => rfl, fun _ => rfl⟩, .inl ⟨rfl, rfl⟩, fun _ => ⟨rfl, rfl⟩⟩
theorem St.later {D W now : Int} {dv fv : Value} {must : Bool} {k j : Nat} {t t' : Tok} (h : St D W dv fv must k) (hk : k = 0) (hj : 0 < j) : St D 1 (.int (now + D) t) (.int now t') must j := by
  have hW := h.2.2.2.1.mpr hk
  have hm := h.1
  subst hW
  exact ⟨hm, by decide, by decide, ⟨fun e => absurd e (by decide), fun e => by omega⟩, .inr ⟨now, t, t', rfl, rfl⟩, fun e => absurd e (by decide)⟩
theorem St.bb {D W : Int} {dv fv : Value} {must io hh gap : Bool} {k : Nat} (h : St D W dv fv must k) (hD : 0 ≤ D) :
    (!io || hh || gap || decide (D = 0) || decide (0 < k)) = (!io || gap || hh || decide (D ≤ 0) || decide (1 ≤ W)) := by
  have e1 : decide (D = 0) = decide (D ≤ 0) := decide_eq_decide.mpr (by omega)
  have e2 : decide (0 < k) = decide (1 ≤ W) := decide_eq_decide.mpr (by have := h.2.1; have := h.2.2.2.1; omega)
  rw [e1, e2]
  cases io <;> cases hh <;> cases gap <;> rfl
theorem St.none {D W : Int} {dv fv : Value} {must : Bool} {k : Nat} (h : St D W dv fv must k) (e : W = 0) : dv = .none := (h.2.2.2.2.2 e).1
theorem bb_zero {io hh gap : Bool} {D : Int} {k : Nat} (h : (!io || hh || gap || decide (D = 0) || decide (0 < k)) = false) : k = 0 := by
  simp only [Bool.or_eq_false_iff, decide_eq_false_iff_not] at h
  omega
theorem tf_no {b : Bool} {P : Prop} (h1 : b = true) (h2 : b = false) : P := by rw [h1] at h2; cases h2
theorem st_m {D W : Int} {dv fv : Value} {must : Bool} {k : Nat} (h : St D W dv fv must k) : must = decide (2 ≤ W) := h.1
theorem st_df {D W : Int} {dv fv : Value} {must : Bool} {k : Nat} (h : St D W dv fv must k) : DF D dv fv := h.2.2.2.2.1
theorem st_w0 {D W : Int} {dv fv : Value} {must : Bool} {k : Nat} (h : St D W dv fv must k) : 0 ≤ W := h.2.1
theorem pool_d {pre : List Int} {d x : Int} (h : PoolInv pre d x) : 0 ≤ d := h.1
theorem pool_x0 {pre : List Int} {d x : Int} (h : PoolInv pre d x) : 0 ≤ x := h.2.2.1
theorem pool_x1 {pre : List Int} {d x : Int} (h : PoolInv pre d x) : x < 2147483647 := h.2.2.2
theorem add_K {prog : Program} {w : World} {A : Around} {E : Value → Shared → Prop} {s : Shared} {h₀ : Heap} {L : Addr} {m : Str → Option Value} {news : List (Addr × Obj)} {l b : Addr} {its its2 : Array Value} {Q : Value → Shared → Prop} (F : Fr h₀ L s.heap m) (N : News h₀ L s.heap news) (hl : s.heap.IsList l its) (hb : s.heap.IsList b its2)
    (hsz : its.size + its2.size ≤ sizeLine)
    (h : ∀ D h', Fr h₀ L h' m → News h₀ L h' ((D, listOf (its.toList ++ its2.toList).toArray 0) :: news) → (∀ p ∈ news, p.1 < D) → Q (.ref D) { s with heap := h' }) :
    wpAny (model prog w) A (binaryOp .Add (.ref l) (.ref b)) Q E s :=
  add_arrays (hsz := hsz) F N hl hb fun h' F' N' => h _ h' F' N' fun p hp => Heap.lt_size (N p hp).1
def Apart (own : List (Addr × Obj)) (ls pl pd tw wa : Nat) : Prop := OwnOff own [ls, pl, pd, tw, wa] ∧ tw < wa
theorem apart_lt {own news : List (Addr × Obj)} {ls pl pd tw wa wa' : Nat} (off : OwnOff own [ls, pl, pd, tw, wa]) (h : ∀ p ∈ news, p.1 < wa') (hs : ∀ p ∈ own, p ∈ news) (l4 : tw < wa') : Apart own ls pl pd tw wa' := by
  refine ⟨fun p hp b hb => ?_, l4⟩
  have q := h p (hs p hp)
  simp only [List.mem_cons, List.not_mem_nil, or_false] at hb
  rcases hb with rfl | rfl | rfl | rfl | rfl
  · exact off p hp _ (by simp)
  · exact off p hp _ (by simp)
  · exact off p hp _ (by simp)
  · exact off p hp _ (by simp)
  · exact Nat.ne_of_lt q
local macro_rules | `(tactic| k_room) => `(tactic| ktr_room)
local macro_rules | `(tactic| walk_at "subscriptTail") => `(tactic| (k_here; (with_reducible show wpAny _ _ (subscriptTail _ _ (Value.ref _) (Value.str _ _)) _ _ _); k_dflt (refine kda_item (knd := PySem.strKind _ _) (by k_asm) (by k_mem) (by k_asm) (strKind_is _ _ _ _) (by rfl) ?_)))
local macro_rules | `(tactic| walk_at "setItem ref str") => `(tactic| (k_here; k_dflt (refine' kda_set (knd := PySem.strKind _ _) ?F ?N ?U ?d (strKind_is _ _ _ _) ?z ?_; (case F => k_asm); (case N => k_asm); (case U => k_updF); (case d => k_asm); (case z => rw [sizeLine_eq]; exact Nat.le_of_ble_eq_true (by with_unfolding_all rfl))); intro h' o' F' N' hd'; (try kob_lit); (try dsimp only at N'); (try dsimp only)))
local macro_rules | `(tactic| walk_at "call builtin:len") => `(tactic| (k_here; (with_reducible show wpAny _ _ (call (Value.builtin "len") [Value.ref _]) _ _ _); k_dflt (refine len_list (News.isList (by k_asm) (by k_mem)) (by omega) ?_)))
local macro_rules | `(tactic| walk_at "call builtin:list.append") => `(tactic| (k_here; (with_reducible show wpAny _ _ (call (Value.builtin _) [Value.ref _, _]) _ _ _); k_dflt (refine' append_K ?k1 ?k2 ?k3 ?_ ?z; (case k1 => k_asm); (case k2 => k_asm); (case k3 => k_upd); (case z => (rw [PySem.sizeLine_eq]; omega)); k_whole); intro h' F' N'))
local macro_rules | `(tactic| walk_at "binaryOp Add ref ref") => `(tactic| (k_here; (with_reducible show wpAny _ _ (binaryOp _ (Value.ref _) (Value.ref _)) _ _ _); k_dflt ((refine' add_K ?F ?N ?a ?b ?z ?_); (case F => k_asm); (case N => k_asm); (case a => exact News.isList (by k_asm) (by k_mem)); (case b => exact News.isList (by k_asm) (by k_mem)); (case z => (rw [PySem.sizeLine_eq]; (simp only [List.size_toArray, List.length_cons, List.length_nil]); omega)); intro D9 h9 F9 N9 hlt9; (have hkp9 := hlt9); (try k_lt hlt9))))
local macro_rules | `(tactic| walk_at "call ref") => `(tactic| (k_here; (with_reducible show wpAny _ _ (call (Value.ref 85) [Value.ref _, Value.int _ _]) _ _ _); (k_dflt ((k_dflt (refine' take_ctU ?k1 ?k2 ?k3 ?k4 ?kU ?k5 ?kK ?ka ?kb ?kc ?kt ?ku ?kd ?kn ?_)); (case k1 => k_asm); (case k2 => k_asm); (case k3 => k_asm); (case k4 => k_asm); (case k5 => k_asm); (case kK => first | exact rfl | assumption); (case kd => ktr_room); (case kn => ktr_units); (case kU => k_updF); (case ka => first | omega | exact pool_d (by assumption)); (case kb => first | omega | exact pool_x0 (by assumption)); (case kc => first | omega | exact pool_x1 (by assumption)); (case kt => omega); (case ku => omega); intro r9 d9 x9 t9 t19 t29 n9 h9 tk9 hr0 hr1 hd0 hx0 hx1 F9 N9; (try dsimp only at N9); (try k_sweep); (try dsimp only); (try k_fold)))))
local macro_rules | `(tactic| walk_at "call ref") => `(tactic| (k_here; (with_reducible show wpAny _ _ (call (Value.ref 50) _) _ _ _); (k_dflt ((k_dflt (refine' isdue_ct ?k1 ?k2 ?k3 ?k4 ?k5 ?kK ?m1 ?m2 ?hdv ?kd ?kn ?_)); (case k1 => k_asm); (case k2 => k_asm); (case k3 => k_asm); (case k4 => k_asm); (case k5 => k_asm); (case kK => first | exact rfl | assumption); (case kd => ktr_room); (case kn => ktr_units); (case m1 => k_mem); (case m2 => k_mem); (case hdv => exact DF.ok (st_df (by assumption))); intro b9 h9 tk9 F9 N9; (try dsimp only at N9); (try k_sweep); (try dsimp only); (try k_fold)))))
local macro_rules | `(tactic| walk_at "call ref") => `(tactic| (k_here; (with_reducible show wpAny _ _ (call (Value.ref 120) [Value.ref _, Value.ref _]) _ _ _); (k_dflt ((k_dflt (refine' sent_ctU ?k1 ?k2 ?k3 ?k4 ?k5 ?kK ?hpl ?U1 ?U2 ?ho ?e1 ?e2 ?kd ?kn ?_)); (case k1 => k_asm); (case k2 => k_asm); (case k3 => k_asm); (case k4 => k_asm); (case k5 => k_asm); (case kK => first | exact rfl | assumption); (case kd => ktr_room); (case kn => ktr_units); (case hpl => k_mem); (case U1 => k_updF); (case U2 => (intro a9; k_updF)); (case ho => k_asm); (case e1 => omega); (case e2 => omega); intro h9 tk9 o9 wa9 u9 v9 hlt9 ho9 F9 N9; (have hkp9 := hlt9); (try k_lt hlt9); (try dsimp only at N9); (try k_sweep); (try dsimp only); (try k_fold)))))
local macro_rules | `(tactic| walk_at "call ref") => `(tactic| (k_here; (with_reducible show wpAny _ _ (call (Value.ref 92) [Value.ref _, Value.bool _, Value.int _ _, Value.bool _]) _ _ _); (k_dflt ((k_dflt (refine' word_ctU ?k1 ?k2 ?k3 ?k4 ?k5 ?kK ?U1 ?ho ?U2 ?e1 ?ksz ?kd ?kn ?_ ?_)); (case k1 => k_asm); (case k2 => k_asm); (case k3 => k_asm); (case k4 => k_asm); (case k5 => k_asm); (case kK => first | exact rfl | assumption); (case kd => ktr_room); (case kn => ktr_units); (case U1 => k_updF); (case ho => k_asm); (case U2 => (intro a9; k_updF)); (case e1 => omega); (case ksz => omega); (all_goals (intro hb9 h9 tk9 o9 t9 ho9 F9 N9; (have hc9 := (St.bb (by assumption) (by assumption)).symm.trans hb9); (try (have hk9 := bb_zero hb9)); (try dsimp only at N9); (try k_sweep); (try dsimp only); (try k_fold)))))))
local macro_rules | `(tactic| walk_at "call ref") => `(tactic| (k_here; (with_reducible show wpAny _ _ (call (Value.ref 36) _) _ _ _); (k_dflt ((k_dflt (refine' oct_ctU ?k1 ?k2 ?k3 ?k4 ?k5 ?kK ?hpl ?U ?e1 ?hW ?hz ?kd ?kn ?_ ?_)); (case k1 => k_asm); (case k2 => k_asm); (case k3 => k_asm); (case k4 => k_asm); (case k5 => k_asm); (case kK => first | exact rfl | assumption); (case kd => ktr_room); (case kn => ktr_units); (case hpl => k_mem); (case U => k_updF); (case e1 => omega); (case hW => exact st_w0 (by assumption)); (case hz => exact St.none (by assumption)); (all_goals (intro hb9 h9 tk9 u9 t8 t9 F9 N9; first | exact tf_no hb9 (by assumption) | exact tf_no (by assumption) hb9 | ((try dsimp only at N9); (try k_sweep); (try dsimp only); (try k_fold))))))))
theorem event_ct0 {prog : Program} {w : World} {p : Program} {loose : List Str} {mean : ExcName → Option Value} {mg mb : Str → Option Value}
    {dp un : Nat} {gd : Option (List Code)} {cn : Str} {cs : Scope} {a : Addr} {ccd : Value} {cl : List (Str × Addr)} {outer : List Env} {A₀ : Around} {base h₀ : Heap} {L : Addr} {m : Str → Option Value} {s : Shared}
    {Q E : Value → Shared → Prop} {ls pl pd tw wa : Nat} {o : Obj} {its : Array Value} {e n : Nat} {own : List (Addr × Obj)} {d x D W now : Int} {dv fv : Value} {must gap : Bool} {a1 a2 a3 a4 : Int} {k1 k2 k3 k4 u1 u2 v1 tn t1 t2 : Tok}
    (B : Below A₀ base outer h₀) (F : Fr h₀ L s.heap m) (X : (hd.heap_39 w.params).In h₀) (N : News h₀ L s.heap ((ls, listOf #[.int d t1, .int x t2] n) :: (pl, instObj 67 pd) :: (pd, dictOf [⟨a1, .str (Str.ofString "delay") k1, .int D u1⟩, ⟨a2, .str (Str.ofString "waiting") k2, .int W u2⟩, ⟨a3, .str (Str.ofString "due") k3, dv⟩, ⟨a4, .str (Str.ofString "has_gap") k4, .bool gap⟩] 4) :: (tw, o) :: (wa, listOf its e) :: own)) (T : Top p loose mean mg mb h₀) (hk : cs.kind = .function)
    (ho : o.IsDictOf (strKind prog w) [(Str.ofString "delay", .int D v1), (Str.ofString "waiting", .ref wa), (Str.ofString "must", .bool must), (Str.ofString "gap", .bool gap), (Str.ofString "first", fv)]) (hst : St D W dv fv must its.size) (hD : 0 ≤ D) (hsz : its.size ≤ 900) (hd0 : 0 ≤ d) (hx0 : 0 ≤ x) (hx1 : x < 2147483647)
    (off : OwnOff own [ls, pl, pd, tw, wa]) (l1 : ls < pd) (l2 : pd < pl) (l3 : pl < tw) (l4 : tw < wa)
    (hdp : dp + 15 < recursionLimit) (hun : un + 150 < cLine)
    (ret : ∀ (d' x' : Int) (t1' t2' : Tok) (n' : Nat) (W' : Int) (dv' : Value) (gap' : Bool) (u2' : Tok) (o' : Obj) (wa' : Nat) (its' : Array Value) (e' : Nat) (must' : Bool) (fv' : Value) (v1' : Tok) (h' : Heap) (tk' : Nat), Fr h₀ L h' m → News h₀ L h' ((ls, listOf #[.int d' t1', .int x' t2'] n') :: (pl, instObj 67 pd) :: (pd, dictOf [⟨a1, .str (Str.ofString "delay") k1, .int D u1⟩, ⟨a2, .str (Str.ofString "waiting") k2, .int W' u2'⟩, ⟨a3, .str (Str.ofString "due") k3, dv'⟩, ⟨a4, .str (Str.ofString "has_gap") k4, .bool gap'⟩] 4) :: (tw, o') :: (wa', listOf its' e') :: own) → o'.IsDictOf (strKind prog w) [(Str.ofString "delay", .int D v1'), (Str.ofString "waiting", .ref wa'), (Str.ofString "must", .bool must'), (Str.ofString "gap", .bool gap'), (Str.ofString "first", fv')] → St D W' dv' fv' must' its'.size → its'.size ≤ its.size + 1 → Apart own ls pl pd tw wa' → 0 ≤ d' → 0 ≤ x' → x' < 2147483647 → Q (.bool true) { s with heap := h', toks := tk' }) :
    wpAny (model prog w) (ktrTop dp un gd cn cs L a ccd cl outer) (call (.ref 113) [.ref ls, .ref pl, .ref tw, .int now tn]) Q E s := by
  refine wpAny_call ?_
  k_dflt (refine' code_def ?k1 ?k2 ?k3 ?k4 ?k5 ?kA ?kF ?kK ?k6 ?k7 ?k8 ?k9 ?kB ?_ ?c2 ?c3 ?c4 ?c5; (case kA => exact rfl); (case kF => exact rfl); (case kK => assumption); (case k1 => k_asm); (case k2 => k_asm); (case k3 => k_asm); (case k4 => k_asm); (case k5 => k_asm); (case k6 => k_is); (case k7 => k_is); (case k8 => ktr_room); (case k9 => first | exact BindsTo.of_eq rfl | exact binds_K (by k_in) rfl (by k_is) rfl rfl rfl); (case c5 => decide); (case kB => exact locs rfl); (case c2 => exact rfl); (case c3 => exact rfl); (case c4 => exact rfl); k_whole; intro g' L' h' FG' F' N' B' X' T'; (try dsimp only); (try k_fold))
  k_steps
  all_goals (rename News h₀ L _ _ => N8)
  all_goals (rename Obj.IsDictOf _ _ _ => D8)
  all_goals first
    | (refine' ret _ _ _ _ _ _ _ _ _ _ _ _ _ _ _ _ _ _ ?kF ?kN ?kD ?kS ?kZ ?kA ?kd ?kx ?ky
       (case kD => with_unfolding_all exact D8)
       (case kF => k_asm)
       (case kN => (refine' List.forall_mem_cons.mpr ⟨N8 _ (by k_memK), ?_⟩; refine' List.forall_mem_cons.mpr ⟨N8 _ (by k_memK), ?_⟩; refine' List.forall_mem_cons.mpr ⟨N8 _ (by k_memK), ?_⟩; refine' List.forall_mem_cons.mpr ⟨N8 _ (by k_memK), ?_⟩; refine' List.forall_mem_cons.mpr ⟨N8 _ (by k_memK), ?_⟩; exact fun p hp => N8 p (by k_ownIn)))
       (case kS => first | exact St.sent | exact St.now (by assumption) (by simp) | exact St.later (by assumption) (by assumption) (by simp) | assumption)
       (case kZ => first | omega | (simp; done) | (simp; omega))
       (case kA => first | exact ⟨off, l4⟩ | exact apart_lt off (show ∀ p ∈ _, Prod.fst p < _ by assumption) (by intro p hp; k_ownIn) (by omega))
       (case kd => omega)
       (case kx => omega)
       (case ky => omega))
    | fail "no end"
end
/-! the law's loop -/
section
def Jn (prog : Program) (w : World) (ls pl pd tw : Nat) (D a1 a2 a3 a4 : Int) (k1 k2 k3 k4 u1 : Tok) (i : Nat) (m : Str → Option Value) (nx : List (Addr × Obj)) : Prop :=
  ∃ (d x : Int) (t1 t2 : Tok) (n : Nat) (W : Int) (u2 : Tok) (dv : Value) (gap : Bool) (o : Obj) (wa : Nat) (its : Array Value) (e : Nat) (must : Bool) (fv : Value) (v1 : Tok) (now : Int) (tn : Tok), nx = [(ls, listOf #[.int d t1, .int x t2] n), (pl, instObj 67 pd), (pd, dictOf [⟨a1, .str (Str.ofString "delay") k1, .int D u1⟩, ⟨a2, .str (Str.ofString "waiting") k2, .int W u2⟩, ⟨a3, .str (Str.ofString "due") k3, dv⟩, ⟨a4, .str (Str.ofString "has_gap") k4, .bool gap⟩] 4), (tw, o), (wa, listOf its e)] ∧ o.IsDictOf (strKind prog w) [(Str.ofString "delay", .int D v1), (Str.ofString "waiting", .ref wa), (Str.ofString "must", .bool must), (Str.ofString "gap", .bool gap), (Str.ofString "first", fv)] ∧ St D W dv fv must its.size ∧ its.size ≤ i ∧ tw < wa ∧ 0 ≤ d ∧ 0 ≤ x ∧ x < 2147483647 ∧ m (Str.ofString "source") = some (.ref ls) ∧ m (Str.ofString "policy") = some (.ref pl) ∧ m (Str.ofString "twin") = some (.ref tw) ∧ m (Str.ofString "now") = some (.int now tn)
theorem tb_of_off {own : List (Addr × Obj)} {a b c d e : Nat} {o1 o2 o3 o4 o5 : Obj} (h : OwnOff own [a, b, c, d, e]) : TbOff own [(a, o1), (b, o2), (c, o3), (d, o4), (e, o5)] := by
  intro p hp q hq
  simp only [List.mem_cons, List.not_mem_nil, or_false] at hq
  rcases hq with rfl | rfl | rfl | rfl | rfl
  all_goals exact h p hp _ (by simp)
theorem off_of_tb {own : List (Addr × Obj)} {a b c d e : Nat} {o1 o2 o3 o4 o5 : Obj} (h : TbOff own [(a, o1), (b, o2), (c, o3), (d, o4), (e, o5)]) : OwnOff own [a, b, c, d, e] := by
  intro p hp q hq
  simp only [List.mem_cons, List.not_mem_nil, or_false] at hq
  rcases hq with rfl | rfl | rfl | rfl | rfl
  · exact h p hp (_, o1) (by simp)
  · exact h p hp (_, o2) (by simp)
  · exact h p hp (_, o3) (by simp)
  · exact h p hp (_, o4) (by simp)
  · exact h p hp (_, o5) (by simp)
theorem names_form {m : Str → Option Value} {x a b c d : Str} {v va vb vc vd : Option Value} (ha : m a = va) (hb : m b = vb) (hc : m c = vc) (hd : m d = vd) :
    (fun y => if y = x then v else m y) = fun y => if y = x then v else if y = a then va else if y = b then vb else if y = c then vc else if y = d then vd else m y := by
  funext y
  by_cases h0 : y = x
  · simp [h0]
  by_cases h1 : y = a
  · subst h1; simp [h0, ha]
  by_cases h2 : y = b
  · subst h2; simp [h0, h1, hb]
  by_cases h3 : y = c
  · subst h3; simp [h0, h1, h2, hc]
  by_cases h4 : y = d
  · subst h4; simp [h0, h1, h2, h3, hd]
  simp [h0, h1, h2, h3, h4]
section
variable {prog : Program} {w : World} {A : Around} {E : Value → Shared → Prop} {s : Shared} {env : Env} {h₀ : Heap} {body : List Stmt} {Q : Flow → Shared → Prop}
theorem loop_inv {r : Addr} {b₀ : Int} {t₀ u₀ v₀ : Tok} {m : Str → Option Value} {news : List (Addr × Obj)} {ls pl pd tw : Nat} {D a1 a2 a3 a4 : Int} {k1 k2 k3 k4 u1 : Tok}
    {d x : Int} {t1 t2 : Tok} {n : Nat} {W : Int} {u2 : Tok} {dv : Value} {gap : Bool} {o : Obj} {wa : Nat} {its : Array Value} {e : Nat} {must : Bool} {fv : Value} {v1 : Tok} {now : Int} {tn : Tok}
    (hh : A.handled = none) (hr : IsRange s.heap r 0 b₀ 1 t₀ u₀ v₀) (hb0 : 0 ≤ b₀) (hb1 : b₀ ≤ 800) (F : Fr h₀ env.locals s.heap m) (N : News h₀ env.locals s.heap news)
    (m1 : m (Str.ofString "source") = some (.ref ls)) (m2 : m (Str.ofString "policy") = some (.ref pl)) (m3 : m (Str.ofString "twin") = some (.ref tw)) (m4 : m (Str.ofString "now") = some (.int now tn))
    (e1 : (ls, listOf #[.int d t1, .int x t2] n) ∈ news) (e2 : (pl, instObj 67 pd) ∈ news) (e3 : (pd, dictOf [⟨a1, .str (Str.ofString "delay") k1, .int D u1⟩, ⟨a2, .str (Str.ofString "waiting") k2, .int W u2⟩, ⟨a3, .str (Str.ofString "due") k3, dv⟩, ⟨a4, .str (Str.ofString "has_gap") k4, .bool gap⟩] 4) ∈ news) (e4 : (tw, o) ∈ news)
    (ho : o.IsDictOf (strKind prog w) [(Str.ofString "delay", .int D v1), (Str.ofString "waiting", .ref wa), (Str.ofString "must", .bool must), (Str.ofString "gap", .bool gap), (Str.ofString "first", fv)]) (e5 : (wa, listOf its e) ∈ news) (hst : St D W dv fv must its.size) (hz : its.size = 0) (l4 : tw < wa) (hd0 : 0 ≤ d) (hx0 : 0 ≤ x) (hx1 : x < 2147483647)
    (turn : ∀ (i : Nat) (k : Int) (t : Tok) (u : Str → Option Value) (h : Heap) (tk : Nat) (own : List (Addr × Obj)) (d x : Int) (t1 t2 : Tok) (n : Nat) (W : Int) (u2 : Tok) (dv : Value) (gap : Bool) (o : Obj) (wa : Nat) (its : Array Value) (e : Nat) (must : Bool) (fv : Value) (v1 : Tok) (now : Int) (tn : Tok), i < 800 → OwnOff own [ls, pl, pd, tw, wa] → tw < wa → o.IsDictOf (strKind prog w) [(Str.ofString "delay", .int D v1), (Str.ofString "waiting", .ref wa), (Str.ofString "must", .bool must), (Str.ofString "gap", .bool gap), (Str.ofString "first", fv)] → St D W dv fv must its.size → its.size ≤ i → 0 ≤ d → 0 ≤ x → x < 2147483647 →
      Fr h₀ env.locals h (fun y => if y = Str.ofString "turn" then some (.int k t) else if y = Str.ofString "source" then some (.ref ls) else if y = Str.ofString "policy" then some (.ref pl) else if y = Str.ofString "twin" then some (.ref tw) else if y = Str.ofString "now" then some (.int now tn) else u y) → News h₀ env.locals h ((ls, listOf #[.int d t1, .int x t2] n) :: (pl, instObj 67 pd) :: (pd, dictOf [⟨a1, .str (Str.ofString "delay") k1, .int D u1⟩, ⟨a2, .str (Str.ofString "waiting") k2, .int W u2⟩, ⟨a3, .str (Str.ofString "due") k3, dv⟩, ⟨a4, .str (Str.ofString "has_gap") k4, .bool gap⟩] 4) :: (tw, o) :: (wa, listOf its e) :: own) →
      wpAny (model prog w) A (execs body env) (TbPost h₀ env.locals (Jn prog w ls pl pd tw D a1 a2 a3 a4 k1 k2 k3 k4 u1 (i + 1)) own { s with heap := h, toks := tk } Q) E { s with heap := h, toks := tk })
    (done : ∀ (m₁ : Str → Option Value) (nx : List (Addr × Obj)) (h : Heap) (tk : Nat), Fr h₀ env.locals h m₁ → News h₀ env.locals h nx → Q .next { s with heap := h, toks := tk }) :
    wpAny (model prog w) A (pyIter (.ref r)) (fun it s₂ => LoopAtV prog w A h₀ env (Str.ofString "turn") body Q E it s₂) E s := by
  refine tbr_invG (n := (b₀ - 0).toNat) (news := [(ls, listOf #[.int d t1, .int x t2] n), (pl, instObj 67 pd), (pd, dictOf [⟨a1, .str (Str.ofString "delay") k1, .int D u1⟩, ⟨a2, .str (Str.ofString "waiting") k2, .int W u2⟩, ⟨a3, .str (Str.ofString "due") k3, dv⟩, ⟨a4, .str (Str.ofString "has_gap") k4, .bool gap⟩] 4), (tw, o), (wa, listOf its e)]) (Jn prog w ls pl pd tw D a1 a2 a3 a4 k1 k2 k3 k4 u1) hh hr (small_one (by omega) (by omega) (by omega) (by omega)) (rangeSize_nat _ _) F ?_ ⟨d, x, t1, t2, n, W, u2, dv, gap, o, wa, its, e, must, fv, v1, now, tn, rfl, ho, hst, by omega, l4, hd0, hx0, hx1, m1, m2, m3, m4⟩ ?_ ?_
  · intro p hp
    simp only [List.mem_cons, List.not_mem_nil, or_false] at hp
    rcases hp with rfl | rfl | rfl | rfl | rfl
    · exact N _ e1
    · exact N _ e2
    · exact N _ e3
    · exact N _ e4
    · exact N _ e5
  · rintro i k t m₁ nx h tk own hik hoff ⟨d, x, t1, t2, n, W, u2, dv, gap, o, wa, its, e, must, fv, v1, now, tn, rfl, ho, hst, hsz, l4, hd0, hx0, hx1, m1, m2, m3, m4⟩ F₁ N₁
    have hi : i < 800 := by
      have := (List.getElem?_eq_some_iff.mp hik).1
      rw [rangeKs_length] at this
      omega
    rw [names_form m1 m2 m3 m4] at F₁
    exact turn i k t m₁ h tk own d x t1 t2 n W u2 dv gap o wa its e must fv v1 now tn hi (off_of_tb hoff) l4 ho hst hsz hd0 hx0 hx1 F₁ N₁
  · intro m₁ nx h tk _ F' N'
    exact done m₁ nx h tk F' N'
theorem turn_end {ls pl pd tw : Nat} {D a1 a2 a3 a4 : Int} {k1 k2 k3 k4 u1 : Tok} {L : Addr} {i : Nat} {m : Str → Option Value} {own news : List (Addr × Obj)} {s₁ : Shared} {h' : Heap} {tk : Nat}
    {d x : Int} {t1 t2 : Tok} {n : Nat} {W : Int} {u2 : Tok} {dv : Value} {gap : Bool} {o : Obj} {wa : Nat} {its : Array Value} {e : Nat} {must : Bool} {fv : Value} {v1 : Tok} {now : Int} {tn : Tok}
    (F : Fr h₀ L h' m) (m1 : m (Str.ofString "source") = some (.ref ls)) (m2 : m (Str.ofString "policy") = some (.ref pl)) (m3 : m (Str.ofString "twin") = some (.ref tw)) (m4 : m (Str.ofString "now") = some (.int now tn))
    (ho : o.IsDictOf (strKind prog w) [(Str.ofString "delay", .int D v1), (Str.ofString "waiting", .ref wa), (Str.ofString "must", .bool must), (Str.ofString "gap", .bool gap), (Str.ofString "first", fv)]) (N : News h₀ L h' news) (hn : ∀ p ∈ [(ls, listOf #[.int d t1, .int x t2] n), (pl, instObj 67 pd), (pd, dictOf [⟨a1, .str (Str.ofString "delay") k1, .int D u1⟩, ⟨a2, .str (Str.ofString "waiting") k2, .int W u2⟩, ⟨a3, .str (Str.ofString "due") k3, dv⟩, ⟨a4, .str (Str.ofString "has_gap") k4, .bool gap⟩] 4), (tw, o), (wa, listOf its e)], p ∈ news) (hown : ∀ p ∈ own, p ∈ news)
    (hst : St D W dv fv must its.size) (hsz : its.size ≤ i) (hap : Apart own ls pl pd tw wa) (hd0 : 0 ≤ d) (hx0 : 0 ≤ x) (hx1 : x < 2147483647) :
    TbEnd h₀ L (Jn prog w ls pl pd tw D a1 a2 a3 a4 k1 k2 k3 k4 u1 i) own s₁ { s₁ with heap := h', toks := tk } :=
  ⟨h', tk, m, news, [(ls, listOf #[.int d t1, .int x t2] n), (pl, instObj 67 pd), (pd, dictOf [⟨a1, .str (Str.ofString "delay") k1, .int D u1⟩, ⟨a2, .str (Str.ofString "waiting") k2, .int W u2⟩, ⟨a3, .str (Str.ofString "due") k3, dv⟩, ⟨a4, .str (Str.ofString "has_gap") k4, .bool gap⟩] 4), (tw, o), (wa, listOf its e)], rfl, F, N, hn, hown, tb_of_off hap.1, d, x, t1, t2, n, W, u2, dv, gap, o, wa, its, e, must, fv, v1, now, tn, rfl, ho, hst, hsz, hap.2, hd0, hx0, hx1, m1, m2, m3, m4⟩
end
end
/-! the law -/
section
local macro_rules | `(tactic| walk_at "nothing of this name") => `(tactic| fail)
local macro_rules | `(tactic| walk_at "subscriptTail") => `(tactic| (k_here; (with_reducible show wpAny _ _ (subscriptTail _ _ (Value.ref _) (Value.str _ _)) _ _ _); k_dflt (refine kda_item (knd := PySem.strKind _ _) (by k_asm) (by k_mem) (by k_asm) (strKind_is _ _ _ _) (by rfl) ?_)))
local macro_rules | `(tactic| walk_at "setItem ref str") => `(tactic| (k_here; k_dflt (refine' kda_set (knd := PySem.strKind _ _) ?F ?N ?U ?d (strKind_is _ _ _ _) ?z ?_; (case F => k_asm); (case N => k_asm); (case U => k_updF); (case d => k_asm); (case z => rw [sizeLine_eq]; exact Nat.le_of_ble_eq_true (by with_unfolding_all rfl))); intro h' o' F' N' hd'; (try kob_lit); (try dsimp only at N'); (try dsimp only)))
local macro_rules | `(tactic| walk_at "binaryOp Mult int int") => `(tactic| (k_here; first
  | (refine PySem.P.mul_int ?_ (pool_mulA (by assumption) (by assumption) (by assumption) (by assumption)))
  | (refine PySem.P.mul_int ?_ (pool_mulB (by assumption) (by assumption) (by assumption) (by assumption)))))
local macro_rules | `(tactic| walk_at "call ref") => `(tactic| (k_here; (with_reducible show wpAny _ _ (call (Value.ref 85) [Value.ref _, Value.int _ _]) _ _ _); (k_dflt ((k_dflt (refine' take_ctU ?k1 ?k2 ?k3 ?k4 ?kU ?k5 ?kK ?ka ?kb ?kc ?kt ?ku ?kd ?kn ?_)); (case k1 => k_asm); (case k2 => k_asm); (case k3 => k_asm); (case k4 => k_asm); (case k5 => k_asm); (case kK => first | exact rfl | assumption); (case kd => ktr_room); (case kn => ktr_units); (case kU => k_updF); (case ka => first | omega | exact pool_d (by assumption)); (case kb => first | omega | exact pool_x0 (by assumption)); (case kc => first | omega | exact pool_x1 (by assumption)); (case kt => omega); (case ku => omega); intro r9 d9 x9 t9 t19 t29 n9 h9 tk9 hr0 hr1 hd0 hx0 hx1 F9 N9; (try dsimp only at N9); (try k_sweep); (try dsimp only); (try k_fold)))))
local macro_rules | `(tactic| walk_at "call ref") => `(tactic| (k_here; (with_reducible show wpAny _ _ (call (Value.ref 106) [Value.ref _, Value.ref _, Value.int _ _]) _ _ _); (k_dflt ((k_dflt (refine' asked_ct ?k1 ?k2 ?k3 ?k4 ?k5 ?kK ?m1 ?m2 ?m3 ?ho ?hm ?hdf ?kd ?kn ?_)); (case k1 => k_asm); (case k2 => k_asm); (case k3 => k_asm); (case k4 => k_asm); (case k5 => k_asm); (case kK => first | exact rfl | assumption); (case kd => ktr_room); (case kn => ktr_units); (case m1 => k_mem); (case m2 => k_mem); (case m3 => k_mem); (case ho => k_asm); (case hm => exact st_m (by assumption)); (case hdf => exact st_df (by assumption)); intro h9 tk9 F9 N9; (try dsimp only at N9); (try k_sweep); (try dsimp only); (try k_fold)))))
local macro_rules | `(tactic| walk_at "call ref") => `(tactic| (k_here; (with_reducible show wpAny _ _ (call (Value.ref 50) _) _ _ _); (k_dflt ((k_dflt (refine' isdue_ct ?k1 ?k2 ?k3 ?k4 ?k5 ?kK ?m1 ?m2 ?hdv ?kd ?kn ?_)); (case k1 => k_asm); (case k2 => k_asm); (case k3 => k_asm); (case k4 => k_asm); (case k5 => k_asm); (case kK => first | exact rfl | assumption); (case kd => ktr_room); (case kn => ktr_units); (case m1 => k_mem); (case m2 => k_mem); (case hdv => exact DF.ok (st_df (by assumption))); intro b9 h9 tk9 F9 N9; (try dsimp only at N9); (try k_sweep); (try dsimp only); (try k_fold)))))
local macro_rules | `(tactic| walk_at "call ref") => `(tactic| (k_here; (with_reducible show wpAny _ _ (call (Value.ref 120) [Value.ref _, Value.ref _]) _ _ _); (k_dflt ((k_dflt (refine' sent_ctU ?k1 ?k2 ?k3 ?k4 ?k5 ?kK ?hpl ?U1 ?U2 ?ho ?e1 ?e2 ?kd ?kn ?_)); (case k1 => k_asm); (case k2 => k_asm); (case k3 => k_asm); (case k4 => k_asm); (case k5 => k_asm); (case kK => first | exact rfl | assumption); (case kd => ktr_room); (case kn => ktr_units); (case hpl => k_mem); (case U1 => k_updF); (case U2 => (intro a9; k_updF)); (case ho => k_asm); (case e1 => omega); (case e2 => omega); intro h9 tk9 o9 wa9 u9 v9 hlt9 ho9 F9 N9; (have hkp9 := hlt9); (try k_lt hlt9); (try dsimp only at N9); (try k_sweep); (try dsimp only); (try k_fold)))))
local macro_rules | `(tactic| walk_at "call ref") => `(tactic| (k_here; (with_reducible show wpAny _ _ (call (Value.ref 113) _) _ _ _); (k_dflt ((k_dflt (refine' event_ct0 ?k1 ?k2 ?k3 ?k4 ?k5 ?kK ?ho ?hst ?hD ?hsz ?hd ?hx ?hx1 ?off ?l1 ?l2 ?l3 ?l4 ?kd ?kn ?_)); (case k1 => k_asm); (case k2 => k_asm); (case k3 => k_asm); (case k4 => k_asm); (case k5 => k_asm); (case kK => first | exact rfl | assumption); (case kd => ktr_room); (case kn => ktr_units); (case ho => k_asm); (case hst => assumption); (case hD => omega); (case hsz => omega); (case hd => omega); (case hx => omega); (case hx1 => omega); (case off => assumption); (case l1 => omega); (case l2 => omega); (case l3 => omega); (case l4 => omega); intro d9 x9 t19 t29 n9 W9 dv9 gap9 u9 o9 wa9 its9 e9 must9 fv9 v9 h9 tk9 F9 N9 ho9 hst9 hs9 hap9 hd9 hx9 hx19; (have hof9 := hap9.1); (have hlt9 := hap9.2); (try dsimp only at N9); (try k_sweep); (try dsimp only); (try k_fold)))))
local macro_rules | `(tactic| walk_at "pyIter ref") => `(tactic| (k_here; (with_reducible show wpAny _ _ (pyIter (Value.ref _)) (fun it s₂ => LoopAtV _ _ _ _ _ (Str.ofString "turn") _ _ _ it s₂) _ _); (rename IsRange _ _ _ _ _ _ _ _ => rg9); (k_dflt ((refine' loop_inv ?hh rg9 ?b0 ?b1 ?kF ?kN ?m1 ?m2 ?m3 ?m4 ?e1 ?e2 ?e3 ?e4 ?ho ?e5 ?hst ?hz ?l4 ?hd ?hx ?hx1 ?turn ?done); (case hh => exact rfl); (case b0 => omega); (case b1 => omega); (case kF => k_asm); (case kN => k_asm); (case m1 => with_unfolding_all rfl); (case m2 => with_unfolding_all rfl); (case m3 => with_unfolding_all rfl); (case m4 => with_unfolding_all rfl); (case e1 => k_mem); (case e2 => k_mem); (case e3 => k_mem); (case e4 => k_mem); (case ho => ((rename Obj.IsDictOf _ _ _ => D8); with_unfolding_all exact D8)); (case e5 => k_mem); (case hst => exact St.sent); (case hz => rfl); (case l4 => omega); (case hd => omega); (case hx => omega); (case hx1 => omega); (case' turn => (intro i9 k9 t9 u9 h9 tk9 own9 d9 x9 t19 t29 n9 W9 u29 dv9 gap9 o9 wa9 its9 e9 must9 fv9 v19 now9 tn9 hi9 hof9 hl9 ho9 hst9 hs9 hd9 hx9 hx19 F9 N9; (try k_sweep); (try dsimp only); (try k_fold))); (case' done => (intro m9 nx9 h9 tk9 F9 N9; (try k_sweep); (try dsimp only); (try k_fold)))))))
local macro_rules | `(tactic| walk_at "TbEnd") => `(tactic| (k_here; (k_dflt ((refine' turn_end ?kF ?m1 ?m2 ?m3 ?m4 ?ho ?kN ?hn ?hown ?hst ?hsz ?hap ?hd ?hx ?hx1); (case kF => k_asm); (case m1 => with_unfolding_all rfl); (case m2 => with_unfolding_all rfl); (case m3 => with_unfolding_all rfl); (case m4 => with_unfolding_all rfl); (case ho => ((rename Obj.IsDictOf _ _ _ => D8); with_unfolding_all exact D8)); (case kN => k_asm); (case hn => (refine' List.forall_mem_cons.mpr ⟨by k_memK, ?_⟩; refine' List.forall_mem_cons.mpr ⟨by k_memK, ?_⟩; refine' List.forall_mem_cons.mpr ⟨by k_memK, ?_⟩; refine' List.forall_mem_cons.mpr ⟨by k_memK, ?_⟩; refine' List.forall_mem_cons.mpr ⟨by k_memK, ?_⟩; exact List.forall_mem_nil _)); (case hown => (intro p hp; k_ownIn)); (case hst => first | exact St.sent | assumption); (case hsz => first | omega | (simp; done) | (simp; omega)); (case hap => first | assumption | exact apart_lt (by assumption) (show ∀ p ∈ _, Prod.fst p < _ by assumption) (by intro p hp; k_ownIn) (by omega)); (case hd => omega); (case hx => omega); (case hx1 => omega)))))
theorem main : PySem.Challenge.rw_nu0116_01.Holds := hd (by
  (k_with "pyIter ref" => (k_of "number" => k_state (fun pre digits mixed => PoolInv pre digits mixed) "digits" "mixed"))
  (k_with "state" => first | exact pool_start | exact pool_keep (by assumption) | exact pool_growA (by assumption) (by assumption) (by assumption) (by assumption) | exact pool_growB (by assumption) (by assumption) (by assumption) (by assumption))
  k_go0
  (all_goals try k_fold)
  k_steps)
end
end Nu
theorem PySem.Challenge.cw_nu0116_01_holds : PySem.Challenge.rw_nu0116_01.Holds := by
  exact Nu.main
#print axioms PySem.Challenge.cw_nu0116_01_holds
