import PyProof.Rows.All
import Wide.All
import OpenK.AllK
import Wide.FinOn
import PySem.Challenge.RW_sa0097_01
open PySem PySem.W PyProof.Rows
set_option Elab.async false
set_option maxRecDepth 100000
set_option maxHeartbeats 8000000
namespace Mine
open_top hd for PySem.Challenge.rw_sa0097_01
end Mine
open PySem.Spec PySem.Calls
namespace Mine
theorem rat_num {x y g : Int} (hy : y ≠ 0) (hg : g = (if 0 < y then (Int.gcd x y : Int) else 0 - (Int.gcd x y : Int))) :
    x.fdiv g = (Rat.divInt x y).num ∧ y.fdiv g = ((Rat.divInt x y).den : Int) := by
  have hp : 0 < Int.gcd x y := Int.gcd_pos_of_ne_zero_right x hy
  have dx : (Int.gcd x y : Int) ∣ x := Int.gcd_dvd_left ..
  have dy : (Int.gcd x y : Int) ∣ y := Int.gcd_dvd_right ..
  rw [Rat.num_divInt, Rat.den_divInt, if_neg hy, Int.gcd_comm y x]
  subst hg
  by_cases h : 0 < y
  · rw [if_pos h, Int.fdiv_eq_ediv_of_dvd dx, Int.fdiv_eq_ediv_of_dvd dy, Int.sign_eq_one_of_pos h, Int.one_mul]
    refine ⟨rfl, ?_⟩
    rw [Int.natCast_ediv, Int.natAbs_of_nonneg (by omega)]
  · have e : (0 : Int) - (Int.gcd x y : Int) = - (Int.gcd x y : Int) := by omega
    have hn : y < 0 := by omega
    rw [if_neg h, e, Int.fdiv_eq_ediv_of_dvd (Int.neg_dvd.mpr dx), Int.fdiv_eq_ediv_of_dvd (Int.neg_dvd.mpr dy), Int.sign_eq_neg_one_of_neg hn, Int.ediv_neg, Int.ediv_neg, Int.neg_mul, Int.one_mul]
    refine ⟨(Int.neg_ediv_of_dvd dx).symm, ?_⟩
    rw [Int.natCast_ediv, show ((y.natAbs : Nat) : Int) = -y by omega, Int.neg_ediv_of_dvd dy]

theorem log2_le {m n k : Nat} (h : m ≤ n) (hm : m ≠ 0) (hn : n.log2 < k) : m.log2 < k := by
  have hn0 : n ≠ 0 := by omega
  rw [Nat.log2_lt hm]
  rw [Nat.log2_lt hn0] at hn
  omega
theorem gcd_log2 {x y : Int} (hy : y ≠ 0) (hl : y.natAbs.log2 < 9000) : (Int.gcd x y : Int).natAbs.log2 < 9000 ∧ (0 - (Int.gcd x y : Int)).natAbs.log2 < 9000 := by
  have hp : 0 < Int.gcd x y := Int.gcd_pos_of_ne_zero_right x hy
  have hle : Int.gcd x y ≤ y.natAbs := Nat.le_of_dvd (by omega) (Nat.gcd_dvd_right _ _)
  have e1 : (Int.gcd x y : Int).natAbs = Int.gcd x y := by omega
  have e2 : (0 - (Int.gcd x y : Int)).natAbs = Int.gcd x y := by omega
  rw [e1, e2]
  exact ⟨log2_le hle (by omega) hl, log2_le hle (by omega) hl⟩
theorem radd_eq (a b : Rat) : Rat.divInt (a.num * b.den + b.num * a.den) ((a.den : Int) * b.den) = a + b := by
  rw [Rat.add_def', ← Int.natCast_mul, Rat.divInt_ofNat]
theorem rsub_eq (a b : Rat) : Rat.divInt (a.num * b.den - b.num * a.den) ((a.den : Int) * b.den) = a - b := by
  rw [Rat.sub_def', ← Int.natCast_mul, Rat.divInt_ofNat]
theorem rmul_eq (a b : Rat) : Rat.divInt (a.num * b.num) ((a.den : Int) * b.den) = a * b := by
  rw [Rat.mul_def', ← Int.natCast_mul, Rat.divInt_ofNat]
theorem rdiv_eq (a b : Rat) : Rat.divInt (a.num * b.den) ((a.den : Int) * b.num) = a / b := by
  rw [Rat.div_def, Rat.inv_def, ← Rat.divInt_mul_divInt, Rat.num_divInt_den]

noncomputable abbrev MTok := Tok
noncomputable abbrev Led := List (Addr × Obj)

noncomputable def Fresh (news add : Led) : Prop := ∀ p ∈ news, ∀ q ∈ add, p.1 ≠ q.1
/-- cur is nw with new objects laid on top -/
noncomputable def Ext (nw cur : Led) : Prop := ∃ add, cur = add ++ nw ∧ Fresh nw add

/-- what a call of the def at f gives back: `post v cur`, where cur is the ledger behind it -/
noncomputable def Cl (w : World) (f : Addr) (vs : List Value) (k : Nat) (news : Led) (post : Value → Led → Prop) : Prop :=
  ∀ (p : Program) (loose : List Str) (mean : ExcName → Option Value) (mg mb : Str → Option Value) (dp un : Nat) (gd : Option (List Code)) (cn : Str) (cs : Scope) (a : Addr) (ccd : Value) (cl : List (Str × Addr)) (outer : List Env) (A₀ : Around) (base h₀ : Heap) (L : Addr) (m : Str → Option Value) (s : Shared) (Q E : Value → Shared → Prop),
    Below A₀ base outer h₀ → Fr h₀ L s.heap m → (hd.heap_39 w.params).In h₀ → News h₀ L s.heap news → Top p loose mean mg mb h₀ → cs.kind = .function →
    dp + k < recursionLimit → un + 8 * k + 100 < cLine →
    (∀ (v : Value) (cur : Led) (h' : Heap) (tk' : Nat), Fr h₀ L h' m → News h₀ L h' cur → Ext news cur → post v cur → Q v { s with heap := h', toks := tk' }) →
    wpAny (model PySem.Challenge.rw_sa0097_01.row.prog w) (ktrTop dp un gd cn cs L a ccd cl outer) (call (.ref f) vs) Q E s

theorem Cl.use {w : World} {f : Addr} {vs : List Value} {k : Nat} {news : Led} {post : Value → Led → Prop}
    {p : Program} {loose : List Str} {mean : ExcName → Option Value} {mg mb : Str → Option Value} {dp un : Nat} {gd : Option (List Code)} {cn : Str} {cs : Scope} {a : Addr} {ccd : Value} {cl : List (Str × Addr)} {outer : List Env} {A₀ : Around} {base h₀ : Heap} {L : Addr} {m : Str → Option Value} {s : Shared} {Q E : Value → Shared → Prop}
    (B : Below A₀ base outer h₀) (F : Fr h₀ L s.heap m) (X : (hd.heap_39 w.params).In h₀) (N : News h₀ L s.heap news) (T : Top p loose mean mg mb h₀) (hk : cs.kind = .function)
    (C : Cl w f vs k news post) (hd : dp + k < recursionLimit) (hu : un + 8 * k + 100 < cLine)
    (ret : ∀ (v : Value) (cur : Led) (h' : Heap) (tk' : Nat), Fr h₀ L h' m → News h₀ L h' cur → Ext news cur → post v cur → Q v { s with heap := h', toks := tk' }) :
    wpAny (model PySem.Challenge.rw_sa0097_01.row.prog w) (ktrTop dp un gd cn cs L a ccd cl outer) (call (.ref f) vs) Q E s :=
  C p loose mean mg mb dp un gd cn cs a ccd cl outer A₀ base h₀ L m s Q E B F X N T hk hd hu ret

theorem fresh_nil {nw : Led} : Fresh nw [] := fun _ _ _ h => nomatch h
theorem fresh_one {nw : Led} {D : Addr} {o : Obj} (h : ∀ p ∈ nw, p.1 ≠ D) : Fresh nw [(D, o)] := fun p hp q hq => by
  rw [List.mem_singleton.mp hq]; exact h p hp
theorem Fresh.append {nw a b : Led} (h1 : Fresh nw a) (h2 : Fresh (a ++ nw) b) : Fresh nw (b ++ a) := fun p hp q hq => by
  rcases List.mem_append.mp hq with hq | hq
  · exact h2 p (List.mem_append_right _ hp) q hq
  · exact h1 p hp q hq
theorem Fresh.cons {nw a : Led} {D : Addr} {o : Obj} (h1 : Fresh nw a) (h2 : ∀ p ∈ nw, p.1 ≠ D) : Fresh nw ((D, o) :: a) := fun p hp q hq => by
  rcases List.mem_cons.mp hq with rfl | hq
  · exact h2 p hp
  · exact h1 p hp q hq
theorem Ext.refl (nw : Led) : Ext nw nw := ⟨[], rfl, fresh_nil⟩
theorem Ext.trans {a b c : Led} (h1 : Ext a b) (h2 : Ext b c) : Ext a c := by
  obtain ⟨x, rfl, fx⟩ := h1
  obtain ⟨y, rfl, fy⟩ := h2
  exact ⟨y ++ x, (List.append_assoc ..).symm, fx.append fy⟩
theorem Ext.one {nw : Led} {D : Addr} {o : Obj} (h : ∀ p ∈ nw, p.1 ≠ D) : Ext nw ((D, o) :: nw) := ⟨[(D, o)], rfl, fresh_one h⟩
theorem Ext.oneLt {nw : Led} {D : Addr} {o : Obj} (h : ∀ p ∈ nw, p.1 < D) : Ext nw ((D, o) :: nw) := Ext.one fun p hp => Nat.ne_of_lt (h p hp)
theorem Ext.sub {a b : Led} (h : Ext a b) : ∀ p ∈ a, p ∈ b := by
  obtain ⟨x, rfl, _⟩ := h
  exact fun p hp => List.mem_append_right _ hp
theorem fresh_sub {n₀ nw add : Led} (h : Fresh nw add) (hs : ∀ p ∈ n₀, p ∈ nw) : Fresh n₀ add := fun p hp => h p (hs p hp)

/-- the ratio q as a tuple of two ints -/
noncomputable abbrev rObj (q : Rat) (t u : MTok) (n : Nat) : Obj := { cls := .type "tuple", data := .seq #[.int q.num t, .int q.den u] n }

/-- where an object that nothing changes stands: on the ledger, or among the text's own -/
noncomputable def Src (w : World) (nw : Led) (A : Addr) (o : Obj) : Prop := (A, o) ∈ nw ∨ (hd.heap_39 w.params).lookup A = some o
theorem Src.up {w : World} {n₀ nw : Led} {A : Addr} {o : Obj} (S : Src w n₀ A o) (h : ∀ p ∈ n₀, p ∈ nw) : Src w nw A o := S.elim (fun q => .inl (h _ q)) .inr
theorem Src.here {w : World} {nw : Led} {A : Addr} {o : Obj} (h : (A, o) ∈ nw) : Src w nw A o := .inl h
theorem Src.int {w : World} {nw : Led} {A : Addr} {k : Int} {t u : MTok} {n : Nat} (h : (A, ({ cls := .type "tuple", data := .seq #[.int k t, .int 1 u] n } : Obj)) ∈ nw) : Src w nw A (rObj (k : Rat) t u n) := .inl h
theorem Src.int2 {w : World} {nw : Led} {A : Addr} {k : Int} {t u : MTok} {n : Nat} {q : Rat} (h : (A, ({ cls := .type "tuple", data := .seq #[.int k t, .int 1 u] n } : Obj)) ∈ nw) (e : q = (k : Rat)) : Src w nw A (rObj q t u n) := by
  subst e; exact .inl h
theorem Src.get {w : World} {nw : Led} {A L : Addr} {o : Obj} {h₀ h : Heap} {m : Str → Option Value} (S : Src w nw A o) (N : News h₀ L h nw) (F : Fr h₀ L h m) (X : (hd.heap_39 w.params).In h₀) : h.get? A = some o :=
  S.elim (fun q => (N _ q).1) fun q => (X.keeps F.keep) _ _ q

/-- a new ratio -/
noncomputable def NewR (news cur : Led) (v : Value) (q : Rat) : Prop := ∃ D t u n, v = .ref D ∧ cur = (D, rObj q t u n) :: news ∧ ∀ p ∈ news, p.1 ≠ D

/-- a ratio, new or one of the text's own -/
noncomputable def NewQ (w : World) (news : Led) (q : Rat) (v : Value) (cur : Led) : Prop := ∃ add D t u n, v = .ref D ∧ cur = add ++ news ∧ Fresh news add ∧ Src w add D (rObj q t u n)
theorem mem_up {x : Addr × Obj} {n₀ nw : Led} (h : x ∈ n₀) (hs : ∀ p ∈ n₀, p ∈ nw) : x ∈ nw := hs x h
section
variable {prog : Program} {w : World} {Ar : Around} {E : Value → Shared → Prop} {s : Shared} {h₀ : Heap} {L A : Addr} {m : Str → Option Value} {nw : Led}
theorem rat_item0 {value slice : PySem.Expr} {q : Rat} {t u z : MTok} {n : Nat} {Q : Value → Shared → Prop} (N : News h₀ L s.heap nw) (F : Fr h₀ L s.heap m) (X : (hd.heap_39 w.params).In h₀) (S : Src w nw A (rObj q t u n))
    (h : Q (.int q.num t) s) (hs : subscripted slice false (.ref A) (.int 0 z) = operate [.ref A, .int 0 z] (getItem (.ref A) (.int 0 z)) := by with_unfolding_all rfl) :
    wpAny (model prog w) Ar (subscriptTail value slice (.ref A) (.int 0 z)) Q E s :=
  item_tupleT (l := [.int q.num t, .int q.den u]) (j := 0) ⟨_, S.get N F X, rfl, n, rfl⟩ (by decide) (by decide) rfl rfl h hs
theorem rat_item1 {value slice : PySem.Expr} {q : Rat} {t u z : MTok} {n : Nat} {Q : Value → Shared → Prop} (N : News h₀ L s.heap nw) (F : Fr h₀ L s.heap m) (X : (hd.heap_39 w.params).In h₀) (S : Src w nw A (rObj q t u n))
    (h : Q (.int q.den u) s) (hs : subscripted slice false (.ref A) (.int 1 z) = operate [.ref A, .int 1 z] (getItem (.ref A) (.int 1 z)) := by with_unfolding_all rfl) :
    wpAny (model prog w) Ar (subscriptTail value slice (.ref A) (.int 1 z)) Q E s :=
  item_tupleT (l := [.int q.num t, .int q.den u]) (j := 1) ⟨_, S.get N F X, rfl, n, rfl⟩ (by decide) (by decide) rfl rfl h hs
end

/-- small: both ints below 2^64 -/
noncomputable def Sm (q : Rat) : Prop := q.num.natAbs < 18446744073709551616 ∧ q.den < 18446744073709551616
theorem mulOk {x y : Int} (h : x.natAbs < 18446744073709551616) : IntMulOk x y := IntMulOk.of_left (intBits_le_64 (by omega) (by omega))
theorem den_ok {x y : Int} (hx : x.natAbs < 18446744073709551616) (hy : y.natAbs < 18446744073709551616) (hx0 : x ≠ 0) (hy0 : y ≠ 0) : x * y ≠ 0 ∧ (x * y).natAbs.log2 < 9000 := by
  have hne : x * y ≠ 0 := Int.mul_ne_zero hx0 hy0
  refine ⟨hne, ?_⟩
  rw [Nat.log2_lt (by omega), Int.natAbs_mul]
  have h1 : x.natAbs * y.natAbs < 18446744073709551616 * 18446744073709551616 := Nat.mul_lt_mul'' hx hy
  refine Nat.lt_of_lt_of_le h1 ?_
  calc 18446744073709551616 * 18446744073709551616 = 2 ^ 128 := by decide
    _ ≤ 2 ^ 9000 := Nat.pow_le_pow_right (by decide) (by decide)

/-- a list is on a ledger: said for a method's look-up -/
noncomputable def Seen (p : Addr × Obj) (nw : Led) : Prop := p ∈ nw
/-- vs are n ratios, f 0 .. f (n - 1) -/
noncomputable def LV (w : World) (nw : Led) (vs : List Value) (n : Nat) (f : Int → Rat) : Prop :=
  vs.length = n ∧ ∀ i : Nat, i < n → ∃ A t u c, vs[i]? = some (.ref A) ∧ Src w nw A (rObj (f i) t u c)
theorem LV.up {w : World} {n₀ nw : Led} {vs : List Value} {n : Nat} {f : Int → Rat} (h : LV w n₀ vs n f) (hs : ∀ p ∈ n₀, p ∈ nw) : LV w nw vs n f :=
  ⟨h.1, fun i hi => let ⟨A, t, u, c, e, S⟩ := h.2 i hi; ⟨A, t, u, c, e, S.up hs⟩⟩
theorem LV.nil {w : World} {nw : Led} {f : Int → Rat} : LV w nw [] 0 f := ⟨rfl, fun _ h => absurd h (Nat.not_lt_zero _)⟩
theorem LV.snoc {w : World} {nw : Led} {vs : List Value} {n : Nat} {f : Int → Rat} {A : Addr} {t u : MTok} {c : Nat} (h : LV w nw vs n f) (S : Src w nw A (rObj (f n) t u c)) : LV w nw (vs ++ [.ref A]) (n + 1) f := by
  refine ⟨by rw [List.length_append, h.1]; rfl, fun i hi => ?_⟩
  by_cases e : i < n
  · obtain ⟨B, t', u', c', e', S'⟩ := h.2 i e
    exact ⟨B, t', u', c', by rw [List.getElem?_append_left (by rw [h.1]; exact e)]; exact e', S'⟩
  · have : i = n := by omega
    subst this
    exact ⟨A, t, u, c, by rw [List.getElem?_append_right (by rw [h.1]; exact Nat.le_refl _), h.1, Nat.sub_self]; rfl, S⟩
theorem LV.le {w : World} {nw : Led} {vs : List Value} {n : Nat} {f g : Int → Rat} (h : LV w nw vs n f) (e : ∀ i : Nat, i < n → f i = g i) : LV w nw vs n g :=
  ⟨h.1, fun i hi => let ⟨A, t, u, c, e', S⟩ := h.2 i hi; ⟨A, t, u, c, e', e i hi ▸ S⟩⟩

section
variable {prog : Program} {w : World} {Ar : Around} {E : Value → Shared → Prop} {s : Shared} {h₀ : Heap} {L : Addr} {m : Str → Option Value} {nw n₀ n₁ : Led}
theorem list_item {value slice : PySem.Expr} {l : Addr} {vs : List Value} {c n : Nat} {f : Int → Rat} {k : Int} {z : MTok} {Q : Value → Shared → Prop} (N : News h₀ L s.heap nw) (hl : (l, listOf vs.toArray c) ∈ n₁) (hsub : ∀ p ∈ n₁, p ∈ nw) (hv : LV w n₀ vs n f) (hn : (n : Int) < 2 ^ 62) (h0 : 0 ≤ k) (h1 : k < n)
    (h : ∀ A t u c, Src w n₀ A (rObj (f k) t u c) → Q (.ref A) s)
    (hs : subscripted slice false (.ref l) (.int k z) = operate [.ref l, .int k z] (getItem (.ref l) (.int k z)) := by with_unfolding_all rfl) :
    wpAny (model prog w) Ar (subscriptTail value slice (.ref l) (.int k z)) Q E s := by
  have hl' : s.heap.IsList l vs.toArray := ⟨_, (N _ (hsub _ hl)).1, rfl, c, rfl⟩
  obtain ⟨A, t, u, c', e, S⟩ := hv.2 k.toNat (by omega)
  rw [show ((k.toNat : Nat) : Int) = k by omega] at S
  exact tail_any hl'.typeIs slot_list_getitem.lookup (wpAny_getItem_list hl' h0 (by omega) (by simpa using e) (h A t u c' S)) hs
theorem list_len {l : Addr} {vs : List Value} {c n : Nat} {f : Int → Rat} {Q : Value → Shared → Prop} (N : News h₀ L s.heap nw) (hl : (l, listOf vs.toArray c) ∈ n₁) (hsub : ∀ p ∈ n₁, p ∈ nw) (hv : LV w n₀ vs n f) (hn : (n : Int) < 2 ^ 62)
    (h : Q (.int (n : Int) (s.toks + 1)) { s with toks := s.toks + 1 + 1 }) : wpAny (model prog w) Ar (call (.builtin "len") [.ref l]) Q E s :=
  kst_len N (hsub _ hl) hv.1 (by omega) h
theorem upd_of {d : Addr} {o o' : Obj} : ∀ {pre post : Led}, (∀ p ∈ pre, p.1 ≠ d) → (∀ p ∈ post, p.1 ≠ d) → Upd d o o' (pre ++ (d, o) :: post) (pre ++ (d, o') :: post)
  | [], _, _, h2 => .head h2
  | _ :: _, _, h1, h2 => .tail (h1 _ (.head _)) (upd_of (fun p hp => h1 p (.tail _ hp)) h2)
theorem list_append {l : Addr} {vs : List Value} {c : Nat} {x : Value} {pre post : Led} {Q : Value → Shared → Prop} (F : Fr h₀ L s.heap m) (N : News h₀ L s.heap (pre ++ (l, listOf vs.toArray c) :: post)) (h1 : ∀ p ∈ pre, p.1 ≠ l) (h2 : ∀ p ∈ post, p.1 ≠ l) (hsz : vs.length ≤ sizeLine)
    (h : ∀ h', Fr h₀ L h' m → News h₀ L h' (pre ++ (l, listOf (vs ++ [x]).toArray (c + 1)) :: post) → Q .none { s with heap := h' }) : wpAny (model prog w) Ar (call (.builtin "list.append") [.ref l, x]) Q E s :=
  append_K F N (upd_of h1 h2) (fun h' F' N' => h h' F' (by rw [List.push_toArray] at N'; exact N')) (by simpa using hsz)

noncomputable def rD (q : Rat) : PyData := .tuple [.int q.num, .int q.den]
theorem rat_reads {h : Heap} {A : Addr} {q : Rat} {t u : MTok} {n : Nat} (e : h.get? A = some (rObj q t u n)) : ∃ as, Reads h (.ref A) (rD q) as :=
  ⟨_, reads_tuple_at e rfl rfl (.cons (.int _ _) (.cons (.int _ _) .nil))⟩
theorem rD_eqv (a b : Rat) : PyData.eqv (rD a) (rD b) = decide (a = b) := by
  by_cases h : a = b
  · subst h; simp [rD, PyData.eqv, PyData.eqvAll]
  · rw [decide_eq_false h]
    simp only [rD, PyData.eqv, PyData.eqvAll, Bool.and_true]
    rw [Bool.eq_false_iff]
    intro q
    simp only [Bool.and_eq_true, beq_iff_eq] at q
    exact h (Rat.ext q.1 (by omega))
theorem rD_shaped (a : Rat) : SeqAt.shaped (rD a) = true := by
  simp [SeqAt.shaped, rD, PyData.canLay0, PyData.canLayAll0, PyData.depth, PyData.depthAll]
theorem rat_ne {A B : Addr} {a b : Rat} {t u t' u' : MTok} {c c' : Nat} {Q : Value → Shared → Prop} (N : News h₀ L s.heap nw) (F : Fr h₀ L s.heap m) (X : (hd.heap_39 w.params).In h₀) (S : Src w nw A (rObj a t u c)) (S' : Src w nw B (rObj b t' u' c')) (hu : Ar.units + 64 < cLine)
    (h : Q (.bool (!decide (a = b))) s) : wpAny (model prog w) Ar (compareOp .NotEq (.ref A) (.ref B)) Q E s := by
  obtain ⟨_, r1⟩ := rat_reads (S.get N F X)
  obtain ⟨_, r2⟩ := rat_reads (S'.get N F X)
  exact ne_dataH r1 r2 (rD_shaped a) (rD_shaped b) hu (by rw [rD_eqv]; exact h)

theorem rat_eq {A B : Addr} {a b : Rat} {t u t' u' : MTok} {c c' : Nat} {Q : Value → Shared → Prop} (N : News h₀ L s.heap nw) (F : Fr h₀ L s.heap m) (X : (hd.heap_39 w.params).In h₀) (S : Src w nw A (rObj a t u c)) (S' : Src w nw B (rObj b t' u' c')) (hu : Ar.units + 64 < cLine)
    (h : Q (.bool (decide (a = b))) s) : wpAny (model prog w) Ar (compareOp .Eq (.ref A) (.ref B)) Q E s := by
  obtain ⟨_, r1⟩ := rat_reads (S.get N F X)
  obtain ⟨_, r2⟩ := rat_reads (S'.get N F X)
  exact eq_dataH r1 r2 (rD_shaped a) (rD_shaped b) hu (by rw [rD_eqv]; exact h)
theorem lv_reads (N : News h₀ L s.heap nw) (F : Fr h₀ L s.heap m) (X : (hd.heap_39 w.params).In h₀) : ∀ {vs : List Value} {n : Nat} {f : Int → Rat}, LV w nw vs n f → ∃ as, ReadsAll s.heap vs ((List.range n).map fun i : Nat => rD (f (i : Int))) as
  | [], n, f, hv => by
    have e : n = 0 := by rw [← hv.1]; rfl
    subst e
    exact ⟨_, .nil⟩
  | v :: vs, n, f, hv => by
    obtain ⟨k, rfl⟩ : ∃ k, n = k + 1 := ⟨vs.length, by rw [← hv.1]; rfl⟩
    obtain ⟨A, t, u, c, e, S⟩ := hv.2 0 (Nat.succ_pos _)
    have ev : v = .ref A := by simpa using e
    subst ev
    have hv' : LV w nw vs k (fun i => f (i + 1)) := ⟨by have := hv.1; simpa using this, fun i hi => by
      obtain ⟨B, t', u', c', e', S'⟩ := hv.2 (i + 1) (by omega)
      exact ⟨B, t', u', c', by simpa using e', by simpa using S'⟩⟩
    obtain ⟨as, r⟩ := lv_reads N F X hv'
    obtain ⟨bs, r0⟩ := rat_reads (S.get N F X)
    refine ⟨bs ++ as, ?_⟩
    rw [List.range_succ_eq_map, List.map_cons, List.map_map]
    refine ReadsAll.cons (by simpa using r0) ?_
    have e2 : ((fun i : Nat => rD (f (i : Int))) ∘ Nat.succ) = fun i : Nat => rD (f ((i : Int) + 1)) := by
      funext i; simp
    rw [e2]
    exact r
theorem eqvAll_refl (f : Nat → Rat) : ∀ l : List Nat, PyData.eqvAll (l.map fun i => rD (f i)) (l.map fun i => rD (f i)) = true
  | [] => by simp [PyData.eqvAll]
  | i :: l => by simp only [List.map_cons, PyData.eqvAll, rD_eqv, decide_true, Bool.true_and]; exact eqvAll_refl f l
theorem canLayAll (f : Nat → Rat) : ∀ l : List Nat, PyData.canLayAll0 (l.map fun i => rD (f i)) = true ∧ PyData.depthAll (l.map fun i => rD (f i)) ≤ 2
  | [] => by simp [PyData.canLayAll0, PyData.depthAll]
  | i :: l => by
    have h := canLayAll f l
    simp only [List.map_cons, PyData.canLayAll0, PyData.depthAll, h.1, Bool.and_true]
    refine ⟨by simp [rD, PyData.canLay0, PyData.canLayAll0], ?_⟩
    have : (rD (f i)).depth ≤ 2 := by simp [rD, PyData.depth, PyData.depthAll]
    omega
theorem list_shaped (f : Nat → Rat) (l : List Nat) : SeqAt.shaped (.list (l.map fun i => rD (f i))) = true := by
  have h := canLayAll f l
  simp only [SeqAt.shaped, PyData.canLay0, PyData.depth, h.1, Bool.true_and]
  exact decide_eq_true (by omega)
theorem lists_eq {l l' : Addr} {vs vs' : List Value} {c c' n : Nat} {f g : Int → Rat} (N : News h₀ L s.heap nw) (F : Fr h₀ L s.heap m) (X : (hd.heap_39 w.params).In h₀) (hl : (l, listOf vs.toArray c) ∈ nw) (hl' : (l', listOf vs'.toArray c') ∈ nw)
    (hv : LV w nw vs n f) (hv' : LV w nw vs' n g) (hu : Ar.units + 64 < cLine) (e : ∀ i : Nat, i < n → f i = g i) :
    (∀ {Q : Value → Shared → Prop}, Q (.bool true) s → wpAny (model prog w) Ar (compareOp .Eq (.ref l) (.ref l')) Q E s) ∧ ∀ {Q : Value → Shared → Prop}, Q (.bool false) s → wpAny (model prog w) Ar (compareOp .NotEq (.ref l) (.ref l')) Q E s := by
  obtain ⟨_, r1⟩ := lv_reads N F X (hv.le e)
  obtain ⟨_, r2⟩ := lv_reads N F X hv'
  have q1 := reads_list_at (N.get hl) rfl rfl (by simpa using r1)
  have q2 := reads_list_at (N.get hl') rfl rfl (by simpa using r2)
  have sh := list_shaped (fun i => g (i : Int)) (List.range n)
  have ee : PyData.eqv (.list ((List.range n).map fun i : Nat => rD (g (i : Int)))) (.list ((List.range n).map fun i : Nat => rD (g (i : Int)))) = true := by
    rw [PyData.eqv]; exact eqvAll_refl (fun i => g (i : Int)) _
  exact ⟨fun h => eq_dataH q1 q2 sh sh hu (by rw [ee]; exact h), fun h => ne_dataH q1 q2 sh sh hu (by rw [ee]; exact h)⟩
end

/-- a new list of ratios -/
noncomputable def NewL (w : World) (n : Nat) (f : Int → Rat) (v : Value) (cur : Led) : Prop := ∃ D vs c, v = .ref D ∧ (D, listOf vs.toArray c) ∈ cur ∧ LV w cur vs n f
theorem my_method {prog : Program} {w : World} {A : Around} {E : Value → Shared → Prop} {s : Shared} {h₀ : Heap} {L l : Addr} {vs : List Value} {c : Nat} {n₁ nw : Led} {pl : Sem Bool} {Q : Value × List Value → Shared → Prop} (N : News h₀ L s.heap nw) (hm : Seen (l, listOf vs.toArray c) n₁) (hs : ∀ p ∈ n₁, p ∈ nw) (h : Q (.builtin "list.append", [.ref l]) s) :
    wpAny (model prog w) A (getMethod (.ref l) (Str.ofString "append") pl) Q E s := getMethod_append_N N (hs _ hm) h
theorem my_tuple {prog : Program} {w : World} {A : Around} {E : Value → Shared → Prop} {s : Shared} {h₀ : Heap} {L : Addr} {m : Str → Option Value} {news : Led} {vs : List Value} {Q : Value → Shared → Prop} (F : Fr h₀ L s.heap m) (N : News h₀ L s.heap news)
    (h : ∀ D h', Fr h₀ L h' m → News h₀ L h' ((D, ({ cls := .type "tuple", data := .seq vs.toArray } : Obj)) :: news) → (∀ p ∈ news, p.1 ≠ D) → Q (.ref D) { s with heap := h' }) (hz : vs.length ≤ sizeLine) : wpAny (model prog w) A (newTuple vs) Q E s :=
  kup_newTuple F N (fun D h' F' N' l => h D h' F' N' fun p hp => Nat.ne_of_lt (l p hp)) hz
/-- an append: rest is what is kept of the ledger -/
theorem list_append2 {prog : Program} {w : World} {Ar : Around} {E : Value → Shared → Prop} {s : Shared} {h₀ : Heap} {L : Addr} {m : Str → Option Value} {nw : Led} {l : Addr} {vs : List Value} {c : Nat} {x : Value} {Q : Value → Shared → Prop} (rest : Led) (F : Fr h₀ L s.heap m) (N : News h₀ L s.heap nw) (hm : (l, listOf vs.toArray c) ∈ nw) (hr : ∀ p ∈ rest, p ∈ nw ∧ p.1 ≠ l) (hsz : vs.length ≤ sizeLine)
    (h : ∀ h', Fr h₀ L h' m → News h₀ L h' ((l, listOf (vs ++ [x]).toArray (c + 1)) :: rest) → Q .none { s with heap := h' }) : wpAny (model prog w) Ar (call (.builtin "list.append") [.ref l, x]) Q E s :=
  list_append (pre := []) (post := rest) F (fun p hp => by
    rcases List.mem_cons.mp hp with rfl | hp
    · exact N _ hm
    · exact N _ (hr p hp).1) (fun _ h => nomatch h) (fun p hp => (hr p hp).2) hsz h
theorem list_append3 {prog : Program} {w : World} {Ar : Around} {E : Value → Shared → Prop} {s : Shared} {h₀ : Heap} {L : Addr} {m : Str → Option Value} {nw : Led} {l D : Addr} {vs : List Value} {c : Nat} {q : Rat} {t u : MTok} {d : Nat} {Q : Value → Shared → Prop} (rest : Led) (F : Fr h₀ L s.heap m) (N : News h₀ L s.heap nw) (hm : (l, listOf vs.toArray c) ∈ nw) (mD : (D, rObj q t u d) ∈ nw) (hD : D ≠ l) (hr : ∀ p ∈ rest, p ∈ nw ∧ p.1 ≠ l) (hsz : vs.length ≤ sizeLine)
    (h : ∀ h', Fr h₀ L h' m → News h₀ L h' ((l, listOf (vs ++ [Value.ref D]).toArray (c + 1)) :: (D, rObj q t u d) :: rest) → Q .none { s with heap := h' }) : wpAny (model prog w) Ar (call (.builtin "list.append") [.ref l, .ref D]) Q E s :=
  list_append2 ((D, rObj q t u d) :: rest) F N hm (fun p hp => by
    rcases List.mem_cons.mp hp with rfl | hp
    · exact ⟨mD, hD⟩
    · exact hr p hp) hsz h
theorem list_append5 {prog : Program} {w : World} {Ar : Around} {E : Value → Shared → Prop} {s : Shared} {h₀ : Heap} {L : Addr} {m : Str → Option Value} {nw : Led} {l D : Addr} {vs : List Value} {c : Nat} {q : Rat} {t u : MTok} {d : Nat} {Q : Value → Shared → Prop} (rest : Led) (F : Fr h₀ L s.heap m) (N : News h₀ L s.heap nw) (hm : (l, listOf vs.toArray c) ∈ nw) (mD : (D, rObj q t u d) ∈ nw) (hD : D ≠ l) (hr : ∀ p ∈ rest, p ∈ nw ∧ p.1 ≠ l) (hsz : vs.length ≤ sizeLine)
    (h : ∀ h' (P : Addr × Obj) (x t u : Nat), D = P.1 → Src w [P] P.1 (rObj q t u x) → Fr h₀ L h' m → News h₀ L h' ((l, listOf (vs ++ [Value.ref P.1]).toArray (c + 1)) :: P :: rest) → Q .none { s with heap := h' }) : wpAny (model prog w) Ar (call (.builtin "list.append") [.ref l, .ref D]) Q E s :=
  list_append3 rest F N hm mD hD hr hsz fun h' F' N' => h h' (D, rObj q t u d) d t u rfl (Src.here (.head _)) F' N'
theorem two_start {g h : Heap} {L : Addr} {t a b : Addr × Obj} {nw : Led} (N : News g L h (t :: b :: a :: nw)) : News g L h (a :: b :: nw) := fun p hp => by
  rcases List.mem_cons.mp hp with rfl | hp
  · exact N _ (.tail _ (.tail _ (.head _)))
  · rcases List.mem_cons.mp hp with rfl | hp
    · exact N _ (.tail _ (.head _))
    · exact N _ (.tail _ (.tail _ (.tail _ hp)))
theorem news_tail {g h : Heap} {L : Addr} {t : Addr × Obj} {nw : Led} (N : News g L h (t :: nw)) : News g L h nw := fun p hp => N p (.tail _ hp)
theorem ne_own {lf : Addr} {o : Obj} {nx own : Led} (h1 : ∀ p ∈ nx, p.1 ≠ lf) (h2 : OwnOff own (((lf, o) :: nx).map (·.1))) : ∀ p ∈ nx ++ own, p.1 ≠ lf := fun p hp => by
  rcases List.mem_append.mp hp with hp | hp
  · exact h1 p hp
  · exact h2 p hp lf (.head _)
theorem ne_of_lts {nw : Led} {D : Addr} (h : ∀ p ∈ nw, p.1 < D) : ∀ p ∈ nw, p.1 ≠ D := fun p hp => Nat.ne_of_lt (h p hp)
theorem list_add {prog : Program} {w : World} {A : Around} {E : Value → Shared → Prop} {s : Shared} {h₀ : Heap} {L : Addr} {m : Str → Option Value} {news : Led} {l b : Addr} {vs ws : List Value} {c d : Nat} {Q : Value → Shared → Prop} (F : Fr h₀ L s.heap m) (N : News h₀ L s.heap news)
    (m1 : (l, listOf vs.toArray c) ∈ news) (m2 : (b, listOf ws.toArray d) ∈ news) (hz : vs.length + ws.length ≤ sizeLine)
    (h : ∀ D h', Fr h₀ L h' m → News h₀ L h' ((D, listOf (vs ++ ws).toArray 0) :: news) → (∀ p ∈ news, p.1 ≠ D) → Q (.ref D) { s with heap := h' }) : wpAny (model prog w) A (binaryOp .Add (.ref l) (.ref b)) Q E s :=
  add_lists F N ⟨_, (N _ m1).1, rfl, c, rfl⟩ ⟨_, (N _ m2).1, rfl, d, rfl⟩ (fun h' F' N' => h _ h' F' N' fun p hp => Nat.ne_of_lt (Heap.lt_size (N p hp).1)) hz
theorem LV.cons {w : World} {nw : Led} {vs : List Value} {n : Nat} {f : Int → Rat} {A : Addr} {t u : MTok} {c : Nat} (S : Src w nw A (rObj (f 0) t u c)) (h : LV w nw vs n (fun k => f (k + 1))) : LV w nw (.ref A :: vs) (n + 1) f :=
  ⟨by rw [List.length_cons, h.1], fun i hi => by
    cases i with
    | zero => exact ⟨A, t, u, c, rfl, S⟩
    | succ i =>
      obtain ⟨B, t', u', c', e, S'⟩ := h.2 i (by omega)
      exact ⟨B, t', u', c', by simpa using e, by simpa using S'⟩⟩
/-- a loop's state: the names ps of a datum, the ledger of J -/
noncomputable def MyJ {σ : Type} (ps : σ → List (Str × Value)) (x : Str) (stored : List Str) (m₀ : Str → Option Value) (J : σ → Led → Prop) (m : Str → Option Value) (nx : Led) : Prop :=
  ∃ c : σ, (∀ p ∈ ps c, m p.1 = some p.2) ∧ (∀ z, z ≠ x → (∀ p ∈ ps c, z ≠ p.1) → stored.contains z = false → m z = m₀ z) ∧ J c nx
section
variable {prog : Program} {w : World} {A : Around} {E : Value → Shared → Prop} {s : Shared} {env : Env} {h₀ : Heap} {x : Str} {body : List Stmt} {Q : Flow → Shared → Prop}
theorem my_range {σ : Type} {r : Addr} {a₀ b₀ : Int} {t₀ u₀ v₀ : MTok} {n : Nat} {m₀ : Str → Option Value} {news : Led} (ps : σ → List (Str × Value)) (stored : List Str) (J : Nat → σ → Led → Prop) (c₀ : σ) {L : Addr} (hL : env.locals = L)
    (hh : A.handled = none) (hr : IsRange s.heap r a₀ b₀ 1 t₀ u₀ v₀) (hsmall : Builtin.Range.small a₀ b₀ 1 = true) (hsz : Builtin.Range.rangeSize a₀ b₀ 1 = (n : Int)) (F : Fr h₀ L s.heap m₀) (N : News h₀ L s.heap news) (hk : ∀ p ∈ ps c₀, m₀ p.1 = some p.2) (hj : J 0 c₀ news)
    (turn : ∀ (i : Nat) (c : σ) (k : Int) t (u : Str → Option Value) nx h tk own, i < n → k = a₀ + (i : Int) → OwnOff own (nx.map (·.1)) → J i c nx →
      Fr h₀ L h (fun y => if y = x then some (.int k t) else kstB (fun z => if stored.contains z then u z else m₀ z) (ps c) y) → News h₀ L h (nx ++ own) →
      wpAny (model prog w) A (execs body env) (InvPostG h₀ L (MyJ ps x stored m₀ (J (i + 1))) own { s with heap := h, toks := tk } Q) E { s with heap := h, toks := tk })
    (done : ∀ (c : σ) (u : Str → Option Value) nx h tk, J n c nx → Fr h₀ L h (fun y => if y = x then u y else kstB (fun z => if stored.contains z then u z else m₀ z) (ps c) y) → News h₀ L h nx → Q .next { s with heap := h, toks := tk }) :
    wpAny (model prog w) A (pyIter (.ref r)) (fun it s₂ => LoopAtV prog w A h₀ env x body Q E it s₂) E s := by
  subst hL
  refine wpAny_pyIter_range hr hsmall ?_
  have W : Walks prog w A s.heap.objs.size [s.heap.objs.size] [s.heap.objs.size] n (fun i v => i < n ∧ ∃ t, v = .int (a₀ + i * 1) t)
      (fun i h => IsRangeIter h s.heap.objs.size (a₀ + (i : Nat) * 1) ((n : Int) - (i : Nat)) 1) := (Walks.range hh _ a₀ 1 n).bound
  refine kdr_loop (fun i m nx => MyJ ps x stored m₀ (J i) m nx) W (fun _ h => h) (fun _ h => h) ?_ ?_ ?_ ?_ (by show IsRangeIter _ _ _ _ _; rw [hsz]; simpa using Heap.get?_push_size _ rfl) (F.push _) (fun p hp => ⟨Heap.get?_push_of_some _ (N p hp).1, (N p hp).2⟩) ⟨c₀, hk, fun _ _ _ _ => rfl, hj⟩ ?_ ?_
  · intro i h hi b hb
    rw [List.mem_singleton.mp hb]
    exact ⟨_, hi⟩
  · intro hm
    exact absurd F.ns.lt ((List.mem_singleton.mp hm) ▸ Nat.lt_irrefl _)
  · intro b hb
    rw [List.mem_singleton.mp hb]
    exact next_is_new F
  · intro p hp hI
    exact absurd (Heap.lt_size (N p hp).1) ((List.mem_singleton.mp hI) ▸ Nat.lt_irrefl _)
  · rintro i v m₁ nx h tk own hi ⟨_, t, rfl⟩ hoff ⟨c, h1, h2, hj'⟩ F₁ N₁
    have e1 : a₀ + (i : Int) * 1 = a₀ + (i : Int) := by omega
    rw [e1] at F₁
    exact turn i c _ t m₁ nx h tk own hi rfl hoff hj' (kst_fr h1 h2 F₁) N₁
  · rintro m₁ nx h tk ⟨c, h1, h2, hj'⟩ F₁ N₁
    exact done c m₁ nx h tk hj' (kst_frOut h1 h2 F₁) N₁

theorem my_end {σ : Type} {ps : σ → List (Str × Value)} {stored : List Str} {m₀ m' : Str → Option Value} {J : σ → Led → Prop} {own cur : Led} {s₁ : Shared} {h' : Heap} {tk : Nat} {L : Addr} (c : σ) (nx : Led) (F : Fr h₀ L h' m') (N : News h₀ L h' cur)
    (hk : ∀ p ∈ ps c, m' p.1 = some p.2) (hr : ∀ z, z ≠ x → (∀ p ∈ ps c, z ≠ p.1) → stored.contains z = false → m' z = m₀ z) (hj : J c nx) (hn : ∀ p ∈ nx, p ∈ cur) (ho : ∀ p ∈ own, p ∈ cur) (ha : OwnOff own (nx.map (·.1))) :
    InvEndG h₀ L (MyJ ps x stored m₀ J) own s₁ { s₁ with heap := h', toks := tk } := InvEndG.intro F N ⟨c, hk, hr, hj⟩ ha hn ho
theorem fresh1 {L : Addr} {h : Heap} {cur : Led} {p1 : Addr × Obj} (_N : News h₀ L h (p1 :: cur)) (l1 : ∀ p ∈ cur, p.1 ≠ p1.1) : Fresh cur [p1] := fresh_one l1
theorem fresh2 {L : Addr} {h : Heap} {cur : Led} {p1 p2 : Addr × Obj} (_N : News h₀ L h (p2 :: p1 :: cur)) (l1 : ∀ p ∈ cur, p.1 ≠ p1.1) (l2 : ∀ p ∈ p1 :: cur, p.1 ≠ p2.1) : Fresh cur [p2, p1] :=
  Fresh.cons (fresh_one l1) (fun p hp => l2 p (List.mem_cons_of_mem _ hp))
theorem fresh3 {L : Addr} {h : Heap} {cur : Led} {p1 p2 p3 : Addr × Obj} (_N : News h₀ L h (p3 :: p2 :: p1 :: cur)) (l1 : ∀ p ∈ cur, p.1 ≠ p1.1) (l2 : ∀ p ∈ p1 :: cur, p.1 ≠ p2.1) (l3 : ∀ p ∈ p2 :: p1 :: cur, p.1 ≠ p3.1) : Fresh cur [p3, p2, p1] :=
  Fresh.cons (Fresh.cons (fresh_one l1) (fun p hp => l2 p (.tail _ hp))) (fun p hp => l3 p (.tail _ (.tail _ hp)))
theorem fresh4 {L : Addr} {h : Heap} {cur : Led} {p1 p2 p3 p4 : Addr × Obj} (_N : News h₀ L h (p4 :: p3 :: p2 :: p1 :: cur)) (l1 : ∀ p ∈ cur, p.1 ≠ p1.1) (l2 : ∀ p ∈ p1 :: cur, p.1 ≠ p2.1) (l3 : ∀ p ∈ p2 :: p1 :: cur, p.1 ≠ p3.1) (l4 : ∀ p ∈ p3 :: p2 :: p1 :: cur, p.1 ≠ p4.1) : Fresh cur [p4, p3, p2, p1] :=
  Fresh.cons (fresh3 (h := h) (L := L) (h₀ := h₀) (fun p hp => _N p (.tail _ hp)) l1 l2 l3) (fun p hp => l4 p (.tail _ (.tail _ (.tail _ hp))))
theorem fresh5 {L : Addr} {h : Heap} {cur : Led} {p1 p2 p3 p4 p5 : Addr × Obj} (_N : News h₀ L h (p5 :: p4 :: p3 :: p2 :: p1 :: cur)) (l1 : ∀ p ∈ cur, p.1 ≠ p1.1) (l2 : ∀ p ∈ p1 :: cur, p.1 ≠ p2.1) (l3 : ∀ p ∈ p2 :: p1 :: cur, p.1 ≠ p3.1) (l4 : ∀ p ∈ p3 :: p2 :: p1 :: cur, p.1 ≠ p4.1) (l5 : ∀ p ∈ p4 :: p3 :: p2 :: p1 :: cur, p.1 ≠ p5.1) : Fresh cur [p5, p4, p3, p2, p1] :=
  Fresh.cons (fresh4 (h := h) (L := L) (h₀ := h₀) (fun p hp => _N p (.tail _ hp)) l1 l2 l3 l4) (fun p hp => l5 p (.tail _ (.tail _ (.tail _ (.tail _ hp)))))
theorem fresh6 {L : Addr} {h : Heap} {cur : Led} {p1 p2 p3 p4 p5 p6 : Addr × Obj} (_N : News h₀ L h (p6 :: p5 :: p4 :: p3 :: p2 :: p1 :: cur)) (l1 : ∀ p ∈ cur, p.1 ≠ p1.1) (l2 : ∀ p ∈ p1 :: cur, p.1 ≠ p2.1) (l3 : ∀ p ∈ p2 :: p1 :: cur, p.1 ≠ p3.1) (l4 : ∀ p ∈ p3 :: p2 :: p1 :: cur, p.1 ≠ p4.1) (l5 : ∀ p ∈ p4 :: p3 :: p2 :: p1 :: cur, p.1 ≠ p5.1) (l6 : ∀ p ∈ p5 :: p4 :: p3 :: p2 :: p1 :: cur, p.1 ≠ p6.1) : Fresh cur [p6, p5, p4, p3, p2, p1] :=
  Fresh.cons (fresh5 (h := h) (L := L) (h₀ := h₀) (fun p hp => _N p (.tail _ hp)) l1 l2 l3 l4 l5) (fun p hp => l6 p (.tail _ (.tail _ (.tail _ (.tail _ (.tail _ hp))))))
theorem fresh7 {L : Addr} {h : Heap} {cur : Led} {p1 p2 p3 p4 p5 p6 p7 : Addr × Obj} (_N : News h₀ L h (p7 :: p6 :: p5 :: p4 :: p3 :: p2 :: p1 :: cur)) (l1 : ∀ p ∈ cur, p.1 ≠ p1.1) (l2 : ∀ p ∈ p1 :: cur, p.1 ≠ p2.1) (l3 : ∀ p ∈ p2 :: p1 :: cur, p.1 ≠ p3.1) (l4 : ∀ p ∈ p3 :: p2 :: p1 :: cur, p.1 ≠ p4.1) (l5 : ∀ p ∈ p4 :: p3 :: p2 :: p1 :: cur, p.1 ≠ p5.1) (l6 : ∀ p ∈ p5 :: p4 :: p3 :: p2 :: p1 :: cur, p.1 ≠ p6.1) (l7 : ∀ p ∈ p6 :: p5 :: p4 :: p3 :: p2 :: p1 :: cur, p.1 ≠ p7.1) : Fresh cur [p7, p6, p5, p4, p3, p2, p1] :=
  Fresh.cons (fresh6 (h := h) (L := L) (h₀ := h₀) (fun p hp => _N p (.tail _ hp)) l1 l2 l3 l4 l5 l6) (fun p hp => l7 p (.tail _ (.tail _ (.tail _ (.tail _ (.tail _ (.tail _ hp)))))))
theorem in_cons {x : Addr × Obj} {a b : Led} : ∀ p ∈ x :: a, p ∈ x :: (a ++ b) := fun p hp => by
  rcases List.mem_cons.mp hp with rfl | hp
  · exact .head _
  · exact .tail _ (List.mem_append_left _ hp)
theorem in_cons2 {x y : Addr × Obj} {a b : Led} : ∀ p ∈ x :: y :: a, p ∈ x :: y :: (a ++ b) := fun p hp => by
  rcases List.mem_cons.mp hp with rfl | hp
  · exact .head _
  · exact .tail _ (in_cons p hp)
theorem own_cons {lf D : Addr} {o o' q : Obj} {own nx : Led} (h : OwnOff own (((lf, o) :: nx).map (·.1))) (hD : ∀ p ∈ own, p.1 ≠ D) : OwnOff own (((lf, o') :: (D, q) :: nx).map (·.1)) := by
  intro p hp b hb
  rcases List.mem_cons.mp hb with rfl | hb
  · exact h p hp _ (.head _)
  · rcases List.mem_cons.mp hb with rfl | hb
    · exact hD p hp
    · exact h p hp b (.tail _ hb)
theorem own_cons2 {ls lo : Addr} {o o' o1 o1' : Obj} {P1 P2 : Addr × Obj} {own nx : Led} (h : OwnOff own (((ls, o) :: (lo, o') :: nx).map (·.1))) (h1 : ∀ p ∈ own, p.1 ≠ P1.1) (h2 : ∀ p ∈ own, p.1 ≠ P2.1) : OwnOff own (((ls, o1) :: (lo, o1') :: P2 :: P1 :: nx).map (·.1)) := by
  intro p hp b hb
  rcases List.mem_cons.mp hb with rfl | hb
  · exact h p hp _ (.head _)
  rcases List.mem_cons.mp hb with rfl | hb
  · exact h p hp _ (.tail _ (.head _))
  rcases List.mem_cons.mp hb with rfl | hb
  · exact h2 p hp
  rcases List.mem_cons.mp hb with rfl | hb
  · exact h1 p hp
  · exact h p hp b (.tail _ (.tail _ hb))
theorem in_swap {x y : Addr × Obj} {a b : Led} : ∀ p ∈ x :: y :: a, p ∈ y :: x :: (a ++ b) := fun p hp => by
  rcases List.mem_cons.mp hp with rfl | hp
  · exact .tail _ (.head _)
  rcases List.mem_cons.mp hp with rfl | hp
  · exact .head _
  · exact .tail _ (.tail _ (List.mem_append_left _ hp))
theorem in_swap4 {x y P1 P2 : Addr × Obj} {a b : Led} : ∀ p ∈ x :: y :: P2 :: P1 :: a, p ∈ y :: P2 :: x :: P1 :: (a ++ b) := fun p hp => by
  rcases List.mem_cons.mp hp with rfl | hp
  · exact .tail _ (.tail _ (.head _))
  rcases List.mem_cons.mp hp with rfl | hp
  · exact .head _
  rcases List.mem_cons.mp hp with rfl | hp
  · exact .tail _ (.head _)
  rcases List.mem_cons.mp hp with rfl | hp
  · exact .tail _ (.tail _ (.tail _ (.head _)))
  · exact .tail _ (.tail _ (.tail _ (.tail _ (List.mem_append_left _ hp))))
theorem ne_consP {lf : Addr} {P : Addr × Obj} {nx : Led} (h : ∀ p ∈ nx, p.1 ≠ lf) (hD : P.1 ≠ lf) : ∀ p ∈ P :: nx, p.1 ≠ lf := fun p hp => by
  rcases List.mem_cons.mp hp with rfl | hp
  · exact hD
  · exact h p hp
theorem Fresh.consP {nw a : Led} {P : Addr × Obj} (h1 : Fresh nw a) (h2 : ∀ p ∈ nw, p.1 ≠ P.1) : Fresh nw (P :: a) := fun p hp q hq => by
  rcases List.mem_cons.mp hq with rfl | hq
  · exact h2 p hp
  · exact h1 p hp q hq
theorem ne_cons {lf D : Addr} {q : Obj} {nx : Led} (h : ∀ p ∈ nx, p.1 ≠ lf) (hD : D ≠ lf) : ∀ p ∈ (D, q) :: nx, p.1 ≠ lf := fun p hp => by
  rcases List.mem_cons.mp hp with rfl | hp
  · exact hD
  · exact h p hp
theorem ne_own2 {ls lo : Addr} {o o' : Obj} {nx own : Led} (h1 : ∀ p ∈ nx, p.1 ≠ lo) (h2 : OwnOff own (((ls, o) :: (lo, o') :: nx).map (·.1))) : ∀ p ∈ nx ++ own, p.1 ≠ lo := fun p hp => by
  rcases List.mem_append.mp hp with hp | hp
  · exact h1 p hp
  · exact h2 p hp lo (.tail _ (.head _))
theorem ne_own3 {ls lo : Addr} {o o' : Obj} {nx own : Led} (h1 : ∀ p ∈ nx, p.1 ≠ ls) (h2 : OwnOff own (((ls, o) :: (lo, o') :: nx).map (·.1))) : ∀ p ∈ nx ++ own, p.1 ≠ ls := fun p hp => by
  rcases List.mem_append.mp hp with hp | hp
  · exact h1 p hp
  · exact h2 p hp ls (.head _)
theorem ne_both {ls lo : Addr} {o o' : Obj} {add2 z : Led} (f : Fresh ((ls, o) :: (lo, o') :: z) add2) (_hB : ∀ p ∈ z, p.1 ≠ lo) (hA : ∀ p ∈ z, p.1 ≠ ls) (hsl : ls ≠ lo) : ∀ p ∈ add2 ++ ((lo, o') :: z), p.1 ≠ ls := fun p hp => by
  rcases List.mem_append.mp hp with hp | hp
  · exact (f _ (.head _) p hp).symm
  · rcases List.mem_cons.mp hp with rfl | hp
    · exact hsl.symm
    · exact hA p hp
theorem both_of {l : Addr} {z nw : Led} (h1 : ∀ p ∈ z, p ∈ nw) (h2 : ∀ p ∈ z, p.1 ≠ l) : ∀ p ∈ z, p ∈ nw ∧ p.1 ≠ l := fun p hp => ⟨h1 p hp, h2 p hp⟩
theorem ne_consM {l x : Addr} {o : Obj} {z nw : Led} (h : ∀ p ∈ z, p.1 ≠ l) (hx : x ≠ l) (hm : ∀ p ∈ (x, o) :: z, p ∈ nw) : ∀ p ∈ (x, o) :: z, p ∈ nw ∧ p.1 ≠ l := fun p hp => ⟨hm p hp, ne_cons h hx p hp⟩
theorem in_own (X : Led) {nx own : Led} : ∀ p ∈ X ++ nx, p ∈ X ++ (nx ++ own) := fun p hp => by rw [← List.append_assoc]; exact List.mem_append_left _ hp
theorem own_in (X : Led) {nx own : Led} : ∀ p ∈ own, p ∈ X ++ (nx ++ own) := fun p hp => List.mem_append_right _ (List.mem_append_right _ hp)
theorem own_ext {own nx add : Led} (h : OwnOff own (nx.map (·.1))) (f : Fresh (nx ++ own) add) : OwnOff own ((add ++ nx).map (·.1)) := by
  intro p hp b hb
  rw [List.map_append] at hb
  rcases List.mem_append.mp hb with hb | hb
  · obtain ⟨q, hq, rfl⟩ := List.mem_map.mp hb
    exact f p (List.mem_append_right _ hp) q hq
  · exact h p hp b hb
end

section
variable {prog : Program} {w : World} {A : Around} {E : Value → Shared → Prop} {s : Shared} {h₀ : Heap} {L : Addr} {m : Str → Option Value} {env : Env}
theorem off1_ne {D : Addr} : ∀ {l : Led}, LCg.Off1 D l → ∀ p ∈ l, p.1 ≠ D
  | [], _, _, h => nomatch h
  | _ :: _, x, p, h => by
    rcases List.mem_cons.mp h with rfl | h
    · exact x.1
    · exact off1_ne x.2 p h
theorem cells1 {g h : Heap} {x y z c1 : Addr × Obj} {add nw : Led} (_N : News g L h (x :: y :: z :: (add ++ (c1 :: nw)))) : c1 ∈ add ++ (c1 :: nw) := List.mem_append_right _ (.head _)
theorem cells2 {g h : Heap} {x y z c1 c2 : Addr × Obj} {add nw : Led} (_N : News g L h (x :: y :: z :: (add ++ (c1 :: c2 :: nw)))) : c1 ∈ add ++ (c1 :: c2 :: nw) ∧ c2 ∈ add ++ (c1 :: c2 :: nw) :=
  ⟨List.mem_append_right _ (.head _), List.mem_append_right _ (.tail _ (.head _))⟩
theorem ext2 {nw : Led} {l : Nat} {o o2 : Obj} (h : ∀ p ∈ nw, p.1 < l) : Ext nw ((l + 1 + 1, o) :: (l + 1, o2) :: nw) :=
  ⟨[(l + 1 + 1, o), (l + 1, o2)], rfl, Fresh.cons (fresh_one fun p hp => by have h1 : @LT.lt Nat _ p.1 l := h p hp; exact Nat.ne_of_lt (Nat.lt_succ_of_lt h1)) fun p hp => by have h1 : @LT.lt Nat _ p.1 l := h p hp; exact Nat.ne_of_lt (Nat.lt_succ_of_lt (Nat.lt_succ_of_lt h1))⟩
theorem ext1 {nw : Led} {l : Nat} {o : Obj} (h : ∀ p ∈ nw, p.1 < l) : Ext nw ((l + 1, o) :: nw) :=
  ⟨[(l + 1, o)], rfl, fresh_one fun p hp => by have h1 : @LT.lt Nat _ p.1 l := h p hp; exact Nat.ne_of_lt (Nat.lt_succ_of_lt h1)⟩
theorem ext_comp {nw base add : Led} {D : Addr} {o : Obj} (h : Ext nw base) (f : Fresh base add) (ho : LCg.Off1 D (add ++ base)) : Ext nw ((D, o) :: (add ++ base)) :=
  (h.trans ⟨add, rfl, f⟩).trans (Ext.one (off1_ne ho))
/-- what an element of a comprehension hands on -/
noncomputable def CompPost (h₀ : Heap) (L : Addr) (m : Str → Option Value) (w : World) (s : Shared) (base : Led) (q : Rat) (v : Value) (s₂ : Shared) : Prop :=
  ∃ h' tk' add, s₂ = { s with heap := h', toks := tk' } ∧ Fr h₀ L h' m ∧ News h₀ L h' (add ++ base) ∧ Fresh base add ∧ ∃ A t u c, v = .ref A ∧ Src w add A (rObj q t u c)
/-- a comprehension over a range whose elements are ratios -/
theorem my_rest {elt : PySem.Expr} {x : Str} {scope : Scope} {cl : List (Str × Addr)} {Fin : List Value → Led → Prop} {news : Led} {a : Int} {n : Nat} (g : Int → Rat)
    (turn : ∀ (i : Nat) (k : Int) t I oI C oC D m₂ ys nx h tk (E' : Value → Shared → Prop), i < n → k = a + (i : Int) → LCg.NsObj oC m₂ → m₂ x = some (.int k t) → Fr h₀ L h m → Ext news nx → News h₀ L h ((I, oI) :: (C, oC) :: (D, LCg.lst ys) :: nx) →
      wpAny (model prog w) A (eval elt (compEnvC scope cl C env)) (CompPost h₀ L m w s ((I, oI) :: (C, oC) :: (D, LCg.lst ys) :: nx) (g k)) E' { s with heap := h, toks := tk })
    (fin : ∀ ys nx, Ext news nx → LV w nx ys n (fun i => g (a + i)) → Fin ys nx) :
    LCg.CompRest prog w A h₀ L m env elt x scope cl s (fun _ => True) (fun i v => ∃ t, v = .int (a + (i : Int)) t) Fin n 0 [] news := by
  have key : ∀ (j i : Nat) (ys : List Value) (nx : Led), i + j = n → Ext news nx → LV w nx ys i (fun i => g (a + i)) → LCg.CompRest prog w A h₀ L m env elt x scope cl s (fun _ => True) (fun i v => ∃ t, v = .int (a + (i : Int)) t) Fin j i ys nx := by
    intro j
    induction j with
    | zero =>
      intro i ys nx hi hx hv
      have e : i = n := by omega
      subst e
      exact LCg.CompRest.zero (fin ys nx hx hv)
    | succ j ih =>
      intro i ys nx hi hx hv
      refine LCg.CompRest.succ ?_
      rintro v I oI C oC D m₂ h tk E' ⟨t, rfl⟩ hC hm F N off ne
      refine wpAny_mono (turn i _ t I oI C oC D m₂ ys nx h tk E' (by omega) rfl hC hm F hx N) (fun y s₂ hq => ?_) fun _ _ e => e
      obtain ⟨h', tk', add, rfl, F', N', fr, A', t', u', c', rfl, S⟩ := hq
      refine ⟨h', tk', add ++ nx, rfl, F', fun p hp => N' p ?_, LCg.Off3.of fun p hp => ?_, trivial, ?_⟩
      · rcases List.mem_cons.mp hp with rfl | hp
        · exact List.mem_append_right _ (.head _)
        rcases List.mem_cons.mp hp with rfl | hp
        · exact List.mem_append_right _ (.tail _ (.head _))
        rcases List.mem_cons.mp hp with rfl | hp
        · exact List.mem_append_right _ (.tail _ (.tail _ (.head _)))
        rcases List.mem_append.mp hp with hp | hp
        · exact List.mem_append_left _ hp
        · exact List.mem_append_right _ (.tail _ (.tail _ (.tail _ hp)))
      · rcases List.mem_append.mp hp with hp | hp
        · exact ⟨(fr _ (.head _) p hp).symm, (fr _ (.tail _ (.head _)) p hp).symm, (fr _ (.tail _ (.tail _ (.head _))) p hp).symm⟩
        · exact off.mem p hp
      · have hx' : Ext nx (add ++ nx) := ⟨add, rfl, fun p hp q hq => fr p (.tail _ (.tail _ (.tail _ hp))) q hq⟩
        exact ih (i + 1) _ _ (by omega) (hx.trans hx') ((hv.up hx'.sub).snoc (S.up fun p hp => List.mem_append_left _ hp))
  exact key n 0 [] news (by omega) (Ext.refl _) LV.nil
end
theorem room_up {dp K c k : Nat} (h : dp + K < recursionLimit) (e : c + k ≤ K) : dp + c + k < recursionLimit := by omega
theorem units_up {un K c k : Nat} (h : un + 8 * K + 100 < cLine) (e : c + 8 * k ≤ 8 * K) : un + c + 8 * k + 100 < cLine := by omega
section
variable {w : World} {f : Addr} {vs : List Value} {k : Nat} {news : Led}
    {p : Program} {loose : List Str} {mean : ExcName → Option Value} {mg mb : Str → Option Value} {dp un : Nat} {gd : Option (List Code)} {cn : Str} {cs : Scope} {a : Addr} {ccd : Value} {cl : List (Str × Addr)} {outer : List Env} {A₀ : Around} {base h₀ : Heap} {L : Addr} {m : Str → Option Value} {s : Shared} {Q E : Value → Shared → Prop}
theorem useR {q : Rat} (B : Below A₀ base outer h₀) (F : Fr h₀ L s.heap m) (X : (hd.heap_39 w.params).In h₀) (N : News h₀ L s.heap news) (T : Top p loose mean mg mb h₀) (hk : cs.kind = .function)
    (C : Cl w f vs k news (fun v cur => NewR news cur v q)) (hd : dp + k < recursionLimit) (hu : un + 8 * k + 100 < cLine)
    (ret : ∀ (D : Addr) (t u : MTok) (n : Nat) (h' : Heap) (tk' : Nat), Fr h₀ L h' m → News h₀ L h' ((D, rObj q t u n) :: news) → (∀ p ∈ news, p.1 ≠ D) → Q (.ref D) { s with heap := h', toks := tk' }) :
    wpAny (model PySem.Challenge.rw_sa0097_01.row.prog w) (ktrTop dp un gd cn cs L a ccd cl outer) (call (.ref f) vs) Q E s :=
  Cl.use B F X N T hk C hd hu fun _ _ h' tk' F' N' _ ⟨D, t, u, n, e1, e2, l⟩ => by subst e1; subst e2; exact ret D t u n h' tk' F' N' l
theorem useQ {q : Rat} (B : Below A₀ base outer h₀) (F : Fr h₀ L s.heap m) (X : (hd.heap_39 w.params).In h₀) (N : News h₀ L s.heap news) (T : Top p loose mean mg mb h₀) (hk : cs.kind = .function)
    (C : Cl w f vs k news (NewQ w news q)) (hd : dp + k < recursionLimit) (hu : un + 8 * k + 100 < cLine)
    (ret : ∀ (add : Led) (D : Addr) (t u : MTok) (n : Nat) (h' : Heap) (tk' : Nat), Fr h₀ L h' m → News h₀ L h' (add ++ news) → Fresh news add → Src w add D (rObj q t u n) → Q (.ref D) { s with heap := h', toks := tk' }) :
    wpAny (model PySem.Challenge.rw_sa0097_01.row.prog w) (ktrTop dp un gd cn cs L a ccd cl outer) (call (.ref f) vs) Q E s :=
  Cl.use B F X N T hk C hd hu fun _ _ h' tk' F' N' _ ⟨add, D, t, u, n, e1, e2, l, S⟩ => by subst e1; subst e2; exact ret add D t u n h' tk' F' N' l S
theorem useV {v₀ : Value} (B : Below A₀ base outer h₀) (F : Fr h₀ L s.heap m) (X : (hd.heap_39 w.params).In h₀) (N : News h₀ L s.heap news) (T : Top p loose mean mg mb h₀) (hk : cs.kind = .function)
    (C : Cl w f vs k news (fun v cur => v = v₀ ∧ cur = news)) (hd : dp + k < recursionLimit) (hu : un + 8 * k + 100 < cLine)
    (ret : ∀ (h' : Heap) (tk' : Nat), Fr h₀ L h' m → News h₀ L h' news → Q v₀ { s with heap := h', toks := tk' }) :
    wpAny (model PySem.Challenge.rw_sa0097_01.row.prog w) (ktrTop dp un gd cn cs L a ccd cl outer) (call (.ref f) vs) Q E s :=
  Cl.use B F X N T hk C hd hu fun _ _ h' tk' F' N' _ ⟨e1, e2⟩ => by subst e1; subst e2; exact ret h' tk' F' N'
theorem useI {x : Int} (B : Below A₀ base outer h₀) (F : Fr h₀ L s.heap m) (X : (hd.heap_39 w.params).In h₀) (N : News h₀ L s.heap news) (T : Top p loose mean mg mb h₀) (hk : cs.kind = .function)
    (C : Cl w f vs k news (fun v cur => cur = news ∧ ∃ t, v = .int x t)) (hd : dp + k < recursionLimit) (hu : un + 8 * k + 100 < cLine)
    (ret : ∀ (t : MTok) (h' : Heap) (tk' : Nat), Fr h₀ L h' m → News h₀ L h' news → Q (.int x t) { s with heap := h', toks := tk' }) :
    wpAny (model PySem.Challenge.rw_sa0097_01.row.prog w) (ktrTop dp un gd cn cs L a ccd cl outer) (call (.ref f) vs) Q E s :=
  Cl.use B F X N T hk C hd hu fun _ _ h' tk' F' N' _ ⟨e2, t, e1⟩ => by subst e1; subst e2; exact ret t h' tk' F' N'
theorem useZ {x : Int} (B : Below A₀ base outer h₀) (F : Fr h₀ L s.heap m) (X : (hd.heap_39 w.params).In h₀) (N : News h₀ L s.heap news) (T : Top p loose mean mg mb h₀) (hk : cs.kind = .function)
    (C : Cl w f vs k news (fun v cur => (∃ t, v = .int x t) ∧ cur = news)) (hd : dp + k < recursionLimit) (hu : un + 8 * k + 100 < cLine)
    (ret : ∀ (t : MTok) (h' : Heap) (tk' : Nat), Fr h₀ L h' m → News h₀ L h' news → Q (.int x t) { s with heap := h', toks := tk' }) :
    wpAny (model PySem.Challenge.rw_sa0097_01.row.prog w) (ktrTop dp un gd cn cs L a ccd cl outer) (call (.ref f) vs) Q E s :=
  Cl.use B F X N T hk C hd hu fun _ _ h' tk' F' N' _ ⟨⟨t, e1⟩, e2⟩ => by subst e1; subst e2; exact ret t h' tk' F' N'
theorem useL {n : Nat} {g : Int → Rat} (B : Below A₀ base outer h₀) (F : Fr h₀ L s.heap m) (X : (hd.heap_39 w.params).In h₀) (N : News h₀ L s.heap news) (T : Top p loose mean mg mb h₀) (hk : cs.kind = .function)
    (C : Cl w f vs k news (NewL w n g)) (hd : dp + k < recursionLimit) (hu : un + 8 * k + 100 < cLine)
    (ret : ∀ (D : Addr) (us : List Value) (c : Nat) (add : Led) (h' : Heap) (tk' : Nat), Fr h₀ L h' m → News h₀ L h' (add ++ news) → (D, listOf us.toArray c) ∈ add ++ news → LV w (add ++ news) us n g → Fresh news add → Q (.ref D) { s with heap := h', toks := tk' }) :
    wpAny (model PySem.Challenge.rw_sa0097_01.row.prog w) (ktrTop dp un gd cn cs L a ccd cl outer) (call (.ref f) vs) Q E s :=
  Cl.use B F X N T hk C hd hu fun _ _ h' tk' F' N' ⟨add, e2, fr⟩ ⟨D, us, c, e1, mm, V⟩ => by subst e1; subst e2; exact ret D us c add h' tk' F' N' mm V fr
end
/-- a loop's state: a sum so far, under one name -/
noncomputable def JT (w : World) (B : Led) (T : Nat → Rat) (i : Nat) (c : Addr) (nx : Led) : Prop := ∃ add t u q, nx = add ++ B ∧ Fresh B add ∧ Src w add c (rObj (T i) t u q)
/-- a loop's state: the list of the coefficients so far -/
noncomputable def JF (w : World) (B : Led) (e : Int → Rat) (i : Nat) (c : Addr) (nx : Led) : Prop := ∃ vs k add, nx = (c, listOf vs.toArray k) :: (add ++ B) ∧ Fresh B add ∧ (∀ p ∈ add ++ B, p.1 ≠ c) ∧ LV w (add ++ B) vs i e
/-- the same for two sums -/
noncomputable def JT2 (w : World) (B : Led) (T1 T2 : Nat → Rat) (i : Nat) (c : Addr × Addr) (nx : Led) : Prop := ∃ add t u q t' u' q', nx = add ++ B ∧ Fresh B add ∧ Src w add c.1 (rObj (T1 i) t u q) ∧ Src w add c.2 (rObj (T2 i) t' u' q')
/-- the same for two lists -/
noncomputable def JF2 (w : World) (B : Led) (e1 e2 : Int → Rat) (i : Nat) (c : Addr × Addr) (nx : Led) : Prop := ∃ vs1 k1 vs2 k2 add, nx = (c.1, listOf vs1.toArray k1) :: (c.2, listOf vs2.toArray k2) :: (add ++ B) ∧ Fresh B add ∧ (∀ p ∈ add ++ B, p.1 ≠ c.1) ∧ (∀ p ∈ (c.1, listOf #[] 0) :: (add ++ B), p.1 ≠ c.2) ∧ LV w (add ++ B) vs1 i e1 ∧ LV w (add ++ B) vs2 i e2
section
variable {prog : Program} {w : World} {A : Around} {E : Value → Shared → Prop} {s : Shared} {env : Env} {h₀ : Heap} {x : Str} {body : List Stmt} {Q : Flow → Shared → Prop}
theorem range_tot {r : Addr} {a₀ b₀ : Int} {t₀ u₀ v₀ : MTok} {n : Nat} {m₀ : Str → Option Value} {B : Led} (nm : Str) (T : Nat → Rat) (stored : List Str) (c₀ : Addr) {L : Addr} (hL : env.locals = L)
    (hh : A.handled = none) (hr : IsRange s.heap r a₀ b₀ 1 t₀ u₀ v₀) (hsmall : Builtin.Range.small a₀ b₀ 1 = true) (hsz : Builtin.Range.rangeSize a₀ b₀ 1 = (n : Int)) (F : Fr h₀ L s.heap m₀) (N : News h₀ L s.heap B) (hk : m₀ nm = some (.ref c₀)) (hj : JT w B T 0 c₀ B)
    (turn : ∀ (i : Nat) (c : Addr) (t : MTok) (u : Str → Option Value) (add : Led) (t9 u9 : MTok) (q9 : Nat) (h : Heap) (tk : Nat) (own : Led), i < n → OwnOff own ((add ++ B).map (·.1)) → Fresh B add → Src w add c (rObj (T i) t9 u9 q9) →
      Fr h₀ L h (fun y => if y = x then some (.int (a₀ + (i : Int)) t) else if y = nm then some (.ref c) else if stored.contains y then u y else m₀ y) → News h₀ L h (add ++ B ++ own) →
      wpAny (model prog w) A (execs body env) (InvPostG h₀ L (MyJ (fun c : Addr => [(nm, Value.ref c)]) x stored m₀ (JT w B T (i + 1))) own { s with heap := h, toks := tk } Q) E { s with heap := h, toks := tk })
    (done : ∀ (c : Addr) (u : Str → Option Value) (add : Led) (t9 u9 : MTok) (q9 : Nat) (h : Heap) (tk : Nat), Fresh B add → Src w add c (rObj (T n) t9 u9 q9) → Fr h₀ L h (fun y => if y = x then u y else if y = nm then some (.ref c) else if stored.contains y then u y else m₀ y) → News h₀ L h (add ++ B) → Q .next { s with heap := h, toks := tk }) :
    wpAny (model prog w) A (pyIter (.ref r)) (fun it s₂ => LoopAtV prog w A h₀ env x body Q E it s₂) E s := by
  refine my_range (fun c : Addr => [(nm, Value.ref c)]) stored (JT w B T) c₀ hL hh hr hsmall hsz F N (fun p hp => by rw [List.mem_singleton.mp hp]; exact hk) hj ?_ ?_
  · intro i c k t u nx h tk own hi hk2 hoff hJ F1 N1
    obtain ⟨add, t9, u9, q9, rfl, fr, S⟩ := hJ
    subst hk2
    exact turn i c t u add t9 u9 q9 h tk own hi hoff fr S F1 N1
  · intro c u nx h tk hJ F1 N1
    obtain ⟨add, t9, u9, q9, rfl, fr, S⟩ := hJ
    exact done c u add t9 u9 q9 h tk fr S F1 N1
theorem range_tot0 {r : Addr} {b₀ : Int} {t₀ u₀ v₀ : MTok} {n : Nat} {m₀ : Str → Option Value} {B : Led} (nm : Str) (T : Nat → Rat) (stored : List Str) (c₀ : Addr) {L : Addr} (hL : env.locals = L)
    (hh : A.handled = none) (hr : IsRange s.heap r 0 b₀ 1 t₀ u₀ v₀) (hsmall : Builtin.Range.small 0 b₀ 1 = true) (hsz : Builtin.Range.rangeSize 0 b₀ 1 = (n : Int)) (F : Fr h₀ L s.heap m₀) (N : News h₀ L s.heap B) (hk : m₀ nm = some (.ref c₀)) (hj : JT w B T 0 c₀ B)
    (turn : ∀ (i : Nat) (c : Addr) (t : MTok) (u : Str → Option Value) (add : Led) (t9 u9 : MTok) (q9 : Nat) (h : Heap) (tk : Nat) (own : Led), i < n → OwnOff own ((add ++ B).map (·.1)) → Fresh B add → Src w add c (rObj (T i) t9 u9 q9) →
      Fr h₀ L h (fun y => if y = x then some (.int (i : Int) t) else if y = nm then some (.ref c) else if stored.contains y then u y else m₀ y) → News h₀ L h (add ++ B ++ own) →
      wpAny (model prog w) A (execs body env) (InvPostG h₀ L (MyJ (fun c : Addr => [(nm, Value.ref c)]) x stored m₀ (JT w B T (i + 1))) own { s with heap := h, toks := tk } Q) E { s with heap := h, toks := tk })
    (done : ∀ (c : Addr) (u : Str → Option Value) (add : Led) (t9 u9 : MTok) (q9 : Nat) (h : Heap) (tk : Nat), Fresh B add → Src w add c (rObj (T n) t9 u9 q9) → Fr h₀ L h (fun y => if y = x then u y else if y = nm then some (.ref c) else if stored.contains y then u y else m₀ y) → News h₀ L h (add ++ B) → Q .next { s with heap := h, toks := tk }) :
    wpAny (model prog w) A (pyIter (.ref r)) (fun it s₂ => LoopAtV prog w A h₀ env x body Q E it s₂) E s :=
  range_tot nm T stored c₀ hL hh hr hsmall hsz F N hk hj (fun i c t u add t9 u9 q9 h tk own hi hoff fr S F1 N1 => turn i c t u add t9 u9 q9 h tk own hi hoff fr S (by rw [Int.zero_add] at F1; exact F1) N1) done
theorem range_lst {r : Addr} {b₀ : Int} {t₀ u₀ v₀ : MTok} {n : Nat} {m₀ : Str → Option Value} {B nw : Led} (nm : Str) (e : Int → Rat) (stored : List Str) (c₀ : Addr) {L : Addr} (hL : env.locals = L)
    (hh : A.handled = none) (hr : IsRange s.heap r 0 b₀ 1 t₀ u₀ v₀) (hsmall : Builtin.Range.small 0 b₀ 1 = true) (hsz : Builtin.Range.rangeSize 0 b₀ 1 = (n : Int)) (F : Fr h₀ L s.heap m₀) (N : News h₀ L s.heap nw) (hk : m₀ nm = some (.ref c₀)) (hj : JF w B e 0 c₀ nw)
    (turn : ∀ (i : Nat) (c : Addr) (t : MTok) (u : Str → Option Value) (vs : List Value) (kc : Nat) (add : Led) (h : Heap) (tk : Nat) (own : Led), i < n → OwnOff own (((c, listOf vs.toArray kc) :: (add ++ B)).map (·.1)) → Fresh B add → (∀ p ∈ add ++ B, p.1 ≠ c) → LV w (add ++ B) vs i e →
      Fr h₀ L h (fun y => if y = x then some (.int (i : Int) t) else if y = nm then some (.ref c) else if stored.contains y then u y else m₀ y) → News h₀ L h ((c, listOf vs.toArray kc) :: (add ++ B ++ own)) →
      wpAny (model prog w) A (execs body env) (InvPostG h₀ L (MyJ (fun c : Addr => [(nm, Value.ref c)]) x stored m₀ (JF w B e (i + 1))) own { s with heap := h, toks := tk } Q) E { s with heap := h, toks := tk })
    (done : ∀ (c : Addr) (u : Str → Option Value) (vs : List Value) (kc : Nat) (add : Led) (h : Heap) (tk : Nat), Fresh B add → (∀ p ∈ add ++ B, p.1 ≠ c) → LV w (add ++ B) vs n e → Fr h₀ L h (fun y => if y = x then u y else if y = nm then some (.ref c) else if stored.contains y then u y else m₀ y) → News h₀ L h ((c, listOf vs.toArray kc) :: (add ++ B)) → Q .next { s with heap := h, toks := tk }) :
    wpAny (model prog w) A (pyIter (.ref r)) (fun it s₂ => LoopAtV prog w A h₀ env x body Q E it s₂) E s := by
  refine my_range (fun c : Addr => [(nm, Value.ref c)]) stored (JF w B e) c₀ hL hh hr hsmall hsz F N (fun p hp => by rw [List.mem_singleton.mp hp]; exact hk) hj ?_ ?_
  · intro i c k t u nx h tk own hi hk2 hoff hJ F1 N1
    obtain ⟨vs, kc, add, rfl, fr, ne, hv⟩ := hJ
    rw [Int.zero_add] at hk2
    subst hk2
    exact turn i c t u vs kc add h tk own hi hoff fr ne hv F1 N1
  · intro c u nx h tk hJ F1 N1
    obtain ⟨vs, kc, add, rfl, fr, ne, hv⟩ := hJ
    exact done c u vs kc add h tk fr ne hv F1 N1
theorem range_tot2 {r : Addr} {a₀ b₀ : Int} {t₀ u₀ v₀ : MTok} {n : Nat} {m₀ : Str → Option Value} {B : Led} (n1 n2 : Str) (T1 T2 : Nat → Rat) (stored : List Str) (c₁ c₂ : Addr) {L : Addr} (hL : env.locals = L)
    (hh : A.handled = none) (hr : IsRange s.heap r a₀ b₀ 1 t₀ u₀ v₀) (hsmall : Builtin.Range.small a₀ b₀ 1 = true) (hsz : Builtin.Range.rangeSize a₀ b₀ 1 = (n : Int)) (F : Fr h₀ L s.heap m₀) (N : News h₀ L s.heap B) (hk : m₀ n1 = some (.ref c₁)) (hk' : m₀ n2 = some (.ref c₂)) (hj : JT2 w B T1 T2 0 (c₁, c₂) B)
    (turn : ∀ (i : Nat) (c1 c2 : Addr) (t : MTok) (u : Str → Option Value) (add : Led) (t9 u9 : MTok) (q9 : Nat) (t8 u8 : MTok) (q8 : Nat) (h : Heap) (tk : Nat) (own : Led), i < n → OwnOff own ((add ++ B).map (·.1)) → Fresh B add → Src w add c1 (rObj (T1 i) t9 u9 q9) → Src w add c2 (rObj (T2 i) t8 u8 q8) →
      Fr h₀ L h (fun y => if y = x then some (.int (a₀ + (i : Int)) t) else if y = n1 then some (.ref c1) else if y = n2 then some (.ref c2) else if stored.contains y then u y else m₀ y) → News h₀ L h (add ++ B ++ own) →
      wpAny (model prog w) A (execs body env) (InvPostG h₀ L (MyJ (fun c : Addr × Addr => [(n1, Value.ref c.1), (n2, Value.ref c.2)]) x stored m₀ (JT2 w B T1 T2 (i + 1))) own { s with heap := h, toks := tk } Q) E { s with heap := h, toks := tk })
    (done : ∀ (c1 c2 : Addr) (u : Str → Option Value) (add : Led) (t9 u9 : MTok) (q9 : Nat) (t8 u8 : MTok) (q8 : Nat) (h : Heap) (tk : Nat), Fresh B add → Src w add c1 (rObj (T1 n) t9 u9 q9) → Src w add c2 (rObj (T2 n) t8 u8 q8) → Fr h₀ L h (fun y => if y = x then u y else if y = n1 then some (.ref c1) else if y = n2 then some (.ref c2) else if stored.contains y then u y else m₀ y) → News h₀ L h (add ++ B) → Q .next { s with heap := h, toks := tk }) :
    wpAny (model prog w) A (pyIter (.ref r)) (fun it s₂ => LoopAtV prog w A h₀ env x body Q E it s₂) E s := by
  refine my_range (fun c : Addr × Addr => [(n1, Value.ref c.1), (n2, Value.ref c.2)]) stored (JT2 w B T1 T2) (c₁, c₂) hL hh hr hsmall hsz F N (fun p hp => ?_) hj ?_ ?_
  · rcases List.mem_cons.mp hp with rfl | hp
    · exact hk
    · rw [List.mem_singleton.mp hp]; exact hk'
  · intro i c k t u nx h tk own hi hk2 hoff hJ F1 N1
    obtain ⟨add, t9, u9, q9, t8, u8, q8, rfl, fr, S, S'⟩ := hJ
    subst hk2
    exact turn i c.1 c.2 t u add t9 u9 q9 t8 u8 q8 h tk own hi hoff fr S S' F1 N1
  · intro c u nx h tk hJ F1 N1
    obtain ⟨add, t9, u9, q9, t8, u8, q8, rfl, fr, S, S'⟩ := hJ
    exact done c.1 c.2 u add t9 u9 q9 t8 u8 q8 h tk fr S S' F1 N1
theorem range_lst2 {r : Addr} {b₀ : Int} {t₀ u₀ v₀ : MTok} {n : Nat} {m₀ : Str → Option Value} {B nw : Led} (n1 n2 : Str) (e1 e2 : Int → Rat) (stored : List Str) (c₁ c₂ : Addr) {L : Addr} (hL : env.locals = L)
    (hh : A.handled = none) (hr : IsRange s.heap r 0 b₀ 1 t₀ u₀ v₀) (hsmall : Builtin.Range.small 0 b₀ 1 = true) (hsz : Builtin.Range.rangeSize 0 b₀ 1 = (n : Int)) (F : Fr h₀ L s.heap m₀) (N : News h₀ L s.heap nw) (hk : m₀ n1 = some (.ref c₁)) (hk' : m₀ n2 = some (.ref c₂)) (hj : JF2 w B e1 e2 0 (c₁, c₂) nw)
    (turn : ∀ (i : Nat) (c1 c2 : Addr) (t : MTok) (u : Str → Option Value) (vs1 : List Value) (k1 : Nat) (vs2 : List Value) (k2 : Nat) (add : Led) (h : Heap) (tk : Nat) (own : Led), i < n → OwnOff own (((c1, listOf vs1.toArray k1) :: (c2, listOf vs2.toArray k2) :: (add ++ B)).map (·.1)) → Fresh B add → (∀ p ∈ add ++ B, p.1 ≠ c1) → (∀ p ∈ (c1, listOf #[] 0) :: (add ++ B), p.1 ≠ c2) → LV w (add ++ B) vs1 i e1 → LV w (add ++ B) vs2 i e2 →
      Fr h₀ L h (fun y => if y = x then some (.int (i : Int) t) else if y = n1 then some (.ref c1) else if y = n2 then some (.ref c2) else if stored.contains y then u y else m₀ y) → News h₀ L h ((c1, listOf vs1.toArray k1) :: (c2, listOf vs2.toArray k2) :: (add ++ B ++ own)) →
      wpAny (model prog w) A (execs body env) (InvPostG h₀ L (MyJ (fun c : Addr × Addr => [(n1, Value.ref c.1), (n2, Value.ref c.2)]) x stored m₀ (JF2 w B e1 e2 (i + 1))) own { s with heap := h, toks := tk } Q) E { s with heap := h, toks := tk })
    (done : ∀ (c1 c2 : Addr) (u : Str → Option Value) (vs1 : List Value) (k1 : Nat) (vs2 : List Value) (k2 : Nat) (add : Led) (h : Heap) (tk : Nat), Fresh B add → (∀ p ∈ add ++ B, p.1 ≠ c1) → (∀ p ∈ (c1, listOf #[] 0) :: (add ++ B), p.1 ≠ c2) → LV w (add ++ B) vs1 n e1 → LV w (add ++ B) vs2 n e2 → Fr h₀ L h (fun y => if y = x then u y else if y = n1 then some (.ref c1) else if y = n2 then some (.ref c2) else if stored.contains y then u y else m₀ y) → News h₀ L h ((c1, listOf vs1.toArray k1) :: (c2, listOf vs2.toArray k2) :: (add ++ B)) → Q .next { s with heap := h, toks := tk }) :
    wpAny (model prog w) A (pyIter (.ref r)) (fun it s₂ => LoopAtV prog w A h₀ env x body Q E it s₂) E s := by
  refine my_range (fun c : Addr × Addr => [(n1, Value.ref c.1), (n2, Value.ref c.2)]) stored (JF2 w B e1 e2) (c₁, c₂) hL hh hr hsmall hsz F N (fun p hp => ?_) hj ?_ ?_
  · rcases List.mem_cons.mp hp with rfl | hp
    · exact hk
    · rw [List.mem_singleton.mp hp]; exact hk'
  · intro i c k t u nx h tk own hi hk2 hoff hJ F1 N1
    obtain ⟨vs1, k1, vs2, k2, add, rfl, fr, ne1, ne2, hv1, hv2⟩ := hJ
    rw [Int.zero_add] at hk2
    subst hk2
    exact turn i c.1 c.2 t u vs1 k1 vs2 k2 add h tk own hi hoff fr ne1 ne2 hv1 hv2 F1 N1
  · intro c u nx h tk hJ F1 N1
    obtain ⟨vs1, k1, vs2, k2, add, rfl, fr, ne1, ne2, hv1, hv2⟩ := hJ
    exact done c.1 c.2 u vs1 k1 vs2 k2 add h tk fr ne1 ne2 hv1 hv2 F1 N1
end
theorem gcd_start (x y : Int) : 0 ≤ (if x < 0 then -x else x) ∧ 0 ≤ (if y < 0 then -y else y) ∧ Int.gcd (if x < 0 then -x else x) (if y < 0 then -y else y) = Int.gcd x y := by
  refine ⟨by split <;> omega, by split <;> omega, ?_⟩
  split <;> split <;> simp [Int.gcd]
theorem gcd_turn {a b : Int} {g : Nat} (h1 : 0 ≤ a) (h2 : 0 ≤ b) (h3 : Int.gcd a b = g) (hb : b ≠ 0) : 0 ≤ b ∧ 0 ≤ a.fmod b ∧ Int.gcd b (a.fmod b) = g := by
  have e : a.fmod b = a % b := Int.fmod_eq_emod_of_nonneg a h2
  rw [e]
  refine ⟨h2, Int.emod_nonneg _ hb, ?_⟩
  rw [← h3, Int.emod_def, Int.gcd_sub_mul_left_right, Int.gcd_comm]
theorem gcd_less {a b : Int} (h : 0 ≤ b) (hb : b ≠ 0) : (a.fmod b).toNat < b.toNat := by
  have e : a.fmod b = a % b := Int.fmod_eq_emod_of_nonneg a h
  have h1 := Int.emod_nonneg a hb
  have h2 := Int.emod_lt_of_pos a (show 0 < b by omega)
  omega
theorem gcd_ok (w : World) (x y : Int) (t u : MTok) (news : Led) : Cl w 41 [.int x t, .int y u] 1 news (fun v cur => cur = news ∧ ∃ t, v = .int (Int.gcd x y) t) := by
  w_top off
  unfold Cl
  k_fill
  intro p loose mean mg mb dp un gd cn cs a ccd cl outer A₀ base h₀ L m s Q E B F X N T hk hd hu hret
  refine wpAny_call ?_
  k_dflt cell_enter
  k_with "exec While Compare cons nil" => k_while (fun _ a b => 0 ≤ a ∧ 0 ≤ b ∧ Int.gcd a b = Int.gcd x y) (fun _ _ b => b.toNat) "a" "b"
  k_with "state" => exact gcd_start x y
  k_with "state" => exact gcd_turn (by assumption) (by assumption) (by assumption) (by assumption)
  k_with "measure" => exact gcd_less (by assumption) (by assumption)
  k_steps
  rename News _ _ _ _ => kN
  have e : ∀ a b : Int, 0 ≤ a → Int.gcd a b = Int.gcd x y → b = 0 → a = (Int.gcd x y : Int) := by
    intro a b h1 h2 h3
    rw [← h2, h3, Int.gcd_zero_right]
    omega
  refine hret _ news _ _ (by assumption) (cb_drop kN (by kcj_all)) (Ext.refl _) ⟨rfl, _, congrArg (fun z => Value.int z _) (e _ _ (by assumption) (by assumption) (by assumption))⟩
local macro_rules | `(tactic| walk_at $s:str) => `(tactic| k_extra $s)

theorem rat_ok (w : World) (x y : Int) (t u : MTok) (news : Led) (hy : y ≠ 0) (hl : y.natAbs.log2 < 9000) : Cl w 57 [.int x t, .int y u] 2 news
    (fun v cur => NewR news cur v (Rat.divInt x y)) := by
  w_top off
  unfold Cl
  k_fill
  k_with_none
  k_with "call ref" => (k_here; (with_reducible show wpAny _ _ (call (Value.ref 41) _) _ _ _); k_dflt (refine' useI ?k1 ?k2 ?k3 ?k4 ?k5 ?kK (gcd_ok _ _ _ _ _ _ ) ?kd ?ku ?_); (case k1 => k_asm); (case k2 => k_asm); (case k3 => k_asm); (case k4 => k_asm); (case k5 => k_asm); (case kK => first | exact rfl | assumption); (case kd => first | exact room_up (by assumption) (by decide) | exact Nat.le_of_ble_eq_true rfl | ktr_room); (case ku => first | exact units_up (by assumption) (by decide) | exact Nat.le_of_ble_eq_true rfl | ktr_units); intro zt9 zh9 ztk9 zF9 zN9; (try dsimp only); (try k_fold))
  k_with "call ref" => ((with_reducible show wpAny _ _ (call (Value.ref 31) _) _ _ _); exfalso; first | contradiction | omega)
  k_with "binaryOp FloorDiv int int" => (k_here; refine floordiv_int ?k1 ?_ (Or.inl (PyProof.noPylong_of_log2 ?k2)); (case k1 => first | assumption | omega); (case k2 => assumption))
  intro p loose mean mg mb dp un gd cn cs a ccd cl outer A₀ base h₀ L m s Q E B F X N T hk hd hu hret
  refine wpAny_call ?_
  k_dflt cell_enter
  have hg : (Int.gcd x y : Int) ≠ 0 := by
    have := Int.gcd_pos_of_ne_zero_right x hy
    omega
  have hg1 : (Int.gcd x y : Int).natAbs.log2 < 9000 := (gcd_log2 hy hl).1
  have hg2 : (0 - (Int.gcd x y : Int)).natAbs.log2 < 9000 := (gcd_log2 hy hl).2
  k_steps
  · rename News _ _ _ _ => kN
    have e := rat_num (x := x) (g := (Int.gcd x y : Int)) hy (by rw [if_pos (by assumption)])
    rw [e.1, e.2] at kN
    rename (∀ p ∈ news, p.1 < _) => kl
    exact hret _ _ _ _ (by assumption) kN (Ext.oneLt kl) ⟨_, _, _, _, rfl, rfl, fun p hp => Nat.ne_of_lt (kl p hp)⟩
  · rename News _ _ _ _ => kN
    have e := rat_num (x := x) (g := 0 - (Int.gcd x y : Int)) hy (by rw [if_neg (by assumption)])
    rw [e.1, e.2] at kN
    rename (∀ p ∈ news, p.1 < _) => kl
    exact hret _ _ _ _ (by assumption) kN (Ext.oneLt kl) ⟨_, _, _, _, rfl, rfl, fun p hp => Nat.ne_of_lt (kl p hp)⟩
theorem radd_ok (w : World) (A B : Addr) (a b : Rat) (t1 u1 : MTok) (n1 : Nat) (t2 u2 : MTok) (n2 : Nat) (news : Led) (hA : Src w news A (rObj a t1 u1 n1)) (hB : Src w news B (rObj b t2 u2 n2)) (sa : Sm a) (sb : Sm b) :
    Cl w 64 [.ref A, .ref B] 3 news (fun v cur => NewR news cur v (a + b)) := by
  w_top off
  unfold Cl
  k_fill
  k_with_none
  k_with "call ref" => (k_here; (with_reducible show wpAny _ _ (call (Value.ref 41) _) _ _ _); k_dflt (refine' useI ?k1 ?k2 ?k3 ?k4 ?k5 ?kK (gcd_ok _ _ _ _ _ _ ) ?kd ?ku ?_); (case k1 => k_asm); (case k2 => k_asm); (case k3 => k_asm); (case k4 => k_asm); (case k5 => k_asm); (case kK => first | exact rfl | assumption); (case kd => first | exact room_up (by assumption) (by decide) | exact Nat.le_of_ble_eq_true rfl | ktr_room); (case ku => first | exact units_up (by assumption) (by decide) | exact Nat.le_of_ble_eq_true rfl | ktr_units); intro zt9 zh9 ztk9 zF9 zN9; (try dsimp only); (try k_fold))
  k_with "call ref" => ((with_reducible show wpAny _ _ (call (Value.ref 31) _) _ _ _); exfalso; first | contradiction | omega)
  k_with "binaryOp FloorDiv int int" => (k_here; refine floordiv_int ?k1 ?_ (Or.inl (PyProof.noPylong_of_log2 ?k2)); (case k1 => first | assumption | omega); (case k2 => assumption))
  k_with "call ref" => (k_here; (with_reducible show wpAny _ _ (call (Value.ref 57) _) _ _ _); k_dflt (refine' useR ?k1 ?k2 ?k3 ?k4 ?k5 ?kK (rat_ok _ _ _ _ _ _ ?h0 ?h1) ?kd ?ku ?_); (case k1 => k_asm); (case k2 => k_asm); (case k3 => k_asm); (case k4 => k_asm); (case k5 => k_asm); (case kK => first | exact rfl | assumption); (case h0 => assumption); (case h1 => assumption); (case kd => first | exact room_up (by assumption) (by decide) | exact Nat.le_of_ble_eq_true rfl | ktr_room); (case ku => first | exact units_up (by assumption) (by decide) | exact Nat.le_of_ble_eq_true rfl | ktr_units); intro zD9 zt9 zu9 zn9 zh9 ztk9 zF9 zN9 zl9; (try dsimp only); (try k_fold))
  k_with "subscriptTail" => (k_here; (with_reducible show wpAny _ _ (subscriptTail _ _ (Value.ref _) (Value.int 0 _)) _ _ _); k_dflt (refine' rat_item0 ?k1 ?k2 ?k3 ?k4 ?_; (case k1 => k_asm); (case k2 => k_asm); (case k3 => k_asm); (case k4 => first | exact Src.up (by assumption) (by intro p hp; kcf_m) | exact Src.here (by kcf_m))))
  k_with "subscriptTail" => (k_here; (with_reducible show wpAny _ _ (subscriptTail _ _ (Value.ref _) (Value.int 1 _)) _ _ _); k_dflt (refine' rat_item1 ?k1 ?k2 ?k3 ?k4 ?_; (case k1 => k_asm); (case k2 => k_asm); (case k3 => k_asm); (case k4 => first | exact Src.up (by assumption) (by intro p hp; kcf_m) | exact Src.here (by kcf_m))))
  intro p loose mean mg mb dp un gd cn cs f ccd cl outer A₀ base h₀ L m s Q E Bl F X N T hk hd hu hret
  refine wpAny_call ?_
  k_dflt cell_enter
  obtain ⟨q1, q2⟩ := den_ok (x := a.den) (y := b.den) sa.2 sb.2 (by have := a.den_nz; omega) (by have := b.den_nz; omega)
  have m0 : IntMulOk a.num b.den := mulOk sa.1
  have m1 : IntMulOk b.num a.den := mulOk sb.1
  have m9 : IntMulOk a.den b.den := mulOk sa.2
  k_steps
  rename News _ _ _ _ => kN
  rename (∀ p ∈ news, p.1 ≠ _) => kl
  rw [radd_eq] at kN
  exact hret _ _ _ _ (by assumption) kN (Ext.one kl) ⟨_, _, _, _, rfl, rfl, kl⟩
theorem rsub_ok (w : World) (A B : Addr) (a b : Rat) (t1 u1 : MTok) (n1 : Nat) (t2 u2 : MTok) (n2 : Nat) (news : Led) (hA : Src w news A (rObj a t1 u1 n1)) (hB : Src w news B (rObj b t2 u2 n2)) (sa : Sm a) (sb : Sm b) :
    Cl w 71 [.ref A, .ref B] 3 news (fun v cur => NewR news cur v (a - b)) := by
  w_top off
  unfold Cl
  k_fill
  k_with_none
  k_with "call ref" => (k_here; (with_reducible show wpAny _ _ (call (Value.ref 41) _) _ _ _); k_dflt (refine' useI ?k1 ?k2 ?k3 ?k4 ?k5 ?kK (gcd_ok _ _ _ _ _ _ ) ?kd ?ku ?_); (case k1 => k_asm); (case k2 => k_asm); (case k3 => k_asm); (case k4 => k_asm); (case k5 => k_asm); (case kK => first | exact rfl | assumption); (case kd => first | exact room_up (by assumption) (by decide) | exact Nat.le_of_ble_eq_true rfl | ktr_room); (case ku => first | exact units_up (by assumption) (by decide) | exact Nat.le_of_ble_eq_true rfl | ktr_units); intro zt9 zh9 ztk9 zF9 zN9; (try dsimp only); (try k_fold))
  k_with "call ref" => ((with_reducible show wpAny _ _ (call (Value.ref 31) _) _ _ _); exfalso; first | contradiction | omega)
  k_with "binaryOp FloorDiv int int" => (k_here; refine floordiv_int ?k1 ?_ (Or.inl (PyProof.noPylong_of_log2 ?k2)); (case k1 => first | assumption | omega); (case k2 => assumption))
  k_with "call ref" => (k_here; (with_reducible show wpAny _ _ (call (Value.ref 57) _) _ _ _); k_dflt (refine' useR ?k1 ?k2 ?k3 ?k4 ?k5 ?kK (rat_ok _ _ _ _ _ _ ?h0 ?h1) ?kd ?ku ?_); (case k1 => k_asm); (case k2 => k_asm); (case k3 => k_asm); (case k4 => k_asm); (case k5 => k_asm); (case kK => first | exact rfl | assumption); (case h0 => assumption); (case h1 => assumption); (case kd => first | exact room_up (by assumption) (by decide) | exact Nat.le_of_ble_eq_true rfl | ktr_room); (case ku => first | exact units_up (by assumption) (by decide) | exact Nat.le_of_ble_eq_true rfl | ktr_units); intro zD9 zt9 zu9 zn9 zh9 ztk9 zF9 zN9 zl9; (try dsimp only); (try k_fold))
  k_with "subscriptTail" => (k_here; (with_reducible show wpAny _ _ (subscriptTail _ _ (Value.ref _) (Value.int 0 _)) _ _ _); k_dflt (refine' rat_item0 ?k1 ?k2 ?k3 ?k4 ?_; (case k1 => k_asm); (case k2 => k_asm); (case k3 => k_asm); (case k4 => first | exact Src.up (by assumption) (by intro p hp; kcf_m) | exact Src.here (by kcf_m))))
  k_with "subscriptTail" => (k_here; (with_reducible show wpAny _ _ (subscriptTail _ _ (Value.ref _) (Value.int 1 _)) _ _ _); k_dflt (refine' rat_item1 ?k1 ?k2 ?k3 ?k4 ?_; (case k1 => k_asm); (case k2 => k_asm); (case k3 => k_asm); (case k4 => first | exact Src.up (by assumption) (by intro p hp; kcf_m) | exact Src.here (by kcf_m))))
  intro p loose mean mg mb dp un gd cn cs f ccd cl outer A₀ base h₀ L m s Q E Bl F X N T hk hd hu hret
  refine wpAny_call ?_
  k_dflt cell_enter
  obtain ⟨q1, q2⟩ := den_ok (x := a.den) (y := b.den) sa.2 sb.2 (by have := a.den_nz; omega) (by have := b.den_nz; omega)
  have m0 : IntMulOk a.num b.den := mulOk sa.1
  have m1 : IntMulOk b.num a.den := mulOk sb.1
  have m9 : IntMulOk a.den b.den := mulOk sa.2
  k_steps
  rename News _ _ _ _ => kN
  rename (∀ p ∈ news, p.1 ≠ _) => kl
  rw [rsub_eq] at kN
  exact hret _ _ _ _ (by assumption) kN (Ext.one kl) ⟨_, _, _, _, rfl, rfl, kl⟩
theorem rmul_ok (w : World) (A B : Addr) (a b : Rat) (t1 u1 : MTok) (n1 : Nat) (t2 u2 : MTok) (n2 : Nat) (news : Led) (hA : Src w news A (rObj a t1 u1 n1)) (hB : Src w news B (rObj b t2 u2 n2)) (sa : Sm a) (sb : Sm b) :
    Cl w 78 [.ref A, .ref B] 3 news (fun v cur => NewR news cur v (a * b)) := by
  w_top off
  unfold Cl
  k_fill
  k_with_none
  k_with "call ref" => (k_here; (with_reducible show wpAny _ _ (call (Value.ref 41) _) _ _ _); k_dflt (refine' useI ?k1 ?k2 ?k3 ?k4 ?k5 ?kK (gcd_ok _ _ _ _ _ _ ) ?kd ?ku ?_); (case k1 => k_asm); (case k2 => k_asm); (case k3 => k_asm); (case k4 => k_asm); (case k5 => k_asm); (case kK => first | exact rfl | assumption); (case kd => first | exact room_up (by assumption) (by decide) | exact Nat.le_of_ble_eq_true rfl | ktr_room); (case ku => first | exact units_up (by assumption) (by decide) | exact Nat.le_of_ble_eq_true rfl | ktr_units); intro zt9 zh9 ztk9 zF9 zN9; (try dsimp only); (try k_fold))
  k_with "call ref" => ((with_reducible show wpAny _ _ (call (Value.ref 31) _) _ _ _); exfalso; first | contradiction | omega)
  k_with "binaryOp FloorDiv int int" => (k_here; refine floordiv_int ?k1 ?_ (Or.inl (PyProof.noPylong_of_log2 ?k2)); (case k1 => first | assumption | omega); (case k2 => assumption))
  k_with "call ref" => (k_here; (with_reducible show wpAny _ _ (call (Value.ref 57) _) _ _ _); k_dflt (refine' useR ?k1 ?k2 ?k3 ?k4 ?k5 ?kK (rat_ok _ _ _ _ _ _ ?h0 ?h1) ?kd ?ku ?_); (case k1 => k_asm); (case k2 => k_asm); (case k3 => k_asm); (case k4 => k_asm); (case k5 => k_asm); (case kK => first | exact rfl | assumption); (case h0 => assumption); (case h1 => assumption); (case kd => first | exact room_up (by assumption) (by decide) | exact Nat.le_of_ble_eq_true rfl | ktr_room); (case ku => first | exact units_up (by assumption) (by decide) | exact Nat.le_of_ble_eq_true rfl | ktr_units); intro zD9 zt9 zu9 zn9 zh9 ztk9 zF9 zN9 zl9; (try dsimp only); (try k_fold))
  k_with "subscriptTail" => (k_here; (with_reducible show wpAny _ _ (subscriptTail _ _ (Value.ref _) (Value.int 0 _)) _ _ _); k_dflt (refine' rat_item0 ?k1 ?k2 ?k3 ?k4 ?_; (case k1 => k_asm); (case k2 => k_asm); (case k3 => k_asm); (case k4 => first | exact Src.up (by assumption) (by intro p hp; kcf_m) | exact Src.here (by kcf_m))))
  k_with "subscriptTail" => (k_here; (with_reducible show wpAny _ _ (subscriptTail _ _ (Value.ref _) (Value.int 1 _)) _ _ _); k_dflt (refine' rat_item1 ?k1 ?k2 ?k3 ?k4 ?_; (case k1 => k_asm); (case k2 => k_asm); (case k3 => k_asm); (case k4 => first | exact Src.up (by assumption) (by intro p hp; kcf_m) | exact Src.here (by kcf_m))))
  intro p loose mean mg mb dp un gd cn cs f ccd cl outer A₀ base h₀ L m s Q E Bl F X N T hk hd hu hret
  refine wpAny_call ?_
  k_dflt cell_enter
  obtain ⟨q1, q2⟩ := den_ok (x := a.den) (y := b.den) sa.2 sb.2 (by have := a.den_nz; omega) (by have := b.den_nz; omega)
  have m0 : IntMulOk a.num b.num := mulOk sa.1
  have m9 : IntMulOk a.den b.den := mulOk sa.2
  k_steps
  rename News _ _ _ _ => kN
  rename (∀ p ∈ news, p.1 ≠ _) => kl
  rw [rmul_eq] at kN
  exact hret _ _ _ _ (by assumption) kN (Ext.one kl) ⟨_, _, _, _, rfl, rfl, kl⟩
theorem rdiv_ok (w : World) (A B : Addr) (a b : Rat) (t1 u1 : MTok) (n1 : Nat) (t2 u2 : MTok) (n2 : Nat) (news : Led) (hA : Src w news A (rObj a t1 u1 n1)) (hB : Src w news B (rObj b t2 u2 n2)) (sa : Sm a) (sb : Sm b) (hb : b ≠ 0) :
    Cl w 85 [.ref A, .ref B] 3 news (fun v cur => NewR news cur v (a / b)) := by
  w_top off
  unfold Cl
  k_fill
  k_with_none
  k_with "call ref" => (k_here; (with_reducible show wpAny _ _ (call (Value.ref 41) _) _ _ _); k_dflt (refine' useI ?k1 ?k2 ?k3 ?k4 ?k5 ?kK (gcd_ok _ _ _ _ _ _ ) ?kd ?ku ?_); (case k1 => k_asm); (case k2 => k_asm); (case k3 => k_asm); (case k4 => k_asm); (case k5 => k_asm); (case kK => first | exact rfl | assumption); (case kd => first | exact room_up (by assumption) (by decide) | exact Nat.le_of_ble_eq_true rfl | ktr_room); (case ku => first | exact units_up (by assumption) (by decide) | exact Nat.le_of_ble_eq_true rfl | ktr_units); intro zt9 zh9 ztk9 zF9 zN9; (try dsimp only); (try k_fold))
  k_with "call ref" => ((with_reducible show wpAny _ _ (call (Value.ref 31) _) _ _ _); exfalso; first | contradiction | omega)
  k_with "binaryOp FloorDiv int int" => (k_here; refine floordiv_int ?k1 ?_ (Or.inl (PyProof.noPylong_of_log2 ?k2)); (case k1 => first | assumption | omega); (case k2 => assumption))
  k_with "call ref" => (k_here; (with_reducible show wpAny _ _ (call (Value.ref 57) _) _ _ _); k_dflt (refine' useR ?k1 ?k2 ?k3 ?k4 ?k5 ?kK (rat_ok _ _ _ _ _ _ ?h0 ?h1) ?kd ?ku ?_); (case k1 => k_asm); (case k2 => k_asm); (case k3 => k_asm); (case k4 => k_asm); (case k5 => k_asm); (case kK => first | exact rfl | assumption); (case h0 => assumption); (case h1 => assumption); (case kd => first | exact room_up (by assumption) (by decide) | exact Nat.le_of_ble_eq_true rfl | ktr_room); (case ku => first | exact units_up (by assumption) (by decide) | exact Nat.le_of_ble_eq_true rfl | ktr_units); intro zD9 zt9 zu9 zn9 zh9 ztk9 zF9 zN9 zl9; (try dsimp only); (try k_fold))
  k_with "subscriptTail" => (k_here; (with_reducible show wpAny _ _ (subscriptTail _ _ (Value.ref _) (Value.int 0 _)) _ _ _); k_dflt (refine' rat_item0 ?k1 ?k2 ?k3 ?k4 ?_; (case k1 => k_asm); (case k2 => k_asm); (case k3 => k_asm); (case k4 => first | exact Src.up (by assumption) (by intro p hp; kcf_m) | exact Src.here (by kcf_m))))
  k_with "subscriptTail" => (k_here; (with_reducible show wpAny _ _ (subscriptTail _ _ (Value.ref _) (Value.int 1 _)) _ _ _); k_dflt (refine' rat_item1 ?k1 ?k2 ?k3 ?k4 ?_; (case k1 => k_asm); (case k2 => k_asm); (case k3 => k_asm); (case k4 => first | exact Src.up (by assumption) (by intro p hp; kcf_m) | exact Src.here (by kcf_m))))
  intro p loose mean mg mb dp un gd cn cs f ccd cl outer A₀ base h₀ L m s Q E Bl F X N T hk hd hu hret
  refine wpAny_call ?_
  k_dflt cell_enter
  obtain ⟨q1, q2⟩ := den_ok (x := a.den) (y := b.num) sa.2 sb.1 (by have := a.den_nz; omega) (by intro h; exact hb (Rat.num_eq_zero.mp h))
  have m0 : IntMulOk a.num b.den := mulOk sa.1
  have m9 : IntMulOk a.den b.num := mulOk sa.2
  k_steps
  rename News _ _ _ _ => kN
  rename (∀ p ∈ news, p.1 ≠ _) => kl
  rw [rdiv_eq] at kN
  exact hret _ _ _ _ (by assumption) kN (Ext.one kl) ⟨_, _, _, _, rfl, rfl, kl⟩
theorem is_vast_ok (w : World) (A : Addr) (a : Rat) (t1 u1 : MTok) (n1 : Nat) (news : Led) (hA : Src w news A (rObj a t1 u1 n1)) (sa : Sm a) :
    Cl w 92 [.ref A] 2 news (fun v cur => v = .bool false ∧ cur = news) := by
  w_top off
  unfold Cl
  k_fill
  k_with_none
  k_with "call ref" => (k_here; (with_reducible show wpAny _ _ (call (Value.ref 41) _) _ _ _); k_dflt (refine' useI ?k1 ?k2 ?k3 ?k4 ?k5 ?kK (gcd_ok _ _ _ _ _ _ ) ?kd ?ku ?_); (case k1 => k_asm); (case k2 => k_asm); (case k3 => k_asm); (case k4 => k_asm); (case k5 => k_asm); (case kK => first | exact rfl | assumption); (case kd => first | exact room_up (by assumption) (by decide) | exact Nat.le_of_ble_eq_true rfl | ktr_room); (case ku => first | exact units_up (by assumption) (by decide) | exact Nat.le_of_ble_eq_true rfl | ktr_units); intro zt9 zh9 ztk9 zF9 zN9; (try dsimp only); (try k_fold))
  k_with "call ref" => ((with_reducible show wpAny _ _ (call (Value.ref 31) _) _ _ _); exfalso; first | contradiction | omega)
  k_with "binaryOp FloorDiv int int" => (k_here; refine floordiv_int ?k1 ?_ (Or.inl (PyProof.noPylong_of_log2 ?k2)); (case k1 => first | assumption | omega); (case k2 => assumption))
  k_with "call ref" => (k_here; (with_reducible show wpAny _ _ (call (Value.ref 57) _) _ _ _); k_dflt (refine' useR ?k1 ?k2 ?k3 ?k4 ?k5 ?kK (rat_ok _ _ _ _ _ _ ?h0 ?h1) ?kd ?ku ?_); (case k1 => k_asm); (case k2 => k_asm); (case k3 => k_asm); (case k4 => k_asm); (case k5 => k_asm); (case kK => first | exact rfl | assumption); (case h0 => assumption); (case h1 => assumption); (case kd => first | exact room_up (by assumption) (by decide) | exact Nat.le_of_ble_eq_true rfl | ktr_room); (case ku => first | exact units_up (by assumption) (by decide) | exact Nat.le_of_ble_eq_true rfl | ktr_units); intro zD9 zt9 zu9 zn9 zh9 ztk9 zF9 zN9 zl9; (try dsimp only); (try k_fold))
  k_with "subscriptTail" => (k_here; (with_reducible show wpAny _ _ (subscriptTail _ _ (Value.ref _) (Value.int 0 _)) _ _ _); k_dflt (refine' rat_item0 ?k1 ?k2 ?k3 ?k4 ?_; (case k1 => k_asm); (case k2 => k_asm); (case k3 => k_asm); (case k4 => first | exact Src.up (by assumption) (by intro p hp; kcf_m) | exact Src.here (by kcf_m))))
  k_with "subscriptTail" => (k_here; (with_reducible show wpAny _ _ (subscriptTail _ _ (Value.ref _) (Value.int 1 _)) _ _ _); k_dflt (refine' rat_item1 ?k1 ?k2 ?k3 ?k4 ?_; (case k1 => k_asm); (case k2 => k_asm); (case k3 => k_asm); (case k4 => first | exact Src.up (by assumption) (by intro p hp; kcf_m) | exact Src.here (by kcf_m))))
  k_with "call ref" => (k_here; (with_reducible show wpAny _ _ (call (Value.ref 64) _) _ _ _); k_dflt (refine' useR ?k1 ?k2 ?k3 ?k4 ?k5 ?kK (radd_ok _ _ _ _ _ _ _ _ _ _ _ _ ?h0 ?h1 ?h2 ?h3) ?kd ?ku ?_); (case k1 => k_asm); (case k2 => k_asm); (case k3 => k_asm); (case k4 => k_asm); (case k5 => k_asm); (case kK => first | exact rfl | assumption); (case h0 => first | exact Src.up (by assumption) (by intro p hp; kcf_m) | exact Src.here (by kcf_m) | (refine' Src.int2 ?s1 ?s2; (case s1 => kcf_m); (case s2 => exact rfl))); (case h1 => first | exact Src.up (by assumption) (by intro p hp; kcf_m) | exact Src.here (by kcf_m) | (refine' Src.int2 ?s1 ?s2; (case s1 => kcf_m); (case s2 => exact rfl))); (case h2 => k_extra "small"); (case h3 => k_extra "small"); (case kd => first | exact room_up (by assumption) (by decide) | exact Nat.le_of_ble_eq_true rfl | ktr_room); (case ku => first | exact units_up (by assumption) (by decide) | exact Nat.le_of_ble_eq_true rfl | ktr_units); intro zD9 zt9 zu9 zn9 zh9 ztk9 zF9 zN9 zl9; (try dsimp only); (try k_fold))
  k_with "call ref" => (k_here; (with_reducible show wpAny _ _ (call (Value.ref 71) _) _ _ _); k_dflt (refine' useR ?k1 ?k2 ?k3 ?k4 ?k5 ?kK (rsub_ok _ _ _ _ _ _ _ _ _ _ _ _ ?h0 ?h1 ?h2 ?h3) ?kd ?ku ?_); (case k1 => k_asm); (case k2 => k_asm); (case k3 => k_asm); (case k4 => k_asm); (case k5 => k_asm); (case kK => first | exact rfl | assumption); (case h0 => first | exact Src.up (by assumption) (by intro p hp; kcf_m) | exact Src.here (by kcf_m) | (refine' Src.int2 ?s1 ?s2; (case s1 => kcf_m); (case s2 => exact rfl))); (case h1 => first | exact Src.up (by assumption) (by intro p hp; kcf_m) | exact Src.here (by kcf_m) | (refine' Src.int2 ?s1 ?s2; (case s1 => kcf_m); (case s2 => exact rfl))); (case h2 => k_extra "small"); (case h3 => k_extra "small"); (case kd => first | exact room_up (by assumption) (by decide) | exact Nat.le_of_ble_eq_true rfl | ktr_room); (case ku => first | exact units_up (by assumption) (by decide) | exact Nat.le_of_ble_eq_true rfl | ktr_units); intro zD9 zt9 zu9 zn9 zh9 ztk9 zF9 zN9 zl9; (try dsimp only); (try k_fold))
  k_with "call ref" => (k_here; (with_reducible show wpAny _ _ (call (Value.ref 78) _) _ _ _); k_dflt (refine' useR ?k1 ?k2 ?k3 ?k4 ?k5 ?kK (rmul_ok _ _ _ _ _ _ _ _ _ _ _ _ ?h0 ?h1 ?h2 ?h3) ?kd ?ku ?_); (case k1 => k_asm); (case k2 => k_asm); (case k3 => k_asm); (case k4 => k_asm); (case k5 => k_asm); (case kK => first | exact rfl | assumption); (case h0 => first | exact Src.up (by assumption) (by intro p hp; kcf_m) | exact Src.here (by kcf_m) | (refine' Src.int2 ?s1 ?s2; (case s1 => kcf_m); (case s2 => exact rfl))); (case h1 => first | exact Src.up (by assumption) (by intro p hp; kcf_m) | exact Src.here (by kcf_m) | (refine' Src.int2 ?s1 ?s2; (case s1 => kcf_m); (case s2 => exact rfl))); (case h2 => k_extra "small"); (case h3 => k_extra "small"); (case kd => first | exact room_up (by assumption) (by decide) | exact Nat.le_of_ble_eq_true rfl | ktr_room); (case ku => first | exact units_up (by assumption) (by decide) | exact Nat.le_of_ble_eq_true rfl | ktr_units); intro zD9 zt9 zu9 zn9 zh9 ztk9 zF9 zN9 zl9; (try dsimp only); (try k_fold))
  k_with "call ref" => (k_here; (with_reducible show wpAny _ _ (call (Value.ref 85) _) _ _ _); k_dflt (refine' useR ?k1 ?k2 ?k3 ?k4 ?k5 ?kK (rdiv_ok _ _ _ _ _ _ _ _ _ _ _ _ ?h0 ?h1 ?h2 ?h3 ?h4) ?kd ?ku ?_); (case k1 => k_asm); (case k2 => k_asm); (case k3 => k_asm); (case k4 => k_asm); (case k5 => k_asm); (case kK => first | exact rfl | assumption); (case h0 => first | exact Src.up (by assumption) (by intro p hp; kcf_m) | exact Src.here (by kcf_m) | (refine' Src.int2 ?s1 ?s2; (case s1 => kcf_m); (case s2 => exact rfl))); (case h1 => first | exact Src.up (by assumption) (by intro p hp; kcf_m) | exact Src.here (by kcf_m) | (refine' Src.int2 ?s1 ?s2; (case s1 => kcf_m); (case s2 => exact rfl))); (case h2 => k_extra "small"); (case h3 => k_extra "small"); (case h4 => k_extra "nonzero"); (case kd => first | exact room_up (by assumption) (by decide) | exact Nat.le_of_ble_eq_true rfl | ktr_room); (case ku => first | exact units_up (by assumption) (by decide) | exact Nat.le_of_ble_eq_true rfl | ktr_units); intro zD9 zt9 zu9 zn9 zh9 ztk9 zF9 zN9 zl9; (try dsimp only); (try k_fold))
  intro p loose mean mg mb dp un gd cn cs f ccd cl outer A₀ base h₀ L m s Q E Bl F X N T hk hd hu hret
  refine wpAny_call ?_
  k_dflt cell_enter
  have s1 : a.num.natAbs < 18446744073709551616 := sa.1
  have s2 : a.den < 18446744073709551616 := sa.2
  have e64 : (2 : Int) ^ Int.toNat 64 = 18446744073709551616 := by decide
  have lt : (if (a.den : Int) > (if a.num < 0 then -a.num else a.num) then (a.den : Int) else if a.num < 0 then -a.num else a.num) < 18446744073709551616 := by
    split
    · omega
    · split <;> omega
  have nle : ¬ (2 : Int) ^ Int.toNat 64 ≤ (if (a.den : Int) > (if a.num < 0 then -a.num else a.num) then (a.den : Int) else if a.num < 0 then -a.num else a.num) := by rw [e64]; omega
  k_steps
  all_goals
    rename News _ _ _ _ => kN
    exact hret _ news _ _ (by assumption) kN (Ext.refl _) ⟨by rw [decide_eq_false nle], rfl⟩
theorem rcompare_ok (w : World) (A B : Addr) (a : Rat) (t1 u1 : MTok) (n1 : Nat) (t2 u2 : MTok) (n2 : Nat) (news : Led) (hA : Src w news A (rObj a t1 u1 n1)) (hB : Src w news B (rObj a t2 u2 n2)) (sa : Sm a) :
    Cl w 99 [.ref A, .ref B] 2 news (fun v cur => (∃ t, v = .int 0 t) ∧ cur = news) := by
  w_top off
  unfold Cl
  k_fill
  k_with_none
  k_with "call ref" => (k_here; (with_reducible show wpAny _ _ (call (Value.ref 41) _) _ _ _); k_dflt (refine' useI ?k1 ?k2 ?k3 ?k4 ?k5 ?kK (gcd_ok _ _ _ _ _ _ ) ?kd ?ku ?_); (case k1 => k_asm); (case k2 => k_asm); (case k3 => k_asm); (case k4 => k_asm); (case k5 => k_asm); (case kK => first | exact rfl | assumption); (case kd => first | exact room_up (by assumption) (by decide) | exact Nat.le_of_ble_eq_true rfl | ktr_room); (case ku => first | exact units_up (by assumption) (by decide) | exact Nat.le_of_ble_eq_true rfl | ktr_units); intro zt9 zh9 ztk9 zF9 zN9; (try dsimp only); (try k_fold))
  k_with "call ref" => ((with_reducible show wpAny _ _ (call (Value.ref 31) _) _ _ _); exfalso; first | contradiction | omega)
  k_with "binaryOp FloorDiv int int" => (k_here; refine floordiv_int ?k1 ?_ (Or.inl (PyProof.noPylong_of_log2 ?k2)); (case k1 => first | assumption | omega); (case k2 => assumption))
  k_with "call ref" => (k_here; (with_reducible show wpAny _ _ (call (Value.ref 57) _) _ _ _); k_dflt (refine' useR ?k1 ?k2 ?k3 ?k4 ?k5 ?kK (rat_ok _ _ _ _ _ _ ?h0 ?h1) ?kd ?ku ?_); (case k1 => k_asm); (case k2 => k_asm); (case k3 => k_asm); (case k4 => k_asm); (case k5 => k_asm); (case kK => first | exact rfl | assumption); (case h0 => assumption); (case h1 => assumption); (case kd => first | exact room_up (by assumption) (by decide) | exact Nat.le_of_ble_eq_true rfl | ktr_room); (case ku => first | exact units_up (by assumption) (by decide) | exact Nat.le_of_ble_eq_true rfl | ktr_units); intro zD9 zt9 zu9 zn9 zh9 ztk9 zF9 zN9 zl9; (try dsimp only); (try k_fold))
  k_with "subscriptTail" => (k_here; (with_reducible show wpAny _ _ (subscriptTail _ _ (Value.ref _) (Value.int 0 _)) _ _ _); k_dflt (refine' rat_item0 ?k1 ?k2 ?k3 ?k4 ?_; (case k1 => k_asm); (case k2 => k_asm); (case k3 => k_asm); (case k4 => first | exact Src.up (by assumption) (by intro p hp; kcf_m) | exact Src.here (by kcf_m))))
  k_with "subscriptTail" => (k_here; (with_reducible show wpAny _ _ (subscriptTail _ _ (Value.ref _) (Value.int 1 _)) _ _ _); k_dflt (refine' rat_item1 ?k1 ?k2 ?k3 ?k4 ?_; (case k1 => k_asm); (case k2 => k_asm); (case k3 => k_asm); (case k4 => first | exact Src.up (by assumption) (by intro p hp; kcf_m) | exact Src.here (by kcf_m))))
  k_with "call ref" => (k_here; (with_reducible show wpAny _ _ (call (Value.ref 64) _) _ _ _); k_dflt (refine' useR ?k1 ?k2 ?k3 ?k4 ?k5 ?kK (radd_ok _ _ _ _ _ _ _ _ _ _ _ _ ?h0 ?h1 ?h2 ?h3) ?kd ?ku ?_); (case k1 => k_asm); (case k2 => k_asm); (case k3 => k_asm); (case k4 => k_asm); (case k5 => k_asm); (case kK => first | exact rfl | assumption); (case h0 => first | exact Src.up (by assumption) (by intro p hp; kcf_m) | exact Src.here (by kcf_m) | (refine' Src.int2 ?s1 ?s2; (case s1 => kcf_m); (case s2 => exact rfl))); (case h1 => first | exact Src.up (by assumption) (by intro p hp; kcf_m) | exact Src.here (by kcf_m) | (refine' Src.int2 ?s1 ?s2; (case s1 => kcf_m); (case s2 => exact rfl))); (case h2 => k_extra "small"); (case h3 => k_extra "small"); (case kd => first | exact room_up (by assumption) (by decide) | exact Nat.le_of_ble_eq_true rfl | ktr_room); (case ku => first | exact units_up (by assumption) (by decide) | exact Nat.le_of_ble_eq_true rfl | ktr_units); intro zD9 zt9 zu9 zn9 zh9 ztk9 zF9 zN9 zl9; (try dsimp only); (try k_fold))
  k_with "call ref" => (k_here; (with_reducible show wpAny _ _ (call (Value.ref 71) _) _ _ _); k_dflt (refine' useR ?k1 ?k2 ?k3 ?k4 ?k5 ?kK (rsub_ok _ _ _ _ _ _ _ _ _ _ _ _ ?h0 ?h1 ?h2 ?h3) ?kd ?ku ?_); (case k1 => k_asm); (case k2 => k_asm); (case k3 => k_asm); (case k4 => k_asm); (case k5 => k_asm); (case kK => first | exact rfl | assumption); (case h0 => first | exact Src.up (by assumption) (by intro p hp; kcf_m) | exact Src.here (by kcf_m) | (refine' Src.int2 ?s1 ?s2; (case s1 => kcf_m); (case s2 => exact rfl))); (case h1 => first | exact Src.up (by assumption) (by intro p hp; kcf_m) | exact Src.here (by kcf_m) | (refine' Src.int2 ?s1 ?s2; (case s1 => kcf_m); (case s2 => exact rfl))); (case h2 => k_extra "small"); (case h3 => k_extra "small"); (case kd => first | exact room_up (by assumption) (by decide) | exact Nat.le_of_ble_eq_true rfl | ktr_room); (case ku => first | exact units_up (by assumption) (by decide) | exact Nat.le_of_ble_eq_true rfl | ktr_units); intro zD9 zt9 zu9 zn9 zh9 ztk9 zF9 zN9 zl9; (try dsimp only); (try k_fold))
  k_with "call ref" => (k_here; (with_reducible show wpAny _ _ (call (Value.ref 78) _) _ _ _); k_dflt (refine' useR ?k1 ?k2 ?k3 ?k4 ?k5 ?kK (rmul_ok _ _ _ _ _ _ _ _ _ _ _ _ ?h0 ?h1 ?h2 ?h3) ?kd ?ku ?_); (case k1 => k_asm); (case k2 => k_asm); (case k3 => k_asm); (case k4 => k_asm); (case k5 => k_asm); (case kK => first | exact rfl | assumption); (case h0 => first | exact Src.up (by assumption) (by intro p hp; kcf_m) | exact Src.here (by kcf_m) | (refine' Src.int2 ?s1 ?s2; (case s1 => kcf_m); (case s2 => exact rfl))); (case h1 => first | exact Src.up (by assumption) (by intro p hp; kcf_m) | exact Src.here (by kcf_m) | (refine' Src.int2 ?s1 ?s2; (case s1 => kcf_m); (case s2 => exact rfl))); (case h2 => k_extra "small"); (case h3 => k_extra "small"); (case kd => first | exact room_up (by assumption) (by decide) | exact Nat.le_of_ble_eq_true rfl | ktr_room); (case ku => first | exact units_up (by assumption) (by decide) | exact Nat.le_of_ble_eq_true rfl | ktr_units); intro zD9 zt9 zu9 zn9 zh9 ztk9 zF9 zN9 zl9; (try dsimp only); (try k_fold))
  k_with "call ref" => (k_here; (with_reducible show wpAny _ _ (call (Value.ref 85) _) _ _ _); k_dflt (refine' useR ?k1 ?k2 ?k3 ?k4 ?k5 ?kK (rdiv_ok _ _ _ _ _ _ _ _ _ _ _ _ ?h0 ?h1 ?h2 ?h3 ?h4) ?kd ?ku ?_); (case k1 => k_asm); (case k2 => k_asm); (case k3 => k_asm); (case k4 => k_asm); (case k5 => k_asm); (case kK => first | exact rfl | assumption); (case h0 => first | exact Src.up (by assumption) (by intro p hp; kcf_m) | exact Src.here (by kcf_m) | (refine' Src.int2 ?s1 ?s2; (case s1 => kcf_m); (case s2 => exact rfl))); (case h1 => first | exact Src.up (by assumption) (by intro p hp; kcf_m) | exact Src.here (by kcf_m) | (refine' Src.int2 ?s1 ?s2; (case s1 => kcf_m); (case s2 => exact rfl))); (case h2 => k_extra "small"); (case h3 => k_extra "small"); (case h4 => k_extra "nonzero"); (case kd => first | exact room_up (by assumption) (by decide) | exact Nat.le_of_ble_eq_true rfl | ktr_room); (case ku => first | exact units_up (by assumption) (by decide) | exact Nat.le_of_ble_eq_true rfl | ktr_units); intro zD9 zt9 zu9 zn9 zh9 ztk9 zF9 zN9 zl9; (try dsimp only); (try k_fold))
  intro p loose mean mg mb dp un gd cn cs f ccd cl outer A₀ base h₀ L m s Q E Bl F X N T hk hd hu hret
  refine wpAny_call ?_
  k_dflt cell_enter
  have m1 : IntMulOk a.num a.den := mulOk sa.1
  k_steps
  rename News _ _ _ _ => kN
  exact hret _ news _ _ (by assumption) kN (Ext.refl _) ⟨⟨_, by rw [Int.sub_self]; rfl⟩, rfl⟩
theorem let_ok (w : World) (A : Addr) (a : Rat) (t1 u1 : MTok) (n1 : Nat) (news : Led) (hA : Src w news A (rObj a t1 u1 n1)) (sa : Sm a) :
    Cl w 106 [.ref A] 3 news (fun v cur => v = .ref A ∧ cur = news) := by
  w_top off
  unfold Cl
  k_fill
  k_with_none
  k_with "call ref" => (k_here; (with_reducible show wpAny _ _ (call (Value.ref 41) _) _ _ _); k_dflt (refine' useI ?k1 ?k2 ?k3 ?k4 ?k5 ?kK (gcd_ok _ _ _ _ _ _ ) ?kd ?ku ?_); (case k1 => k_asm); (case k2 => k_asm); (case k3 => k_asm); (case k4 => k_asm); (case k5 => k_asm); (case kK => first | exact rfl | assumption); (case kd => first | exact room_up (by assumption) (by decide) | exact Nat.le_of_ble_eq_true rfl | ktr_room); (case ku => first | exact units_up (by assumption) (by decide) | exact Nat.le_of_ble_eq_true rfl | ktr_units); intro zt9 zh9 ztk9 zF9 zN9; (try dsimp only); (try k_fold))
  k_with "call ref" => ((with_reducible show wpAny _ _ (call (Value.ref 31) _) _ _ _); exfalso; first | contradiction | omega)
  k_with "binaryOp FloorDiv int int" => (k_here; refine floordiv_int ?k1 ?_ (Or.inl (PyProof.noPylong_of_log2 ?k2)); (case k1 => first | assumption | omega); (case k2 => assumption))
  k_with "call ref" => (k_here; (with_reducible show wpAny _ _ (call (Value.ref 57) _) _ _ _); k_dflt (refine' useR ?k1 ?k2 ?k3 ?k4 ?k5 ?kK (rat_ok _ _ _ _ _ _ ?h0 ?h1) ?kd ?ku ?_); (case k1 => k_asm); (case k2 => k_asm); (case k3 => k_asm); (case k4 => k_asm); (case k5 => k_asm); (case kK => first | exact rfl | assumption); (case h0 => assumption); (case h1 => assumption); (case kd => first | exact room_up (by assumption) (by decide) | exact Nat.le_of_ble_eq_true rfl | ktr_room); (case ku => first | exact units_up (by assumption) (by decide) | exact Nat.le_of_ble_eq_true rfl | ktr_units); intro zD9 zt9 zu9 zn9 zh9 ztk9 zF9 zN9 zl9; (try dsimp only); (try k_fold))
  k_with "subscriptTail" => (k_here; (with_reducible show wpAny _ _ (subscriptTail _ _ (Value.ref _) (Value.int 0 _)) _ _ _); k_dflt (refine' rat_item0 ?k1 ?k2 ?k3 ?k4 ?_; (case k1 => k_asm); (case k2 => k_asm); (case k3 => k_asm); (case k4 => first | exact Src.up (by assumption) (by intro p hp; kcf_m) | exact Src.here (by kcf_m))))
  k_with "subscriptTail" => (k_here; (with_reducible show wpAny _ _ (subscriptTail _ _ (Value.ref _) (Value.int 1 _)) _ _ _); k_dflt (refine' rat_item1 ?k1 ?k2 ?k3 ?k4 ?_; (case k1 => k_asm); (case k2 => k_asm); (case k3 => k_asm); (case k4 => first | exact Src.up (by assumption) (by intro p hp; kcf_m) | exact Src.here (by kcf_m))))
  k_with "call ref" => (k_here; (with_reducible show wpAny _ _ (call (Value.ref 64) _) _ _ _); k_dflt (refine' useR ?k1 ?k2 ?k3 ?k4 ?k5 ?kK (radd_ok _ _ _ _ _ _ _ _ _ _ _ _ ?h0 ?h1 ?h2 ?h3) ?kd ?ku ?_); (case k1 => k_asm); (case k2 => k_asm); (case k3 => k_asm); (case k4 => k_asm); (case k5 => k_asm); (case kK => first | exact rfl | assumption); (case h0 => first | exact Src.up (by assumption) (by intro p hp; kcf_m) | exact Src.here (by kcf_m) | (refine' Src.int2 ?s1 ?s2; (case s1 => kcf_m); (case s2 => exact rfl))); (case h1 => first | exact Src.up (by assumption) (by intro p hp; kcf_m) | exact Src.here (by kcf_m) | (refine' Src.int2 ?s1 ?s2; (case s1 => kcf_m); (case s2 => exact rfl))); (case h2 => k_extra "small"); (case h3 => k_extra "small"); (case kd => first | exact room_up (by assumption) (by decide) | exact Nat.le_of_ble_eq_true rfl | ktr_room); (case ku => first | exact units_up (by assumption) (by decide) | exact Nat.le_of_ble_eq_true rfl | ktr_units); intro zD9 zt9 zu9 zn9 zh9 ztk9 zF9 zN9 zl9; (try dsimp only); (try k_fold))
  k_with "call ref" => (k_here; (with_reducible show wpAny _ _ (call (Value.ref 71) _) _ _ _); k_dflt (refine' useR ?k1 ?k2 ?k3 ?k4 ?k5 ?kK (rsub_ok _ _ _ _ _ _ _ _ _ _ _ _ ?h0 ?h1 ?h2 ?h3) ?kd ?ku ?_); (case k1 => k_asm); (case k2 => k_asm); (case k3 => k_asm); (case k4 => k_asm); (case k5 => k_asm); (case kK => first | exact rfl | assumption); (case h0 => first | exact Src.up (by assumption) (by intro p hp; kcf_m) | exact Src.here (by kcf_m) | (refine' Src.int2 ?s1 ?s2; (case s1 => kcf_m); (case s2 => exact rfl))); (case h1 => first | exact Src.up (by assumption) (by intro p hp; kcf_m) | exact Src.here (by kcf_m) | (refine' Src.int2 ?s1 ?s2; (case s1 => kcf_m); (case s2 => exact rfl))); (case h2 => k_extra "small"); (case h3 => k_extra "small"); (case kd => first | exact room_up (by assumption) (by decide) | exact Nat.le_of_ble_eq_true rfl | ktr_room); (case ku => first | exact units_up (by assumption) (by decide) | exact Nat.le_of_ble_eq_true rfl | ktr_units); intro zD9 zt9 zu9 zn9 zh9 ztk9 zF9 zN9 zl9; (try dsimp only); (try k_fold))
  k_with "call ref" => (k_here; (with_reducible show wpAny _ _ (call (Value.ref 78) _) _ _ _); k_dflt (refine' useR ?k1 ?k2 ?k3 ?k4 ?k5 ?kK (rmul_ok _ _ _ _ _ _ _ _ _ _ _ _ ?h0 ?h1 ?h2 ?h3) ?kd ?ku ?_); (case k1 => k_asm); (case k2 => k_asm); (case k3 => k_asm); (case k4 => k_asm); (case k5 => k_asm); (case kK => first | exact rfl | assumption); (case h0 => first | exact Src.up (by assumption) (by intro p hp; kcf_m) | exact Src.here (by kcf_m) | (refine' Src.int2 ?s1 ?s2; (case s1 => kcf_m); (case s2 => exact rfl))); (case h1 => first | exact Src.up (by assumption) (by intro p hp; kcf_m) | exact Src.here (by kcf_m) | (refine' Src.int2 ?s1 ?s2; (case s1 => kcf_m); (case s2 => exact rfl))); (case h2 => k_extra "small"); (case h3 => k_extra "small"); (case kd => first | exact room_up (by assumption) (by decide) | exact Nat.le_of_ble_eq_true rfl | ktr_room); (case ku => first | exact units_up (by assumption) (by decide) | exact Nat.le_of_ble_eq_true rfl | ktr_units); intro zD9 zt9 zu9 zn9 zh9 ztk9 zF9 zN9 zl9; (try dsimp only); (try k_fold))
  k_with "call ref" => (k_here; (with_reducible show wpAny _ _ (call (Value.ref 85) _) _ _ _); k_dflt (refine' useR ?k1 ?k2 ?k3 ?k4 ?k5 ?kK (rdiv_ok _ _ _ _ _ _ _ _ _ _ _ _ ?h0 ?h1 ?h2 ?h3 ?h4) ?kd ?ku ?_); (case k1 => k_asm); (case k2 => k_asm); (case k3 => k_asm); (case k4 => k_asm); (case k5 => k_asm); (case kK => first | exact rfl | assumption); (case h0 => first | exact Src.up (by assumption) (by intro p hp; kcf_m) | exact Src.here (by kcf_m) | (refine' Src.int2 ?s1 ?s2; (case s1 => kcf_m); (case s2 => exact rfl))); (case h1 => first | exact Src.up (by assumption) (by intro p hp; kcf_m) | exact Src.here (by kcf_m) | (refine' Src.int2 ?s1 ?s2; (case s1 => kcf_m); (case s2 => exact rfl))); (case h2 => k_extra "small"); (case h3 => k_extra "small"); (case h4 => k_extra "nonzero"); (case kd => first | exact room_up (by assumption) (by decide) | exact Nat.le_of_ble_eq_true rfl | ktr_room); (case ku => first | exact units_up (by assumption) (by decide) | exact Nat.le_of_ble_eq_true rfl | ktr_units); intro zD9 zt9 zu9 zn9 zh9 ztk9 zF9 zN9 zl9; (try dsimp only); (try k_fold))
  k_with "call ref" => (k_here; (with_reducible show wpAny _ _ (call (Value.ref 92) _) _ _ _); k_dflt (refine' useV ?k1 ?k2 ?k3 ?k4 ?k5 ?kK (is_vast_ok _ _ _ _ _ _ _ ?h0 ?h1) ?kd ?ku ?_); (case k1 => k_asm); (case k2 => k_asm); (case k3 => k_asm); (case k4 => k_asm); (case k5 => k_asm); (case kK => first | exact rfl | assumption); (case h0 => first | exact Src.up (by assumption) (by intro p hp; kcf_m) | exact Src.here (by kcf_m) | (refine' Src.int2 ?s1 ?s2; (case s1 => kcf_m); (case s2 => exact rfl))); (case h1 => assumption); (case kd => first | exact room_up (by assumption) (by decide) | exact Nat.le_of_ble_eq_true rfl | ktr_room); (case ku => first | exact units_up (by assumption) (by decide) | exact Nat.le_of_ble_eq_true rfl | ktr_units); intro zh9 ztk9 zF9 zN9; (try dsimp only); (try k_fold))
  k_with "call ref" => (k_here; (with_reducible show wpAny _ _ (call (Value.ref 99) _) _ _ _); k_dflt (refine' useZ ?k1 ?k2 ?k3 ?k4 ?k5 ?kK (rcompare_ok _ _ _ _ _ _ _ _ _ _ _ ?h0 ?h1 ?h2) ?kd ?ku ?_); (case k1 => k_asm); (case k2 => k_asm); (case k3 => k_asm); (case k4 => k_asm); (case k5 => k_asm); (case kK => first | exact rfl | assumption); (case h0 => first | exact Src.up (by assumption) (by intro p hp; kcf_m) | exact Src.here (by kcf_m) | (refine' Src.int2 ?s1 ?s2; (case s1 => kcf_m); (case s2 => exact rfl))); (case h1 => first | exact Src.up (by assumption) (by intro p hp; kcf_m) | exact Src.here (by kcf_m) | (refine' Src.int2 ?s1 ?s2; (case s1 => kcf_m); (case s2 => exact rfl))); (case h2 => k_extra "small"); (case kd => first | exact room_up (by assumption) (by decide) | exact Nat.le_of_ble_eq_true rfl | ktr_room); (case ku => first | exact units_up (by assumption) (by decide) | exact Nat.le_of_ble_eq_true rfl | ktr_units); intro zt9 zh9 ztk9 zF9 zN9; (try dsimp only); (try k_fold))
  intro p loose mean mg mb dp un gd cn cs f ccd cl outer A₀ base h₀ L m s Q E Bl F X N T hk hd hu hret
  refine wpAny_call ?_
  k_dflt cell_enter
  k_steps
  rename News _ _ _ _ => kN
  exact hret _ news _ _ (by assumption) kN (Ext.refl _) ⟨rfl, rfl⟩
local macro_rules | `(tactic| walk_at "pyIter ref") => `(tactic| k_dflt (k_extra "my loop"))
theorem R0_src : ∃ t u n, ∀ (w : World) (nw : Led), Src w nw 49 (rObj 0 t u n) := ⟨_, _, _, fun _ _ => .inr (by rfl)⟩
theorem R1_src : ∃ t u n, ∀ (w : World) (nw : Led), Src w nw 50 (rObj 1 t u n) := ⟨_, _, _, fun _ _ => .inr (by rfl)⟩

/-- the sum of the products, so far -/
noncomputable def mixT (a b : Int → Rat) (at' : Int) : Nat → Rat
  | 0 => 0
  | j + 1 => mixT a b at' j + a (j : Int) * b (at' - (j : Int))
theorem mixed_ok (w : World) (la lb : Addr) (va vb : List Value) (ca cb n n' : Nat) (a b : Int → Rat) (at' : Int) (ta : MTok) (news : Led) (hla : (la, listOf va.toArray ca) ∈ news) (hva : LV w news va n a) (hlb : (lb, listOf vb.toArray cb) ∈ news) (hvb : LV w news vb n' b)
    (h0 : 0 ≤ at') (h1 : at' < n) (h2 : at' < n') (hn : (n : Int) < 2 ^ 62) (hn' : (n' : Int) < 2 ^ 62)
    (ok : ∀ j : Nat, (j : Int) ≤ at' → Sm (a j) ∧ Sm (b (at' - j)) ∧ Sm (a j * b (at' - j)) ∧ Sm (mixT a b at' j)) :
    Cl w 123 [.ref la, .ref lb, .int at' ta] 4 news (NewQ w news (mixT a b at' (at' + 1).toNat)) := by
  obtain ⟨t0, u0, c0, hR0⟩ := R0_src
  have hz : Src w news 49 (rObj 0 t0 u0 c0) := hR0 w news
  w_top off
  unfold Cl
  k_fill
  k_with_none
  k_with "call ref" => (k_here; (with_reducible show wpAny _ _ (call (Value.ref 41) _) _ _ _); k_dflt (refine' useI ?k1 ?k2 ?k3 ?k4 ?k5 ?kK (gcd_ok _ _ _ _ _ _ ) ?kd ?ku ?_); (case k1 => k_asm); (case k2 => k_asm); (case k3 => k_asm); (case k4 => k_asm); (case k5 => k_asm); (case kK => first | exact rfl | assumption); (case kd => first | exact room_up (by assumption) (by decide) | exact Nat.le_of_ble_eq_true rfl | ktr_room); (case ku => first | exact units_up (by assumption) (by decide) | exact Nat.le_of_ble_eq_true rfl | ktr_units); intro zt9 zh9 ztk9 zF9 zN9; (try dsimp only); (try k_fold))
  k_with "call ref" => ((with_reducible show wpAny _ _ (call (Value.ref 31) _) _ _ _); exfalso; first | contradiction | omega)
  k_with "binaryOp FloorDiv int int" => (k_here; refine floordiv_int ?k1 ?_ (Or.inl (PyProof.noPylong_of_log2 ?k2)); (case k1 => first | assumption | omega); (case k2 => assumption))
  k_with "call ref" => (k_here; (with_reducible show wpAny _ _ (call (Value.ref 57) _) _ _ _); k_dflt (refine' useR ?k1 ?k2 ?k3 ?k4 ?k5 ?kK (rat_ok _ _ _ _ _ _ ?h0 ?h1) ?kd ?ku ?_); (case k1 => k_asm); (case k2 => k_asm); (case k3 => k_asm); (case k4 => k_asm); (case k5 => k_asm); (case kK => first | exact rfl | assumption); (case h0 => assumption); (case h1 => assumption); (case kd => first | exact room_up (by assumption) (by decide) | exact Nat.le_of_ble_eq_true rfl | ktr_room); (case ku => first | exact units_up (by assumption) (by decide) | exact Nat.le_of_ble_eq_true rfl | ktr_units); intro zD9 zt9 zu9 zn9 zh9 ztk9 zF9 zN9 zl9; (try dsimp only); (try k_fold))
  k_with "subscriptTail" => (k_here; (with_reducible show wpAny _ _ (subscriptTail _ _ (Value.ref _) (Value.int 0 _)) _ _ _); k_dflt (refine' rat_item0 ?k1 ?k2 ?k3 ?k4 ?_; (case k1 => k_asm); (case k2 => k_asm); (case k3 => k_asm); (case k4 => first | exact Src.up (by assumption) (by intro p hp; kcf_m) | exact Src.here (by kcf_m))))
  k_with "subscriptTail" => (k_here; (with_reducible show wpAny _ _ (subscriptTail _ _ (Value.ref _) (Value.int 1 _)) _ _ _); k_dflt (refine' rat_item1 ?k1 ?k2 ?k3 ?k4 ?_; (case k1 => k_asm); (case k2 => k_asm); (case k3 => k_asm); (case k4 => first | exact Src.up (by assumption) (by intro p hp; kcf_m) | exact Src.here (by kcf_m))))
  k_with "call ref" => (k_here; (with_reducible show wpAny _ _ (call (Value.ref 64) _) _ _ _); k_dflt (refine' useR ?k1 ?k2 ?k3 ?k4 ?k5 ?kK (radd_ok _ _ _ _ _ _ _ _ _ _ _ _ ?h0 ?h1 ?h2 ?h3) ?kd ?ku ?_); (case k1 => k_asm); (case k2 => k_asm); (case k3 => k_asm); (case k4 => k_asm); (case k5 => k_asm); (case kK => first | exact rfl | assumption); (case h0 => first | exact Src.up (by assumption) (by intro p hp; kcf_m) | exact Src.here (by kcf_m) | (refine' Src.int2 ?s1 ?s2; (case s1 => kcf_m); (case s2 => exact rfl))); (case h1 => first | exact Src.up (by assumption) (by intro p hp; kcf_m) | exact Src.here (by kcf_m) | (refine' Src.int2 ?s1 ?s2; (case s1 => kcf_m); (case s2 => exact rfl))); (case h2 => k_extra "small"); (case h3 => k_extra "small"); (case kd => first | exact room_up (by assumption) (by decide) | exact Nat.le_of_ble_eq_true rfl | ktr_room); (case ku => first | exact units_up (by assumption) (by decide) | exact Nat.le_of_ble_eq_true rfl | ktr_units); intro zD9 zt9 zu9 zn9 zh9 ztk9 zF9 zN9 zl9; (try dsimp only); (try k_fold))
  k_with "call ref" => (k_here; (with_reducible show wpAny _ _ (call (Value.ref 71) _) _ _ _); k_dflt (refine' useR ?k1 ?k2 ?k3 ?k4 ?k5 ?kK (rsub_ok _ _ _ _ _ _ _ _ _ _ _ _ ?h0 ?h1 ?h2 ?h3) ?kd ?ku ?_); (case k1 => k_asm); (case k2 => k_asm); (case k3 => k_asm); (case k4 => k_asm); (case k5 => k_asm); (case kK => first | exact rfl | assumption); (case h0 => first | exact Src.up (by assumption) (by intro p hp; kcf_m) | exact Src.here (by kcf_m) | (refine' Src.int2 ?s1 ?s2; (case s1 => kcf_m); (case s2 => exact rfl))); (case h1 => first | exact Src.up (by assumption) (by intro p hp; kcf_m) | exact Src.here (by kcf_m) | (refine' Src.int2 ?s1 ?s2; (case s1 => kcf_m); (case s2 => exact rfl))); (case h2 => k_extra "small"); (case h3 => k_extra "small"); (case kd => first | exact room_up (by assumption) (by decide) | exact Nat.le_of_ble_eq_true rfl | ktr_room); (case ku => first | exact units_up (by assumption) (by decide) | exact Nat.le_of_ble_eq_true rfl | ktr_units); intro zD9 zt9 zu9 zn9 zh9 ztk9 zF9 zN9 zl9; (try dsimp only); (try k_fold))
  k_with "call ref" => (k_here; (with_reducible show wpAny _ _ (call (Value.ref 78) _) _ _ _); k_dflt (refine' useR ?k1 ?k2 ?k3 ?k4 ?k5 ?kK (rmul_ok _ _ _ _ _ _ _ _ _ _ _ _ ?h0 ?h1 ?h2 ?h3) ?kd ?ku ?_); (case k1 => k_asm); (case k2 => k_asm); (case k3 => k_asm); (case k4 => k_asm); (case k5 => k_asm); (case kK => first | exact rfl | assumption); (case h0 => first | exact Src.up (by assumption) (by intro p hp; kcf_m) | exact Src.here (by kcf_m) | (refine' Src.int2 ?s1 ?s2; (case s1 => kcf_m); (case s2 => exact rfl))); (case h1 => first | exact Src.up (by assumption) (by intro p hp; kcf_m) | exact Src.here (by kcf_m) | (refine' Src.int2 ?s1 ?s2; (case s1 => kcf_m); (case s2 => exact rfl))); (case h2 => k_extra "small"); (case h3 => k_extra "small"); (case kd => first | exact room_up (by assumption) (by decide) | exact Nat.le_of_ble_eq_true rfl | ktr_room); (case ku => first | exact units_up (by assumption) (by decide) | exact Nat.le_of_ble_eq_true rfl | ktr_units); intro zD9 zt9 zu9 zn9 zh9 ztk9 zF9 zN9 zl9; (try dsimp only); (try k_fold))
  k_with "call ref" => (k_here; (with_reducible show wpAny _ _ (call (Value.ref 85) _) _ _ _); k_dflt (refine' useR ?k1 ?k2 ?k3 ?k4 ?k5 ?kK (rdiv_ok _ _ _ _ _ _ _ _ _ _ _ _ ?h0 ?h1 ?h2 ?h3 ?h4) ?kd ?ku ?_); (case k1 => k_asm); (case k2 => k_asm); (case k3 => k_asm); (case k4 => k_asm); (case k5 => k_asm); (case kK => first | exact rfl | assumption); (case h0 => first | exact Src.up (by assumption) (by intro p hp; kcf_m) | exact Src.here (by kcf_m) | (refine' Src.int2 ?s1 ?s2; (case s1 => kcf_m); (case s2 => exact rfl))); (case h1 => first | exact Src.up (by assumption) (by intro p hp; kcf_m) | exact Src.here (by kcf_m) | (refine' Src.int2 ?s1 ?s2; (case s1 => kcf_m); (case s2 => exact rfl))); (case h2 => k_extra "small"); (case h3 => k_extra "small"); (case h4 => k_extra "nonzero"); (case kd => first | exact room_up (by assumption) (by decide) | exact Nat.le_of_ble_eq_true rfl | ktr_room); (case ku => first | exact units_up (by assumption) (by decide) | exact Nat.le_of_ble_eq_true rfl | ktr_units); intro zD9 zt9 zu9 zn9 zh9 ztk9 zF9 zN9 zl9; (try dsimp only); (try k_fold))
  k_with "call ref" => (k_here; (with_reducible show wpAny _ _ (call (Value.ref 92) _) _ _ _); k_dflt (refine' useV ?k1 ?k2 ?k3 ?k4 ?k5 ?kK (is_vast_ok _ _ _ _ _ _ _ ?h0 ?h1) ?kd ?ku ?_); (case k1 => k_asm); (case k2 => k_asm); (case k3 => k_asm); (case k4 => k_asm); (case k5 => k_asm); (case kK => first | exact rfl | assumption); (case h0 => first | exact Src.up (by assumption) (by intro p hp; kcf_m) | exact Src.here (by kcf_m) | (refine' Src.int2 ?s1 ?s2; (case s1 => kcf_m); (case s2 => exact rfl))); (case h1 => assumption); (case kd => first | exact room_up (by assumption) (by decide) | exact Nat.le_of_ble_eq_true rfl | ktr_room); (case ku => first | exact units_up (by assumption) (by decide) | exact Nat.le_of_ble_eq_true rfl | ktr_units); intro zh9 ztk9 zF9 zN9; (try dsimp only); (try k_fold))
  k_with "call ref" => (k_here; (with_reducible show wpAny _ _ (call (Value.ref 99) _) _ _ _); k_dflt (refine' useZ ?k1 ?k2 ?k3 ?k4 ?k5 ?kK (rcompare_ok _ _ _ _ _ _ _ _ _ _ _ ?h0 ?h1 ?h2) ?kd ?ku ?_); (case k1 => k_asm); (case k2 => k_asm); (case k3 => k_asm); (case k4 => k_asm); (case k5 => k_asm); (case kK => first | exact rfl | assumption); (case h0 => first | exact Src.up (by assumption) (by intro p hp; kcf_m) | exact Src.here (by kcf_m) | (refine' Src.int2 ?s1 ?s2; (case s1 => kcf_m); (case s2 => exact rfl))); (case h1 => first | exact Src.up (by assumption) (by intro p hp; kcf_m) | exact Src.here (by kcf_m) | (refine' Src.int2 ?s1 ?s2; (case s1 => kcf_m); (case s2 => exact rfl))); (case h2 => k_extra "small"); (case kd => first | exact room_up (by assumption) (by decide) | exact Nat.le_of_ble_eq_true rfl | ktr_room); (case ku => first | exact units_up (by assumption) (by decide) | exact Nat.le_of_ble_eq_true rfl | ktr_units); intro zt9 zh9 ztk9 zF9 zN9; (try dsimp only); (try k_fold))
  k_with "call ref" => (k_here; (with_reducible show wpAny _ _ (call (Value.ref 106) _) _ _ _); k_dflt (refine' useV ?k1 ?k2 ?k3 ?k4 ?k5 ?kK (let_ok _ _ _ _ _ _ _ ?h0 ?h1) ?kd ?ku ?_); (case k1 => k_asm); (case k2 => k_asm); (case k3 => k_asm); (case k4 => k_asm); (case k5 => k_asm); (case kK => first | exact rfl | assumption); (case h0 => first | exact Src.up (by assumption) (by intro p hp; kcf_m) | exact Src.here (by kcf_m) | (refine' Src.int2 ?s1 ?s2; (case s1 => kcf_m); (case s2 => exact rfl))); (case h1 => k_extra "small"); (case kd => first | exact room_up (by assumption) (by decide) | exact Nat.le_of_ble_eq_true rfl | ktr_room); (case ku => first | exact units_up (by assumption) (by decide) | exact Nat.le_of_ble_eq_true rfl | ktr_units); intro zh9 ztk9 zF9 zN9; (try dsimp only); (try k_fold))
  k_with "subscriptTail" => (k_here; (with_reducible show wpAny _ _ (subscriptTail _ _ (Value.ref _) (Value.int _ _)) _ _ _); k_dflt (refine' list_item ?k1 ?k2 ?ks ?k3 ?k4 ?k5 ?k6 ?_; (case k1 => k_asm); (case k2 => assumption); (case ks => intro p hp; kcf_m); (case k3 => assumption); (case k4 => omega); (case k5 => omega); (case k6 => omega); intro zA9 zt9 zu9 zc9 zS9; (try dsimp only)))
  k_with "compareOp NotEq ref ref" => (k_here; k_dflt (refine' rat_ne ?k1 ?k2 ?k3 ?k4 ?k5 ?k6 ?_; (case k1 => k_asm); (case k2 => k_asm); (case k3 => k_asm); (case k4 => first | exact Src.up (by assumption) (by intro p hp; kcf_m) | exact Src.here (by kcf_m) | (refine' Src.int2 ?s1 ?s2; (case s1 => kcf_m); (case s2 => exact rfl))); (case k5 => first | exact Src.up (by assumption) (by intro p hp; kcf_m) | exact Src.here (by kcf_m) | (refine' Src.int2 ?s1 ?s2; (case s1 => kcf_m); (case s2 => exact rfl))); (case k6 => ktr_units)))
  k_with "compareOp Eq ref ref" => (k_here; k_dflt (refine' rat_eq ?k1 ?k2 ?k3 ?k4 ?k5 ?k6 ?_; (case k1 => k_asm); (case k2 => k_asm); (case k3 => k_asm); (case k4 => first | exact Src.up (by assumption) (by intro p hp; kcf_m) | exact Src.here (by kcf_m) | (refine' Src.int2 ?s1 ?s2; (case s1 => kcf_m); (case s2 => exact rfl))); (case k5 => first | exact Src.up (by assumption) (by intro p hp; kcf_m) | exact Src.here (by kcf_m) | (refine' Src.int2 ?s1 ?s2; (case s1 => kcf_m); (case s2 => exact rfl))); (case k6 => ktr_units)))
  intro p loose mean mg mb dp un gd cn cs f ccd cl outer A₀ base h₀ L m s Q E Bl F X N T hk hd hu hret
  refine wpAny_call ?_
  k_dflt cell_enter
  k_with "pyIter ref" => skip
  k_with "small" => assumption
  k_with "my loop" => (
    (rename Fr _ _ _ _ => lF); (rename News _ _ _ _ => lN); (rename IsRange _ _ _ _ _ _ _ _ => rgX);
    (with_unfolding_all refine' range_tot0 (Str.ofString "found") (mixT a b at') [] 49 (by rfl) (by rfl) (by exact rgX) (small_one (by omega) (by omega) (by omega) (by omega)) (rangeSize_nat _ _) lF lN (by rfl) ⟨[], _, _, _, rfl, fresh_nil, hR0 w _⟩ ?_ ?_);
    focus (intro j c t u add t9 u9 e9 h tk own hj hoff fr S9 F1 N1; (have hj1 : (j : Int) ≤ at' := by omega); (have ok9 := ok j hj1); (have o1 := ok9.1); (have o2 := ok9.2.1); (have o3 := ok9.2.2.1); (have o4 := ok9.2.2.2); clear lF lN rgX);
    rotate_left;
    focus (intro c u add t9 u9 e9 h tk fr S9 F1 N1; clear lF lN rgX);
    rotate_right;
    all_goals (try k_fold))
  k_steps
  · have e : mixT a b at' (j + 1) = mixT a b at' j := by
      rw [mixT, show a (j : Int) = 0 by assumption, Rat.zero_mul, Rat.add_zero]
    exact my_end c (add ++ news) F1 N1 (by kst_all) (by kst_same) ⟨add, _, _, _, rfl, fr, e ▸ S9⟩ (fun p hp => List.mem_append_left _ hp) (fun p hp => List.mem_append_right _ hp) hoff
  · have e : mixT a b at' (j + 1) = mixT a b at' j := by
      rw [mixT, show b (at' - (j : Int)) = 0 by assumption, Rat.mul_zero, Rat.add_zero]
    exact my_end c (add ++ news) F1 N1 (by kst_all) (by kst_same) ⟨add, _, _, _, rfl, fr, e ▸ S9⟩ (fun p hp => List.mem_append_left _ hp) (fun p hp => List.mem_append_right _ hp) hoff
  · rename News _ _ _ _ => kN
    rename (∀ p, p ∈ _ :: (add ++ news ++ own) → p.1 ≠ _) => l2
    rename (∀ p, p ∈ add ++ news ++ own → p.1 ≠ _) => l1
    have f2 := fresh2 kN l1 l2
    refine my_end _ ([_, _] ++ (add ++ news)) (by assumption) kN (by kst_all) (by kst_same) ⟨_ :: _ :: add, _, _, _, rfl, Fresh.append fr (fresh_sub f2 (fun p hp => List.mem_append_left _ hp)), Src.here (.head _)⟩ (in_own [_, _]) (own_in [_, _]) (own_ext hoff f2)
  · rename News _ _ _ _ => kN
    exact hret _ _ _ _ (by assumption) kN ⟨add, rfl, fr⟩ ⟨add, _, _, _, _, rfl, rfl, fr, by simpa using S9⟩
local macro_rules | `(tactic| walk_at "CompSrc") => `(tactic| k_dflt (k_extra "my comp"))
noncomputable def smulT (a b : Int → Rat) (k : Int) : Rat := mixT a b k (k + 1).toNat
theorem smul_ok (w : World) (la lb : Addr) (va vb : List Value) (ca cb n n' : Nat) (a b : Int → Rat) (news : Led) (hla : (la, listOf va.toArray ca) ∈ news) (hva : LV w news va n a) (hlb : (lb, listOf vb.toArray cb) ∈ news) (hvb : LV w news vb n' b)
    (hnn : n ≤ n') (hn : (n' : Int) < 2 ^ 20)
    (ok : ∀ i : Nat, i < n → Sm (smulT a b i) ∧ ∀ j : Nat, (j : Int) ≤ i → Sm (a j) ∧ Sm (b (i - j)) ∧ Sm (a j * b (i - j)) ∧ Sm (mixT a b i j)) :
    Cl w 128 [.ref la, .ref lb] 6 news (NewL w n (smulT a b)) := by
  w_top off
  unfold Cl
  k_fill
  k_with_none
  k_with "call ref" => (k_here; (with_reducible show wpAny _ _ (call (Value.ref 41) _) _ _ _); k_dflt (refine' useI ?k1 ?k2 ?k3 ?k4 ?k5 ?kK (gcd_ok _ _ _ _ _ _ ) ?kd ?ku ?_); (case k1 => k_asm); (case k2 => k_asm); (case k3 => k_asm); (case k4 => k_asm); (case k5 => k_asm); (case kK => first | exact rfl | assumption); (case kd => first | exact room_up (by assumption) (by decide) | exact Nat.le_of_ble_eq_true rfl | ktr_room); (case ku => first | exact units_up (by assumption) (by decide) | exact Nat.le_of_ble_eq_true rfl | ktr_units); intro zt9 zh9 ztk9 zF9 zN9; (try dsimp only); (try k_fold))
  k_with "call ref" => ((with_reducible show wpAny _ _ (call (Value.ref 31) _) _ _ _); exfalso; first | contradiction | omega)
  k_with "binaryOp FloorDiv int int" => (k_here; refine floordiv_int ?k1 ?_ (Or.inl (PyProof.noPylong_of_log2 ?k2)); (case k1 => first | assumption | omega); (case k2 => assumption))
  k_with "call ref" => (k_here; (with_reducible show wpAny _ _ (call (Value.ref 57) _) _ _ _); k_dflt (refine' useR ?k1 ?k2 ?k3 ?k4 ?k5 ?kK (rat_ok _ _ _ _ _ _ ?h0 ?h1) ?kd ?ku ?_); (case k1 => k_asm); (case k2 => k_asm); (case k3 => k_asm); (case k4 => k_asm); (case k5 => k_asm); (case kK => first | exact rfl | assumption); (case h0 => assumption); (case h1 => assumption); (case kd => first | exact room_up (by assumption) (by decide) | exact Nat.le_of_ble_eq_true rfl | ktr_room); (case ku => first | exact units_up (by assumption) (by decide) | exact Nat.le_of_ble_eq_true rfl | ktr_units); intro zD9 zt9 zu9 zn9 zh9 ztk9 zF9 zN9 zl9; (try dsimp only); (try k_fold))
  k_with "subscriptTail" => (k_here; (with_reducible show wpAny _ _ (subscriptTail _ _ (Value.ref _) (Value.int 0 _)) _ _ _); k_dflt (refine' rat_item0 ?k1 ?k2 ?k3 ?k4 ?_; (case k1 => k_asm); (case k2 => k_asm); (case k3 => k_asm); (case k4 => first | exact Src.up (by assumption) (by intro p hp; kcf_m) | exact Src.here (by kcf_m))))
  k_with "subscriptTail" => (k_here; (with_reducible show wpAny _ _ (subscriptTail _ _ (Value.ref _) (Value.int 1 _)) _ _ _); k_dflt (refine' rat_item1 ?k1 ?k2 ?k3 ?k4 ?_; (case k1 => k_asm); (case k2 => k_asm); (case k3 => k_asm); (case k4 => first | exact Src.up (by assumption) (by intro p hp; kcf_m) | exact Src.here (by kcf_m))))
  k_with "call ref" => (k_here; (with_reducible show wpAny _ _ (call (Value.ref 64) _) _ _ _); k_dflt (refine' useR ?k1 ?k2 ?k3 ?k4 ?k5 ?kK (radd_ok _ _ _ _ _ _ _ _ _ _ _ _ ?h0 ?h1 ?h2 ?h3) ?kd ?ku ?_); (case k1 => k_asm); (case k2 => k_asm); (case k3 => k_asm); (case k4 => k_asm); (case k5 => k_asm); (case kK => first | exact rfl | assumption); (case h0 => first | exact Src.up (by assumption) (by intro p hp; kcf_m) | exact Src.here (by kcf_m) | (refine' Src.int2 ?s1 ?s2; (case s1 => kcf_m); (case s2 => exact rfl))); (case h1 => first | exact Src.up (by assumption) (by intro p hp; kcf_m) | exact Src.here (by kcf_m) | (refine' Src.int2 ?s1 ?s2; (case s1 => kcf_m); (case s2 => exact rfl))); (case h2 => k_extra "small"); (case h3 => k_extra "small"); (case kd => first | exact room_up (by assumption) (by decide) | exact Nat.le_of_ble_eq_true rfl | ktr_room); (case ku => first | exact units_up (by assumption) (by decide) | exact Nat.le_of_ble_eq_true rfl | ktr_units); intro zD9 zt9 zu9 zn9 zh9 ztk9 zF9 zN9 zl9; (try dsimp only); (try k_fold))
  k_with "call ref" => (k_here; (with_reducible show wpAny _ _ (call (Value.ref 71) _) _ _ _); k_dflt (refine' useR ?k1 ?k2 ?k3 ?k4 ?k5 ?kK (rsub_ok _ _ _ _ _ _ _ _ _ _ _ _ ?h0 ?h1 ?h2 ?h3) ?kd ?ku ?_); (case k1 => k_asm); (case k2 => k_asm); (case k3 => k_asm); (case k4 => k_asm); (case k5 => k_asm); (case kK => first | exact rfl | assumption); (case h0 => first | exact Src.up (by assumption) (by intro p hp; kcf_m) | exact Src.here (by kcf_m) | (refine' Src.int2 ?s1 ?s2; (case s1 => kcf_m); (case s2 => exact rfl))); (case h1 => first | exact Src.up (by assumption) (by intro p hp; kcf_m) | exact Src.here (by kcf_m) | (refine' Src.int2 ?s1 ?s2; (case s1 => kcf_m); (case s2 => exact rfl))); (case h2 => k_extra "small"); (case h3 => k_extra "small"); (case kd => first | exact room_up (by assumption) (by decide) | exact Nat.le_of_ble_eq_true rfl | ktr_room); (case ku => first | exact units_up (by assumption) (by decide) | exact Nat.le_of_ble_eq_true rfl | ktr_units); intro zD9 zt9 zu9 zn9 zh9 ztk9 zF9 zN9 zl9; (try dsimp only); (try k_fold))
  k_with "call ref" => (k_here; (with_reducible show wpAny _ _ (call (Value.ref 78) _) _ _ _); k_dflt (refine' useR ?k1 ?k2 ?k3 ?k4 ?k5 ?kK (rmul_ok _ _ _ _ _ _ _ _ _ _ _ _ ?h0 ?h1 ?h2 ?h3) ?kd ?ku ?_); (case k1 => k_asm); (case k2 => k_asm); (case k3 => k_asm); (case k4 => k_asm); (case k5 => k_asm); (case kK => first | exact rfl | assumption); (case h0 => first | exact Src.up (by assumption) (by intro p hp; kcf_m) | exact Src.here (by kcf_m) | (refine' Src.int2 ?s1 ?s2; (case s1 => kcf_m); (case s2 => exact rfl))); (case h1 => first | exact Src.up (by assumption) (by intro p hp; kcf_m) | exact Src.here (by kcf_m) | (refine' Src.int2 ?s1 ?s2; (case s1 => kcf_m); (case s2 => exact rfl))); (case h2 => k_extra "small"); (case h3 => k_extra "small"); (case kd => first | exact room_up (by assumption) (by decide) | exact Nat.le_of_ble_eq_true rfl | ktr_room); (case ku => first | exact units_up (by assumption) (by decide) | exact Nat.le_of_ble_eq_true rfl | ktr_units); intro zD9 zt9 zu9 zn9 zh9 ztk9 zF9 zN9 zl9; (try dsimp only); (try k_fold))
  k_with "call ref" => (k_here; (with_reducible show wpAny _ _ (call (Value.ref 85) _) _ _ _); k_dflt (refine' useR ?k1 ?k2 ?k3 ?k4 ?k5 ?kK (rdiv_ok _ _ _ _ _ _ _ _ _ _ _ _ ?h0 ?h1 ?h2 ?h3 ?h4) ?kd ?ku ?_); (case k1 => k_asm); (case k2 => k_asm); (case k3 => k_asm); (case k4 => k_asm); (case k5 => k_asm); (case kK => first | exact rfl | assumption); (case h0 => first | exact Src.up (by assumption) (by intro p hp; kcf_m) | exact Src.here (by kcf_m) | (refine' Src.int2 ?s1 ?s2; (case s1 => kcf_m); (case s2 => exact rfl))); (case h1 => first | exact Src.up (by assumption) (by intro p hp; kcf_m) | exact Src.here (by kcf_m) | (refine' Src.int2 ?s1 ?s2; (case s1 => kcf_m); (case s2 => exact rfl))); (case h2 => k_extra "small"); (case h3 => k_extra "small"); (case h4 => k_extra "nonzero"); (case kd => first | exact room_up (by assumption) (by decide) | exact Nat.le_of_ble_eq_true rfl | ktr_room); (case ku => first | exact units_up (by assumption) (by decide) | exact Nat.le_of_ble_eq_true rfl | ktr_units); intro zD9 zt9 zu9 zn9 zh9 ztk9 zF9 zN9 zl9; (try dsimp only); (try k_fold))
  k_with "call ref" => (k_here; (with_reducible show wpAny _ _ (call (Value.ref 92) _) _ _ _); k_dflt (refine' useV ?k1 ?k2 ?k3 ?k4 ?k5 ?kK (is_vast_ok _ _ _ _ _ _ _ ?h0 ?h1) ?kd ?ku ?_); (case k1 => k_asm); (case k2 => k_asm); (case k3 => k_asm); (case k4 => k_asm); (case k5 => k_asm); (case kK => first | exact rfl | assumption); (case h0 => first | exact Src.up (by assumption) (by intro p hp; kcf_m) | exact Src.here (by kcf_m) | (refine' Src.int2 ?s1 ?s2; (case s1 => kcf_m); (case s2 => exact rfl))); (case h1 => assumption); (case kd => first | exact room_up (by assumption) (by decide) | exact Nat.le_of_ble_eq_true rfl | ktr_room); (case ku => first | exact units_up (by assumption) (by decide) | exact Nat.le_of_ble_eq_true rfl | ktr_units); intro zh9 ztk9 zF9 zN9; (try dsimp only); (try k_fold))
  k_with "call ref" => (k_here; (with_reducible show wpAny _ _ (call (Value.ref 99) _) _ _ _); k_dflt (refine' useZ ?k1 ?k2 ?k3 ?k4 ?k5 ?kK (rcompare_ok _ _ _ _ _ _ _ _ _ _ _ ?h0 ?h1 ?h2) ?kd ?ku ?_); (case k1 => k_asm); (case k2 => k_asm); (case k3 => k_asm); (case k4 => k_asm); (case k5 => k_asm); (case kK => first | exact rfl | assumption); (case h0 => first | exact Src.up (by assumption) (by intro p hp; kcf_m) | exact Src.here (by kcf_m) | (refine' Src.int2 ?s1 ?s2; (case s1 => kcf_m); (case s2 => exact rfl))); (case h1 => first | exact Src.up (by assumption) (by intro p hp; kcf_m) | exact Src.here (by kcf_m) | (refine' Src.int2 ?s1 ?s2; (case s1 => kcf_m); (case s2 => exact rfl))); (case h2 => k_extra "small"); (case kd => first | exact room_up (by assumption) (by decide) | exact Nat.le_of_ble_eq_true rfl | ktr_room); (case ku => first | exact units_up (by assumption) (by decide) | exact Nat.le_of_ble_eq_true rfl | ktr_units); intro zt9 zh9 ztk9 zF9 zN9; (try dsimp only); (try k_fold))
  k_with "call ref" => (k_here; (with_reducible show wpAny _ _ (call (Value.ref 106) _) _ _ _); k_dflt (refine' useV ?k1 ?k2 ?k3 ?k4 ?k5 ?kK (let_ok _ _ _ _ _ _ _ ?h0 ?h1) ?kd ?ku ?_); (case k1 => k_asm); (case k2 => k_asm); (case k3 => k_asm); (case k4 => k_asm); (case k5 => k_asm); (case kK => first | exact rfl | assumption); (case h0 => first | exact Src.up (by assumption) (by intro p hp; kcf_m) | exact Src.here (by kcf_m) | (refine' Src.int2 ?s1 ?s2; (case s1 => kcf_m); (case s2 => exact rfl))); (case h1 => k_extra "small"); (case kd => first | exact room_up (by assumption) (by decide) | exact Nat.le_of_ble_eq_true rfl | ktr_room); (case ku => first | exact units_up (by assumption) (by decide) | exact Nat.le_of_ble_eq_true rfl | ktr_units); intro zh9 ztk9 zF9 zN9; (try dsimp only); (try k_fold))
  k_with "subscriptTail" => (k_here; (with_reducible show wpAny _ _ (subscriptTail _ _ (Value.ref _) (Value.int _ _)) _ _ _); k_dflt (refine' list_item ?k1 ?k2 ?ks ?k3 ?k4 ?k5 ?k6 ?_; (case k1 => k_asm); (case k2 => assumption); (case ks => intro p hp; kcf_m); (case k3 => assumption); (case k4 => omega); (case k5 => omega); (case k6 => omega); intro zA9 zt9 zu9 zc9 zS9; (try dsimp only)))
  k_with "compareOp NotEq ref ref" => (k_here; k_dflt (refine' rat_ne ?k1 ?k2 ?k3 ?k4 ?k5 ?k6 ?_; (case k1 => k_asm); (case k2 => k_asm); (case k3 => k_asm); (case k4 => first | exact Src.up (by assumption) (by intro p hp; kcf_m) | exact Src.here (by kcf_m) | (refine' Src.int2 ?s1 ?s2; (case s1 => kcf_m); (case s2 => exact rfl))); (case k5 => first | exact Src.up (by assumption) (by intro p hp; kcf_m) | exact Src.here (by kcf_m) | (refine' Src.int2 ?s1 ?s2; (case s1 => kcf_m); (case s2 => exact rfl))); (case k6 => ktr_units)))
  k_with "compareOp Eq ref ref" => (k_here; k_dflt (refine' rat_eq ?k1 ?k2 ?k3 ?k4 ?k5 ?k6 ?_; (case k1 => k_asm); (case k2 => k_asm); (case k3 => k_asm); (case k4 => first | exact Src.up (by assumption) (by intro p hp; kcf_m) | exact Src.here (by kcf_m) | (refine' Src.int2 ?s1 ?s2; (case s1 => kcf_m); (case s2 => exact rfl))); (case k5 => first | exact Src.up (by assumption) (by intro p hp; kcf_m) | exact Src.here (by kcf_m) | (refine' Src.int2 ?s1 ?s2; (case s1 => kcf_m); (case s2 => exact rfl))); (case k6 => ktr_units)))
  k_with "call ref" => (k_here; (with_reducible show wpAny _ _ (call (Value.ref 123) _) _ _ _); k_dflt (refine' useQ ?k1 ?k2 ?k3 ?k4 ?k5 ?kK (mixed_ok _ _ _ _ _ _ _ _ _ _ _ _ _ _ ?h0 ?h1 ?h2 ?h3 ?h4 ?h5 ?h6 ?h7 ?h8 ?h9) ?kd ?ku ?_); (case k1 => k_asm); (case k2 => k_asm); (case k3 => k_asm); (case k4 => k_asm); (case k5 => k_asm); (case kK => first | exact rfl | assumption); (case h0 => exact mem_up (by assumption) (by intro p hp; kcf_m)); (case h1 => exact LV.up (by assumption) (by intro p hp; kcf_m)); (case h2 => exact mem_up (by assumption) (by intro p hp; kcf_m)); (case h3 => exact LV.up (by assumption) (by intro p hp; kcf_m)); (case h4 => assumption); (case h5 => assumption); (case h6 => assumption); (case h7 => omega); (case h8 => omega); (case h9 => assumption); (case kd => first | exact room_up (by assumption) (by decide) | exact Nat.le_of_ble_eq_true rfl | ktr_room); (case ku => first | exact units_up (by assumption) (by decide) | exact Nat.le_of_ble_eq_true rfl | ktr_units); intro zadd9 zD9 zt9 zu9 zn9 zh9 ztk9 zF9 zN9 zf9 zS9; (try dsimp only); (try k_fold))
  k_with "my enterC" => (refine' code_defC ?k1 ?k2 ?k3 ?k4 ?k5 ?kA ?kF ?kK ?k6 ?k7 ?k8 ?k9 ?kB ?kD ?_ ?c2 ?c3 ?c4; (case kA => exact rfl); (case kF => exact rfl); (case kK => assumption); (case k1 => k_asm); (case k2 => k_asm); (case k3 => k_asm); (case k4 => k_asm); (case k5 => k_asm); (case k6 => k_is); (case k7 => k_is); (case k8 => ktr_room); (case k9 => exact BindsTo.of_eq rfl); (case kB => exact rfl); (case kD => decide +kernel); (case c2 => exact rfl); (case c3 => exact rfl); (case c4 => exact rfl); k_whole; intro zg' zL' zh' ztk' zcells' zFG' zF' zN' zY' zB' zX' zT' zl1; k_cells zY'; (try simp only [List.cons_append, List.nil_append] at zN'); (try dsimp only); (try k_lift zB'); (try k_fold))
  k_with "call builtin:len" => (k_here; (with_reducible show wpAny _ _ (call (Value.builtin "len") [Value.ref _]) _ _ _); k_dflt (refine' list_len ?k1 ?k2 ?ks ?k3 ?k4 ?_; (case k1 => k_asm); (case k2 => assumption); (case ks => intro p hp; kcf_m); (case k3 => assumption); (case k4 => omega)))
  k_with "eval ListComp" => (k_here; k_dflt (refine LCg.ListComp_U (F₀ := by k_asm) (by with_unfolding_all rfl) (by decide) (by rfl) (by decide) (by rfl) ?_))
  k_with "eval Name" => (k_here; (with_reducible show wpAny _ _ (eval (Expr.Name _ _) (compEnvC _ _ _ _)) _ _ _); (with_reducible rename News _ _ _ _ => kN); k_dflt (refine kcf_cell kN (by rfl) (mem_up (by assumption) (by intro p hp; kcf_m)) (by assumption) ?_))
  k_with "newTuple" => (k_here; k_dflt (refine' my_tuple ?k1 ?k2 ?_ ?k3; (case k1 => k_asm); (case k2 => k_asm); (case k3 => (simp only [PySem.sizeLine_eq, List.length_cons, List.length_nil]; omega))); intro zD9 zh9 zF9 zN9 zl9; (try dsimp only))
  k_with "binaryOp Add ref ref" => (k_here; (with_reducible show wpAny _ _ (binaryOp _ (Value.ref _) (Value.ref _)) _ _ _); k_dflt (refine' list_add ?k1 ?k2 ?k3 ?k4 ?k5 ?_; (case k1 => k_asm); (case k2 => k_asm); (case k3 => kcf_m); (case k4 => kcf_m); (case k5 => (simp only [PySem.sizeLine_eq, List.length_cons, List.length_nil]; omega))); intro zD9 zh9 zF9 zN9 zl9; (try dsimp only))
  k_with "newList" => (k_here; k_dflt (refine' newList_K ?k1 ?k2 ?_; (case k1 => k_asm); (case k2 => k_asm); k_whole); intro zl9 zh9 zF9 zN9 zq9; (replace zq9 := ne_of_lts zq9); (try dsimp only))
  intro p loose mean mg mb dp un gd cn cs f ccd cl outer A₀ base h₀ L m s Q E Bl F X N T hk hd hu hret
  refine wpAny_call ?_
  k_dflt (walk_at "my enterC")
  k_with "small" => assumption
  k_with "my comp" => (
    (refine' LCg.CompSrc.range (n := n) (by rfl) ?c1 ?c2 (by assumption) ?c3 ?c4 ?c5 ?_);
    (case c1 => k_asm); (case c2 => k_asm); (case c3 => exact small_one (by omega) (by omega) (by split <;> omega) (by split <;> omega)); (case c4 => rw [rangeSize_nat]; split <;> omega); (case c5 => rw [PySem.sizeLine_eq]; omega);
    intro g1;
    refine' my_rest (w := w) (smulT a b) ?_ ?_;
    focus (intro i k t I oI C oC D m2 ys nx h tk E' hi hk hC hm F1 hx N1; obtain ⟨add, rfl, fr⟩ := hx; obtain ⟨hc1, hc2⟩ := cells2 N1; obtain rfl : k = (i : Int) := (by omega); obtain ⟨ok1, ok2⟩ := ok i hi; (replace ok1 : Sm (mixT a b i ((i : Int) + 1).toNat) := ok1); (have hi0 : (0 : Int) ≤ (i : Int) := (by omega)); (have hi1 : (i : Int) < n := (by omega)); (have hi2 : (i : Int) < n' := (by omega)));
    rotate_left;
    focus (intro ys nx hx hv; obtain ⟨add, rfl, fr⟩ := hx);
    rotate_right;
    all_goals (try k_fold))
  k_steps
  · rename News _ _ _ _ => kN
    rename Fresh _ _ => kf
    exact ⟨_, _, _, rfl, by assumption, kN, kf, _, _, _, _, rfl, by assumption⟩
  · rename News _ _ _ _ => kN
    rename LCg.Off1 _ _ => ko
    rename (∀ p ∈ news, p.1 < _) => kl
    exact hret _ _ _ _ (by assumption) kN (ext_comp (ext2 kl) fr ko) ⟨_, ys, _, rfl, .head _, (hv.le fun i _ => by rw [Int.zero_add]).up fun p hp => .tail _ hp⟩
theorem sadd_ok (w : World) (la lb : Addr) (va vb : List Value) (ca cb n : Nat) (a b : Int → Rat) (news : Led) (hla : (la, listOf va.toArray ca) ∈ news) (hva : LV w news va n a) (hlb : (lb, listOf vb.toArray cb) ∈ news) (hvb : LV w news vb n b)
    (hn : (n : Int) < 2 ^ 20) (ok : ∀ i : Nat, i < n → Sm (a i) ∧ Sm (b i)) :
    Cl w 111 [.ref la, .ref lb] 5 news (NewL w n (fun k => a k + b k)) := by
  w_top off
  unfold Cl
  k_fill
  k_with_none
  k_with "call ref" => (k_here; (with_reducible show wpAny _ _ (call (Value.ref 41) _) _ _ _); k_dflt (refine' useI ?k1 ?k2 ?k3 ?k4 ?k5 ?kK (gcd_ok _ _ _ _ _ _ ) ?kd ?ku ?_); (case k1 => k_asm); (case k2 => k_asm); (case k3 => k_asm); (case k4 => k_asm); (case k5 => k_asm); (case kK => first | exact rfl | assumption); (case kd => first | exact room_up (by assumption) (by decide) | exact Nat.le_of_ble_eq_true rfl | ktr_room); (case ku => first | exact units_up (by assumption) (by decide) | exact Nat.le_of_ble_eq_true rfl | ktr_units); intro zt9 zh9 ztk9 zF9 zN9; (try dsimp only); (try k_fold))
  k_with "call ref" => ((with_reducible show wpAny _ _ (call (Value.ref 31) _) _ _ _); exfalso; first | contradiction | omega)
  k_with "binaryOp FloorDiv int int" => (k_here; refine floordiv_int ?k1 ?_ (Or.inl (PyProof.noPylong_of_log2 ?k2)); (case k1 => first | assumption | omega); (case k2 => assumption))
  k_with "call ref" => (k_here; (with_reducible show wpAny _ _ (call (Value.ref 57) _) _ _ _); k_dflt (refine' useR ?k1 ?k2 ?k3 ?k4 ?k5 ?kK (rat_ok _ _ _ _ _ _ ?h0 ?h1) ?kd ?ku ?_); (case k1 => k_asm); (case k2 => k_asm); (case k3 => k_asm); (case k4 => k_asm); (case k5 => k_asm); (case kK => first | exact rfl | assumption); (case h0 => assumption); (case h1 => assumption); (case kd => first | exact room_up (by assumption) (by decide) | exact Nat.le_of_ble_eq_true rfl | ktr_room); (case ku => first | exact units_up (by assumption) (by decide) | exact Nat.le_of_ble_eq_true rfl | ktr_units); intro zD9 zt9 zu9 zn9 zh9 ztk9 zF9 zN9 zl9; (try dsimp only); (try k_fold))
  k_with "subscriptTail" => (k_here; (with_reducible show wpAny _ _ (subscriptTail _ _ (Value.ref _) (Value.int 0 _)) _ _ _); k_dflt (refine' rat_item0 ?k1 ?k2 ?k3 ?k4 ?_; (case k1 => k_asm); (case k2 => k_asm); (case k3 => k_asm); (case k4 => first | exact Src.up (by assumption) (by intro p hp; kcf_m) | exact Src.here (by kcf_m))))
  k_with "subscriptTail" => (k_here; (with_reducible show wpAny _ _ (subscriptTail _ _ (Value.ref _) (Value.int 1 _)) _ _ _); k_dflt (refine' rat_item1 ?k1 ?k2 ?k3 ?k4 ?_; (case k1 => k_asm); (case k2 => k_asm); (case k3 => k_asm); (case k4 => first | exact Src.up (by assumption) (by intro p hp; kcf_m) | exact Src.here (by kcf_m))))
  k_with "call ref" => (k_here; (with_reducible show wpAny _ _ (call (Value.ref 64) _) _ _ _); k_dflt (refine' useR ?k1 ?k2 ?k3 ?k4 ?k5 ?kK (radd_ok _ _ _ _ _ _ _ _ _ _ _ _ ?h0 ?h1 ?h2 ?h3) ?kd ?ku ?_); (case k1 => k_asm); (case k2 => k_asm); (case k3 => k_asm); (case k4 => k_asm); (case k5 => k_asm); (case kK => first | exact rfl | assumption); (case h0 => first | exact Src.up (by assumption) (by intro p hp; kcf_m) | exact Src.here (by kcf_m) | (refine' Src.int2 ?s1 ?s2; (case s1 => kcf_m); (case s2 => exact rfl))); (case h1 => first | exact Src.up (by assumption) (by intro p hp; kcf_m) | exact Src.here (by kcf_m) | (refine' Src.int2 ?s1 ?s2; (case s1 => kcf_m); (case s2 => exact rfl))); (case h2 => k_extra "small"); (case h3 => k_extra "small"); (case kd => first | exact room_up (by assumption) (by decide) | exact Nat.le_of_ble_eq_true rfl | ktr_room); (case ku => first | exact units_up (by assumption) (by decide) | exact Nat.le_of_ble_eq_true rfl | ktr_units); intro zD9 zt9 zu9 zn9 zh9 ztk9 zF9 zN9 zl9; (try dsimp only); (try k_fold))
  k_with "call ref" => (k_here; (with_reducible show wpAny _ _ (call (Value.ref 71) _) _ _ _); k_dflt (refine' useR ?k1 ?k2 ?k3 ?k4 ?k5 ?kK (rsub_ok _ _ _ _ _ _ _ _ _ _ _ _ ?h0 ?h1 ?h2 ?h3) ?kd ?ku ?_); (case k1 => k_asm); (case k2 => k_asm); (case k3 => k_asm); (case k4 => k_asm); (case k5 => k_asm); (case kK => first | exact rfl | assumption); (case h0 => first | exact Src.up (by assumption) (by intro p hp; kcf_m) | exact Src.here (by kcf_m) | (refine' Src.int2 ?s1 ?s2; (case s1 => kcf_m); (case s2 => exact rfl))); (case h1 => first | exact Src.up (by assumption) (by intro p hp; kcf_m) | exact Src.here (by kcf_m) | (refine' Src.int2 ?s1 ?s2; (case s1 => kcf_m); (case s2 => exact rfl))); (case h2 => k_extra "small"); (case h3 => k_extra "small"); (case kd => first | exact room_up (by assumption) (by decide) | exact Nat.le_of_ble_eq_true rfl | ktr_room); (case ku => first | exact units_up (by assumption) (by decide) | exact Nat.le_of_ble_eq_true rfl | ktr_units); intro zD9 zt9 zu9 zn9 zh9 ztk9 zF9 zN9 zl9; (try dsimp only); (try k_fold))
  k_with "call ref" => (k_here; (with_reducible show wpAny _ _ (call (Value.ref 78) _) _ _ _); k_dflt (refine' useR ?k1 ?k2 ?k3 ?k4 ?k5 ?kK (rmul_ok _ _ _ _ _ _ _ _ _ _ _ _ ?h0 ?h1 ?h2 ?h3) ?kd ?ku ?_); (case k1 => k_asm); (case k2 => k_asm); (case k3 => k_asm); (case k4 => k_asm); (case k5 => k_asm); (case kK => first | exact rfl | assumption); (case h0 => first | exact Src.up (by assumption) (by intro p hp; kcf_m) | exact Src.here (by kcf_m) | (refine' Src.int2 ?s1 ?s2; (case s1 => kcf_m); (case s2 => exact rfl))); (case h1 => first | exact Src.up (by assumption) (by intro p hp; kcf_m) | exact Src.here (by kcf_m) | (refine' Src.int2 ?s1 ?s2; (case s1 => kcf_m); (case s2 => exact rfl))); (case h2 => k_extra "small"); (case h3 => k_extra "small"); (case kd => first | exact room_up (by assumption) (by decide) | exact Nat.le_of_ble_eq_true rfl | ktr_room); (case ku => first | exact units_up (by assumption) (by decide) | exact Nat.le_of_ble_eq_true rfl | ktr_units); intro zD9 zt9 zu9 zn9 zh9 ztk9 zF9 zN9 zl9; (try dsimp only); (try k_fold))
  k_with "call ref" => (k_here; (with_reducible show wpAny _ _ (call (Value.ref 85) _) _ _ _); k_dflt (refine' useR ?k1 ?k2 ?k3 ?k4 ?k5 ?kK (rdiv_ok _ _ _ _ _ _ _ _ _ _ _ _ ?h0 ?h1 ?h2 ?h3 ?h4) ?kd ?ku ?_); (case k1 => k_asm); (case k2 => k_asm); (case k3 => k_asm); (case k4 => k_asm); (case k5 => k_asm); (case kK => first | exact rfl | assumption); (case h0 => first | exact Src.up (by assumption) (by intro p hp; kcf_m) | exact Src.here (by kcf_m) | (refine' Src.int2 ?s1 ?s2; (case s1 => kcf_m); (case s2 => exact rfl))); (case h1 => first | exact Src.up (by assumption) (by intro p hp; kcf_m) | exact Src.here (by kcf_m) | (refine' Src.int2 ?s1 ?s2; (case s1 => kcf_m); (case s2 => exact rfl))); (case h2 => k_extra "small"); (case h3 => k_extra "small"); (case h4 => k_extra "nonzero"); (case kd => first | exact room_up (by assumption) (by decide) | exact Nat.le_of_ble_eq_true rfl | ktr_room); (case ku => first | exact units_up (by assumption) (by decide) | exact Nat.le_of_ble_eq_true rfl | ktr_units); intro zD9 zt9 zu9 zn9 zh9 ztk9 zF9 zN9 zl9; (try dsimp only); (try k_fold))
  k_with "call ref" => (k_here; (with_reducible show wpAny _ _ (call (Value.ref 92) _) _ _ _); k_dflt (refine' useV ?k1 ?k2 ?k3 ?k4 ?k5 ?kK (is_vast_ok _ _ _ _ _ _ _ ?h0 ?h1) ?kd ?ku ?_); (case k1 => k_asm); (case k2 => k_asm); (case k3 => k_asm); (case k4 => k_asm); (case k5 => k_asm); (case kK => first | exact rfl | assumption); (case h0 => first | exact Src.up (by assumption) (by intro p hp; kcf_m) | exact Src.here (by kcf_m) | (refine' Src.int2 ?s1 ?s2; (case s1 => kcf_m); (case s2 => exact rfl))); (case h1 => assumption); (case kd => first | exact room_up (by assumption) (by decide) | exact Nat.le_of_ble_eq_true rfl | ktr_room); (case ku => first | exact units_up (by assumption) (by decide) | exact Nat.le_of_ble_eq_true rfl | ktr_units); intro zh9 ztk9 zF9 zN9; (try dsimp only); (try k_fold))
  k_with "call ref" => (k_here; (with_reducible show wpAny _ _ (call (Value.ref 99) _) _ _ _); k_dflt (refine' useZ ?k1 ?k2 ?k3 ?k4 ?k5 ?kK (rcompare_ok _ _ _ _ _ _ _ _ _ _ _ ?h0 ?h1 ?h2) ?kd ?ku ?_); (case k1 => k_asm); (case k2 => k_asm); (case k3 => k_asm); (case k4 => k_asm); (case k5 => k_asm); (case kK => first | exact rfl | assumption); (case h0 => first | exact Src.up (by assumption) (by intro p hp; kcf_m) | exact Src.here (by kcf_m) | (refine' Src.int2 ?s1 ?s2; (case s1 => kcf_m); (case s2 => exact rfl))); (case h1 => first | exact Src.up (by assumption) (by intro p hp; kcf_m) | exact Src.here (by kcf_m) | (refine' Src.int2 ?s1 ?s2; (case s1 => kcf_m); (case s2 => exact rfl))); (case h2 => k_extra "small"); (case kd => first | exact room_up (by assumption) (by decide) | exact Nat.le_of_ble_eq_true rfl | ktr_room); (case ku => first | exact units_up (by assumption) (by decide) | exact Nat.le_of_ble_eq_true rfl | ktr_units); intro zt9 zh9 ztk9 zF9 zN9; (try dsimp only); (try k_fold))
  k_with "call ref" => (k_here; (with_reducible show wpAny _ _ (call (Value.ref 106) _) _ _ _); k_dflt (refine' useV ?k1 ?k2 ?k3 ?k4 ?k5 ?kK (let_ok _ _ _ _ _ _ _ ?h0 ?h1) ?kd ?ku ?_); (case k1 => k_asm); (case k2 => k_asm); (case k3 => k_asm); (case k4 => k_asm); (case k5 => k_asm); (case kK => first | exact rfl | assumption); (case h0 => first | exact Src.up (by assumption) (by intro p hp; kcf_m) | exact Src.here (by kcf_m) | (refine' Src.int2 ?s1 ?s2; (case s1 => kcf_m); (case s2 => exact rfl))); (case h1 => k_extra "small"); (case kd => first | exact room_up (by assumption) (by decide) | exact Nat.le_of_ble_eq_true rfl | ktr_room); (case ku => first | exact units_up (by assumption) (by decide) | exact Nat.le_of_ble_eq_true rfl | ktr_units); intro zh9 ztk9 zF9 zN9; (try dsimp only); (try k_fold))
  k_with "subscriptTail" => (k_here; (with_reducible show wpAny _ _ (subscriptTail _ _ (Value.ref _) (Value.int _ _)) _ _ _); k_dflt (refine' list_item ?k1 ?k2 ?ks ?k3 ?k4 ?k5 ?k6 ?_; (case k1 => k_asm); (case k2 => assumption); (case ks => intro p hp; kcf_m); (case k3 => assumption); (case k4 => omega); (case k5 => omega); (case k6 => omega); intro zA9 zt9 zu9 zc9 zS9; (try dsimp only)))
  k_with "compareOp NotEq ref ref" => (k_here; k_dflt (refine' rat_ne ?k1 ?k2 ?k3 ?k4 ?k5 ?k6 ?_; (case k1 => k_asm); (case k2 => k_asm); (case k3 => k_asm); (case k4 => first | exact Src.up (by assumption) (by intro p hp; kcf_m) | exact Src.here (by kcf_m) | (refine' Src.int2 ?s1 ?s2; (case s1 => kcf_m); (case s2 => exact rfl))); (case k5 => first | exact Src.up (by assumption) (by intro p hp; kcf_m) | exact Src.here (by kcf_m) | (refine' Src.int2 ?s1 ?s2; (case s1 => kcf_m); (case s2 => exact rfl))); (case k6 => ktr_units)))
  k_with "compareOp Eq ref ref" => (k_here; k_dflt (refine' rat_eq ?k1 ?k2 ?k3 ?k4 ?k5 ?k6 ?_; (case k1 => k_asm); (case k2 => k_asm); (case k3 => k_asm); (case k4 => first | exact Src.up (by assumption) (by intro p hp; kcf_m) | exact Src.here (by kcf_m) | (refine' Src.int2 ?s1 ?s2; (case s1 => kcf_m); (case s2 => exact rfl))); (case k5 => first | exact Src.up (by assumption) (by intro p hp; kcf_m) | exact Src.here (by kcf_m) | (refine' Src.int2 ?s1 ?s2; (case s1 => kcf_m); (case s2 => exact rfl))); (case k6 => ktr_units)))
  k_with "call ref" => (k_here; (with_reducible show wpAny _ _ (call (Value.ref 123) _) _ _ _); k_dflt (refine' useQ ?k1 ?k2 ?k3 ?k4 ?k5 ?kK (mixed_ok _ _ _ _ _ _ _ _ _ _ _ _ _ _ ?h0 ?h1 ?h2 ?h3 ?h4 ?h5 ?h6 ?h7 ?h8 ?h9) ?kd ?ku ?_); (case k1 => k_asm); (case k2 => k_asm); (case k3 => k_asm); (case k4 => k_asm); (case k5 => k_asm); (case kK => first | exact rfl | assumption); (case h0 => exact mem_up (by assumption) (by intro p hp; kcf_m)); (case h1 => exact LV.up (by assumption) (by intro p hp; kcf_m)); (case h2 => exact mem_up (by assumption) (by intro p hp; kcf_m)); (case h3 => exact LV.up (by assumption) (by intro p hp; kcf_m)); (case h4 => assumption); (case h5 => assumption); (case h6 => assumption); (case h7 => omega); (case h8 => omega); (case h9 => assumption); (case kd => first | exact room_up (by assumption) (by decide) | exact Nat.le_of_ble_eq_true rfl | ktr_room); (case ku => first | exact units_up (by assumption) (by decide) | exact Nat.le_of_ble_eq_true rfl | ktr_units); intro zadd9 zD9 zt9 zu9 zn9 zh9 ztk9 zF9 zN9 zf9 zS9; (try dsimp only); (try k_fold))
  k_with "my enterC" => (refine' code_defC ?k1 ?k2 ?k3 ?k4 ?k5 ?kA ?kF ?kK ?k6 ?k7 ?k8 ?k9 ?kB ?kD ?_ ?c2 ?c3 ?c4; (case kA => exact rfl); (case kF => exact rfl); (case kK => assumption); (case k1 => k_asm); (case k2 => k_asm); (case k3 => k_asm); (case k4 => k_asm); (case k5 => k_asm); (case k6 => k_is); (case k7 => k_is); (case k8 => ktr_room); (case k9 => exact BindsTo.of_eq rfl); (case kB => exact rfl); (case kD => decide +kernel); (case c2 => exact rfl); (case c3 => exact rfl); (case c4 => exact rfl); k_whole; intro zg' zL' zh' ztk' zcells' zFG' zF' zN' zY' zB' zX' zT' zl1; k_cells zY'; (try simp only [List.cons_append, List.nil_append] at zN'); (try dsimp only); (try k_lift zB'); (try k_fold))
  k_with "call builtin:len" => (k_here; (with_reducible show wpAny _ _ (call (Value.builtin "len") [Value.ref _]) _ _ _); k_dflt (refine' list_len ?k1 ?k2 ?ks ?k3 ?k4 ?_; (case k1 => k_asm); (case k2 => assumption); (case ks => intro p hp; kcf_m); (case k3 => assumption); (case k4 => omega)))
  k_with "eval ListComp" => (k_here; k_dflt (refine LCg.ListComp_U (F₀ := by k_asm) (by with_unfolding_all rfl) (by decide) (by rfl) (by decide) (by rfl) ?_))
  k_with "eval Name" => (k_here; (with_reducible show wpAny _ _ (eval (Expr.Name _ _) (compEnvC _ _ _ _)) _ _ _); (with_reducible rename News _ _ _ _ => kN); k_dflt (refine kcf_cell kN (by rfl) (mem_up (by assumption) (by intro p hp; kcf_m)) (by assumption) ?_))
  k_with "newTuple" => (k_here; k_dflt (refine' my_tuple ?k1 ?k2 ?_ ?k3; (case k1 => k_asm); (case k2 => k_asm); (case k3 => (simp only [PySem.sizeLine_eq, List.length_cons, List.length_nil]; omega))); intro zD9 zh9 zF9 zN9 zl9; (try dsimp only))
  k_with "binaryOp Add ref ref" => (k_here; (with_reducible show wpAny _ _ (binaryOp _ (Value.ref _) (Value.ref _)) _ _ _); k_dflt (refine' list_add ?k1 ?k2 ?k3 ?k4 ?k5 ?_; (case k1 => k_asm); (case k2 => k_asm); (case k3 => kcf_m); (case k4 => kcf_m); (case k5 => (simp only [PySem.sizeLine_eq, List.length_cons, List.length_nil]; omega))); intro zD9 zh9 zF9 zN9 zl9; (try dsimp only))
  k_with "newList" => (k_here; k_dflt (refine' newList_K ?k1 ?k2 ?_; (case k1 => k_asm); (case k2 => k_asm); k_whole); intro zl9 zh9 zF9 zN9 zq9; (replace zq9 := ne_of_lts zq9); (try dsimp only))
  k_with "call ref" => (k_here; (with_reducible show wpAny _ _ (call (Value.ref 128) _) _ _ _); k_dflt (refine' useL ?k1 ?k2 ?k3 ?k4 ?k5 ?kK (smul_ok _ _ _ _ _ _ _ _ _ _ _ _ ?h0 ?h1 ?h2 ?h3 ?h4 ?h5 ?h6) ?kd ?ku ?_); (case k1 => k_asm); (case k2 => k_asm); (case k3 => k_asm); (case k4 => k_asm); (case k5 => k_asm); (case kK => first | exact rfl | assumption); (case h0 => exact mem_up (by assumption) (by intro p hp; kcf_m)); (case h1 => exact LV.up (by assumption) (by intro p hp; kcf_m)); (case h2 => exact mem_up (by assumption) (by intro p hp; kcf_m)); (case h3 => exact LV.up (by assumption) (by intro p hp; kcf_m)); (case h4 => omega); (case h5 => omega); (case h6 => assumption); (case kd => first | exact room_up (by assumption) (by decide) | exact Nat.le_of_ble_eq_true rfl | ktr_room); (case ku => first | exact units_up (by assumption) (by decide) | exact Nat.le_of_ble_eq_true rfl | ktr_units); intro zD9 zvs9 zc9 zadd9 zh9 ztk9 zF9 zN9 zm9 zV9 zf9; (try dsimp only); (try k_fold))
  intro p loose mean mg mb dp un gd cn cs f ccd cl outer A₀ base h₀ L m s Q E Bl F X N T hk hd hu hret
  refine wpAny_call ?_
  k_dflt (walk_at "my enterC")
  k_with "small" => assumption
  k_with "my comp" => (
    (refine' LCg.CompSrc.range (n := n) (by rfl) ?c1 ?c2 (by assumption) ?c3 ?c4 ?c5 ?_);
    (case c1 => k_asm); (case c2 => k_asm); (case c3 => exact small_one (by omega) (by omega) (by split <;> omega) (by split <;> omega)); (case c4 => rw [rangeSize_nat]; split <;> omega); (case c5 => rw [PySem.sizeLine_eq]; omega);
    intro g1;
    refine' my_rest (w := w) (fun k => a k + b k) ?_ ?_;
    focus (intro i k t I oI C oC D m2 ys nx h tk E' hi hk hC hm F1 hx N1; obtain ⟨add, rfl, fr⟩ := hx; obtain ⟨hc1, hc2⟩ := cells2 N1; obtain rfl : k = (i : Int) := (by omega); obtain ⟨ok1, ok2⟩ := ok i hi; (have hi0 : (0 : Int) ≤ (i : Int) := (by omega)); (have hi1 : (i : Int) < n := (by omega)));
    rotate_left;
    focus (intro ys nx hx hv; obtain ⟨add, rfl, fr⟩ := hx);
    rotate_right;
    all_goals (try k_fold))
  k_steps
  · rename News _ _ _ _ => kN
    rename (∀ p : Addr × Obj, p ∈ _ :: _ → p.1 ≠ _) => l1
    exact ⟨_, _, [_], rfl, by assumption, kN, fresh1 kN l1, _, _, _, _, rfl, Src.here (.head _)⟩
  · rename News _ _ _ _ => kN
    rename LCg.Off1 _ _ => ko
    rename (∀ p ∈ news, p.1 < _) => kl
    exact hret _ _ _ _ (by assumption) kN (ext_comp (ext2 kl) fr ko) ⟨_, ys, _, rfl, .head _, (hv.le fun i _ => by rw [Int.zero_add]).up fun p hp => .tail _ hp⟩
theorem ssub_ok (w : World) (la lb : Addr) (va vb : List Value) (ca cb n : Nat) (a b : Int → Rat) (news : Led) (hla : (la, listOf va.toArray ca) ∈ news) (hva : LV w news va n a) (hlb : (lb, listOf vb.toArray cb) ∈ news) (hvb : LV w news vb n b)
    (hn : (n : Int) < 2 ^ 20) (ok : ∀ i : Nat, i < n → Sm (a i) ∧ Sm (b i)) :
    Cl w 116 [.ref la, .ref lb] 5 news (NewL w n (fun k => a k - b k)) := by
  w_top off
  unfold Cl
  k_fill
  k_with_none
  k_with "call ref" => (k_here; (with_reducible show wpAny _ _ (call (Value.ref 41) _) _ _ _); k_dflt (refine' useI ?k1 ?k2 ?k3 ?k4 ?k5 ?kK (gcd_ok _ _ _ _ _ _ ) ?kd ?ku ?_); (case k1 => k_asm); (case k2 => k_asm); (case k3 => k_asm); (case k4 => k_asm); (case k5 => k_asm); (case kK => first | exact rfl | assumption); (case kd => first | exact room_up (by assumption) (by decide) | exact Nat.le_of_ble_eq_true rfl | ktr_room); (case ku => first | exact units_up (by assumption) (by decide) | exact Nat.le_of_ble_eq_true rfl | ktr_units); intro zt9 zh9 ztk9 zF9 zN9; (try dsimp only); (try k_fold))
  k_with "call ref" => ((with_reducible show wpAny _ _ (call (Value.ref 31) _) _ _ _); exfalso; first | contradiction | omega)
  k_with "binaryOp FloorDiv int int" => (k_here; refine floordiv_int ?k1 ?_ (Or.inl (PyProof.noPylong_of_log2 ?k2)); (case k1 => first | assumption | omega); (case k2 => assumption))
  k_with "call ref" => (k_here; (with_reducible show wpAny _ _ (call (Value.ref 57) _) _ _ _); k_dflt (refine' useR ?k1 ?k2 ?k3 ?k4 ?k5 ?kK (rat_ok _ _ _ _ _ _ ?h0 ?h1) ?kd ?ku ?_); (case k1 => k_asm); (case k2 => k_asm); (case k3 => k_asm); (case k4 => k_asm); (case k5 => k_asm); (case kK => first | exact rfl | assumption); (case h0 => assumption); (case h1 => assumption); (case kd => first | exact room_up (by assumption) (by decide) | exact Nat.le_of_ble_eq_true rfl | ktr_room); (case ku => first | exact units_up (by assumption) (by decide) | exact Nat.le_of_ble_eq_true rfl | ktr_units); intro zD9 zt9 zu9 zn9 zh9 ztk9 zF9 zN9 zl9; (try dsimp only); (try k_fold))
  k_with "subscriptTail" => (k_here; (with_reducible show wpAny _ _ (subscriptTail _ _ (Value.ref _) (Value.int 0 _)) _ _ _); k_dflt (refine' rat_item0 ?k1 ?k2 ?k3 ?k4 ?_; (case k1 => k_asm); (case k2 => k_asm); (case k3 => k_asm); (case k4 => first | exact Src.up (by assumption) (by intro p hp; kcf_m) | exact Src.here (by kcf_m))))
  k_with "subscriptTail" => (k_here; (with_reducible show wpAny _ _ (subscriptTail _ _ (Value.ref _) (Value.int 1 _)) _ _ _); k_dflt (refine' rat_item1 ?k1 ?k2 ?k3 ?k4 ?_; (case k1 => k_asm); (case k2 => k_asm); (case k3 => k_asm); (case k4 => first | exact Src.up (by assumption) (by intro p hp; kcf_m) | exact Src.here (by kcf_m))))
  k_with "call ref" => (k_here; (with_reducible show wpAny _ _ (call (Value.ref 64) _) _ _ _); k_dflt (refine' useR ?k1 ?k2 ?k3 ?k4 ?k5 ?kK (radd_ok _ _ _ _ _ _ _ _ _ _ _ _ ?h0 ?h1 ?h2 ?h3) ?kd ?ku ?_); (case k1 => k_asm); (case k2 => k_asm); (case k3 => k_asm); (case k4 => k_asm); (case k5 => k_asm); (case kK => first | exact rfl | assumption); (case h0 => first | exact Src.up (by assumption) (by intro p hp; kcf_m) | exact Src.here (by kcf_m) | (refine' Src.int2 ?s1 ?s2; (case s1 => kcf_m); (case s2 => exact rfl))); (case h1 => first | exact Src.up (by assumption) (by intro p hp; kcf_m) | exact Src.here (by kcf_m) | (refine' Src.int2 ?s1 ?s2; (case s1 => kcf_m); (case s2 => exact rfl))); (case h2 => k_extra "small"); (case h3 => k_extra "small"); (case kd => first | exact room_up (by assumption) (by decide) | exact Nat.le_of_ble_eq_true rfl | ktr_room); (case ku => first | exact units_up (by assumption) (by decide) | exact Nat.le_of_ble_eq_true rfl | ktr_units); intro zD9 zt9 zu9 zn9 zh9 ztk9 zF9 zN9 zl9; (try dsimp only); (try k_fold))
  k_with "call ref" => (k_here; (with_reducible show wpAny _ _ (call (Value.ref 71) _) _ _ _); k_dflt (refine' useR ?k1 ?k2 ?k3 ?k4 ?k5 ?kK (rsub_ok _ _ _ _ _ _ _ _ _ _ _ _ ?h0 ?h1 ?h2 ?h3) ?kd ?ku ?_); (case k1 => k_asm); (case k2 => k_asm); (case k3 => k_asm); (case k4 => k_asm); (case k5 => k_asm); (case kK => first | exact rfl | assumption); (case h0 => first | exact Src.up (by assumption) (by intro p hp; kcf_m) | exact Src.here (by kcf_m) | (refine' Src.int2 ?s1 ?s2; (case s1 => kcf_m); (case s2 => exact rfl))); (case h1 => first | exact Src.up (by assumption) (by intro p hp; kcf_m) | exact Src.here (by kcf_m) | (refine' Src.int2 ?s1 ?s2; (case s1 => kcf_m); (case s2 => exact rfl))); (case h2 => k_extra "small"); (case h3 => k_extra "small"); (case kd => first | exact room_up (by assumption) (by decide) | exact Nat.le_of_ble_eq_true rfl | ktr_room); (case ku => first | exact units_up (by assumption) (by decide) | exact Nat.le_of_ble_eq_true rfl | ktr_units); intro zD9 zt9 zu9 zn9 zh9 ztk9 zF9 zN9 zl9; (try dsimp only); (try k_fold))
  k_with "call ref" => (k_here; (with_reducible show wpAny _ _ (call (Value.ref 78) _) _ _ _); k_dflt (refine' useR ?k1 ?k2 ?k3 ?k4 ?k5 ?kK (rmul_ok _ _ _ _ _ _ _ _ _ _ _ _ ?h0 ?h1 ?h2 ?h3) ?kd ?ku ?_); (case k1 => k_asm); (case k2 => k_asm); (case k3 => k_asm); (case k4 => k_asm); (case k5 => k_asm); (case kK => first | exact rfl | assumption); (case h0 => first | exact Src.up (by assumption) (by intro p hp; kcf_m) | exact Src.here (by kcf_m) | (refine' Src.int2 ?s1 ?s2; (case s1 => kcf_m); (case s2 => exact rfl))); (case h1 => first | exact Src.up (by assumption) (by intro p hp; kcf_m) | exact Src.here (by kcf_m) | (refine' Src.int2 ?s1 ?s2; (case s1 => kcf_m); (case s2 => exact rfl))); (case h2 => k_extra "small"); (case h3 => k_extra "small"); (case kd => first | exact room_up (by assumption) (by decide) | exact Nat.le_of_ble_eq_true rfl | ktr_room); (case ku => first | exact units_up (by assumption) (by decide) | exact Nat.le_of_ble_eq_true rfl | ktr_units); intro zD9 zt9 zu9 zn9 zh9 ztk9 zF9 zN9 zl9; (try dsimp only); (try k_fold))
  k_with "call ref" => (k_here; (with_reducible show wpAny _ _ (call (Value.ref 85) _) _ _ _); k_dflt (refine' useR ?k1 ?k2 ?k3 ?k4 ?k5 ?kK (rdiv_ok _ _ _ _ _ _ _ _ _ _ _ _ ?h0 ?h1 ?h2 ?h3 ?h4) ?kd ?ku ?_); (case k1 => k_asm); (case k2 => k_asm); (case k3 => k_asm); (case k4 => k_asm); (case k5 => k_asm); (case kK => first | exact rfl | assumption); (case h0 => first | exact Src.up (by assumption) (by intro p hp; kcf_m) | exact Src.here (by kcf_m) | (refine' Src.int2 ?s1 ?s2; (case s1 => kcf_m); (case s2 => exact rfl))); (case h1 => first | exact Src.up (by assumption) (by intro p hp; kcf_m) | exact Src.here (by kcf_m) | (refine' Src.int2 ?s1 ?s2; (case s1 => kcf_m); (case s2 => exact rfl))); (case h2 => k_extra "small"); (case h3 => k_extra "small"); (case h4 => k_extra "nonzero"); (case kd => first | exact room_up (by assumption) (by decide) | exact Nat.le_of_ble_eq_true rfl | ktr_room); (case ku => first | exact units_up (by assumption) (by decide) | exact Nat.le_of_ble_eq_true rfl | ktr_units); intro zD9 zt9 zu9 zn9 zh9 ztk9 zF9 zN9 zl9; (try dsimp only); (try k_fold))
  k_with "call ref" => (k_here; (with_reducible show wpAny _ _ (call (Value.ref 92) _) _ _ _); k_dflt (refine' useV ?k1 ?k2 ?k3 ?k4 ?k5 ?kK (is_vast_ok _ _ _ _ _ _ _ ?h0 ?h1) ?kd ?ku ?_); (case k1 => k_asm); (case k2 => k_asm); (case k3 => k_asm); (case k4 => k_asm); (case k5 => k_asm); (case kK => first | exact rfl | assumption); (case h0 => first | exact Src.up (by assumption) (by intro p hp; kcf_m) | exact Src.here (by kcf_m) | (refine' Src.int2 ?s1 ?s2; (case s1 => kcf_m); (case s2 => exact rfl))); (case h1 => assumption); (case kd => first | exact room_up (by assumption) (by decide) | exact Nat.le_of_ble_eq_true rfl | ktr_room); (case ku => first | exact units_up (by assumption) (by decide) | exact Nat.le_of_ble_eq_true rfl | ktr_units); intro zh9 ztk9 zF9 zN9; (try dsimp only); (try k_fold))
  k_with "call ref" => (k_here; (with_reducible show wpAny _ _ (call (Value.ref 99) _) _ _ _); k_dflt (refine' useZ ?k1 ?k2 ?k3 ?k4 ?k5 ?kK (rcompare_ok _ _ _ _ _ _ _ _ _ _ _ ?h0 ?h1 ?h2) ?kd ?ku ?_); (case k1 => k_asm); (case k2 => k_asm); (case k3 => k_asm); (case k4 => k_asm); (case k5 => k_asm); (case kK => first | exact rfl | assumption); (case h0 => first | exact Src.up (by assumption) (by intro p hp; kcf_m) | exact Src.here (by kcf_m) | (refine' Src.int2 ?s1 ?s2; (case s1 => kcf_m); (case s2 => exact rfl))); (case h1 => first | exact Src.up (by assumption) (by intro p hp; kcf_m) | exact Src.here (by kcf_m) | (refine' Src.int2 ?s1 ?s2; (case s1 => kcf_m); (case s2 => exact rfl))); (case h2 => k_extra "small"); (case kd => first | exact room_up (by assumption) (by decide) | exact Nat.le_of_ble_eq_true rfl | ktr_room); (case ku => first | exact units_up (by assumption) (by decide) | exact Nat.le_of_ble_eq_true rfl | ktr_units); intro zt9 zh9 ztk9 zF9 zN9; (try dsimp only); (try k_fold))
  k_with "call ref" => (k_here; (with_reducible show wpAny _ _ (call (Value.ref 106) _) _ _ _); k_dflt (refine' useV ?k1 ?k2 ?k3 ?k4 ?k5 ?kK (let_ok _ _ _ _ _ _ _ ?h0 ?h1) ?kd ?ku ?_); (case k1 => k_asm); (case k2 => k_asm); (case k3 => k_asm); (case k4 => k_asm); (case k5 => k_asm); (case kK => first | exact rfl | assumption); (case h0 => first | exact Src.up (by assumption) (by intro p hp; kcf_m) | exact Src.here (by kcf_m) | (refine' Src.int2 ?s1 ?s2; (case s1 => kcf_m); (case s2 => exact rfl))); (case h1 => k_extra "small"); (case kd => first | exact room_up (by assumption) (by decide) | exact Nat.le_of_ble_eq_true rfl | ktr_room); (case ku => first | exact units_up (by assumption) (by decide) | exact Nat.le_of_ble_eq_true rfl | ktr_units); intro zh9 ztk9 zF9 zN9; (try dsimp only); (try k_fold))
  k_with "subscriptTail" => (k_here; (with_reducible show wpAny _ _ (subscriptTail _ _ (Value.ref _) (Value.int _ _)) _ _ _); k_dflt (refine' list_item ?k1 ?k2 ?ks ?k3 ?k4 ?k5 ?k6 ?_; (case k1 => k_asm); (case k2 => assumption); (case ks => intro p hp; kcf_m); (case k3 => assumption); (case k4 => omega); (case k5 => omega); (case k6 => omega); intro zA9 zt9 zu9 zc9 zS9; (try dsimp only)))
  k_with "compareOp NotEq ref ref" => (k_here; k_dflt (refine' rat_ne ?k1 ?k2 ?k3 ?k4 ?k5 ?k6 ?_; (case k1 => k_asm); (case k2 => k_asm); (case k3 => k_asm); (case k4 => first | exact Src.up (by assumption) (by intro p hp; kcf_m) | exact Src.here (by kcf_m) | (refine' Src.int2 ?s1 ?s2; (case s1 => kcf_m); (case s2 => exact rfl))); (case k5 => first | exact Src.up (by assumption) (by intro p hp; kcf_m) | exact Src.here (by kcf_m) | (refine' Src.int2 ?s1 ?s2; (case s1 => kcf_m); (case s2 => exact rfl))); (case k6 => ktr_units)))
  k_with "compareOp Eq ref ref" => (k_here; k_dflt (refine' rat_eq ?k1 ?k2 ?k3 ?k4 ?k5 ?k6 ?_; (case k1 => k_asm); (case k2 => k_asm); (case k3 => k_asm); (case k4 => first | exact Src.up (by assumption) (by intro p hp; kcf_m) | exact Src.here (by kcf_m) | (refine' Src.int2 ?s1 ?s2; (case s1 => kcf_m); (case s2 => exact rfl))); (case k5 => first | exact Src.up (by assumption) (by intro p hp; kcf_m) | exact Src.here (by kcf_m) | (refine' Src.int2 ?s1 ?s2; (case s1 => kcf_m); (case s2 => exact rfl))); (case k6 => ktr_units)))
  k_with "call ref" => (k_here; (with_reducible show wpAny _ _ (call (Value.ref 123) _) _ _ _); k_dflt (refine' useQ ?k1 ?k2 ?k3 ?k4 ?k5 ?kK (mixed_ok _ _ _ _ _ _ _ _ _ _ _ _ _ _ ?h0 ?h1 ?h2 ?h3 ?h4 ?h5 ?h6 ?h7 ?h8 ?h9) ?kd ?ku ?_); (case k1 => k_asm); (case k2 => k_asm); (case k3 => k_asm); (case k4 => k_asm); (case k5 => k_asm); (case kK => first | exact rfl | assumption); (case h0 => exact mem_up (by assumption) (by intro p hp; kcf_m)); (case h1 => exact LV.up (by assumption) (by intro p hp; kcf_m)); (case h2 => exact mem_up (by assumption) (by intro p hp; kcf_m)); (case h3 => exact LV.up (by assumption) (by intro p hp; kcf_m)); (case h4 => assumption); (case h5 => assumption); (case h6 => assumption); (case h7 => omega); (case h8 => omega); (case h9 => assumption); (case kd => first | exact room_up (by assumption) (by decide) | exact Nat.le_of_ble_eq_true rfl | ktr_room); (case ku => first | exact units_up (by assumption) (by decide) | exact Nat.le_of_ble_eq_true rfl | ktr_units); intro zadd9 zD9 zt9 zu9 zn9 zh9 ztk9 zF9 zN9 zf9 zS9; (try dsimp only); (try k_fold))
  k_with "my enterC" => (refine' code_defC ?k1 ?k2 ?k3 ?k4 ?k5 ?kA ?kF ?kK ?k6 ?k7 ?k8 ?k9 ?kB ?kD ?_ ?c2 ?c3 ?c4; (case kA => exact rfl); (case kF => exact rfl); (case kK => assumption); (case k1 => k_asm); (case k2 => k_asm); (case k3 => k_asm); (case k4 => k_asm); (case k5 => k_asm); (case k6 => k_is); (case k7 => k_is); (case k8 => ktr_room); (case k9 => exact BindsTo.of_eq rfl); (case kB => exact rfl); (case kD => decide +kernel); (case c2 => exact rfl); (case c3 => exact rfl); (case c4 => exact rfl); k_whole; intro zg' zL' zh' ztk' zcells' zFG' zF' zN' zY' zB' zX' zT' zl1; k_cells zY'; (try simp only [List.cons_append, List.nil_append] at zN'); (try dsimp only); (try k_lift zB'); (try k_fold))
  k_with "call builtin:len" => (k_here; (with_reducible show wpAny _ _ (call (Value.builtin "len") [Value.ref _]) _ _ _); k_dflt (refine' list_len ?k1 ?k2 ?ks ?k3 ?k4 ?_; (case k1 => k_asm); (case k2 => assumption); (case ks => intro p hp; kcf_m); (case k3 => assumption); (case k4 => omega)))
  k_with "eval ListComp" => (k_here; k_dflt (refine LCg.ListComp_U (F₀ := by k_asm) (by with_unfolding_all rfl) (by decide) (by rfl) (by decide) (by rfl) ?_))
  k_with "eval Name" => (k_here; (with_reducible show wpAny _ _ (eval (Expr.Name _ _) (compEnvC _ _ _ _)) _ _ _); (with_reducible rename News _ _ _ _ => kN); k_dflt (refine kcf_cell kN (by rfl) (mem_up (by assumption) (by intro p hp; kcf_m)) (by assumption) ?_))
  k_with "newTuple" => (k_here; k_dflt (refine' my_tuple ?k1 ?k2 ?_ ?k3; (case k1 => k_asm); (case k2 => k_asm); (case k3 => (simp only [PySem.sizeLine_eq, List.length_cons, List.length_nil]; omega))); intro zD9 zh9 zF9 zN9 zl9; (try dsimp only))
  k_with "binaryOp Add ref ref" => (k_here; (with_reducible show wpAny _ _ (binaryOp _ (Value.ref _) (Value.ref _)) _ _ _); k_dflt (refine' list_add ?k1 ?k2 ?k3 ?k4 ?k5 ?_; (case k1 => k_asm); (case k2 => k_asm); (case k3 => kcf_m); (case k4 => kcf_m); (case k5 => (simp only [PySem.sizeLine_eq, List.length_cons, List.length_nil]; omega))); intro zD9 zh9 zF9 zN9 zl9; (try dsimp only))
  k_with "newList" => (k_here; k_dflt (refine' newList_K ?k1 ?k2 ?_; (case k1 => k_asm); (case k2 => k_asm); k_whole); intro zl9 zh9 zF9 zN9 zq9; (replace zq9 := ne_of_lts zq9); (try dsimp only))
  k_with "call ref" => (k_here; (with_reducible show wpAny _ _ (call (Value.ref 128) _) _ _ _); k_dflt (refine' useL ?k1 ?k2 ?k3 ?k4 ?k5 ?kK (smul_ok _ _ _ _ _ _ _ _ _ _ _ _ ?h0 ?h1 ?h2 ?h3 ?h4 ?h5 ?h6) ?kd ?ku ?_); (case k1 => k_asm); (case k2 => k_asm); (case k3 => k_asm); (case k4 => k_asm); (case k5 => k_asm); (case kK => first | exact rfl | assumption); (case h0 => exact mem_up (by assumption) (by intro p hp; kcf_m)); (case h1 => exact LV.up (by assumption) (by intro p hp; kcf_m)); (case h2 => exact mem_up (by assumption) (by intro p hp; kcf_m)); (case h3 => exact LV.up (by assumption) (by intro p hp; kcf_m)); (case h4 => omega); (case h5 => omega); (case h6 => assumption); (case kd => first | exact room_up (by assumption) (by decide) | exact Nat.le_of_ble_eq_true rfl | ktr_room); (case ku => first | exact units_up (by assumption) (by decide) | exact Nat.le_of_ble_eq_true rfl | ktr_units); intro zD9 zvs9 zc9 zadd9 zh9 ztk9 zF9 zN9 zm9 zV9 zf9; (try dsimp only); (try k_fold))
  intro p loose mean mg mb dp un gd cn cs f ccd cl outer A₀ base h₀ L m s Q E Bl F X N T hk hd hu hret
  refine wpAny_call ?_
  k_dflt (walk_at "my enterC")
  k_with "small" => assumption
  k_with "my comp" => (
    (refine' LCg.CompSrc.range (n := n) (by rfl) ?c1 ?c2 (by assumption) ?c3 ?c4 ?c5 ?_);
    (case c1 => k_asm); (case c2 => k_asm); (case c3 => exact small_one (by omega) (by omega) (by split <;> omega) (by split <;> omega)); (case c4 => rw [rangeSize_nat]; split <;> omega); (case c5 => rw [PySem.sizeLine_eq]; omega);
    intro g1;
    refine' my_rest (w := w) (fun k => a k - b k) ?_ ?_;
    focus (intro i k t I oI C oC D m2 ys nx h tk E' hi hk hC hm F1 hx N1; obtain ⟨add, rfl, fr⟩ := hx; obtain ⟨hc1, hc2⟩ := cells2 N1; obtain rfl : k = (i : Int) := (by omega); obtain ⟨ok1, ok2⟩ := ok i hi; (have hi0 : (0 : Int) ≤ (i : Int) := (by omega)); (have hi1 : (i : Int) < n := (by omega)));
    rotate_left;
    focus (intro ys nx hx hv; obtain ⟨add, rfl, fr⟩ := hx);
    rotate_right;
    all_goals (try k_fold))
  k_steps
  · rename News _ _ _ _ => kN
    rename (∀ p : Addr × Obj, p ∈ _ :: _ → p.1 ≠ _) => l1
    exact ⟨_, _, [_], rfl, by assumption, kN, fresh1 kN l1, _, _, _, _, rfl, Src.here (.head _)⟩
  · rename News _ _ _ _ => kN
    rename LCg.Off1 _ _ => ko
    rename (∀ p ∈ news, p.1 < _) => kl
    exact hret _ _ _ _ (by assumption) kN (ext_comp (ext2 kl) fr ko) ⟨_, ys, _, rfl, .head _, (hv.le fun i _ => by rw [Int.zero_add]).up fun p hp => .tail _ hp⟩
theorem sm_int {k : Int} (h : k.natAbs < 18446744073709551616) : Sm (k : Rat) := ⟨h, by show (1 : Nat) < _; decide⟩
theorem int_ne {k : Int} (h : k ≠ 0) : (k : Rat) ≠ 0 := by
  intro e
  have := congrArg Rat.num e
  exact h this
theorem sderive_ok (w : World) (la : Addr) (va : List Value) (ca n : Nat) (a : Int → Rat) (news : Led) (hla : (la, listOf va.toArray ca) ∈ news) (hva : LV w news va n a)
    (h1n : 1 ≤ n) (hn : (n : Int) < 2 ^ 20) (ok : ∀ i : Nat, i < n → Sm (a i)) :
    Cl w 140 [.ref la] 5 news (NewL w (n - 1) (fun k => ((1 + k : Int) : Rat) * a (1 + k))) := by
  w_top off
  unfold Cl
  k_fill
  k_with_none
  k_with "call ref" => (k_here; (with_reducible show wpAny _ _ (call (Value.ref 41) _) _ _ _); k_dflt (refine' useI ?k1 ?k2 ?k3 ?k4 ?k5 ?kK (gcd_ok _ _ _ _ _ _ ) ?kd ?ku ?_); (case k1 => k_asm); (case k2 => k_asm); (case k3 => k_asm); (case k4 => k_asm); (case k5 => k_asm); (case kK => first | exact rfl | assumption); (case kd => first | exact room_up (by assumption) (by decide) | exact Nat.le_of_ble_eq_true rfl | ktr_room); (case ku => first | exact units_up (by assumption) (by decide) | exact Nat.le_of_ble_eq_true rfl | ktr_units); intro zt9 zh9 ztk9 zF9 zN9; (try dsimp only); (try k_fold))
  k_with "call ref" => ((with_reducible show wpAny _ _ (call (Value.ref 31) _) _ _ _); exfalso; first | contradiction | omega)
  k_with "binaryOp FloorDiv int int" => (k_here; refine floordiv_int ?k1 ?_ (Or.inl (PyProof.noPylong_of_log2 ?k2)); (case k1 => first | assumption | omega); (case k2 => assumption))
  k_with "call ref" => (k_here; (with_reducible show wpAny _ _ (call (Value.ref 57) _) _ _ _); k_dflt (refine' useR ?k1 ?k2 ?k3 ?k4 ?k5 ?kK (rat_ok _ _ _ _ _ _ ?h0 ?h1) ?kd ?ku ?_); (case k1 => k_asm); (case k2 => k_asm); (case k3 => k_asm); (case k4 => k_asm); (case k5 => k_asm); (case kK => first | exact rfl | assumption); (case h0 => assumption); (case h1 => assumption); (case kd => first | exact room_up (by assumption) (by decide) | exact Nat.le_of_ble_eq_true rfl | ktr_room); (case ku => first | exact units_up (by assumption) (by decide) | exact Nat.le_of_ble_eq_true rfl | ktr_units); intro zD9 zt9 zu9 zn9 zh9 ztk9 zF9 zN9 zl9; (try dsimp only); (try k_fold))
  k_with "subscriptTail" => (k_here; (with_reducible show wpAny _ _ (subscriptTail _ _ (Value.ref _) (Value.int 0 _)) _ _ _); k_dflt (refine' rat_item0 ?k1 ?k2 ?k3 ?k4 ?_; (case k1 => k_asm); (case k2 => k_asm); (case k3 => k_asm); (case k4 => first | exact Src.up (by assumption) (by intro p hp; kcf_m) | exact Src.here (by kcf_m))))
  k_with "subscriptTail" => (k_here; (with_reducible show wpAny _ _ (subscriptTail _ _ (Value.ref _) (Value.int 1 _)) _ _ _); k_dflt (refine' rat_item1 ?k1 ?k2 ?k3 ?k4 ?_; (case k1 => k_asm); (case k2 => k_asm); (case k3 => k_asm); (case k4 => first | exact Src.up (by assumption) (by intro p hp; kcf_m) | exact Src.here (by kcf_m))))
  k_with "call ref" => (k_here; (with_reducible show wpAny _ _ (call (Value.ref 64) _) _ _ _); k_dflt (refine' useR ?k1 ?k2 ?k3 ?k4 ?k5 ?kK (radd_ok _ _ _ _ _ _ _ _ _ _ _ _ ?h0 ?h1 ?h2 ?h3) ?kd ?ku ?_); (case k1 => k_asm); (case k2 => k_asm); (case k3 => k_asm); (case k4 => k_asm); (case k5 => k_asm); (case kK => first | exact rfl | assumption); (case h0 => first | exact Src.up (by assumption) (by intro p hp; kcf_m) | exact Src.here (by kcf_m) | (refine' Src.int2 ?s1 ?s2; (case s1 => kcf_m); (case s2 => exact rfl))); (case h1 => first | exact Src.up (by assumption) (by intro p hp; kcf_m) | exact Src.here (by kcf_m) | (refine' Src.int2 ?s1 ?s2; (case s1 => kcf_m); (case s2 => exact rfl))); (case h2 => k_extra "small"); (case h3 => k_extra "small"); (case kd => first | exact room_up (by assumption) (by decide) | exact Nat.le_of_ble_eq_true rfl | ktr_room); (case ku => first | exact units_up (by assumption) (by decide) | exact Nat.le_of_ble_eq_true rfl | ktr_units); intro zD9 zt9 zu9 zn9 zh9 ztk9 zF9 zN9 zl9; (try dsimp only); (try k_fold))
  k_with "call ref" => (k_here; (with_reducible show wpAny _ _ (call (Value.ref 71) _) _ _ _); k_dflt (refine' useR ?k1 ?k2 ?k3 ?k4 ?k5 ?kK (rsub_ok _ _ _ _ _ _ _ _ _ _ _ _ ?h0 ?h1 ?h2 ?h3) ?kd ?ku ?_); (case k1 => k_asm); (case k2 => k_asm); (case k3 => k_asm); (case k4 => k_asm); (case k5 => k_asm); (case kK => first | exact rfl | assumption); (case h0 => first | exact Src.up (by assumption) (by intro p hp; kcf_m) | exact Src.here (by kcf_m) | (refine' Src.int2 ?s1 ?s2; (case s1 => kcf_m); (case s2 => exact rfl))); (case h1 => first | exact Src.up (by assumption) (by intro p hp; kcf_m) | exact Src.here (by kcf_m) | (refine' Src.int2 ?s1 ?s2; (case s1 => kcf_m); (case s2 => exact rfl))); (case h2 => k_extra "small"); (case h3 => k_extra "small"); (case kd => first | exact room_up (by assumption) (by decide) | exact Nat.le_of_ble_eq_true rfl | ktr_room); (case ku => first | exact units_up (by assumption) (by decide) | exact Nat.le_of_ble_eq_true rfl | ktr_units); intro zD9 zt9 zu9 zn9 zh9 ztk9 zF9 zN9 zl9; (try dsimp only); (try k_fold))
  k_with "call ref" => (k_here; (with_reducible show wpAny _ _ (call (Value.ref 78) _) _ _ _); k_dflt (refine' useR ?k1 ?k2 ?k3 ?k4 ?k5 ?kK (rmul_ok _ _ _ _ _ _ _ _ _ _ _ _ ?h0 ?h1 ?h2 ?h3) ?kd ?ku ?_); (case k1 => k_asm); (case k2 => k_asm); (case k3 => k_asm); (case k4 => k_asm); (case k5 => k_asm); (case kK => first | exact rfl | assumption); (case h0 => first | exact Src.up (by assumption) (by intro p hp; kcf_m) | exact Src.here (by kcf_m) | (refine' Src.int2 ?s1 ?s2; (case s1 => kcf_m); (case s2 => exact rfl))); (case h1 => first | exact Src.up (by assumption) (by intro p hp; kcf_m) | exact Src.here (by kcf_m) | (refine' Src.int2 ?s1 ?s2; (case s1 => kcf_m); (case s2 => exact rfl))); (case h2 => k_extra "small"); (case h3 => k_extra "small"); (case kd => first | exact room_up (by assumption) (by decide) | exact Nat.le_of_ble_eq_true rfl | ktr_room); (case ku => first | exact units_up (by assumption) (by decide) | exact Nat.le_of_ble_eq_true rfl | ktr_units); intro zD9 zt9 zu9 zn9 zh9 ztk9 zF9 zN9 zl9; (try dsimp only); (try k_fold))
  k_with "call ref" => (k_here; (with_reducible show wpAny _ _ (call (Value.ref 85) _) _ _ _); k_dflt (refine' useR ?k1 ?k2 ?k3 ?k4 ?k5 ?kK (rdiv_ok _ _ _ _ _ _ _ _ _ _ _ _ ?h0 ?h1 ?h2 ?h3 ?h4) ?kd ?ku ?_); (case k1 => k_asm); (case k2 => k_asm); (case k3 => k_asm); (case k4 => k_asm); (case k5 => k_asm); (case kK => first | exact rfl | assumption); (case h0 => first | exact Src.up (by assumption) (by intro p hp; kcf_m) | exact Src.here (by kcf_m) | (refine' Src.int2 ?s1 ?s2; (case s1 => kcf_m); (case s2 => exact rfl))); (case h1 => first | exact Src.up (by assumption) (by intro p hp; kcf_m) | exact Src.here (by kcf_m) | (refine' Src.int2 ?s1 ?s2; (case s1 => kcf_m); (case s2 => exact rfl))); (case h2 => k_extra "small"); (case h3 => k_extra "small"); (case h4 => k_extra "nonzero"); (case kd => first | exact room_up (by assumption) (by decide) | exact Nat.le_of_ble_eq_true rfl | ktr_room); (case ku => first | exact units_up (by assumption) (by decide) | exact Nat.le_of_ble_eq_true rfl | ktr_units); intro zD9 zt9 zu9 zn9 zh9 ztk9 zF9 zN9 zl9; (try dsimp only); (try k_fold))
  k_with "call ref" => (k_here; (with_reducible show wpAny _ _ (call (Value.ref 92) _) _ _ _); k_dflt (refine' useV ?k1 ?k2 ?k3 ?k4 ?k5 ?kK (is_vast_ok _ _ _ _ _ _ _ ?h0 ?h1) ?kd ?ku ?_); (case k1 => k_asm); (case k2 => k_asm); (case k3 => k_asm); (case k4 => k_asm); (case k5 => k_asm); (case kK => first | exact rfl | assumption); (case h0 => first | exact Src.up (by assumption) (by intro p hp; kcf_m) | exact Src.here (by kcf_m) | (refine' Src.int2 ?s1 ?s2; (case s1 => kcf_m); (case s2 => exact rfl))); (case h1 => assumption); (case kd => first | exact room_up (by assumption) (by decide) | exact Nat.le_of_ble_eq_true rfl | ktr_room); (case ku => first | exact units_up (by assumption) (by decide) | exact Nat.le_of_ble_eq_true rfl | ktr_units); intro zh9 ztk9 zF9 zN9; (try dsimp only); (try k_fold))
  k_with "call ref" => (k_here; (with_reducible show wpAny _ _ (call (Value.ref 99) _) _ _ _); k_dflt (refine' useZ ?k1 ?k2 ?k3 ?k4 ?k5 ?kK (rcompare_ok _ _ _ _ _ _ _ _ _ _ _ ?h0 ?h1 ?h2) ?kd ?ku ?_); (case k1 => k_asm); (case k2 => k_asm); (case k3 => k_asm); (case k4 => k_asm); (case k5 => k_asm); (case kK => first | exact rfl | assumption); (case h0 => first | exact Src.up (by assumption) (by intro p hp; kcf_m) | exact Src.here (by kcf_m) | (refine' Src.int2 ?s1 ?s2; (case s1 => kcf_m); (case s2 => exact rfl))); (case h1 => first | exact Src.up (by assumption) (by intro p hp; kcf_m) | exact Src.here (by kcf_m) | (refine' Src.int2 ?s1 ?s2; (case s1 => kcf_m); (case s2 => exact rfl))); (case h2 => k_extra "small"); (case kd => first | exact room_up (by assumption) (by decide) | exact Nat.le_of_ble_eq_true rfl | ktr_room); (case ku => first | exact units_up (by assumption) (by decide) | exact Nat.le_of_ble_eq_true rfl | ktr_units); intro zt9 zh9 ztk9 zF9 zN9; (try dsimp only); (try k_fold))
  k_with "call ref" => (k_here; (with_reducible show wpAny _ _ (call (Value.ref 106) _) _ _ _); k_dflt (refine' useV ?k1 ?k2 ?k3 ?k4 ?k5 ?kK (let_ok _ _ _ _ _ _ _ ?h0 ?h1) ?kd ?ku ?_); (case k1 => k_asm); (case k2 => k_asm); (case k3 => k_asm); (case k4 => k_asm); (case k5 => k_asm); (case kK => first | exact rfl | assumption); (case h0 => first | exact Src.up (by assumption) (by intro p hp; kcf_m) | exact Src.here (by kcf_m) | (refine' Src.int2 ?s1 ?s2; (case s1 => kcf_m); (case s2 => exact rfl))); (case h1 => k_extra "small"); (case kd => first | exact room_up (by assumption) (by decide) | exact Nat.le_of_ble_eq_true rfl | ktr_room); (case ku => first | exact units_up (by assumption) (by decide) | exact Nat.le_of_ble_eq_true rfl | ktr_units); intro zh9 ztk9 zF9 zN9; (try dsimp only); (try k_fold))
  k_with "subscriptTail" => (k_here; (with_reducible show wpAny _ _ (subscriptTail _ _ (Value.ref _) (Value.int _ _)) _ _ _); k_dflt (refine' list_item ?k1 ?k2 ?ks ?k3 ?k4 ?k5 ?k6 ?_; (case k1 => k_asm); (case k2 => assumption); (case ks => intro p hp; kcf_m); (case k3 => assumption); (case k4 => omega); (case k5 => omega); (case k6 => omega); intro zA9 zt9 zu9 zc9 zS9; (try dsimp only)))
  k_with "compareOp NotEq ref ref" => (k_here; k_dflt (refine' rat_ne ?k1 ?k2 ?k3 ?k4 ?k5 ?k6 ?_; (case k1 => k_asm); (case k2 => k_asm); (case k3 => k_asm); (case k4 => first | exact Src.up (by assumption) (by intro p hp; kcf_m) | exact Src.here (by kcf_m) | (refine' Src.int2 ?s1 ?s2; (case s1 => kcf_m); (case s2 => exact rfl))); (case k5 => first | exact Src.up (by assumption) (by intro p hp; kcf_m) | exact Src.here (by kcf_m) | (refine' Src.int2 ?s1 ?s2; (case s1 => kcf_m); (case s2 => exact rfl))); (case k6 => ktr_units)))
  k_with "compareOp Eq ref ref" => (k_here; k_dflt (refine' rat_eq ?k1 ?k2 ?k3 ?k4 ?k5 ?k6 ?_; (case k1 => k_asm); (case k2 => k_asm); (case k3 => k_asm); (case k4 => first | exact Src.up (by assumption) (by intro p hp; kcf_m) | exact Src.here (by kcf_m) | (refine' Src.int2 ?s1 ?s2; (case s1 => kcf_m); (case s2 => exact rfl))); (case k5 => first | exact Src.up (by assumption) (by intro p hp; kcf_m) | exact Src.here (by kcf_m) | (refine' Src.int2 ?s1 ?s2; (case s1 => kcf_m); (case s2 => exact rfl))); (case k6 => ktr_units)))
  k_with "call ref" => (k_here; (with_reducible show wpAny _ _ (call (Value.ref 123) _) _ _ _); k_dflt (refine' useQ ?k1 ?k2 ?k3 ?k4 ?k5 ?kK (mixed_ok _ _ _ _ _ _ _ _ _ _ _ _ _ _ ?h0 ?h1 ?h2 ?h3 ?h4 ?h5 ?h6 ?h7 ?h8 ?h9) ?kd ?ku ?_); (case k1 => k_asm); (case k2 => k_asm); (case k3 => k_asm); (case k4 => k_asm); (case k5 => k_asm); (case kK => first | exact rfl | assumption); (case h0 => exact mem_up (by assumption) (by intro p hp; kcf_m)); (case h1 => exact LV.up (by assumption) (by intro p hp; kcf_m)); (case h2 => exact mem_up (by assumption) (by intro p hp; kcf_m)); (case h3 => exact LV.up (by assumption) (by intro p hp; kcf_m)); (case h4 => assumption); (case h5 => assumption); (case h6 => assumption); (case h7 => omega); (case h8 => omega); (case h9 => assumption); (case kd => first | exact room_up (by assumption) (by decide) | exact Nat.le_of_ble_eq_true rfl | ktr_room); (case ku => first | exact units_up (by assumption) (by decide) | exact Nat.le_of_ble_eq_true rfl | ktr_units); intro zadd9 zD9 zt9 zu9 zn9 zh9 ztk9 zF9 zN9 zf9 zS9; (try dsimp only); (try k_fold))
  k_with "my enterC" => (refine' code_defC ?k1 ?k2 ?k3 ?k4 ?k5 ?kA ?kF ?kK ?k6 ?k7 ?k8 ?k9 ?kB ?kD ?_ ?c2 ?c3 ?c4; (case kA => exact rfl); (case kF => exact rfl); (case kK => assumption); (case k1 => k_asm); (case k2 => k_asm); (case k3 => k_asm); (case k4 => k_asm); (case k5 => k_asm); (case k6 => k_is); (case k7 => k_is); (case k8 => ktr_room); (case k9 => exact BindsTo.of_eq rfl); (case kB => exact rfl); (case kD => decide +kernel); (case c2 => exact rfl); (case c3 => exact rfl); (case c4 => exact rfl); k_whole; intro zg' zL' zh' ztk' zcells' zFG' zF' zN' zY' zB' zX' zT' zl1; k_cells zY'; (try simp only [List.cons_append, List.nil_append] at zN'); (try dsimp only); (try k_lift zB'); (try k_fold))
  k_with "call builtin:len" => (k_here; (with_reducible show wpAny _ _ (call (Value.builtin "len") [Value.ref _]) _ _ _); k_dflt (refine' list_len ?k1 ?k2 ?ks ?k3 ?k4 ?_; (case k1 => k_asm); (case k2 => assumption); (case ks => intro p hp; kcf_m); (case k3 => assumption); (case k4 => omega)))
  k_with "eval ListComp" => (k_here; k_dflt (refine LCg.ListComp_U (F₀ := by k_asm) (by with_unfolding_all rfl) (by decide) (by rfl) (by decide) (by rfl) ?_))
  k_with "eval Name" => (k_here; (with_reducible show wpAny _ _ (eval (Expr.Name _ _) (compEnvC _ _ _ _)) _ _ _); (with_reducible rename News _ _ _ _ => kN); k_dflt (refine kcf_cell kN (by rfl) (mem_up (by assumption) (by intro p hp; kcf_m)) (by assumption) ?_))
  k_with "newTuple" => (k_here; k_dflt (refine' my_tuple ?k1 ?k2 ?_ ?k3; (case k1 => k_asm); (case k2 => k_asm); (case k3 => (simp only [PySem.sizeLine_eq, List.length_cons, List.length_nil]; omega))); intro zD9 zh9 zF9 zN9 zl9; (try dsimp only))
  k_with "binaryOp Add ref ref" => (k_here; (with_reducible show wpAny _ _ (binaryOp _ (Value.ref _) (Value.ref _)) _ _ _); k_dflt (refine' list_add ?k1 ?k2 ?k3 ?k4 ?k5 ?_; (case k1 => k_asm); (case k2 => k_asm); (case k3 => kcf_m); (case k4 => kcf_m); (case k5 => (simp only [PySem.sizeLine_eq, List.length_cons, List.length_nil]; omega))); intro zD9 zh9 zF9 zN9 zl9; (try dsimp only))
  k_with "newList" => (k_here; k_dflt (refine' newList_K ?k1 ?k2 ?_; (case k1 => k_asm); (case k2 => k_asm); k_whole); intro zl9 zh9 zF9 zN9 zq9; (replace zq9 := ne_of_lts zq9); (try dsimp only))
  k_with "call ref" => (k_here; (with_reducible show wpAny _ _ (call (Value.ref 128) _) _ _ _); k_dflt (refine' useL ?k1 ?k2 ?k3 ?k4 ?k5 ?kK (smul_ok _ _ _ _ _ _ _ _ _ _ _ _ ?h0 ?h1 ?h2 ?h3 ?h4 ?h5 ?h6) ?kd ?ku ?_); (case k1 => k_asm); (case k2 => k_asm); (case k3 => k_asm); (case k4 => k_asm); (case k5 => k_asm); (case kK => first | exact rfl | assumption); (case h0 => exact mem_up (by assumption) (by intro p hp; kcf_m)); (case h1 => exact LV.up (by assumption) (by intro p hp; kcf_m)); (case h2 => exact mem_up (by assumption) (by intro p hp; kcf_m)); (case h3 => exact LV.up (by assumption) (by intro p hp; kcf_m)); (case h4 => omega); (case h5 => omega); (case h6 => assumption); (case kd => first | exact room_up (by assumption) (by decide) | exact Nat.le_of_ble_eq_true rfl | ktr_room); (case ku => first | exact units_up (by assumption) (by decide) | exact Nat.le_of_ble_eq_true rfl | ktr_units); intro zD9 zvs9 zc9 zadd9 zh9 ztk9 zF9 zN9 zm9 zV9 zf9; (try dsimp only); (try k_fold))
  intro p loose mean mg mb dp un gd cn cs f ccd cl outer A₀ base h₀ L m s Q E Bl F X N T hk hd hu hret
  refine wpAny_call ?_
  k_dflt (walk_at "my enterC")
  k_with "small" => assumption
  k_with "my comp" => (
    (refine' LCg.CompSrc.range (n := n - 1) (by rfl) ?c1 ?c2 (by assumption) ?c3 ?c4 ?c5 ?_);
    (case c1 => k_asm); (case c2 => k_asm); (case c3 => exact small_one (by omega) (by omega) (by omega) (by omega)); (case c4 => rw [rangeSize_nat]; omega); (case c5 => rw [PySem.sizeLine_eq]; omega);
    intro g1;
    refine' my_rest (w := w) (fun k => (k : Rat) * a k) ?_ ?_;
    focus (intro i k t I oI C oC D m2 ys nx h tk E' hi hk hC hm F1 hx N1; obtain ⟨add, rfl, fr⟩ := hx; (have hc1 := cells1 N1); (have hk1 : (0 : Int) ≤ k := (by omega)); (have hk2 : k < n := (by omega)); (have ok1 := ok k.toNat (by omega)); (rw [show ((k.toNat : Nat) : Int) = k by omega] at ok1); (have sk : Sm (k : Rat) := sm_int (by omega)));
    rotate_left;
    focus (intro ys nx hx hv; obtain ⟨add, rfl, fr⟩ := hx);
    rotate_right;
    all_goals (try k_fold))
  k_steps
  · rename News _ _ _ _ => kN
    rename (∀ p : Addr × Obj, p ∈ _ :: _ :: _ → p.1 ≠ _) => l2
    rename (∀ p : Addr × Obj, p ∈ (I, oI) :: _ → p.1 ≠ _) => l1
    exact ⟨_, _, [_, _], rfl, by assumption, kN, fresh2 kN l1 l2, _, _, _, _, rfl, Src.here (.head _)⟩
  · rename News _ _ _ _ => kN
    rename LCg.Off1 _ _ => ko
    rename (∀ p ∈ news, p.1 < _) => kl
    exact hret _ _ _ _ (by assumption) kN (ext_comp (ext1 kl) fr ko) ⟨_, ys, _, rfl, .head _, hv.up fun p hp => .tail _ hp⟩
theorem sintegrate_ok (w : World) (la : Addr) (va : List Value) (ca n : Nat) (a : Int → Rat) (news : Led) (hla : (la, listOf va.toArray ca) ∈ news) (hva : LV w news va n a)
    (hn : (n : Int) < 2 ^ 20) (ok : ∀ i : Nat, i < n → Sm (a i)) :
    Cl w 145 [.ref la] 5 news (NewL w (n + 1) (fun k => if k = 0 then 0 else a (k - 1) / (k : Rat))) := by
  w_top off
  unfold Cl
  k_fill
  k_with_none
  k_with "call ref" => (k_here; (with_reducible show wpAny _ _ (call (Value.ref 41) _) _ _ _); k_dflt (refine' useI ?k1 ?k2 ?k3 ?k4 ?k5 ?kK (gcd_ok _ _ _ _ _ _ ) ?kd ?ku ?_); (case k1 => k_asm); (case k2 => k_asm); (case k3 => k_asm); (case k4 => k_asm); (case k5 => k_asm); (case kK => first | exact rfl | assumption); (case kd => first | exact room_up (by assumption) (by decide) | exact Nat.le_of_ble_eq_true rfl | ktr_room); (case ku => first | exact units_up (by assumption) (by decide) | exact Nat.le_of_ble_eq_true rfl | ktr_units); intro zt9 zh9 ztk9 zF9 zN9; (try dsimp only); (try k_fold))
  k_with "call ref" => ((with_reducible show wpAny _ _ (call (Value.ref 31) _) _ _ _); exfalso; first | contradiction | omega)
  k_with "binaryOp FloorDiv int int" => (k_here; refine floordiv_int ?k1 ?_ (Or.inl (PyProof.noPylong_of_log2 ?k2)); (case k1 => first | assumption | omega); (case k2 => assumption))
  k_with "call ref" => (k_here; (with_reducible show wpAny _ _ (call (Value.ref 57) _) _ _ _); k_dflt (refine' useR ?k1 ?k2 ?k3 ?k4 ?k5 ?kK (rat_ok _ _ _ _ _ _ ?h0 ?h1) ?kd ?ku ?_); (case k1 => k_asm); (case k2 => k_asm); (case k3 => k_asm); (case k4 => k_asm); (case k5 => k_asm); (case kK => first | exact rfl | assumption); (case h0 => assumption); (case h1 => assumption); (case kd => first | exact room_up (by assumption) (by decide) | exact Nat.le_of_ble_eq_true rfl | ktr_room); (case ku => first | exact units_up (by assumption) (by decide) | exact Nat.le_of_ble_eq_true rfl | ktr_units); intro zD9 zt9 zu9 zn9 zh9 ztk9 zF9 zN9 zl9; (try dsimp only); (try k_fold))
  k_with "subscriptTail" => (k_here; (with_reducible show wpAny _ _ (subscriptTail _ _ (Value.ref _) (Value.int 0 _)) _ _ _); k_dflt (refine' rat_item0 ?k1 ?k2 ?k3 ?k4 ?_; (case k1 => k_asm); (case k2 => k_asm); (case k3 => k_asm); (case k4 => first | exact Src.up (by assumption) (by intro p hp; kcf_m) | exact Src.here (by kcf_m))))
  k_with "subscriptTail" => (k_here; (with_reducible show wpAny _ _ (subscriptTail _ _ (Value.ref _) (Value.int 1 _)) _ _ _); k_dflt (refine' rat_item1 ?k1 ?k2 ?k3 ?k4 ?_; (case k1 => k_asm); (case k2 => k_asm); (case k3 => k_asm); (case k4 => first | exact Src.up (by assumption) (by intro p hp; kcf_m) | exact Src.here (by kcf_m))))
  k_with "call ref" => (k_here; (with_reducible show wpAny _ _ (call (Value.ref 64) _) _ _ _); k_dflt (refine' useR ?k1 ?k2 ?k3 ?k4 ?k5 ?kK (radd_ok _ _ _ _ _ _ _ _ _ _ _ _ ?h0 ?h1 ?h2 ?h3) ?kd ?ku ?_); (case k1 => k_asm); (case k2 => k_asm); (case k3 => k_asm); (case k4 => k_asm); (case k5 => k_asm); (case kK => first | exact rfl | assumption); (case h0 => first | exact Src.up (by assumption) (by intro p hp; kcf_m) | exact Src.here (by kcf_m) | (refine' Src.int2 ?s1 ?s2; (case s1 => kcf_m); (case s2 => exact rfl))); (case h1 => first | exact Src.up (by assumption) (by intro p hp; kcf_m) | exact Src.here (by kcf_m) | (refine' Src.int2 ?s1 ?s2; (case s1 => kcf_m); (case s2 => exact rfl))); (case h2 => k_extra "small"); (case h3 => k_extra "small"); (case kd => first | exact room_up (by assumption) (by decide) | exact Nat.le_of_ble_eq_true rfl | ktr_room); (case ku => first | exact units_up (by assumption) (by decide) | exact Nat.le_of_ble_eq_true rfl | ktr_units); intro zD9 zt9 zu9 zn9 zh9 ztk9 zF9 zN9 zl9; (try dsimp only); (try k_fold))
  k_with "call ref" => (k_here; (with_reducible show wpAny _ _ (call (Value.ref 71) _) _ _ _); k_dflt (refine' useR ?k1 ?k2 ?k3 ?k4 ?k5 ?kK (rsub_ok _ _ _ _ _ _ _ _ _ _ _ _ ?h0 ?h1 ?h2 ?h3) ?kd ?ku ?_); (case k1 => k_asm); (case k2 => k_asm); (case k3 => k_asm); (case k4 => k_asm); (case k5 => k_asm); (case kK => first | exact rfl | assumption); (case h0 => first | exact Src.up (by assumption) (by intro p hp; kcf_m) | exact Src.here (by kcf_m) | (refine' Src.int2 ?s1 ?s2; (case s1 => kcf_m); (case s2 => exact rfl))); (case h1 => first | exact Src.up (by assumption) (by intro p hp; kcf_m) | exact Src.here (by kcf_m) | (refine' Src.int2 ?s1 ?s2; (case s1 => kcf_m); (case s2 => exact rfl))); (case h2 => k_extra "small"); (case h3 => k_extra "small"); (case kd => first | exact room_up (by assumption) (by decide) | exact Nat.le_of_ble_eq_true rfl | ktr_room); (case ku => first | exact units_up (by assumption) (by decide) | exact Nat.le_of_ble_eq_true rfl | ktr_units); intro zD9 zt9 zu9 zn9 zh9 ztk9 zF9 zN9 zl9; (try dsimp only); (try k_fold))
  k_with "call ref" => (k_here; (with_reducible show wpAny _ _ (call (Value.ref 78) _) _ _ _); k_dflt (refine' useR ?k1 ?k2 ?k3 ?k4 ?k5 ?kK (rmul_ok _ _ _ _ _ _ _ _ _ _ _ _ ?h0 ?h1 ?h2 ?h3) ?kd ?ku ?_); (case k1 => k_asm); (case k2 => k_asm); (case k3 => k_asm); (case k4 => k_asm); (case k5 => k_asm); (case kK => first | exact rfl | assumption); (case h0 => first | exact Src.up (by assumption) (by intro p hp; kcf_m) | exact Src.here (by kcf_m) | (refine' Src.int2 ?s1 ?s2; (case s1 => kcf_m); (case s2 => exact rfl))); (case h1 => first | exact Src.up (by assumption) (by intro p hp; kcf_m) | exact Src.here (by kcf_m) | (refine' Src.int2 ?s1 ?s2; (case s1 => kcf_m); (case s2 => exact rfl))); (case h2 => k_extra "small"); (case h3 => k_extra "small"); (case kd => first | exact room_up (by assumption) (by decide) | exact Nat.le_of_ble_eq_true rfl | ktr_room); (case ku => first | exact units_up (by assumption) (by decide) | exact Nat.le_of_ble_eq_true rfl | ktr_units); intro zD9 zt9 zu9 zn9 zh9 ztk9 zF9 zN9 zl9; (try dsimp only); (try k_fold))
  k_with "call ref" => (k_here; (with_reducible show wpAny _ _ (call (Value.ref 85) _) _ _ _); k_dflt (refine' useR ?k1 ?k2 ?k3 ?k4 ?k5 ?kK (rdiv_ok _ _ _ _ _ _ _ _ _ _ _ _ ?h0 ?h1 ?h2 ?h3 ?h4) ?kd ?ku ?_); (case k1 => k_asm); (case k2 => k_asm); (case k3 => k_asm); (case k4 => k_asm); (case k5 => k_asm); (case kK => first | exact rfl | assumption); (case h0 => first | exact Src.up (by assumption) (by intro p hp; kcf_m) | exact Src.here (by kcf_m) | (refine' Src.int2 ?s1 ?s2; (case s1 => kcf_m); (case s2 => exact rfl))); (case h1 => first | exact Src.up (by assumption) (by intro p hp; kcf_m) | exact Src.here (by kcf_m) | (refine' Src.int2 ?s1 ?s2; (case s1 => kcf_m); (case s2 => exact rfl))); (case h2 => k_extra "small"); (case h3 => k_extra "small"); (case h4 => k_extra "nonzero"); (case kd => first | exact room_up (by assumption) (by decide) | exact Nat.le_of_ble_eq_true rfl | ktr_room); (case ku => first | exact units_up (by assumption) (by decide) | exact Nat.le_of_ble_eq_true rfl | ktr_units); intro zD9 zt9 zu9 zn9 zh9 ztk9 zF9 zN9 zl9; (try dsimp only); (try k_fold))
  k_with "call ref" => (k_here; (with_reducible show wpAny _ _ (call (Value.ref 92) _) _ _ _); k_dflt (refine' useV ?k1 ?k2 ?k3 ?k4 ?k5 ?kK (is_vast_ok _ _ _ _ _ _ _ ?h0 ?h1) ?kd ?ku ?_); (case k1 => k_asm); (case k2 => k_asm); (case k3 => k_asm); (case k4 => k_asm); (case k5 => k_asm); (case kK => first | exact rfl | assumption); (case h0 => first | exact Src.up (by assumption) (by intro p hp; kcf_m) | exact Src.here (by kcf_m) | (refine' Src.int2 ?s1 ?s2; (case s1 => kcf_m); (case s2 => exact rfl))); (case h1 => assumption); (case kd => first | exact room_up (by assumption) (by decide) | exact Nat.le_of_ble_eq_true rfl | ktr_room); (case ku => first | exact units_up (by assumption) (by decide) | exact Nat.le_of_ble_eq_true rfl | ktr_units); intro zh9 ztk9 zF9 zN9; (try dsimp only); (try k_fold))
  k_with "call ref" => (k_here; (with_reducible show wpAny _ _ (call (Value.ref 99) _) _ _ _); k_dflt (refine' useZ ?k1 ?k2 ?k3 ?k4 ?k5 ?kK (rcompare_ok _ _ _ _ _ _ _ _ _ _ _ ?h0 ?h1 ?h2) ?kd ?ku ?_); (case k1 => k_asm); (case k2 => k_asm); (case k3 => k_asm); (case k4 => k_asm); (case k5 => k_asm); (case kK => first | exact rfl | assumption); (case h0 => first | exact Src.up (by assumption) (by intro p hp; kcf_m) | exact Src.here (by kcf_m) | (refine' Src.int2 ?s1 ?s2; (case s1 => kcf_m); (case s2 => exact rfl))); (case h1 => first | exact Src.up (by assumption) (by intro p hp; kcf_m) | exact Src.here (by kcf_m) | (refine' Src.int2 ?s1 ?s2; (case s1 => kcf_m); (case s2 => exact rfl))); (case h2 => k_extra "small"); (case kd => first | exact room_up (by assumption) (by decide) | exact Nat.le_of_ble_eq_true rfl | ktr_room); (case ku => first | exact units_up (by assumption) (by decide) | exact Nat.le_of_ble_eq_true rfl | ktr_units); intro zt9 zh9 ztk9 zF9 zN9; (try dsimp only); (try k_fold))
  k_with "call ref" => (k_here; (with_reducible show wpAny _ _ (call (Value.ref 106) _) _ _ _); k_dflt (refine' useV ?k1 ?k2 ?k3 ?k4 ?k5 ?kK (let_ok _ _ _ _ _ _ _ ?h0 ?h1) ?kd ?ku ?_); (case k1 => k_asm); (case k2 => k_asm); (case k3 => k_asm); (case k4 => k_asm); (case k5 => k_asm); (case kK => first | exact rfl | assumption); (case h0 => first | exact Src.up (by assumption) (by intro p hp; kcf_m) | exact Src.here (by kcf_m) | (refine' Src.int2 ?s1 ?s2; (case s1 => kcf_m); (case s2 => exact rfl))); (case h1 => k_extra "small"); (case kd => first | exact room_up (by assumption) (by decide) | exact Nat.le_of_ble_eq_true rfl | ktr_room); (case ku => first | exact units_up (by assumption) (by decide) | exact Nat.le_of_ble_eq_true rfl | ktr_units); intro zh9 ztk9 zF9 zN9; (try dsimp only); (try k_fold))
  k_with "subscriptTail" => (k_here; (with_reducible show wpAny _ _ (subscriptTail _ _ (Value.ref _) (Value.int _ _)) _ _ _); k_dflt (refine' list_item ?k1 ?k2 ?ks ?k3 ?k4 ?k5 ?k6 ?_; (case k1 => k_asm); (case k2 => assumption); (case ks => intro p hp; kcf_m); (case k3 => assumption); (case k4 => omega); (case k5 => omega); (case k6 => omega); intro zA9 zt9 zu9 zc9 zS9; (try dsimp only)))
  k_with "compareOp NotEq ref ref" => (k_here; k_dflt (refine' rat_ne ?k1 ?k2 ?k3 ?k4 ?k5 ?k6 ?_; (case k1 => k_asm); (case k2 => k_asm); (case k3 => k_asm); (case k4 => first | exact Src.up (by assumption) (by intro p hp; kcf_m) | exact Src.here (by kcf_m) | (refine' Src.int2 ?s1 ?s2; (case s1 => kcf_m); (case s2 => exact rfl))); (case k5 => first | exact Src.up (by assumption) (by intro p hp; kcf_m) | exact Src.here (by kcf_m) | (refine' Src.int2 ?s1 ?s2; (case s1 => kcf_m); (case s2 => exact rfl))); (case k6 => ktr_units)))
  k_with "compareOp Eq ref ref" => (k_here; k_dflt (refine' rat_eq ?k1 ?k2 ?k3 ?k4 ?k5 ?k6 ?_; (case k1 => k_asm); (case k2 => k_asm); (case k3 => k_asm); (case k4 => first | exact Src.up (by assumption) (by intro p hp; kcf_m) | exact Src.here (by kcf_m) | (refine' Src.int2 ?s1 ?s2; (case s1 => kcf_m); (case s2 => exact rfl))); (case k5 => first | exact Src.up (by assumption) (by intro p hp; kcf_m) | exact Src.here (by kcf_m) | (refine' Src.int2 ?s1 ?s2; (case s1 => kcf_m); (case s2 => exact rfl))); (case k6 => ktr_units)))
  k_with "call ref" => (k_here; (with_reducible show wpAny _ _ (call (Value.ref 123) _) _ _ _); k_dflt (refine' useQ ?k1 ?k2 ?k3 ?k4 ?k5 ?kK (mixed_ok _ _ _ _ _ _ _ _ _ _ _ _ _ _ ?h0 ?h1 ?h2 ?h3 ?h4 ?h5 ?h6 ?h7 ?h8 ?h9) ?kd ?ku ?_); (case k1 => k_asm); (case k2 => k_asm); (case k3 => k_asm); (case k4 => k_asm); (case k5 => k_asm); (case kK => first | exact rfl | assumption); (case h0 => exact mem_up (by assumption) (by intro p hp; kcf_m)); (case h1 => exact LV.up (by assumption) (by intro p hp; kcf_m)); (case h2 => exact mem_up (by assumption) (by intro p hp; kcf_m)); (case h3 => exact LV.up (by assumption) (by intro p hp; kcf_m)); (case h4 => assumption); (case h5 => assumption); (case h6 => assumption); (case h7 => omega); (case h8 => omega); (case h9 => assumption); (case kd => first | exact room_up (by assumption) (by decide) | exact Nat.le_of_ble_eq_true rfl | ktr_room); (case ku => first | exact units_up (by assumption) (by decide) | exact Nat.le_of_ble_eq_true rfl | ktr_units); intro zadd9 zD9 zt9 zu9 zn9 zh9 ztk9 zF9 zN9 zf9 zS9; (try dsimp only); (try k_fold))
  k_with "my enterC" => (refine' code_defC ?k1 ?k2 ?k3 ?k4 ?k5 ?kA ?kF ?kK ?k6 ?k7 ?k8 ?k9 ?kB ?kD ?_ ?c2 ?c3 ?c4; (case kA => exact rfl); (case kF => exact rfl); (case kK => assumption); (case k1 => k_asm); (case k2 => k_asm); (case k3 => k_asm); (case k4 => k_asm); (case k5 => k_asm); (case k6 => k_is); (case k7 => k_is); (case k8 => ktr_room); (case k9 => exact BindsTo.of_eq rfl); (case kB => exact rfl); (case kD => decide +kernel); (case c2 => exact rfl); (case c3 => exact rfl); (case c4 => exact rfl); k_whole; intro zg' zL' zh' ztk' zcells' zFG' zF' zN' zY' zB' zX' zT' zl1; k_cells zY'; (try simp only [List.cons_append, List.nil_append] at zN'); (try dsimp only); (try k_lift zB'); (try k_fold))
  k_with "call builtin:len" => (k_here; (with_reducible show wpAny _ _ (call (Value.builtin "len") [Value.ref _]) _ _ _); k_dflt (refine' list_len ?k1 ?k2 ?ks ?k3 ?k4 ?_; (case k1 => k_asm); (case k2 => assumption); (case ks => intro p hp; kcf_m); (case k3 => assumption); (case k4 => omega)))
  k_with "eval ListComp" => (k_here; k_dflt (refine LCg.ListComp_U (F₀ := by k_asm) (by with_unfolding_all rfl) (by decide) (by rfl) (by decide) (by rfl) ?_))
  k_with "eval Name" => (k_here; (with_reducible show wpAny _ _ (eval (Expr.Name _ _) (compEnvC _ _ _ _)) _ _ _); (with_reducible rename News _ _ _ _ => kN); k_dflt (refine kcf_cell kN (by rfl) (mem_up (by assumption) (by intro p hp; kcf_m)) (by assumption) ?_))
  k_with "newTuple" => (k_here; k_dflt (refine' my_tuple ?k1 ?k2 ?_ ?k3; (case k1 => k_asm); (case k2 => k_asm); (case k3 => (simp only [PySem.sizeLine_eq, List.length_cons, List.length_nil]; omega))); intro zD9 zh9 zF9 zN9 zl9; (try dsimp only))
  k_with "binaryOp Add ref ref" => (k_here; (with_reducible show wpAny _ _ (binaryOp _ (Value.ref _) (Value.ref _)) _ _ _); k_dflt (refine' list_add ?k1 ?k2 ?k3 ?k4 ?k5 ?_; (case k1 => k_asm); (case k2 => k_asm); (case k3 => kcf_m); (case k4 => kcf_m); (case k5 => (simp only [PySem.sizeLine_eq, List.length_cons, List.length_nil]; omega))); intro zD9 zh9 zF9 zN9 zl9; (try dsimp only))
  k_with "newList" => (k_here; k_dflt (refine' newList_K ?k1 ?k2 ?_; (case k1 => k_asm); (case k2 => k_asm); k_whole); intro zl9 zh9 zF9 zN9 zq9; (replace zq9 := ne_of_lts zq9); (try dsimp only))
  k_with "call ref" => (k_here; (with_reducible show wpAny _ _ (call (Value.ref 128) _) _ _ _); k_dflt (refine' useL ?k1 ?k2 ?k3 ?k4 ?k5 ?kK (smul_ok _ _ _ _ _ _ _ _ _ _ _ _ ?h0 ?h1 ?h2 ?h3 ?h4 ?h5 ?h6) ?kd ?ku ?_); (case k1 => k_asm); (case k2 => k_asm); (case k3 => k_asm); (case k4 => k_asm); (case k5 => k_asm); (case kK => first | exact rfl | assumption); (case h0 => exact mem_up (by assumption) (by intro p hp; kcf_m)); (case h1 => exact LV.up (by assumption) (by intro p hp; kcf_m)); (case h2 => exact mem_up (by assumption) (by intro p hp; kcf_m)); (case h3 => exact LV.up (by assumption) (by intro p hp; kcf_m)); (case h4 => omega); (case h5 => omega); (case h6 => assumption); (case kd => first | exact room_up (by assumption) (by decide) | exact Nat.le_of_ble_eq_true rfl | ktr_room); (case ku => first | exact units_up (by assumption) (by decide) | exact Nat.le_of_ble_eq_true rfl | ktr_units); intro zD9 zvs9 zc9 zadd9 zh9 ztk9 zF9 zN9 zm9 zV9 zf9; (try dsimp only); (try k_fold))
  intro p loose mean mg mb dp un gd cn cs f ccd cl outer A₀ base h₀ L m s Q E Bl F X N T hk hd hu hret
  refine wpAny_call ?_
  k_dflt (walk_at "my enterC")
  obtain ⟨t0, u0, c0, hR0⟩ := R0_src
  k_with "small" => assumption
  k_with "nonzero" => assumption
  k_with "my comp" => (
    (refine' LCg.CompSrc.range (n := n) (by rfl) ?c1 ?c2 (by assumption) ?c3 ?c4 ?c5 ?_);
    (case c1 => k_asm); (case c2 => k_asm); (case c3 => exact small_one (by omega) (by omega) (by omega) (by omega)); (case c4 => rw [rangeSize_nat]; omega); (case c5 => rw [PySem.sizeLine_eq]; omega);
    intro g1;
    refine' my_rest (w := w) (fun k => a k / ((k + 1 : Int) : Rat)) ?_ ?_;
    focus (intro i k t I oI C oC D m2 ys nx h tk E' hi hk hC hm F1 hx N1; obtain ⟨add, rfl, fr⟩ := hx; obtain ⟨hc0, hc1⟩ := cells2 N1; (have hk1 : (0 : Int) ≤ k := (by omega)); (have hk2 : k < n := (by omega)); (have ok1 := ok k.toNat (by omega)); (rw [show ((k.toNat : Nat) : Int) = k by omega] at ok1); (have sk : Sm ((k + 1 : Int) : Rat) := sm_int (by omega)); (have nk : ((k + 1 : Int) : Rat) ≠ 0 := int_ne (by omega)));
    rotate_left;
    focus (intro ys nx hx hv; obtain ⟨add, rfl, fr⟩ := hx; (have hlen := hv.1));
    rotate_right;
    all_goals (try k_fold))
  k_steps
  · rename News _ _ _ _ => kN
    rename (∀ p : Addr × Obj, p ∈ _ :: _ :: _ → p.1 ≠ _) => l2
    rename (∀ p : Addr × Obj, p ∈ (I, oI) :: _ → p.1 ≠ _) => l1
    exact ⟨_, _, [_, _], rfl, by assumption, kN, fresh2 kN l1 l2, _, _, _, _, rfl, Src.here (.head _)⟩
  · rename News _ _ _ _ => kN
    rename LCg.Off1 _ _ => ko
    rename (∀ p ∈ news, p.1 < _) => kl
    rename (∀ p : Addr × Obj, p ∈ (_, LCg.lst ys) :: _ → p.1 ≠ _) => l9
    rename (∀ p : Addr × Obj, p ∈ _ :: news → p.1 ≠ _) => l8
    refine hret _ _ _ _ (by assumption) kN ((ext_comp ((ext1 kl).trans (Ext.one l8)) fr ko).trans (Ext.one l9)) ⟨_, _, _, rfl, .head _, LV.cons (c := c0) (t := t0) (u := u0) ?_ ((hv.le fun i _ => ?_).up fun p hp => .tail _ (.tail _ hp))⟩
    · have := hR0 w
      simpa using hR0 w _
    · have e : ((i : Int) + 1 = 0) = False := by
        apply eq_false
        omega
      simp only [Int.zero_add, e, if_false]
      rw [show (i : Int) + 1 - 1 = i by omega]
theorem need_begin_ok (w : World) (la B : Addr) (va : List Value) (ca n : Nat) (a : Int → Rat) (t2 u2 : MTok) (n2 : Nat) (news : Led) (hla : (la, listOf va.toArray ca) ∈ news) (hva : LV w news va n a) (hB : Src w news B (rObj (a 0) t2 u2 n2))
    (hn : (n : Int) < 2 ^ 20) (sa : Sm (a 0)) :
    Cl w 152 [.ref la, .ref B] 4 news (fun v cur => v = .none ∧ cur = news) := by
  w_top off
  unfold Cl
  k_fill
  k_with_none
  k_with "call ref" => (k_here; (with_reducible show wpAny _ _ (call (Value.ref 41) _) _ _ _); k_dflt (refine' useI ?k1 ?k2 ?k3 ?k4 ?k5 ?kK (gcd_ok _ _ _ _ _ _ ) ?kd ?ku ?_); (case k1 => k_asm); (case k2 => k_asm); (case k3 => k_asm); (case k4 => k_asm); (case k5 => k_asm); (case kK => first | exact rfl | assumption); (case kd => first | exact room_up (by assumption) (by decide) | exact Nat.le_of_ble_eq_true rfl | ktr_room); (case ku => first | exact units_up (by assumption) (by decide) | exact Nat.le_of_ble_eq_true rfl | ktr_units); intro zt9 zh9 ztk9 zF9 zN9; (try dsimp only); (try k_fold))
  k_with "call ref" => ((with_reducible show wpAny _ _ (call (Value.ref 31) _) _ _ _); exfalso; first | contradiction | omega)
  k_with "binaryOp FloorDiv int int" => (k_here; refine floordiv_int ?k1 ?_ (Or.inl (PyProof.noPylong_of_log2 ?k2)); (case k1 => first | assumption | omega); (case k2 => assumption))
  k_with "call ref" => (k_here; (with_reducible show wpAny _ _ (call (Value.ref 57) _) _ _ _); k_dflt (refine' useR ?k1 ?k2 ?k3 ?k4 ?k5 ?kK (rat_ok _ _ _ _ _ _ ?h0 ?h1) ?kd ?ku ?_); (case k1 => k_asm); (case k2 => k_asm); (case k3 => k_asm); (case k4 => k_asm); (case k5 => k_asm); (case kK => first | exact rfl | assumption); (case h0 => assumption); (case h1 => assumption); (case kd => first | exact room_up (by assumption) (by decide) | exact Nat.le_of_ble_eq_true rfl | ktr_room); (case ku => first | exact units_up (by assumption) (by decide) | exact Nat.le_of_ble_eq_true rfl | ktr_units); intro zD9 zt9 zu9 zn9 zh9 ztk9 zF9 zN9 zl9; (try dsimp only); (try k_fold))
  k_with "subscriptTail" => (k_here; (with_reducible show wpAny _ _ (subscriptTail _ _ (Value.ref _) (Value.int 0 _)) _ _ _); k_dflt (refine' rat_item0 ?k1 ?k2 ?k3 ?k4 ?_; (case k1 => k_asm); (case k2 => k_asm); (case k3 => k_asm); (case k4 => first | exact Src.up (by assumption) (by intro p hp; kcf_m) | exact Src.here (by kcf_m))))
  k_with "subscriptTail" => (k_here; (with_reducible show wpAny _ _ (subscriptTail _ _ (Value.ref _) (Value.int 1 _)) _ _ _); k_dflt (refine' rat_item1 ?k1 ?k2 ?k3 ?k4 ?_; (case k1 => k_asm); (case k2 => k_asm); (case k3 => k_asm); (case k4 => first | exact Src.up (by assumption) (by intro p hp; kcf_m) | exact Src.here (by kcf_m))))
  k_with "call ref" => (k_here; (with_reducible show wpAny _ _ (call (Value.ref 64) _) _ _ _); k_dflt (refine' useR ?k1 ?k2 ?k3 ?k4 ?k5 ?kK (radd_ok _ _ _ _ _ _ _ _ _ _ _ _ ?h0 ?h1 ?h2 ?h3) ?kd ?ku ?_); (case k1 => k_asm); (case k2 => k_asm); (case k3 => k_asm); (case k4 => k_asm); (case k5 => k_asm); (case kK => first | exact rfl | assumption); (case h0 => first | exact Src.up (by assumption) (by intro p hp; kcf_m) | exact Src.here (by kcf_m) | (refine' Src.int2 ?s1 ?s2; (case s1 => kcf_m); (case s2 => exact rfl))); (case h1 => first | exact Src.up (by assumption) (by intro p hp; kcf_m) | exact Src.here (by kcf_m) | (refine' Src.int2 ?s1 ?s2; (case s1 => kcf_m); (case s2 => exact rfl))); (case h2 => k_extra "small"); (case h3 => k_extra "small"); (case kd => first | exact room_up (by assumption) (by decide) | exact Nat.le_of_ble_eq_true rfl | ktr_room); (case ku => first | exact units_up (by assumption) (by decide) | exact Nat.le_of_ble_eq_true rfl | ktr_units); intro zD9 zt9 zu9 zn9 zh9 ztk9 zF9 zN9 zl9; (try dsimp only); (try k_fold))
  k_with "call ref" => (k_here; (with_reducible show wpAny _ _ (call (Value.ref 71) _) _ _ _); k_dflt (refine' useR ?k1 ?k2 ?k3 ?k4 ?k5 ?kK (rsub_ok _ _ _ _ _ _ _ _ _ _ _ _ ?h0 ?h1 ?h2 ?h3) ?kd ?ku ?_); (case k1 => k_asm); (case k2 => k_asm); (case k3 => k_asm); (case k4 => k_asm); (case k5 => k_asm); (case kK => first | exact rfl | assumption); (case h0 => first | exact Src.up (by assumption) (by intro p hp; kcf_m) | exact Src.here (by kcf_m) | (refine' Src.int2 ?s1 ?s2; (case s1 => kcf_m); (case s2 => exact rfl))); (case h1 => first | exact Src.up (by assumption) (by intro p hp; kcf_m) | exact Src.here (by kcf_m) | (refine' Src.int2 ?s1 ?s2; (case s1 => kcf_m); (case s2 => exact rfl))); (case h2 => k_extra "small"); (case h3 => k_extra "small"); (case kd => first | exact room_up (by assumption) (by decide) | exact Nat.le_of_ble_eq_true rfl | ktr_room); (case ku => first | exact units_up (by assumption) (by decide) | exact Nat.le_of_ble_eq_true rfl | ktr_units); intro zD9 zt9 zu9 zn9 zh9 ztk9 zF9 zN9 zl9; (try dsimp only); (try k_fold))
  k_with "call ref" => (k_here; (with_reducible show wpAny _ _ (call (Value.ref 78) _) _ _ _); k_dflt (refine' useR ?k1 ?k2 ?k3 ?k4 ?k5 ?kK (rmul_ok _ _ _ _ _ _ _ _ _ _ _ _ ?h0 ?h1 ?h2 ?h3) ?kd ?ku ?_); (case k1 => k_asm); (case k2 => k_asm); (case k3 => k_asm); (case k4 => k_asm); (case k5 => k_asm); (case kK => first | exact rfl | assumption); (case h0 => first | exact Src.up (by assumption) (by intro p hp; kcf_m) | exact Src.here (by kcf_m) | (refine' Src.int2 ?s1 ?s2; (case s1 => kcf_m); (case s2 => exact rfl))); (case h1 => first | exact Src.up (by assumption) (by intro p hp; kcf_m) | exact Src.here (by kcf_m) | (refine' Src.int2 ?s1 ?s2; (case s1 => kcf_m); (case s2 => exact rfl))); (case h2 => k_extra "small"); (case h3 => k_extra "small"); (case kd => first | exact room_up (by assumption) (by decide) | exact Nat.le_of_ble_eq_true rfl | ktr_room); (case ku => first | exact units_up (by assumption) (by decide) | exact Nat.le_of_ble_eq_true rfl | ktr_units); intro zD9 zt9 zu9 zn9 zh9 ztk9 zF9 zN9 zl9; (try dsimp only); (try k_fold))
  k_with "call ref" => (k_here; (with_reducible show wpAny _ _ (call (Value.ref 85) _) _ _ _); k_dflt (refine' useR ?k1 ?k2 ?k3 ?k4 ?k5 ?kK (rdiv_ok _ _ _ _ _ _ _ _ _ _ _ _ ?h0 ?h1 ?h2 ?h3 ?h4) ?kd ?ku ?_); (case k1 => k_asm); (case k2 => k_asm); (case k3 => k_asm); (case k4 => k_asm); (case k5 => k_asm); (case kK => first | exact rfl | assumption); (case h0 => first | exact Src.up (by assumption) (by intro p hp; kcf_m) | exact Src.here (by kcf_m) | (refine' Src.int2 ?s1 ?s2; (case s1 => kcf_m); (case s2 => exact rfl))); (case h1 => first | exact Src.up (by assumption) (by intro p hp; kcf_m) | exact Src.here (by kcf_m) | (refine' Src.int2 ?s1 ?s2; (case s1 => kcf_m); (case s2 => exact rfl))); (case h2 => k_extra "small"); (case h3 => k_extra "small"); (case h4 => k_extra "nonzero"); (case kd => first | exact room_up (by assumption) (by decide) | exact Nat.le_of_ble_eq_true rfl | ktr_room); (case ku => first | exact units_up (by assumption) (by decide) | exact Nat.le_of_ble_eq_true rfl | ktr_units); intro zD9 zt9 zu9 zn9 zh9 ztk9 zF9 zN9 zl9; (try dsimp only); (try k_fold))
  k_with "call ref" => (k_here; (with_reducible show wpAny _ _ (call (Value.ref 92) _) _ _ _); k_dflt (refine' useV ?k1 ?k2 ?k3 ?k4 ?k5 ?kK (is_vast_ok _ _ _ _ _ _ _ ?h0 ?h1) ?kd ?ku ?_); (case k1 => k_asm); (case k2 => k_asm); (case k3 => k_asm); (case k4 => k_asm); (case k5 => k_asm); (case kK => first | exact rfl | assumption); (case h0 => first | exact Src.up (by assumption) (by intro p hp; kcf_m) | exact Src.here (by kcf_m) | (refine' Src.int2 ?s1 ?s2; (case s1 => kcf_m); (case s2 => exact rfl))); (case h1 => assumption); (case kd => first | exact room_up (by assumption) (by decide) | exact Nat.le_of_ble_eq_true rfl | ktr_room); (case ku => first | exact units_up (by assumption) (by decide) | exact Nat.le_of_ble_eq_true rfl | ktr_units); intro zh9 ztk9 zF9 zN9; (try dsimp only); (try k_fold))
  k_with "call ref" => (k_here; (with_reducible show wpAny _ _ (call (Value.ref 99) _) _ _ _); k_dflt (refine' useZ ?k1 ?k2 ?k3 ?k4 ?k5 ?kK (rcompare_ok _ _ _ _ _ _ _ _ _ _ _ ?h0 ?h1 ?h2) ?kd ?ku ?_); (case k1 => k_asm); (case k2 => k_asm); (case k3 => k_asm); (case k4 => k_asm); (case k5 => k_asm); (case kK => first | exact rfl | assumption); (case h0 => first | exact Src.up (by assumption) (by intro p hp; kcf_m) | exact Src.here (by kcf_m) | (refine' Src.int2 ?s1 ?s2; (case s1 => kcf_m); (case s2 => exact rfl))); (case h1 => first | exact Src.up (by assumption) (by intro p hp; kcf_m) | exact Src.here (by kcf_m) | (refine' Src.int2 ?s1 ?s2; (case s1 => kcf_m); (case s2 => exact rfl))); (case h2 => k_extra "small"); (case kd => first | exact room_up (by assumption) (by decide) | exact Nat.le_of_ble_eq_true rfl | ktr_room); (case ku => first | exact units_up (by assumption) (by decide) | exact Nat.le_of_ble_eq_true rfl | ktr_units); intro zt9 zh9 ztk9 zF9 zN9; (try dsimp only); (try k_fold))
  k_with "call ref" => (k_here; (with_reducible show wpAny _ _ (call (Value.ref 106) _) _ _ _); k_dflt (refine' useV ?k1 ?k2 ?k3 ?k4 ?k5 ?kK (let_ok _ _ _ _ _ _ _ ?h0 ?h1) ?kd ?ku ?_); (case k1 => k_asm); (case k2 => k_asm); (case k3 => k_asm); (case k4 => k_asm); (case k5 => k_asm); (case kK => first | exact rfl | assumption); (case h0 => first | exact Src.up (by assumption) (by intro p hp; kcf_m) | exact Src.here (by kcf_m) | (refine' Src.int2 ?s1 ?s2; (case s1 => kcf_m); (case s2 => exact rfl))); (case h1 => k_extra "small"); (case kd => first | exact room_up (by assumption) (by decide) | exact Nat.le_of_ble_eq_true rfl | ktr_room); (case ku => first | exact units_up (by assumption) (by decide) | exact Nat.le_of_ble_eq_true rfl | ktr_units); intro zh9 ztk9 zF9 zN9; (try dsimp only); (try k_fold))
  k_with "subscriptTail" => (k_here; (with_reducible show wpAny _ _ (subscriptTail _ _ (Value.ref _) (Value.int _ _)) _ _ _); k_dflt (refine' list_item ?k1 ?k2 ?ks ?k3 ?k4 ?k5 ?k6 ?_; (case k1 => k_asm); (case k2 => assumption); (case ks => intro p hp; kcf_m); (case k3 => assumption); (case k4 => omega); (case k5 => omega); (case k6 => omega); intro zA9 zt9 zu9 zc9 zS9; (try dsimp only)))
  k_with "compareOp NotEq ref ref" => (k_here; k_dflt (refine' rat_ne ?k1 ?k2 ?k3 ?k4 ?k5 ?k6 ?_; (case k1 => k_asm); (case k2 => k_asm); (case k3 => k_asm); (case k4 => first | exact Src.up (by assumption) (by intro p hp; kcf_m) | exact Src.here (by kcf_m) | (refine' Src.int2 ?s1 ?s2; (case s1 => kcf_m); (case s2 => exact rfl))); (case k5 => first | exact Src.up (by assumption) (by intro p hp; kcf_m) | exact Src.here (by kcf_m) | (refine' Src.int2 ?s1 ?s2; (case s1 => kcf_m); (case s2 => exact rfl))); (case k6 => ktr_units)))
  k_with "compareOp Eq ref ref" => (k_here; k_dflt (refine' rat_eq ?k1 ?k2 ?k3 ?k4 ?k5 ?k6 ?_; (case k1 => k_asm); (case k2 => k_asm); (case k3 => k_asm); (case k4 => first | exact Src.up (by assumption) (by intro p hp; kcf_m) | exact Src.here (by kcf_m) | (refine' Src.int2 ?s1 ?s2; (case s1 => kcf_m); (case s2 => exact rfl))); (case k5 => first | exact Src.up (by assumption) (by intro p hp; kcf_m) | exact Src.here (by kcf_m) | (refine' Src.int2 ?s1 ?s2; (case s1 => kcf_m); (case s2 => exact rfl))); (case k6 => ktr_units)))
  k_with "call ref" => (k_here; (with_reducible show wpAny _ _ (call (Value.ref 123) _) _ _ _); k_dflt (refine' useQ ?k1 ?k2 ?k3 ?k4 ?k5 ?kK (mixed_ok _ _ _ _ _ _ _ _ _ _ _ _ _ _ ?h0 ?h1 ?h2 ?h3 ?h4 ?h5 ?h6 ?h7 ?h8 ?h9) ?kd ?ku ?_); (case k1 => k_asm); (case k2 => k_asm); (case k3 => k_asm); (case k4 => k_asm); (case k5 => k_asm); (case kK => first | exact rfl | assumption); (case h0 => exact mem_up (by assumption) (by intro p hp; kcf_m)); (case h1 => exact LV.up (by assumption) (by intro p hp; kcf_m)); (case h2 => exact mem_up (by assumption) (by intro p hp; kcf_m)); (case h3 => exact LV.up (by assumption) (by intro p hp; kcf_m)); (case h4 => assumption); (case h5 => assumption); (case h6 => assumption); (case h7 => omega); (case h8 => omega); (case h9 => assumption); (case kd => first | exact room_up (by assumption) (by decide) | exact Nat.le_of_ble_eq_true rfl | ktr_room); (case ku => first | exact units_up (by assumption) (by decide) | exact Nat.le_of_ble_eq_true rfl | ktr_units); intro zadd9 zD9 zt9 zu9 zn9 zh9 ztk9 zF9 zN9 zf9 zS9; (try dsimp only); (try k_fold))
  k_with "my enterC" => (refine' code_defC ?k1 ?k2 ?k3 ?k4 ?k5 ?kA ?kF ?kK ?k6 ?k7 ?k8 ?k9 ?kB ?kD ?_ ?c2 ?c3 ?c4; (case kA => exact rfl); (case kF => exact rfl); (case kK => assumption); (case k1 => k_asm); (case k2 => k_asm); (case k3 => k_asm); (case k4 => k_asm); (case k5 => k_asm); (case k6 => k_is); (case k7 => k_is); (case k8 => ktr_room); (case k9 => exact BindsTo.of_eq rfl); (case kB => exact rfl); (case kD => decide +kernel); (case c2 => exact rfl); (case c3 => exact rfl); (case c4 => exact rfl); k_whole; intro zg' zL' zh' ztk' zcells' zFG' zF' zN' zY' zB' zX' zT' zl1; k_cells zY'; (try simp only [List.cons_append, List.nil_append] at zN'); (try dsimp only); (try k_lift zB'); (try k_fold))
  k_with "call builtin:len" => (k_here; (with_reducible show wpAny _ _ (call (Value.builtin "len") [Value.ref _]) _ _ _); k_dflt (refine' list_len ?k1 ?k2 ?ks ?k3 ?k4 ?_; (case k1 => k_asm); (case k2 => assumption); (case ks => intro p hp; kcf_m); (case k3 => assumption); (case k4 => omega)))
  k_with "eval ListComp" => (k_here; k_dflt (refine LCg.ListComp_U (F₀ := by k_asm) (by with_unfolding_all rfl) (by decide) (by rfl) (by decide) (by rfl) ?_))
  k_with "eval Name" => (k_here; (with_reducible show wpAny _ _ (eval (Expr.Name _ _) (compEnvC _ _ _ _)) _ _ _); (with_reducible rename News _ _ _ _ => kN); k_dflt (refine kcf_cell kN (by rfl) (mem_up (by assumption) (by intro p hp; kcf_m)) (by assumption) ?_))
  k_with "newTuple" => (k_here; k_dflt (refine' my_tuple ?k1 ?k2 ?_ ?k3; (case k1 => k_asm); (case k2 => k_asm); (case k3 => (simp only [PySem.sizeLine_eq, List.length_cons, List.length_nil]; omega))); intro zD9 zh9 zF9 zN9 zl9; (try dsimp only))
  k_with "binaryOp Add ref ref" => (k_here; (with_reducible show wpAny _ _ (binaryOp _ (Value.ref _) (Value.ref _)) _ _ _); k_dflt (refine' list_add ?k1 ?k2 ?k3 ?k4 ?k5 ?_; (case k1 => k_asm); (case k2 => k_asm); (case k3 => kcf_m); (case k4 => kcf_m); (case k5 => (simp only [PySem.sizeLine_eq, List.length_cons, List.length_nil]; omega))); intro zD9 zh9 zF9 zN9 zl9; (try dsimp only))
  k_with "newList" => (k_here; k_dflt (refine' newList_K ?k1 ?k2 ?_; (case k1 => k_asm); (case k2 => k_asm); k_whole); intro zl9 zh9 zF9 zN9 zq9; (replace zq9 := ne_of_lts zq9); (try dsimp only))
  k_with "call ref" => (k_here; (with_reducible show wpAny _ _ (call (Value.ref 128) _) _ _ _); k_dflt (refine' useL ?k1 ?k2 ?k3 ?k4 ?k5 ?kK (smul_ok _ _ _ _ _ _ _ _ _ _ _ _ ?h0 ?h1 ?h2 ?h3 ?h4 ?h5 ?h6) ?kd ?ku ?_); (case k1 => k_asm); (case k2 => k_asm); (case k3 => k_asm); (case k4 => k_asm); (case k5 => k_asm); (case kK => first | exact rfl | assumption); (case h0 => exact mem_up (by assumption) (by intro p hp; kcf_m)); (case h1 => exact LV.up (by assumption) (by intro p hp; kcf_m)); (case h2 => exact mem_up (by assumption) (by intro p hp; kcf_m)); (case h3 => exact LV.up (by assumption) (by intro p hp; kcf_m)); (case h4 => omega); (case h5 => omega); (case h6 => assumption); (case kd => first | exact room_up (by assumption) (by decide) | exact Nat.le_of_ble_eq_true rfl | ktr_room); (case ku => first | exact units_up (by assumption) (by decide) | exact Nat.le_of_ble_eq_true rfl | ktr_units); intro zD9 zvs9 zc9 zadd9 zh9 ztk9 zF9 zN9 zm9 zV9 zf9; (try dsimp only); (try k_fold))
  k_with "getMethod ref" => (k_here; (with_reducible show wpAny _ _ (getMethod (Value.ref _) (Str.ofString "append") _) _ _ _); k_dflt (refine' my_method ?kN ?k1 ?k2 ?_; (case kN => k_asm); (case k1 => assumption); (case k2 => intro p hp; kcf_m)))
  k_with "call builtin:list.append" => (k_here; (with_reducible show wpAny _ _ (call (Value.builtin _) [Value.ref _, Value.ref _]) _ _ _); k_dflt (k_extra "my append"))
  intro p loose mean mg mb dp un gd cn cs f ccd cl outer A₀ base h₀ L m s Q E Bl F X N T hk hd hu hret
  refine wpAny_call ?_
  k_dflt cell_enter
  k_with "small" => assumption
  k_steps
  all_goals
    rename News _ _ _ _ => kN
    exact hret _ news _ _ (by assumption) kN (Ext.refl _) ⟨rfl, rfl⟩
/-- the sum under the exp's next coefficient, so far -/
noncomputable def expT (a e : Int → Rat) (at' : Int) : Nat → Rat
  | 0 => 0
  | j + 1 => expT a e at' j + ((1 + (j : Int) : Int) : Rat) * a (1 + (j : Int)) * e (at' - (1 + (j : Int)))
theorem sexp_ok (w : World) (la : Addr) (va : List Value) (ca n : Nat) (a e : Int → Rat) (news : Led) (hla : (la, listOf va.toArray ca) ∈ news) (hva : LV w news va n a)
    (hn : (n : Int) < 2 ^ 20) (ha0 : a 0 = 0) (he : ∀ i : Nat, i < n → e i = if i = 0 then 1 else expT a e i i / ((i : Int) : Rat))
    (ok : ∀ i : Nat, i < n → Sm (expT a e i i) ∧ Sm (e i) ∧ ∀ j : Nat, j < i → Sm (a (1 + j)) ∧ Sm (((1 + (j : Int) : Int) : Rat) * a (1 + j)) ∧ Sm (e (i - (1 + j))) ∧ Sm (((1 + (j : Int) : Int) : Rat) * a (1 + j) * e (i - (1 + j))) ∧ Sm (expT a e i j)) :
    Cl w 159 [.ref la] 5 news (NewL w n e) := by
  obtain ⟨t0, u0, c0, hR0⟩ := R0_src
  obtain ⟨t1, u1, c1, hR1⟩ := R1_src
  have hz : Src w news 49 (rObj (a 0) t0 u0 c0) := by rw [ha0]; exact hR0 w news
  have hs0 : Sm (a 0) := by rw [ha0]; exact ⟨by decide, by decide⟩
  w_top off
  unfold Cl
  k_fill
  k_with_none
  k_with "call ref" => (k_here; (with_reducible show wpAny _ _ (call (Value.ref 41) _) _ _ _); k_dflt (refine' useI ?k1 ?k2 ?k3 ?k4 ?k5 ?kK (gcd_ok _ _ _ _ _ _ ) ?kd ?ku ?_); (case k1 => k_asm); (case k2 => k_asm); (case k3 => k_asm); (case k4 => k_asm); (case k5 => k_asm); (case kK => first | exact rfl | assumption); (case kd => first | exact room_up (by assumption) (by decide) | exact Nat.le_of_ble_eq_true rfl | ktr_room); (case ku => first | exact units_up (by assumption) (by decide) | exact Nat.le_of_ble_eq_true rfl | ktr_units); intro zt9 zh9 ztk9 zF9 zN9; (try dsimp only); (try k_fold))
  k_with "call ref" => ((with_reducible show wpAny _ _ (call (Value.ref 31) _) _ _ _); exfalso; first | contradiction | omega)
  k_with "binaryOp FloorDiv int int" => (k_here; refine floordiv_int ?k1 ?_ (Or.inl (PyProof.noPylong_of_log2 ?k2)); (case k1 => first | assumption | omega); (case k2 => assumption))
  k_with "call ref" => (k_here; (with_reducible show wpAny _ _ (call (Value.ref 57) _) _ _ _); k_dflt (refine' useR ?k1 ?k2 ?k3 ?k4 ?k5 ?kK (rat_ok _ _ _ _ _ _ ?h0 ?h1) ?kd ?ku ?_); (case k1 => k_asm); (case k2 => k_asm); (case k3 => k_asm); (case k4 => k_asm); (case k5 => k_asm); (case kK => first | exact rfl | assumption); (case h0 => assumption); (case h1 => assumption); (case kd => first | exact room_up (by assumption) (by decide) | exact Nat.le_of_ble_eq_true rfl | ktr_room); (case ku => first | exact units_up (by assumption) (by decide) | exact Nat.le_of_ble_eq_true rfl | ktr_units); intro zD9 zt9 zu9 zn9 zh9 ztk9 zF9 zN9 zl9; (try dsimp only); (try k_fold))
  k_with "subscriptTail" => (k_here; (with_reducible show wpAny _ _ (subscriptTail _ _ (Value.ref _) (Value.int 0 _)) _ _ _); k_dflt (refine' rat_item0 ?k1 ?k2 ?k3 ?k4 ?_; (case k1 => k_asm); (case k2 => k_asm); (case k3 => k_asm); (case k4 => first | exact Src.up (by assumption) (by intro p hp; kcf_m) | exact Src.here (by kcf_m))))
  k_with "subscriptTail" => (k_here; (with_reducible show wpAny _ _ (subscriptTail _ _ (Value.ref _) (Value.int 1 _)) _ _ _); k_dflt (refine' rat_item1 ?k1 ?k2 ?k3 ?k4 ?_; (case k1 => k_asm); (case k2 => k_asm); (case k3 => k_asm); (case k4 => first | exact Src.up (by assumption) (by intro p hp; kcf_m) | exact Src.here (by kcf_m))))
  k_with "call ref" => (k_here; (with_reducible show wpAny _ _ (call (Value.ref 64) _) _ _ _); k_dflt (refine' useR ?k1 ?k2 ?k3 ?k4 ?k5 ?kK (radd_ok _ _ _ _ _ _ _ _ _ _ _ _ ?h0 ?h1 ?h2 ?h3) ?kd ?ku ?_); (case k1 => k_asm); (case k2 => k_asm); (case k3 => k_asm); (case k4 => k_asm); (case k5 => k_asm); (case kK => first | exact rfl | assumption); (case h0 => first | exact Src.up (by assumption) (by intro p hp; kcf_m) | exact Src.here (by kcf_m) | (refine' Src.int2 ?s1 ?s2; (case s1 => kcf_m); (case s2 => exact rfl))); (case h1 => first | exact Src.up (by assumption) (by intro p hp; kcf_m) | exact Src.here (by kcf_m) | (refine' Src.int2 ?s1 ?s2; (case s1 => kcf_m); (case s2 => exact rfl))); (case h2 => k_extra "small"); (case h3 => k_extra "small"); (case kd => first | exact room_up (by assumption) (by decide) | exact Nat.le_of_ble_eq_true rfl | ktr_room); (case ku => first | exact units_up (by assumption) (by decide) | exact Nat.le_of_ble_eq_true rfl | ktr_units); intro zD9 zt9 zu9 zn9 zh9 ztk9 zF9 zN9 zl9; (try dsimp only); (try k_fold))
  k_with "call ref" => (k_here; (with_reducible show wpAny _ _ (call (Value.ref 71) _) _ _ _); k_dflt (refine' useR ?k1 ?k2 ?k3 ?k4 ?k5 ?kK (rsub_ok _ _ _ _ _ _ _ _ _ _ _ _ ?h0 ?h1 ?h2 ?h3) ?kd ?ku ?_); (case k1 => k_asm); (case k2 => k_asm); (case k3 => k_asm); (case k4 => k_asm); (case k5 => k_asm); (case kK => first | exact rfl | assumption); (case h0 => first | exact Src.up (by assumption) (by intro p hp; kcf_m) | exact Src.here (by kcf_m) | (refine' Src.int2 ?s1 ?s2; (case s1 => kcf_m); (case s2 => exact rfl))); (case h1 => first | exact Src.up (by assumption) (by intro p hp; kcf_m) | exact Src.here (by kcf_m) | (refine' Src.int2 ?s1 ?s2; (case s1 => kcf_m); (case s2 => exact rfl))); (case h2 => k_extra "small"); (case h3 => k_extra "small"); (case kd => first | exact room_up (by assumption) (by decide) | exact Nat.le_of_ble_eq_true rfl | ktr_room); (case ku => first | exact units_up (by assumption) (by decide) | exact Nat.le_of_ble_eq_true rfl | ktr_units); intro zD9 zt9 zu9 zn9 zh9 ztk9 zF9 zN9 zl9; (try dsimp only); (try k_fold))
  k_with "call ref" => (k_here; (with_reducible show wpAny _ _ (call (Value.ref 78) _) _ _ _); k_dflt (refine' useR ?k1 ?k2 ?k3 ?k4 ?k5 ?kK (rmul_ok _ _ _ _ _ _ _ _ _ _ _ _ ?h0 ?h1 ?h2 ?h3) ?kd ?ku ?_); (case k1 => k_asm); (case k2 => k_asm); (case k3 => k_asm); (case k4 => k_asm); (case k5 => k_asm); (case kK => first | exact rfl | assumption); (case h0 => first | exact Src.up (by assumption) (by intro p hp; kcf_m) | exact Src.here (by kcf_m) | (refine' Src.int2 ?s1 ?s2; (case s1 => kcf_m); (case s2 => exact rfl))); (case h1 => first | exact Src.up (by assumption) (by intro p hp; kcf_m) | exact Src.here (by kcf_m) | (refine' Src.int2 ?s1 ?s2; (case s1 => kcf_m); (case s2 => exact rfl))); (case h2 => k_extra "small"); (case h3 => k_extra "small"); (case kd => first | exact room_up (by assumption) (by decide) | exact Nat.le_of_ble_eq_true rfl | ktr_room); (case ku => first | exact units_up (by assumption) (by decide) | exact Nat.le_of_ble_eq_true rfl | ktr_units); intro zD9 zt9 zu9 zn9 zh9 ztk9 zF9 zN9 zl9; (try dsimp only); (try k_fold))
  k_with "call ref" => (k_here; (with_reducible show wpAny _ _ (call (Value.ref 85) _) _ _ _); k_dflt (refine' useR ?k1 ?k2 ?k3 ?k4 ?k5 ?kK (rdiv_ok _ _ _ _ _ _ _ _ _ _ _ _ ?h0 ?h1 ?h2 ?h3 ?h4) ?kd ?ku ?_); (case k1 => k_asm); (case k2 => k_asm); (case k3 => k_asm); (case k4 => k_asm); (case k5 => k_asm); (case kK => first | exact rfl | assumption); (case h0 => first | exact Src.up (by assumption) (by intro p hp; kcf_m) | exact Src.here (by kcf_m) | (refine' Src.int2 ?s1 ?s2; (case s1 => kcf_m); (case s2 => exact rfl))); (case h1 => first | exact Src.up (by assumption) (by intro p hp; kcf_m) | exact Src.here (by kcf_m) | (refine' Src.int2 ?s1 ?s2; (case s1 => kcf_m); (case s2 => exact rfl))); (case h2 => k_extra "small"); (case h3 => k_extra "small"); (case h4 => k_extra "nonzero"); (case kd => first | exact room_up (by assumption) (by decide) | exact Nat.le_of_ble_eq_true rfl | ktr_room); (case ku => first | exact units_up (by assumption) (by decide) | exact Nat.le_of_ble_eq_true rfl | ktr_units); intro zD9 zt9 zu9 zn9 zh9 ztk9 zF9 zN9 zl9; (try dsimp only); (try k_fold))
  k_with "call ref" => (k_here; (with_reducible show wpAny _ _ (call (Value.ref 92) _) _ _ _); k_dflt (refine' useV ?k1 ?k2 ?k3 ?k4 ?k5 ?kK (is_vast_ok _ _ _ _ _ _ _ ?h0 ?h1) ?kd ?ku ?_); (case k1 => k_asm); (case k2 => k_asm); (case k3 => k_asm); (case k4 => k_asm); (case k5 => k_asm); (case kK => first | exact rfl | assumption); (case h0 => first | exact Src.up (by assumption) (by intro p hp; kcf_m) | exact Src.here (by kcf_m) | (refine' Src.int2 ?s1 ?s2; (case s1 => kcf_m); (case s2 => exact rfl))); (case h1 => assumption); (case kd => first | exact room_up (by assumption) (by decide) | exact Nat.le_of_ble_eq_true rfl | ktr_room); (case ku => first | exact units_up (by assumption) (by decide) | exact Nat.le_of_ble_eq_true rfl | ktr_units); intro zh9 ztk9 zF9 zN9; (try dsimp only); (try k_fold))
  k_with "call ref" => (k_here; (with_reducible show wpAny _ _ (call (Value.ref 99) _) _ _ _); k_dflt (refine' useZ ?k1 ?k2 ?k3 ?k4 ?k5 ?kK (rcompare_ok _ _ _ _ _ _ _ _ _ _ _ ?h0 ?h1 ?h2) ?kd ?ku ?_); (case k1 => k_asm); (case k2 => k_asm); (case k3 => k_asm); (case k4 => k_asm); (case k5 => k_asm); (case kK => first | exact rfl | assumption); (case h0 => first | exact Src.up (by assumption) (by intro p hp; kcf_m) | exact Src.here (by kcf_m) | (refine' Src.int2 ?s1 ?s2; (case s1 => kcf_m); (case s2 => exact rfl))); (case h1 => first | exact Src.up (by assumption) (by intro p hp; kcf_m) | exact Src.here (by kcf_m) | (refine' Src.int2 ?s1 ?s2; (case s1 => kcf_m); (case s2 => exact rfl))); (case h2 => k_extra "small"); (case kd => first | exact room_up (by assumption) (by decide) | exact Nat.le_of_ble_eq_true rfl | ktr_room); (case ku => first | exact units_up (by assumption) (by decide) | exact Nat.le_of_ble_eq_true rfl | ktr_units); intro zt9 zh9 ztk9 zF9 zN9; (try dsimp only); (try k_fold))
  k_with "call ref" => (k_here; (with_reducible show wpAny _ _ (call (Value.ref 106) _) _ _ _); k_dflt (refine' useV ?k1 ?k2 ?k3 ?k4 ?k5 ?kK (let_ok _ _ _ _ _ _ _ ?h0 ?h1) ?kd ?ku ?_); (case k1 => k_asm); (case k2 => k_asm); (case k3 => k_asm); (case k4 => k_asm); (case k5 => k_asm); (case kK => first | exact rfl | assumption); (case h0 => first | exact Src.up (by assumption) (by intro p hp; kcf_m) | exact Src.here (by kcf_m) | (refine' Src.int2 ?s1 ?s2; (case s1 => kcf_m); (case s2 => exact rfl))); (case h1 => k_extra "small"); (case kd => first | exact room_up (by assumption) (by decide) | exact Nat.le_of_ble_eq_true rfl | ktr_room); (case ku => first | exact units_up (by assumption) (by decide) | exact Nat.le_of_ble_eq_true rfl | ktr_units); intro zh9 ztk9 zF9 zN9; (try dsimp only); (try k_fold))
  k_with "subscriptTail" => (k_here; (with_reducible show wpAny _ _ (subscriptTail _ _ (Value.ref _) (Value.int _ _)) _ _ _); k_dflt (refine' list_item ?k1 ?k2 ?ks ?k3 ?k4 ?k5 ?k6 ?_; (case k1 => k_asm); (case k2 => assumption); (case ks => intro p hp; kcf_m); (case k3 => assumption); (case k4 => omega); (case k5 => omega); (case k6 => omega); intro zA9 zt9 zu9 zc9 zS9; (try dsimp only)))
  k_with "compareOp NotEq ref ref" => (k_here; k_dflt (refine' rat_ne ?k1 ?k2 ?k3 ?k4 ?k5 ?k6 ?_; (case k1 => k_asm); (case k2 => k_asm); (case k3 => k_asm); (case k4 => first | exact Src.up (by assumption) (by intro p hp; kcf_m) | exact Src.here (by kcf_m) | (refine' Src.int2 ?s1 ?s2; (case s1 => kcf_m); (case s2 => exact rfl))); (case k5 => first | exact Src.up (by assumption) (by intro p hp; kcf_m) | exact Src.here (by kcf_m) | (refine' Src.int2 ?s1 ?s2; (case s1 => kcf_m); (case s2 => exact rfl))); (case k6 => ktr_units)))
  k_with "compareOp Eq ref ref" => (k_here; k_dflt (refine' rat_eq ?k1 ?k2 ?k3 ?k4 ?k5 ?k6 ?_; (case k1 => k_asm); (case k2 => k_asm); (case k3 => k_asm); (case k4 => first | exact Src.up (by assumption) (by intro p hp; kcf_m) | exact Src.here (by kcf_m) | (refine' Src.int2 ?s1 ?s2; (case s1 => kcf_m); (case s2 => exact rfl))); (case k5 => first | exact Src.up (by assumption) (by intro p hp; kcf_m) | exact Src.here (by kcf_m) | (refine' Src.int2 ?s1 ?s2; (case s1 => kcf_m); (case s2 => exact rfl))); (case k6 => ktr_units)))
  k_with "call ref" => (k_here; (with_reducible show wpAny _ _ (call (Value.ref 123) _) _ _ _); k_dflt (refine' useQ ?k1 ?k2 ?k3 ?k4 ?k5 ?kK (mixed_ok _ _ _ _ _ _ _ _ _ _ _ _ _ _ ?h0 ?h1 ?h2 ?h3 ?h4 ?h5 ?h6 ?h7 ?h8 ?h9) ?kd ?ku ?_); (case k1 => k_asm); (case k2 => k_asm); (case k3 => k_asm); (case k4 => k_asm); (case k5 => k_asm); (case kK => first | exact rfl | assumption); (case h0 => exact mem_up (by assumption) (by intro p hp; kcf_m)); (case h1 => exact LV.up (by assumption) (by intro p hp; kcf_m)); (case h2 => exact mem_up (by assumption) (by intro p hp; kcf_m)); (case h3 => exact LV.up (by assumption) (by intro p hp; kcf_m)); (case h4 => assumption); (case h5 => assumption); (case h6 => assumption); (case h7 => omega); (case h8 => omega); (case h9 => assumption); (case kd => first | exact room_up (by assumption) (by decide) | exact Nat.le_of_ble_eq_true rfl | ktr_room); (case ku => first | exact units_up (by assumption) (by decide) | exact Nat.le_of_ble_eq_true rfl | ktr_units); intro zadd9 zD9 zt9 zu9 zn9 zh9 ztk9 zF9 zN9 zf9 zS9; (try dsimp only); (try k_fold))
  k_with "my enterC" => (refine' code_defC ?k1 ?k2 ?k3 ?k4 ?k5 ?kA ?kF ?kK ?k6 ?k7 ?k8 ?k9 ?kB ?kD ?_ ?c2 ?c3 ?c4; (case kA => exact rfl); (case kF => exact rfl); (case kK => assumption); (case k1 => k_asm); (case k2 => k_asm); (case k3 => k_asm); (case k4 => k_asm); (case k5 => k_asm); (case k6 => k_is); (case k7 => k_is); (case k8 => ktr_room); (case k9 => exact BindsTo.of_eq rfl); (case kB => exact rfl); (case kD => decide +kernel); (case c2 => exact rfl); (case c3 => exact rfl); (case c4 => exact rfl); k_whole; intro zg' zL' zh' ztk' zcells' zFG' zF' zN' zY' zB' zX' zT' zl1; k_cells zY'; (try simp only [List.cons_append, List.nil_append] at zN'); (try dsimp only); (try k_lift zB'); (try k_fold))
  k_with "call builtin:len" => (k_here; (with_reducible show wpAny _ _ (call (Value.builtin "len") [Value.ref _]) _ _ _); k_dflt (refine' list_len ?k1 ?k2 ?ks ?k3 ?k4 ?_; (case k1 => k_asm); (case k2 => assumption); (case ks => intro p hp; kcf_m); (case k3 => assumption); (case k4 => omega)))
  k_with "eval ListComp" => (k_here; k_dflt (refine LCg.ListComp_U (F₀ := by k_asm) (by with_unfolding_all rfl) (by decide) (by rfl) (by decide) (by rfl) ?_))
  k_with "eval Name" => (k_here; (with_reducible show wpAny _ _ (eval (Expr.Name _ _) (compEnvC _ _ _ _)) _ _ _); (with_reducible rename News _ _ _ _ => kN); k_dflt (refine kcf_cell kN (by rfl) (mem_up (by assumption) (by intro p hp; kcf_m)) (by assumption) ?_))
  k_with "newTuple" => (k_here; k_dflt (refine' my_tuple ?k1 ?k2 ?_ ?k3; (case k1 => k_asm); (case k2 => k_asm); (case k3 => (simp only [PySem.sizeLine_eq, List.length_cons, List.length_nil]; omega))); intro zD9 zh9 zF9 zN9 zl9; (try dsimp only))
  k_with "binaryOp Add ref ref" => (k_here; (with_reducible show wpAny _ _ (binaryOp _ (Value.ref _) (Value.ref _)) _ _ _); k_dflt (refine' list_add ?k1 ?k2 ?k3 ?k4 ?k5 ?_; (case k1 => k_asm); (case k2 => k_asm); (case k3 => kcf_m); (case k4 => kcf_m); (case k5 => (simp only [PySem.sizeLine_eq, List.length_cons, List.length_nil]; omega))); intro zD9 zh9 zF9 zN9 zl9; (try dsimp only))
  k_with "newList" => (k_here; k_dflt (refine' newList_K ?k1 ?k2 ?_; (case k1 => k_asm); (case k2 => k_asm); k_whole); intro zl9 zh9 zF9 zN9 zq9; (replace zq9 := ne_of_lts zq9); (try dsimp only))
  k_with "call ref" => (k_here; (with_reducible show wpAny _ _ (call (Value.ref 128) _) _ _ _); k_dflt (refine' useL ?k1 ?k2 ?k3 ?k4 ?k5 ?kK (smul_ok _ _ _ _ _ _ _ _ _ _ _ _ ?h0 ?h1 ?h2 ?h3 ?h4 ?h5 ?h6) ?kd ?ku ?_); (case k1 => k_asm); (case k2 => k_asm); (case k3 => k_asm); (case k4 => k_asm); (case k5 => k_asm); (case kK => first | exact rfl | assumption); (case h0 => exact mem_up (by assumption) (by intro p hp; kcf_m)); (case h1 => exact LV.up (by assumption) (by intro p hp; kcf_m)); (case h2 => exact mem_up (by assumption) (by intro p hp; kcf_m)); (case h3 => exact LV.up (by assumption) (by intro p hp; kcf_m)); (case h4 => omega); (case h5 => omega); (case h6 => assumption); (case kd => first | exact room_up (by assumption) (by decide) | exact Nat.le_of_ble_eq_true rfl | ktr_room); (case ku => first | exact units_up (by assumption) (by decide) | exact Nat.le_of_ble_eq_true rfl | ktr_units); intro zD9 zvs9 zc9 zadd9 zh9 ztk9 zF9 zN9 zm9 zV9 zf9; (try dsimp only); (try k_fold))
  k_with "getMethod ref" => (k_here; (with_reducible show wpAny _ _ (getMethod (Value.ref _) (Str.ofString "append") _) _ _ _); k_dflt (refine' my_method ?kN ?k1 ?k2 ?_; (case kN => k_asm); (case k1 => assumption); (case k2 => intro p hp; kcf_m)))
  k_with "call builtin:list.append" => (k_here; (with_reducible show wpAny _ _ (call (Value.builtin _) [Value.ref _, Value.ref _]) _ _ _); k_dflt (k_extra "my append"))
  k_with "call ref" => (k_here; (with_reducible show wpAny _ _ (call (Value.ref 152) _) _ _ _); k_dflt (refine' useV ?k1 ?k2 ?k3 ?k4 ?k5 ?kK (need_begin_ok _ _ _ _ _ _ _ _ _ _ _ ?h0 ?h1 ?h2 ?h3 ?h4) ?kd ?ku ?_); (case k1 => k_asm); (case k2 => k_asm); (case k3 => k_asm); (case k4 => k_asm); (case k5 => k_asm); (case kK => first | exact rfl | assumption); (case h0 => exact mem_up (by assumption) (by intro p hp; kcf_m)); (case h1 => exact LV.up (by assumption) (by intro p hp; kcf_m)); (case h2 => first | exact Src.up (by assumption) (by intro p hp; kcf_m) | exact Src.here (by kcf_m) | (refine' Src.int2 ?s1 ?s2; (case s1 => kcf_m); (case s2 => exact rfl))); (case h3 => omega); (case h4 => k_extra "small"); (case kd => first | exact room_up (by assumption) (by decide) | exact Nat.le_of_ble_eq_true rfl | ktr_room); (case ku => first | exact units_up (by assumption) (by decide) | exact Nat.le_of_ble_eq_true rfl | ktr_units); intro zh9 ztk9 zF9 zN9; (try dsimp only); (try k_fold))
  intro p loose mean mg mb dp un gd cn cs f ccd cl outer A₀ base h₀ L m s Q E Bl F X N T hk hd hu hret
  refine wpAny_call ?_
  k_dflt cell_enter
  k_with "pyIter ref" => skip
  k_with "small" => assumption
  k_with "small" => exact ok2' (by omega)
  k_with "nonzero" => exact int_ne (by omega)
  k_with "my append" => (
    (rename Fr _ _ _ _ => aF); (rename News _ _ _ _ => aN);
    (refine' list_append2 (add ++ news ++ own) aF aN (by kcf_m) (fun p hp => ⟨by kcf_m, hne p hp⟩) (by rw [hvl, PySem.sizeLine_eq]; omega) ?_);
    intro h9 F9 N9)
  k_with "my append" => (
    (rename Fr _ _ _ _ => aF); (rename News _ _ _ _ => aN); (rename (∀ p : Addr × Obj, p ∈ _ → p.1 ≠ _) => aL);
    (refine' list_append3 (q := expT a e i i / ((i : Int) : Rat)) (add ++ news ++ own) aF aN (by kcf_m) (by kcf_m) (fun e9 => aL (lf, listOf vs.toArray kc) (by kcf_m) e9.symm) (fun p hp => ⟨by kcf_m, hne p hp⟩) (by rw [hvl, PySem.sizeLine_eq]; omega) ?_);
    intro h9 F9 N9)
  k_with "my loop" => (
    (with_reducible show wpAny _ _ _ (fun it s₂ => LoopAtV _ _ _ _ _ (Str.ofString "spot") _ _ _ it s₂) _ _);
    (rename Fr _ _ _ _ => lF); (rename News _ _ _ _ => lN); (rename IsRange _ _ _ _ _ _ _ _ => rgX);
    (with_unfolding_all refine' range_tot (n := i) (Str.ofString "total") (expT a e i) [] 49 (by rfl) (by rfl) (by exact rgX) (small_one (by omega) (by omega) (by omega) (by omega)) (by rw [rangeSize_nat]; omega) lF lN (by rfl) ⟨[], _, _, _, rfl, fresh_nil, hR0 w _⟩ ?_ ?_);
    focus (intro j c2 t2 u2 add2 t9 u9 q9 h2 tk2 own2 hj hoff2 fr2 S9 F2 N2; (have ok9 := ok3 j hj); (have o1 := ok9.1); (have o2 := ok9.2.1); (have o3 := ok9.2.2.1); (have o4 := ok9.2.2.2.1); (have o5 := ok9.2.2.2.2); (have hlf : (lf, listOf vs.toArray kc) ∈ (lf, listOf vs.toArray kc) :: (add ++ news ++ own) := .head _); (have sk : Sm ((1 + (j : Int) : Int) : Rat) := sm_int (by omega)); clear lF lN rgX);
    rotate_left;
    focus (intro c2 u2 add2 t9 u9 q9 h2 tk2 fr2 S9 F2 N2; clear lF lN rgX);
    rotate_right;
    all_goals (try k_fold))
  k_with "my loop" => (
    (with_reducible show wpAny _ _ _ (fun it s₂ => LoopAtV _ _ _ _ _ (Str.ofString "at") _ _ _ it s₂) _ _);
    (rename Fr _ _ _ _ => lF); (rename News _ _ _ _ => lN); (rename IsRange _ _ _ _ _ _ _ _ => rgX);
    (with_unfolding_all refine' range_lst (n := n) (B := news) (Str.ofString "found") e [Str.ofString "total", Str.ofString "spot"] _ (by rfl) (by rfl) (by exact rgX) (small_one (by omega) (by omega) (by omega) (by omega)) (by rw [rangeSize_nat]; omega) lF lN (by rfl) ⟨[], 0, [], rfl, fresh_nil, (by assumption), LV.nil⟩ ?_ ?_);
    focus (intro i lf t u vs kc add h tk own hi hoff fr hnl hv F1 N1; (have ok9 := ok i hi); (have ok1 := ok9.1); (have ok2 := ok9.2.1); (have ok3 := ok9.2.2); (have hvl := hv.1); (have hne := ne_own hnl hoff); (have si : Sm ((i : Int) : Rat) := sm_int (by omega)); (have ok2' : i ≠ 0 → Sm (expT a e i i / ((i : Int) : Rat)) := (fun hi0 => by have h9 := he i hi; rw [if_neg hi0] at h9; rw [← h9]; exact ok2)); clear lF lN rgX);
    rotate_left;
    focus (intro lf u vs kc add h tk fr hnl hv F1 N1; clear lF lN rgX);
    rotate_right;
    all_goals (try k_fold))
  k_steps
  · rename News _ _ _ _ => kN
    have f4 := fresh4 kN (by assumption) (by assumption) (by assumption) (by assumption)
    exact my_end _ ([_, _, _, _] ++ (add2 ++ ((lf, listOf vs.toArray kc) :: (add ++ news ++ own)))) (by assumption) kN (by kst_all) (by kst_same) ⟨_ :: _ :: _ :: _ :: add2, _, _, _, rfl, Fresh.append fr2 (fresh_sub f4 fun p hp => List.mem_append_left _ hp), Src.here (.head _)⟩ (in_own [_, _, _, _]) (own_in [_, _, _, _]) (own_ext hoff2 f4)
  · have hi0 : i = 0 := by omega
    have ei : e i = 1 := by rw [he i hi, if_pos hi0]
    exact my_end lf ((lf, listOf (vs ++ [Value.ref 50]).toArray (kc + 1)) :: (add ++ news)) F9 N9 (by kst_all) (by kst_same) ⟨vs ++ [Value.ref 50], kc + 1, add, rfl, fr, hnl, hv.snoc (by rw [ei]; exact hR1 w _)⟩ in_cons (fun p hp => .tail _ (List.mem_append_right _ hp)) hoff
  · have ei : e i = expT a e i i / ((i : Int) : Rat) := by rw [he i hi, if_neg (by omega)]
    exact my_end lf ((lf, listOf (vs ++ [Value.ref _]).toArray (kc + 1)) :: (_, rObj (expT a e i i / ((i : Int) : Rat)) _ _ _) :: (add ++ news)) F9 N9 (by kst_all) (by kst_same)
      ⟨vs ++ [Value.ref _], kc + 1, (_, rObj (expT a e i i / ((i : Int) : Rat)) _ _ _) :: add, rfl, Fresh.cons fr (fun p hp => aL p (by kcf_m)), ne_cons hnl (fun e9 => aL (lf, listOf vs.toArray kc) (by kcf_m) e9.symm), (hv.up fun p hp => .tail _ hp).snoc (by rw [ei]; exact Src.here (.head _))⟩
      in_cons2 (fun p hp => .tail _ (.tail _ (List.mem_append_right _ hp))) (own_cons hoff fun p hp => aL p (by kcf_m))
  · rename News _ _ _ _ => kN
    exact hret _ _ _ _ (by assumption) kN ⟨(lf, _) :: add, rfl, Fresh.cons fr fun p hp => hnl p (List.mem_append_right _ hp)⟩ ⟨lf, vs, kc, rfl, .head _, hv.up fun p hp => .tail _ hp⟩
/-- the factor of a turn -/
noncomputable def powF (r : Rat) (at' : Int) (j : Nat) : Rat := r * ((1 + (j : Int) : Int) : Rat) - ((at' - (1 + (j : Int)) : Int) : Rat)
/-- the sum under the power's next coefficient, so far -/
noncomputable def powT (a e : Int → Rat) (r : Rat) (at' : Int) : Nat → Rat
  | 0 => 0
  | j + 1 => powT a e r at' j + powF r at' j * a (1 + (j : Int)) * e (at' - (1 + (j : Int)))
theorem spower_ok (w : World) (la P : Addr) (va : List Value) (ca n : Nat) (a e : Int → Rat) (r : Rat) (tr ur : MTok) (nr : Nat) (news : Led) (hla : (la, listOf va.toArray ca) ∈ news) (hva : LV w news va n a) (hP : Src w news P (rObj r tr ur nr)) (sr : Sm r)
    (hn : (n : Int) < 2 ^ 20) (ha0 : a 0 = 1) (he : ∀ i : Nat, i < n → e i = if i = 0 then 1 else powT a e r i i / ((i : Int) : Rat))
    (ok : ∀ i : Nat, i < n → Sm (powT a e r i i) ∧ Sm (e i) ∧ ∀ j : Nat, j < i → Sm (r * ((1 + (j : Int) : Int) : Rat)) ∧ Sm (powF r i j) ∧ Sm (a (1 + j)) ∧ Sm (powF r i j * a (1 + j)) ∧ Sm (e (i - (1 + j))) ∧ Sm (powF r i j * a (1 + j) * e (i - (1 + j))) ∧ Sm (powT a e r i j)) :
    Cl w 194 [.ref la, .ref P] 5 news (NewL w n e) := by
  obtain ⟨t0, u0, c0, hR0⟩ := R0_src
  obtain ⟨t1, u1, c1, hR1⟩ := R1_src
  have hz : Src w news 50 (rObj (a 0) t1 u1 c1) := by rw [ha0]; exact hR1 w news
  have hs0 : Sm (a 0) := by rw [ha0]; exact ⟨by decide, by decide⟩
  w_top off
  unfold Cl
  k_fill
  k_with_none
  k_with "call ref" => (k_here; (with_reducible show wpAny _ _ (call (Value.ref 41) _) _ _ _); k_dflt (refine' useI ?k1 ?k2 ?k3 ?k4 ?k5 ?kK (gcd_ok _ _ _ _ _ _ ) ?kd ?ku ?_); (case k1 => k_asm); (case k2 => k_asm); (case k3 => k_asm); (case k4 => k_asm); (case k5 => k_asm); (case kK => first | exact rfl | assumption); (case kd => first | exact room_up (by assumption) (by decide) | exact Nat.le_of_ble_eq_true rfl | ktr_room); (case ku => first | exact units_up (by assumption) (by decide) | exact Nat.le_of_ble_eq_true rfl | ktr_units); intro zt9 zh9 ztk9 zF9 zN9; (try dsimp only); (try k_fold))
  k_with "call ref" => ((with_reducible show wpAny _ _ (call (Value.ref 31) _) _ _ _); exfalso; first | contradiction | omega)
  k_with "binaryOp FloorDiv int int" => (k_here; refine floordiv_int ?k1 ?_ (Or.inl (PyProof.noPylong_of_log2 ?k2)); (case k1 => first | assumption | omega); (case k2 => assumption))
  k_with "call ref" => (k_here; (with_reducible show wpAny _ _ (call (Value.ref 57) _) _ _ _); k_dflt (refine' useR ?k1 ?k2 ?k3 ?k4 ?k5 ?kK (rat_ok _ _ _ _ _ _ ?h0 ?h1) ?kd ?ku ?_); (case k1 => k_asm); (case k2 => k_asm); (case k3 => k_asm); (case k4 => k_asm); (case k5 => k_asm); (case kK => first | exact rfl | assumption); (case h0 => assumption); (case h1 => assumption); (case kd => first | exact room_up (by assumption) (by decide) | exact Nat.le_of_ble_eq_true rfl | ktr_room); (case ku => first | exact units_up (by assumption) (by decide) | exact Nat.le_of_ble_eq_true rfl | ktr_units); intro zD9 zt9 zu9 zn9 zh9 ztk9 zF9 zN9 zl9; (try dsimp only); (try k_fold))
  k_with "subscriptTail" => (k_here; (with_reducible show wpAny _ _ (subscriptTail _ _ (Value.ref _) (Value.int 0 _)) _ _ _); k_dflt (refine' rat_item0 ?k1 ?k2 ?k3 ?k4 ?_; (case k1 => k_asm); (case k2 => k_asm); (case k3 => k_asm); (case k4 => first | exact Src.up (by assumption) (by intro p hp; kcf_m) | exact Src.here (by kcf_m))))
  k_with "subscriptTail" => (k_here; (with_reducible show wpAny _ _ (subscriptTail _ _ (Value.ref _) (Value.int 1 _)) _ _ _); k_dflt (refine' rat_item1 ?k1 ?k2 ?k3 ?k4 ?_; (case k1 => k_asm); (case k2 => k_asm); (case k3 => k_asm); (case k4 => first | exact Src.up (by assumption) (by intro p hp; kcf_m) | exact Src.here (by kcf_m))))
  k_with "call ref" => (k_here; (with_reducible show wpAny _ _ (call (Value.ref 64) _) _ _ _); k_dflt (refine' useR ?k1 ?k2 ?k3 ?k4 ?k5 ?kK (radd_ok _ _ _ _ _ _ _ _ _ _ _ _ ?h0 ?h1 ?h2 ?h3) ?kd ?ku ?_); (case k1 => k_asm); (case k2 => k_asm); (case k3 => k_asm); (case k4 => k_asm); (case k5 => k_asm); (case kK => first | exact rfl | assumption); (case h0 => first | exact Src.up (by assumption) (by intro p hp; kcf_m) | exact Src.here (by kcf_m) | (refine' Src.int2 ?s1 ?s2; (case s1 => kcf_m); (case s2 => exact rfl))); (case h1 => first | exact Src.up (by assumption) (by intro p hp; kcf_m) | exact Src.here (by kcf_m) | (refine' Src.int2 ?s1 ?s2; (case s1 => kcf_m); (case s2 => exact rfl))); (case h2 => k_extra "small"); (case h3 => k_extra "small"); (case kd => first | exact room_up (by assumption) (by decide) | exact Nat.le_of_ble_eq_true rfl | ktr_room); (case ku => first | exact units_up (by assumption) (by decide) | exact Nat.le_of_ble_eq_true rfl | ktr_units); intro zD9 zt9 zu9 zn9 zh9 ztk9 zF9 zN9 zl9; (try dsimp only); (try k_fold))
  k_with "call ref" => (k_here; (with_reducible show wpAny _ _ (call (Value.ref 71) _) _ _ _); k_dflt (refine' useR ?k1 ?k2 ?k3 ?k4 ?k5 ?kK (rsub_ok _ _ _ _ _ _ _ _ _ _ _ _ ?h0 ?h1 ?h2 ?h3) ?kd ?ku ?_); (case k1 => k_asm); (case k2 => k_asm); (case k3 => k_asm); (case k4 => k_asm); (case k5 => k_asm); (case kK => first | exact rfl | assumption); (case h0 => first | exact Src.up (by assumption) (by intro p hp; kcf_m) | exact Src.here (by kcf_m) | (refine' Src.int2 ?s1 ?s2; (case s1 => kcf_m); (case s2 => exact rfl))); (case h1 => first | exact Src.up (by assumption) (by intro p hp; kcf_m) | exact Src.here (by kcf_m) | (refine' Src.int2 ?s1 ?s2; (case s1 => kcf_m); (case s2 => exact rfl))); (case h2 => k_extra "small"); (case h3 => k_extra "small"); (case kd => first | exact room_up (by assumption) (by decide) | exact Nat.le_of_ble_eq_true rfl | ktr_room); (case ku => first | exact units_up (by assumption) (by decide) | exact Nat.le_of_ble_eq_true rfl | ktr_units); intro zD9 zt9 zu9 zn9 zh9 ztk9 zF9 zN9 zl9; (try dsimp only); (try k_fold))
  k_with "call ref" => (k_here; (with_reducible show wpAny _ _ (call (Value.ref 78) _) _ _ _); k_dflt (refine' useR ?k1 ?k2 ?k3 ?k4 ?k5 ?kK (rmul_ok _ _ _ _ _ _ _ _ _ _ _ _ ?h0 ?h1 ?h2 ?h3) ?kd ?ku ?_); (case k1 => k_asm); (case k2 => k_asm); (case k3 => k_asm); (case k4 => k_asm); (case k5 => k_asm); (case kK => first | exact rfl | assumption); (case h0 => first | exact Src.up (by assumption) (by intro p hp; kcf_m) | exact Src.here (by kcf_m) | (refine' Src.int2 ?s1 ?s2; (case s1 => kcf_m); (case s2 => exact rfl))); (case h1 => first | exact Src.up (by assumption) (by intro p hp; kcf_m) | exact Src.here (by kcf_m) | (refine' Src.int2 ?s1 ?s2; (case s1 => kcf_m); (case s2 => exact rfl))); (case h2 => k_extra "small"); (case h3 => k_extra "small"); (case kd => first | exact room_up (by assumption) (by decide) | exact Nat.le_of_ble_eq_true rfl | ktr_room); (case ku => first | exact units_up (by assumption) (by decide) | exact Nat.le_of_ble_eq_true rfl | ktr_units); intro zD9 zt9 zu9 zn9 zh9 ztk9 zF9 zN9 zl9; (try dsimp only); (try k_fold))
  k_with "call ref" => (k_here; (with_reducible show wpAny _ _ (call (Value.ref 85) _) _ _ _); k_dflt (refine' useR ?k1 ?k2 ?k3 ?k4 ?k5 ?kK (rdiv_ok _ _ _ _ _ _ _ _ _ _ _ _ ?h0 ?h1 ?h2 ?h3 ?h4) ?kd ?ku ?_); (case k1 => k_asm); (case k2 => k_asm); (case k3 => k_asm); (case k4 => k_asm); (case k5 => k_asm); (case kK => first | exact rfl | assumption); (case h0 => first | exact Src.up (by assumption) (by intro p hp; kcf_m) | exact Src.here (by kcf_m) | (refine' Src.int2 ?s1 ?s2; (case s1 => kcf_m); (case s2 => exact rfl))); (case h1 => first | exact Src.up (by assumption) (by intro p hp; kcf_m) | exact Src.here (by kcf_m) | (refine' Src.int2 ?s1 ?s2; (case s1 => kcf_m); (case s2 => exact rfl))); (case h2 => k_extra "small"); (case h3 => k_extra "small"); (case h4 => k_extra "nonzero"); (case kd => first | exact room_up (by assumption) (by decide) | exact Nat.le_of_ble_eq_true rfl | ktr_room); (case ku => first | exact units_up (by assumption) (by decide) | exact Nat.le_of_ble_eq_true rfl | ktr_units); intro zD9 zt9 zu9 zn9 zh9 ztk9 zF9 zN9 zl9; (try dsimp only); (try k_fold))
  k_with "call ref" => (k_here; (with_reducible show wpAny _ _ (call (Value.ref 92) _) _ _ _); k_dflt (refine' useV ?k1 ?k2 ?k3 ?k4 ?k5 ?kK (is_vast_ok _ _ _ _ _ _ _ ?h0 ?h1) ?kd ?ku ?_); (case k1 => k_asm); (case k2 => k_asm); (case k3 => k_asm); (case k4 => k_asm); (case k5 => k_asm); (case kK => first | exact rfl | assumption); (case h0 => first | exact Src.up (by assumption) (by intro p hp; kcf_m) | exact Src.here (by kcf_m) | (refine' Src.int2 ?s1 ?s2; (case s1 => kcf_m); (case s2 => exact rfl))); (case h1 => assumption); (case kd => first | exact room_up (by assumption) (by decide) | exact Nat.le_of_ble_eq_true rfl | ktr_room); (case ku => first | exact units_up (by assumption) (by decide) | exact Nat.le_of_ble_eq_true rfl | ktr_units); intro zh9 ztk9 zF9 zN9; (try dsimp only); (try k_fold))
  k_with "call ref" => (k_here; (with_reducible show wpAny _ _ (call (Value.ref 99) _) _ _ _); k_dflt (refine' useZ ?k1 ?k2 ?k3 ?k4 ?k5 ?kK (rcompare_ok _ _ _ _ _ _ _ _ _ _ _ ?h0 ?h1 ?h2) ?kd ?ku ?_); (case k1 => k_asm); (case k2 => k_asm); (case k3 => k_asm); (case k4 => k_asm); (case k5 => k_asm); (case kK => first | exact rfl | assumption); (case h0 => first | exact Src.up (by assumption) (by intro p hp; kcf_m) | exact Src.here (by kcf_m) | (refine' Src.int2 ?s1 ?s2; (case s1 => kcf_m); (case s2 => exact rfl))); (case h1 => first | exact Src.up (by assumption) (by intro p hp; kcf_m) | exact Src.here (by kcf_m) | (refine' Src.int2 ?s1 ?s2; (case s1 => kcf_m); (case s2 => exact rfl))); (case h2 => k_extra "small"); (case kd => first | exact room_up (by assumption) (by decide) | exact Nat.le_of_ble_eq_true rfl | ktr_room); (case ku => first | exact units_up (by assumption) (by decide) | exact Nat.le_of_ble_eq_true rfl | ktr_units); intro zt9 zh9 ztk9 zF9 zN9; (try dsimp only); (try k_fold))
  k_with "call ref" => (k_here; (with_reducible show wpAny _ _ (call (Value.ref 106) _) _ _ _); k_dflt (refine' useV ?k1 ?k2 ?k3 ?k4 ?k5 ?kK (let_ok _ _ _ _ _ _ _ ?h0 ?h1) ?kd ?ku ?_); (case k1 => k_asm); (case k2 => k_asm); (case k3 => k_asm); (case k4 => k_asm); (case k5 => k_asm); (case kK => first | exact rfl | assumption); (case h0 => first | exact Src.up (by assumption) (by intro p hp; kcf_m) | exact Src.here (by kcf_m) | (refine' Src.int2 ?s1 ?s2; (case s1 => kcf_m); (case s2 => exact rfl))); (case h1 => k_extra "small"); (case kd => first | exact room_up (by assumption) (by decide) | exact Nat.le_of_ble_eq_true rfl | ktr_room); (case ku => first | exact units_up (by assumption) (by decide) | exact Nat.le_of_ble_eq_true rfl | ktr_units); intro zh9 ztk9 zF9 zN9; (try dsimp only); (try k_fold))
  k_with "subscriptTail" => (k_here; (with_reducible show wpAny _ _ (subscriptTail _ _ (Value.ref _) (Value.int _ _)) _ _ _); k_dflt (refine' list_item ?k1 ?k2 ?ks ?k3 ?k4 ?k5 ?k6 ?_; (case k1 => k_asm); (case k2 => assumption); (case ks => intro p hp; kcf_m); (case k3 => assumption); (case k4 => omega); (case k5 => omega); (case k6 => omega); intro zA9 zt9 zu9 zc9 zS9; (try dsimp only)))
  k_with "compareOp NotEq ref ref" => (k_here; k_dflt (refine' rat_ne ?k1 ?k2 ?k3 ?k4 ?k5 ?k6 ?_; (case k1 => k_asm); (case k2 => k_asm); (case k3 => k_asm); (case k4 => first | exact Src.up (by assumption) (by intro p hp; kcf_m) | exact Src.here (by kcf_m) | (refine' Src.int2 ?s1 ?s2; (case s1 => kcf_m); (case s2 => exact rfl))); (case k5 => first | exact Src.up (by assumption) (by intro p hp; kcf_m) | exact Src.here (by kcf_m) | (refine' Src.int2 ?s1 ?s2; (case s1 => kcf_m); (case s2 => exact rfl))); (case k6 => ktr_units)))
  k_with "compareOp Eq ref ref" => (k_here; k_dflt (refine' rat_eq ?k1 ?k2 ?k3 ?k4 ?k5 ?k6 ?_; (case k1 => k_asm); (case k2 => k_asm); (case k3 => k_asm); (case k4 => first | exact Src.up (by assumption) (by intro p hp; kcf_m) | exact Src.here (by kcf_m) | (refine' Src.int2 ?s1 ?s2; (case s1 => kcf_m); (case s2 => exact rfl))); (case k5 => first | exact Src.up (by assumption) (by intro p hp; kcf_m) | exact Src.here (by kcf_m) | (refine' Src.int2 ?s1 ?s2; (case s1 => kcf_m); (case s2 => exact rfl))); (case k6 => ktr_units)))
  k_with "call ref" => (k_here; (with_reducible show wpAny _ _ (call (Value.ref 123) _) _ _ _); k_dflt (refine' useQ ?k1 ?k2 ?k3 ?k4 ?k5 ?kK (mixed_ok _ _ _ _ _ _ _ _ _ _ _ _ _ _ ?h0 ?h1 ?h2 ?h3 ?h4 ?h5 ?h6 ?h7 ?h8 ?h9) ?kd ?ku ?_); (case k1 => k_asm); (case k2 => k_asm); (case k3 => k_asm); (case k4 => k_asm); (case k5 => k_asm); (case kK => first | exact rfl | assumption); (case h0 => exact mem_up (by assumption) (by intro p hp; kcf_m)); (case h1 => exact LV.up (by assumption) (by intro p hp; kcf_m)); (case h2 => exact mem_up (by assumption) (by intro p hp; kcf_m)); (case h3 => exact LV.up (by assumption) (by intro p hp; kcf_m)); (case h4 => assumption); (case h5 => assumption); (case h6 => assumption); (case h7 => omega); (case h8 => omega); (case h9 => assumption); (case kd => first | exact room_up (by assumption) (by decide) | exact Nat.le_of_ble_eq_true rfl | ktr_room); (case ku => first | exact units_up (by assumption) (by decide) | exact Nat.le_of_ble_eq_true rfl | ktr_units); intro zadd9 zD9 zt9 zu9 zn9 zh9 ztk9 zF9 zN9 zf9 zS9; (try dsimp only); (try k_fold))
  k_with "my enterC" => (refine' code_defC ?k1 ?k2 ?k3 ?k4 ?k5 ?kA ?kF ?kK ?k6 ?k7 ?k8 ?k9 ?kB ?kD ?_ ?c2 ?c3 ?c4; (case kA => exact rfl); (case kF => exact rfl); (case kK => assumption); (case k1 => k_asm); (case k2 => k_asm); (case k3 => k_asm); (case k4 => k_asm); (case k5 => k_asm); (case k6 => k_is); (case k7 => k_is); (case k8 => ktr_room); (case k9 => exact BindsTo.of_eq rfl); (case kB => exact rfl); (case kD => decide +kernel); (case c2 => exact rfl); (case c3 => exact rfl); (case c4 => exact rfl); k_whole; intro zg' zL' zh' ztk' zcells' zFG' zF' zN' zY' zB' zX' zT' zl1; k_cells zY'; (try simp only [List.cons_append, List.nil_append] at zN'); (try dsimp only); (try k_lift zB'); (try k_fold))
  k_with "call builtin:len" => (k_here; (with_reducible show wpAny _ _ (call (Value.builtin "len") [Value.ref _]) _ _ _); k_dflt (refine' list_len ?k1 ?k2 ?ks ?k3 ?k4 ?_; (case k1 => k_asm); (case k2 => assumption); (case ks => intro p hp; kcf_m); (case k3 => assumption); (case k4 => omega)))
  k_with "eval ListComp" => (k_here; k_dflt (refine LCg.ListComp_U (F₀ := by k_asm) (by with_unfolding_all rfl) (by decide) (by rfl) (by decide) (by rfl) ?_))
  k_with "eval Name" => (k_here; (with_reducible show wpAny _ _ (eval (Expr.Name _ _) (compEnvC _ _ _ _)) _ _ _); (with_reducible rename News _ _ _ _ => kN); k_dflt (refine kcf_cell kN (by rfl) (mem_up (by assumption) (by intro p hp; kcf_m)) (by assumption) ?_))
  k_with "newTuple" => (k_here; k_dflt (refine' my_tuple ?k1 ?k2 ?_ ?k3; (case k1 => k_asm); (case k2 => k_asm); (case k3 => (simp only [PySem.sizeLine_eq, List.length_cons, List.length_nil]; omega))); intro zD9 zh9 zF9 zN9 zl9; (try dsimp only))
  k_with "binaryOp Add ref ref" => (k_here; (with_reducible show wpAny _ _ (binaryOp _ (Value.ref _) (Value.ref _)) _ _ _); k_dflt (refine' list_add ?k1 ?k2 ?k3 ?k4 ?k5 ?_; (case k1 => k_asm); (case k2 => k_asm); (case k3 => kcf_m); (case k4 => kcf_m); (case k5 => (simp only [PySem.sizeLine_eq, List.length_cons, List.length_nil]; omega))); intro zD9 zh9 zF9 zN9 zl9; (try dsimp only))
  k_with "newList" => (k_here; k_dflt (refine' newList_K ?k1 ?k2 ?_; (case k1 => k_asm); (case k2 => k_asm); k_whole); intro zl9 zh9 zF9 zN9 zq9; (replace zq9 := ne_of_lts zq9); (try dsimp only))
  k_with "call ref" => (k_here; (with_reducible show wpAny _ _ (call (Value.ref 128) _) _ _ _); k_dflt (refine' useL ?k1 ?k2 ?k3 ?k4 ?k5 ?kK (smul_ok _ _ _ _ _ _ _ _ _ _ _ _ ?h0 ?h1 ?h2 ?h3 ?h4 ?h5 ?h6) ?kd ?ku ?_); (case k1 => k_asm); (case k2 => k_asm); (case k3 => k_asm); (case k4 => k_asm); (case k5 => k_asm); (case kK => first | exact rfl | assumption); (case h0 => exact mem_up (by assumption) (by intro p hp; kcf_m)); (case h1 => exact LV.up (by assumption) (by intro p hp; kcf_m)); (case h2 => exact mem_up (by assumption) (by intro p hp; kcf_m)); (case h3 => exact LV.up (by assumption) (by intro p hp; kcf_m)); (case h4 => omega); (case h5 => omega); (case h6 => assumption); (case kd => first | exact room_up (by assumption) (by decide) | exact Nat.le_of_ble_eq_true rfl | ktr_room); (case ku => first | exact units_up (by assumption) (by decide) | exact Nat.le_of_ble_eq_true rfl | ktr_units); intro zD9 zvs9 zc9 zadd9 zh9 ztk9 zF9 zN9 zm9 zV9 zf9; (try dsimp only); (try k_fold))
  k_with "getMethod ref" => (k_here; (with_reducible show wpAny _ _ (getMethod (Value.ref _) (Str.ofString "append") _) _ _ _); k_dflt (refine' my_method ?kN ?k1 ?k2 ?_; (case kN => k_asm); (case k1 => assumption); (case k2 => intro p hp; kcf_m)))
  k_with "call builtin:list.append" => (k_here; (with_reducible show wpAny _ _ (call (Value.builtin _) [Value.ref _, Value.ref _]) _ _ _); k_dflt (k_extra "my append"))
  k_with "call ref" => (k_here; (with_reducible show wpAny _ _ (call (Value.ref 152) _) _ _ _); k_dflt (refine' useV ?k1 ?k2 ?k3 ?k4 ?k5 ?kK (need_begin_ok _ _ _ _ _ _ _ _ _ _ _ ?h0 ?h1 ?h2 ?h3 ?h4) ?kd ?ku ?_); (case k1 => k_asm); (case k2 => k_asm); (case k3 => k_asm); (case k4 => k_asm); (case k5 => k_asm); (case kK => first | exact rfl | assumption); (case h0 => exact mem_up (by assumption) (by intro p hp; kcf_m)); (case h1 => exact LV.up (by assumption) (by intro p hp; kcf_m)); (case h2 => first | exact Src.up (by assumption) (by intro p hp; kcf_m) | exact Src.here (by kcf_m) | (refine' Src.int2 ?s1 ?s2; (case s1 => kcf_m); (case s2 => exact rfl))); (case h3 => omega); (case h4 => k_extra "small"); (case kd => first | exact room_up (by assumption) (by decide) | exact Nat.le_of_ble_eq_true rfl | ktr_room); (case ku => first | exact units_up (by assumption) (by decide) | exact Nat.le_of_ble_eq_true rfl | ktr_units); intro zh9 ztk9 zF9 zN9; (try dsimp only); (try k_fold))
  intro p loose mean mg mb dp un gd cn cs f ccd cl outer A₀ base h₀ L m s Q E Bl F X N T hk hd hu hret
  refine wpAny_call ?_
  k_dflt cell_enter
  k_with "pyIter ref" => skip
  k_with "small" => assumption
  k_with "small" => exact ok2' (by omega)
  k_with "nonzero" => exact int_ne (by omega)
  k_with "my append" => (
    (rename Fr _ _ _ _ => aF); (rename News _ _ _ _ => aN);
    (refine' list_append2 (add ++ news ++ own) aF aN (by kcf_m) (fun p hp => ⟨by kcf_m, hne p hp⟩) (by rw [hvl, PySem.sizeLine_eq]; omega) ?_);
    intro h9 F9 N9)
  k_with "my append" => (
    (rename Fr _ _ _ _ => aF); (rename News _ _ _ _ => aN); (rename (∀ p : Addr × Obj, p ∈ _ → p.1 ≠ _) => aL);
    (refine' list_append3 (q := powT a e r i i / ((i : Int) : Rat)) (add ++ news ++ own) aF aN (by kcf_m) (by kcf_m) (fun e9 => aL (lf, listOf vs.toArray kc) (by kcf_m) e9.symm) (fun p hp => ⟨by kcf_m, hne p hp⟩) (by rw [hvl, PySem.sizeLine_eq]; omega) ?_);
    intro h9 F9 N9)
  k_with "my loop" => (
    (with_reducible show wpAny _ _ _ (fun it s₂ => LoopAtV _ _ _ _ _ (Str.ofString "spot") _ _ _ it s₂) _ _);
    (rename Fr _ _ _ _ => lF); (rename News _ _ _ _ => lN); (rename IsRange _ _ _ _ _ _ _ _ => rgX);
    (with_unfolding_all refine' range_tot (n := i) (Str.ofString "total") (powT a e r i) [Str.ofString "times"] 49 (by rfl) (by rfl) (by exact rgX) (small_one (by omega) (by omega) (by omega) (by omega)) (by rw [rangeSize_nat]; omega) lF lN (by rfl) ⟨[], _, _, _, rfl, fresh_nil, hR0 w _⟩ ?_ ?_);
    focus (intro j c2 t2 u2 add2 t9 u9 q9 h2 tk2 own2 hj hoff2 fr2 S9 F2 N2; (have ok9 := ok3 j hj); (have o1 := ok9.1); (have o2 := ok9.2.1); (have o3 := ok9.2.2.1); (have o4 := ok9.2.2.2.1); (have o5 := ok9.2.2.2.2.1); (have o6 := ok9.2.2.2.2.2.1); (have o7 := ok9.2.2.2.2.2.2); (have sk2 : Sm (((i : Int) - (1 + (j : Int)) : Int) : Rat) := sm_int (by omega)); (have hlf : (lf, listOf vs.toArray kc) ∈ (lf, listOf vs.toArray kc) :: (add ++ news ++ own) := .head _); (have sk : Sm ((1 + (j : Int) : Int) : Rat) := sm_int (by omega)); clear lF lN rgX);
    rotate_left;
    focus (intro c2 u2 add2 t9 u9 q9 h2 tk2 fr2 S9 F2 N2; clear lF lN rgX);
    rotate_right;
    all_goals (try k_fold))
  k_with "my loop" => (
    (with_reducible show wpAny _ _ _ (fun it s₂ => LoopAtV _ _ _ _ _ (Str.ofString "at") _ _ _ it s₂) _ _);
    (rename Fr _ _ _ _ => lF); (rename News _ _ _ _ => lN); (rename IsRange _ _ _ _ _ _ _ _ => rgX);
    (with_unfolding_all refine' range_lst (n := n) (B := news) (Str.ofString "found") e [Str.ofString "total", Str.ofString "spot", Str.ofString "times"] _ (by rfl) (by rfl) (by exact rgX) (small_one (by omega) (by omega) (by omega) (by omega)) (by rw [rangeSize_nat]; omega) lF lN (by rfl) ⟨[], 0, [], rfl, fresh_nil, (by assumption), LV.nil⟩ ?_ ?_);
    focus (intro i lf t u vs kc add h tk own hi hoff fr hnl hv F1 N1; (have ok9 := ok i hi); (have ok1 := ok9.1); (have ok2 := ok9.2.1); (have ok3 := ok9.2.2); (have hvl := hv.1); (have hne := ne_own hnl hoff); (have si : Sm ((i : Int) : Rat) := sm_int (by omega)); (have ok2' : i ≠ 0 → Sm (powT a e r i i / ((i : Int) : Rat)) := (fun hi0 => by have h9 := he i hi; rw [if_neg hi0] at h9; rw [← h9]; exact ok2)); clear lF lN rgX);
    rotate_left;
    focus (intro lf u vs kc add h tk fr hnl hv F1 N1; clear lF lN rgX);
    rotate_right;
    all_goals (try k_fold))
  k_steps
  · rename News _ _ _ _ => kN
    have f4 := fresh7 kN (by assumption) (by assumption) (by assumption) (by assumption) (by assumption) (by assumption) (by assumption)
    exact my_end _ ([_, _, _, _, _, _, _] ++ (add2 ++ ((lf, listOf vs.toArray kc) :: (add ++ news ++ own)))) (by assumption) kN (by kst_all) (by kst_same) ⟨_ :: _ :: _ :: _ :: _ :: _ :: _ :: add2, _, _, _, rfl, Fresh.append fr2 (fresh_sub f4 fun p hp => List.mem_append_left _ hp), Src.here (.head _)⟩ (in_own [_, _, _, _, _, _, _]) (own_in [_, _, _, _, _, _, _]) (own_ext hoff2 f4)
  · have hi0 : i = 0 := by omega
    have ei : e i = 1 := by rw [he i hi, if_pos hi0]
    exact my_end lf ((lf, listOf (vs ++ [Value.ref 50]).toArray (kc + 1)) :: (add ++ news)) F9 N9 (by kst_all) (by kst_same) ⟨vs ++ [Value.ref 50], kc + 1, add, rfl, fr, hnl, hv.snoc (by rw [ei]; exact hR1 w _)⟩ in_cons (fun p hp => .tail _ (List.mem_append_right _ hp)) hoff
  · have ei : e i = powT a e r i i / ((i : Int) : Rat) := by rw [he i hi, if_neg (by omega)]
    exact my_end lf ((lf, listOf (vs ++ [Value.ref _]).toArray (kc + 1)) :: (_, rObj (powT a e r i i / ((i : Int) : Rat)) _ _ _) :: (add ++ news)) F9 N9 (by kst_all) (by kst_same)
      ⟨vs ++ [Value.ref _], kc + 1, (_, rObj (powT a e r i i / ((i : Int) : Rat)) _ _ _) :: add, rfl, Fresh.cons fr (fun p hp => aL p (by kcf_m)), ne_cons hnl (fun e9 => aL (lf, listOf vs.toArray kc) (by kcf_m) e9.symm), (hv.up fun p hp => .tail _ hp).snoc (by rw [ei]; exact Src.here (.head _))⟩
      in_cons2 (fun p hp => .tail _ (.tail _ (List.mem_append_right _ hp))) (own_cons hoff fun p hp => aL p (by kcf_m))
  · rename News _ _ _ _ => kN
    exact hret _ _ _ _ (by assumption) kN ⟨(lf, _) :: add, rfl, Fresh.cons fr fun p hp => hnl p (List.mem_append_right _ hp)⟩ ⟨lf, vs, kc, rfl, .head _, hv.up fun p hp => .tail _ hp⟩
/-- what is left under the inverse's next coefficient, so far -/
noncomputable def invT (a e : Int → Rat) (at' : Int) : Nat → Rat
  | 0 => if at' = 0 then 1 else 0
  | j + 1 => invT a e at' j - a (1 + (j : Int)) * e (at' - (1 + (j : Int)))
theorem sinverse_ok (w : World) (la : Addr) (va : List Value) (ca n : Nat) (a e : Int → Rat) (news : Led) (hla : (la, listOf va.toArray ca) ∈ news) (hva : LV w news va n a)
    (h1n : 1 ≤ n) (hn : (n : Int) < 2 ^ 20) (ha0 : a 0 = 1) (he : ∀ i : Nat, i < n → e i = invT a e i i / a 0)
    (ok : ∀ i : Nat, i < n → Sm (invT a e i i) ∧ Sm (e i) ∧ ∀ j : Nat, j < i → Sm (a (1 + j)) ∧ Sm (e (i - (1 + j))) ∧ Sm (a (1 + j) * e (i - (1 + j))) ∧ Sm (invT a e i j)) :
    Cl w 135 [.ref la] 5 news (NewL w n e) := by
  obtain ⟨t0, u0, c0, hR0⟩ := R0_src
  obtain ⟨t1, u1, c1, hR1⟩ := R1_src
  have hz : Src w news 49 (rObj 0 t0 u0 c0) := hR0 w news
  have hz1 : Src w news 50 (rObj 1 t1 u1 c1) := hR1 w news
  have hn0 : a 0 ≠ 0 := by rw [ha0]; decide
  have hs0 : Sm (a 0) := by rw [ha0]; exact ⟨by decide, by decide⟩
  w_top off
  unfold Cl
  k_fill
  k_with_none
  k_with "call ref" => (k_here; (with_reducible show wpAny _ _ (call (Value.ref 41) _) _ _ _); k_dflt (refine' useI ?k1 ?k2 ?k3 ?k4 ?k5 ?kK (gcd_ok _ _ _ _ _ _ ) ?kd ?ku ?_); (case k1 => k_asm); (case k2 => k_asm); (case k3 => k_asm); (case k4 => k_asm); (case k5 => k_asm); (case kK => first | exact rfl | assumption); (case kd => first | exact room_up (by assumption) (by decide) | exact Nat.le_of_ble_eq_true rfl | ktr_room); (case ku => first | exact units_up (by assumption) (by decide) | exact Nat.le_of_ble_eq_true rfl | ktr_units); intro zt9 zh9 ztk9 zF9 zN9; (try dsimp only); (try k_fold))
  k_with "call ref" => ((with_reducible show wpAny _ _ (call (Value.ref 31) _) _ _ _); exfalso; first | contradiction | omega)
  k_with "binaryOp FloorDiv int int" => (k_here; refine floordiv_int ?k1 ?_ (Or.inl (PyProof.noPylong_of_log2 ?k2)); (case k1 => first | assumption | omega); (case k2 => assumption))
  k_with "call ref" => (k_here; (with_reducible show wpAny _ _ (call (Value.ref 57) _) _ _ _); k_dflt (refine' useR ?k1 ?k2 ?k3 ?k4 ?k5 ?kK (rat_ok _ _ _ _ _ _ ?h0 ?h1) ?kd ?ku ?_); (case k1 => k_asm); (case k2 => k_asm); (case k3 => k_asm); (case k4 => k_asm); (case k5 => k_asm); (case kK => first | exact rfl | assumption); (case h0 => assumption); (case h1 => assumption); (case kd => first | exact room_up (by assumption) (by decide) | exact Nat.le_of_ble_eq_true rfl | ktr_room); (case ku => first | exact units_up (by assumption) (by decide) | exact Nat.le_of_ble_eq_true rfl | ktr_units); intro zD9 zt9 zu9 zn9 zh9 ztk9 zF9 zN9 zl9; (try dsimp only); (try k_fold))
  k_with "subscriptTail" => (k_here; (with_reducible show wpAny _ _ (subscriptTail _ _ (Value.ref _) (Value.int 0 _)) _ _ _); k_dflt (refine' rat_item0 ?k1 ?k2 ?k3 ?k4 ?_; (case k1 => k_asm); (case k2 => k_asm); (case k3 => k_asm); (case k4 => first | exact Src.up (by assumption) (by intro p hp; kcf_m) | exact Src.here (by kcf_m))))
  k_with "subscriptTail" => (k_here; (with_reducible show wpAny _ _ (subscriptTail _ _ (Value.ref _) (Value.int 1 _)) _ _ _); k_dflt (refine' rat_item1 ?k1 ?k2 ?k3 ?k4 ?_; (case k1 => k_asm); (case k2 => k_asm); (case k3 => k_asm); (case k4 => first | exact Src.up (by assumption) (by intro p hp; kcf_m) | exact Src.here (by kcf_m))))
  k_with "call ref" => (k_here; (with_reducible show wpAny _ _ (call (Value.ref 64) _) _ _ _); k_dflt (refine' useR ?k1 ?k2 ?k3 ?k4 ?k5 ?kK (radd_ok _ _ _ _ _ _ _ _ _ _ _ _ ?h0 ?h1 ?h2 ?h3) ?kd ?ku ?_); (case k1 => k_asm); (case k2 => k_asm); (case k3 => k_asm); (case k4 => k_asm); (case k5 => k_asm); (case kK => first | exact rfl | assumption); (case h0 => first | exact Src.up (by assumption) (by intro p hp; kcf_m) | exact Src.here (by kcf_m) | (refine' Src.int2 ?s1 ?s2; (case s1 => kcf_m); (case s2 => exact rfl))); (case h1 => first | exact Src.up (by assumption) (by intro p hp; kcf_m) | exact Src.here (by kcf_m) | (refine' Src.int2 ?s1 ?s2; (case s1 => kcf_m); (case s2 => exact rfl))); (case h2 => k_extra "small"); (case h3 => k_extra "small"); (case kd => first | exact room_up (by assumption) (by decide) | exact Nat.le_of_ble_eq_true rfl | ktr_room); (case ku => first | exact units_up (by assumption) (by decide) | exact Nat.le_of_ble_eq_true rfl | ktr_units); intro zD9 zt9 zu9 zn9 zh9 ztk9 zF9 zN9 zl9; (try dsimp only); (try k_fold))
  k_with "call ref" => (k_here; (with_reducible show wpAny _ _ (call (Value.ref 71) _) _ _ _); k_dflt (refine' useR ?k1 ?k2 ?k3 ?k4 ?k5 ?kK (rsub_ok _ _ _ _ _ _ _ _ _ _ _ _ ?h0 ?h1 ?h2 ?h3) ?kd ?ku ?_); (case k1 => k_asm); (case k2 => k_asm); (case k3 => k_asm); (case k4 => k_asm); (case k5 => k_asm); (case kK => first | exact rfl | assumption); (case h0 => first | exact Src.up (by assumption) (by intro p hp; kcf_m) | exact Src.here (by kcf_m) | (refine' Src.int2 ?s1 ?s2; (case s1 => kcf_m); (case s2 => exact rfl))); (case h1 => first | exact Src.up (by assumption) (by intro p hp; kcf_m) | exact Src.here (by kcf_m) | (refine' Src.int2 ?s1 ?s2; (case s1 => kcf_m); (case s2 => exact rfl))); (case h2 => k_extra "small"); (case h3 => k_extra "small"); (case kd => first | exact room_up (by assumption) (by decide) | exact Nat.le_of_ble_eq_true rfl | ktr_room); (case ku => first | exact units_up (by assumption) (by decide) | exact Nat.le_of_ble_eq_true rfl | ktr_units); intro zD9 zt9 zu9 zn9 zh9 ztk9 zF9 zN9 zl9; (try dsimp only); (try k_fold))
  k_with "call ref" => (k_here; (with_reducible show wpAny _ _ (call (Value.ref 78) _) _ _ _); k_dflt (refine' useR ?k1 ?k2 ?k3 ?k4 ?k5 ?kK (rmul_ok _ _ _ _ _ _ _ _ _ _ _ _ ?h0 ?h1 ?h2 ?h3) ?kd ?ku ?_); (case k1 => k_asm); (case k2 => k_asm); (case k3 => k_asm); (case k4 => k_asm); (case k5 => k_asm); (case kK => first | exact rfl | assumption); (case h0 => first | exact Src.up (by assumption) (by intro p hp; kcf_m) | exact Src.here (by kcf_m) | (refine' Src.int2 ?s1 ?s2; (case s1 => kcf_m); (case s2 => exact rfl))); (case h1 => first | exact Src.up (by assumption) (by intro p hp; kcf_m) | exact Src.here (by kcf_m) | (refine' Src.int2 ?s1 ?s2; (case s1 => kcf_m); (case s2 => exact rfl))); (case h2 => k_extra "small"); (case h3 => k_extra "small"); (case kd => first | exact room_up (by assumption) (by decide) | exact Nat.le_of_ble_eq_true rfl | ktr_room); (case ku => first | exact units_up (by assumption) (by decide) | exact Nat.le_of_ble_eq_true rfl | ktr_units); intro zD9 zt9 zu9 zn9 zh9 ztk9 zF9 zN9 zl9; (try dsimp only); (try k_fold))
  k_with "call ref" => (k_here; (with_reducible show wpAny _ _ (call (Value.ref 85) _) _ _ _); k_dflt (refine' useR ?k1 ?k2 ?k3 ?k4 ?k5 ?kK (rdiv_ok _ _ _ _ _ _ _ _ _ _ _ _ ?h0 ?h1 ?h2 ?h3 ?h4) ?kd ?ku ?_); (case k1 => k_asm); (case k2 => k_asm); (case k3 => k_asm); (case k4 => k_asm); (case k5 => k_asm); (case kK => first | exact rfl | assumption); (case h0 => first | exact Src.up (by assumption) (by intro p hp; kcf_m) | exact Src.here (by kcf_m) | (refine' Src.int2 ?s1 ?s2; (case s1 => kcf_m); (case s2 => exact rfl))); (case h1 => first | exact Src.up (by assumption) (by intro p hp; kcf_m) | exact Src.here (by kcf_m) | (refine' Src.int2 ?s1 ?s2; (case s1 => kcf_m); (case s2 => exact rfl))); (case h2 => k_extra "small"); (case h3 => k_extra "small"); (case h4 => k_extra "nonzero"); (case kd => first | exact room_up (by assumption) (by decide) | exact Nat.le_of_ble_eq_true rfl | ktr_room); (case ku => first | exact units_up (by assumption) (by decide) | exact Nat.le_of_ble_eq_true rfl | ktr_units); intro zD9 zt9 zu9 zn9 zh9 ztk9 zF9 zN9 zl9; (try dsimp only); (try k_fold))
  k_with "call ref" => (k_here; (with_reducible show wpAny _ _ (call (Value.ref 92) _) _ _ _); k_dflt (refine' useV ?k1 ?k2 ?k3 ?k4 ?k5 ?kK (is_vast_ok _ _ _ _ _ _ _ ?h0 ?h1) ?kd ?ku ?_); (case k1 => k_asm); (case k2 => k_asm); (case k3 => k_asm); (case k4 => k_asm); (case k5 => k_asm); (case kK => first | exact rfl | assumption); (case h0 => first | exact Src.up (by assumption) (by intro p hp; kcf_m) | exact Src.here (by kcf_m) | (refine' Src.int2 ?s1 ?s2; (case s1 => kcf_m); (case s2 => exact rfl))); (case h1 => assumption); (case kd => first | exact room_up (by assumption) (by decide) | exact Nat.le_of_ble_eq_true rfl | ktr_room); (case ku => first | exact units_up (by assumption) (by decide) | exact Nat.le_of_ble_eq_true rfl | ktr_units); intro zh9 ztk9 zF9 zN9; (try dsimp only); (try k_fold))
  k_with "call ref" => (k_here; (with_reducible show wpAny _ _ (call (Value.ref 99) _) _ _ _); k_dflt (refine' useZ ?k1 ?k2 ?k3 ?k4 ?k5 ?kK (rcompare_ok _ _ _ _ _ _ _ _ _ _ _ ?h0 ?h1 ?h2) ?kd ?ku ?_); (case k1 => k_asm); (case k2 => k_asm); (case k3 => k_asm); (case k4 => k_asm); (case k5 => k_asm); (case kK => first | exact rfl | assumption); (case h0 => first | exact Src.up (by assumption) (by intro p hp; kcf_m) | exact Src.here (by kcf_m) | (refine' Src.int2 ?s1 ?s2; (case s1 => kcf_m); (case s2 => exact rfl))); (case h1 => first | exact Src.up (by assumption) (by intro p hp; kcf_m) | exact Src.here (by kcf_m) | (refine' Src.int2 ?s1 ?s2; (case s1 => kcf_m); (case s2 => exact rfl))); (case h2 => k_extra "small"); (case kd => first | exact room_up (by assumption) (by decide) | exact Nat.le_of_ble_eq_true rfl | ktr_room); (case ku => first | exact units_up (by assumption) (by decide) | exact Nat.le_of_ble_eq_true rfl | ktr_units); intro zt9 zh9 ztk9 zF9 zN9; (try dsimp only); (try k_fold))
  k_with "call ref" => (k_here; (with_reducible show wpAny _ _ (call (Value.ref 106) _) _ _ _); k_dflt (refine' useV ?k1 ?k2 ?k3 ?k4 ?k5 ?kK (let_ok _ _ _ _ _ _ _ ?h0 ?h1) ?kd ?ku ?_); (case k1 => k_asm); (case k2 => k_asm); (case k3 => k_asm); (case k4 => k_asm); (case k5 => k_asm); (case kK => first | exact rfl | assumption); (case h0 => first | exact Src.up (by assumption) (by intro p hp; kcf_m) | exact Src.here (by kcf_m) | (refine' Src.int2 ?s1 ?s2; (case s1 => kcf_m); (case s2 => exact rfl))); (case h1 => k_extra "small"); (case kd => first | exact room_up (by assumption) (by decide) | exact Nat.le_of_ble_eq_true rfl | ktr_room); (case ku => first | exact units_up (by assumption) (by decide) | exact Nat.le_of_ble_eq_true rfl | ktr_units); intro zh9 ztk9 zF9 zN9; (try dsimp only); (try k_fold))
  k_with "subscriptTail" => (k_here; (with_reducible show wpAny _ _ (subscriptTail _ _ (Value.ref _) (Value.int _ _)) _ _ _); k_dflt (refine' list_item ?k1 ?k2 ?ks ?k3 ?k4 ?k5 ?k6 ?_; (case k1 => k_asm); (case k2 => assumption); (case ks => intro p hp; kcf_m); (case k3 => assumption); (case k4 => omega); (case k5 => omega); (case k6 => omega); intro zA9 zt9 zu9 zc9 zS9; (try dsimp only)))
  k_with "compareOp NotEq ref ref" => (k_here; k_dflt (refine' rat_ne ?k1 ?k2 ?k3 ?k4 ?k5 ?k6 ?_; (case k1 => k_asm); (case k2 => k_asm); (case k3 => k_asm); (case k4 => first | exact Src.up (by assumption) (by intro p hp; kcf_m) | exact Src.here (by kcf_m) | (refine' Src.int2 ?s1 ?s2; (case s1 => kcf_m); (case s2 => exact rfl))); (case k5 => first | exact Src.up (by assumption) (by intro p hp; kcf_m) | exact Src.here (by kcf_m) | (refine' Src.int2 ?s1 ?s2; (case s1 => kcf_m); (case s2 => exact rfl))); (case k6 => ktr_units)))
  k_with "compareOp Eq ref ref" => (k_here; k_dflt (refine' rat_eq ?k1 ?k2 ?k3 ?k4 ?k5 ?k6 ?_; (case k1 => k_asm); (case k2 => k_asm); (case k3 => k_asm); (case k4 => first | exact Src.up (by assumption) (by intro p hp; kcf_m) | exact Src.here (by kcf_m) | (refine' Src.int2 ?s1 ?s2; (case s1 => kcf_m); (case s2 => exact rfl))); (case k5 => first | exact Src.up (by assumption) (by intro p hp; kcf_m) | exact Src.here (by kcf_m) | (refine' Src.int2 ?s1 ?s2; (case s1 => kcf_m); (case s2 => exact rfl))); (case k6 => ktr_units)))
  k_with "call ref" => (k_here; (with_reducible show wpAny _ _ (call (Value.ref 123) _) _ _ _); k_dflt (refine' useQ ?k1 ?k2 ?k3 ?k4 ?k5 ?kK (mixed_ok _ _ _ _ _ _ _ _ _ _ _ _ _ _ ?h0 ?h1 ?h2 ?h3 ?h4 ?h5 ?h6 ?h7 ?h8 ?h9) ?kd ?ku ?_); (case k1 => k_asm); (case k2 => k_asm); (case k3 => k_asm); (case k4 => k_asm); (case k5 => k_asm); (case kK => first | exact rfl | assumption); (case h0 => exact mem_up (by assumption) (by intro p hp; kcf_m)); (case h1 => exact LV.up (by assumption) (by intro p hp; kcf_m)); (case h2 => exact mem_up (by assumption) (by intro p hp; kcf_m)); (case h3 => exact LV.up (by assumption) (by intro p hp; kcf_m)); (case h4 => assumption); (case h5 => assumption); (case h6 => assumption); (case h7 => omega); (case h8 => omega); (case h9 => assumption); (case kd => first | exact room_up (by assumption) (by decide) | exact Nat.le_of_ble_eq_true rfl | ktr_room); (case ku => first | exact units_up (by assumption) (by decide) | exact Nat.le_of_ble_eq_true rfl | ktr_units); intro zadd9 zD9 zt9 zu9 zn9 zh9 ztk9 zF9 zN9 zf9 zS9; (try dsimp only); (try k_fold))
  k_with "my enterC" => (refine' code_defC ?k1 ?k2 ?k3 ?k4 ?k5 ?kA ?kF ?kK ?k6 ?k7 ?k8 ?k9 ?kB ?kD ?_ ?c2 ?c3 ?c4; (case kA => exact rfl); (case kF => exact rfl); (case kK => assumption); (case k1 => k_asm); (case k2 => k_asm); (case k3 => k_asm); (case k4 => k_asm); (case k5 => k_asm); (case k6 => k_is); (case k7 => k_is); (case k8 => ktr_room); (case k9 => exact BindsTo.of_eq rfl); (case kB => exact rfl); (case kD => decide +kernel); (case c2 => exact rfl); (case c3 => exact rfl); (case c4 => exact rfl); k_whole; intro zg' zL' zh' ztk' zcells' zFG' zF' zN' zY' zB' zX' zT' zl1; k_cells zY'; (try simp only [List.cons_append, List.nil_append] at zN'); (try dsimp only); (try k_lift zB'); (try k_fold))
  k_with "call builtin:len" => (k_here; (with_reducible show wpAny _ _ (call (Value.builtin "len") [Value.ref _]) _ _ _); k_dflt (refine' list_len ?k1 ?k2 ?ks ?k3 ?k4 ?_; (case k1 => k_asm); (case k2 => assumption); (case ks => intro p hp; kcf_m); (case k3 => assumption); (case k4 => omega)))
  k_with "eval ListComp" => (k_here; k_dflt (refine LCg.ListComp_U (F₀ := by k_asm) (by with_unfolding_all rfl) (by decide) (by rfl) (by decide) (by rfl) ?_))
  k_with "eval Name" => (k_here; (with_reducible show wpAny _ _ (eval (Expr.Name _ _) (compEnvC _ _ _ _)) _ _ _); (with_reducible rename News _ _ _ _ => kN); k_dflt (refine kcf_cell kN (by rfl) (mem_up (by assumption) (by intro p hp; kcf_m)) (by assumption) ?_))
  k_with "newTuple" => (k_here; k_dflt (refine' my_tuple ?k1 ?k2 ?_ ?k3; (case k1 => k_asm); (case k2 => k_asm); (case k3 => (simp only [PySem.sizeLine_eq, List.length_cons, List.length_nil]; omega))); intro zD9 zh9 zF9 zN9 zl9; (try dsimp only))
  k_with "binaryOp Add ref ref" => (k_here; (with_reducible show wpAny _ _ (binaryOp _ (Value.ref _) (Value.ref _)) _ _ _); k_dflt (refine' list_add ?k1 ?k2 ?k3 ?k4 ?k5 ?_; (case k1 => k_asm); (case k2 => k_asm); (case k3 => kcf_m); (case k4 => kcf_m); (case k5 => (simp only [PySem.sizeLine_eq, List.length_cons, List.length_nil]; omega))); intro zD9 zh9 zF9 zN9 zl9; (try dsimp only))
  k_with "newList" => (k_here; k_dflt (refine' newList_K ?k1 ?k2 ?_; (case k1 => k_asm); (case k2 => k_asm); k_whole); intro zl9 zh9 zF9 zN9 zq9; (replace zq9 := ne_of_lts zq9); (try dsimp only))
  k_with "call ref" => (k_here; (with_reducible show wpAny _ _ (call (Value.ref 128) _) _ _ _); k_dflt (refine' useL ?k1 ?k2 ?k3 ?k4 ?k5 ?kK (smul_ok _ _ _ _ _ _ _ _ _ _ _ _ ?h0 ?h1 ?h2 ?h3 ?h4 ?h5 ?h6) ?kd ?ku ?_); (case k1 => k_asm); (case k2 => k_asm); (case k3 => k_asm); (case k4 => k_asm); (case k5 => k_asm); (case kK => first | exact rfl | assumption); (case h0 => exact mem_up (by assumption) (by intro p hp; kcf_m)); (case h1 => exact LV.up (by assumption) (by intro p hp; kcf_m)); (case h2 => exact mem_up (by assumption) (by intro p hp; kcf_m)); (case h3 => exact LV.up (by assumption) (by intro p hp; kcf_m)); (case h4 => omega); (case h5 => omega); (case h6 => assumption); (case kd => first | exact room_up (by assumption) (by decide) | exact Nat.le_of_ble_eq_true rfl | ktr_room); (case ku => first | exact units_up (by assumption) (by decide) | exact Nat.le_of_ble_eq_true rfl | ktr_units); intro zD9 zvs9 zc9 zadd9 zh9 ztk9 zF9 zN9 zm9 zV9 zf9; (try dsimp only); (try k_fold))
  k_with "getMethod ref" => (k_here; (with_reducible show wpAny _ _ (getMethod (Value.ref _) (Str.ofString "append") _) _ _ _); k_dflt (refine' my_method ?kN ?k1 ?k2 ?_; (case kN => k_asm); (case k1 => assumption); (case k2 => intro p hp; kcf_m)))
  k_with "call builtin:list.append" => (k_here; (with_reducible show wpAny _ _ (call (Value.builtin _) [Value.ref _, Value.ref _]) _ _ _); k_dflt (k_extra "my append"))
  k_with "call ref" => (k_here; (with_reducible show wpAny _ _ (call (Value.ref 152) _) _ _ _); k_dflt (refine' useV ?k1 ?k2 ?k3 ?k4 ?k5 ?kK (need_begin_ok _ _ _ _ _ _ _ _ _ _ _ ?h0 ?h1 ?h2 ?h3 ?h4) ?kd ?ku ?_); (case k1 => k_asm); (case k2 => k_asm); (case k3 => k_asm); (case k4 => k_asm); (case k5 => k_asm); (case kK => first | exact rfl | assumption); (case h0 => exact mem_up (by assumption) (by intro p hp; kcf_m)); (case h1 => exact LV.up (by assumption) (by intro p hp; kcf_m)); (case h2 => first | exact Src.up (by assumption) (by intro p hp; kcf_m) | exact Src.here (by kcf_m) | (refine' Src.int2 ?s1 ?s2; (case s1 => kcf_m); (case s2 => exact rfl))); (case h3 => omega); (case h4 => k_extra "small"); (case kd => first | exact room_up (by assumption) (by decide) | exact Nat.le_of_ble_eq_true rfl | ktr_room); (case ku => first | exact units_up (by assumption) (by decide) | exact Nat.le_of_ble_eq_true rfl | ktr_units); intro zh9 ztk9 zF9 zN9; (try dsimp only); (try k_fold))
  intro p loose mean mg mb dp un gd cn cs f ccd cl outer A₀ base h₀ L m s Q E Bl F X N T hk hd hu hret
  refine wpAny_call ?_
  k_dflt cell_enter
  k_with "pyIter ref" => skip
  k_with "small" => assumption
  k_with "nonzero" => assumption
  k_with "my append" => (
    (rename Fr _ _ _ _ => aF); (rename News _ _ _ _ => aN); (rename (∀ p : Addr × Obj, p ∈ _ → p.1 ≠ _) => aL);
    (refine' list_append3 (q := invT a e i i / a 0) (add ++ news ++ own) aF aN (by kcf_m) (by kcf_m) (fun e9 => aL (lf, listOf vs.toArray kc) (by kcf_m) e9.symm) (fun p hp => ⟨by kcf_m, hne p hp⟩) (by rw [hvl, PySem.sizeLine_eq]; omega) ?_);
    intro h9 F9 N9)
  k_with "my loop" => (
    (with_reducible show wpAny _ _ _ (fun it s₂ => LoopAtV _ _ _ _ _ (Str.ofString "spot") _ _ _ it s₂) _ _);
    (rename Fr _ _ _ _ => lF); (rename News _ _ _ _ => lN); (rename IsRange _ _ _ _ _ _ _ _ => rgX);
    (with_unfolding_all refine' range_tot (n := i) (Str.ofString "total") (invT a e i) [] 49 (by rfl) (by rfl) (by exact rgX) (small_one (by omega) (by omega) (by omega) (by omega)) (by rw [rangeSize_nat]; omega) lF lN (by rfl) ⟨[], t0, u0, c0, rfl, fresh_nil, by rw [invT, if_neg (by omega)]; exact hR0 w _⟩ ?_ ?_);
    focus (intro j c2 t2 u2 add2 t9 u9 q9 h2 tk2 own2 hj hoff2 fr2 S9 F2 N2; (have ok9 := ok3 j hj); (have o1 := ok9.1); (have o2 := ok9.2.1); (have o3 := ok9.2.2.1); (have o4 := ok9.2.2.2); (have hlf : (lf, listOf vs.toArray kc) ∈ (lf, listOf vs.toArray kc) :: (add ++ news ++ own) := .head _); clear lF lN rgX);
    rotate_left;
    focus (intro c2 u2 add2 t9 u9 q9 h2 tk2 fr2 S9 F2 N2; clear lF lN rgX);
    rotate_right;
    all_goals (try k_fold))
  k_with "my loop" => (
    (with_reducible show wpAny _ _ _ (fun it s₂ => LoopAtV _ _ _ _ _ (Str.ofString "spot") _ _ _ it s₂) _ _);
    (rename Fr _ _ _ _ => lF); (rename News _ _ _ _ => lN); (rename IsRange _ _ _ _ _ _ _ _ => rgX);
    (with_unfolding_all refine' range_tot (n := i) (Str.ofString "total") (invT a e i) [] 50 (by rfl) (by rfl) (by exact rgX) (small_one (by omega) (by omega) (by omega) (by omega)) (by rw [rangeSize_nat]; omega) lF lN (by rfl) ⟨[], t1, u1, c1, rfl, fresh_nil, by rw [invT, if_pos (by omega)]; exact hR1 w _⟩ ?_ ?_);
    focus (intro j c2 t2 u2 add2 t9 u9 q9 h2 tk2 own2 hj hoff2 fr2 S9 F2 N2; (have ok9 := ok3 j hj); (have o1 := ok9.1); (have o2 := ok9.2.1); (have o3 := ok9.2.2.1); (have o4 := ok9.2.2.2); (have hlf : (lf, listOf vs.toArray kc) ∈ (lf, listOf vs.toArray kc) :: (add ++ news ++ own) := .head _); clear lF lN rgX);
    rotate_left;
    focus (intro c2 u2 add2 t9 u9 q9 h2 tk2 fr2 S9 F2 N2; clear lF lN rgX);
    rotate_right;
    all_goals (try k_fold))
  k_with "my loop" => (
    (with_reducible show wpAny _ _ _ (fun it s₂ => LoopAtV _ _ _ _ _ (Str.ofString "at") _ _ _ it s₂) _ _);
    (rename Fr _ _ _ _ => lF); (rename News _ _ _ _ => lN); (rename IsRange _ _ _ _ _ _ _ _ => rgX);
    (with_unfolding_all refine' range_lst (n := n) (B := news) (Str.ofString "found") e [Str.ofString "total", Str.ofString "spot"] _ (by rfl) (by rfl) (by exact rgX) (small_one (by omega) (by omega) (by omega) (by omega)) (by rw [rangeSize_nat]; omega) lF lN (by rfl) ⟨[], 0, [], rfl, fresh_nil, (by assumption), LV.nil⟩ ?_ ?_);
    focus (intro i lf t u vs kc add h tk own hi hoff fr hnl hv F1 N1; (have ok9 := ok i hi); (have ok1 := ok9.1); (have ok2 := ok9.2.1); (have ok3 := ok9.2.2); (have hvl := hv.1); (have hne := ne_own hnl hoff); (have si : Sm ((i : Int) : Rat) := sm_int (by omega)); (have ok2' : Sm (invT a e i i / a 0) := (by rw [← he i hi]; exact ok2)); clear lF lN rgX);
    rotate_left;
    focus (intro lf u vs kc add h tk fr hnl hv F1 N1; clear lF lN rgX);
    rotate_right;
    all_goals (try k_fold))
  k_steps
  all_goals first
    | (rename News _ _ _ _ => kN
       have f4 := fresh2 kN (by assumption) (by assumption)
       exact my_end _ ([_, _] ++ (add2 ++ ((lf, listOf vs.toArray kc) :: (add ++ news ++ own)))) (by assumption) kN (by kst_all) (by kst_same) ⟨_ :: _ :: add2, _, _, _, rfl, Fresh.append fr2 (fresh_sub f4 fun p hp => List.mem_append_left _ hp), Src.here (.head _)⟩ (in_own [_, _]) (own_in [_, _]) (own_ext hoff2 f4))
    | (have ei : e i = invT a e i i / a 0 := he i hi
       exact my_end lf ((lf, listOf (vs ++ [Value.ref _]).toArray (kc + 1)) :: (_, rObj (invT a e i i / a 0) _ _ _) :: (add ++ news)) F9 N9 (by kst_all) (by kst_same)
         ⟨vs ++ [Value.ref _], kc + 1, (_, rObj (invT a e i i / a 0) _ _ _) :: add, rfl, Fresh.cons fr (fun p hp => aL p (by kcf_m)), ne_cons hnl (fun e9 => aL (lf, listOf vs.toArray kc) (by kcf_m) e9.symm), (hv.up fun p hp => .tail _ hp).snoc (by rw [ei]; exact Src.here (.head _))⟩
         in_cons2 (fun p hp => .tail _ (.tail _ (List.mem_append_right _ hp))) (own_cons hoff fun p hp => aL p (by kcf_m)))
    | (rename News _ _ _ _ => kN
       exact hret _ _ _ _ (by assumption) kN ⟨(lf, _) :: add, rfl, Fresh.cons fr fun p hp => hnl p (List.mem_append_right _ hp)⟩ ⟨lf, vs, kc, rfl, .head _, hv.up fun p hp => .tail _ hp⟩)
/-- the sums under the sine's and the cosine's next coefficients, so far -/
noncomputable def sinT (a c : Int → Rat) (at' : Int) : Nat → Rat
  | 0 => 0
  | j + 1 => sinT a c at' j + ((1 + (j : Int) : Int) : Rat) * a (1 + (j : Int)) * c (at' - (1 + (j : Int)))
noncomputable def cosT (a s : Int → Rat) (at' : Int) : Nat → Rat
  | 0 => 0
  | j + 1 => cosT a s at' j - ((1 + (j : Int) : Int) : Rat) * a (1 + (j : Int)) * s (at' - (1 + (j : Int)))
noncomputable abbrev pObj (x y : Addr) : Obj := { cls := .type "tuple", data := .seq #[.ref x, .ref y] }
/-- a pair of lists of ratios -/
noncomputable def NewP (w : World) (n : Nat) (f g : Int → Rat) (v : Value) (cur : Led) : Prop := ∃ T x y vs us c d, v = .ref T ∧ (T, pObj x y) ∈ cur ∧ (x, listOf vs.toArray c) ∈ cur ∧ (y, listOf us.toArray d) ∈ cur ∧ LV w cur vs n f ∧ LV w cur us n g
theorem ssin_cos_ok (w : World) (la : Addr) (va : List Value) (ca n : Nat) (a sn cn : Int → Rat) (news : Led) (hla : (la, listOf va.toArray ca) ∈ news) (hva : LV w news va n a)
    (hn : (n : Int) < 2 ^ 20) (ha0 : a 0 = 0) (hs : ∀ i : Nat, i < n → sn i = if i = 0 then 0 else sinT a cn i i / ((i : Int) : Rat)) (hc : ∀ i : Nat, i < n → cn i = if i = 0 then 1 else cosT a sn i i / ((i : Int) : Rat))
    (ok : ∀ i : Nat, i < n → Sm (sinT a cn i i) ∧ Sm (cosT a sn i i) ∧ Sm (sn i) ∧ Sm (cn i) ∧ ∀ j : Nat, j < i → Sm (a (1 + j)) ∧ Sm (((1 + (j : Int) : Int) : Rat) * a (1 + j)) ∧ Sm (cn (i - (1 + j))) ∧ Sm (sn (i - (1 + j))) ∧ Sm (((1 + (j : Int) : Int) : Rat) * a (1 + j) * cn (i - (1 + j))) ∧ Sm (((1 + (j : Int) : Int) : Rat) * a (1 + j) * sn (i - (1 + j))) ∧ Sm (sinT a cn i j) ∧ Sm (cosT a sn i j)) :
    Cl w 173 [.ref la] 5 news (NewP w n sn cn) := by
  obtain ⟨t0, u0, c0, hR0⟩ := R0_src
  obtain ⟨t1, u1, c1, hR1⟩ := R1_src
  have hz : Src w news 49 (rObj (a 0) t0 u0 c0) := by rw [ha0]; exact hR0 w news
  have hs0 : Sm (a 0) := by rw [ha0]; exact ⟨by decide, by decide⟩
  w_top off
  unfold Cl
  k_fill
  k_with_none
  k_with "call ref" => (k_here; (with_reducible show wpAny _ _ (call (Value.ref 41) _) _ _ _); k_dflt (refine' useI ?k1 ?k2 ?k3 ?k4 ?k5 ?kK (gcd_ok _ _ _ _ _ _ ) ?kd ?ku ?_); (case k1 => k_asm); (case k2 => k_asm); (case k3 => k_asm); (case k4 => k_asm); (case k5 => k_asm); (case kK => first | exact rfl | assumption); (case kd => first | exact room_up (by assumption) (by decide) | exact Nat.le_of_ble_eq_true rfl | ktr_room); (case ku => first | exact units_up (by assumption) (by decide) | exact Nat.le_of_ble_eq_true rfl | ktr_units); intro zt9 zh9 ztk9 zF9 zN9; (try dsimp only); (try k_fold))
  k_with "call ref" => ((with_reducible show wpAny _ _ (call (Value.ref 31) _) _ _ _); exfalso; first | contradiction | omega)
  k_with "binaryOp FloorDiv int int" => (k_here; refine floordiv_int ?k1 ?_ (Or.inl (PyProof.noPylong_of_log2 ?k2)); (case k1 => first | assumption | omega); (case k2 => assumption))
  k_with "call ref" => (k_here; (with_reducible show wpAny _ _ (call (Value.ref 57) _) _ _ _); k_dflt (refine' useR ?k1 ?k2 ?k3 ?k4 ?k5 ?kK (rat_ok _ _ _ _ _ _ ?h0 ?h1) ?kd ?ku ?_); (case k1 => k_asm); (case k2 => k_asm); (case k3 => k_asm); (case k4 => k_asm); (case k5 => k_asm); (case kK => first | exact rfl | assumption); (case h0 => assumption); (case h1 => assumption); (case kd => first | exact room_up (by assumption) (by decide) | exact Nat.le_of_ble_eq_true rfl | ktr_room); (case ku => first | exact units_up (by assumption) (by decide) | exact Nat.le_of_ble_eq_true rfl | ktr_units); intro zD9 zt9 zu9 zn9 zh9 ztk9 zF9 zN9 zl9; (try dsimp only); (try k_fold))
  k_with "subscriptTail" => (k_here; (with_reducible show wpAny _ _ (subscriptTail _ _ (Value.ref _) (Value.int 0 _)) _ _ _); k_dflt (refine' rat_item0 ?k1 ?k2 ?k3 ?k4 ?_; (case k1 => k_asm); (case k2 => k_asm); (case k3 => k_asm); (case k4 => first | exact Src.up (by assumption) (by intro p hp; kcf_m) | exact Src.here (by kcf_m))))
  k_with "subscriptTail" => (k_here; (with_reducible show wpAny _ _ (subscriptTail _ _ (Value.ref _) (Value.int 1 _)) _ _ _); k_dflt (refine' rat_item1 ?k1 ?k2 ?k3 ?k4 ?_; (case k1 => k_asm); (case k2 => k_asm); (case k3 => k_asm); (case k4 => first | exact Src.up (by assumption) (by intro p hp; kcf_m) | exact Src.here (by kcf_m))))
  k_with "call ref" => (k_here; (with_reducible show wpAny _ _ (call (Value.ref 64) _) _ _ _); k_dflt (refine' useR ?k1 ?k2 ?k3 ?k4 ?k5 ?kK (radd_ok _ _ _ _ _ _ _ _ _ _ _ _ ?h0 ?h1 ?h2 ?h3) ?kd ?ku ?_); (case k1 => k_asm); (case k2 => k_asm); (case k3 => k_asm); (case k4 => k_asm); (case k5 => k_asm); (case kK => first | exact rfl | assumption); (case h0 => first | exact Src.up (by assumption) (by intro p hp; kcf_m) | exact Src.here (by kcf_m) | (refine' Src.int2 ?s1 ?s2; (case s1 => kcf_m); (case s2 => exact rfl))); (case h1 => first | exact Src.up (by assumption) (by intro p hp; kcf_m) | exact Src.here (by kcf_m) | (refine' Src.int2 ?s1 ?s2; (case s1 => kcf_m); (case s2 => exact rfl))); (case h2 => k_extra "small"); (case h3 => k_extra "small"); (case kd => first | exact room_up (by assumption) (by decide) | exact Nat.le_of_ble_eq_true rfl | ktr_room); (case ku => first | exact units_up (by assumption) (by decide) | exact Nat.le_of_ble_eq_true rfl | ktr_units); intro zD9 zt9 zu9 zn9 zh9 ztk9 zF9 zN9 zl9; (try dsimp only); (try k_fold))
  k_with "call ref" => (k_here; (with_reducible show wpAny _ _ (call (Value.ref 71) _) _ _ _); k_dflt (refine' useR ?k1 ?k2 ?k3 ?k4 ?k5 ?kK (rsub_ok _ _ _ _ _ _ _ _ _ _ _ _ ?h0 ?h1 ?h2 ?h3) ?kd ?ku ?_); (case k1 => k_asm); (case k2 => k_asm); (case k3 => k_asm); (case k4 => k_asm); (case k5 => k_asm); (case kK => first | exact rfl | assumption); (case h0 => first | exact Src.up (by assumption) (by intro p hp; kcf_m) | exact Src.here (by kcf_m) | (refine' Src.int2 ?s1 ?s2; (case s1 => kcf_m); (case s2 => exact rfl))); (case h1 => first | exact Src.up (by assumption) (by intro p hp; kcf_m) | exact Src.here (by kcf_m) | (refine' Src.int2 ?s1 ?s2; (case s1 => kcf_m); (case s2 => exact rfl))); (case h2 => k_extra "small"); (case h3 => k_extra "small"); (case kd => first | exact room_up (by assumption) (by decide) | exact Nat.le_of_ble_eq_true rfl | ktr_room); (case ku => first | exact units_up (by assumption) (by decide) | exact Nat.le_of_ble_eq_true rfl | ktr_units); intro zD9 zt9 zu9 zn9 zh9 ztk9 zF9 zN9 zl9; (try dsimp only); (try k_fold))
  k_with "call ref" => (k_here; (with_reducible show wpAny _ _ (call (Value.ref 78) _) _ _ _); k_dflt (refine' useR ?k1 ?k2 ?k3 ?k4 ?k5 ?kK (rmul_ok _ _ _ _ _ _ _ _ _ _ _ _ ?h0 ?h1 ?h2 ?h3) ?kd ?ku ?_); (case k1 => k_asm); (case k2 => k_asm); (case k3 => k_asm); (case k4 => k_asm); (case k5 => k_asm); (case kK => first | exact rfl | assumption); (case h0 => first | exact Src.up (by assumption) (by intro p hp; kcf_m) | exact Src.here (by kcf_m) | (refine' Src.int2 ?s1 ?s2; (case s1 => kcf_m); (case s2 => exact rfl))); (case h1 => first | exact Src.up (by assumption) (by intro p hp; kcf_m) | exact Src.here (by kcf_m) | (refine' Src.int2 ?s1 ?s2; (case s1 => kcf_m); (case s2 => exact rfl))); (case h2 => k_extra "small"); (case h3 => k_extra "small"); (case kd => first | exact room_up (by assumption) (by decide) | exact Nat.le_of_ble_eq_true rfl | ktr_room); (case ku => first | exact units_up (by assumption) (by decide) | exact Nat.le_of_ble_eq_true rfl | ktr_units); intro zD9 zt9 zu9 zn9 zh9 ztk9 zF9 zN9 zl9; (try dsimp only); (try k_fold))
  k_with "call ref" => (k_here; (with_reducible show wpAny _ _ (call (Value.ref 85) _) _ _ _); k_dflt (refine' useR ?k1 ?k2 ?k3 ?k4 ?k5 ?kK (rdiv_ok _ _ _ _ _ _ _ _ _ _ _ _ ?h0 ?h1 ?h2 ?h3 ?h4) ?kd ?ku ?_); (case k1 => k_asm); (case k2 => k_asm); (case k3 => k_asm); (case k4 => k_asm); (case k5 => k_asm); (case kK => first | exact rfl | assumption); (case h0 => first | exact Src.up (by assumption) (by intro p hp; kcf_m) | exact Src.here (by kcf_m) | (refine' Src.int2 ?s1 ?s2; (case s1 => kcf_m); (case s2 => exact rfl))); (case h1 => first | exact Src.up (by assumption) (by intro p hp; kcf_m) | exact Src.here (by kcf_m) | (refine' Src.int2 ?s1 ?s2; (case s1 => kcf_m); (case s2 => exact rfl))); (case h2 => k_extra "small"); (case h3 => k_extra "small"); (case h4 => k_extra "nonzero"); (case kd => first | exact room_up (by assumption) (by decide) | exact Nat.le_of_ble_eq_true rfl | ktr_room); (case ku => first | exact units_up (by assumption) (by decide) | exact Nat.le_of_ble_eq_true rfl | ktr_units); intro zD9 zt9 zu9 zn9 zh9 ztk9 zF9 zN9 zl9; (try dsimp only); (try k_fold))
  k_with "call ref" => (k_here; (with_reducible show wpAny _ _ (call (Value.ref 92) _) _ _ _); k_dflt (refine' useV ?k1 ?k2 ?k3 ?k4 ?k5 ?kK (is_vast_ok _ _ _ _ _ _ _ ?h0 ?h1) ?kd ?ku ?_); (case k1 => k_asm); (case k2 => k_asm); (case k3 => k_asm); (case k4 => k_asm); (case k5 => k_asm); (case kK => first | exact rfl | assumption); (case h0 => first | exact Src.up (by assumption) (by intro p hp; kcf_m) | exact Src.here (by kcf_m) | (refine' Src.int2 ?s1 ?s2; (case s1 => kcf_m); (case s2 => exact rfl))); (case h1 => assumption); (case kd => first | exact room_up (by assumption) (by decide) | exact Nat.le_of_ble_eq_true rfl | ktr_room); (case ku => first | exact units_up (by assumption) (by decide) | exact Nat.le_of_ble_eq_true rfl | ktr_units); intro zh9 ztk9 zF9 zN9; (try dsimp only); (try k_fold))
  k_with "call ref" => (k_here; (with_reducible show wpAny _ _ (call (Value.ref 99) _) _ _ _); k_dflt (refine' useZ ?k1 ?k2 ?k3 ?k4 ?k5 ?kK (rcompare_ok _ _ _ _ _ _ _ _ _ _ _ ?h0 ?h1 ?h2) ?kd ?ku ?_); (case k1 => k_asm); (case k2 => k_asm); (case k3 => k_asm); (case k4 => k_asm); (case k5 => k_asm); (case kK => first | exact rfl | assumption); (case h0 => first | exact Src.up (by assumption) (by intro p hp; kcf_m) | exact Src.here (by kcf_m) | (refine' Src.int2 ?s1 ?s2; (case s1 => kcf_m); (case s2 => exact rfl))); (case h1 => first | exact Src.up (by assumption) (by intro p hp; kcf_m) | exact Src.here (by kcf_m) | (refine' Src.int2 ?s1 ?s2; (case s1 => kcf_m); (case s2 => exact rfl))); (case h2 => k_extra "small"); (case kd => first | exact room_up (by assumption) (by decide) | exact Nat.le_of_ble_eq_true rfl | ktr_room); (case ku => first | exact units_up (by assumption) (by decide) | exact Nat.le_of_ble_eq_true rfl | ktr_units); intro zt9 zh9 ztk9 zF9 zN9; (try dsimp only); (try k_fold))
  k_with "call ref" => (k_here; (with_reducible show wpAny _ _ (call (Value.ref 106) _) _ _ _); k_dflt (refine' useV ?k1 ?k2 ?k3 ?k4 ?k5 ?kK (let_ok _ _ _ _ _ _ _ ?h0 ?h1) ?kd ?ku ?_); (case k1 => k_asm); (case k2 => k_asm); (case k3 => k_asm); (case k4 => k_asm); (case k5 => k_asm); (case kK => first | exact rfl | assumption); (case h0 => first | exact Src.up (by assumption) (by intro p hp; kcf_m) | exact Src.here (by kcf_m) | (refine' Src.int2 ?s1 ?s2; (case s1 => kcf_m); (case s2 => exact rfl))); (case h1 => k_extra "small"); (case kd => first | exact room_up (by assumption) (by decide) | exact Nat.le_of_ble_eq_true rfl | ktr_room); (case ku => first | exact units_up (by assumption) (by decide) | exact Nat.le_of_ble_eq_true rfl | ktr_units); intro zh9 ztk9 zF9 zN9; (try dsimp only); (try k_fold))
  k_with "subscriptTail" => (k_here; (with_reducible show wpAny _ _ (subscriptTail _ _ (Value.ref _) (Value.int _ _)) _ _ _); k_dflt (refine' list_item ?k1 ?k2 ?ks ?k3 ?k4 ?k5 ?k6 ?_; (case k1 => k_asm); (case k2 => assumption); (case ks => intro p hp; kcf_m); (case k3 => assumption); (case k4 => omega); (case k5 => omega); (case k6 => omega); intro zA9 zt9 zu9 zc9 zS9; (try dsimp only)))
  k_with "compareOp NotEq ref ref" => (k_here; k_dflt (refine' rat_ne ?k1 ?k2 ?k3 ?k4 ?k5 ?k6 ?_; (case k1 => k_asm); (case k2 => k_asm); (case k3 => k_asm); (case k4 => first | exact Src.up (by assumption) (by intro p hp; kcf_m) | exact Src.here (by kcf_m) | (refine' Src.int2 ?s1 ?s2; (case s1 => kcf_m); (case s2 => exact rfl))); (case k5 => first | exact Src.up (by assumption) (by intro p hp; kcf_m) | exact Src.here (by kcf_m) | (refine' Src.int2 ?s1 ?s2; (case s1 => kcf_m); (case s2 => exact rfl))); (case k6 => ktr_units)))
  k_with "compareOp Eq ref ref" => (k_here; k_dflt (refine' rat_eq ?k1 ?k2 ?k3 ?k4 ?k5 ?k6 ?_; (case k1 => k_asm); (case k2 => k_asm); (case k3 => k_asm); (case k4 => first | exact Src.up (by assumption) (by intro p hp; kcf_m) | exact Src.here (by kcf_m) | (refine' Src.int2 ?s1 ?s2; (case s1 => kcf_m); (case s2 => exact rfl))); (case k5 => first | exact Src.up (by assumption) (by intro p hp; kcf_m) | exact Src.here (by kcf_m) | (refine' Src.int2 ?s1 ?s2; (case s1 => kcf_m); (case s2 => exact rfl))); (case k6 => ktr_units)))
  k_with "call ref" => (k_here; (with_reducible show wpAny _ _ (call (Value.ref 123) _) _ _ _); k_dflt (refine' useQ ?k1 ?k2 ?k3 ?k4 ?k5 ?kK (mixed_ok _ _ _ _ _ _ _ _ _ _ _ _ _ _ ?h0 ?h1 ?h2 ?h3 ?h4 ?h5 ?h6 ?h7 ?h8 ?h9) ?kd ?ku ?_); (case k1 => k_asm); (case k2 => k_asm); (case k3 => k_asm); (case k4 => k_asm); (case k5 => k_asm); (case kK => first | exact rfl | assumption); (case h0 => exact mem_up (by assumption) (by intro p hp; kcf_m)); (case h1 => exact LV.up (by assumption) (by intro p hp; kcf_m)); (case h2 => exact mem_up (by assumption) (by intro p hp; kcf_m)); (case h3 => exact LV.up (by assumption) (by intro p hp; kcf_m)); (case h4 => assumption); (case h5 => assumption); (case h6 => assumption); (case h7 => omega); (case h8 => omega); (case h9 => assumption); (case kd => first | exact room_up (by assumption) (by decide) | exact Nat.le_of_ble_eq_true rfl | ktr_room); (case ku => first | exact units_up (by assumption) (by decide) | exact Nat.le_of_ble_eq_true rfl | ktr_units); intro zadd9 zD9 zt9 zu9 zn9 zh9 ztk9 zF9 zN9 zf9 zS9; (try dsimp only); (try k_fold))
  k_with "my enterC" => (refine' code_defC ?k1 ?k2 ?k3 ?k4 ?k5 ?kA ?kF ?kK ?k6 ?k7 ?k8 ?k9 ?kB ?kD ?_ ?c2 ?c3 ?c4; (case kA => exact rfl); (case kF => exact rfl); (case kK => assumption); (case k1 => k_asm); (case k2 => k_asm); (case k3 => k_asm); (case k4 => k_asm); (case k5 => k_asm); (case k6 => k_is); (case k7 => k_is); (case k8 => ktr_room); (case k9 => exact BindsTo.of_eq rfl); (case kB => exact rfl); (case kD => decide +kernel); (case c2 => exact rfl); (case c3 => exact rfl); (case c4 => exact rfl); k_whole; intro zg' zL' zh' ztk' zcells' zFG' zF' zN' zY' zB' zX' zT' zl1; k_cells zY'; (try simp only [List.cons_append, List.nil_append] at zN'); (try dsimp only); (try k_lift zB'); (try k_fold))
  k_with "call builtin:len" => (k_here; (with_reducible show wpAny _ _ (call (Value.builtin "len") [Value.ref _]) _ _ _); k_dflt (refine' list_len ?k1 ?k2 ?ks ?k3 ?k4 ?_; (case k1 => k_asm); (case k2 => assumption); (case ks => intro p hp; kcf_m); (case k3 => assumption); (case k4 => omega)))
  k_with "eval ListComp" => (k_here; k_dflt (refine LCg.ListComp_U (F₀ := by k_asm) (by with_unfolding_all rfl) (by decide) (by rfl) (by decide) (by rfl) ?_))
  k_with "eval Name" => (k_here; (with_reducible show wpAny _ _ (eval (Expr.Name _ _) (compEnvC _ _ _ _)) _ _ _); (with_reducible rename News _ _ _ _ => kN); k_dflt (refine kcf_cell kN (by rfl) (mem_up (by assumption) (by intro p hp; kcf_m)) (by assumption) ?_))
  k_with "newTuple" => (k_here; k_dflt (refine' my_tuple ?k1 ?k2 ?_ ?k3; (case k1 => k_asm); (case k2 => k_asm); (case k3 => (simp only [PySem.sizeLine_eq, List.length_cons, List.length_nil]; omega))); intro zD9 zh9 zF9 zN9 zl9; (try dsimp only))
  k_with "binaryOp Add ref ref" => (k_here; (with_reducible show wpAny _ _ (binaryOp _ (Value.ref _) (Value.ref _)) _ _ _); k_dflt (refine' list_add ?k1 ?k2 ?k3 ?k4 ?k5 ?_; (case k1 => k_asm); (case k2 => k_asm); (case k3 => kcf_m); (case k4 => kcf_m); (case k5 => (simp only [PySem.sizeLine_eq, List.length_cons, List.length_nil]; omega))); intro zD9 zh9 zF9 zN9 zl9; (try dsimp only))
  k_with "newList" => (k_here; k_dflt (refine' newList_K ?k1 ?k2 ?_; (case k1 => k_asm); (case k2 => k_asm); k_whole); intro zl9 zh9 zF9 zN9 zq9; (replace zq9 := ne_of_lts zq9); (try dsimp only))
  k_with "call ref" => (k_here; (with_reducible show wpAny _ _ (call (Value.ref 128) _) _ _ _); k_dflt (refine' useL ?k1 ?k2 ?k3 ?k4 ?k5 ?kK (smul_ok _ _ _ _ _ _ _ _ _ _ _ _ ?h0 ?h1 ?h2 ?h3 ?h4 ?h5 ?h6) ?kd ?ku ?_); (case k1 => k_asm); (case k2 => k_asm); (case k3 => k_asm); (case k4 => k_asm); (case k5 => k_asm); (case kK => first | exact rfl | assumption); (case h0 => exact mem_up (by assumption) (by intro p hp; kcf_m)); (case h1 => exact LV.up (by assumption) (by intro p hp; kcf_m)); (case h2 => exact mem_up (by assumption) (by intro p hp; kcf_m)); (case h3 => exact LV.up (by assumption) (by intro p hp; kcf_m)); (case h4 => omega); (case h5 => omega); (case h6 => assumption); (case kd => first | exact room_up (by assumption) (by decide) | exact Nat.le_of_ble_eq_true rfl | ktr_room); (case ku => first | exact units_up (by assumption) (by decide) | exact Nat.le_of_ble_eq_true rfl | ktr_units); intro zD9 zvs9 zc9 zadd9 zh9 ztk9 zF9 zN9 zm9 zV9 zf9; (try dsimp only); (try k_fold))
  k_with "getMethod ref" => (k_here; (with_reducible show wpAny _ _ (getMethod (Value.ref _) (Str.ofString "append") _) _ _ _); k_dflt (refine' my_method ?kN ?k1 ?k2 ?_; (case kN => k_asm); (case k1 => assumption); (case k2 => intro p hp; kcf_m)))
  k_with "call builtin:list.append" => (k_here; (with_reducible show wpAny _ _ (call (Value.builtin _) [Value.ref _, Value.ref _]) _ _ _); k_dflt (k_extra "my append"))
  k_with "call ref" => (k_here; (with_reducible show wpAny _ _ (call (Value.ref 152) _) _ _ _); k_dflt (refine' useV ?k1 ?k2 ?k3 ?k4 ?k5 ?kK (need_begin_ok _ _ _ _ _ _ _ _ _ _ _ ?h0 ?h1 ?h2 ?h3 ?h4) ?kd ?ku ?_); (case k1 => k_asm); (case k2 => k_asm); (case k3 => k_asm); (case k4 => k_asm); (case k5 => k_asm); (case kK => first | exact rfl | assumption); (case h0 => exact mem_up (by assumption) (by intro p hp; kcf_m)); (case h1 => exact LV.up (by assumption) (by intro p hp; kcf_m)); (case h2 => first | exact Src.up (by assumption) (by intro p hp; kcf_m) | exact Src.here (by kcf_m) | (refine' Src.int2 ?s1 ?s2; (case s1 => kcf_m); (case s2 => exact rfl))); (case h3 => omega); (case h4 => k_extra "small"); (case kd => first | exact room_up (by assumption) (by decide) | exact Nat.le_of_ble_eq_true rfl | ktr_room); (case ku => first | exact units_up (by assumption) (by decide) | exact Nat.le_of_ble_eq_true rfl | ktr_units); intro zh9 ztk9 zF9 zN9; (try dsimp only); (try k_fold))
  intro p loose mean mg mb dp un gd cnm cs f ccd cl outer A₀ base h₀ L m s Q E Bl F X N T hk hd hu hret
  refine wpAny_call ?_
  k_dflt cell_enter
  k_with "pyIter ref" => skip
  k_with "small" => assumption
  k_with "small" => exact ok2' (by omega)
  k_with "small" => exact ok3' (by omega)
  k_with "nonzero" => exact int_ne (by omega)
  k_with "my append" => (
    (with_reducible show wpAny _ _ (call (Value.builtin _) [Value.ref ls, Value.ref 49]) _ _ _);
    (rename Fr _ _ _ _ => aF); (rename News _ _ _ _ => aN);
    (refine' list_append2 (add2 ++ ((lo, listOf vs2.toArray k2) :: (add ++ news ++ own))) aF aN (vs := vs1) (c := k1) (l := ls) (by kcf_m) (both_of (by kcf_all) hneA) (by rw [hvl1, PySem.sizeLine_eq]; omega) ?_);
    intro h9 F9 N9; clear aN aF)
  k_with "my append" => (
    (with_reducible show wpAny _ _ (call (Value.builtin _) [Value.ref lo, Value.ref 50]) _ _ _);
    (rename Fr _ _ _ _ => aF); (rename News _ _ _ _ => aN);
    (refine' list_append2 ((ls, listOf (vs1 ++ [Value.ref 49]).toArray (k1 + 1)) :: (add ++ news ++ own)) aF aN (vs := vs2) (c := k2) (l := lo) (by kcf_m) (both_of (by kcf_all) (ne_cons hneB hsl)) (by rw [hvl2, PySem.sizeLine_eq]; omega) ?_);
    intro h9 F9 N9; clear aN aF)
  k_with "my append" => (
    (with_reducible show wpAny _ _ (call (Value.builtin _) [Value.ref ls, Value.ref _]) _ _ _);
    (fail_if_success (with_reducible show wpAny _ _ (call (Value.builtin _) [_, Value.ref 49]) _ _ _));
    (rename Fr _ _ _ _ => aF); (rename News _ _ _ _ => aN); (rename (∀ p : Addr × Obj, p ∈ _ → p.1 ≠ _) => aL1);
    (refine' list_append5 (w := w) (q := sinT a cn i i / ((i : Int) : Rat)) (add2 ++ ((lo, listOf vs2.toArray k2) :: (add ++ news ++ own))) aF aN (vs := vs1) (c := k1) (l := ls) (by kcf_m) (by kcf_m) (fun e9 => aL1 (ls, listOf vs1.toArray k1) (by kcf_m) e9.symm) (both_of (by kcf_all) hneA) (by rw [hvl1, PySem.sizeLine_eq]; omega) ?_);
    intro h9 P1 x1 y1 z1 e9 SP1 F9 N9; subst e9; clear aN aF)
  k_with "my append" => (
    (with_reducible show wpAny _ _ (call (Value.builtin _) [Value.ref lo, Value.ref _]) _ _ _);
    (fail_if_success (with_reducible show wpAny _ _ (call (Value.builtin _) [_, Value.ref 50]) _ _ _));
    (rename Fr _ _ _ _ => aF); (rename News _ _ _ _ => aN); (rename (∀ p : Addr × Obj, p ∈ _ → p.1 ≠ _) => aL2);
    (refine' list_append5 (w := w) (q := cosT a sn i i / ((i : Int) : Rat)) ((ls, listOf (vs1 ++ [Value.ref P1.1]).toArray (k1 + 1)) :: P1 :: (add ++ news ++ own)) aF aN (vs := vs2) (c := k2) (l := lo) (by kcf_m) (by kcf_m) (fun e9 => aL2 (lo, listOf vs2.toArray k2) (by kcf_m) e9.symm) (both_of (by kcf_all) (ne_cons (ne_cons hneB (aL1 (lo, listOf vs2.toArray k2) (by kcf_m)).symm) hsl)) (by rw [hvl2, PySem.sizeLine_eq]; omega) ?_);
    intro h9 P2 x2 y2 z2 e9 SP2 F9 N9; subst e9; clear aN aF)
  k_with "my loop" => (
    (with_reducible show wpAny _ _ _ (fun it s₂ => LoopAtV _ _ _ _ _ (Str.ofString "spot") _ _ _ it s₂) _ _);
    (rename Fr _ _ _ _ => lF); (rename News _ _ _ _ => lN); (rename IsRange _ _ _ _ _ _ _ _ => rgX);
    (with_unfolding_all refine' range_tot2 (n := i) (Str.ofString "one") (Str.ofString "other") (sinT a cn i) (cosT a sn i) [Str.ofString "moved"] 49 49 (by rfl) (by rfl) (by exact rgX) (small_one (by omega) (by omega) (by omega) (by omega)) (by rw [rangeSize_nat]; omega) lF (news_tail lN) (by rfl) (by rfl) ⟨[], _, _, _, _, _, _, rfl, fresh_nil, hR0 w _, hR0 w _⟩ ?_ ?_);
    focus (intro j cc1 cc2 t2 u2 add2 t9 u9 q9 t8 u8 q8 h2 tk2 own2 hj hoff2 fr2 S9 S8 F2 N2; (have ok9 := ok5 j hj); (have o1 := ok9.1); (have o2 := ok9.2.1); (have o3 := ok9.2.2.1); (have o4 := ok9.2.2.2.1); (have o5 := ok9.2.2.2.2.1); (have o6 := ok9.2.2.2.2.2.1); (have o7 := ok9.2.2.2.2.2.2.1); (have o8 := ok9.2.2.2.2.2.2.2); (have hlf1 : (ls, listOf vs1.toArray k1) ∈ (ls, listOf vs1.toArray k1) :: (lo, listOf vs2.toArray k2) :: (add ++ news ++ own) := .head _); (have hlf2 : (lo, listOf vs2.toArray k2) ∈ (ls, listOf vs1.toArray k1) :: (lo, listOf vs2.toArray k2) :: (add ++ news ++ own) := .tail _ (.head _)); (have sk : Sm ((1 + (j : Int) : Int) : Rat) := sm_int (by omega)); clear lF lN rgX);
    rotate_left;
    focus (intro cc1 cc2 u2 add2 t9 u9 q9 t8 u8 q8 h2 tk2 fr2 S9 S8 F2 N2; (have hneA := ne_both fr2 hneB hneA0 hsl); (have hseA : Seen (ls, listOf vs1.toArray k1) ((ls, listOf vs1.toArray k1) :: (lo, listOf vs2.toArray k2) :: (add ++ news ++ own)) := .head _); (have hseB : Seen (lo, listOf vs2.toArray k2) ((lo, listOf vs2.toArray k2) :: (add ++ news ++ own)) := .head _); clear lF lN rgX);
    rotate_right;
    all_goals (try k_fold))
  k_with "my loop" => (
    (with_reducible show wpAny _ _ _ (fun it s₂ => LoopAtV _ _ _ _ _ (Str.ofString "at") _ _ _ it s₂) _ _);
    (rename Fr _ _ _ _ => lF); (rename News _ _ _ _ => lN); (rename IsRange _ _ _ _ _ _ _ _ => rgX);
    (with_unfolding_all refine' range_lst2 (n := n) (B := news) (Str.ofString "sines") (Str.ofString "others") sn cn [Str.ofString "one", Str.ofString "other", Str.ofString "spot", Str.ofString "moved"] _ _ (by rfl) (by rfl) (by exact rgX) (small_one (by omega) (by omega) (by omega) (by omega)) (by rw [rangeSize_nat]; omega) lF (two_start lN) (by rfl) (by rfl) ⟨[], 0, [], 0, [], rfl, fresh_nil, (by assumption), (by assumption), LV.nil, LV.nil⟩ ?_ ?_);
    focus (intro i ls lo t u vs1 k1 vs2 k2 add h tk own hi hoff fr hnl1 hnl2 hv1 hv2 F1 N1; (have ok9 := ok i hi); (have ok1 := ok9.1); (have ok2 := ok9.2.1); (have ok3 := ok9.2.2.1); (have ok4 := ok9.2.2.2.1); (have ok5 := ok9.2.2.2.2); (have hvl1 := hv1.1); (have hvl2 := hv2.1); (have hsl : ls ≠ lo := hnl2 _ (.head _)); (have hneB := ne_own2 (fun p hp => hnl2 p (.tail _ hp)) hoff); (have hneA0 := ne_own3 hnl1 hoff); (have si : Sm ((i : Int) : Rat) := sm_int (by omega)); (have ok2' : i ≠ 0 → Sm (sinT a cn i i / ((i : Int) : Rat)) := (fun hi0 => by have h9 := hs i hi; rw [if_neg hi0] at h9; rw [← h9]; exact ok3)); (have ok3' : i ≠ 0 → Sm (cosT a sn i i / ((i : Int) : Rat)) := (fun hi0 => by have h9 := hc i hi; rw [if_neg hi0] at h9; rw [← h9]; exact ok4)); clear lF lN rgX);
    rotate_left;
    focus (intro ls lo u vs1 k1 vs2 k2 add h tk fr hnl1 hnl2 hv1 hv2 F1 N1; clear lF lN rgX);
    rotate_right;
    all_goals (try k_fold))
  k_steps
  all_goals first
    | (exfalso; omega)
    | (rename News _ _ _ _ => kN
       have f6 := fresh6 kN (by assumption) (by assumption) (by assumption) (by assumption) (by assumption) (by assumption)
       exact my_end (_, _) ([_, _, _, _, _, _] ++ (add2 ++ ((ls, listOf vs1.toArray k1) :: (lo, listOf vs2.toArray k2) :: (add ++ news ++ own)))) (by assumption) kN (by kst_all) (by kst_same) ⟨_ :: _ :: _ :: _ :: _ :: _ :: add2, _, _, _, _, _, _, rfl, Fresh.append fr2 (fresh_sub f6 fun p hp => List.mem_append_left _ hp), Src.here (.tail _ (.tail _ (.head _))), Src.here (.head _)⟩ (in_own [_, _, _, _, _, _]) (own_in [_, _, _, _, _, _]) (own_ext hoff2 f6))
    | (have esn : sn i = 0 := by rw [hs i hi, if_pos (by omega)]
       have ecn : cn i = 1 := by rw [hc i hi, if_pos (by omega)]
       exact my_end (ls, lo) ((ls, listOf (vs1 ++ [Value.ref 49]).toArray (k1 + 1)) :: (lo, listOf (vs2 ++ [Value.ref 50]).toArray (k2 + 1)) :: (add ++ news)) F9 N9 (by kst_all) (by kst_same)
         ⟨vs1 ++ [Value.ref 49], k1 + 1, vs2 ++ [Value.ref 50], k2 + 1, add, rfl, fr, hnl1, hnl2, hv1.snoc (by rw [esn]; exact hR0 w _), hv2.snoc (by rw [ecn]; exact hR1 w _)⟩
         in_swap (fun p hp => .tail _ (.tail _ (List.mem_append_right _ hp))) hoff)
    | (have esn : sn i = sinT a cn i i / ((i : Int) : Rat) := by rw [hs i hi, if_neg (by omega)]
       have ecn : cn i = cosT a sn i i / ((i : Int) : Rat) := by rw [hc i hi, if_neg (by omega)]
       exact my_end (ls, lo) ((ls, listOf (vs1 ++ [Value.ref P1.1]).toArray (k1 + 1)) :: (lo, listOf (vs2 ++ [Value.ref P2.1]).toArray (k2 + 1)) :: P2 :: P1 :: (add ++ news)) F9 N9 (by kst_all) (by kst_same)
         ⟨vs1 ++ [Value.ref P1.1], k1 + 1, vs2 ++ [Value.ref P2.1], k2 + 1, P2 :: P1 :: add, rfl, Fresh.consP (Fresh.consP fr (fun p hp => aL1 p (by kcf_m))) (fun p hp => aL2 p (by kcf_m)),
           ne_consP (ne_consP hnl1 (aL1 (ls, listOf vs1.toArray k1) (by kcf_m)).symm) (aL2 (ls, listOf (vs1 ++ [Value.ref P1.1]).toArray (k1 + 1)) (by kcf_m)).symm,
           ne_cons (ne_consP (ne_consP (fun p hp => hnl2 p (.tail _ hp)) (aL1 (lo, listOf vs2.toArray k2) (by kcf_m)).symm) (aL2 (lo, listOf vs2.toArray k2) (by kcf_m)).symm) hsl,
           (hv1.up fun p hp => .tail _ (.tail _ hp)).snoc (by rw [esn]; exact SP1.up fun p hp => by rw [List.mem_singleton.mp hp]; exact .tail _ (.head _)),
           (hv2.up fun p hp => .tail _ (.tail _ hp)).snoc (by rw [ecn]; exact SP2.up fun p hp => by rw [List.mem_singleton.mp hp]; exact .head _)⟩
         in_swap4 (fun p hp => .tail _ (.tail _ (.tail _ (.tail _ (List.mem_append_right _ hp))))) (own_cons2 hoff (fun p hp => aL1 p (by kcf_m)) (fun p hp => aL2 p (by kcf_m))))
    | (rename News _ _ _ _ => kN
       rename (∀ p : Addr × Obj, p ∈ _ :: _ → p.1 ≠ _) => lT
       exact hret _ _ _ _ (by assumption) kN (Ext.trans (b := (ls, listOf vs1.toArray k1) :: (lo, listOf vs2.toArray k2) :: (add ++ news)) ⟨(ls, _) :: (lo, _) :: add, rfl, Fresh.cons (Fresh.cons fr fun p hp => hnl2 p (.tail _ (List.mem_append_right _ hp))) fun p hp => hnl1 p (List.mem_append_right _ hp)⟩ (Ext.one lT))
         ⟨_, ls, lo, vs1, vs2, k1, k2, rfl, .head _, .tail _ (.head _), .tail _ (.tail _ (.head _)), hv1.up fun p hp => .tail _ (.tail _ (.tail _ hp)), hv2.up fun p hp => .tail _ (.tail _ (.tail _ hp))⟩)
theorem pair_item0 {prog : Program} {w : World} {Ar : Around} {E : Value → Shared → Prop} {s : Shared} {h₀ : Heap} {L T x y : Addr} {nw : Led} {value slice : PySem.Expr} {z : MTok} {Q : Value → Shared → Prop} (N : News h₀ L s.heap nw) (hT : (T, pObj x y) ∈ nw)
    (h : Q (.ref x) s) (hs : subscripted slice false (.ref T) (.int 0 z) = operate [.ref T, .int 0 z] (getItem (.ref T) (.int 0 z)) := by with_unfolding_all rfl) :
    wpAny (model prog w) Ar (subscriptTail value slice (.ref T) (.int 0 z)) Q E s :=
  item_tupleT (l := [.ref x, .ref y]) (j := 0) ⟨_, (N _ hT).1, rfl, _, rfl⟩ (by decide) (by decide) rfl rfl h hs
theorem pair_item1 {prog : Program} {w : World} {Ar : Around} {E : Value → Shared → Prop} {s : Shared} {h₀ : Heap} {L T x y : Addr} {nw : Led} {value slice : PySem.Expr} {z : MTok} {Q : Value → Shared → Prop} (N : News h₀ L s.heap nw) (hT : (T, pObj x y) ∈ nw)
    (h : Q (.ref y) s) (hs : subscripted slice false (.ref T) (.int 1 z) = operate [.ref T, .int 1 z] (getItem (.ref T) (.int 1 z)) := by with_unfolding_all rfl) :
    wpAny (model prog w) Ar (subscriptTail value slice (.ref T) (.int 1 z)) Q E s :=
  item_tupleT (l := [.ref x, .ref y]) (j := 1) ⟨_, (N _ hT).1, rfl, _, rfl⟩ (by decide) (by decide) rfl rfl h hs
theorem ssin_ok (w : World) (la : Addr) (va : List Value) (ca n : Nat) (a sn cn : Int → Rat) (news : Led) (hla : (la, listOf va.toArray ca) ∈ news) (hva : LV w news va n a)
    (hn : (n : Int) < 2 ^ 20) (ha0 : a 0 = 0) (hs : ∀ i : Nat, i < n → sn i = if i = 0 then 0 else sinT a cn i i / ((i : Int) : Rat)) (hc : ∀ i : Nat, i < n → cn i = if i = 0 then 1 else cosT a sn i i / ((i : Int) : Rat))
    (ok : ∀ i : Nat, i < n → Sm (sinT a cn i i) ∧ Sm (cosT a sn i i) ∧ Sm (sn i) ∧ Sm (cn i) ∧ ∀ j : Nat, j < i → Sm (a (1 + j)) ∧ Sm (((1 + (j : Int) : Int) : Rat) * a (1 + j)) ∧ Sm (cn (i - (1 + j))) ∧ Sm (sn (i - (1 + j))) ∧ Sm (((1 + (j : Int) : Int) : Rat) * a (1 + j) * cn (i - (1 + j))) ∧ Sm (((1 + (j : Int) : Int) : Rat) * a (1 + j) * sn (i - (1 + j))) ∧ Sm (sinT a cn i j) ∧ Sm (cosT a sn i j)) :
    Cl w 180 [.ref la] 6 news (NewL w n sn) := by
  w_top off
  unfold Cl
  k_fill
  k_with_none
  k_with "call ref" => (k_here; (with_reducible show wpAny _ _ (call (Value.ref 41) _) _ _ _); k_dflt (refine' useI ?k1 ?k2 ?k3 ?k4 ?k5 ?kK (gcd_ok _ _ _ _ _ _ ) ?kd ?ku ?_); (case k1 => k_asm); (case k2 => k_asm); (case k3 => k_asm); (case k4 => k_asm); (case k5 => k_asm); (case kK => first | exact rfl | assumption); (case kd => first | exact room_up (by assumption) (by decide) | exact Nat.le_of_ble_eq_true rfl | ktr_room); (case ku => first | exact units_up (by assumption) (by decide) | exact Nat.le_of_ble_eq_true rfl | ktr_units); intro zt9 zh9 ztk9 zF9 zN9; (try dsimp only); (try k_fold))
  k_with "call ref" => ((with_reducible show wpAny _ _ (call (Value.ref 31) _) _ _ _); exfalso; first | contradiction | omega)
  k_with "binaryOp FloorDiv int int" => (k_here; refine floordiv_int ?k1 ?_ (Or.inl (PyProof.noPylong_of_log2 ?k2)); (case k1 => first | assumption | omega); (case k2 => assumption))
  k_with "call ref" => (k_here; (with_reducible show wpAny _ _ (call (Value.ref 57) _) _ _ _); k_dflt (refine' useR ?k1 ?k2 ?k3 ?k4 ?k5 ?kK (rat_ok _ _ _ _ _ _ ?h0 ?h1) ?kd ?ku ?_); (case k1 => k_asm); (case k2 => k_asm); (case k3 => k_asm); (case k4 => k_asm); (case k5 => k_asm); (case kK => first | exact rfl | assumption); (case h0 => assumption); (case h1 => assumption); (case kd => first | exact room_up (by assumption) (by decide) | exact Nat.le_of_ble_eq_true rfl | ktr_room); (case ku => first | exact units_up (by assumption) (by decide) | exact Nat.le_of_ble_eq_true rfl | ktr_units); intro zD9 zt9 zu9 zn9 zh9 ztk9 zF9 zN9 zl9; (try dsimp only); (try k_fold))
  k_with "subscriptTail" => (k_here; (with_reducible show wpAny _ _ (subscriptTail _ _ (Value.ref _) (Value.int 0 _)) _ _ _); k_dflt (refine' rat_item0 ?k1 ?k2 ?k3 ?k4 ?_; (case k1 => k_asm); (case k2 => k_asm); (case k3 => k_asm); (case k4 => first | exact Src.up (by assumption) (by intro p hp; kcf_m) | exact Src.here (by kcf_m))))
  k_with "subscriptTail" => (k_here; (with_reducible show wpAny _ _ (subscriptTail _ _ (Value.ref _) (Value.int 1 _)) _ _ _); k_dflt (refine' rat_item1 ?k1 ?k2 ?k3 ?k4 ?_; (case k1 => k_asm); (case k2 => k_asm); (case k3 => k_asm); (case k4 => first | exact Src.up (by assumption) (by intro p hp; kcf_m) | exact Src.here (by kcf_m))))
  k_with "call ref" => (k_here; (with_reducible show wpAny _ _ (call (Value.ref 64) _) _ _ _); k_dflt (refine' useR ?k1 ?k2 ?k3 ?k4 ?k5 ?kK (radd_ok _ _ _ _ _ _ _ _ _ _ _ _ ?h0 ?h1 ?h2 ?h3) ?kd ?ku ?_); (case k1 => k_asm); (case k2 => k_asm); (case k3 => k_asm); (case k4 => k_asm); (case k5 => k_asm); (case kK => first | exact rfl | assumption); (case h0 => first | exact Src.up (by assumption) (by intro p hp; kcf_m) | exact Src.here (by kcf_m) | (refine' Src.int2 ?s1 ?s2; (case s1 => kcf_m); (case s2 => exact rfl))); (case h1 => first | exact Src.up (by assumption) (by intro p hp; kcf_m) | exact Src.here (by kcf_m) | (refine' Src.int2 ?s1 ?s2; (case s1 => kcf_m); (case s2 => exact rfl))); (case h2 => k_extra "small"); (case h3 => k_extra "small"); (case kd => first | exact room_up (by assumption) (by decide) | exact Nat.le_of_ble_eq_true rfl | ktr_room); (case ku => first | exact units_up (by assumption) (by decide) | exact Nat.le_of_ble_eq_true rfl | ktr_units); intro zD9 zt9 zu9 zn9 zh9 ztk9 zF9 zN9 zl9; (try dsimp only); (try k_fold))
  k_with "call ref" => (k_here; (with_reducible show wpAny _ _ (call (Value.ref 71) _) _ _ _); k_dflt (refine' useR ?k1 ?k2 ?k3 ?k4 ?k5 ?kK (rsub_ok _ _ _ _ _ _ _ _ _ _ _ _ ?h0 ?h1 ?h2 ?h3) ?kd ?ku ?_); (case k1 => k_asm); (case k2 => k_asm); (case k3 => k_asm); (case k4 => k_asm); (case k5 => k_asm); (case kK => first | exact rfl | assumption); (case h0 => first | exact Src.up (by assumption) (by intro p hp; kcf_m) | exact Src.here (by kcf_m) | (refine' Src.int2 ?s1 ?s2; (case s1 => kcf_m); (case s2 => exact rfl))); (case h1 => first | exact Src.up (by assumption) (by intro p hp; kcf_m) | exact Src.here (by kcf_m) | (refine' Src.int2 ?s1 ?s2; (case s1 => kcf_m); (case s2 => exact rfl))); (case h2 => k_extra "small"); (case h3 => k_extra "small"); (case kd => first | exact room_up (by assumption) (by decide) | exact Nat.le_of_ble_eq_true rfl | ktr_room); (case ku => first | exact units_up (by assumption) (by decide) | exact Nat.le_of_ble_eq_true rfl | ktr_units); intro zD9 zt9 zu9 zn9 zh9 ztk9 zF9 zN9 zl9; (try dsimp only); (try k_fold))
  k_with "call ref" => (k_here; (with_reducible show wpAny _ _ (call (Value.ref 78) _) _ _ _); k_dflt (refine' useR ?k1 ?k2 ?k3 ?k4 ?k5 ?kK (rmul_ok _ _ _ _ _ _ _ _ _ _ _ _ ?h0 ?h1 ?h2 ?h3) ?kd ?ku ?_); (case k1 => k_asm); (case k2 => k_asm); (case k3 => k_asm); (case k4 => k_asm); (case k5 => k_asm); (case kK => first | exact rfl | assumption); (case h0 => first | exact Src.up (by assumption) (by intro p hp; kcf_m) | exact Src.here (by kcf_m) | (refine' Src.int2 ?s1 ?s2; (case s1 => kcf_m); (case s2 => exact rfl))); (case h1 => first | exact Src.up (by assumption) (by intro p hp; kcf_m) | exact Src.here (by kcf_m) | (refine' Src.int2 ?s1 ?s2; (case s1 => kcf_m); (case s2 => exact rfl))); (case h2 => k_extra "small"); (case h3 => k_extra "small"); (case kd => first | exact room_up (by assumption) (by decide) | exact Nat.le_of_ble_eq_true rfl | ktr_room); (case ku => first | exact units_up (by assumption) (by decide) | exact Nat.le_of_ble_eq_true rfl | ktr_units); intro zD9 zt9 zu9 zn9 zh9 ztk9 zF9 zN9 zl9; (try dsimp only); (try k_fold))
  k_with "call ref" => (k_here; (with_reducible show wpAny _ _ (call (Value.ref 85) _) _ _ _); k_dflt (refine' useR ?k1 ?k2 ?k3 ?k4 ?k5 ?kK (rdiv_ok _ _ _ _ _ _ _ _ _ _ _ _ ?h0 ?h1 ?h2 ?h3 ?h4) ?kd ?ku ?_); (case k1 => k_asm); (case k2 => k_asm); (case k3 => k_asm); (case k4 => k_asm); (case k5 => k_asm); (case kK => first | exact rfl | assumption); (case h0 => first | exact Src.up (by assumption) (by intro p hp; kcf_m) | exact Src.here (by kcf_m) | (refine' Src.int2 ?s1 ?s2; (case s1 => kcf_m); (case s2 => exact rfl))); (case h1 => first | exact Src.up (by assumption) (by intro p hp; kcf_m) | exact Src.here (by kcf_m) | (refine' Src.int2 ?s1 ?s2; (case s1 => kcf_m); (case s2 => exact rfl))); (case h2 => k_extra "small"); (case h3 => k_extra "small"); (case h4 => k_extra "nonzero"); (case kd => first | exact room_up (by assumption) (by decide) | exact Nat.le_of_ble_eq_true rfl | ktr_room); (case ku => first | exact units_up (by assumption) (by decide) | exact Nat.le_of_ble_eq_true rfl | ktr_units); intro zD9 zt9 zu9 zn9 zh9 ztk9 zF9 zN9 zl9; (try dsimp only); (try k_fold))
  k_with "call ref" => (k_here; (with_reducible show wpAny _ _ (call (Value.ref 92) _) _ _ _); k_dflt (refine' useV ?k1 ?k2 ?k3 ?k4 ?k5 ?kK (is_vast_ok _ _ _ _ _ _ _ ?h0 ?h1) ?kd ?ku ?_); (case k1 => k_asm); (case k2 => k_asm); (case k3 => k_asm); (case k4 => k_asm); (case k5 => k_asm); (case kK => first | exact rfl | assumption); (case h0 => first | exact Src.up (by assumption) (by intro p hp; kcf_m) | exact Src.here (by kcf_m) | (refine' Src.int2 ?s1 ?s2; (case s1 => kcf_m); (case s2 => exact rfl))); (case h1 => assumption); (case kd => first | exact room_up (by assumption) (by decide) | exact Nat.le_of_ble_eq_true rfl | ktr_room); (case ku => first | exact units_up (by assumption) (by decide) | exact Nat.le_of_ble_eq_true rfl | ktr_units); intro zh9 ztk9 zF9 zN9; (try dsimp only); (try k_fold))
  k_with "call ref" => (k_here; (with_reducible show wpAny _ _ (call (Value.ref 99) _) _ _ _); k_dflt (refine' useZ ?k1 ?k2 ?k3 ?k4 ?k5 ?kK (rcompare_ok _ _ _ _ _ _ _ _ _ _ _ ?h0 ?h1 ?h2) ?kd ?ku ?_); (case k1 => k_asm); (case k2 => k_asm); (case k3 => k_asm); (case k4 => k_asm); (case k5 => k_asm); (case kK => first | exact rfl | assumption); (case h0 => first | exact Src.up (by assumption) (by intro p hp; kcf_m) | exact Src.here (by kcf_m) | (refine' Src.int2 ?s1 ?s2; (case s1 => kcf_m); (case s2 => exact rfl))); (case h1 => first | exact Src.up (by assumption) (by intro p hp; kcf_m) | exact Src.here (by kcf_m) | (refine' Src.int2 ?s1 ?s2; (case s1 => kcf_m); (case s2 => exact rfl))); (case h2 => k_extra "small"); (case kd => first | exact room_up (by assumption) (by decide) | exact Nat.le_of_ble_eq_true rfl | ktr_room); (case ku => first | exact units_up (by assumption) (by decide) | exact Nat.le_of_ble_eq_true rfl | ktr_units); intro zt9 zh9 ztk9 zF9 zN9; (try dsimp only); (try k_fold))
  k_with "call ref" => (k_here; (with_reducible show wpAny _ _ (call (Value.ref 106) _) _ _ _); k_dflt (refine' useV ?k1 ?k2 ?k3 ?k4 ?k5 ?kK (let_ok _ _ _ _ _ _ _ ?h0 ?h1) ?kd ?ku ?_); (case k1 => k_asm); (case k2 => k_asm); (case k3 => k_asm); (case k4 => k_asm); (case k5 => k_asm); (case kK => first | exact rfl | assumption); (case h0 => first | exact Src.up (by assumption) (by intro p hp; kcf_m) | exact Src.here (by kcf_m) | (refine' Src.int2 ?s1 ?s2; (case s1 => kcf_m); (case s2 => exact rfl))); (case h1 => k_extra "small"); (case kd => first | exact room_up (by assumption) (by decide) | exact Nat.le_of_ble_eq_true rfl | ktr_room); (case ku => first | exact units_up (by assumption) (by decide) | exact Nat.le_of_ble_eq_true rfl | ktr_units); intro zh9 ztk9 zF9 zN9; (try dsimp only); (try k_fold))
  k_with "subscriptTail" => (k_here; (with_reducible show wpAny _ _ (subscriptTail _ _ (Value.ref _) (Value.int _ _)) _ _ _); k_dflt (refine' list_item ?k1 ?k2 ?ks ?k3 ?k4 ?k5 ?k6 ?_; (case k1 => k_asm); (case k2 => assumption); (case ks => intro p hp; kcf_m); (case k3 => assumption); (case k4 => omega); (case k5 => omega); (case k6 => omega); intro zA9 zt9 zu9 zc9 zS9; (try dsimp only)))
  k_with "compareOp NotEq ref ref" => (k_here; k_dflt (refine' rat_ne ?k1 ?k2 ?k3 ?k4 ?k5 ?k6 ?_; (case k1 => k_asm); (case k2 => k_asm); (case k3 => k_asm); (case k4 => first | exact Src.up (by assumption) (by intro p hp; kcf_m) | exact Src.here (by kcf_m) | (refine' Src.int2 ?s1 ?s2; (case s1 => kcf_m); (case s2 => exact rfl))); (case k5 => first | exact Src.up (by assumption) (by intro p hp; kcf_m) | exact Src.here (by kcf_m) | (refine' Src.int2 ?s1 ?s2; (case s1 => kcf_m); (case s2 => exact rfl))); (case k6 => ktr_units)))
  k_with "compareOp Eq ref ref" => (k_here; k_dflt (refine' rat_eq ?k1 ?k2 ?k3 ?k4 ?k5 ?k6 ?_; (case k1 => k_asm); (case k2 => k_asm); (case k3 => k_asm); (case k4 => first | exact Src.up (by assumption) (by intro p hp; kcf_m) | exact Src.here (by kcf_m) | (refine' Src.int2 ?s1 ?s2; (case s1 => kcf_m); (case s2 => exact rfl))); (case k5 => first | exact Src.up (by assumption) (by intro p hp; kcf_m) | exact Src.here (by kcf_m) | (refine' Src.int2 ?s1 ?s2; (case s1 => kcf_m); (case s2 => exact rfl))); (case k6 => ktr_units)))
  k_with "call ref" => (k_here; (with_reducible show wpAny _ _ (call (Value.ref 123) _) _ _ _); k_dflt (refine' useQ ?k1 ?k2 ?k3 ?k4 ?k5 ?kK (mixed_ok _ _ _ _ _ _ _ _ _ _ _ _ _ _ ?h0 ?h1 ?h2 ?h3 ?h4 ?h5 ?h6 ?h7 ?h8 ?h9) ?kd ?ku ?_); (case k1 => k_asm); (case k2 => k_asm); (case k3 => k_asm); (case k4 => k_asm); (case k5 => k_asm); (case kK => first | exact rfl | assumption); (case h0 => exact mem_up (by assumption) (by intro p hp; kcf_m)); (case h1 => exact LV.up (by assumption) (by intro p hp; kcf_m)); (case h2 => exact mem_up (by assumption) (by intro p hp; kcf_m)); (case h3 => exact LV.up (by assumption) (by intro p hp; kcf_m)); (case h4 => assumption); (case h5 => assumption); (case h6 => assumption); (case h7 => omega); (case h8 => omega); (case h9 => assumption); (case kd => first | exact room_up (by assumption) (by decide) | exact Nat.le_of_ble_eq_true rfl | ktr_room); (case ku => first | exact units_up (by assumption) (by decide) | exact Nat.le_of_ble_eq_true rfl | ktr_units); intro zadd9 zD9 zt9 zu9 zn9 zh9 ztk9 zF9 zN9 zf9 zS9; (try dsimp only); (try k_fold))
  k_with "my enterC" => (refine' code_defC ?k1 ?k2 ?k3 ?k4 ?k5 ?kA ?kF ?kK ?k6 ?k7 ?k8 ?k9 ?kB ?kD ?_ ?c2 ?c3 ?c4; (case kA => exact rfl); (case kF => exact rfl); (case kK => assumption); (case k1 => k_asm); (case k2 => k_asm); (case k3 => k_asm); (case k4 => k_asm); (case k5 => k_asm); (case k6 => k_is); (case k7 => k_is); (case k8 => ktr_room); (case k9 => exact BindsTo.of_eq rfl); (case kB => exact rfl); (case kD => decide +kernel); (case c2 => exact rfl); (case c3 => exact rfl); (case c4 => exact rfl); k_whole; intro zg' zL' zh' ztk' zcells' zFG' zF' zN' zY' zB' zX' zT' zl1; k_cells zY'; (try simp only [List.cons_append, List.nil_append] at zN'); (try dsimp only); (try k_lift zB'); (try k_fold))
  k_with "call builtin:len" => (k_here; (with_reducible show wpAny _ _ (call (Value.builtin "len") [Value.ref _]) _ _ _); k_dflt (refine' list_len ?k1 ?k2 ?ks ?k3 ?k4 ?_; (case k1 => k_asm); (case k2 => assumption); (case ks => intro p hp; kcf_m); (case k3 => assumption); (case k4 => omega)))
  k_with "eval ListComp" => (k_here; k_dflt (refine LCg.ListComp_U (F₀ := by k_asm) (by with_unfolding_all rfl) (by decide) (by rfl) (by decide) (by rfl) ?_))
  k_with "eval Name" => (k_here; (with_reducible show wpAny _ _ (eval (Expr.Name _ _) (compEnvC _ _ _ _)) _ _ _); (with_reducible rename News _ _ _ _ => kN); k_dflt (refine kcf_cell kN (by rfl) (mem_up (by assumption) (by intro p hp; kcf_m)) (by assumption) ?_))
  k_with "newTuple" => (k_here; k_dflt (refine' my_tuple ?k1 ?k2 ?_ ?k3; (case k1 => k_asm); (case k2 => k_asm); (case k3 => (simp only [PySem.sizeLine_eq, List.length_cons, List.length_nil]; omega))); intro zD9 zh9 zF9 zN9 zl9; (try dsimp only))
  k_with "binaryOp Add ref ref" => (k_here; (with_reducible show wpAny _ _ (binaryOp _ (Value.ref _) (Value.ref _)) _ _ _); k_dflt (refine' list_add ?k1 ?k2 ?k3 ?k4 ?k5 ?_; (case k1 => k_asm); (case k2 => k_asm); (case k3 => kcf_m); (case k4 => kcf_m); (case k5 => (simp only [PySem.sizeLine_eq, List.length_cons, List.length_nil]; omega))); intro zD9 zh9 zF9 zN9 zl9; (try dsimp only))
  k_with "newList" => (k_here; k_dflt (refine' newList_K ?k1 ?k2 ?_; (case k1 => k_asm); (case k2 => k_asm); k_whole); intro zl9 zh9 zF9 zN9 zq9; (replace zq9 := ne_of_lts zq9); (try dsimp only))
  k_with "call ref" => (k_here; (with_reducible show wpAny _ _ (call (Value.ref 128) _) _ _ _); k_dflt (refine' useL ?k1 ?k2 ?k3 ?k4 ?k5 ?kK (smul_ok _ _ _ _ _ _ _ _ _ _ _ _ ?h0 ?h1 ?h2 ?h3 ?h4 ?h5 ?h6) ?kd ?ku ?_); (case k1 => k_asm); (case k2 => k_asm); (case k3 => k_asm); (case k4 => k_asm); (case k5 => k_asm); (case kK => first | exact rfl | assumption); (case h0 => exact mem_up (by assumption) (by intro p hp; kcf_m)); (case h1 => exact LV.up (by assumption) (by intro p hp; kcf_m)); (case h2 => exact mem_up (by assumption) (by intro p hp; kcf_m)); (case h3 => exact LV.up (by assumption) (by intro p hp; kcf_m)); (case h4 => omega); (case h5 => omega); (case h6 => assumption); (case kd => first | exact room_up (by assumption) (by decide) | exact Nat.le_of_ble_eq_true rfl | ktr_room); (case ku => first | exact units_up (by assumption) (by decide) | exact Nat.le_of_ble_eq_true rfl | ktr_units); intro zD9 zvs9 zc9 zadd9 zh9 ztk9 zF9 zN9 zm9 zV9 zf9; (try dsimp only); (try k_fold))
  k_with "getMethod ref" => (k_here; (with_reducible show wpAny _ _ (getMethod (Value.ref _) (Str.ofString "append") _) _ _ _); k_dflt (refine' my_method ?kN ?k1 ?k2 ?_; (case kN => k_asm); (case k1 => assumption); (case k2 => intro p hp; kcf_m)))
  k_with "call builtin:list.append" => (k_here; (with_reducible show wpAny _ _ (call (Value.builtin _) [Value.ref _, Value.ref _]) _ _ _); k_dflt (k_extra "my append"))
  k_with "call ref" => (k_here; (with_reducible show wpAny _ _ (call (Value.ref 152) _) _ _ _); k_dflt (refine' useV ?k1 ?k2 ?k3 ?k4 ?k5 ?kK (need_begin_ok _ _ _ _ _ _ _ _ _ _ _ ?h0 ?h1 ?h2 ?h3 ?h4) ?kd ?ku ?_); (case k1 => k_asm); (case k2 => k_asm); (case k3 => k_asm); (case k4 => k_asm); (case k5 => k_asm); (case kK => first | exact rfl | assumption); (case h0 => exact mem_up (by assumption) (by intro p hp; kcf_m)); (case h1 => exact LV.up (by assumption) (by intro p hp; kcf_m)); (case h2 => first | exact Src.up (by assumption) (by intro p hp; kcf_m) | exact Src.here (by kcf_m) | (refine' Src.int2 ?s1 ?s2; (case s1 => kcf_m); (case s2 => exact rfl))); (case h3 => omega); (case h4 => k_extra "small"); (case kd => first | exact room_up (by assumption) (by decide) | exact Nat.le_of_ble_eq_true rfl | ktr_room); (case ku => first | exact units_up (by assumption) (by decide) | exact Nat.le_of_ble_eq_true rfl | ktr_units); intro zh9 ztk9 zF9 zN9; (try dsimp only); (try k_fold))
  k_with "call ref" => (k_here; (with_reducible show wpAny _ _ (call (Value.ref 173) _) _ _ _); k_dflt (refine' Cl.use ?k1 ?k2 ?k3 ?k4 ?k5 ?kK (ssin_cos_ok _ _ _ _ _ _ _ _ _ ?h0 ?h1 ?h2 ?h3 ?h4 ?h5 ?h6) ?kd ?ku ?_); (case k1 => k_asm); (case k2 => k_asm); (case k3 => k_asm); (case k4 => k_asm); (case k5 => k_asm); (case kK => first | exact rfl | assumption); (case h0 => exact mem_up (by assumption) (by intro p hp; kcf_m)); (case h1 => exact LV.up (by assumption) (by intro p hp; kcf_m)); (case h2 => omega); (case h3 => assumption); (case h4 => assumption); (case h5 => assumption); (case h6 => assumption); (case kd => first | exact room_up (by assumption) (by decide) | exact Nat.le_of_ble_eq_true rfl | ktr_room); (case ku => first | exact units_up (by assumption) (by decide) | exact Nat.le_of_ble_eq_true rfl | ktr_units); intro zv9 zcur9 zh9 ztk9 zF9 zN9 zx9 zp9; obtain ⟨zT9, zxa9, zxb9, zvs9, zus9, zc9, zd9, ze9, zmT9, zmx9, zmy9, zVx9, zVy9⟩ := zp9; subst ze9; obtain ⟨zadd9, ze9', zf9⟩ := zx9; subst zcur9; (try dsimp only); (try k_fold))
  k_with "subscriptTail" => (k_here; (with_reducible show wpAny _ _ (subscriptTail _ _ (Value.ref _) (Value.int 0 _)) _ _ _); k_dflt (refine' pair_item0 ?k1 ?k2 ?_; (case k1 => k_asm); (case k2 => assumption)))
  k_with "subscriptTail" => (k_here; (with_reducible show wpAny _ _ (subscriptTail _ _ (Value.ref _) (Value.int 1 _)) _ _ _); k_dflt (refine' pair_item1 ?k1 ?k2 ?_; (case k1 => k_asm); (case k2 => assumption)))
  intro p loose mean mg mb dp un gd cnm cs f ccd cl outer A₀ base h₀ L m s Q E Bl F X N T hk hd hu hret
  refine wpAny_call ?_
  k_dflt cell_enter
  k_steps
  rename News _ _ _ _ => kN
  rename Fresh _ _ => kf
  exact hret _ _ _ _ (by assumption) kN ⟨_, rfl, kf⟩ ⟨_, _, _, rfl, by assumption, by assumption⟩
theorem scos_ok (w : World) (la : Addr) (va : List Value) (ca n : Nat) (a sn cn : Int → Rat) (news : Led) (hla : (la, listOf va.toArray ca) ∈ news) (hva : LV w news va n a)
    (hn : (n : Int) < 2 ^ 20) (ha0 : a 0 = 0) (hs : ∀ i : Nat, i < n → sn i = if i = 0 then 0 else sinT a cn i i / ((i : Int) : Rat)) (hc : ∀ i : Nat, i < n → cn i = if i = 0 then 1 else cosT a sn i i / ((i : Int) : Rat))
    (ok : ∀ i : Nat, i < n → Sm (sinT a cn i i) ∧ Sm (cosT a sn i i) ∧ Sm (sn i) ∧ Sm (cn i) ∧ ∀ j : Nat, j < i → Sm (a (1 + j)) ∧ Sm (((1 + (j : Int) : Int) : Rat) * a (1 + j)) ∧ Sm (cn (i - (1 + j))) ∧ Sm (sn (i - (1 + j))) ∧ Sm (((1 + (j : Int) : Int) : Rat) * a (1 + j) * cn (i - (1 + j))) ∧ Sm (((1 + (j : Int) : Int) : Rat) * a (1 + j) * sn (i - (1 + j))) ∧ Sm (sinT a cn i j) ∧ Sm (cosT a sn i j)) :
    Cl w 187 [.ref la] 6 news (NewL w n cn) := by
  w_top off
  unfold Cl
  k_fill
  k_with_none
  k_with "call ref" => (k_here; (with_reducible show wpAny _ _ (call (Value.ref 41) _) _ _ _); k_dflt (refine' useI ?k1 ?k2 ?k3 ?k4 ?k5 ?kK (gcd_ok _ _ _ _ _ _ ) ?kd ?ku ?_); (case k1 => k_asm); (case k2 => k_asm); (case k3 => k_asm); (case k4 => k_asm); (case k5 => k_asm); (case kK => first | exact rfl | assumption); (case kd => first | exact room_up (by assumption) (by decide) | exact Nat.le_of_ble_eq_true rfl | ktr_room); (case ku => first | exact units_up (by assumption) (by decide) | exact Nat.le_of_ble_eq_true rfl | ktr_units); intro zt9 zh9 ztk9 zF9 zN9; (try dsimp only); (try k_fold))
  k_with "call ref" => ((with_reducible show wpAny _ _ (call (Value.ref 31) _) _ _ _); exfalso; first | contradiction | omega)
  k_with "binaryOp FloorDiv int int" => (k_here; refine floordiv_int ?k1 ?_ (Or.inl (PyProof.noPylong_of_log2 ?k2)); (case k1 => first | assumption | omega); (case k2 => assumption))
  k_with "call ref" => (k_here; (with_reducible show wpAny _ _ (call (Value.ref 57) _) _ _ _); k_dflt (refine' useR ?k1 ?k2 ?k3 ?k4 ?k5 ?kK (rat_ok _ _ _ _ _ _ ?h0 ?h1) ?kd ?ku ?_); (case k1 => k_asm); (case k2 => k_asm); (case k3 => k_asm); (case k4 => k_asm); (case k5 => k_asm); (case kK => first | exact rfl | assumption); (case h0 => assumption); (case h1 => assumption); (case kd => first | exact room_up (by assumption) (by decide) | exact Nat.le_of_ble_eq_true rfl | ktr_room); (case ku => first | exact units_up (by assumption) (by decide) | exact Nat.le_of_ble_eq_true rfl | ktr_units); intro zD9 zt9 zu9 zn9 zh9 ztk9 zF9 zN9 zl9; (try dsimp only); (try k_fold))
  k_with "subscriptTail" => (k_here; (with_reducible show wpAny _ _ (subscriptTail _ _ (Value.ref _) (Value.int 0 _)) _ _ _); k_dflt (refine' rat_item0 ?k1 ?k2 ?k3 ?k4 ?_; (case k1 => k_asm); (case k2 => k_asm); (case k3 => k_asm); (case k4 => first | exact Src.up (by assumption) (by intro p hp; kcf_m) | exact Src.here (by kcf_m))))
  k_with "subscriptTail" => (k_here; (with_reducible show wpAny _ _ (subscriptTail _ _ (Value.ref _) (Value.int 1 _)) _ _ _); k_dflt (refine' rat_item1 ?k1 ?k2 ?k3 ?k4 ?_; (case k1 => k_asm); (case k2 => k_asm); (case k3 => k_asm); (case k4 => first | exact Src.up (by assumption) (by intro p hp; kcf_m) | exact Src.here (by kcf_m))))
  k_with "call ref" => (k_here; (with_reducible show wpAny _ _ (call (Value.ref 64) _) _ _ _); k_dflt (refine' useR ?k1 ?k2 ?k3 ?k4 ?k5 ?kK (radd_ok _ _ _ _ _ _ _ _ _ _ _ _ ?h0 ?h1 ?h2 ?h3) ?kd ?ku ?_); (case k1 => k_asm); (case k2 => k_asm); (case k3 => k_asm); (case k4 => k_asm); (case k5 => k_asm); (case kK => first | exact rfl | assumption); (case h0 => first | exact Src.up (by assumption) (by intro p hp; kcf_m) | exact Src.here (by kcf_m) | (refine' Src.int2 ?s1 ?s2; (case s1 => kcf_m); (case s2 => exact rfl))); (case h1 => first | exact Src.up (by assumption) (by intro p hp; kcf_m) | exact Src.here (by kcf_m) | (refine' Src.int2 ?s1 ?s2; (case s1 => kcf_m); (case s2 => exact rfl))); (case h2 => k_extra "small"); (case h3 => k_extra "small"); (case kd => first | exact room_up (by assumption) (by decide) | exact Nat.le_of_ble_eq_true rfl | ktr_room); (case ku => first | exact units_up (by assumption) (by decide) | exact Nat.le_of_ble_eq_true rfl | ktr_units); intro zD9 zt9 zu9 zn9 zh9 ztk9 zF9 zN9 zl9; (try dsimp only); (try k_fold))
  k_with "call ref" => (k_here; (with_reducible show wpAny _ _ (call (Value.ref 71) _) _ _ _); k_dflt (refine' useR ?k1 ?k2 ?k3 ?k4 ?k5 ?kK (rsub_ok _ _ _ _ _ _ _ _ _ _ _ _ ?h0 ?h1 ?h2 ?h3) ?kd ?ku ?_); (case k1 => k_asm); (case k2 => k_asm); (case k3 => k_asm); (case k4 => k_asm); (case k5 => k_asm); (case kK => first | exact rfl | assumption); (case h0 => first | exact Src.up (by assumption) (by intro p hp; kcf_m) | exact Src.here (by kcf_m) | (refine' Src.int2 ?s1 ?s2; (case s1 => kcf_m); (case s2 => exact rfl))); (case h1 => first | exact Src.up (by assumption) (by intro p hp; kcf_m) | exact Src.here (by kcf_m) | (refine' Src.int2 ?s1 ?s2; (case s1 => kcf_m); (case s2 => exact rfl))); (case h2 => k_extra "small"); (case h3 => k_extra "small"); (case kd => first | exact room_up (by assumption) (by decide) | exact Nat.le_of_ble_eq_true rfl | ktr_room); (case ku => first | exact units_up (by assumption) (by decide) | exact Nat.le_of_ble_eq_true rfl | ktr_units); intro zD9 zt9 zu9 zn9 zh9 ztk9 zF9 zN9 zl9; (try dsimp only); (try k_fold))
  k_with "call ref" => (k_here; (with_reducible show wpAny _ _ (call (Value.ref 78) _) _ _ _); k_dflt (refine' useR ?k1 ?k2 ?k3 ?k4 ?k5 ?kK (rmul_ok _ _ _ _ _ _ _ _ _ _ _ _ ?h0 ?h1 ?h2 ?h3) ?kd ?ku ?_); (case k1 => k_asm); (case k2 => k_asm); (case k3 => k_asm); (case k4 => k_asm); (case k5 => k_asm); (case kK => first | exact rfl | assumption); (case h0 => first | exact Src.up (by assumption) (by intro p hp; kcf_m) | exact Src.here (by kcf_m) | (refine' Src.int2 ?s1 ?s2; (case s1 => kcf_m); (case s2 => exact rfl))); (case h1 => first | exact Src.up (by assumption) (by intro p hp; kcf_m) | exact Src.here (by kcf_m) | (refine' Src.int2 ?s1 ?s2; (case s1 => kcf_m); (case s2 => exact rfl))); (case h2 => k_extra "small"); (case h3 => k_extra "small"); (case kd => first | exact room_up (by assumption) (by decide) | exact Nat.le_of_ble_eq_true rfl | ktr_room); (case ku => first | exact units_up (by assumption) (by decide) | exact Nat.le_of_ble_eq_true rfl | ktr_units); intro zD9 zt9 zu9 zn9 zh9 ztk9 zF9 zN9 zl9; (try dsimp only); (try k_fold))
  k_with "call ref" => (k_here; (with_reducible show wpAny _ _ (call (Value.ref 85) _) _ _ _); k_dflt (refine' useR ?k1 ?k2 ?k3 ?k4 ?k5 ?kK (rdiv_ok _ _ _ _ _ _ _ _ _ _ _ _ ?h0 ?h1 ?h2 ?h3 ?h4) ?kd ?ku ?_); (case k1 => k_asm); (case k2 => k_asm); (case k3 => k_asm); (case k4 => k_asm); (case k5 => k_asm); (case kK => first | exact rfl | assumption); (case h0 => first | exact Src.up (by assumption) (by intro p hp; kcf_m) | exact Src.here (by kcf_m) | (refine' Src.int2 ?s1 ?s2; (case s1 => kcf_m); (case s2 => exact rfl))); (case h1 => first | exact Src.up (by assumption) (by intro p hp; kcf_m) | exact Src.here (by kcf_m) | (refine' Src.int2 ?s1 ?s2; (case s1 => kcf_m); (case s2 => exact rfl))); (case h2 => k_extra "small"); (case h3 => k_extra "small"); (case h4 => k_extra "nonzero"); (case kd => first | exact room_up (by assumption) (by decide) | exact Nat.le_of_ble_eq_true rfl | ktr_room); (case ku => first | exact units_up (by assumption) (by decide) | exact Nat.le_of_ble_eq_true rfl | ktr_units); intro zD9 zt9 zu9 zn9 zh9 ztk9 zF9 zN9 zl9; (try dsimp only); (try k_fold))
  k_with "call ref" => (k_here; (with_reducible show wpAny _ _ (call (Value.ref 92) _) _ _ _); k_dflt (refine' useV ?k1 ?k2 ?k3 ?k4 ?k5 ?kK (is_vast_ok _ _ _ _ _ _ _ ?h0 ?h1) ?kd ?ku ?_); (case k1 => k_asm); (case k2 => k_asm); (case k3 => k_asm); (case k4 => k_asm); (case k5 => k_asm); (case kK => first | exact rfl | assumption); (case h0 => first | exact Src.up (by assumption) (by intro p hp; kcf_m) | exact Src.here (by kcf_m) | (refine' Src.int2 ?s1 ?s2; (case s1 => kcf_m); (case s2 => exact rfl))); (case h1 => assumption); (case kd => first | exact room_up (by assumption) (by decide) | exact Nat.le_of_ble_eq_true rfl | ktr_room); (case ku => first | exact units_up (by assumption) (by decide) | exact Nat.le_of_ble_eq_true rfl | ktr_units); intro zh9 ztk9 zF9 zN9; (try dsimp only); (try k_fold))
  k_with "call ref" => (k_here; (with_reducible show wpAny _ _ (call (Value.ref 99) _) _ _ _); k_dflt (refine' useZ ?k1 ?k2 ?k3 ?k4 ?k5 ?kK (rcompare_ok _ _ _ _ _ _ _ _ _ _ _ ?h0 ?h1 ?h2) ?kd ?ku ?_); (case k1 => k_asm); (case k2 => k_asm); (case k3 => k_asm); (case k4 => k_asm); (case k5 => k_asm); (case kK => first | exact rfl | assumption); (case h0 => first | exact Src.up (by assumption) (by intro p hp; kcf_m) | exact Src.here (by kcf_m) | (refine' Src.int2 ?s1 ?s2; (case s1 => kcf_m); (case s2 => exact rfl))); (case h1 => first | exact Src.up (by assumption) (by intro p hp; kcf_m) | exact Src.here (by kcf_m) | (refine' Src.int2 ?s1 ?s2; (case s1 => kcf_m); (case s2 => exact rfl))); (case h2 => k_extra "small"); (case kd => first | exact room_up (by assumption) (by decide) | exact Nat.le_of_ble_eq_true rfl | ktr_room); (case ku => first | exact units_up (by assumption) (by decide) | exact Nat.le_of_ble_eq_true rfl | ktr_units); intro zt9 zh9 ztk9 zF9 zN9; (try dsimp only); (try k_fold))
  k_with "call ref" => (k_here; (with_reducible show wpAny _ _ (call (Value.ref 106) _) _ _ _); k_dflt (refine' useV ?k1 ?k2 ?k3 ?k4 ?k5 ?kK (let_ok _ _ _ _ _ _ _ ?h0 ?h1) ?kd ?ku ?_); (case k1 => k_asm); (case k2 => k_asm); (case k3 => k_asm); (case k4 => k_asm); (case k5 => k_asm); (case kK => first | exact rfl | assumption); (case h0 => first | exact Src.up (by assumption) (by intro p hp; kcf_m) | exact Src.here (by kcf_m) | (refine' Src.int2 ?s1 ?s2; (case s1 => kcf_m); (case s2 => exact rfl))); (case h1 => k_extra "small"); (case kd => first | exact room_up (by assumption) (by decide) | exact Nat.le_of_ble_eq_true rfl | ktr_room); (case ku => first | exact units_up (by assumption) (by decide) | exact Nat.le_of_ble_eq_true rfl | ktr_units); intro zh9 ztk9 zF9 zN9; (try dsimp only); (try k_fold))
  k_with "subscriptTail" => (k_here; (with_reducible show wpAny _ _ (subscriptTail _ _ (Value.ref _) (Value.int _ _)) _ _ _); k_dflt (refine' list_item ?k1 ?k2 ?ks ?k3 ?k4 ?k5 ?k6 ?_; (case k1 => k_asm); (case k2 => assumption); (case ks => intro p hp; kcf_m); (case k3 => assumption); (case k4 => omega); (case k5 => omega); (case k6 => omega); intro zA9 zt9 zu9 zc9 zS9; (try dsimp only)))
  k_with "compareOp NotEq ref ref" => (k_here; k_dflt (refine' rat_ne ?k1 ?k2 ?k3 ?k4 ?k5 ?k6 ?_; (case k1 => k_asm); (case k2 => k_asm); (case k3 => k_asm); (case k4 => first | exact Src.up (by assumption) (by intro p hp; kcf_m) | exact Src.here (by kcf_m) | (refine' Src.int2 ?s1 ?s2; (case s1 => kcf_m); (case s2 => exact rfl))); (case k5 => first | exact Src.up (by assumption) (by intro p hp; kcf_m) | exact Src.here (by kcf_m) | (refine' Src.int2 ?s1 ?s2; (case s1 => kcf_m); (case s2 => exact rfl))); (case k6 => ktr_units)))
  k_with "compareOp Eq ref ref" => (k_here; k_dflt (refine' rat_eq ?k1 ?k2 ?k3 ?k4 ?k5 ?k6 ?_; (case k1 => k_asm); (case k2 => k_asm); (case k3 => k_asm); (case k4 => first | exact Src.up (by assumption) (by intro p hp; kcf_m) | exact Src.here (by kcf_m) | (refine' Src.int2 ?s1 ?s2; (case s1 => kcf_m); (case s2 => exact rfl))); (case k5 => first | exact Src.up (by assumption) (by intro p hp; kcf_m) | exact Src.here (by kcf_m) | (refine' Src.int2 ?s1 ?s2; (case s1 => kcf_m); (case s2 => exact rfl))); (case k6 => ktr_units)))
  k_with "call ref" => (k_here; (with_reducible show wpAny _ _ (call (Value.ref 123) _) _ _ _); k_dflt (refine' useQ ?k1 ?k2 ?k3 ?k4 ?k5 ?kK (mixed_ok _ _ _ _ _ _ _ _ _ _ _ _ _ _ ?h0 ?h1 ?h2 ?h3 ?h4 ?h5 ?h6 ?h7 ?h8 ?h9) ?kd ?ku ?_); (case k1 => k_asm); (case k2 => k_asm); (case k3 => k_asm); (case k4 => k_asm); (case k5 => k_asm); (case kK => first | exact rfl | assumption); (case h0 => exact mem_up (by assumption) (by intro p hp; kcf_m)); (case h1 => exact LV.up (by assumption) (by intro p hp; kcf_m)); (case h2 => exact mem_up (by assumption) (by intro p hp; kcf_m)); (case h3 => exact LV.up (by assumption) (by intro p hp; kcf_m)); (case h4 => assumption); (case h5 => assumption); (case h6 => assumption); (case h7 => omega); (case h8 => omega); (case h9 => assumption); (case kd => first | exact room_up (by assumption) (by decide) | exact Nat.le_of_ble_eq_true rfl | ktr_room); (case ku => first | exact units_up (by assumption) (by decide) | exact Nat.le_of_ble_eq_true rfl | ktr_units); intro zadd9 zD9 zt9 zu9 zn9 zh9 ztk9 zF9 zN9 zf9 zS9; (try dsimp only); (try k_fold))
  k_with "my enterC" => (refine' code_defC ?k1 ?k2 ?k3 ?k4 ?k5 ?kA ?kF ?kK ?k6 ?k7 ?k8 ?k9 ?kB ?kD ?_ ?c2 ?c3 ?c4; (case kA => exact rfl); (case kF => exact rfl); (case kK => assumption); (case k1 => k_asm); (case k2 => k_asm); (case k3 => k_asm); (case k4 => k_asm); (case k5 => k_asm); (case k6 => k_is); (case k7 => k_is); (case k8 => ktr_room); (case k9 => exact BindsTo.of_eq rfl); (case kB => exact rfl); (case kD => decide +kernel); (case c2 => exact rfl); (case c3 => exact rfl); (case c4 => exact rfl); k_whole; intro zg' zL' zh' ztk' zcells' zFG' zF' zN' zY' zB' zX' zT' zl1; k_cells zY'; (try simp only [List.cons_append, List.nil_append] at zN'); (try dsimp only); (try k_lift zB'); (try k_fold))
  k_with "call builtin:len" => (k_here; (with_reducible show wpAny _ _ (call (Value.builtin "len") [Value.ref _]) _ _ _); k_dflt (refine' list_len ?k1 ?k2 ?ks ?k3 ?k4 ?_; (case k1 => k_asm); (case k2 => assumption); (case ks => intro p hp; kcf_m); (case k3 => assumption); (case k4 => omega)))
  k_with "eval ListComp" => (k_here; k_dflt (refine LCg.ListComp_U (F₀ := by k_asm) (by with_unfolding_all rfl) (by decide) (by rfl) (by decide) (by rfl) ?_))
  k_with "eval Name" => (k_here; (with_reducible show wpAny _ _ (eval (Expr.Name _ _) (compEnvC _ _ _ _)) _ _ _); (with_reducible rename News _ _ _ _ => kN); k_dflt (refine kcf_cell kN (by rfl) (mem_up (by assumption) (by intro p hp; kcf_m)) (by assumption) ?_))
  k_with "newTuple" => (k_here; k_dflt (refine' my_tuple ?k1 ?k2 ?_ ?k3; (case k1 => k_asm); (case k2 => k_asm); (case k3 => (simp only [PySem.sizeLine_eq, List.length_cons, List.length_nil]; omega))); intro zD9 zh9 zF9 zN9 zl9; (try dsimp only))
  k_with "binaryOp Add ref ref" => (k_here; (with_reducible show wpAny _ _ (binaryOp _ (Value.ref _) (Value.ref _)) _ _ _); k_dflt (refine' list_add ?k1 ?k2 ?k3 ?k4 ?k5 ?_; (case k1 => k_asm); (case k2 => k_asm); (case k3 => kcf_m); (case k4 => kcf_m); (case k5 => (simp only [PySem.sizeLine_eq, List.length_cons, List.length_nil]; omega))); intro zD9 zh9 zF9 zN9 zl9; (try dsimp only))
  k_with "newList" => (k_here; k_dflt (refine' newList_K ?k1 ?k2 ?_; (case k1 => k_asm); (case k2 => k_asm); k_whole); intro zl9 zh9 zF9 zN9 zq9; (replace zq9 := ne_of_lts zq9); (try dsimp only))
  k_with "call ref" => (k_here; (with_reducible show wpAny _ _ (call (Value.ref 128) _) _ _ _); k_dflt (refine' useL ?k1 ?k2 ?k3 ?k4 ?k5 ?kK (smul_ok _ _ _ _ _ _ _ _ _ _ _ _ ?h0 ?h1 ?h2 ?h3 ?h4 ?h5 ?h6) ?kd ?ku ?_); (case k1 => k_asm); (case k2 => k_asm); (case k3 => k_asm); (case k4 => k_asm); (case k5 => k_asm); (case kK => first | exact rfl | assumption); (case h0 => exact mem_up (by assumption) (by intro p hp; kcf_m)); (case h1 => exact LV.up (by assumption) (by intro p hp; kcf_m)); (case h2 => exact mem_up (by assumption) (by intro p hp; kcf_m)); (case h3 => exact LV.up (by assumption) (by intro p hp; kcf_m)); (case h4 => omega); (case h5 => omega); (case h6 => assumption); (case kd => first | exact room_up (by assumption) (by decide) | exact Nat.le_of_ble_eq_true rfl | ktr_room); (case ku => first | exact units_up (by assumption) (by decide) | exact Nat.le_of_ble_eq_true rfl | ktr_units); intro zD9 zvs9 zc9 zadd9 zh9 ztk9 zF9 zN9 zm9 zV9 zf9; (try dsimp only); (try k_fold))
  k_with "getMethod ref" => (k_here; (with_reducible show wpAny _ _ (getMethod (Value.ref _) (Str.ofString "append") _) _ _ _); k_dflt (refine' my_method ?kN ?k1 ?k2 ?_; (case kN => k_asm); (case k1 => assumption); (case k2 => intro p hp; kcf_m)))
  k_with "call builtin:list.append" => (k_here; (with_reducible show wpAny _ _ (call (Value.builtin _) [Value.ref _, Value.ref _]) _ _ _); k_dflt (k_extra "my append"))
  k_with "call ref" => (k_here; (with_reducible show wpAny _ _ (call (Value.ref 152) _) _ _ _); k_dflt (refine' useV ?k1 ?k2 ?k3 ?k4 ?k5 ?kK (need_begin_ok _ _ _ _ _ _ _ _ _ _ _ ?h0 ?h1 ?h2 ?h3 ?h4) ?kd ?ku ?_); (case k1 => k_asm); (case k2 => k_asm); (case k3 => k_asm); (case k4 => k_asm); (case k5 => k_asm); (case kK => first | exact rfl | assumption); (case h0 => exact mem_up (by assumption) (by intro p hp; kcf_m)); (case h1 => exact LV.up (by assumption) (by intro p hp; kcf_m)); (case h2 => first | exact Src.up (by assumption) (by intro p hp; kcf_m) | exact Src.here (by kcf_m) | (refine' Src.int2 ?s1 ?s2; (case s1 => kcf_m); (case s2 => exact rfl))); (case h3 => omega); (case h4 => k_extra "small"); (case kd => first | exact room_up (by assumption) (by decide) | exact Nat.le_of_ble_eq_true rfl | ktr_room); (case ku => first | exact units_up (by assumption) (by decide) | exact Nat.le_of_ble_eq_true rfl | ktr_units); intro zh9 ztk9 zF9 zN9; (try dsimp only); (try k_fold))
  k_with "call ref" => (k_here; (with_reducible show wpAny _ _ (call (Value.ref 173) _) _ _ _); k_dflt (refine' Cl.use ?k1 ?k2 ?k3 ?k4 ?k5 ?kK (ssin_cos_ok _ _ _ _ _ _ _ _ _ ?h0 ?h1 ?h2 ?h3 ?h4 ?h5 ?h6) ?kd ?ku ?_); (case k1 => k_asm); (case k2 => k_asm); (case k3 => k_asm); (case k4 => k_asm); (case k5 => k_asm); (case kK => first | exact rfl | assumption); (case h0 => exact mem_up (by assumption) (by intro p hp; kcf_m)); (case h1 => exact LV.up (by assumption) (by intro p hp; kcf_m)); (case h2 => omega); (case h3 => assumption); (case h4 => assumption); (case h5 => assumption); (case h6 => assumption); (case kd => first | exact room_up (by assumption) (by decide) | exact Nat.le_of_ble_eq_true rfl | ktr_room); (case ku => first | exact units_up (by assumption) (by decide) | exact Nat.le_of_ble_eq_true rfl | ktr_units); intro zv9 zcur9 zh9 ztk9 zF9 zN9 zx9 zp9; obtain ⟨zT9, zxa9, zxb9, zvs9, zus9, zc9, zd9, ze9, zmT9, zmx9, zmy9, zVx9, zVy9⟩ := zp9; subst ze9; obtain ⟨zadd9, ze9', zf9⟩ := zx9; subst zcur9; (try dsimp only); (try k_fold))
  k_with "subscriptTail" => (k_here; (with_reducible show wpAny _ _ (subscriptTail _ _ (Value.ref _) (Value.int 0 _)) _ _ _); k_dflt (refine' pair_item0 ?k1 ?k2 ?_; (case k1 => k_asm); (case k2 => assumption)))
  k_with "subscriptTail" => (k_here; (with_reducible show wpAny _ _ (subscriptTail _ _ (Value.ref _) (Value.int 1 _)) _ _ _); k_dflt (refine' pair_item1 ?k1 ?k2 ?_; (case k1 => k_asm); (case k2 => assumption)))
  intro p loose mean mg mb dp un gd cnm cs f ccd cl outer A₀ base h₀ L m s Q E Bl F X N T hk hd hu hret
  refine wpAny_call ?_
  k_dflt cell_enter
  k_steps
  rename News _ _ _ _ => kN
  rename Fresh _ _ => kf
  exact hret _ _ _ _ (by assumption) kN ⟨_, rfl, kf⟩ ⟨_, _, _, rfl, by assumption, by assumption⟩
/-- the derivative's coefficients, the logarithm's -/
noncomputable def derF (a : Int → Rat) (k : Int) : Rat := ((1 + k : Int) : Rat) * a (1 + k)
noncomputable def logF (a e : Int → Rat) (k : Int) : Rat := if k = 0 then 0 else smulT (derF a) e (k - 1) / (k : Rat)
theorem slog_ok (w : World) (la : Addr) (va : List Value) (ca n : Nat) (a e : Int → Rat) (news : Led) (hla : (la, listOf va.toArray ca) ∈ news) (hva : LV w news va n a)
    (h1n : 1 ≤ n) (hn : (n : Int) < 2 ^ 20) (ha0 : a 0 = 1) (he : ∀ i : Nat, i < n → e i = invT a e i i / a 0)
    (ok1 : ∀ i : Nat, i < n → Sm (a i))
    (ok2 : ∀ i : Nat, i < n → Sm (invT a e i i) ∧ Sm (e i) ∧ ∀ j : Nat, j < i → Sm (a (1 + j)) ∧ Sm (e (i - (1 + j))) ∧ Sm (a (1 + j) * e (i - (1 + j))) ∧ Sm (invT a e i j))
    (ok3 : ∀ i : Nat, i < n - 1 → Sm (smulT (derF a) e i) ∧ ∀ j : Nat, (j : Int) ≤ i → Sm (derF a j) ∧ Sm (e (i - j)) ∧ Sm (derF a j * e (i - j)) ∧ Sm (mixT (derF a) e i j)) :
    Cl w 166 [.ref la] 8 news (NewL w (n - 1 + 1) (logF a e)) := by
  w_top off
  unfold Cl
  k_fill
  k_with_none
  k_with "call ref" => (k_here; (with_reducible show wpAny _ _ (call (Value.ref 41) _) _ _ _); k_dflt (refine' useI ?k1 ?k2 ?k3 ?k4 ?k5 ?kK (gcd_ok _ _ _ _ _ _ ) ?kd ?ku ?_); (case k1 => k_asm); (case k2 => k_asm); (case k3 => k_asm); (case k4 => k_asm); (case k5 => k_asm); (case kK => first | exact rfl | assumption); (case kd => first | exact room_up (by assumption) (by decide) | exact Nat.le_of_ble_eq_true rfl | ktr_room); (case ku => first | exact units_up (by assumption) (by decide) | exact Nat.le_of_ble_eq_true rfl | ktr_units); intro zt9 zh9 ztk9 zF9 zN9; (try dsimp only); (try k_fold))
  k_with "call ref" => ((with_reducible show wpAny _ _ (call (Value.ref 31) _) _ _ _); exfalso; first | contradiction | omega)
  k_with "binaryOp FloorDiv int int" => (k_here; refine floordiv_int ?k1 ?_ (Or.inl (PyProof.noPylong_of_log2 ?k2)); (case k1 => first | assumption | omega); (case k2 => assumption))
  k_with "call ref" => (k_here; (with_reducible show wpAny _ _ (call (Value.ref 57) _) _ _ _); k_dflt (refine' useR ?k1 ?k2 ?k3 ?k4 ?k5 ?kK (rat_ok _ _ _ _ _ _ ?h0 ?h1) ?kd ?ku ?_); (case k1 => k_asm); (case k2 => k_asm); (case k3 => k_asm); (case k4 => k_asm); (case k5 => k_asm); (case kK => first | exact rfl | assumption); (case h0 => assumption); (case h1 => assumption); (case kd => first | exact room_up (by assumption) (by decide) | exact Nat.le_of_ble_eq_true rfl | ktr_room); (case ku => first | exact units_up (by assumption) (by decide) | exact Nat.le_of_ble_eq_true rfl | ktr_units); intro zD9 zt9 zu9 zn9 zh9 ztk9 zF9 zN9 zl9; (try dsimp only); (try k_fold))
  k_with "subscriptTail" => (k_here; (with_reducible show wpAny _ _ (subscriptTail _ _ (Value.ref _) (Value.int 0 _)) _ _ _); k_dflt (refine' rat_item0 ?k1 ?k2 ?k3 ?k4 ?_; (case k1 => k_asm); (case k2 => k_asm); (case k3 => k_asm); (case k4 => first | exact Src.up (by assumption) (by intro p hp; kcf_m) | exact Src.here (by kcf_m))))
  k_with "subscriptTail" => (k_here; (with_reducible show wpAny _ _ (subscriptTail _ _ (Value.ref _) (Value.int 1 _)) _ _ _); k_dflt (refine' rat_item1 ?k1 ?k2 ?k3 ?k4 ?_; (case k1 => k_asm); (case k2 => k_asm); (case k3 => k_asm); (case k4 => first | exact Src.up (by assumption) (by intro p hp; kcf_m) | exact Src.here (by kcf_m))))
  k_with "call ref" => (k_here; (with_reducible show wpAny _ _ (call (Value.ref 64) _) _ _ _); k_dflt (refine' useR ?k1 ?k2 ?k3 ?k4 ?k5 ?kK (radd_ok _ _ _ _ _ _ _ _ _ _ _ _ ?h0 ?h1 ?h2 ?h3) ?kd ?ku ?_); (case k1 => k_asm); (case k2 => k_asm); (case k3 => k_asm); (case k4 => k_asm); (case k5 => k_asm); (case kK => first | exact rfl | assumption); (case h0 => first | exact Src.up (by assumption) (by intro p hp; kcf_m) | exact Src.here (by kcf_m) | (refine' Src.int2 ?s1 ?s2; (case s1 => kcf_m); (case s2 => exact rfl))); (case h1 => first | exact Src.up (by assumption) (by intro p hp; kcf_m) | exact Src.here (by kcf_m) | (refine' Src.int2 ?s1 ?s2; (case s1 => kcf_m); (case s2 => exact rfl))); (case h2 => k_extra "small"); (case h3 => k_extra "small"); (case kd => first | exact room_up (by assumption) (by decide) | exact Nat.le_of_ble_eq_true rfl | ktr_room); (case ku => first | exact units_up (by assumption) (by decide) | exact Nat.le_of_ble_eq_true rfl | ktr_units); intro zD9 zt9 zu9 zn9 zh9 ztk9 zF9 zN9 zl9; (try dsimp only); (try k_fold))
  k_with "call ref" => (k_here; (with_reducible show wpAny _ _ (call (Value.ref 71) _) _ _ _); k_dflt (refine' useR ?k1 ?k2 ?k3 ?k4 ?k5 ?kK (rsub_ok _ _ _ _ _ _ _ _ _ _ _ _ ?h0 ?h1 ?h2 ?h3) ?kd ?ku ?_); (case k1 => k_asm); (case k2 => k_asm); (case k3 => k_asm); (case k4 => k_asm); (case k5 => k_asm); (case kK => first | exact rfl | assumption); (case h0 => first | exact Src.up (by assumption) (by intro p hp; kcf_m) | exact Src.here (by kcf_m) | (refine' Src.int2 ?s1 ?s2; (case s1 => kcf_m); (case s2 => exact rfl))); (case h1 => first | exact Src.up (by assumption) (by intro p hp; kcf_m) | exact Src.here (by kcf_m) | (refine' Src.int2 ?s1 ?s2; (case s1 => kcf_m); (case s2 => exact rfl))); (case h2 => k_extra "small"); (case h3 => k_extra "small"); (case kd => first | exact room_up (by assumption) (by decide) | exact Nat.le_of_ble_eq_true rfl | ktr_room); (case ku => first | exact units_up (by assumption) (by decide) | exact Nat.le_of_ble_eq_true rfl | ktr_units); intro zD9 zt9 zu9 zn9 zh9 ztk9 zF9 zN9 zl9; (try dsimp only); (try k_fold))
  k_with "call ref" => (k_here; (with_reducible show wpAny _ _ (call (Value.ref 78) _) _ _ _); k_dflt (refine' useR ?k1 ?k2 ?k3 ?k4 ?k5 ?kK (rmul_ok _ _ _ _ _ _ _ _ _ _ _ _ ?h0 ?h1 ?h2 ?h3) ?kd ?ku ?_); (case k1 => k_asm); (case k2 => k_asm); (case k3 => k_asm); (case k4 => k_asm); (case k5 => k_asm); (case kK => first | exact rfl | assumption); (case h0 => first | exact Src.up (by assumption) (by intro p hp; kcf_m) | exact Src.here (by kcf_m) | (refine' Src.int2 ?s1 ?s2; (case s1 => kcf_m); (case s2 => exact rfl))); (case h1 => first | exact Src.up (by assumption) (by intro p hp; kcf_m) | exact Src.here (by kcf_m) | (refine' Src.int2 ?s1 ?s2; (case s1 => kcf_m); (case s2 => exact rfl))); (case h2 => k_extra "small"); (case h3 => k_extra "small"); (case kd => first | exact room_up (by assumption) (by decide) | exact Nat.le_of_ble_eq_true rfl | ktr_room); (case ku => first | exact units_up (by assumption) (by decide) | exact Nat.le_of_ble_eq_true rfl | ktr_units); intro zD9 zt9 zu9 zn9 zh9 ztk9 zF9 zN9 zl9; (try dsimp only); (try k_fold))
  k_with "call ref" => (k_here; (with_reducible show wpAny _ _ (call (Value.ref 85) _) _ _ _); k_dflt (refine' useR ?k1 ?k2 ?k3 ?k4 ?k5 ?kK (rdiv_ok _ _ _ _ _ _ _ _ _ _ _ _ ?h0 ?h1 ?h2 ?h3 ?h4) ?kd ?ku ?_); (case k1 => k_asm); (case k2 => k_asm); (case k3 => k_asm); (case k4 => k_asm); (case k5 => k_asm); (case kK => first | exact rfl | assumption); (case h0 => first | exact Src.up (by assumption) (by intro p hp; kcf_m) | exact Src.here (by kcf_m) | (refine' Src.int2 ?s1 ?s2; (case s1 => kcf_m); (case s2 => exact rfl))); (case h1 => first | exact Src.up (by assumption) (by intro p hp; kcf_m) | exact Src.here (by kcf_m) | (refine' Src.int2 ?s1 ?s2; (case s1 => kcf_m); (case s2 => exact rfl))); (case h2 => k_extra "small"); (case h3 => k_extra "small"); (case h4 => k_extra "nonzero"); (case kd => first | exact room_up (by assumption) (by decide) | exact Nat.le_of_ble_eq_true rfl | ktr_room); (case ku => first | exact units_up (by assumption) (by decide) | exact Nat.le_of_ble_eq_true rfl | ktr_units); intro zD9 zt9 zu9 zn9 zh9 ztk9 zF9 zN9 zl9; (try dsimp only); (try k_fold))
  k_with "call ref" => (k_here; (with_reducible show wpAny _ _ (call (Value.ref 92) _) _ _ _); k_dflt (refine' useV ?k1 ?k2 ?k3 ?k4 ?k5 ?kK (is_vast_ok _ _ _ _ _ _ _ ?h0 ?h1) ?kd ?ku ?_); (case k1 => k_asm); (case k2 => k_asm); (case k3 => k_asm); (case k4 => k_asm); (case k5 => k_asm); (case kK => first | exact rfl | assumption); (case h0 => first | exact Src.up (by assumption) (by intro p hp; kcf_m) | exact Src.here (by kcf_m) | (refine' Src.int2 ?s1 ?s2; (case s1 => kcf_m); (case s2 => exact rfl))); (case h1 => assumption); (case kd => first | exact room_up (by assumption) (by decide) | exact Nat.le_of_ble_eq_true rfl | ktr_room); (case ku => first | exact units_up (by assumption) (by decide) | exact Nat.le_of_ble_eq_true rfl | ktr_units); intro zh9 ztk9 zF9 zN9; (try dsimp only); (try k_fold))
  k_with "call ref" => (k_here; (with_reducible show wpAny _ _ (call (Value.ref 99) _) _ _ _); k_dflt (refine' useZ ?k1 ?k2 ?k3 ?k4 ?k5 ?kK (rcompare_ok _ _ _ _ _ _ _ _ _ _ _ ?h0 ?h1 ?h2) ?kd ?ku ?_); (case k1 => k_asm); (case k2 => k_asm); (case k3 => k_asm); (case k4 => k_asm); (case k5 => k_asm); (case kK => first | exact rfl | assumption); (case h0 => first | exact Src.up (by assumption) (by intro p hp; kcf_m) | exact Src.here (by kcf_m) | (refine' Src.int2 ?s1 ?s2; (case s1 => kcf_m); (case s2 => exact rfl))); (case h1 => first | exact Src.up (by assumption) (by intro p hp; kcf_m) | exact Src.here (by kcf_m) | (refine' Src.int2 ?s1 ?s2; (case s1 => kcf_m); (case s2 => exact rfl))); (case h2 => k_extra "small"); (case kd => first | exact room_up (by assumption) (by decide) | exact Nat.le_of_ble_eq_true rfl | ktr_room); (case ku => first | exact units_up (by assumption) (by decide) | exact Nat.le_of_ble_eq_true rfl | ktr_units); intro zt9 zh9 ztk9 zF9 zN9; (try dsimp only); (try k_fold))
  k_with "call ref" => (k_here; (with_reducible show wpAny _ _ (call (Value.ref 106) _) _ _ _); k_dflt (refine' useV ?k1 ?k2 ?k3 ?k4 ?k5 ?kK (let_ok _ _ _ _ _ _ _ ?h0 ?h1) ?kd ?ku ?_); (case k1 => k_asm); (case k2 => k_asm); (case k3 => k_asm); (case k4 => k_asm); (case k5 => k_asm); (case kK => first | exact rfl | assumption); (case h0 => first | exact Src.up (by assumption) (by intro p hp; kcf_m) | exact Src.here (by kcf_m) | (refine' Src.int2 ?s1 ?s2; (case s1 => kcf_m); (case s2 => exact rfl))); (case h1 => k_extra "small"); (case kd => first | exact room_up (by assumption) (by decide) | exact Nat.le_of_ble_eq_true rfl | ktr_room); (case ku => first | exact units_up (by assumption) (by decide) | exact Nat.le_of_ble_eq_true rfl | ktr_units); intro zh9 ztk9 zF9 zN9; (try dsimp only); (try k_fold))
  k_with "subscriptTail" => (k_here; (with_reducible show wpAny _ _ (subscriptTail _ _ (Value.ref _) (Value.int _ _)) _ _ _); k_dflt (refine' list_item ?k1 ?k2 ?ks ?k3 ?k4 ?k5 ?k6 ?_; (case k1 => k_asm); (case k2 => assumption); (case ks => intro p hp; kcf_m); (case k3 => assumption); (case k4 => omega); (case k5 => omega); (case k6 => omega); intro zA9 zt9 zu9 zc9 zS9; (try dsimp only)))
  k_with "compareOp NotEq ref ref" => (k_here; k_dflt (refine' rat_ne ?k1 ?k2 ?k3 ?k4 ?k5 ?k6 ?_; (case k1 => k_asm); (case k2 => k_asm); (case k3 => k_asm); (case k4 => first | exact Src.up (by assumption) (by intro p hp; kcf_m) | exact Src.here (by kcf_m) | (refine' Src.int2 ?s1 ?s2; (case s1 => kcf_m); (case s2 => exact rfl))); (case k5 => first | exact Src.up (by assumption) (by intro p hp; kcf_m) | exact Src.here (by kcf_m) | (refine' Src.int2 ?s1 ?s2; (case s1 => kcf_m); (case s2 => exact rfl))); (case k6 => ktr_units)))
  k_with "compareOp Eq ref ref" => (k_here; k_dflt (refine' rat_eq ?k1 ?k2 ?k3 ?k4 ?k5 ?k6 ?_; (case k1 => k_asm); (case k2 => k_asm); (case k3 => k_asm); (case k4 => first | exact Src.up (by assumption) (by intro p hp; kcf_m) | exact Src.here (by kcf_m) | (refine' Src.int2 ?s1 ?s2; (case s1 => kcf_m); (case s2 => exact rfl))); (case k5 => first | exact Src.up (by assumption) (by intro p hp; kcf_m) | exact Src.here (by kcf_m) | (refine' Src.int2 ?s1 ?s2; (case s1 => kcf_m); (case s2 => exact rfl))); (case k6 => ktr_units)))
  k_with "call ref" => (k_here; (with_reducible show wpAny _ _ (call (Value.ref 123) _) _ _ _); k_dflt (refine' useQ ?k1 ?k2 ?k3 ?k4 ?k5 ?kK (mixed_ok _ _ _ _ _ _ _ _ _ _ _ _ _ _ ?h0 ?h1 ?h2 ?h3 ?h4 ?h5 ?h6 ?h7 ?h8 ?h9) ?kd ?ku ?_); (case k1 => k_asm); (case k2 => k_asm); (case k3 => k_asm); (case k4 => k_asm); (case k5 => k_asm); (case kK => first | exact rfl | assumption); (case h0 => exact mem_up (by assumption) (by intro p hp; kcf_m)); (case h1 => exact LV.up (by assumption) (by intro p hp; kcf_m)); (case h2 => exact mem_up (by assumption) (by intro p hp; kcf_m)); (case h3 => exact LV.up (by assumption) (by intro p hp; kcf_m)); (case h4 => assumption); (case h5 => assumption); (case h6 => assumption); (case h7 => omega); (case h8 => omega); (case h9 => assumption); (case kd => first | exact room_up (by assumption) (by decide) | exact Nat.le_of_ble_eq_true rfl | ktr_room); (case ku => first | exact units_up (by assumption) (by decide) | exact Nat.le_of_ble_eq_true rfl | ktr_units); intro zadd9 zD9 zt9 zu9 zn9 zh9 ztk9 zF9 zN9 zf9 zS9; (try dsimp only); (try k_fold))
  k_with "my enterC" => (refine' code_defC ?k1 ?k2 ?k3 ?k4 ?k5 ?kA ?kF ?kK ?k6 ?k7 ?k8 ?k9 ?kB ?kD ?_ ?c2 ?c3 ?c4; (case kA => exact rfl); (case kF => exact rfl); (case kK => assumption); (case k1 => k_asm); (case k2 => k_asm); (case k3 => k_asm); (case k4 => k_asm); (case k5 => k_asm); (case k6 => k_is); (case k7 => k_is); (case k8 => ktr_room); (case k9 => exact BindsTo.of_eq rfl); (case kB => exact rfl); (case kD => decide +kernel); (case c2 => exact rfl); (case c3 => exact rfl); (case c4 => exact rfl); k_whole; intro zg' zL' zh' ztk' zcells' zFG' zF' zN' zY' zB' zX' zT' zl1; k_cells zY'; (try simp only [List.cons_append, List.nil_append] at zN'); (try dsimp only); (try k_lift zB'); (try k_fold))
  k_with "call builtin:len" => (k_here; (with_reducible show wpAny _ _ (call (Value.builtin "len") [Value.ref _]) _ _ _); k_dflt (refine' list_len ?k1 ?k2 ?ks ?k3 ?k4 ?_; (case k1 => k_asm); (case k2 => assumption); (case ks => intro p hp; kcf_m); (case k3 => assumption); (case k4 => omega)))
  k_with "eval ListComp" => (k_here; k_dflt (refine LCg.ListComp_U (F₀ := by k_asm) (by with_unfolding_all rfl) (by decide) (by rfl) (by decide) (by rfl) ?_))
  k_with "eval Name" => (k_here; (with_reducible show wpAny _ _ (eval (Expr.Name _ _) (compEnvC _ _ _ _)) _ _ _); (with_reducible rename News _ _ _ _ => kN); k_dflt (refine kcf_cell kN (by rfl) (mem_up (by assumption) (by intro p hp; kcf_m)) (by assumption) ?_))
  k_with "newTuple" => (k_here; k_dflt (refine' my_tuple ?k1 ?k2 ?_ ?k3; (case k1 => k_asm); (case k2 => k_asm); (case k3 => (simp only [PySem.sizeLine_eq, List.length_cons, List.length_nil]; omega))); intro zD9 zh9 zF9 zN9 zl9; (try dsimp only))
  k_with "binaryOp Add ref ref" => (k_here; (with_reducible show wpAny _ _ (binaryOp _ (Value.ref _) (Value.ref _)) _ _ _); k_dflt (refine' list_add ?k1 ?k2 ?k3 ?k4 ?k5 ?_; (case k1 => k_asm); (case k2 => k_asm); (case k3 => kcf_m); (case k4 => kcf_m); (case k5 => (simp only [PySem.sizeLine_eq, List.length_cons, List.length_nil]; omega))); intro zD9 zh9 zF9 zN9 zl9; (try dsimp only))
  k_with "newList" => (k_here; k_dflt (refine' newList_K ?k1 ?k2 ?_; (case k1 => k_asm); (case k2 => k_asm); k_whole); intro zl9 zh9 zF9 zN9 zq9; (replace zq9 := ne_of_lts zq9); (try dsimp only))
  k_with "call ref" => (k_here; (with_reducible show wpAny _ _ (call (Value.ref 128) _) _ _ _); k_dflt (refine' useL ?k1 ?k2 ?k3 ?k4 ?k5 ?kK (smul_ok _ _ _ _ _ _ _ _ _ _ _ _ ?h0 ?h1 ?h2 ?h3 ?h4 ?h5 ?h6) ?kd ?ku ?_); (case k1 => k_asm); (case k2 => k_asm); (case k3 => k_asm); (case k4 => k_asm); (case k5 => k_asm); (case kK => first | exact rfl | assumption); (case h0 => exact mem_up (by assumption) (by intro p hp; kcf_m)); (case h1 => exact LV.up (by assumption) (by intro p hp; kcf_m)); (case h2 => exact mem_up (by assumption) (by intro p hp; kcf_m)); (case h3 => exact LV.up (by assumption) (by intro p hp; kcf_m)); (case h4 => omega); (case h5 => omega); (case h6 => assumption); (case kd => first | exact room_up (by assumption) (by decide) | exact Nat.le_of_ble_eq_true rfl | ktr_room); (case ku => first | exact units_up (by assumption) (by decide) | exact Nat.le_of_ble_eq_true rfl | ktr_units); intro zD9 zvs9 zc9 zadd9 zh9 ztk9 zF9 zN9 zm9 zV9 zf9; (try dsimp only); (try k_fold))
  k_with "getMethod ref" => (k_here; (with_reducible show wpAny _ _ (getMethod (Value.ref _) (Str.ofString "append") _) _ _ _); k_dflt (refine' my_method ?kN ?k1 ?k2 ?_; (case kN => k_asm); (case k1 => assumption); (case k2 => intro p hp; kcf_m)))
  k_with "call builtin:list.append" => (k_here; (with_reducible show wpAny _ _ (call (Value.builtin _) [Value.ref _, Value.ref _]) _ _ _); k_dflt (k_extra "my append"))
  k_with "call ref" => (k_here; (with_reducible show wpAny _ _ (call (Value.ref 152) _) _ _ _); k_dflt (refine' useV ?k1 ?k2 ?k3 ?k4 ?k5 ?kK (need_begin_ok _ _ _ _ _ _ _ _ _ _ _ ?h0 ?h1 ?h2 ?h3 ?h4) ?kd ?ku ?_); (case k1 => k_asm); (case k2 => k_asm); (case k3 => k_asm); (case k4 => k_asm); (case k5 => k_asm); (case kK => first | exact rfl | assumption); (case h0 => exact mem_up (by assumption) (by intro p hp; kcf_m)); (case h1 => exact LV.up (by assumption) (by intro p hp; kcf_m)); (case h2 => first | exact Src.up (by assumption) (by intro p hp; kcf_m) | exact Src.here (by kcf_m) | (refine' Src.int2 ?s1 ?s2; (case s1 => kcf_m); (case s2 => exact rfl))); (case h3 => omega); (case h4 => k_extra "small"); (case kd => first | exact room_up (by assumption) (by decide) | exact Nat.le_of_ble_eq_true rfl | ktr_room); (case ku => first | exact units_up (by assumption) (by decide) | exact Nat.le_of_ble_eq_true rfl | ktr_units); intro zh9 ztk9 zF9 zN9; (try dsimp only); (try k_fold))
  k_with "call ref" => (k_here; (with_reducible show wpAny _ _ (call (Value.ref 173) _) _ _ _); k_dflt (refine' Cl.use ?k1 ?k2 ?k3 ?k4 ?k5 ?kK (ssin_cos_ok _ _ _ _ _ _ _ _ _ ?h0 ?h1 ?h2 ?h3 ?h4 ?h5 ?h6) ?kd ?ku ?_); (case k1 => k_asm); (case k2 => k_asm); (case k3 => k_asm); (case k4 => k_asm); (case k5 => k_asm); (case kK => first | exact rfl | assumption); (case h0 => exact mem_up (by assumption) (by intro p hp; kcf_m)); (case h1 => exact LV.up (by assumption) (by intro p hp; kcf_m)); (case h2 => omega); (case h3 => assumption); (case h4 => assumption); (case h5 => assumption); (case h6 => assumption); (case kd => first | exact room_up (by assumption) (by decide) | exact Nat.le_of_ble_eq_true rfl | ktr_room); (case ku => first | exact units_up (by assumption) (by decide) | exact Nat.le_of_ble_eq_true rfl | ktr_units); intro zv9 zcur9 zh9 ztk9 zF9 zN9 zx9 zp9; obtain ⟨zT9, zxa9, zxb9, zvs9, zus9, zc9, zd9, ze9, zmT9, zmx9, zmy9, zVx9, zVy9⟩ := zp9; subst ze9; obtain ⟨zadd9, ze9', zf9⟩ := zx9; subst zcur9; (try dsimp only); (try k_fold))
  k_with "subscriptTail" => (k_here; (with_reducible show wpAny _ _ (subscriptTail _ _ (Value.ref _) (Value.int 0 _)) _ _ _); k_dflt (refine' pair_item0 ?k1 ?k2 ?_; (case k1 => k_asm); (case k2 => assumption)))
  k_with "subscriptTail" => (k_here; (with_reducible show wpAny _ _ (subscriptTail _ _ (Value.ref _) (Value.int 1 _)) _ _ _); k_dflt (refine' pair_item1 ?k1 ?k2 ?_; (case k1 => k_asm); (case k2 => assumption)))
  k_with "call ref" => (k_here; (with_reducible show wpAny _ _ (call (Value.ref 140) _) _ _ _); k_dflt (refine' useL ?k1 ?k2 ?k3 ?k4 ?k5 ?kK (sderive_ok _ _ _ _ _ _ _ ?h0 ?h1 ?h2 ?h3 ?h4) ?kd ?ku ?_); (case k1 => k_asm); (case k2 => k_asm); (case k3 => k_asm); (case k4 => k_asm); (case k5 => k_asm); (case kK => first | exact rfl | assumption); (case h0 => exact mem_up (by assumption) (by intro p hp; kcf_m)); (case h1 => exact LV.up (by assumption) (by intro p hp; kcf_m)); (case h2 => omega); (case h3 => omega); (case h4 => assumption); (case kd => first | exact room_up (by assumption) (by decide) | exact Nat.le_of_ble_eq_true rfl | ktr_room); (case ku => first | exact units_up (by assumption) (by decide) | exact Nat.le_of_ble_eq_true rfl | ktr_units); intro zD9 zvs9 zc9 zadd9 zh9 ztk9 zF9 zN9 zm9 zV9 zf9; (try dsimp only); (try k_fold))
  k_with "call ref" => (k_here; (with_reducible show wpAny _ _ (call (Value.ref 145) _) _ _ _); k_dflt (refine' useL ?k1 ?k2 ?k3 ?k4 ?k5 ?kK (sintegrate_ok _ _ _ _ _ _ _ ?h0 ?h1 ?h2 ?h3) ?kd ?ku ?_); (case k1 => k_asm); (case k2 => k_asm); (case k3 => k_asm); (case k4 => k_asm); (case k5 => k_asm); (case kK => first | exact rfl | assumption); (case h0 => exact mem_up (by assumption) (by intro p hp; kcf_m)); (case h1 => exact LV.up (by assumption) (by intro p hp; kcf_m)); (case h2 => omega); (case h3 => assumption); (case kd => first | exact room_up (by assumption) (by decide) | exact Nat.le_of_ble_eq_true rfl | ktr_room); (case ku => first | exact units_up (by assumption) (by decide) | exact Nat.le_of_ble_eq_true rfl | ktr_units); intro zD9 zvs9 zc9 zadd9 zh9 ztk9 zF9 zN9 zm9 zV9 zf9; (try dsimp only); (try k_fold))
  k_with "call ref" => (k_here; (with_reducible show wpAny _ _ (call (Value.ref 135) _) _ _ _); k_dflt (refine' useL ?k1 ?k2 ?k3 ?k4 ?k5 ?kK (sinverse_ok _ _ _ _ _ _ _ _ ?h0 ?h1 ?h2 ?h3 ?h4 ?h5 ?h6) ?kd ?ku ?_); (case k1 => k_asm); (case k2 => k_asm); (case k3 => k_asm); (case k4 => k_asm); (case k5 => k_asm); (case kK => first | exact rfl | assumption); (case h0 => exact mem_up (by assumption) (by intro p hp; kcf_m)); (case h1 => exact LV.up (by assumption) (by intro p hp; kcf_m)); (case h2 => omega); (case h3 => omega); (case h4 => assumption); (case h5 => assumption); (case h6 => assumption); (case kd => first | exact room_up (by assumption) (by decide) | exact Nat.le_of_ble_eq_true rfl | ktr_room); (case ku => first | exact units_up (by assumption) (by decide) | exact Nat.le_of_ble_eq_true rfl | ktr_units); intro zD9 zvs9 zc9 zadd9 zh9 ztk9 zF9 zN9 zm9 zV9 zf9; (try dsimp only); (try k_fold))
  intro p loose mean mg mb dp un gd cnm cs f ccd cl outer A₀ base h₀ L m s Q E Bl F X N T hk hd hu hret
  refine wpAny_call ?_
  k_dflt cell_enter
  obtain ⟨t1, u1, c1, hR1⟩ := R1_src
  have hz : Src w news 50 (rObj (a 0) t1 u1 c1) := by rw [ha0]; exact hR1 w news
  have hs0 : Sm (a 0) := by rw [ha0]; exact ⟨by decide, by decide⟩
  have ok4 : ∀ i : Nat, i < n - 1 → Sm (smulT (derF a) e i) := fun i hi => (ok3 i hi).1
  k_with "small" => assumption
  k_steps
  · exfalso
    omega
  · rename News _ _ _ _ => kN
    refine hret _ _ _ _ (by assumption) kN (Ext.trans (Ext.trans (Ext.trans ⟨_, rfl, by assumption⟩ ⟨_, rfl, by assumption⟩) ⟨_, rfl, by assumption⟩) ⟨_, rfl, by assumption⟩) ⟨_, _, _, rfl, by assumption, ?_⟩
    show LV w _ _ _ (fun k => if k = 0 then 0 else smulT (fun k => ((1 + k : Int) : Rat) * a (1 + k)) e (k - 1) / (k : Rat))
    assumption
noncomputable abbrev boxObj (S : Addr) (c : Int) (t : MTok) (n : Nat) : Obj := listOf #[.ref S, .int c t] n
section
variable {prog : Program} {w : World} {Ar : Around} {E : Value → Shared → Prop} {s : Shared} {h₀ : Heap} {L : Addr} {m : Str → Option Value} {news : Led}
theorem set_box {B S : Addr} {c x : Int} {t tk u : MTok} {nb : Nat} {Q : Unit → Shared → Prop} (F : Fr h₀ L s.heap m) (N : News h₀ L s.heap ((B, boxObj S c t nb) :: news)) (hB : ∀ p ∈ news, p.1 ≠ B)
    (h : ∀ h', Fr h₀ L h' m → News h₀ L h' ((B, boxObj S x u nb) :: news) → Q () { s with heap := h' }) : wpAny (model prog w) Ar (setItem (.ref B) (.int 1 tk) (.int x u)) Q E s :=
  ki_set (q := [.ref S, .int x u]) F N (by decide) (by decide) rfl (.head hB) h
theorem ints_item {S : Addr} {vs : List Value} {ns : List Int} {n : Nat} {k : Int} {u : MTok} {value slice : PySem.Expr} {Q : Value → Shared → Prop} (N : News h₀ L s.heap news) (hm : (S, listOf vs.toArray n) ∈ news) (hi : IntsAre vs ns) (h0 : 0 ≤ k) (h1 : k < ns.length) (hfit : k < 2 ^ 63) (h : ∀ t, Q (.int (ns.getD k.toNat 0) t) s)
    (hs : subscripted slice false (.ref S) (.int k u) = operate [.ref S, .int k u] (getItem (.ref S) (.int k u)) := by with_unfolding_all rfl) :
    wpAny (model prog w) Ar (subscriptTail value slice (.ref S) (.int k u)) Q E s := ksa_sub N hm hi h0 h1 hfit h hs
theorem ints_len {S : Addr} {vs : List Value} {ns : List Int} {n : Nat} {Q : Value → Shared → Prop} (N : News h₀ L s.heap news) (hm : (S, listOf vs.toArray n) ∈ news) (hi : IntsAre vs ns) (hl : ns.length ≤ 20)
    (h : Q (.int (ns.length : Int) (s.toks + 1)) { s with toks := s.toks + 1 + 1 }) : wpAny (model prog w) Ar (call (.builtin "len") [.ref S]) Q E s :=
  kst_len N hm hi.length (by omega) h
end
/-- as Cl, where the ledger may be turned -/
noncomputable def Cl2 (w : World) (f : Addr) (vs : List Value) (k : Nat) (news : Led) (post : Value → Led → Prop) : Prop :=
  ∀ (p : Program) (loose : List Str) (mean : ExcName → Option Value) (mg mb : Str → Option Value) (dp un : Nat) (gd : Option (List Code)) (cn : Str) (cs : Scope) (a : Addr) (ccd : Value) (cl : List (Str × Addr)) (outer : List Env) (A₀ : Around) (base h₀ : Heap) (L : Addr) (m : Str → Option Value) (s : Shared) (Q E : Value → Shared → Prop),
    Below A₀ base outer h₀ → Fr h₀ L s.heap m → (hd.heap_39 w.params).In h₀ → News h₀ L s.heap news → Top p loose mean mg mb h₀ → cs.kind = .function →
    dp + k < recursionLimit → un + 8 * k + 100 < cLine →
    (∀ (v : Value) (cur : Led) (h' : Heap) (tk' : Nat), Fr h₀ L h' m → News h₀ L h' cur → post v cur → Q v { s with heap := h', toks := tk' }) →
    wpAny (model PySem.Challenge.rw_sa0097_01.row.prog w) (ktrTop dp un gd cn cs L a ccd cl outer) (call (.ref f) vs) Q E s
theorem law_take_ok (w : World) (B S : Addr) (c : Int) (tc : MTok) (nb : Nat) (vs : List Value) (ns : List Int) (cS : Nat) (many : Int) (tm : MTok) (news : Led) (hS : (S, listOf vs.toArray cS) ∈ news) (hi : IntsAre vs ns) (hB : ∀ p ∈ news, p.1 ≠ B)
    (hc0 : 0 ≤ c) (hc : c < 1000) (hm : 1 ≤ many) (hm2 : many < 1000) (hl : ns.length ≤ 20) :
    Cl2 w 209 [.ref B, .int many tm] 2 ((B, boxObj S c tc nb) :: news) (fun v cur => ∃ r t t' n', v = .int r t ∧ 0 ≤ r ∧ r < many ∧ cur = (B, boxObj S (c + 1) t' n') :: news) := by
  w_top off
  unfold Cl2
  k_fill
  k_with_none
  k_with "call ref" => (k_here; (with_reducible show wpAny _ _ (call (Value.ref 41) _) _ _ _); k_dflt (refine' useI ?k1 ?k2 ?k3 ?k4 ?k5 ?kK (gcd_ok _ _ _ _ _ _ ) ?kd ?ku ?_); (case k1 => k_asm); (case k2 => k_asm); (case k3 => k_asm); (case k4 => k_asm); (case k5 => k_asm); (case kK => first | exact rfl | assumption); (case kd => first | exact room_up (by assumption) (by decide) | exact Nat.le_of_ble_eq_true rfl | ktr_room); (case ku => first | exact units_up (by assumption) (by decide) | exact Nat.le_of_ble_eq_true rfl | ktr_units); intro zt9 zh9 ztk9 zF9 zN9; (try dsimp only); (try k_fold))
  k_with "call ref" => ((with_reducible show wpAny _ _ (call (Value.ref 31) _) _ _ _); exfalso; first | contradiction | omega)
  k_with "binaryOp FloorDiv int int" => (k_here; refine floordiv_int ?k1 ?_ (Or.inl (PyProof.noPylong_of_log2 ?k2)); (case k1 => first | assumption | omega); (case k2 => assumption))
  k_with "call ref" => (k_here; (with_reducible show wpAny _ _ (call (Value.ref 57) _) _ _ _); k_dflt (refine' useR ?k1 ?k2 ?k3 ?k4 ?k5 ?kK (rat_ok _ _ _ _ _ _ ?h0 ?h1) ?kd ?ku ?_); (case k1 => k_asm); (case k2 => k_asm); (case k3 => k_asm); (case k4 => k_asm); (case k5 => k_asm); (case kK => first | exact rfl | assumption); (case h0 => assumption); (case h1 => assumption); (case kd => first | exact room_up (by assumption) (by decide) | exact Nat.le_of_ble_eq_true rfl | ktr_room); (case ku => first | exact units_up (by assumption) (by decide) | exact Nat.le_of_ble_eq_true rfl | ktr_units); intro zD9 zt9 zu9 zn9 zh9 ztk9 zF9 zN9 zl9; (try dsimp only); (try k_fold))
  k_with "subscriptTail" => (k_here; (with_reducible show wpAny _ _ (subscriptTail _ _ (Value.ref _) (Value.int 0 _)) _ _ _); k_dflt (refine' rat_item0 ?k1 ?k2 ?k3 ?k4 ?_; (case k1 => k_asm); (case k2 => k_asm); (case k3 => k_asm); (case k4 => first | exact Src.up (by assumption) (by intro p hp; kcf_m) | exact Src.here (by kcf_m))))
  k_with "subscriptTail" => (k_here; (with_reducible show wpAny _ _ (subscriptTail _ _ (Value.ref _) (Value.int 1 _)) _ _ _); k_dflt (refine' rat_item1 ?k1 ?k2 ?k3 ?k4 ?_; (case k1 => k_asm); (case k2 => k_asm); (case k3 => k_asm); (case k4 => first | exact Src.up (by assumption) (by intro p hp; kcf_m) | exact Src.here (by kcf_m))))
  k_with "call ref" => (k_here; (with_reducible show wpAny _ _ (call (Value.ref 64) _) _ _ _); k_dflt (refine' useR ?k1 ?k2 ?k3 ?k4 ?k5 ?kK (radd_ok _ _ _ _ _ _ _ _ _ _ _ _ ?h0 ?h1 ?h2 ?h3) ?kd ?ku ?_); (case k1 => k_asm); (case k2 => k_asm); (case k3 => k_asm); (case k4 => k_asm); (case k5 => k_asm); (case kK => first | exact rfl | assumption); (case h0 => first | exact Src.up (by assumption) (by intro p hp; kcf_m) | exact Src.here (by kcf_m) | (refine' Src.int2 ?s1 ?s2; (case s1 => kcf_m); (case s2 => exact rfl))); (case h1 => first | exact Src.up (by assumption) (by intro p hp; kcf_m) | exact Src.here (by kcf_m) | (refine' Src.int2 ?s1 ?s2; (case s1 => kcf_m); (case s2 => exact rfl))); (case h2 => k_extra "small"); (case h3 => k_extra "small"); (case kd => first | exact room_up (by assumption) (by decide) | exact Nat.le_of_ble_eq_true rfl | ktr_room); (case ku => first | exact units_up (by assumption) (by decide) | exact Nat.le_of_ble_eq_true rfl | ktr_units); intro zD9 zt9 zu9 zn9 zh9 ztk9 zF9 zN9 zl9; (try dsimp only); (try k_fold))
  k_with "call ref" => (k_here; (with_reducible show wpAny _ _ (call (Value.ref 71) _) _ _ _); k_dflt (refine' useR ?k1 ?k2 ?k3 ?k4 ?k5 ?kK (rsub_ok _ _ _ _ _ _ _ _ _ _ _ _ ?h0 ?h1 ?h2 ?h3) ?kd ?ku ?_); (case k1 => k_asm); (case k2 => k_asm); (case k3 => k_asm); (case k4 => k_asm); (case k5 => k_asm); (case kK => first | exact rfl | assumption); (case h0 => first | exact Src.up (by assumption) (by intro p hp; kcf_m) | exact Src.here (by kcf_m) | (refine' Src.int2 ?s1 ?s2; (case s1 => kcf_m); (case s2 => exact rfl))); (case h1 => first | exact Src.up (by assumption) (by intro p hp; kcf_m) | exact Src.here (by kcf_m) | (refine' Src.int2 ?s1 ?s2; (case s1 => kcf_m); (case s2 => exact rfl))); (case h2 => k_extra "small"); (case h3 => k_extra "small"); (case kd => first | exact room_up (by assumption) (by decide) | exact Nat.le_of_ble_eq_true rfl | ktr_room); (case ku => first | exact units_up (by assumption) (by decide) | exact Nat.le_of_ble_eq_true rfl | ktr_units); intro zD9 zt9 zu9 zn9 zh9 ztk9 zF9 zN9 zl9; (try dsimp only); (try k_fold))
  k_with "call ref" => (k_here; (with_reducible show wpAny _ _ (call (Value.ref 78) _) _ _ _); k_dflt (refine' useR ?k1 ?k2 ?k3 ?k4 ?k5 ?kK (rmul_ok _ _ _ _ _ _ _ _ _ _ _ _ ?h0 ?h1 ?h2 ?h3) ?kd ?ku ?_); (case k1 => k_asm); (case k2 => k_asm); (case k3 => k_asm); (case k4 => k_asm); (case k5 => k_asm); (case kK => first | exact rfl | assumption); (case h0 => first | exact Src.up (by assumption) (by intro p hp; kcf_m) | exact Src.here (by kcf_m) | (refine' Src.int2 ?s1 ?s2; (case s1 => kcf_m); (case s2 => exact rfl))); (case h1 => first | exact Src.up (by assumption) (by intro p hp; kcf_m) | exact Src.here (by kcf_m) | (refine' Src.int2 ?s1 ?s2; (case s1 => kcf_m); (case s2 => exact rfl))); (case h2 => k_extra "small"); (case h3 => k_extra "small"); (case kd => first | exact room_up (by assumption) (by decide) | exact Nat.le_of_ble_eq_true rfl | ktr_room); (case ku => first | exact units_up (by assumption) (by decide) | exact Nat.le_of_ble_eq_true rfl | ktr_units); intro zD9 zt9 zu9 zn9 zh9 ztk9 zF9 zN9 zl9; (try dsimp only); (try k_fold))
  k_with "call ref" => (k_here; (with_reducible show wpAny _ _ (call (Value.ref 85) _) _ _ _); k_dflt (refine' useR ?k1 ?k2 ?k3 ?k4 ?k5 ?kK (rdiv_ok _ _ _ _ _ _ _ _ _ _ _ _ ?h0 ?h1 ?h2 ?h3 ?h4) ?kd ?ku ?_); (case k1 => k_asm); (case k2 => k_asm); (case k3 => k_asm); (case k4 => k_asm); (case k5 => k_asm); (case kK => first | exact rfl | assumption); (case h0 => first | exact Src.up (by assumption) (by intro p hp; kcf_m) | exact Src.here (by kcf_m) | (refine' Src.int2 ?s1 ?s2; (case s1 => kcf_m); (case s2 => exact rfl))); (case h1 => first | exact Src.up (by assumption) (by intro p hp; kcf_m) | exact Src.here (by kcf_m) | (refine' Src.int2 ?s1 ?s2; (case s1 => kcf_m); (case s2 => exact rfl))); (case h2 => k_extra "small"); (case h3 => k_extra "small"); (case h4 => k_extra "nonzero"); (case kd => first | exact room_up (by assumption) (by decide) | exact Nat.le_of_ble_eq_true rfl | ktr_room); (case ku => first | exact units_up (by assumption) (by decide) | exact Nat.le_of_ble_eq_true rfl | ktr_units); intro zD9 zt9 zu9 zn9 zh9 ztk9 zF9 zN9 zl9; (try dsimp only); (try k_fold))
  k_with "call ref" => (k_here; (with_reducible show wpAny _ _ (call (Value.ref 92) _) _ _ _); k_dflt (refine' useV ?k1 ?k2 ?k3 ?k4 ?k5 ?kK (is_vast_ok _ _ _ _ _ _ _ ?h0 ?h1) ?kd ?ku ?_); (case k1 => k_asm); (case k2 => k_asm); (case k3 => k_asm); (case k4 => k_asm); (case k5 => k_asm); (case kK => first | exact rfl | assumption); (case h0 => first | exact Src.up (by assumption) (by intro p hp; kcf_m) | exact Src.here (by kcf_m) | (refine' Src.int2 ?s1 ?s2; (case s1 => kcf_m); (case s2 => exact rfl))); (case h1 => assumption); (case kd => first | exact room_up (by assumption) (by decide) | exact Nat.le_of_ble_eq_true rfl | ktr_room); (case ku => first | exact units_up (by assumption) (by decide) | exact Nat.le_of_ble_eq_true rfl | ktr_units); intro zh9 ztk9 zF9 zN9; (try dsimp only); (try k_fold))
  k_with "call ref" => (k_here; (with_reducible show wpAny _ _ (call (Value.ref 99) _) _ _ _); k_dflt (refine' useZ ?k1 ?k2 ?k3 ?k4 ?k5 ?kK (rcompare_ok _ _ _ _ _ _ _ _ _ _ _ ?h0 ?h1 ?h2) ?kd ?ku ?_); (case k1 => k_asm); (case k2 => k_asm); (case k3 => k_asm); (case k4 => k_asm); (case k5 => k_asm); (case kK => first | exact rfl | assumption); (case h0 => first | exact Src.up (by assumption) (by intro p hp; kcf_m) | exact Src.here (by kcf_m) | (refine' Src.int2 ?s1 ?s2; (case s1 => kcf_m); (case s2 => exact rfl))); (case h1 => first | exact Src.up (by assumption) (by intro p hp; kcf_m) | exact Src.here (by kcf_m) | (refine' Src.int2 ?s1 ?s2; (case s1 => kcf_m); (case s2 => exact rfl))); (case h2 => k_extra "small"); (case kd => first | exact room_up (by assumption) (by decide) | exact Nat.le_of_ble_eq_true rfl | ktr_room); (case ku => first | exact units_up (by assumption) (by decide) | exact Nat.le_of_ble_eq_true rfl | ktr_units); intro zt9 zh9 ztk9 zF9 zN9; (try dsimp only); (try k_fold))
  k_with "call ref" => (k_here; (with_reducible show wpAny _ _ (call (Value.ref 106) _) _ _ _); k_dflt (refine' useV ?k1 ?k2 ?k3 ?k4 ?k5 ?kK (let_ok _ _ _ _ _ _ _ ?h0 ?h1) ?kd ?ku ?_); (case k1 => k_asm); (case k2 => k_asm); (case k3 => k_asm); (case k4 => k_asm); (case k5 => k_asm); (case kK => first | exact rfl | assumption); (case h0 => first | exact Src.up (by assumption) (by intro p hp; kcf_m) | exact Src.here (by kcf_m) | (refine' Src.int2 ?s1 ?s2; (case s1 => kcf_m); (case s2 => exact rfl))); (case h1 => k_extra "small"); (case kd => first | exact room_up (by assumption) (by decide) | exact Nat.le_of_ble_eq_true rfl | ktr_room); (case ku => first | exact units_up (by assumption) (by decide) | exact Nat.le_of_ble_eq_true rfl | ktr_units); intro zh9 ztk9 zF9 zN9; (try dsimp only); (try k_fold))
  k_with "subscriptTail" => (k_here; (with_reducible show wpAny _ _ (subscriptTail _ _ (Value.ref _) (Value.int _ _)) _ _ _); k_dflt (refine' list_item ?k1 ?k2 ?ks ?k3 ?k4 ?k5 ?k6 ?_; (case k1 => k_asm); (case k2 => assumption); (case ks => intro p hp; kcf_m); (case k3 => assumption); (case k4 => omega); (case k5 => omega); (case k6 => omega); intro zA9 zt9 zu9 zc9 zS9; (try dsimp only)))
  k_with "compareOp NotEq ref ref" => (k_here; k_dflt (refine' rat_ne ?k1 ?k2 ?k3 ?k4 ?k5 ?k6 ?_; (case k1 => k_asm); (case k2 => k_asm); (case k3 => k_asm); (case k4 => first | exact Src.up (by assumption) (by intro p hp; kcf_m) | exact Src.here (by kcf_m) | (refine' Src.int2 ?s1 ?s2; (case s1 => kcf_m); (case s2 => exact rfl))); (case k5 => first | exact Src.up (by assumption) (by intro p hp; kcf_m) | exact Src.here (by kcf_m) | (refine' Src.int2 ?s1 ?s2; (case s1 => kcf_m); (case s2 => exact rfl))); (case k6 => ktr_units)))
  k_with "compareOp Eq ref ref" => (k_here; k_dflt (refine' rat_eq ?k1 ?k2 ?k3 ?k4 ?k5 ?k6 ?_; (case k1 => k_asm); (case k2 => k_asm); (case k3 => k_asm); (case k4 => first | exact Src.up (by assumption) (by intro p hp; kcf_m) | exact Src.here (by kcf_m) | (refine' Src.int2 ?s1 ?s2; (case s1 => kcf_m); (case s2 => exact rfl))); (case k5 => first | exact Src.up (by assumption) (by intro p hp; kcf_m) | exact Src.here (by kcf_m) | (refine' Src.int2 ?s1 ?s2; (case s1 => kcf_m); (case s2 => exact rfl))); (case k6 => ktr_units)))
  k_with "call ref" => (k_here; (with_reducible show wpAny _ _ (call (Value.ref 123) _) _ _ _); k_dflt (refine' useQ ?k1 ?k2 ?k3 ?k4 ?k5 ?kK (mixed_ok _ _ _ _ _ _ _ _ _ _ _ _ _ _ ?h0 ?h1 ?h2 ?h3 ?h4 ?h5 ?h6 ?h7 ?h8 ?h9) ?kd ?ku ?_); (case k1 => k_asm); (case k2 => k_asm); (case k3 => k_asm); (case k4 => k_asm); (case k5 => k_asm); (case kK => first | exact rfl | assumption); (case h0 => exact mem_up (by assumption) (by intro p hp; kcf_m)); (case h1 => exact LV.up (by assumption) (by intro p hp; kcf_m)); (case h2 => exact mem_up (by assumption) (by intro p hp; kcf_m)); (case h3 => exact LV.up (by assumption) (by intro p hp; kcf_m)); (case h4 => assumption); (case h5 => assumption); (case h6 => assumption); (case h7 => omega); (case h8 => omega); (case h9 => assumption); (case kd => first | exact room_up (by assumption) (by decide) | exact Nat.le_of_ble_eq_true rfl | ktr_room); (case ku => first | exact units_up (by assumption) (by decide) | exact Nat.le_of_ble_eq_true rfl | ktr_units); intro zadd9 zD9 zt9 zu9 zn9 zh9 ztk9 zF9 zN9 zf9 zS9; (try dsimp only); (try k_fold))
  k_with "my enterC" => (refine' code_defC ?k1 ?k2 ?k3 ?k4 ?k5 ?kA ?kF ?kK ?k6 ?k7 ?k8 ?k9 ?kB ?kD ?_ ?c2 ?c3 ?c4; (case kA => exact rfl); (case kF => exact rfl); (case kK => assumption); (case k1 => k_asm); (case k2 => k_asm); (case k3 => k_asm); (case k4 => k_asm); (case k5 => k_asm); (case k6 => k_is); (case k7 => k_is); (case k8 => ktr_room); (case k9 => exact BindsTo.of_eq rfl); (case kB => exact rfl); (case kD => decide +kernel); (case c2 => exact rfl); (case c3 => exact rfl); (case c4 => exact rfl); k_whole; intro zg' zL' zh' ztk' zcells' zFG' zF' zN' zY' zB' zX' zT' zl1; k_cells zY'; (try simp only [List.cons_append, List.nil_append] at zN'); (try dsimp only); (try k_lift zB'); (try k_fold))
  k_with "call builtin:len" => (k_here; (with_reducible show wpAny _ _ (call (Value.builtin "len") [Value.ref _]) _ _ _); k_dflt (refine' list_len ?k1 ?k2 ?ks ?k3 ?k4 ?_; (case k1 => k_asm); (case k2 => assumption); (case ks => intro p hp; kcf_m); (case k3 => assumption); (case k4 => omega)))
  k_with "eval ListComp" => (k_here; k_dflt (refine LCg.ListComp_U (F₀ := by k_asm) (by with_unfolding_all rfl) (by decide) (by rfl) (by decide) (by rfl) ?_))
  k_with "eval Name" => (k_here; (with_reducible show wpAny _ _ (eval (Expr.Name _ _) (compEnvC _ _ _ _)) _ _ _); (with_reducible rename News _ _ _ _ => kN); k_dflt (refine kcf_cell kN (by rfl) (mem_up (by assumption) (by intro p hp; kcf_m)) (by assumption) ?_))
  k_with "newTuple" => (k_here; k_dflt (refine' my_tuple ?k1 ?k2 ?_ ?k3; (case k1 => k_asm); (case k2 => k_asm); (case k3 => (simp only [PySem.sizeLine_eq, List.length_cons, List.length_nil]; omega))); intro zD9 zh9 zF9 zN9 zl9; (try dsimp only))
  k_with "binaryOp Add ref ref" => (k_here; (with_reducible show wpAny _ _ (binaryOp _ (Value.ref _) (Value.ref _)) _ _ _); k_dflt (refine' list_add ?k1 ?k2 ?k3 ?k4 ?k5 ?_; (case k1 => k_asm); (case k2 => k_asm); (case k3 => kcf_m); (case k4 => kcf_m); (case k5 => (simp only [PySem.sizeLine_eq, List.length_cons, List.length_nil]; omega))); intro zD9 zh9 zF9 zN9 zl9; (try dsimp only))
  k_with "newList" => (k_here; k_dflt (refine' newList_K ?k1 ?k2 ?_; (case k1 => k_asm); (case k2 => k_asm); k_whole); intro zl9 zh9 zF9 zN9 zq9; (replace zq9 := ne_of_lts zq9); (try dsimp only))
  k_with "call ref" => (k_here; (with_reducible show wpAny _ _ (call (Value.ref 128) _) _ _ _); k_dflt (refine' useL ?k1 ?k2 ?k3 ?k4 ?k5 ?kK (smul_ok _ _ _ _ _ _ _ _ _ _ _ _ ?h0 ?h1 ?h2 ?h3 ?h4 ?h5 ?h6) ?kd ?ku ?_); (case k1 => k_asm); (case k2 => k_asm); (case k3 => k_asm); (case k4 => k_asm); (case k5 => k_asm); (case kK => first | exact rfl | assumption); (case h0 => exact mem_up (by assumption) (by intro p hp; kcf_m)); (case h1 => exact LV.up (by assumption) (by intro p hp; kcf_m)); (case h2 => exact mem_up (by assumption) (by intro p hp; kcf_m)); (case h3 => exact LV.up (by assumption) (by intro p hp; kcf_m)); (case h4 => omega); (case h5 => omega); (case h6 => assumption); (case kd => first | exact room_up (by assumption) (by decide) | exact Nat.le_of_ble_eq_true rfl | ktr_room); (case ku => first | exact units_up (by assumption) (by decide) | exact Nat.le_of_ble_eq_true rfl | ktr_units); intro zD9 zvs9 zc9 zadd9 zh9 ztk9 zF9 zN9 zm9 zV9 zf9; (try dsimp only); (try k_fold))
  k_with "getMethod ref" => (k_here; (with_reducible show wpAny _ _ (getMethod (Value.ref _) (Str.ofString "append") _) _ _ _); k_dflt (refine' my_method ?kN ?k1 ?k2 ?_; (case kN => k_asm); (case k1 => assumption); (case k2 => intro p hp; kcf_m)))
  k_with "call builtin:list.append" => (k_here; (with_reducible show wpAny _ _ (call (Value.builtin _) [Value.ref _, Value.ref _]) _ _ _); k_dflt (k_extra "my append"))
  k_with "call ref" => (k_here; (with_reducible show wpAny _ _ (call (Value.ref 152) _) _ _ _); k_dflt (refine' useV ?k1 ?k2 ?k3 ?k4 ?k5 ?kK (need_begin_ok _ _ _ _ _ _ _ _ _ _ _ ?h0 ?h1 ?h2 ?h3 ?h4) ?kd ?ku ?_); (case k1 => k_asm); (case k2 => k_asm); (case k3 => k_asm); (case k4 => k_asm); (case k5 => k_asm); (case kK => first | exact rfl | assumption); (case h0 => exact mem_up (by assumption) (by intro p hp; kcf_m)); (case h1 => exact LV.up (by assumption) (by intro p hp; kcf_m)); (case h2 => first | exact Src.up (by assumption) (by intro p hp; kcf_m) | exact Src.here (by kcf_m) | (refine' Src.int2 ?s1 ?s2; (case s1 => kcf_m); (case s2 => exact rfl))); (case h3 => omega); (case h4 => k_extra "small"); (case kd => first | exact room_up (by assumption) (by decide) | exact Nat.le_of_ble_eq_true rfl | ktr_room); (case ku => first | exact units_up (by assumption) (by decide) | exact Nat.le_of_ble_eq_true rfl | ktr_units); intro zh9 ztk9 zF9 zN9; (try dsimp only); (try k_fold))
  k_with "call ref" => (k_here; (with_reducible show wpAny _ _ (call (Value.ref 173) _) _ _ _); k_dflt (refine' Cl.use ?k1 ?k2 ?k3 ?k4 ?k5 ?kK (ssin_cos_ok _ _ _ _ _ _ _ _ _ ?h0 ?h1 ?h2 ?h3 ?h4 ?h5 ?h6) ?kd ?ku ?_); (case k1 => k_asm); (case k2 => k_asm); (case k3 => k_asm); (case k4 => k_asm); (case k5 => k_asm); (case kK => first | exact rfl | assumption); (case h0 => exact mem_up (by assumption) (by intro p hp; kcf_m)); (case h1 => exact LV.up (by assumption) (by intro p hp; kcf_m)); (case h2 => omega); (case h3 => assumption); (case h4 => assumption); (case h5 => assumption); (case h6 => assumption); (case kd => first | exact room_up (by assumption) (by decide) | exact Nat.le_of_ble_eq_true rfl | ktr_room); (case ku => first | exact units_up (by assumption) (by decide) | exact Nat.le_of_ble_eq_true rfl | ktr_units); intro zv9 zcur9 zh9 ztk9 zF9 zN9 zx9 zp9; obtain ⟨zT9, zxa9, zxb9, zvs9, zus9, zc9, zd9, ze9, zmT9, zmx9, zmy9, zVx9, zVy9⟩ := zp9; subst ze9; obtain ⟨zadd9, ze9', zf9⟩ := zx9; subst zcur9; (try dsimp only); (try k_fold))
  k_with "subscriptTail" => (k_here; (with_reducible show wpAny _ _ (subscriptTail _ _ (Value.ref _) (Value.int 0 _)) _ _ _); k_dflt (refine' pair_item0 ?k1 ?k2 ?_; (case k1 => k_asm); (case k2 => assumption)))
  k_with "subscriptTail" => (k_here; (with_reducible show wpAny _ _ (subscriptTail _ _ (Value.ref _) (Value.int 1 _)) _ _ _); k_dflt (refine' pair_item1 ?k1 ?k2 ?_; (case k1 => k_asm); (case k2 => assumption)))
  k_with "call ref" => (k_here; (with_reducible show wpAny _ _ (call (Value.ref 140) _) _ _ _); k_dflt (refine' useL ?k1 ?k2 ?k3 ?k4 ?k5 ?kK (sderive_ok _ _ _ _ _ _ _ ?h0 ?h1 ?h2 ?h3 ?h4) ?kd ?ku ?_); (case k1 => k_asm); (case k2 => k_asm); (case k3 => k_asm); (case k4 => k_asm); (case k5 => k_asm); (case kK => first | exact rfl | assumption); (case h0 => exact mem_up (by assumption) (by intro p hp; kcf_m)); (case h1 => exact LV.up (by assumption) (by intro p hp; kcf_m)); (case h2 => omega); (case h3 => omega); (case h4 => assumption); (case kd => first | exact room_up (by assumption) (by decide) | exact Nat.le_of_ble_eq_true rfl | ktr_room); (case ku => first | exact units_up (by assumption) (by decide) | exact Nat.le_of_ble_eq_true rfl | ktr_units); intro zD9 zvs9 zc9 zadd9 zh9 ztk9 zF9 zN9 zm9 zV9 zf9; (try dsimp only); (try k_fold))
  k_with "call ref" => (k_here; (with_reducible show wpAny _ _ (call (Value.ref 145) _) _ _ _); k_dflt (refine' useL ?k1 ?k2 ?k3 ?k4 ?k5 ?kK (sintegrate_ok _ _ _ _ _ _ _ ?h0 ?h1 ?h2 ?h3) ?kd ?ku ?_); (case k1 => k_asm); (case k2 => k_asm); (case k3 => k_asm); (case k4 => k_asm); (case k5 => k_asm); (case kK => first | exact rfl | assumption); (case h0 => exact mem_up (by assumption) (by intro p hp; kcf_m)); (case h1 => exact LV.up (by assumption) (by intro p hp; kcf_m)); (case h2 => omega); (case h3 => assumption); (case kd => first | exact room_up (by assumption) (by decide) | exact Nat.le_of_ble_eq_true rfl | ktr_room); (case ku => first | exact units_up (by assumption) (by decide) | exact Nat.le_of_ble_eq_true rfl | ktr_units); intro zD9 zvs9 zc9 zadd9 zh9 ztk9 zF9 zN9 zm9 zV9 zf9; (try dsimp only); (try k_fold))
  k_with "call ref" => (k_here; (with_reducible show wpAny _ _ (call (Value.ref 135) _) _ _ _); k_dflt (refine' useL ?k1 ?k2 ?k3 ?k4 ?k5 ?kK (sinverse_ok _ _ _ _ _ _ _ _ ?h0 ?h1 ?h2 ?h3 ?h4 ?h5 ?h6) ?kd ?ku ?_); (case k1 => k_asm); (case k2 => k_asm); (case k3 => k_asm); (case k4 => k_asm); (case k5 => k_asm); (case kK => first | exact rfl | assumption); (case h0 => exact mem_up (by assumption) (by intro p hp; kcf_m)); (case h1 => exact LV.up (by assumption) (by intro p hp; kcf_m)); (case h2 => omega); (case h3 => omega); (case h4 => assumption); (case h5 => assumption); (case h6 => assumption); (case kd => first | exact room_up (by assumption) (by decide) | exact Nat.le_of_ble_eq_true rfl | ktr_room); (case ku => first | exact units_up (by assumption) (by decide) | exact Nat.le_of_ble_eq_true rfl | ktr_units); intro zD9 zvs9 zc9 zadd9 zh9 ztk9 zF9 zN9 zm9 zV9 zf9; (try dsimp only); (try k_fold))
  k_with "setItem ref int" => (k_here; k_dflt (refine' set_box ?k1 ?k2 ?k3 ?_; (case k1 => k_asm); (case k2 => k_asm); (case k3 => assumption)); intro zh' zF' zN')
  k_with "subscriptTail" => (k_here; (with_reducible show wpAny _ _ (subscriptTail _ _ (Value.ref _) (Value.int _ _)) _ _ _); k_dflt (refine' ints_item ?k1 ?k2 ?k3 ?k4 ?k5 ?k6 ?_ ?k7; (case k1 => k_asm); (case k2 => kcf_m); (case k3 => assumption); (case k4 => omega); (case k5 => omega); (case k6 => omega); (case k7 => with_unfolding_all rfl)); intro zt9)
  k_with "call builtin:len" => (k_here; (with_reducible show wpAny _ _ (call (Value.builtin "len") [Value.ref _]) _ _ _); k_dflt (refine' ints_len ?k1 ?k2 ?k3 ?k4 ?_; (case k1 => k_asm); (case k2 => kcf_m); (case k3 => assumption); (case k4 => assumption)))
  intro p loose mean mg mb dp un gd cnm cs f ccd cl outer A₀ base h₀ L m s Q E Bl F X N T hk hd hu hret
  refine wpAny_call ?_
  k_dflt cell_enter
  k_steps
  all_goals
    rename News _ _ _ _ => kN
    refine hret _ _ _ _ (by assumption) kN ⟨_, _, _, _, rfl, ?_, ?_, rfl⟩
    · exact Int.fmod_nonneg_of_pos _ (by omega)
    · exact Int.fmod_lt_of_pos _ (by omega)
theorem Cl2.use {w : World} {g : Addr} {vs : List Value} {k : Nat} {post : Value → Led → Prop} {p : Program} {loose : List Str} {mean : ExcName → Option Value} {mg mb : Str → Option Value} {dp un : Nat} {gd : Option (List Code)} {cn : Str} {cs : Scope} {a : Addr} {ccd : Value} {cl : List (Str × Addr)} {outer : List Env} {A₀ : Around} {base h₀ : Heap} {L : Addr} {m : Str → Option Value} {s : Shared} {news : Led} {Q E : Value → Shared → Prop}
    (B : Below A₀ base outer h₀) (F : Fr h₀ L s.heap m) (X : (hd.heap_39 w.params).In h₀) (N : News h₀ L s.heap news) (T : Top p loose mean mg mb h₀) (hk : cs.kind = .function)
    (c : Cl2 w g vs k news post) (hd : dp + k < recursionLimit) (hu : un + 8 * k + 100 < cLine)
    (h : ∀ (v : Value) (cur : Led) (h' : Heap) (tk' : Nat), Fr h₀ L h' m → News h₀ L h' cur → post v cur → Q v { s with heap := h', toks := tk' }) :
    wpAny (model PySem.Challenge.rw_sa0097_01.row.prog w) (ktrTop dp un gd cn cs L a ccd cl outer) (call (.ref g) vs) Q E s :=
  c p loose mean mg mb dp un gd cn cs a ccd cl outer A₀ base h₀ L m s Q E B F X N T hk hd hu h
theorem useTake {w : World} {g : Addr} {vs : List Value} {k : Nat} {p : Program} {loose : List Str} {mean : ExcName → Option Value} {mg mb : Str → Option Value} {dp un : Nat} {gd : Option (List Code)} {cn : Str} {cs : Scope} {a : Addr} {ccd : Value} {cl : List (Str × Addr)} {outer : List Env} {A₀ : Around} {base h₀ : Heap} {L : Addr} {m : Str → Option Value} {s : Shared} {news nw : Led} {Q E : Value → Shared → Prop} {B S : Addr} {c many : Int}
    (Bl : Below A₀ base outer h₀) (F : Fr h₀ L s.heap m) (X : (hd.heap_39 w.params).In h₀) (N : News h₀ L s.heap news) (T : Top p loose mean mg mb h₀) (hk : cs.kind = .function)
    (C : Cl2 w g vs k news (fun v cur => ∃ r t t' n', v = .int r t ∧ 0 ≤ r ∧ r < many ∧ cur = (B, boxObj S (c + 1) t' n') :: nw)) (hd : dp + k < recursionLimit) (hu : un + 8 * k + 100 < cLine)
    (ret : ∀ (r : Int) (t t' : MTok) (n' : Nat) (h' : Heap) (tk' : Nat), Fr h₀ L h' m → News h₀ L h' ((B, boxObj S (c + 1) t' n') :: nw) → 0 ≤ r → r < many → Q (.int r t) { s with heap := h', toks := tk' }) :
    wpAny (model PySem.Challenge.rw_sa0097_01.row.prog w) (ktrTop dp un gd cn cs L a ccd cl outer) (call (.ref g) vs) Q E s :=
  Cl2.use Bl F X N T hk C hd hu fun _ _ h' tk' F' N' ⟨r, t, t', n', e1, l1, l2, e2⟩ => by subst e1; subst e2; exact ret r t t' n' h' tk' F' N' l1 l2
noncomputable def half : Rat := ⟨1, 2, by decide, by decide⟩
noncomputable def twoThirds : Rat := ⟨2, 3, by decide, by decide⟩
noncomputable def Seven (q : Rat) : Prop := q = 0 ∨ q = 1 ∨ q = -1 ∨ q = 2 ∨ q = half ∨ q = -3 ∨ q = twoThirds
noncomputable def KR (w : World) (A : Addr) (q : Rat) : Prop := Seven q ∧ ∃ t u c, (hd.heap_39 w.params).lookup A = some (rObj q t u c)
theorem ratios_at (w : World) : ∃ c, (hd.heap_39 w.params).lookup 202 = some (listOf #[.ref 195, .ref 196, .ref 197, .ref 198, .ref 199, .ref 200, .ref 201] c) := ⟨_, rfl⟩
theorem ratio0 (w : World) : KR w 195 0 := ⟨.inl rfl, _, _, _, rfl⟩
theorem ratio1 (w : World) : KR w 196 1 := ⟨.inr (.inl rfl), _, _, _, rfl⟩
theorem ratio2 (w : World) : KR w 197 (-1) := ⟨.inr (.inr (.inl rfl)), _, _, _, rfl⟩
theorem ratio3 (w : World) : KR w 198 2 := ⟨.inr (.inr (.inr (.inl rfl))), _, _, _, rfl⟩
theorem ratio4 (w : World) : KR w 199 half := ⟨.inr (.inr (.inr (.inr (.inl rfl)))), _, _, _, rfl⟩
theorem ratio5 (w : World) : KR w 200 (-3) := ⟨.inr (.inr (.inr (.inr (.inr (.inl rfl))))), _, _, _, rfl⟩
theorem ratio6 (w : World) : KR w 201 twoThirds := ⟨.inr (.inr (.inr (.inr (.inr (.inr rfl))))), _, _, _, rfl⟩
theorem ratio_of (w : World) {r : Int} (h0 : 0 ≤ r) (h1 : r < 7) : ∃ A q, (#[Value.ref 195, .ref 196, .ref 197, .ref 198, .ref 199, .ref 200, .ref 201] : Array Value)[r.toNat]? = some (.ref A) ∧ KR w A q := by
  have h : r = 0 ∨ r = 1 ∨ r = 2 ∨ r = 3 ∨ r = 4 ∨ r = 5 ∨ r = 6 := by omega
  rcases h with rfl | rfl | rfl | rfl | rfl | rfl | rfl
  · exact ⟨_, _, rfl, ratio0 w⟩
  · exact ⟨_, _, rfl, ratio1 w⟩
  · exact ⟨_, _, rfl, ratio2 w⟩
  · exact ⟨_, _, rfl, ratio3 w⟩
  · exact ⟨_, _, rfl, ratio4 w⟩
  · exact ⟨_, _, rfl, ratio5 w⟩
  · exact ⟨_, _, rfl, ratio6 w⟩
section
variable {prog : Program} {w : World} {Ar : Around} {E : Value → Shared → Prop} {s : Shared} {h₀ : Heap} {L : Addr} {m : Str → Option Value} {nw : Led}
theorem ratio_item {value slice : PySem.Expr} {r : Int} {z : MTok} {Q : Value → Shared → Prop} (N : News h₀ L s.heap nw) (F : Fr h₀ L s.heap m) (X : (hd.heap_39 w.params).In h₀) (h0 : 0 ≤ r) (h1 : r < 7)
    (h : ∀ A q, KR w A q → Q (.ref A) s)
    (hs : subscripted slice false (.ref 202) (.int r z) = operate [.ref 202, .int r z] (getItem (.ref 202) (.int r z)) := by with_unfolding_all rfl) :
    wpAny (model prog w) Ar (subscriptTail value slice (.ref 202) (.int r z)) Q E s := by
  obtain ⟨c, hc⟩ := ratios_at w
  have hS : Src w nw 202 _ := .inr hc
  have hl' : s.heap.IsList 202 #[.ref 195, .ref 196, .ref 197, .ref 198, .ref 199, .ref 200, .ref 201] := ⟨_, hS.get N F X, rfl, c, rfl⟩
  obtain ⟨A, q, e, k⟩ := ratio_of w h0 h1
  exact tail_any hl'.typeIs slot_list_getitem.lookup (wpAny_getItem_list hl' h0 (by omega) e (h A q k)) hs
end
section
variable {prog : Program} {w : World} {A : Around} {E : Value → Shared → Prop} {s : Shared} {h₀ : Heap} {L : Addr} {m : Str → Option Value} {env : Env}
/-- a list of ratios of the seven -/
noncomputable def LK (w : World) (vs : List Value) (n : Nat) (f : Int → Rat) : Prop :=
  vs.length = n ∧ ∀ i : Nat, i < n → ∃ A, vs[i]? = some (.ref A) ∧ KR w A (f i)
theorem LK.nil {f : Int → Rat} : LK w [] 0 f := ⟨rfl, fun _ h => absurd h (Nat.not_lt_zero _)⟩
theorem LK.snoc {vs : List Value} {n : Nat} {f : Int → Rat} {A : Addr} {q : Rat} (h : LK w vs n f) (k : KR w A q) : LK w (vs ++ [.ref A]) (n + 1) (fun i => if i = n then q else f i) := by
  refine ⟨by rw [List.length_append, h.1]; rfl, fun i hi => ?_⟩
  by_cases e : i = n
  · subst e
    refine ⟨A, by rw [List.getElem?_append_right (by rw [h.1]; exact Nat.le_refl _), h.1, Nat.sub_self]; rfl, ?_⟩
    show KR w A (if (i : Int) = (i : Int) then q else f i)
    rw [if_pos rfl]; exact k
  · obtain ⟨B, e1, e2⟩ := h.2 i (by omega)
    refine ⟨B, by rw [List.getElem?_append_left (by rw [h.1]; omega)]; exact e1, ?_⟩
    show KR w B (if (i : Int) = (n : Int) then q else f i)
    rw [if_neg (by omega)]; exact e2
noncomputable def RowPost (h₀ : Heap) (L : Addr) (m : Str → Option Value) (w : World) (s : Shared) (B S : Addr) (c : Int) (base : Led) (v : Value) (s₂ : Shared) : Prop :=
  ∃ h' tk' tb nb, s₂ = { s with heap := h', toks := tk' } ∧ Fr h₀ L h' m ∧ News h₀ L h' ((B, boxObj S c tb nb) :: base) ∧ ∃ D q, v = .ref D ∧ KR w D q
theorem row_rest {elt : PySem.Expr} {x : Str} {scope : Scope} {cl : List (Str × Addr)} {Fin : List Value → Led → Prop} {base : Led} {a : Int} {n : Nat} {B S : Addr} {c : Int} {tb : MTok} {nb : Nat} {st : Led} (hB : ∀ p ∈ base, p.1 ≠ B) (hst : ∀ p ∈ (B, boxObj S c tb nb) :: base, p ∈ st)
    (turn : ∀ (i : Nat) (k : Int) t I oI C oC D m₂ ys h tk tb nb (E' : Value → Shared → Prop), i < n → k = a + (i : Int) → LCg.NsObj oC m₂ → m₂ x = some (.int k t) → Fr h₀ L h m → (∀ p ∈ (I, oI) :: (C, oC) :: (D, LCg.lst ys) :: base, p.1 ≠ B) →
      News h₀ L h ((B, boxObj S (c + i) tb nb) :: (I, oI) :: (C, oC) :: (D, LCg.lst ys) :: base) →
      wpAny (model prog w) A (eval elt (compEnvC scope cl C env)) (RowPost h₀ L m w s B S (c + i + 1) ((I, oI) :: (C, oC) :: (D, LCg.lst ys) :: base)) E' { s with heap := h, toks := tk })
    (fin : ∀ ys f tb nb nx, LK w ys n f → (∀ p ∈ (B, boxObj S (c + n) tb nb) :: base, p ∈ nx) → Fin ys nx) :
    LCg.CompRest prog w A h₀ L m env elt x scope cl s (fun _ => True) (fun i v => ∃ t, v = .int (a + (i : Int)) t) Fin n 0 [] st := by
  have key : ∀ (j i : Nat) (ys : List Value) (f : Int → Rat) (tb : MTok) (nb : Nat) (nx : Led), i + j = n → LK w ys i f → (∀ p ∈ (B, boxObj S (c + i) tb nb) :: base, p ∈ nx) → LCg.CompRest prog w A h₀ L m env elt x scope cl s (fun _ => True) (fun i v => ∃ t, v = .int (a + (i : Int)) t) Fin j i ys nx := by
    intro j
    induction j with
    | zero =>
      intro i ys f tb nb nx hi hv hx
      have e : i = n := by omega
      subst e
      exact LCg.CompRest.zero (fin ys f tb nb nx hv hx)
    | succ j ih =>
      intro i ys f tb nb nx hi hv hx
      refine LCg.CompRest.succ ?_
      rintro v I oI C oC D m₂ h tk E' ⟨t, rfl⟩ hC hm F N off ne
      have oB := off.mem _ (hx _ (.head _))
      have hN : News h₀ L h ((B, boxObj S (c + i) tb nb) :: (I, oI) :: (C, oC) :: (D, LCg.lst ys) :: base) := fun p hp => N p (by
        rcases List.mem_cons.mp hp with rfl | hp
        · exact .tail _ (.tail _ (.tail _ (hx _ (.head _))))
        rcases List.mem_cons.mp hp with rfl | hp
        · exact .head _
        rcases List.mem_cons.mp hp with rfl | hp
        · exact .tail _ (.head _)
        rcases List.mem_cons.mp hp with rfl | hp
        · exact .tail _ (.tail _ (.head _))
        · exact .tail _ (.tail _ (.tail _ (hx _ (.tail _ hp)))))
      have hb : ∀ p ∈ (I, oI) :: (C, oC) :: (D, LCg.lst ys) :: base, p.1 ≠ B := fun p hp => by
        rcases List.mem_cons.mp hp with rfl | hp
        · exact fun e => oB.1 e.symm
        rcases List.mem_cons.mp hp with rfl | hp
        · exact fun e => oB.2.1 e.symm
        rcases List.mem_cons.mp hp with rfl | hp
        · exact fun e => oB.2.2 e.symm
        · exact hB p hp
      refine wpAny_mono (turn i _ t I oI C oC D m₂ ys h tk tb nb E' (by omega) rfl hC hm F hb hN) (fun y s₂ hq => ?_) fun _ _ e => e
      obtain ⟨h', tk', tb', nb', rfl, F', N', A', q, rfl, K⟩ := hq
      refine ⟨h', tk', (B, boxObj S (c + i + 1) tb' nb') :: base, rfl, F', fun p hp => N' p ?_, LCg.Off3.of fun p hp => ?_, trivial, ?_⟩
      · rcases List.mem_cons.mp hp with rfl | hp
        · exact .tail _ (.head _)
        rcases List.mem_cons.mp hp with rfl | hp
        · exact .tail _ (.tail _ (.head _))
        rcases List.mem_cons.mp hp with rfl | hp
        · exact .tail _ (.tail _ (.tail _ (.head _)))
        rcases List.mem_cons.mp hp with rfl | hp
        · exact .head _
        · exact .tail _ (.tail _ (.tail _ (.tail _ hp)))
      · rcases List.mem_cons.mp hp with rfl | hp
        · exact oB
        · exact off.mem p (hx p (.tail _ hp))
      · have e : c + (i : Int) + 1 = c + ((i + 1 : Nat) : Int) := by omega
        rw [e]
        exact ih (i + 1) _ _ _ _ _ (by omega) (hv.snoc K) (fun p hp => hp)
  refine key n 0 [] (fun _ => 0) tb nb st (by omega) LK.nil ?_
  rw [show c + ((0 : Nat) : Int) = c by omega]
  exact hst
end
theorem in_box {x y z : Addr × Obj} {a : Led} : ∀ p ∈ z :: x :: y :: a, p ∈ x :: y :: z :: a := fun p hp => by
  rcases List.mem_cons.mp hp with rfl | hp
  · exact .tail _ (.tail _ (.head _))
  rcases List.mem_cons.mp hp with rfl | hp
  · exact .head _
  rcases List.mem_cons.mp hp with rfl | hp
  · exact .tail _ (.head _)
  · exact .tail _ (.tail _ (.tail _ hp))
theorem law_row_ok (w : World) (B S A0 : Addr) (c : Int) (tc : MTok) (nb : Nat) (vs : List Value) (ns : List Int) (cS : Nat) (many : Nat) (tm : MTok) (q0 : Rat) (t0 u0 : MTok) (c0 : Nat) (news : Led) (hS : (S, listOf vs.toArray cS) ∈ news) (hi : IntsAre vs ns) (hB : ∀ p ∈ news, p.1 ≠ B)
    (hc0 : 0 ≤ c) (hc : c < 900) (hm : 1 ≤ many) (hm2 : many ≤ 4) (hl : ns.length ≤ 20) (hf : Src w news A0 (rObj q0 t0 u0 c0)) :
    Cl2 w 214 [.ref B, .int many tm, .ref A0] 5 ((B, boxObj S c tc nb) :: news) (fun v cur => ∃ add D rs cc f tb n', v = .ref D ∧ cur = (B, boxObj S (c + (many - 1 : Nat)) tb n') :: (add ++ news) ∧ (∀ p ∈ add, p.1 ≠ B) ∧ (D, listOf rs.toArray cc) ∈ add ∧ LV w (add ++ news) rs many f ∧ f 0 = q0 ∧ ∀ i : Nat, 1 ≤ i → i < many → Seven (f i)) := by
  w_top off
  unfold Cl2
  k_fill
  k_with_none
  k_with "call ref" => (k_here; (with_reducible show wpAny _ _ (call (Value.ref 41) _) _ _ _); k_dflt (refine' useI ?k1 ?k2 ?k3 ?k4 ?k5 ?kK (gcd_ok _ _ _ _ _ _ ) ?kd ?ku ?_); (case k1 => k_asm); (case k2 => k_asm); (case k3 => k_asm); (case k4 => k_asm); (case k5 => k_asm); (case kK => first | exact rfl | assumption); (case kd => first | exact room_up (by assumption) (by decide) | exact Nat.le_of_ble_eq_true rfl | ktr_room); (case ku => first | exact units_up (by assumption) (by decide) | exact Nat.le_of_ble_eq_true rfl | ktr_units); intro zt9 zh9 ztk9 zF9 zN9; (try dsimp only); (try k_fold))
  k_with "call ref" => ((with_reducible show wpAny _ _ (call (Value.ref 31) _) _ _ _); exfalso; first | contradiction | omega)
  k_with "binaryOp FloorDiv int int" => (k_here; refine floordiv_int ?k1 ?_ (Or.inl (PyProof.noPylong_of_log2 ?k2)); (case k1 => first | assumption | omega); (case k2 => assumption))
  k_with "call ref" => (k_here; (with_reducible show wpAny _ _ (call (Value.ref 57) _) _ _ _); k_dflt (refine' useR ?k1 ?k2 ?k3 ?k4 ?k5 ?kK (rat_ok _ _ _ _ _ _ ?h0 ?h1) ?kd ?ku ?_); (case k1 => k_asm); (case k2 => k_asm); (case k3 => k_asm); (case k4 => k_asm); (case k5 => k_asm); (case kK => first | exact rfl | assumption); (case h0 => assumption); (case h1 => assumption); (case kd => first | exact room_up (by assumption) (by decide) | exact Nat.le_of_ble_eq_true rfl | ktr_room); (case ku => first | exact units_up (by assumption) (by decide) | exact Nat.le_of_ble_eq_true rfl | ktr_units); intro zD9 zt9 zu9 zn9 zh9 ztk9 zF9 zN9 zl9; (try dsimp only); (try k_fold))
  k_with "subscriptTail" => (k_here; (with_reducible show wpAny _ _ (subscriptTail _ _ (Value.ref _) (Value.int 0 _)) _ _ _); k_dflt (refine' rat_item0 ?k1 ?k2 ?k3 ?k4 ?_; (case k1 => k_asm); (case k2 => k_asm); (case k3 => k_asm); (case k4 => first | exact Src.up (by assumption) (by intro p hp; kcf_m) | exact Src.here (by kcf_m))))
  k_with "subscriptTail" => (k_here; (with_reducible show wpAny _ _ (subscriptTail _ _ (Value.ref _) (Value.int 1 _)) _ _ _); k_dflt (refine' rat_item1 ?k1 ?k2 ?k3 ?k4 ?_; (case k1 => k_asm); (case k2 => k_asm); (case k3 => k_asm); (case k4 => first | exact Src.up (by assumption) (by intro p hp; kcf_m) | exact Src.here (by kcf_m))))
  k_with "call ref" => (k_here; (with_reducible show wpAny _ _ (call (Value.ref 64) _) _ _ _); k_dflt (refine' useR ?k1 ?k2 ?k3 ?k4 ?k5 ?kK (radd_ok _ _ _ _ _ _ _ _ _ _ _ _ ?h0 ?h1 ?h2 ?h3) ?kd ?ku ?_); (case k1 => k_asm); (case k2 => k_asm); (case k3 => k_asm); (case k4 => k_asm); (case k5 => k_asm); (case kK => first | exact rfl | assumption); (case h0 => first | exact Src.up (by assumption) (by intro p hp; kcf_m) | exact Src.here (by kcf_m) | (refine' Src.int2 ?s1 ?s2; (case s1 => kcf_m); (case s2 => exact rfl))); (case h1 => first | exact Src.up (by assumption) (by intro p hp; kcf_m) | exact Src.here (by kcf_m) | (refine' Src.int2 ?s1 ?s2; (case s1 => kcf_m); (case s2 => exact rfl))); (case h2 => k_extra "small"); (case h3 => k_extra "small"); (case kd => first | exact room_up (by assumption) (by decide) | exact Nat.le_of_ble_eq_true rfl | ktr_room); (case ku => first | exact units_up (by assumption) (by decide) | exact Nat.le_of_ble_eq_true rfl | ktr_units); intro zD9 zt9 zu9 zn9 zh9 ztk9 zF9 zN9 zl9; (try dsimp only); (try k_fold))
  k_with "call ref" => (k_here; (with_reducible show wpAny _ _ (call (Value.ref 71) _) _ _ _); k_dflt (refine' useR ?k1 ?k2 ?k3 ?k4 ?k5 ?kK (rsub_ok _ _ _ _ _ _ _ _ _ _ _ _ ?h0 ?h1 ?h2 ?h3) ?kd ?ku ?_); (case k1 => k_asm); (case k2 => k_asm); (case k3 => k_asm); (case k4 => k_asm); (case k5 => k_asm); (case kK => first | exact rfl | assumption); (case h0 => first | exact Src.up (by assumption) (by intro p hp; kcf_m) | exact Src.here (by kcf_m) | (refine' Src.int2 ?s1 ?s2; (case s1 => kcf_m); (case s2 => exact rfl))); (case h1 => first | exact Src.up (by assumption) (by intro p hp; kcf_m) | exact Src.here (by kcf_m) | (refine' Src.int2 ?s1 ?s2; (case s1 => kcf_m); (case s2 => exact rfl))); (case h2 => k_extra "small"); (case h3 => k_extra "small"); (case kd => first | exact room_up (by assumption) (by decide) | exact Nat.le_of_ble_eq_true rfl | ktr_room); (case ku => first | exact units_up (by assumption) (by decide) | exact Nat.le_of_ble_eq_true rfl | ktr_units); intro zD9 zt9 zu9 zn9 zh9 ztk9 zF9 zN9 zl9; (try dsimp only); (try k_fold))
  k_with "call ref" => (k_here; (with_reducible show wpAny _ _ (call (Value.ref 78) _) _ _ _); k_dflt (refine' useR ?k1 ?k2 ?k3 ?k4 ?k5 ?kK (rmul_ok _ _ _ _ _ _ _ _ _ _ _ _ ?h0 ?h1 ?h2 ?h3) ?kd ?ku ?_); (case k1 => k_asm); (case k2 => k_asm); (case k3 => k_asm); (case k4 => k_asm); (case k5 => k_asm); (case kK => first | exact rfl | assumption); (case h0 => first | exact Src.up (by assumption) (by intro p hp; kcf_m) | exact Src.here (by kcf_m) | (refine' Src.int2 ?s1 ?s2; (case s1 => kcf_m); (case s2 => exact rfl))); (case h1 => first | exact Src.up (by assumption) (by intro p hp; kcf_m) | exact Src.here (by kcf_m) | (refine' Src.int2 ?s1 ?s2; (case s1 => kcf_m); (case s2 => exact rfl))); (case h2 => k_extra "small"); (case h3 => k_extra "small"); (case kd => first | exact room_up (by assumption) (by decide) | exact Nat.le_of_ble_eq_true rfl | ktr_room); (case ku => first | exact units_up (by assumption) (by decide) | exact Nat.le_of_ble_eq_true rfl | ktr_units); intro zD9 zt9 zu9 zn9 zh9 ztk9 zF9 zN9 zl9; (try dsimp only); (try k_fold))
  k_with "call ref" => (k_here; (with_reducible show wpAny _ _ (call (Value.ref 85) _) _ _ _); k_dflt (refine' useR ?k1 ?k2 ?k3 ?k4 ?k5 ?kK (rdiv_ok _ _ _ _ _ _ _ _ _ _ _ _ ?h0 ?h1 ?h2 ?h3 ?h4) ?kd ?ku ?_); (case k1 => k_asm); (case k2 => k_asm); (case k3 => k_asm); (case k4 => k_asm); (case k5 => k_asm); (case kK => first | exact rfl | assumption); (case h0 => first | exact Src.up (by assumption) (by intro p hp; kcf_m) | exact Src.here (by kcf_m) | (refine' Src.int2 ?s1 ?s2; (case s1 => kcf_m); (case s2 => exact rfl))); (case h1 => first | exact Src.up (by assumption) (by intro p hp; kcf_m) | exact Src.here (by kcf_m) | (refine' Src.int2 ?s1 ?s2; (case s1 => kcf_m); (case s2 => exact rfl))); (case h2 => k_extra "small"); (case h3 => k_extra "small"); (case h4 => k_extra "nonzero"); (case kd => first | exact room_up (by assumption) (by decide) | exact Nat.le_of_ble_eq_true rfl | ktr_room); (case ku => first | exact units_up (by assumption) (by decide) | exact Nat.le_of_ble_eq_true rfl | ktr_units); intro zD9 zt9 zu9 zn9 zh9 ztk9 zF9 zN9 zl9; (try dsimp only); (try k_fold))
  k_with "call ref" => (k_here; (with_reducible show wpAny _ _ (call (Value.ref 92) _) _ _ _); k_dflt (refine' useV ?k1 ?k2 ?k3 ?k4 ?k5 ?kK (is_vast_ok _ _ _ _ _ _ _ ?h0 ?h1) ?kd ?ku ?_); (case k1 => k_asm); (case k2 => k_asm); (case k3 => k_asm); (case k4 => k_asm); (case k5 => k_asm); (case kK => first | exact rfl | assumption); (case h0 => first | exact Src.up (by assumption) (by intro p hp; kcf_m) | exact Src.here (by kcf_m) | (refine' Src.int2 ?s1 ?s2; (case s1 => kcf_m); (case s2 => exact rfl))); (case h1 => assumption); (case kd => first | exact room_up (by assumption) (by decide) | exact Nat.le_of_ble_eq_true rfl | ktr_room); (case ku => first | exact units_up (by assumption) (by decide) | exact Nat.le_of_ble_eq_true rfl | ktr_units); intro zh9 ztk9 zF9 zN9; (try dsimp only); (try k_fold))
  k_with "call ref" => (k_here; (with_reducible show wpAny _ _ (call (Value.ref 99) _) _ _ _); k_dflt (refine' useZ ?k1 ?k2 ?k3 ?k4 ?k5 ?kK (rcompare_ok _ _ _ _ _ _ _ _ _ _ _ ?h0 ?h1 ?h2) ?kd ?ku ?_); (case k1 => k_asm); (case k2 => k_asm); (case k3 => k_asm); (case k4 => k_asm); (case k5 => k_asm); (case kK => first | exact rfl | assumption); (case h0 => first | exact Src.up (by assumption) (by intro p hp; kcf_m) | exact Src.here (by kcf_m) | (refine' Src.int2 ?s1 ?s2; (case s1 => kcf_m); (case s2 => exact rfl))); (case h1 => first | exact Src.up (by assumption) (by intro p hp; kcf_m) | exact Src.here (by kcf_m) | (refine' Src.int2 ?s1 ?s2; (case s1 => kcf_m); (case s2 => exact rfl))); (case h2 => k_extra "small"); (case kd => first | exact room_up (by assumption) (by decide) | exact Nat.le_of_ble_eq_true rfl | ktr_room); (case ku => first | exact units_up (by assumption) (by decide) | exact Nat.le_of_ble_eq_true rfl | ktr_units); intro zt9 zh9 ztk9 zF9 zN9; (try dsimp only); (try k_fold))
  k_with "call ref" => (k_here; (with_reducible show wpAny _ _ (call (Value.ref 106) _) _ _ _); k_dflt (refine' useV ?k1 ?k2 ?k3 ?k4 ?k5 ?kK (let_ok _ _ _ _ _ _ _ ?h0 ?h1) ?kd ?ku ?_); (case k1 => k_asm); (case k2 => k_asm); (case k3 => k_asm); (case k4 => k_asm); (case k5 => k_asm); (case kK => first | exact rfl | assumption); (case h0 => first | exact Src.up (by assumption) (by intro p hp; kcf_m) | exact Src.here (by kcf_m) | (refine' Src.int2 ?s1 ?s2; (case s1 => kcf_m); (case s2 => exact rfl))); (case h1 => k_extra "small"); (case kd => first | exact room_up (by assumption) (by decide) | exact Nat.le_of_ble_eq_true rfl | ktr_room); (case ku => first | exact units_up (by assumption) (by decide) | exact Nat.le_of_ble_eq_true rfl | ktr_units); intro zh9 ztk9 zF9 zN9; (try dsimp only); (try k_fold))
  k_with "subscriptTail" => (k_here; (with_reducible show wpAny _ _ (subscriptTail _ _ (Value.ref _) (Value.int _ _)) _ _ _); k_dflt (refine' list_item ?k1 ?k2 ?ks ?k3 ?k4 ?k5 ?k6 ?_; (case k1 => k_asm); (case k2 => assumption); (case ks => intro p hp; kcf_m); (case k3 => assumption); (case k4 => omega); (case k5 => omega); (case k6 => omega); intro zA9 zt9 zu9 zc9 zS9; (try dsimp only)))
  k_with "compareOp NotEq ref ref" => (k_here; k_dflt (refine' rat_ne ?k1 ?k2 ?k3 ?k4 ?k5 ?k6 ?_; (case k1 => k_asm); (case k2 => k_asm); (case k3 => k_asm); (case k4 => first | exact Src.up (by assumption) (by intro p hp; kcf_m) | exact Src.here (by kcf_m) | (refine' Src.int2 ?s1 ?s2; (case s1 => kcf_m); (case s2 => exact rfl))); (case k5 => first | exact Src.up (by assumption) (by intro p hp; kcf_m) | exact Src.here (by kcf_m) | (refine' Src.int2 ?s1 ?s2; (case s1 => kcf_m); (case s2 => exact rfl))); (case k6 => ktr_units)))
  k_with "compareOp Eq ref ref" => (k_here; k_dflt (refine' rat_eq ?k1 ?k2 ?k3 ?k4 ?k5 ?k6 ?_; (case k1 => k_asm); (case k2 => k_asm); (case k3 => k_asm); (case k4 => first | exact Src.up (by assumption) (by intro p hp; kcf_m) | exact Src.here (by kcf_m) | (refine' Src.int2 ?s1 ?s2; (case s1 => kcf_m); (case s2 => exact rfl))); (case k5 => first | exact Src.up (by assumption) (by intro p hp; kcf_m) | exact Src.here (by kcf_m) | (refine' Src.int2 ?s1 ?s2; (case s1 => kcf_m); (case s2 => exact rfl))); (case k6 => ktr_units)))
  k_with "call ref" => (k_here; (with_reducible show wpAny _ _ (call (Value.ref 123) _) _ _ _); k_dflt (refine' useQ ?k1 ?k2 ?k3 ?k4 ?k5 ?kK (mixed_ok _ _ _ _ _ _ _ _ _ _ _ _ _ _ ?h0 ?h1 ?h2 ?h3 ?h4 ?h5 ?h6 ?h7 ?h8 ?h9) ?kd ?ku ?_); (case k1 => k_asm); (case k2 => k_asm); (case k3 => k_asm); (case k4 => k_asm); (case k5 => k_asm); (case kK => first | exact rfl | assumption); (case h0 => exact mem_up (by assumption) (by intro p hp; kcf_m)); (case h1 => exact LV.up (by assumption) (by intro p hp; kcf_m)); (case h2 => exact mem_up (by assumption) (by intro p hp; kcf_m)); (case h3 => exact LV.up (by assumption) (by intro p hp; kcf_m)); (case h4 => assumption); (case h5 => assumption); (case h6 => assumption); (case h7 => omega); (case h8 => omega); (case h9 => assumption); (case kd => first | exact room_up (by assumption) (by decide) | exact Nat.le_of_ble_eq_true rfl | ktr_room); (case ku => first | exact units_up (by assumption) (by decide) | exact Nat.le_of_ble_eq_true rfl | ktr_units); intro zadd9 zD9 zt9 zu9 zn9 zh9 ztk9 zF9 zN9 zf9 zS9; (try dsimp only); (try k_fold))
  k_with "my enterC" => (refine' code_defC ?k1 ?k2 ?k3 ?k4 ?k5 ?kA ?kF ?kK ?k6 ?k7 ?k8 ?k9 ?kB ?kD ?_ ?c2 ?c3 ?c4; (case kA => exact rfl); (case kF => exact rfl); (case kK => assumption); (case k1 => k_asm); (case k2 => k_asm); (case k3 => k_asm); (case k4 => k_asm); (case k5 => k_asm); (case k6 => k_is); (case k7 => k_is); (case k8 => ktr_room); (case k9 => exact BindsTo.of_eq rfl); (case kB => exact rfl); (case kD => decide +kernel); (case c2 => exact rfl); (case c3 => exact rfl); (case c4 => exact rfl); k_whole; intro zg' zL' zh' ztk' zcells' zFG' zF' zN' zY' zB' zX' zT' zl1; k_cells zY'; (try simp only [List.cons_append, List.nil_append] at zN'); (try dsimp only); (try k_lift zB'); (try k_fold))
  k_with "call builtin:len" => (k_here; (with_reducible show wpAny _ _ (call (Value.builtin "len") [Value.ref _]) _ _ _); k_dflt (refine' list_len ?k1 ?k2 ?ks ?k3 ?k4 ?_; (case k1 => k_asm); (case k2 => assumption); (case ks => intro p hp; kcf_m); (case k3 => assumption); (case k4 => omega)))
  k_with "eval ListComp" => (k_here; k_dflt (refine LCg.ListComp_U (F₀ := by k_asm) (by with_unfolding_all rfl) (by decide) (by rfl) (by decide) (by rfl) ?_))
  k_with "eval Name" => (k_here; (with_reducible show wpAny _ _ (eval (Expr.Name _ _) (compEnvC _ _ _ _)) _ _ _); (with_reducible rename News _ _ _ _ => kN); k_dflt (refine kcf_cell kN (by rfl) (mem_up (by assumption) (by intro p hp; kcf_m)) (by assumption) ?_))
  k_with "newTuple" => (k_here; k_dflt (refine' my_tuple ?k1 ?k2 ?_ ?k3; (case k1 => k_asm); (case k2 => k_asm); (case k3 => (simp only [PySem.sizeLine_eq, List.length_cons, List.length_nil]; omega))); intro zD9 zh9 zF9 zN9 zl9; (try dsimp only))
  k_with "binaryOp Add ref ref" => (k_here; (with_reducible show wpAny _ _ (binaryOp _ (Value.ref _) (Value.ref _)) _ _ _); k_dflt (refine' list_add ?k1 ?k2 ?k3 ?k4 ?k5 ?_; (case k1 => k_asm); (case k2 => k_asm); (case k3 => kcf_m); (case k4 => kcf_m); (case k5 => (simp only [PySem.sizeLine_eq, List.length_cons, List.length_nil]; omega))); intro zD9 zh9 zF9 zN9 zl9; (try dsimp only))
  k_with "newList" => (k_here; k_dflt (refine' newList_K ?k1 ?k2 ?_; (case k1 => k_asm); (case k2 => k_asm); k_whole); intro zl9 zh9 zF9 zN9 zq9; (replace zq9 := ne_of_lts zq9); (try dsimp only))
  k_with "call ref" => (k_here; (with_reducible show wpAny _ _ (call (Value.ref 128) _) _ _ _); k_dflt (refine' useL ?k1 ?k2 ?k3 ?k4 ?k5 ?kK (smul_ok _ _ _ _ _ _ _ _ _ _ _ _ ?h0 ?h1 ?h2 ?h3 ?h4 ?h5 ?h6) ?kd ?ku ?_); (case k1 => k_asm); (case k2 => k_asm); (case k3 => k_asm); (case k4 => k_asm); (case k5 => k_asm); (case kK => first | exact rfl | assumption); (case h0 => exact mem_up (by assumption) (by intro p hp; kcf_m)); (case h1 => exact LV.up (by assumption) (by intro p hp; kcf_m)); (case h2 => exact mem_up (by assumption) (by intro p hp; kcf_m)); (case h3 => exact LV.up (by assumption) (by intro p hp; kcf_m)); (case h4 => omega); (case h5 => omega); (case h6 => assumption); (case kd => first | exact room_up (by assumption) (by decide) | exact Nat.le_of_ble_eq_true rfl | ktr_room); (case ku => first | exact units_up (by assumption) (by decide) | exact Nat.le_of_ble_eq_true rfl | ktr_units); intro zD9 zvs9 zc9 zadd9 zh9 ztk9 zF9 zN9 zm9 zV9 zf9; (try dsimp only); (try k_fold))
  k_with "getMethod ref" => (k_here; (with_reducible show wpAny _ _ (getMethod (Value.ref _) (Str.ofString "append") _) _ _ _); k_dflt (refine' my_method ?kN ?k1 ?k2 ?_; (case kN => k_asm); (case k1 => assumption); (case k2 => intro p hp; kcf_m)))
  k_with "call builtin:list.append" => (k_here; (with_reducible show wpAny _ _ (call (Value.builtin _) [Value.ref _, Value.ref _]) _ _ _); k_dflt (k_extra "my append"))
  k_with "call ref" => (k_here; (with_reducible show wpAny _ _ (call (Value.ref 152) _) _ _ _); k_dflt (refine' useV ?k1 ?k2 ?k3 ?k4 ?k5 ?kK (need_begin_ok _ _ _ _ _ _ _ _ _ _ _ ?h0 ?h1 ?h2 ?h3 ?h4) ?kd ?ku ?_); (case k1 => k_asm); (case k2 => k_asm); (case k3 => k_asm); (case k4 => k_asm); (case k5 => k_asm); (case kK => first | exact rfl | assumption); (case h0 => exact mem_up (by assumption) (by intro p hp; kcf_m)); (case h1 => exact LV.up (by assumption) (by intro p hp; kcf_m)); (case h2 => first | exact Src.up (by assumption) (by intro p hp; kcf_m) | exact Src.here (by kcf_m) | (refine' Src.int2 ?s1 ?s2; (case s1 => kcf_m); (case s2 => exact rfl))); (case h3 => omega); (case h4 => k_extra "small"); (case kd => first | exact room_up (by assumption) (by decide) | exact Nat.le_of_ble_eq_true rfl | ktr_room); (case ku => first | exact units_up (by assumption) (by decide) | exact Nat.le_of_ble_eq_true rfl | ktr_units); intro zh9 ztk9 zF9 zN9; (try dsimp only); (try k_fold))
  k_with "call ref" => (k_here; (with_reducible show wpAny _ _ (call (Value.ref 173) _) _ _ _); k_dflt (refine' Cl.use ?k1 ?k2 ?k3 ?k4 ?k5 ?kK (ssin_cos_ok _ _ _ _ _ _ _ _ _ ?h0 ?h1 ?h2 ?h3 ?h4 ?h5 ?h6) ?kd ?ku ?_); (case k1 => k_asm); (case k2 => k_asm); (case k3 => k_asm); (case k4 => k_asm); (case k5 => k_asm); (case kK => first | exact rfl | assumption); (case h0 => exact mem_up (by assumption) (by intro p hp; kcf_m)); (case h1 => exact LV.up (by assumption) (by intro p hp; kcf_m)); (case h2 => omega); (case h3 => assumption); (case h4 => assumption); (case h5 => assumption); (case h6 => assumption); (case kd => first | exact room_up (by assumption) (by decide) | exact Nat.le_of_ble_eq_true rfl | ktr_room); (case ku => first | exact units_up (by assumption) (by decide) | exact Nat.le_of_ble_eq_true rfl | ktr_units); intro zv9 zcur9 zh9 ztk9 zF9 zN9 zx9 zp9; obtain ⟨zT9, zxa9, zxb9, zvs9, zus9, zc9, zd9, ze9, zmT9, zmx9, zmy9, zVx9, zVy9⟩ := zp9; subst ze9; obtain ⟨zadd9, ze9', zf9⟩ := zx9; subst zcur9; (try dsimp only); (try k_fold))
  k_with "subscriptTail" => (k_here; (with_reducible show wpAny _ _ (subscriptTail _ _ (Value.ref _) (Value.int 0 _)) _ _ _); k_dflt (refine' pair_item0 ?k1 ?k2 ?_; (case k1 => k_asm); (case k2 => assumption)))
  k_with "subscriptTail" => (k_here; (with_reducible show wpAny _ _ (subscriptTail _ _ (Value.ref _) (Value.int 1 _)) _ _ _); k_dflt (refine' pair_item1 ?k1 ?k2 ?_; (case k1 => k_asm); (case k2 => assumption)))
  k_with "call ref" => (k_here; (with_reducible show wpAny _ _ (call (Value.ref 140) _) _ _ _); k_dflt (refine' useL ?k1 ?k2 ?k3 ?k4 ?k5 ?kK (sderive_ok _ _ _ _ _ _ _ ?h0 ?h1 ?h2 ?h3 ?h4) ?kd ?ku ?_); (case k1 => k_asm); (case k2 => k_asm); (case k3 => k_asm); (case k4 => k_asm); (case k5 => k_asm); (case kK => first | exact rfl | assumption); (case h0 => exact mem_up (by assumption) (by intro p hp; kcf_m)); (case h1 => exact LV.up (by assumption) (by intro p hp; kcf_m)); (case h2 => omega); (case h3 => omega); (case h4 => assumption); (case kd => first | exact room_up (by assumption) (by decide) | exact Nat.le_of_ble_eq_true rfl | ktr_room); (case ku => first | exact units_up (by assumption) (by decide) | exact Nat.le_of_ble_eq_true rfl | ktr_units); intro zD9 zvs9 zc9 zadd9 zh9 ztk9 zF9 zN9 zm9 zV9 zf9; (try dsimp only); (try k_fold))
  k_with "call ref" => (k_here; (with_reducible show wpAny _ _ (call (Value.ref 145) _) _ _ _); k_dflt (refine' useL ?k1 ?k2 ?k3 ?k4 ?k5 ?kK (sintegrate_ok _ _ _ _ _ _ _ ?h0 ?h1 ?h2 ?h3) ?kd ?ku ?_); (case k1 => k_asm); (case k2 => k_asm); (case k3 => k_asm); (case k4 => k_asm); (case k5 => k_asm); (case kK => first | exact rfl | assumption); (case h0 => exact mem_up (by assumption) (by intro p hp; kcf_m)); (case h1 => exact LV.up (by assumption) (by intro p hp; kcf_m)); (case h2 => omega); (case h3 => assumption); (case kd => first | exact room_up (by assumption) (by decide) | exact Nat.le_of_ble_eq_true rfl | ktr_room); (case ku => first | exact units_up (by assumption) (by decide) | exact Nat.le_of_ble_eq_true rfl | ktr_units); intro zD9 zvs9 zc9 zadd9 zh9 ztk9 zF9 zN9 zm9 zV9 zf9; (try dsimp only); (try k_fold))
  k_with "call ref" => (k_here; (with_reducible show wpAny _ _ (call (Value.ref 135) _) _ _ _); k_dflt (refine' useL ?k1 ?k2 ?k3 ?k4 ?k5 ?kK (sinverse_ok _ _ _ _ _ _ _ _ ?h0 ?h1 ?h2 ?h3 ?h4 ?h5 ?h6) ?kd ?ku ?_); (case k1 => k_asm); (case k2 => k_asm); (case k3 => k_asm); (case k4 => k_asm); (case k5 => k_asm); (case kK => first | exact rfl | assumption); (case h0 => exact mem_up (by assumption) (by intro p hp; kcf_m)); (case h1 => exact LV.up (by assumption) (by intro p hp; kcf_m)); (case h2 => omega); (case h3 => omega); (case h4 => assumption); (case h5 => assumption); (case h6 => assumption); (case kd => first | exact room_up (by assumption) (by decide) | exact Nat.le_of_ble_eq_true rfl | ktr_room); (case ku => first | exact units_up (by assumption) (by decide) | exact Nat.le_of_ble_eq_true rfl | ktr_units); intro zD9 zvs9 zc9 zadd9 zh9 ztk9 zF9 zN9 zm9 zV9 zf9; (try dsimp only); (try k_fold))
  k_with "setItem ref int" => (k_here; k_dflt (refine' set_box ?k1 ?k2 ?k3 ?_; (case k1 => k_asm); (case k2 => k_asm); (case k3 => assumption)); intro zh' zF' zN')
  k_with "subscriptTail" => (k_here; (with_reducible show wpAny _ _ (subscriptTail _ _ (Value.ref _) (Value.int _ _)) _ _ _); k_dflt (refine' ints_item ?k1 ?k2 ?k3 ?k4 ?k5 ?k6 ?_ ?k7; (case k1 => k_asm); (case k2 => kcf_m); (case k3 => assumption); (case k4 => omega); (case k5 => omega); (case k6 => omega); (case k7 => with_unfolding_all rfl)); intro zt9)
  k_with "call builtin:len" => (k_here; (with_reducible show wpAny _ _ (call (Value.builtin "len") [Value.ref _]) _ _ _); k_dflt (refine' ints_len ?k1 ?k2 ?k3 ?k4 ?_; (case k1 => k_asm); (case k2 => kcf_m); (case k3 => assumption); (case k4 => assumption)))
  k_with "call ref" => (k_here; (with_reducible show wpAny _ _ (call (Value.ref 209) _) _ _ _); k_dflt (refine' useTake ?k1 ?k2 ?k3 ?k4 ?k5 ?kK (law_take_ok _ _ _ _ _ _ _ _ _ _ _ _ ?h0 ?h1 ?h2 ?h3 ?h4 ?h5 ?h6 ?h7) ?kd ?ku ?_); (case k1 => k_asm); (case k2 => k_asm); (case k3 => k_asm); (case k4 => k_asm); (case k5 => k_asm); (case kK => first | exact rfl | assumption); (case h0 => kcf_m); (case h1 => assumption); (case h2 => assumption); (case h3 => omega); (case h4 => omega); (case h5 => omega); (case h6 => omega); (case h7 => assumption); (case kd => first | exact room_up (by assumption) (by decide) | exact Nat.le_of_ble_eq_true rfl | ktr_room); (case ku => first | exact units_up (by assumption) (by decide) | exact Nat.le_of_ble_eq_true rfl | ktr_units); intro zr9 zt9 zt8 zn8 zh9 ztk9 zF9 zN9 zl9 zg9; (try dsimp only); (try k_fold))
  k_with "subscriptTail" => (k_here; (with_reducible show wpAny _ _ (subscriptTail _ _ (Value.ref 202) (Value.int _ _)) _ _ _); k_dflt (refine' ratio_item ?k1 ?k2 ?k3 ?k4 ?k5 ?_ ?k7; (case k1 => k_asm); (case k2 => k_asm); (case k3 => k_asm); (case k4 => assumption); (case k5 => assumption); (case k7 => with_unfolding_all rfl)); intro zA9 zq9 zK9)
  intro p loose mean mg mb dp un gd cn cs f ccd cl outer A₀ base h₀ L m s Q E Bl F X N T hk hd hu hret
  refine wpAny_call ?_
  k_dflt (walk_at "my enterC")
  k_with "my comp" => (
    (refine' LCg.CompSrc.range (n := many - 1) (by rfl) ?c1 ?c2 (by assumption) ?c3 ?c4 ?c5 ?_);
    (case c1 => k_asm); (case c2 => k_asm); (case c3 => exact small_one (by omega) (by omega) (by omega) (by omega)); (case c4 => (rw [rangeSize_nat]; omega)); (case c5 => (rw [PySem.sizeLine_eq]; omega));
    intro g1;
    rename (∀ p ∈ (B, _) :: news, p.1 < _) => kl;
    refine' row_rest (w := w) (B := B) (S := S) (c := c) (tb := tc) (nb := nb) (base := _ :: _ :: news) ?_ in_box ?_ ?_;
    rotate_left;
    rotate_left;
    focus (intro ys fk tb1 nb1 nx hLK hnx);
    rotate_right;
    rotate_right;
    all_goals (try k_fold))
  k_with "binaryOp Add ref ref" => (
    k_here;
    (with_reducible show wpAny _ _ (binaryOp _ (Value.ref _) (Value.ref _)) _ _ _);
    k_dflt (refine' list_add (vs := [.ref A0]) ?k1 ?k2 ?k3 ?k4 ?k5 ?_);
    (case k1 => k_asm); (case k2 => k_asm); (case k3 => exact .tail _ (hnx _ (.tail _ (.head _)))); (case k4 => exact .head _); (case k5 => (rw [hLK.1, PySem.sizeLine_eq]; simp only [List.length_cons, List.length_nil]; omega));
    intro D9 h9 F9 N9 l9)
  k_steps
  · rename (_ ∈ _ :: _ :: news) => hp
    rename (∀ p ∈ _ :: (B, _) :: news, p.1 ≠ _) => hq
    rcases List.mem_cons.mp hp with rfl | hp
    · exact (hq _ (.tail _ (.head _))).symm
    rcases List.mem_cons.mp hp with rfl | hp
    · exact (Nat.ne_of_lt (Nat.lt_succ_of_lt (kl _ (.head _)))).symm
    · exact hB _ hp
  · rename News _ _ _ _ => kN
    rename KR _ _ _ => kK
    exact ⟨_, _, _, _, rfl, by assumption, kN, _, _, rfl, kK⟩
  · rename News _ _ _ _ => kN
    have hsub : ∀ p ∈ [(D9, listOf ([Value.ref A0] ++ ys).toArray 0)] ++ news, p ∈ (D9, listOf ([Value.ref A0] ++ ys).toArray 0) :: nx := fun p hp => by
      rcases List.mem_cons.mp hp with rfl | hp
      · exact .head _
      · exact .tail _ (hnx _ (.tail _ (.tail _ (.tail _ hp))))
    refine hret _ _ _ _ (by assumption) (fun p hp => kN p ?_) ⟨[(D9, listOf ([Value.ref A0] ++ ys).toArray 0)], D9, [Value.ref A0] ++ ys, 0, fun k => if k = 0 then q0 else fk (k - 1), tb1, nb1, rfl, rfl, ?_, .head _, ?_, rfl, ?_⟩
    · rcases List.mem_cons.mp hp with rfl | hp
      · exact .tail _ (.tail _ (hnx _ (.head _)))
      · rcases List.mem_cons.mp hp with rfl | hp
        · exact .head _
        · exact .tail _ (.tail _ (hnx _ (.tail _ (.tail _ (.tail _ hp)))))
    · intro p hp
      rw [List.mem_singleton.mp hp]
      exact (l9 _ (.tail _ (hnx _ (.head _)))).symm
    · have hn : many = (many - 1) + 1 := by omega
      rw [hn]
      refine LV.cons (hf.up fun p hp => .tail _ hp) ⟨hLK.1, fun i hi => ?_⟩
      obtain ⟨A, e, _, t, u, c', e'⟩ := hLK.2 i hi
      refine ⟨A, t, u, c', e, ?_⟩
      show Src w _ A (rObj (if ((i : Int) + 1) = 0 then q0 else fk ((i : Int) + 1 - 1)) t u c')
      rw [if_neg (by omega), Int.add_sub_cancel]
      exact .inr e'
    · intro i h1 h2
      show Seven (if (i : Int) = 0 then q0 else fk ((i : Int) - 1))
      rw [if_neg (by omega), show (i : Int) - 1 = ((i - 1 : Nat) : Int) by omega]
      obtain ⟨_, _, k, _⟩ := hLK.2 (i - 1) (by omega)
      exact k
/-- four coefficients -/
noncomputable def S4 (a0 a1 a2 a3 : Rat) (k : Int) : Rat := if k = 0 then a0 else if k = 1 then a1 else if k = 2 then a2 else a3
theorem Cl2.mono {w : World} {g : Addr} {vs : List Value} {k : Nat} {news : Led} {post post' : Value → Led → Prop} (c : Cl2 w g vs k news post) (h : ∀ v cur, post v cur → post' v cur) : Cl2 w g vs k news post' :=
  fun p loose mean mg mb dp un gd cn cs a ccd cl outer A₀ base h₀ L m s Q E B F X N T hk hd hu ret =>
    c p loose mean mg mb dp un gd cn cs a ccd cl outer A₀ base h₀ L m s Q E B F X N T hk hd hu fun v cur h' tk' F' N' q => ret v cur h' tk' F' N' (h v cur q)
noncomputable abbrev RowEnd (w : World) (B S : Addr) (c : Int) (n : Nat) (q0 : Rat) (news : Led) (v : Value) (cur : Led) : Prop :=
  ∃ add D rs cc a1 a2 a3 tb n', v = .ref D ∧ cur = (B, boxObj S (c + (n - 1 : Nat)) tb n') :: (add ++ news) ∧ (∀ p ∈ add ++ news, p.1 ≠ B) ∧ (D, listOf rs.toArray cc) ∈ add ∧ LV w (add ++ news) rs n (S4 q0 a1 a2 a3) ∧ Seven a1 ∧ Seven a2 ∧ Seven a3
theorem row_law (w : World) (B S A0 : Addr) (c : Int) (tc : MTok) (nb : Nat) (vs : List Value) (ns : List Int) (cS : Nat) (mi : Int) (tm : MTok) (k : Int) (t0 u0 : MTok) (c0 : Nat) (news : Led) (hS : (S, listOf vs.toArray cS) ∈ news) (hi : IntsAre vs ns) (hB : ∀ p ∈ news, p.1 ≠ B)
    (hc0 : 0 ≤ c) (hc : c < 900) (hm : 3 ≤ mi) (hm2 : mi ≤ 4) (hl : ns.length ≤ 20) (hf : (A0, ({ cls := .type "tuple", data := .seq #[.int k t0, .int 1 u0] c0 } : Obj)) ∈ news) :
    Cl2 w 214 [.ref B, .int mi tm, .ref A0] 5 ((B, boxObj S c tc nb) :: news) (RowEnd w B S c mi.toNat (k : Rat) news) := by
  obtain ⟨n, rfl⟩ : ∃ n : Nat, mi = n := ⟨mi.toNat, by omega⟩
  rw [Int.toNat_natCast]
  refine (law_row_ok w B S A0 c tc nb vs ns cS n tm (k : Rat) t0 u0 c0 news hS hi hB hc0 hc (by omega) (by omega) hl (Src.int hf)).mono ?_
  rintro v cur ⟨add, D, rs, cc, f, tb, n', e1, e2, h1, h2, h3, h4, h5⟩
  have z7 : Seven 0 := .inl rfl
  refine ⟨add, D, rs, cc, f 1, f 2, if n = 4 then f 3 else 0, tb, n', e1, e2, ?_, h2, h3.le ?_, h5 1 (by omega) (by omega), h5 2 (by omega) (by omega), ?_⟩
  · intro p hp
    rcases List.mem_append.mp hp with hp | hp
    · exact h1 p hp
    · exact hB p hp
  · intro i hi
    have h : i = 0 ∨ i = 1 ∨ i = 2 ∨ (i = 3 ∧ n = 4) := by omega
    rcases h with rfl | rfl | rfl | ⟨rfl, rfl⟩
    · exact h4
    · rfl
    · rfl
    · rfl
  · split
    · exact h5 3 (by omega) (by omega)
    · exact z7
theorem news_pull {g h : Heap} {L : Addr} {a b x : Addr × Obj} {nw : Led} (N : News g L h (a :: b :: x :: nw)) : News g L h (x :: a :: b :: nw) := fun p hp => by
  rcases List.mem_cons.mp hp with rfl | hp
  · exact N _ (.tail _ (.tail _ (.head _)))
  rcases List.mem_cons.mp hp with rfl | hp
  · exact N _ (.head _)
  rcases List.mem_cons.mp hp with rfl | hp
  · exact N _ (.tail _ (.head _))
  · exact N _ (.tail _ (.tail _ (.tail _ hp)))
theorem pull_ne {B D D' : Addr} {o oa ob : Obj} {nw : Led} (h1 : ∀ p ∈ nw, p.1 ≠ B) (h2 : ∀ p ∈ (B, o) :: nw, p.1 ≠ D') (h3 : ∀ p ∈ (D', ob) :: (B, o) :: nw, p.1 ≠ D) : ∀ p ∈ (D, oa) :: (D', ob) :: nw, p.1 ≠ B := fun p hp => by
  rcases List.mem_cons.mp hp with rfl | hp
  · exact (h3 _ (.tail _ (.head _))).symm
  rcases List.mem_cons.mp hp with rfl | hp
  · exact (h2 _ (.head _)).symm
  · exact h1 p hp
/-- q is an int over d, the int not over m -/
noncomputable def Bd (d m : Nat) (q : Rat) : Prop := ∃ z : Int, q * (d : Rat) = (z : Rat) ∧ z.natAbs ≤ m
theorem Bd.add {d m m' : Nat} {a b : Rat} (h : Bd d m a) (h' : Bd d m' b) : Bd d (m + m') (a + b) := by
  obtain ⟨z, e, l⟩ := h
  obtain ⟨z', e', l'⟩ := h'
  exact ⟨z + z', by grind, by omega⟩
theorem Bd.sub {d m m' : Nat} {a b : Rat} (h : Bd d m a) (h' : Bd d m' b) : Bd d (m + m') (a - b) := by
  obtain ⟨z, e, l⟩ := h
  obtain ⟨z', e', l'⟩ := h'
  exact ⟨z - z', by grind, by omega⟩
theorem Bd.mul {d e m m' : Nat} {a b : Rat} (h : Bd d m a) (h' : Bd e m' b) : Bd (d * e) (m * m') (a * b) := by
  obtain ⟨z, e, l⟩ := h
  obtain ⟨z', e', l'⟩ := h'
  exact ⟨z * z', by grind, by rw [Int.natAbs_mul]; exact Nat.mul_le_mul l l'⟩
theorem Bd.int (k : Int) : Bd 1 k.natAbs (k : Rat) := ⟨k, by grind, Nat.le_refl _⟩
theorem Bd.lift {d m : Nat} {a : Rat} (k : Nat) (h : Bd d m a) : Bd (d * k) (m * k) a := by
  obtain ⟨z, e, l⟩ := h
  have e2 := Rat.intCast_natCast k
  exact ⟨z * k, by rw [Rat.intCast_mul, e2]; grind, by rw [Int.natAbs_mul]; exact Nat.mul_le_mul l (Nat.le_of_eq (Int.natAbs_natCast _))⟩
theorem Bd.div {d m n : Nat} {a : Rat} (hn : 0 < n) (h : Bd d m a) : Bd (d * n) m (a / (n : Rat)) := by
  obtain ⟨z, e, l⟩ := h
  have hn' : (n : Rat) ≠ 0 := by
    intro e9
    have := congrArg Rat.num e9
    simp at this
    omega
  exact ⟨z, by grind, l⟩
theorem Bd.mono {d m m' : Nat} {a : Rat} (h : Bd d m a) (l : m ≤ m') : Bd d m' a := by
  obtain ⟨z, e, l'⟩ := h
  exact ⟨z, e, Nat.le_trans l' l⟩
theorem mul_den_num (q : Rat) : q * (q.den : Rat) = (q.num : Rat) := by
  have h0 : (q.den : Rat) ≠ 0 := by
    intro e9
    have := congrArg Rat.num e9
    exact q.den_nz (Int.ofNat.inj this)
  have e := Rat.num_divInt_den q
  rw [Rat.divInt_eq_div, Rat.intCast_natCast] at e
  grind
theorem Bd.sm {d m : Nat} {q : Rat} (h : Bd d m q) (h0 : 0 < d) (h1 : d < 18446744073709551616) (h2 : m < 18446744073709551616) : Sm q := by
  obtain ⟨z, e, l⟩ := h
  have hq := Rat.num_divInt_den q
  have hz : q.num * (d : Int) = z * (q.den : Int) := by
    have e1 : (q.num * (d : Int) : Int) = ((z * (q.den : Int) : Int) : Rat) := by
      have h3 := mul_den_num q
      have e3 := Rat.intCast_natCast d
      have e4 := Rat.intCast_natCast q.den
      rw [Rat.intCast_mul, Rat.intCast_mul, e3, e4]
      grind
    exact_mod_cast e1
  have c := q.reduced
  have d1 : q.den ∣ d := by
    have : q.den ∣ q.num.natAbs * d := by
      have := congrArg Int.natAbs hz
      rw [Int.natAbs_mul, Int.natAbs_mul, Int.natAbs_natCast, Int.natAbs_natCast] at this
      exact ⟨z.natAbs, by rw [this, Nat.mul_comm]⟩
    exact (Nat.Coprime.symm c).dvd_of_dvd_mul_left this
  have d2 : q.num.natAbs ∣ z.natAbs := by
    have : q.num.natAbs ∣ z.natAbs * q.den := by
      have := congrArg Int.natAbs hz
      rw [Int.natAbs_mul, Int.natAbs_mul, Int.natAbs_natCast, Int.natAbs_natCast] at this
      exact ⟨d, this.symm⟩
    exact c.dvd_of_dvd_mul_right this
  refine ⟨?_, Nat.lt_of_le_of_lt (Nat.le_of_dvd h0 d1) h1⟩
  by_cases hz0 : z.natAbs = 0
  · have : q.num = 0 := by
      have z0 : z = 0 := by omega
      rw [z0, Int.zero_mul] at hz
      rcases Int.mul_eq_zero.mp hz with h | h
      · exact h
      · omega
    omega
  · have := Nat.le_of_dvd (by omega) d2
    omega

/-- the same, by degrees -/
noncomputable abbrev Gr (D K i C : Nat) (q : Rat) : Prop := Bd (D ^ i) (C * K ^ i) q
theorem Gr.zero {D K i : Nat} : Gr D K i 0 0 := ⟨0, by grind, by omega⟩
theorem Gr.add {D K i C C' : Nat} {a b : Rat} (h : Gr D K i C a) (h' : Gr D K i C' b) : Gr D K i (C + C') (a + b) :=
  (Bd.add h h').mono (by rw [Nat.add_mul]; exact Nat.le_refl _)
theorem Gr.sub {D K i C C' : Nat} {a b : Rat} (h : Gr D K i C a) (h' : Gr D K i C' b) : Gr D K i (C + C') (a - b) :=
  (Bd.sub h h').mono (by rw [Nat.add_mul]; exact Nat.le_refl _)
theorem Gr.mul {D K i j n C C' : Nat} {a b : Rat} (h : Gr D K i C a) (h' : Gr D K j C' b) (e : n = i + j) : Gr D K n (C * C') (a * b) := by
  have := Bd.mul h h'
  subst e
  show Bd (D ^ (i + j)) (C * C' * K ^ (i + j)) (a * b)
  rw [Nat.pow_add, Nat.pow_add]
  exact this.mono (Nat.le_of_eq (by grind))
theorem Gr.had {D E F G K K' i C C' : Nat} {a b : Rat} (h : Gr D K i C a) (h' : Gr E K' i C' b) (e : F = D * E) (e' : G = K * K') : Gr F G i (C * C') (a * b) := by
  have := Bd.mul h h'
  subst e e'
  show Bd ((D * E) ^ i) (C * C' * (K * K') ^ i) (a * b)
  rw [Nat.mul_pow, Nat.mul_pow]
  exact this.mono (Nat.le_of_eq (by grind))
theorem Gr.lift {D F G K i C : Nat} {a : Rat} (E : Nat) (h : Gr D K i C a) (e : F = D * E) (e' : G = K * E) : Gr F G i C a := by
  have := Bd.lift (E ^ i) h
  subst e e'
  show Bd ((D * E) ^ i) (C * (K * E) ^ i) a
  rw [Nat.mul_pow, Nat.mul_pow]
  exact this.mono (Nat.le_of_eq (by grind))
theorem Gr.mono {D K K' i C C' : Nat} {a : Rat} (h : Gr D K i C a) (hK : K ≤ K') (hC : C ≤ C') : Gr D K' i C' a :=
  Bd.mono h (Nat.mul_le_mul hC (Nat.pow_le_pow_left hK i))
theorem Gr.up {D K i C : Nat} {a : Rat} (h : Gr D K i C a) (hK : D ≤ K) : Gr D K (i + 1) C a := by
  have := Bd.lift D h
  show Bd (D ^ (i + 1)) (C * K ^ (i + 1)) a
  rw [Nat.pow_succ, Nat.pow_succ, ← Nat.mul_assoc]
  exact this.mono (Nat.mul_le_mul_left _ hK)
theorem Gr.up1 {D K C : Nat} {a : Rat} (h : Gr D K 1 C a) (hK : D ≤ K) : ∀ {i : Nat}, 1 ≤ i → Gr D K i C a
  | 0, h0 => absurd h0 (by decide)
  | 1, _ => h
  | i + 2, _ => (Gr.up1 h hK (i := i + 1) (by omega)).up hK
theorem Gr.div {D F G K i C : Nat} {a : Rat} (n E : Nat) (h : Gr D K i C a) (h1 : 1 ≤ i) (hn : 0 < n) (hd : n ∣ E) (e : F = D * E) (e' : G = K * E) : Gr F G i C (a / (n : Rat)) := by
  subst e e'
  obtain ⟨t, ht⟩ := Nat.dvd_trans hd (Nat.dvd_of_pow_dvd h1 (Nat.dvd_refl _) : E ∣ E ^ i)
  have := Bd.lift t (Bd.div hn h)
  show Bd ((D * E) ^ i) (C * (K * E) ^ i) (a / (n : Rat))
  rw [Nat.mul_pow, Nat.mul_pow, ht, ← Nat.mul_assoc]
  refine this.mono ?_
  rw [← Nat.mul_assoc]
  refine Nat.mul_le_mul_left _ ?_
  exact Nat.le_mul_of_pos_left _ hn
theorem Gr.sm {D K i C : Nat} {q : Rat} (h : Gr D K i C q) (h1 : 1 ≤ D) (hD : D ≤ 216) (hK : K ≤ 25920) (hi : i ≤ 3) (hC : C ≤ 100000) : Sm q := by
  have b1 : D ^ i ≤ 216 ^ 3 := Nat.le_trans (Nat.pow_le_pow_left hD i) (Nat.pow_le_pow_right (by decide) hi)
  have b2 : K ^ i ≤ 25920 ^ 3 := Nat.le_trans (Nat.pow_le_pow_left hK i) (Nat.pow_le_pow_right (by decide) hi)
  have b3 : C * K ^ i ≤ 100000 * 25920 ^ 3 := Nat.mul_le_mul hC b2
  exact Bd.sm h (Nat.pow_pos h1) (Nat.lt_of_le_of_lt b1 (by decide)) (Nat.lt_of_le_of_lt b3 (by decide))
theorem Seven.gr {q : Rat} (h : Seven q) {i : Nat} (hi : 1 ≤ i) : Gr 6 18 i 1 q := by
  refine Gr.up1 (D := 6) (K := 18) (C := 1) ?_ (by decide) hi
  rcases h with rfl | rfl | rfl | rfl | rfl | rfl | rfl
  · exact ⟨0, by decide +kernel, by decide⟩
  · exact ⟨6, by decide +kernel, by decide⟩
  · exact ⟨-6, by decide +kernel, by decide⟩
  · exact ⟨12, by decide +kernel, by decide⟩
  · exact ⟨3, by decide +kernel, by decide⟩
  · exact ⟨-18, by decide +kernel, by decide⟩
  · exact ⟨4, by decide +kernel, by decide⟩
section
variable {a b e s c : Int → Rat} {D K A B : Nat} {n : Nat}
noncomputable def Below4 (D K A : Nat) (e : Int → Rat) : Prop := ∀ k : Nat, k ≤ 3 → Gr D K k A (e k)
noncomputable def From1 (D K A : Nat) (a : Int → Rat) : Prop := ∀ k : Nat, 1 ≤ k → k ≤ 3 → Gr D K k A (a k)
theorem From1.at (ha : From1 D K A a) {j : Nat} (h : j < 3) : Gr D K (1 + j) A (a (1 + (j : Int))) := by
  have := ha (1 + j) (by omega) (by omega)
  rwa [show ((1 + j : Nat) : Int) = 1 + (j : Int) by omega] at this
theorem Below4.at (he : Below4 D K B e) {i j : Nat} (h : i ≤ 3) (hj : j < i) : Gr D K (i - (1 + j)) B (e ((i : Int) - (1 + (j : Int)))) := by
  have := he (i - (1 + j)) (by omega)
  rwa [show ((i - (1 + j) : Nat) : Int) = (i : Int) - (1 + (j : Int)) by omega] at this
theorem Gr.int (k : Int) : Gr D K 0 k.natAbs (k : Rat) := by
  have := Bd.int k
  show Bd (D ^ 0) (k.natAbs * K ^ 0) k
  rw [Nat.pow_zero, Nat.pow_zero, Nat.mul_one]
  exact this
theorem coef_gr (ha : From1 D K A a) {j : Nat} (h : j < 3) : Gr D K (1 + j) (3 * A) (((1 + (j : Int) : Int) : Rat) * a (1 + (j : Int))) :=
  (Gr.mul (Gr.int (1 + (j : Int))) (ha.at h) (by omega)).mono (Nat.le_refl _) (Nat.mul_le_mul_right _ (by omega))
theorem term_gr (ha : From1 D K A a) (he : Below4 D K B e) {i j : Nat} (h : i ≤ 3) (hj : j < i) : Gr D K i (3 * A * B) (((1 + (j : Int) : Int) : Rat) * a (1 + (j : Int)) * e ((i : Int) - (1 + (j : Int)))) :=
  Gr.mul (coef_gr ha (by omega)) (he.at h hj) (by omega)
theorem expT_gr (ha : From1 D K A a) (he : Below4 D K B e) {i : Nat} (h : i ≤ 3) : ∀ j : Nat, j ≤ i → Gr D K i (j * (3 * A * B)) (expT a e i j)
  | 0, _ => by rw [Nat.zero_mul]; exact Gr.zero
  | j + 1, hj => by
    rw [Nat.succ_mul]
    exact Gr.add (expT_gr ha he h j (by omega)) (term_gr ha he h (by omega))
theorem sinT_gr (ha : From1 D K A a) (he : Below4 D K B c) {i : Nat} (h : i ≤ 3) : ∀ j : Nat, j ≤ i → Gr D K i (j * (3 * A * B)) (sinT a c i j)
  | 0, _ => by rw [Nat.zero_mul]; exact Gr.zero
  | j + 1, hj => by
    rw [Nat.succ_mul]
    exact Gr.add (sinT_gr ha he h j (by omega)) (term_gr ha he h (by omega))
theorem cosT_gr (ha : From1 D K A a) (he : Below4 D K B s) {i : Nat} (h : i ≤ 3) : ∀ j : Nat, j ≤ i → Gr D K i (j * (3 * A * B)) (cosT a s i j)
  | 0, _ => by rw [Nat.zero_mul]; exact Gr.zero
  | j + 1, hj => by
    rw [Nat.succ_mul]
    exact Gr.sub (cosT_gr ha he h j (by omega)) (term_gr ha he h (by omega))
theorem invT_gr (ha : From1 D K A a) (he : Below4 D K B e) {i : Nat} (h : i ≤ 3) : ∀ j : Nat, j ≤ i → Gr D K i (1 + j * (A * B)) (invT a e i j)
  | 0, _ => by
    show Gr D K i _ (if (i : Int) = 0 then 1 else 0)
    rw [Nat.zero_mul, Nat.add_zero]
    split
    · have : i = 0 := by omega
      subst this
      exact Gr.int 1
    · exact Gr.zero.mono (Nat.le_refl _) (by omega)
  | j + 1, hj => by
    rw [Nat.succ_mul, ← Nat.add_assoc]
    exact Gr.sub (invT_gr ha he h j (by omega)) (Gr.mul (ha.at (by omega)) (he.at h (by omega)) (by omega))
theorem mixT_gr (t : Nat) (ha : ∀ k : Nat, k ≤ 3 - t → Gr D K (k + t) A (a k)) (hb : Below4 D K B b) {i : Nat} (h : i + t ≤ 3) : ∀ j : Nat, j ≤ i + 1 → Gr D K (i + t) (j * (A * B)) (mixT a b i j)
  | 0, _ => by rw [Nat.zero_mul]; exact Gr.zero
  | j + 1, hj => by
    rw [Nat.succ_mul]
    refine Gr.add (mixT_gr t ha hb h j (by omega)) (Gr.mul (i := j + t) (j := i - j) (ha j (by omega)) ?_ (by omega))
    have := hb (i - j) (by omega)
    rwa [show ((i - j : Nat) : Int) = (i : Int) - (j : Int) by omega] at this

noncomputable abbrev Fits (D K : Nat) : Prop := 1 ≤ D ∧ D ≤ 216 ∧ K ≤ 25920
theorem exp_oks (f : Fits D K) (ha : From1 D K A a) (he : Below4 D K B e) (hA : A ≤ 30) (hB : B ≤ 30) (hn : n ≤ 4) :
    ∀ i : Nat, i < n → Sm (expT a e i i) ∧ Sm (e i) ∧ ∀ j : Nat, j < i → Sm (a (1 + j)) ∧ Sm (((1 + (j : Int) : Int) : Rat) * a (1 + j)) ∧ Sm (e (i - (1 + j))) ∧ Sm (((1 + (j : Int) : Int) : Rat) * a (1 + j) * e (i - (1 + j))) ∧ Sm (expT a e i j) := by
  obtain ⟨f1, f2, f3⟩ := f
  have hAB : 3 * A * B ≤ 2700 := Nat.mul_le_mul (n₂ := 90) (m₂ := 30) (by omega) hB
  intro i hi
  have s1 : ∀ j : Nat, j ≤ i → Sm (expT a e i j) := fun j hj => (expT_gr ha he (by omega) j hj).sm f1 f2 f3 (by omega) (Nat.le_trans (Nat.mul_le_mul (n₂ := 3) (m₂ := 2700) (by omega) hAB) (by decide))
  refine ⟨s1 i (Nat.le_refl _), (he i (by omega)).sm f1 f2 f3 (by omega) (by omega), fun j hj => ⟨(ha.at (by omega)).sm f1 f2 f3 (by omega) (by omega), (coef_gr ha (by omega)).sm f1 f2 f3 (by omega) (by omega), (he.at (by omega) hj).sm f1 f2 f3 (by omega) (by omega), (term_gr ha he (by omega) hj).sm f1 f2 f3 (by omega) (by omega), s1 j (by omega)⟩⟩
theorem sin_oks (f : Fits D K) (ha : From1 D K A a) (hs : Below4 D K B s) (hc : Below4 D K B c) (hA : A ≤ 30) (hB : B ≤ 30) (hn : n ≤ 4) :
    ∀ i : Nat, i < n → Sm (sinT a c i i) ∧ Sm (cosT a s i i) ∧ Sm (s i) ∧ Sm (c i) ∧ ∀ j : Nat, j < i → Sm (a (1 + j)) ∧ Sm (((1 + (j : Int) : Int) : Rat) * a (1 + j)) ∧ Sm (c (i - (1 + j))) ∧ Sm (s (i - (1 + j))) ∧ Sm (((1 + (j : Int) : Int) : Rat) * a (1 + j) * c (i - (1 + j))) ∧ Sm (((1 + (j : Int) : Int) : Rat) * a (1 + j) * s (i - (1 + j))) ∧ Sm (sinT a c i j) ∧ Sm (cosT a s i j) := by
  obtain ⟨f1, f2, f3⟩ := f
  have hAB : 3 * A * B ≤ 2700 := Nat.mul_le_mul (n₂ := 90) (m₂ := 30) (by omega) hB
  intro i hi
  have s1 : ∀ j : Nat, j ≤ i → Sm (sinT a c i j) := fun j hj => (sinT_gr ha hc (by omega) j hj).sm f1 f2 f3 (by omega) (Nat.le_trans (Nat.mul_le_mul (n₂ := 3) (m₂ := 2700) (by omega) hAB) (by decide))
  have s2 : ∀ j : Nat, j ≤ i → Sm (cosT a s i j) := fun j hj => (cosT_gr ha hs (by omega) j hj).sm f1 f2 f3 (by omega) (Nat.le_trans (Nat.mul_le_mul (n₂ := 3) (m₂ := 2700) (by omega) hAB) (by decide))
  refine ⟨s1 i (Nat.le_refl _), s2 i (Nat.le_refl _), (hs i (by omega)).sm f1 f2 f3 (by omega) (by omega), (hc i (by omega)).sm f1 f2 f3 (by omega) (by omega), fun j hj => ⟨(ha.at (by omega)).sm f1 f2 f3 (by omega) (by omega), (coef_gr ha (by omega)).sm f1 f2 f3 (by omega) (by omega), (hc.at (by omega) hj).sm f1 f2 f3 (by omega) (by omega), (hs.at (by omega) hj).sm f1 f2 f3 (by omega) (by omega), (term_gr ha hc (by omega) hj).sm f1 f2 f3 (by omega) (by omega), (term_gr ha hs (by omega) hj).sm f1 f2 f3 (by omega) (by omega), s1 j (by omega), s2 j (by omega)⟩⟩
theorem inv_oks (f : Fits D K) (ha : From1 D K A a) (he : Below4 D K B e) (hA : A ≤ 30) (hB : B ≤ 30) (hn : n ≤ 4) :
    ∀ i : Nat, i < n → Sm (invT a e i i) ∧ Sm (e i) ∧ ∀ j : Nat, j < i → Sm (a (1 + j)) ∧ Sm (e (i - (1 + j))) ∧ Sm (a (1 + j) * e (i - (1 + j))) ∧ Sm (invT a e i j) := by
  obtain ⟨f1, f2, f3⟩ := f
  have hAB : A * B ≤ 900 := Nat.mul_le_mul (n₂ := 30) (m₂ := 30) (by omega) hB
  intro i hi
  have s1 : ∀ j : Nat, j ≤ i → Sm (invT a e i j) := fun j hj => (invT_gr ha he (by omega) j hj).sm f1 f2 f3 (by omega) (Nat.le_trans (Nat.add_le_add_left (Nat.mul_le_mul (n₂ := 3) (m₂ := 900) (by omega) hAB) 1) (by decide))
  refine ⟨s1 i (Nat.le_refl _), (he i (by omega)).sm f1 f2 f3 (by omega) (by omega), fun j hj => ⟨(ha.at (by omega)).sm f1 f2 f3 (by omega) (by omega), (he.at (by omega) hj).sm f1 f2 f3 (by omega) (by omega), (Gr.mul (n := i) (ha.at (by omega)) (he.at (by omega) hj) (by omega)).sm f1 f2 f3 (by omega) (by omega), s1 j (by omega)⟩⟩
theorem mul_oksT (t : Nat) (f : Fits D K) (ha : ∀ k : Nat, k ≤ 3 - t → Gr D K (k + t) A (a k)) (hb : Below4 D K B b) (hA : A ≤ 30) (hB : B ≤ 30) (hn : n + t ≤ 4) :
    ∀ i : Nat, i < n → Sm (smulT a b i) ∧ ∀ j : Nat, (j : Int) ≤ i → Sm (a j) ∧ Sm (b (i - j)) ∧ Sm (a j * b (i - j)) ∧ Sm (mixT a b i j) := by
  obtain ⟨f1, f2, f3⟩ := f
  have hAB : A * B ≤ 900 := Nat.mul_le_mul (n₂ := 30) (m₂ := 30) (by omega) hB
  intro i hi
  have s1 : ∀ j : Nat, j ≤ i + 1 → Sm (mixT a b i j) := fun j hj => (mixT_gr t ha hb (by omega) j hj).sm f1 f2 f3 (by omega) (Nat.le_trans (Nat.mul_le_mul (n₂ := 4) (m₂ := 900) (by omega) hAB) (by decide))
  refine ⟨?_, fun j hj => ?_⟩
  · have := s1 (i + 1) (Nat.le_refl _)
    show Sm (mixT a b i ((i : Int) + 1).toNat)
    rwa [show ((i : Int) + 1).toNat = i + 1 by omega]
  · have hb' := hb (i - j) (by omega)
    rw [show ((i - j : Nat) : Int) = (i : Int) - (j : Int) by omega] at hb'
    have ha' := ha j (by omega)
    exact ⟨ha'.sm f1 f2 f3 (by omega) (by omega), hb'.sm f1 f2 f3 (by omega) (by omega), (Gr.mul (n := i + t) ha' hb' (by omega)).sm f1 f2 f3 (by omega) (by omega), s1 j (by omega)⟩
theorem mul_oks (f : Fits D K) (ha : Below4 D K A a) (hb : Below4 D K B b) (hA : A ≤ 30) (hB : B ≤ 30) (hn : n ≤ 4) :
    ∀ i : Nat, i < n → Sm (smulT a b i) ∧ ∀ j : Nat, (j : Int) ≤ i → Sm (a j) ∧ Sm (b (i - j)) ∧ Sm (a j * b (i - j)) ∧ Sm (mixT a b i j) :=
  mul_oksT 0 f (fun k hk => ha k hk) hb hA hB hn
end
set_option linter.unusedSimpArgs false
noncomputable def expE (a : Int → Rat) : Int → Rat := S4 1 (a 1) (a 2 + a 1 * a 1 / ((2 : Nat) : Rat)) (a 3 + a 1 * a 2 + a 1 * a 1 * a 1 / ((6 : Nat) : Rat))
noncomputable def snE (a : Int → Rat) : Int → Rat := S4 0 (a 1) (a 2) (a 3 - a 1 * a 1 * a 1 / ((6 : Nat) : Rat))
noncomputable def csE (a : Int → Rat) : Int → Rat := S4 1 0 (0 - a 1 * a 1 / ((2 : Nat) : Rat)) (0 - a 1 * a 2)
noncomputable def invE (a : Int → Rat) : Int → Rat := S4 1 (0 - a 1) (a 1 * a 1 - a 2) (a 1 * a 2 + a 1 * a 2 - a 1 * a 1 * a 1 - a 3)
noncomputable def powE (r : Rat) (a : Int → Rat) : Int → Rat := S4 1 (r * a 1) (r * a 2 + (r * (r - 1) / ((2 : Nat) : Rat)) * (a 1 * a 1)) (r * a 3 + (r * (r - 1)) * (a 1 * a 2) + (r * (r - 1) * (r - 2) / ((6 : Nat) : Rat)) * (a 1 * a 1 * a 1))
section
variable {a b e s c : Int → Rat} {r : Rat} {n : Nat}
theorem four {P : Nat → Prop} (h0 : P 0) (h1 : P 1) (h2 : P 2) (h3 : P 3) (hn : n ≤ 4) : ∀ i : Nat, i < n → P i := by
  intro i hi
  have h : i = 0 ∨ i = 1 ∨ i = 2 ∨ i = 3 := by omega
  rcases h with rfl | rfl | rfl | rfl <;> assumption
theorem s0 {x0 x1 x2 x3 : Rat} : S4 x0 x1 x2 x3 0 = x0 := rfl
theorem s1 {x0 x1 x2 x3 : Rat} : S4 x0 x1 x2 x3 1 = x1 := rfl
theorem s2 {x0 x1 x2 x3 : Rat} : S4 x0 x1 x2 x3 2 = x2 := rfl
theorem s3 {x0 x1 x2 x3 : Rat} : S4 x0 x1 x2 x3 3 = x3 := rfl
theorem i0 : ((0 : Nat) : Int) = 0 := rfl
theorem i1 : ((1 : Nat) : Int) = 1 := rfl
theorem i2 : ((2 : Nat) : Int) = 2 := rfl
theorem i3 : ((3 : Nat) : Int) = 3 := rfl
theorem q0 : ((0 : Int) : Rat) = 0 := rfl
theorem q1 : ((1 : Int) : Rat) = 1 := rfl
theorem q2 : ((2 : Int) : Rat) = 2 := rfl
theorem q3 : ((3 : Int) : Rat) = 3 := rfl
theorem n2 : ((2 : Nat) : Rat) = 2 := rfl
theorem n6 : ((6 : Nat) : Rat) = 6 := rfl
theorem exp_rec (hn : n ≤ 4) : ∀ i : Nat, i < n → expE a i = if i = 0 then 1 else expT a (expE a) i i / ((i : Int) : Rat) := by
  refine four ?_ ?_ ?_ ?_ hn
  · rfl
  · rw [if_neg (by decide)]
    simp only [expT, i0, i1, i2, i3, Int.add_zero, Int.reduceAdd, Int.reduceSub, q1, q2, q3, expE, s0, s1, s2, s3, n2, n6]
    grind
  · rw [if_neg (by decide)]
    simp only [expT, i0, i1, i2, i3, Int.add_zero, Int.reduceAdd, Int.reduceSub, q1, q2, q3, expE, s0, s1, s2, s3, n2, n6]
    grind
  · rw [if_neg (by decide)]
    simp only [expT, i0, i1, i2, i3, Int.add_zero, Int.reduceAdd, Int.reduceSub, q1, q2, q3, expE, s0, s1, s2, s3, n2, n6]
    grind
theorem sin_rec (hn : n ≤ 4) : ∀ i : Nat, i < n → snE a i = if i = 0 then 0 else sinT a (csE a) i i / ((i : Int) : Rat) := by
  refine four rfl ?_ ?_ ?_ hn <;>
  · rw [if_neg (by decide)]
    simp only [sinT, i0, i1, i2, i3, Int.add_zero, Int.reduceAdd, Int.reduceSub, q1, q2, q3, snE, csE, s0, s1, s2, s3, n2, n6]
    grind
theorem cos_rec (hn : n ≤ 4) : ∀ i : Nat, i < n → csE a i = if i = 0 then 1 else cosT a (snE a) i i / ((i : Int) : Rat) := by
  refine four rfl ?_ ?_ ?_ hn <;>
  · rw [if_neg (by decide)]
    simp only [cosT, i0, i1, i2, i3, Int.add_zero, Int.reduceAdd, Int.reduceSub, q1, q2, q3, snE, csE, s0, s1, s2, s3, n2, n6]
    grind
theorem inv_rec (ha : a 0 = 1) (hn : n ≤ 4) : ∀ i : Nat, i < n → invE a i = invT a (invE a) i i / a 0 := by
  refine four ?_ ?_ ?_ ?_ hn <;>
  · simp only [invT, ha, i0, i1, i2, i3, Int.add_zero, Int.reduceAdd, Int.reduceSub, q1, q2, q3, invE, s0, s1, s2, s3, n2, n6]
    grind
theorem pow_rec (hn : n ≤ 4) : ∀ i : Nat, i < n → powE r a i = if i = 0 then 1 else powT a (powE r a) r i i / ((i : Int) : Rat) := by
  refine four rfl ?_ ?_ ?_ hn <;>
  · rw [if_neg (by decide)]
    simp only [powT, powF, i0, i1, i2, i3, Int.add_zero, Int.reduceAdd, Int.reduceSub, q0, q1, q2, q3, powE, s0, s1, s2, s3, n2, n6]
    grind
end
set_option linter.unusedSimpArgs false
noncomputable def addF (a b : Int → Rat) (k : Int) : Rat := a k + b k
noncomputable def subF (a b : Int → Rat) (k : Int) : Rat := a k - b k
section
variable {a b f g : Int → Rat} {r s : Rat} {n : Nat} {D K A B : Nat}
theorem fourB {e : Int → Rat} (h0 : Gr D K 0 A (e 0)) (h1 : Gr D K 1 A (e 1)) (h2 : Gr D K 2 A (e 2)) (h3 : Gr D K 3 A (e 3)) : Below4 D K A e := by
  intro k hk
  have h : k = 0 ∨ k = 1 ∨ k = 2 ∨ k = 3 := by omega
  rcases h with rfl | rfl | rfl | rfl <;> assumption
theorem threeB {e : Int → Rat} (h1 : Gr D K 1 A (e 1)) (h2 : Gr D K 2 A (e 2)) (h3 : Gr D K 3 A (e 3)) : From1 D K A e := by
  intro k hk0 hk
  have h : k = 1 ∨ k = 2 ∨ k = 3 := by omega
  rcases h with rfl | rfl | rfl <;> assumption
theorem gr1 : Gr D K 0 1 (1 : Rat) := Gr.int 1
theorem expE_b (h : From1 6 36 1 a) : Below4 36 216 3 (expE a) := by
  have h1 : Gr 6 36 1 1 (a 1) := h 1 (by decide) (by decide)
  have h2 : Gr 6 36 2 1 (a 2) := h 2 (by decide) (by decide)
  have h3 : Gr 6 36 3 1 (a 3) := h 3 (by decide) (by decide)
  refine fourB ?_ ?_ ?_ ?_
  · exact Gr.mono (K := 1) gr1 (by decide) (by decide)
  · exact (h1.lift 6 rfl rfl).mono (by decide) (by decide)
  · exact (Gr.add (h2.lift 6 rfl rfl) (Gr.div 2 6 (h1.mul h1 (n := 2) rfl) (by decide) (by decide) (by decide) rfl rfl)).mono (by decide) (by decide)
  · exact (Gr.add (Gr.add (h3.lift 6 rfl rfl) ((h1.mul h2 (n := 3) rfl).lift 6 rfl rfl)) (Gr.div 6 6 ((h1.mul h1 (n := 2) rfl).mul h1 (n := 3) rfl) (by decide) (by decide) (by decide) rfl rfl)).mono (by decide) (by decide)
theorem snE_b (h : From1 6 36 1 a) : Below4 36 216 3 (snE a) := by
  have h1 : Gr 6 36 1 1 (a 1) := h 1 (by decide) (by decide)
  have h2 : Gr 6 36 2 1 (a 2) := h 2 (by decide) (by decide)
  have h3 : Gr 6 36 3 1 (a 3) := h 3 (by decide) (by decide)
  refine fourB ?_ ?_ ?_ ?_
  · exact Gr.mono (K := 1) (C := 0) Gr.zero (by decide) (by decide)
  · exact (h1.lift 6 rfl rfl).mono (by decide) (by decide)
  · exact (h2.lift 6 rfl rfl).mono (by decide) (by decide)
  · exact (Gr.sub (h3.lift 6 rfl rfl) (Gr.div 6 6 ((h1.mul h1 (n := 2) rfl).mul h1 (n := 3) rfl) (by decide) (by decide) (by decide) rfl rfl)).mono (by decide) (by decide)
theorem csE_b (h : From1 6 36 1 a) : Below4 36 216 3 (csE a) := by
  have h1 : Gr 6 36 1 1 (a 1) := h 1 (by decide) (by decide)
  have h2 : Gr 6 36 2 1 (a 2) := h 2 (by decide) (by decide)
  refine fourB ?_ ?_ ?_ ?_
  · exact Gr.mono (K := 1) gr1 (by decide) (by decide)
  · exact Gr.mono (K := 1) (C := 0) Gr.zero (by decide) (by decide)
  · exact (Gr.sub Gr.zero (Gr.div 2 6 (h1.mul h1 (n := 2) rfl) (by decide) (by decide) (by decide) rfl rfl)).mono (by decide) (by decide)
  · exact (Gr.sub Gr.zero ((h1.mul h2 (n := 3) rfl).lift 6 rfl rfl)).mono (by decide) (by decide)
theorem invE_b (h : From1 6 36 1 a) : Below4 6 36 4 (invE a) := by
  have h1 : Gr 6 36 1 1 (a 1) := h 1 (by decide) (by decide)
  have h2 : Gr 6 36 2 1 (a 2) := h 2 (by decide) (by decide)
  have h3 : Gr 6 36 3 1 (a 3) := h 3 (by decide) (by decide)
  have h12 := h1.mul h2 (n := 3) rfl
  refine fourB ?_ ?_ ?_ ?_
  · exact Gr.mono (K := 1) gr1 (by decide) (by decide)
  · exact (Gr.sub Gr.zero h1).mono (by decide) (by decide)
  · exact (Gr.sub (h1.mul h1 (n := 2) rfl) h2).mono (by decide) (by decide)
  · exact (Gr.sub (Gr.sub (Gr.add h12 h12) ((h1.mul h1 (n := 2) rfl).mul h1 (n := 3) rfl)) h3).mono (by decide) (by decide)
theorem less_gr (h : Gr 6 K 1 1 r) (k : Int) (hK' : K + 6 * k.natAbs ≤ B) : Gr 6 B 1 1 (r - (k : Rat)) := by
  refine (Bd.sub h (Bd.lift 6 (Bd.int k))).mono ?_
  rw [Nat.pow_one, Nat.pow_one]
  omega
theorem powE_b (h : From1 6 36 1 a) (hr : Gr 6 36 1 1 r) : Below4 216 25920 3 (powE r a) := by
  have h1 : Gr 6 36 1 1 (a 1) := h 1 (by decide) (by decide)
  have h2 : Gr 6 36 2 1 (a 2) := h 2 (by decide) (by decide)
  have h3 : Gr 6 36 3 1 (a 3) := h 3 (by decide) (by decide)
  have r1 : Gr 6 48 1 1 (r - 1) := less_gr hr 1 (by decide)
  have r2 : Gr 6 48 1 1 (r - 2) := less_gr hr 2 (by decide)
  have r0 : Gr 6 48 1 1 r := hr.mono (by decide) (by decide)
  have r02 : Gr 6 48 2 1 r := r0.up1 (by decide) (by decide)
  have r03 : Gr 6 48 3 1 r := r0.up1 (by decide) (by decide)
  have rr : Gr 6 48 2 1 (r * (r - 1)) := (Gr.mul r0 r1 (n := 2) rfl).mono (Nat.le_refl _) (by decide)
  have rr3 : Gr 6 48 3 1 (r * (r - 1)) := Gr.up rr (by decide)
  have rrr : Gr 6 48 3 1 (r * (r - 1) * (r - 2)) := (Gr.mul rr r2 (n := 3) rfl).mono (Nat.le_refl _) (by decide)
  have h11 : Gr 6 36 2 1 (a 1 * a 1) := (Gr.mul h1 h1 (n := 2) rfl).mono (Nat.le_refl _) (by decide)
  have h12 : Gr 6 36 3 1 (a 1 * a 2) := (Gr.mul h1 h2 (n := 3) rfl).mono (Nat.le_refl _) (by decide)
  have h111 : Gr 6 36 3 1 (a 1 * a 1 * a 1) := (Gr.mul h11 h1 (n := 3) rfl).mono (Nat.le_refl _) (by decide)
  have low : ∀ {i : Nat} {q : Rat}, Gr 36 1728 i 1 q → Gr 216 25920 i 1 q := fun g => (Gr.lift 6 (F := 216) (G := 10368) g rfl rfl).mono (by decide) (Nat.le_refl _)
  have p1 : Gr 216 25920 1 1 (r * a 1) := low ((Gr.had r0 h1 (F := 36) (G := 1728) rfl rfl).mono (Nat.le_refl _) (by decide))
  have p2 : Gr 216 25920 2 1 (r * a 2) := low ((Gr.had r02 h2 (F := 36) (G := 1728) rfl rfl).mono (Nat.le_refl _) (by decide))
  have p3 : Gr 216 25920 3 1 (r * a 3) := low ((Gr.had r03 h3 (F := 36) (G := 1728) rfl rfl).mono (Nat.le_refl _) (by decide))
  have p4 : Gr 216 25920 3 1 (r * (r - 1) * (a 1 * a 2)) := low ((Gr.had rr3 h12 (F := 36) (G := 1728) rfl rfl).mono (Nat.le_refl _) (by decide))
  have d2 : Gr 36 288 2 1 (r * (r - 1) / ((2 : Nat) : Rat)) := Gr.div 2 6 rr (by decide) (by decide) (by decide) rfl rfl
  have d3 : Gr 36 288 3 1 (r * (r - 1) * (r - 2) / ((6 : Nat) : Rat)) := Gr.div 6 6 rrr (by decide) (by decide) (by decide) rfl rfl
  have p5 : Gr 216 25920 2 1 (r * (r - 1) / ((2 : Nat) : Rat) * (a 1 * a 1)) := (Gr.had d2 h11 (F := 216) (G := 10368) rfl rfl).mono (by decide) (by decide)
  have p6 : Gr 216 25920 3 1 (r * (r - 1) * (r - 2) / ((6 : Nat) : Rat) * (a 1 * a 1 * a 1)) := (Gr.had d3 h111 (F := 216) (G := 10368) rfl rfl).mono (by decide) (by decide)
  have e2 := Gr.mono (Gr.add p2 p5) (Nat.le_refl _) (C' := 3) (by decide)
  have e3 := Gr.mono (Gr.add (Gr.add p3 p4) p6) (Nat.le_refl _) (C' := 3) (by decide)
  refine fourB ?_ ?_ ?_ ?_
  · exact Gr.mono (K := 1) gr1 (by decide) (by decide)
  · exact Gr.mono p1 (Nat.le_refl _) (by decide)
  · exact e2
  · exact e3
theorem From1.lift {F G : Nat} (E : Nat) (h : From1 D K A a) (e : F = D * E) (e' : G = K * E) : From1 F G A a := fun k h0 h1 => (h k h0 h1).lift E e e'
theorem From1.mono {B' : Nat} (h : From1 D K A a) (hB : K ≤ B') : From1 D B' A a := fun k h0 h1 => (h k h0 h1).mono hB (Nat.le_refl _)
theorem From1.all (h : From1 D K A a) (h0 : a 0 = 0 ∨ a 0 = 1) (hA : 1 ≤ A) : Below4 D K A a := by
  intro k hk
  by_cases e : k = 0
  · subst e
    show Gr D K 0 A (a 0)
    rcases h0 with e | e <;> rw [e]
    · exact Gr.zero.mono (Nat.le_refl _) (Nat.zero_le _)
    · exact gr1.mono (Nat.le_refl _) hA
  · exact h k (by omega) hk
theorem pow_oks (h : From1 6 36 1 a) (hr : Gr 6 36 1 1 r) (hn : n ≤ 4) : ∀ i : Nat, i < n → Sm (powT a (powE r a) r i i) ∧ Sm (powE r a i) ∧ ∀ j : Nat, j < i → Sm (r * ((1 + (j : Int) : Int) : Rat)) ∧ Sm (powF r i j) ∧ Sm (a (1 + j)) ∧ Sm (powF r i j * a (1 + j)) ∧ Sm (powE r a (i - (1 + j))) ∧ Sm (powF r i j * a (1 + j) * powE r a (i - (1 + j))) ∧ Sm (powT a (powE r a) r i j) := by
  have he := powE_b h hr
  have fits : Fits 216 25920 := by decide
  obtain ⟨f1, f2, f3⟩ := fits
  have pf : ∀ i j : Nat, i ≤ 3 → j < i → Gr 6 108 1 1 (r * ((1 + (j : Int) : Int) : Rat)) ∧ Gr 6 120 1 1 (powF r i j) := by
    intro i j hi hj
    have e1 : Gr 6 108 1 1 (r * ((1 + (j : Int) : Int) : Rat)) := by
      refine (Bd.mul hr (Bd.int (1 + (j : Int)))).mono ?_
      have : (1 + (j : Int)).natAbs ≤ 3 := by omega
      exact Nat.mul_le_mul_left 36 this
    exact ⟨e1, less_gr e1 ((i : Int) - (1 + (j : Int))) (by omega)⟩
  have pt : ∀ i j : Nat, i ≤ 3 → j < i → Gr 36 4320 (1 + j) 1 (powF r i j * a (1 + (j : Int))) := fun i j hi hj =>
    Gr.had ((pf i j hi hj).2.up1 (by decide) (by omega)) (h.at (j := j) (by omega)) rfl rfl
  have pu : ∀ i j : Nat, i ≤ 3 → j < i → Gr 216 25920 i 3 (powF r i j * a (1 + (j : Int)) * powE r a ((i : Int) - (1 + (j : Int)))) := fun i j hi hj =>
    ((pt i j hi hj).lift 6 (F := 216) (G := 25920) rfl rfl).mul (he.at hi hj) (by omega)
  have ps : ∀ i : Nat, i ≤ 3 → ∀ j : Nat, j ≤ i → Gr 216 25920 i (j * 3) (powT a (powE r a) r i j) := by
    intro i hi j
    induction j with
    | zero => intro _; exact Gr.zero
    | succ j ih =>
      intro hj
      rw [Nat.succ_mul]
      exact Gr.add (ih (by omega)) (pu i j hi (by omega))
  intro i hi
  refine ⟨(ps i (by omega) i (Nat.le_refl _)).sm f1 f2 f3 (by omega) (by omega), (he i (by omega)).sm f1 f2 f3 (by omega) (by omega), fun j hj => ⟨(pf i j (by omega) hj).1.sm (by decide) (by decide) (by decide) (by decide) (by decide), (pf i j (by omega) hj).2.sm (by decide) (by decide) (by decide) (by decide) (by decide),
    (h.at (by omega)).sm (by decide) (by decide) (by decide) (by omega) (by decide), (pt i j (by omega) hj).sm (by decide) (by decide) (by decide) (by omega) (by decide), (he.at (by omega) hj).sm f1 f2 f3 (by omega) (by omega), (pu i j (by omega) hj).sm f1 f2 f3 (by omega) (by omega), (ps i (by omega) j (by omega)).sm f1 f2 f3 (by omega) (by omega)⟩⟩
/-- small below index 4 -/
noncomputable def AllSm (a : Int → Rat) : Prop := ∀ i : Nat, i ≤ 3 → Sm (a i)
theorem Below4.sm (h : Below4 D K A a) (f : Fits D K) (hA : A ≤ 100000) : AllSm a := fun i hi => (h i hi).sm f.1 f.2.1 f.2.2 hi hA
theorem mul_b (ha : Below4 D K A a) (hb : Below4 D K B b) : Below4 D K (4 * (A * B)) (smulT a b) := by
  intro k hk
  have := mixT_gr (D := D) (K := K) 0 (fun k hk => ha k hk) hb (i := k) (by omega) (k + 1) (Nat.le_refl _)
  have e : smulT a b k = mixT a b k (k + 1) := by
    show mixT a b k ((k : Int) + 1).toNat = _
    rw [show ((k : Int) + 1).toNat = k + 1 by omega]
  rw [e]
  exact Gr.mono this (Nat.le_refl _) (Nat.mul_le_mul_right _ (by omega))
/-- two series whose product is small -/
noncomputable def Mulable (a b : Int → Rat) : Prop := ∃ D K A B, Fits D K ∧ A ≤ 30 ∧ B ≤ 30 ∧ Below4 D K A a ∧ Below4 D K B b
theorem Mulable.sm (h : Mulable a b) : AllSm (smulT a b) := by
  obtain ⟨D, K, A, B, f, hA, hB, ha, hb⟩ := h
  have hAB : A * B ≤ 900 := Nat.mul_le_mul (n₂ := 30) (m₂ := 30) hA hB
  exact (mul_b ha hb).sm f (by omega)
/-- a series of the law: from index 1 on -/
noncomputable def Ser (a : Int → Rat) : Prop := From1 6 36 1 a
/-- a row of the law -/
noncomputable def Row (q : Rat) (a : Int → Rat) : Prop := a 0 = q ∧ From1 6 18 1 a
theorem row_S4 {q x y z : Rat} (h1 : Seven x) (h2 : Seven y) (h3 : Seven z) : Row q (S4 q x y z) :=
  ⟨rfl, threeB (h1.gr (by decide)) (h2.gr (by decide)) (h3.gr (by decide))⟩
theorem Row.ser {q : Rat} (h : Row q a) : Ser a := h.2.mono (by decide)
theorem sum_ser {q q' : Rat} (h : Row q a) (h' : Row q' b) : Ser (addF a b) := by
  intro k h0 h1
  refine Bd.mono (Gr.add (h.2 k h0 h1) (h'.2 k h0 h1)) ?_
  have : k = 1 ∨ k = 2 ∨ k = 3 := by omega
  rcases this with rfl | rfl | rfl <;> decide
theorem Row.all (h : Row 1 a) : Below4 6 18 1 a := h.2.all (.inr h.1) (Nat.le_refl _)
theorem Row.all0 (h : Row 0 a) : Below4 6 18 1 a := h.2.all (.inl h.1) (Nat.le_refl _)
theorem prod_ser (h : Row 1 a) (h' : Row 1 b) : Ser (smulT a b) := by
  intro k h0 h1
  have := mixT_gr (D := 6) (K := 18) 0 (fun k hk => h.all k hk) h'.all (i := k) (by omega) (k + 1) (Nat.le_refl _)
  have e : smulT a b k = mixT a b k (k + 1) := by
    show mixT a b k ((k : Int) + 1).toNat = _
    rw [show ((k : Int) + 1).toNat = k + 1 by omega]
  rw [e]
  refine Bd.mono this ?_
  have : k = 1 ∨ k = 2 ∨ k = 3 := by omega
  rcases this with rfl | rfl | rfl <;> decide
theorem Row.mulable (h : Row 1 a) (h' : Row 1 b) : Mulable a b := ⟨6, 18, 1, 1, by decide, by decide, by decide, h.all, h'.all⟩
theorem exp_mulable (h : Ser a) (h' : Ser b) : Mulable (expE a) (expE b) := ⟨36, 216, 3, 3, by decide, by decide, by decide, expE_b h, expE_b h'⟩
theorem sc_mulable (h : Ser a) (h' : Ser b) : Mulable (snE a) (csE b) := ⟨36, 216, 3, 3, by decide, by decide, by decide, snE_b h, csE_b h'⟩
theorem cs_mulable (h : Ser a) (h' : Ser b) : Mulable (csE a) (snE b) := ⟨36, 216, 3, 3, by decide, by decide, by decide, csE_b h, snE_b h'⟩
theorem ss_mulable (h : Ser a) (h' : Ser b) : Mulable (snE a) (snE b) := ⟨36, 216, 3, 3, by decide, by decide, by decide, snE_b h, snE_b h'⟩
theorem cc_mulable (h : Ser a) (h' : Ser b) : Mulable (csE a) (csE b) := ⟨36, 216, 3, 3, by decide, by decide, by decide, csE_b h, csE_b h'⟩
theorem pow_mulable (h : Ser a) (h' : Ser b) (hr : Gr 6 36 1 1 r) (hs : Gr 6 36 1 1 s) : Mulable (powE r a) (powE s b) := ⟨216, 25920, 3, 3, by decide, by decide, by decide, powE_b h hr, powE_b h' hs⟩
theorem Row.sm1 (h : Row 1 a) : AllSm a := h.all.sm (by decide) (by decide)
theorem Row.sm0 (h : Row 0 a) : AllSm a := h.all0.sm (by decide) (by decide)
theorem Seven.exp (h : Seven r) : Gr 6 36 1 1 r := (h.gr (by decide)).mono (by decide) (by decide)
theorem Seven.exp2 (h : Seven r) (h' : Seven s) : Gr 6 36 1 1 (r + s) := by
  refine Bd.mono (Gr.add (h.gr (i := 1) (by decide)) (h'.gr (i := 1) (by decide))) (by decide)
theorem Seven.sm (h : Seven r) : Sm r := (h.gr (i := 1) (by decide)).sm (by decide) (by decide) (by decide) (by decide) (by decide)
theorem der_b (h : Ser a) : ∀ k : Nat, k ≤ 2 → Gr 6 36 (k + 1) 3 (derF a k) := by
  intro k hk
  have := coef_gr (A := 1) h (j := k) (by omega)
  rw [Nat.add_comm] at this
  exact this
theorem log_oks (h : Ser a) (hn : n ≤ 4) : ∀ i : Nat, i < n - 1 → Sm (smulT (derF a) (invE a) i) ∧ ∀ j : Nat, (j : Int) ≤ i → Sm (derF a j) ∧ Sm (invE a (i - j)) ∧ Sm (derF a j * invE a (i - j)) ∧ Sm (mixT (derF a) (invE a) i j) :=
  mul_oksT 1 (D := 6) (K := 36) (A := 3) (B := 4) (by decide) (fun k hk => der_b h k (by omega)) (invE_b h) (by decide) (by decide) (by omega)
noncomputable def logE (a : Int → Rat) : Int → Rat := logF a (invE a)
theorem log_sm (h : Ser a) : AllSm (logE a) := by
  intro i hi
  show Sm (if (i : Int) = 0 then 0 else smulT (derF a) (invE a) ((i : Int) - 1) / ((i : Int) : Rat))
  split
  · exact ⟨by decide, by decide⟩
  · rename_i hi0
    obtain ⟨k, rfl⟩ : ∃ k : Nat, i = k + 1 := ⟨i - 1, by omega⟩
    rw [show (((k + 1 : Nat) : Int) - 1) = (k : Int) by omega]
    have e : smulT (derF a) (invE a) k = mixT (derF a) (invE a) k (k + 1) := by
      show mixT _ _ k ((k : Int) + 1).toNat = _
      rw [show ((k : Int) + 1).toNat = k + 1 by omega]
    have g := mixT_gr (D := 6) (K := 36) (A := 3) (B := 4) 1 (fun k hk => der_b h k (by omega)) (invE_b h) (i := k) (by omega) (k + 1) (Nat.le_refl _)
    rw [e, Rat.intCast_natCast]
    have hd : k + 1 ∣ 6 := by
      have : k = 0 ∨ k = 1 ∨ k = 2 := by omega
      rcases this with rfl | rfl | rfl <;> decide
    exact (Gr.div (F := 36) (G := 216) (k + 1) 6 g (by omega) (by omega) hd rfl rfl).sm (by decide) (by decide) (by decide) (by omega) (by omega)
end
set_option linter.unusedSimpArgs false
section
variable {a b f g : Int → Rat} {r s : Rat} {n : Nat}
theorem m0 : smulT a b 0 = a 0 * b 0 := by
  simp only [smulT, mixT, Int.add_zero, Int.zero_add, Int.reduceAdd, Int.reduceToNat, i0, i1, i2, i3, Int.reduceSub]
  grind
theorem m1 : smulT a b 1 = a 0 * b 1 + a 1 * b 0 := by
  simp only [smulT, mixT, Int.add_zero, Int.zero_add, Int.reduceAdd, Int.reduceToNat, i0, i1, i2, i3, Int.reduceSub]
  grind
theorem m2 : smulT a b 2 = a 0 * b 2 + a 1 * b 1 + a 2 * b 0 := by
  simp only [smulT, mixT, Int.add_zero, Int.zero_add, Int.reduceAdd, Int.reduceToNat, i0, i1, i2, i3, Int.reduceSub]
  grind
theorem m3 : smulT a b 3 = a 0 * b 3 + a 1 * b 2 + a 2 * b 1 + a 3 * b 0 := by
  simp only [smulT, mixT, Int.add_zero, Int.zero_add, Int.reduceAdd, Int.reduceToNat, i0, i1, i2, i3, Int.reduceSub]
  grind
theorem exp_add (hn : n ≤ 4) : ∀ i : Nat, i < n → expE (addF a b) i = smulT (expE a) (expE b) i := by
  refine four ?_ ?_ ?_ ?_ hn <;>
  · simp only [i0, i1, i2, i3, m0, m1, m2, m3, addF, expE, s0, s1, s2, s3, n2, n6]
    grind
theorem sin_add (hn : n ≤ 4) : ∀ i : Nat, i < n → snE (addF a b) i = addF (smulT (snE a) (csE b)) (smulT (csE a) (snE b)) i := by
  refine four ?_ ?_ ?_ ?_ hn <;>
  · simp only [i0, i1, i2, i3, m0, m1, m2, m3, addF, snE, csE, s0, s1, s2, s3, n2, n6]
    grind
theorem cos_add (hn : n ≤ 4) : ∀ i : Nat, i < n → csE (addF a b) i = subF (smulT (csE a) (csE b)) (smulT (snE a) (snE b)) i := by
  refine four ?_ ?_ ?_ ?_ hn <;>
  · simp only [i0, i1, i2, i3, m0, m1, m2, m3, addF, subF, snE, csE, s0, s1, s2, s3, n2, n6]
    grind
theorem pow_add' (hn : n ≤ 4) : ∀ i : Nat, i < n → powE (r + s) a i = smulT (powE r a) (powE s a) i := by
  refine four ?_ ?_ ?_ ?_ hn <;>
  · simp only [i0, i1, i2, i3, m0, m1, m2, m3, powE, s0, s1, s2, s3, n2, n6]
    grind
theorem pow_mul' (ha : a 0 = 1) (hb : b 0 = 1) (hn : n ≤ 4) : ∀ i : Nat, i < n → powE r (smulT a b) i = smulT (powE r a) (powE r b) i := by
  refine four ?_ ?_ ?_ ?_ hn <;>
  · simp only [i0, i1, i2, i3, m0, m1, m2, m3, powE, s0, s1, s2, s3, n2, n6, ha, hb]
    grind
theorem l0 : logE a 0 = 0 := rfl
theorem l1 : logE a 1 = a 1 := by
  show smulT (derF a) (invE a) 0 / ((1 : Int) : Rat) = _
  simp only [m0, derF, invE, Int.add_zero, Int.reduceAdd, q1, q2, q3, s0, s1, s2, s3]
  grind
theorem l2 : logE a 2 = a 2 - a 1 * a 1 / 2 := by
  show smulT (derF a) (invE a) 1 / ((2 : Int) : Rat) = _
  simp only [m1, derF, invE, Int.add_zero, Int.reduceAdd, q1, q2, q3, s0, s1, s2, s3]
  grind
theorem l3 : logE a 3 = a 3 - a 1 * a 2 + a 1 * a 1 * a 1 / 3 := by
  show smulT (derF a) (invE a) 2 / ((3 : Int) : Rat) = _
  simp only [m2, derF, invE, Int.add_zero, Int.reduceAdd, q1, q2, q3, s0, s1, s2, s3]
  grind
theorem log_mul (ha : a 0 = 1) (hb : b 0 = 1) (hn : n ≤ 4) : ∀ i : Nat, i < n → logE (smulT a b) i = addF (logE a) (logE b) i := by
  refine four ?_ ?_ ?_ ?_ hn <;>
  · simp only [i0, i1, i2, i3, addF, l0, l1, l2, l3, m0, m1, m2, m3, ha, hb]
    grind
end
section
variable {a b f g : Int → Rat} {r s q q' : Rat} {n : Nat} {w : World} {A P : Addr}
noncomputable def Beg (q : Rat) (a : Int → Rat) : Prop := a 0 = q ∧ Ser a
theorem Row.beg0 (h : Row ((0 : Int) : Rat) a) : Beg 0 a := ⟨h.1, h.ser⟩
theorem Row.beg1 (h : Row ((1 : Int) : Rat) a) : Beg 1 a := ⟨h.1, h.ser⟩
theorem sum_beg (h : Row ((0 : Int) : Rat) a) (h' : Row ((0 : Int) : Rat) b) : Beg 0 (addF a b) := ⟨by show a 0 + b 0 = 0; rw [h.1, h'.1]; decide +kernel, sum_ser h h'⟩
theorem prod_beg (h : Row ((1 : Int) : Rat) a) (h' : Row ((1 : Int) : Rat) b) : Beg 1 (smulT a b) := ⟨by rw [m0, h.1, h'.1]; decide +kernel, prod_ser h h'⟩
theorem row_mulable (h : Row ((1 : Int) : Rat) a) (h' : Row ((1 : Int) : Rat) b) : Mulable a b := Row.mulable h h'
theorem exp_mulable' (h : Row q a) (h' : Row q' b) : Mulable (expE a) (expE b) := exp_mulable h.ser h'.ser
theorem sc_mulable' (h : Row q a) (h' : Row q' b) : Mulable (snE a) (csE b) := sc_mulable h.ser h'.ser
theorem cs_mulable' (h : Row q a) (h' : Row q' b) : Mulable (csE a) (snE b) := cs_mulable h.ser h'.ser
theorem ss_mulable' (h : Row q a) (h' : Row q' b) : Mulable (snE a) (snE b) := ss_mulable h.ser h'.ser
theorem cc_mulable' (h : Row q a) (h' : Row q' b) : Mulable (csE a) (csE b) := cc_mulable h.ser h'.ser
theorem pow_mulable' (h : Row q a) (h' : Row q' b) (K : KR w A r) (K' : KR w P s) : Mulable (powE r a) (powE s b) := pow_mulable h.ser h'.ser K.1.exp K'.1.exp
theorem row0_sm (h : Row ((0 : Int) : Rat) a) : AllSm a := Row.sm0 h
theorem log_sm' (h : Row q a) : AllSm (logE a) := log_sm h.ser
theorem log_mul' (h : Row ((1 : Int) : Rat) a) (h' : Row ((1 : Int) : Rat) b) (hn : n ≤ 4) : ∀ i : Nat, i < n → logE (smulT a b) i = addF (logE a) (logE b) i := log_mul h.1 h'.1 hn
theorem pow_mul2 (h : Row ((1 : Int) : Rat) a) (h' : Row ((1 : Int) : Rat) b) (hn : n ≤ 4) : ∀ i : Nat, i < n → powE r (smulT a b) i = smulT (powE r a) (powE r b) i := pow_mul' h.1 h'.1 hn
/-- an exponent: where it stands, its size -/
noncomputable def Exp (w : World) (nw : Led) (P : Addr) (r : Rat) : Prop := (∃ t u c, Src w nw P (rObj r t u c)) ∧ Gr 6 36 1 1 r
theorem KR.exp {nw : Led} (K : KR w P r) : Exp w nw P r := ⟨let ⟨t, u, c, e⟩ := K.2; ⟨t, u, c, .inr e⟩, K.1.exp⟩
theorem sum_exp {nw n₀ : Led} {B C : Addr} {t u : MTok} {c : Nat} (S : Src w n₀ P (rObj (r + s) t u c)) (hs : ∀ p ∈ n₀, p ∈ nw) (K : KR w B r) (K' : KR w C s) : Exp w nw P (r + s) := ⟨⟨t, u, c, S.up hs⟩, K.1.exp2 K'.1⟩
end
theorem Cl.mono {w : World} {g : Addr} {vs : List Value} {k : Nat} {news : Led} {post post' : Value → Led → Prop} (c : Cl w g vs k news post) (h : ∀ v cur, Ext news cur → post v cur → post' v cur) : Cl w g vs k news post' :=
  fun p loose mean mg mb dp un gd cn cs a ccd cl outer A₀ base h₀ L m s Q E B F X N T hk hd hu ret =>
    c p loose mean mg mb dp un gd cn cs a ccd cl outer A₀ base h₀ L m s Q E B F X N T hk hd hu fun v cur h' tk' F' N' x q => ret v cur h' tk' F' N' x (h v cur x q)
section
variable (w : World) (la : Addr) (va : List Value) (ca n : Nat) (a : Int → Rat) (news : Led) (hla : (la, listOf va.toArray ca) ∈ news) (hva : LV w news va n a) (hn : n ≤ 4)
include hla hva hn
theorem ssin_law (h : Beg 0 a) : Cl w 180 [.ref la] 6 news (NewL w n (snE a)) :=
  ssin_ok w la va ca n a (snE a) (csE a) news hla hva (by omega) h.1 (sin_rec hn) (cos_rec hn) (sin_oks (D := 36) (K := 216) (A := 1) (B := 3) (by decide) (h.2.lift 6 rfl rfl) (snE_b h.2) (csE_b h.2) (by decide) (by decide) hn)
theorem scos_law (h : Beg 0 a) : Cl w 187 [.ref la] 6 news (NewL w n (csE a)) :=
  scos_ok w la va ca n a (snE a) (csE a) news hla hva (by omega) h.1 (sin_rec hn) (cos_rec hn) (sin_oks (D := 36) (K := 216) (A := 1) (B := 3) (by decide) (h.2.lift 6 rfl rfl) (snE_b h.2) (csE_b h.2) (by decide) (by decide) hn)
theorem sexp_law (h : Beg 0 a) : Cl w 159 [.ref la] 5 news (NewL w n (expE a)) :=
  sexp_ok w la va ca n a (expE a) news hla hva (by omega) h.1 (exp_rec hn) (exp_oks (D := 36) (K := 216) (A := 1) (B := 3) (by decide) (h.2.lift 6 rfl rfl) (expE_b h.2) (by decide) (by decide) hn)
theorem slog_law (h1 : 1 ≤ n) (h : Beg 1 a) : Cl w 166 [.ref la] 8 news (NewL w n (logE a)) := by
  refine (slog_ok w la va ca n a (invE a) news hla hva h1 (by omega) h.1 (inv_rec h.1 hn) ?_ (inv_oks (D := 6) (K := 36) (A := 1) (B := 4) (by decide) h.2 (invE_b h.2) (by decide) (by decide) hn) (log_oks h.2 hn)).mono ?_
  · intro i hi
    exact (h.2.all (.inr h.1) (Nat.le_refl _)).sm (by decide) (by decide) i (by omega)
  · intro v cur _ q
    rwa [show n - 1 + 1 = n by omega] at q
theorem spower_law (P : Addr) (r : Rat) (hP : Exp w news P r) (h : Beg 1 a) : Cl w 194 [.ref la, .ref P] 5 news (NewL w n (powE r a)) := by
  obtain ⟨⟨t, u, c, S⟩, g⟩ := hP
  have sr : Sm r := g.sm (by decide) (by decide) (by decide) (by decide) (by decide)
  exact spower_ok w la P va ca n a (powE r a) r t u c news hla hva S sr (by omega) h.1 (pow_rec hn) (pow_oks h.2 g hn)
section
variable (lb : Addr) (vb : List Value) (cb : Nat) (b : Int → Rat) (hlb : (lb, listOf vb.toArray cb) ∈ news) (hvb : LV w news vb n b)
include hlb hvb
theorem sadd_law (h : AllSm a) (h' : AllSm b) : Cl w 111 [.ref la, .ref lb] 5 news (NewL w n (addF a b)) :=
  sadd_ok w la lb va vb ca cb n a b news hla hva hlb hvb (by omega) fun i hi => ⟨h i (by omega), h' i (by omega)⟩
theorem ssub_law (h : AllSm a) (h' : AllSm b) : Cl w 116 [.ref la, .ref lb] 5 news (NewL w n (subF a b)) :=
  ssub_ok w la lb va vb ca cb n a b news hla hva hlb hvb (by omega) fun i hi => ⟨h i (by omega), h' i (by omega)⟩
theorem smul_law (h : Mulable a b) : Cl w 128 [.ref la, .ref lb] 6 news (NewL w n (smulT a b)) := by
  obtain ⟨D, K, A, B, f, hA, hB, ha, hb⟩ := h
  exact smul_ok w la lb va vb ca cb n n a b news hla hva hlb hvb (Nat.le_refl _) (by omega) (mul_oks f ha hb hA hB hn)
end
end
theorem radd_law (w : World) (A B : Addr) (a b : Rat) (news : Led) (K : KR w A a) (K' : KR w B b) : Cl w 64 [.ref A, .ref B] 3 news (NewQ w news (a + b)) := by
  obtain ⟨s1, t, u, c, e⟩ := K
  obtain ⟨s2, t', u', c', e'⟩ := K'
  refine (radd_ok w A B a b t u c t' u' c' news (.inr e) (.inr e') s1.sm s2.sm).mono ?_
  rintro v cur x ⟨D, t, u, n, e1, e2, l⟩
  exact ⟨[(D, rObj (a + b) t u n)], D, t, u, n, e1, e2, fresh_one l, Src.here (.head _)⟩
noncomputable abbrev RowEnd2 (w : World) (B S : Addr) (c : Int) (n : Nat) (q0 : Rat) (news : Led) (v : Value) (cur : Led) : Prop :=
  ∃ add D rs cc f tb n', v = .ref D ∧ cur = (B, boxObj S (c + (n - 1 : Nat)) tb n') :: (add ++ news) ∧ (∀ p ∈ add ++ news, p.1 ≠ B) ∧ (D, listOf rs.toArray cc) ∈ add ∧ LV w (add ++ news) rs n f ∧ Row q0 f
theorem row_law2 (w : World) (B S A0 : Addr) (c : Int) (tc : MTok) (nb : Nat) (vs : List Value) (ns : List Int) (cS : Nat) (mi : Int) (tm : MTok) (k : Int) (t0 u0 : MTok) (c0 : Nat) (news : Led) (hS : (S, listOf vs.toArray cS) ∈ news) (hi : IntsAre vs ns) (hB : ∀ p ∈ news, p.1 ≠ B)
    (hc0 : 0 ≤ c) (hc : c < 900) (hm : 3 ≤ mi) (hm2 : mi ≤ 4) (hl : ns.length ≤ 20) (hf : (A0, ({ cls := .type "tuple", data := .seq #[.int k t0, .int 1 u0] c0 } : Obj)) ∈ news) :
    Cl2 w 214 [.ref B, .int mi tm, .ref A0] 5 ((B, boxObj S c tc nb) :: news) (RowEnd2 w B S c mi.toNat (k : Rat) news) := by
  refine (row_law w B S A0 c tc nb vs ns cS mi tm k t0 u0 c0 news hS hi hB hc0 hc hm hm2 hl hf).mono ?_
  rintro v cur ⟨add, D, rs, cc, a1, a2, a3, tb, n', e1, e2, e3, e4, e5, z1, z2, z3⟩
  exact ⟨add, D, rs, cc, _, tb, n', e1, e2, e3, e4, e5, row_S4 z1 z2 z3⟩
section
variable {prog : Program} {w : World} {Ar : Around} {E : Value → Shared → Prop} {s : Shared} {h₀ : Heap} {L : Addr} {m : Str → Option Value} {nw : Led} {l l' : Addr} {vs vs' : List Value} {c c' n : Nat} {f g : Int → Rat}
theorem same_eq (N : News h₀ L s.heap nw) (F : Fr h₀ L s.heap m) (X : (hd.heap_39 w.params).In h₀) (hl : (l, listOf vs.toArray c) ∈ nw) (hl' : (l', listOf vs'.toArray c') ∈ nw)
    (hv : LV w nw vs n f) (hv' : LV w nw vs' n g) (hu : Ar.units + 64 < cLine) (e : ∀ i : Nat, i < n → f i = g i) {Q : Value → Shared → Prop} (h : Q (.bool true) s) : wpAny (model prog w) Ar (compareOp .Eq (.ref l) (.ref l')) Q E s := (lists_eq N F X hl hl' hv hv' hu e).1 h
theorem same_ne (N : News h₀ L s.heap nw) (F : Fr h₀ L s.heap m) (X : (hd.heap_39 w.params).In h₀) (hl : (l, listOf vs.toArray c) ∈ nw) (hl' : (l', listOf vs'.toArray c') ∈ nw)
    (hv : LV w nw vs n f) (hv' : LV w nw vs' n g) (hu : Ar.units + 64 < cLine) (e : ∀ i : Nat, i < n → f i = g i) {Q : Value → Shared → Prop} (h : Q (.bool false) s) : wpAny (model prog w) Ar (compareOp .NotEq (.ref l) (.ref l')) Q E s := (lists_eq N F X hl hl' hv hv' hu e).2 h
end
theorem news_pull1 {g h : Heap} {L : Addr} {a x : Addr × Obj} {nw : Led} (N : News g L h (a :: x :: nw)) : News g L h (x :: a :: nw) := fun p hp => by
  rcases List.mem_cons.mp hp with rfl | hp
  · exact N _ (.tail _ (.head _))
  rcases List.mem_cons.mp hp with rfl | hp
  · exact N _ (.head _)
  · exact N _ (.tail _ (.tail _ hp))
theorem pull1_ne {B D : Addr} {o oa : Obj} {nw : Led} (h1 : ∀ p ∈ nw, p.1 ≠ B) (h2 : ∀ p ∈ (B, o) :: nw, p.1 ≠ D) : ∀ p ∈ (D, oa) :: nw, p.1 ≠ B := fun p hp => by
  rcases List.mem_cons.mp hp with rfl | hp
  · exact (h2 _ (.head _)).symm
  · exact h1 p hp
theorem head_of {g h : Heap} {L : Addr} {x : Addr × Obj} {nw : Led} (_N : News g L h (x :: nw)) : x ∈ x :: nw := .head _
section
variable {prog : Program} {w : World} {Ar : Around} {E : Value → Shared → Prop} {s : Shared} {h₀ : Heap} {L : Addr} {m : Str → Option Value} {nw n₁ : Led} {l x y : Addr} {c : Nat}
theorem two_item0 {value slice : PySem.Expr} {z : MTok} {Q : Value → Shared → Prop} (N : News h₀ L s.heap nw) (hl : (l, listOf #[.ref x, .ref y] c) ∈ n₁) (hsub : ∀ p ∈ n₁, p ∈ nw) (h : Q (.ref x) s)
    (hs : subscripted slice false (.ref l) (.int 0 z) = operate [.ref l, .int 0 z] (getItem (.ref l) (.int 0 z)) := by with_unfolding_all rfl) :
    wpAny (model prog w) Ar (subscriptTail value slice (.ref l) (.int 0 z)) Q E s := by
  have hl' : s.heap.IsList l #[.ref x, .ref y] := ⟨_, (N _ (hsub _ hl)).1, rfl, c, rfl⟩
  exact tail_any hl'.typeIs slot_list_getitem.lookup (wpAny_getItem_list hl' (by decide) (by decide) rfl h) hs
theorem two_item1 {value slice : PySem.Expr} {z : MTok} {Q : Value → Shared → Prop} (N : News h₀ L s.heap nw) (hl : (l, listOf #[.ref x, .ref y] c) ∈ n₁) (hsub : ∀ p ∈ n₁, p ∈ nw) (h : Q (.ref y) s)
    (hs : subscripted slice false (.ref l) (.int 1 z) = operate [.ref l, .int 1 z] (getItem (.ref l) (.int 1 z)) := by with_unfolding_all rfl) :
    wpAny (model prog w) Ar (subscriptTail value slice (.ref l) (.int 1 z)) Q E s := by
  have hl' : s.heap.IsList l #[.ref x, .ref y] := ⟨_, (N _ (hsub _ hl)).1, rfl, c, rfl⟩
  exact tail_any hl'.typeIs slot_list_getitem.lookup (wpAny_getItem_list hl' (by decide) (by decide) rfl h) hs
end
theorem useRow {w : World} {g : Addr} {vs : List Value} {k : Nat} {p : Program} {loose : List Str} {mean : ExcName → Option Value} {mg mb : Str → Option Value} {dp un : Nat} {gd : Option (List Code)} {cn : Str} {cs : Scope} {a : Addr} {ccd : Value} {cl : List (Str × Addr)} {outer : List Env} {A₀ : Around} {base h₀ : Heap} {L : Addr} {m : Str → Option Value} {s : Shared} {news nw : Led} {Q E : Value → Shared → Prop} {B S : Addr} {c : Int} {n : Nat} {q0 : Rat}
    (Bl : Below A₀ base outer h₀) (F : Fr h₀ L s.heap m) (X : (hd.heap_39 w.params).In h₀) (N : News h₀ L s.heap news) (T : Top p loose mean mg mb h₀) (hk : cs.kind = .function)
    (C : Cl2 w g vs k news (RowEnd2 w B S c n q0 nw)) (hd : dp + k < recursionLimit) (hu : un + 8 * k + 100 < cLine)
    (ret : ∀ (add : Led) (D : Addr) (rs : List Value) (cc : Nat) (f : Int → Rat) (tb : MTok) (n' : Nat) (h' : Heap) (tk' : Nat), Fr h₀ L h' m → News h₀ L h' ((B, boxObj S (c + (n - 1 : Nat)) tb n') :: (add ++ nw)) → (∀ p ∈ add ++ nw, p.1 ≠ B) → (D, listOf rs.toArray cc) ∈ add → LV w (add ++ nw) rs n f → Row q0 f → Q (.ref D) { s with heap := h', toks := tk' }) :
    wpAny (model PySem.Challenge.rw_sa0097_01.row.prog w) (ktrTop dp un gd cn cs L a ccd cl outer) (call (.ref g) vs) Q E s :=
  Cl2.use Bl F X N T hk C hd hu fun _ _ h' tk' F' N' ⟨add, D, rs, cc, f, tb, n', e1, e2, l, mm, V, R⟩ => by subst e1; subst e2; exact ret add D rs cc f tb n' h' tk' F' N' l mm V R
theorem law_holds : PySem.Challenge.rw_sa0097_01.Holds := Mine.hd (by
  k_with_none
  k_with "call ref" => (k_here; (with_reducible show wpAny _ _ (call (Value.ref 41) _) _ _ _); k_dflt (refine' useI ?k1 ?k2 ?k3 ?k4 ?k5 ?kK (gcd_ok _ _ _ _ _ _ ) ?kd ?ku ?_); (case k1 => k_asm); (case k2 => k_asm); (case k3 => k_asm); (case k4 => k_asm); (case k5 => k_asm); (case kK => first | exact rfl | assumption); (case kd => first | exact room_up (by assumption) (by decide) | exact Nat.le_of_ble_eq_true rfl | ktr_room); (case ku => first | exact units_up (by assumption) (by decide) | exact Nat.le_of_ble_eq_true rfl | ktr_units); intro zt9 zh9 ztk9 zF9 zN9; (try dsimp only); (try k_fold))
  k_with "call ref" => ((with_reducible show wpAny _ _ (call (Value.ref 31) _) _ _ _); exfalso; first | contradiction | omega)
  k_with "binaryOp FloorDiv int int" => (k_here; refine floordiv_int ?k1 ?_ (Or.inl (PyProof.noPylong_of_log2 ?k2)); (case k1 => first | assumption | omega); (case k2 => assumption))
  k_with "call ref" => (k_here; (with_reducible show wpAny _ _ (call (Value.ref 57) _) _ _ _); k_dflt (refine' useR ?k1 ?k2 ?k3 ?k4 ?k5 ?kK (rat_ok _ _ _ _ _ _ ?h0 ?h1) ?kd ?ku ?_); (case k1 => k_asm); (case k2 => k_asm); (case k3 => k_asm); (case k4 => k_asm); (case k5 => k_asm); (case kK => first | exact rfl | assumption); (case h0 => assumption); (case h1 => assumption); (case kd => first | exact room_up (by assumption) (by decide) | exact Nat.le_of_ble_eq_true rfl | ktr_room); (case ku => first | exact units_up (by assumption) (by decide) | exact Nat.le_of_ble_eq_true rfl | ktr_units); intro zD9 zt9 zu9 zn9 zh9 ztk9 zF9 zN9 zl9; (try dsimp only); (try k_fold))
  k_with "subscriptTail" => (k_here; (with_reducible show wpAny _ _ (subscriptTail _ _ (Value.ref _) (Value.int 0 _)) _ _ _); k_dflt (refine' rat_item0 ?k1 ?k2 ?k3 ?k4 ?_; (case k1 => k_asm); (case k2 => k_asm); (case k3 => k_asm); (case k4 => first | exact Src.up (by assumption) (by intro p hp; kcf_m) | exact Src.here (by kcf_m))))
  k_with "subscriptTail" => (k_here; (with_reducible show wpAny _ _ (subscriptTail _ _ (Value.ref _) (Value.int 1 _)) _ _ _); k_dflt (refine' rat_item1 ?k1 ?k2 ?k3 ?k4 ?_; (case k1 => k_asm); (case k2 => k_asm); (case k3 => k_asm); (case k4 => first | exact Src.up (by assumption) (by intro p hp; kcf_m) | exact Src.here (by kcf_m))))
  k_with "call ref" => (k_here; (with_reducible show wpAny _ _ (call (Value.ref 64) _) _ _ _); k_dflt (refine' useR ?k1 ?k2 ?k3 ?k4 ?k5 ?kK (radd_ok _ _ _ _ _ _ _ _ _ _ _ _ ?h0 ?h1 ?h2 ?h3) ?kd ?ku ?_); (case k1 => k_asm); (case k2 => k_asm); (case k3 => k_asm); (case k4 => k_asm); (case k5 => k_asm); (case kK => first | exact rfl | assumption); (case h0 => first | exact Src.up (by assumption) (by intro p hp; kcf_m) | exact Src.here (by kcf_m) | (refine' Src.int2 ?s1 ?s2; (case s1 => kcf_m); (case s2 => exact rfl))); (case h1 => first | exact Src.up (by assumption) (by intro p hp; kcf_m) | exact Src.here (by kcf_m) | (refine' Src.int2 ?s1 ?s2; (case s1 => kcf_m); (case s2 => exact rfl))); (case h2 => k_extra "small"); (case h3 => k_extra "small"); (case kd => first | exact room_up (by assumption) (by decide) | exact Nat.le_of_ble_eq_true rfl | ktr_room); (case ku => first | exact units_up (by assumption) (by decide) | exact Nat.le_of_ble_eq_true rfl | ktr_units); intro zD9 zt9 zu9 zn9 zh9 ztk9 zF9 zN9 zl9; (try dsimp only); (try k_fold))
  k_with "call ref" => (k_here; (with_reducible show wpAny _ _ (call (Value.ref 71) _) _ _ _); k_dflt (refine' useR ?k1 ?k2 ?k3 ?k4 ?k5 ?kK (rsub_ok _ _ _ _ _ _ _ _ _ _ _ _ ?h0 ?h1 ?h2 ?h3) ?kd ?ku ?_); (case k1 => k_asm); (case k2 => k_asm); (case k3 => k_asm); (case k4 => k_asm); (case k5 => k_asm); (case kK => first | exact rfl | assumption); (case h0 => first | exact Src.up (by assumption) (by intro p hp; kcf_m) | exact Src.here (by kcf_m) | (refine' Src.int2 ?s1 ?s2; (case s1 => kcf_m); (case s2 => exact rfl))); (case h1 => first | exact Src.up (by assumption) (by intro p hp; kcf_m) | exact Src.here (by kcf_m) | (refine' Src.int2 ?s1 ?s2; (case s1 => kcf_m); (case s2 => exact rfl))); (case h2 => k_extra "small"); (case h3 => k_extra "small"); (case kd => first | exact room_up (by assumption) (by decide) | exact Nat.le_of_ble_eq_true rfl | ktr_room); (case ku => first | exact units_up (by assumption) (by decide) | exact Nat.le_of_ble_eq_true rfl | ktr_units); intro zD9 zt9 zu9 zn9 zh9 ztk9 zF9 zN9 zl9; (try dsimp only); (try k_fold))
  k_with "call ref" => (k_here; (with_reducible show wpAny _ _ (call (Value.ref 78) _) _ _ _); k_dflt (refine' useR ?k1 ?k2 ?k3 ?k4 ?k5 ?kK (rmul_ok _ _ _ _ _ _ _ _ _ _ _ _ ?h0 ?h1 ?h2 ?h3) ?kd ?ku ?_); (case k1 => k_asm); (case k2 => k_asm); (case k3 => k_asm); (case k4 => k_asm); (case k5 => k_asm); (case kK => first | exact rfl | assumption); (case h0 => first | exact Src.up (by assumption) (by intro p hp; kcf_m) | exact Src.here (by kcf_m) | (refine' Src.int2 ?s1 ?s2; (case s1 => kcf_m); (case s2 => exact rfl))); (case h1 => first | exact Src.up (by assumption) (by intro p hp; kcf_m) | exact Src.here (by kcf_m) | (refine' Src.int2 ?s1 ?s2; (case s1 => kcf_m); (case s2 => exact rfl))); (case h2 => k_extra "small"); (case h3 => k_extra "small"); (case kd => first | exact room_up (by assumption) (by decide) | exact Nat.le_of_ble_eq_true rfl | ktr_room); (case ku => first | exact units_up (by assumption) (by decide) | exact Nat.le_of_ble_eq_true rfl | ktr_units); intro zD9 zt9 zu9 zn9 zh9 ztk9 zF9 zN9 zl9; (try dsimp only); (try k_fold))
  k_with "call ref" => (k_here; (with_reducible show wpAny _ _ (call (Value.ref 85) _) _ _ _); k_dflt (refine' useR ?k1 ?k2 ?k3 ?k4 ?k5 ?kK (rdiv_ok _ _ _ _ _ _ _ _ _ _ _ _ ?h0 ?h1 ?h2 ?h3 ?h4) ?kd ?ku ?_); (case k1 => k_asm); (case k2 => k_asm); (case k3 => k_asm); (case k4 => k_asm); (case k5 => k_asm); (case kK => first | exact rfl | assumption); (case h0 => first | exact Src.up (by assumption) (by intro p hp; kcf_m) | exact Src.here (by kcf_m) | (refine' Src.int2 ?s1 ?s2; (case s1 => kcf_m); (case s2 => exact rfl))); (case h1 => first | exact Src.up (by assumption) (by intro p hp; kcf_m) | exact Src.here (by kcf_m) | (refine' Src.int2 ?s1 ?s2; (case s1 => kcf_m); (case s2 => exact rfl))); (case h2 => k_extra "small"); (case h3 => k_extra "small"); (case h4 => k_extra "nonzero"); (case kd => first | exact room_up (by assumption) (by decide) | exact Nat.le_of_ble_eq_true rfl | ktr_room); (case ku => first | exact units_up (by assumption) (by decide) | exact Nat.le_of_ble_eq_true rfl | ktr_units); intro zD9 zt9 zu9 zn9 zh9 ztk9 zF9 zN9 zl9; (try dsimp only); (try k_fold))
  k_with "call ref" => (k_here; (with_reducible show wpAny _ _ (call (Value.ref 92) _) _ _ _); k_dflt (refine' useV ?k1 ?k2 ?k3 ?k4 ?k5 ?kK (is_vast_ok _ _ _ _ _ _ _ ?h0 ?h1) ?kd ?ku ?_); (case k1 => k_asm); (case k2 => k_asm); (case k3 => k_asm); (case k4 => k_asm); (case k5 => k_asm); (case kK => first | exact rfl | assumption); (case h0 => first | exact Src.up (by assumption) (by intro p hp; kcf_m) | exact Src.here (by kcf_m) | (refine' Src.int2 ?s1 ?s2; (case s1 => kcf_m); (case s2 => exact rfl))); (case h1 => assumption); (case kd => first | exact room_up (by assumption) (by decide) | exact Nat.le_of_ble_eq_true rfl | ktr_room); (case ku => first | exact units_up (by assumption) (by decide) | exact Nat.le_of_ble_eq_true rfl | ktr_units); intro zh9 ztk9 zF9 zN9; (try dsimp only); (try k_fold))
  k_with "call ref" => (k_here; (with_reducible show wpAny _ _ (call (Value.ref 99) _) _ _ _); k_dflt (refine' useZ ?k1 ?k2 ?k3 ?k4 ?k5 ?kK (rcompare_ok _ _ _ _ _ _ _ _ _ _ _ ?h0 ?h1 ?h2) ?kd ?ku ?_); (case k1 => k_asm); (case k2 => k_asm); (case k3 => k_asm); (case k4 => k_asm); (case k5 => k_asm); (case kK => first | exact rfl | assumption); (case h0 => first | exact Src.up (by assumption) (by intro p hp; kcf_m) | exact Src.here (by kcf_m) | (refine' Src.int2 ?s1 ?s2; (case s1 => kcf_m); (case s2 => exact rfl))); (case h1 => first | exact Src.up (by assumption) (by intro p hp; kcf_m) | exact Src.here (by kcf_m) | (refine' Src.int2 ?s1 ?s2; (case s1 => kcf_m); (case s2 => exact rfl))); (case h2 => k_extra "small"); (case kd => first | exact room_up (by assumption) (by decide) | exact Nat.le_of_ble_eq_true rfl | ktr_room); (case ku => first | exact units_up (by assumption) (by decide) | exact Nat.le_of_ble_eq_true rfl | ktr_units); intro zt9 zh9 ztk9 zF9 zN9; (try dsimp only); (try k_fold))
  k_with "call ref" => (k_here; (with_reducible show wpAny _ _ (call (Value.ref 106) _) _ _ _); k_dflt (refine' useV ?k1 ?k2 ?k3 ?k4 ?k5 ?kK (let_ok _ _ _ _ _ _ _ ?h0 ?h1) ?kd ?ku ?_); (case k1 => k_asm); (case k2 => k_asm); (case k3 => k_asm); (case k4 => k_asm); (case k5 => k_asm); (case kK => first | exact rfl | assumption); (case h0 => first | exact Src.up (by assumption) (by intro p hp; kcf_m) | exact Src.here (by kcf_m) | (refine' Src.int2 ?s1 ?s2; (case s1 => kcf_m); (case s2 => exact rfl))); (case h1 => k_extra "small"); (case kd => first | exact room_up (by assumption) (by decide) | exact Nat.le_of_ble_eq_true rfl | ktr_room); (case ku => first | exact units_up (by assumption) (by decide) | exact Nat.le_of_ble_eq_true rfl | ktr_units); intro zh9 ztk9 zF9 zN9; (try dsimp only); (try k_fold))
  k_with "subscriptTail" => (k_here; (with_reducible show wpAny _ _ (subscriptTail _ _ (Value.ref _) (Value.int _ _)) _ _ _); k_dflt (refine' list_item ?k1 ?k2 ?ks ?k3 ?k4 ?k5 ?k6 ?_; (case k1 => k_asm); (case k2 => assumption); (case ks => intro p hp; kcf_m); (case k3 => assumption); (case k4 => omega); (case k5 => omega); (case k6 => omega); intro zA9 zt9 zu9 zc9 zS9; (try dsimp only)))
  k_with "compareOp NotEq ref ref" => (k_here; k_dflt (refine' rat_ne ?k1 ?k2 ?k3 ?k4 ?k5 ?k6 ?_; (case k1 => k_asm); (case k2 => k_asm); (case k3 => k_asm); (case k4 => first | exact Src.up (by assumption) (by intro p hp; kcf_m) | exact Src.here (by kcf_m) | (refine' Src.int2 ?s1 ?s2; (case s1 => kcf_m); (case s2 => exact rfl))); (case k5 => first | exact Src.up (by assumption) (by intro p hp; kcf_m) | exact Src.here (by kcf_m) | (refine' Src.int2 ?s1 ?s2; (case s1 => kcf_m); (case s2 => exact rfl))); (case k6 => ktr_units)))
  k_with "compareOp Eq ref ref" => (k_here; k_dflt (refine' rat_eq ?k1 ?k2 ?k3 ?k4 ?k5 ?k6 ?_; (case k1 => k_asm); (case k2 => k_asm); (case k3 => k_asm); (case k4 => first | exact Src.up (by assumption) (by intro p hp; kcf_m) | exact Src.here (by kcf_m) | (refine' Src.int2 ?s1 ?s2; (case s1 => kcf_m); (case s2 => exact rfl))); (case k5 => first | exact Src.up (by assumption) (by intro p hp; kcf_m) | exact Src.here (by kcf_m) | (refine' Src.int2 ?s1 ?s2; (case s1 => kcf_m); (case s2 => exact rfl))); (case k6 => ktr_units)))
  k_with "call ref" => (k_here; (with_reducible show wpAny _ _ (call (Value.ref 123) _) _ _ _); k_dflt (refine' useQ ?k1 ?k2 ?k3 ?k4 ?k5 ?kK (mixed_ok _ _ _ _ _ _ _ _ _ _ _ _ _ _ ?h0 ?h1 ?h2 ?h3 ?h4 ?h5 ?h6 ?h7 ?h8 ?h9) ?kd ?ku ?_); (case k1 => k_asm); (case k2 => k_asm); (case k3 => k_asm); (case k4 => k_asm); (case k5 => k_asm); (case kK => first | exact rfl | assumption); (case h0 => exact mem_up (by assumption) (by intro p hp; kcf_m)); (case h1 => exact LV.up (by assumption) (by intro p hp; kcf_m)); (case h2 => exact mem_up (by assumption) (by intro p hp; kcf_m)); (case h3 => exact LV.up (by assumption) (by intro p hp; kcf_m)); (case h4 => assumption); (case h5 => assumption); (case h6 => assumption); (case h7 => omega); (case h8 => omega); (case h9 => assumption); (case kd => first | exact room_up (by assumption) (by decide) | exact Nat.le_of_ble_eq_true rfl | ktr_room); (case ku => first | exact units_up (by assumption) (by decide) | exact Nat.le_of_ble_eq_true rfl | ktr_units); intro zadd9 zD9 zt9 zu9 zn9 zh9 ztk9 zF9 zN9 zf9 zS9; (try dsimp only); (try k_fold))
  k_with "my enterC" => (refine' code_defC ?k1 ?k2 ?k3 ?k4 ?k5 ?kA ?kF ?kK ?k6 ?k7 ?k8 ?k9 ?kB ?kD ?_ ?c2 ?c3 ?c4; (case kA => exact rfl); (case kF => exact rfl); (case kK => assumption); (case k1 => k_asm); (case k2 => k_asm); (case k3 => k_asm); (case k4 => k_asm); (case k5 => k_asm); (case k6 => k_is); (case k7 => k_is); (case k8 => ktr_room); (case k9 => exact BindsTo.of_eq rfl); (case kB => exact rfl); (case kD => decide +kernel); (case c2 => exact rfl); (case c3 => exact rfl); (case c4 => exact rfl); k_whole; intro zg' zL' zh' ztk' zcells' zFG' zF' zN' zY' zB' zX' zT' zl1; k_cells zY'; (try simp only [List.cons_append, List.nil_append] at zN'); (try dsimp only); (try k_lift zB'); (try k_fold))
  k_with "call builtin:len" => (k_here; (with_reducible show wpAny _ _ (call (Value.builtin "len") [Value.ref _]) _ _ _); k_dflt (refine' list_len ?k1 ?k2 ?ks ?k3 ?k4 ?_; (case k1 => k_asm); (case k2 => assumption); (case ks => intro p hp; kcf_m); (case k3 => assumption); (case k4 => omega)))
  k_with "eval ListComp" => (k_here; k_dflt (refine LCg.ListComp_U (F₀ := by k_asm) (by with_unfolding_all rfl) (by decide) (by rfl) (by decide) (by rfl) ?_))
  k_with "eval Name" => (k_here; (with_reducible show wpAny _ _ (eval (Expr.Name _ _) (compEnvC _ _ _ _)) _ _ _); (with_reducible rename News _ _ _ _ => kN); k_dflt (refine kcf_cell kN (by rfl) (mem_up (by assumption) (by intro p hp; kcf_m)) (by assumption) ?_))
  k_with "newTuple" => (k_here; k_dflt (refine' my_tuple ?k1 ?k2 ?_ ?k3; (case k1 => k_asm); (case k2 => k_asm); (case k3 => (simp only [PySem.sizeLine_eq, List.length_cons, List.length_nil]; omega))); intro zD9 zh9 zF9 zN9 zl9; (try dsimp only))
  k_with "binaryOp Add ref ref" => (k_here; (with_reducible show wpAny _ _ (binaryOp _ (Value.ref _) (Value.ref _)) _ _ _); k_dflt (refine' list_add ?k1 ?k2 ?k3 ?k4 ?k5 ?_; (case k1 => k_asm); (case k2 => k_asm); (case k3 => kcf_m); (case k4 => kcf_m); (case k5 => (simp only [PySem.sizeLine_eq, List.length_cons, List.length_nil]; omega))); intro zD9 zh9 zF9 zN9 zl9; (try dsimp only))
  k_with "newList" => (k_here; k_dflt (refine' newList_K ?k1 ?k2 ?_; (case k1 => k_asm); (case k2 => k_asm); k_whole); intro zl9 zh9 zF9 zN9 zq9; (replace zq9 := ne_of_lts zq9); (try dsimp only))
  k_with "call ref" => (k_here; (with_reducible show wpAny _ _ (call (Value.ref 128) _) _ _ _); k_dflt (refine' useL ?k1 ?k2 ?k3 ?k4 ?k5 ?kK (smul_ok _ _ _ _ _ _ _ _ _ _ _ _ ?h0 ?h1 ?h2 ?h3 ?h4 ?h5 ?h6) ?kd ?ku ?_); (case k1 => k_asm); (case k2 => k_asm); (case k3 => k_asm); (case k4 => k_asm); (case k5 => k_asm); (case kK => first | exact rfl | assumption); (case h0 => exact mem_up (by assumption) (by intro p hp; kcf_m)); (case h1 => exact LV.up (by assumption) (by intro p hp; kcf_m)); (case h2 => exact mem_up (by assumption) (by intro p hp; kcf_m)); (case h3 => exact LV.up (by assumption) (by intro p hp; kcf_m)); (case h4 => omega); (case h5 => omega); (case h6 => assumption); (case kd => first | exact room_up (by assumption) (by decide) | exact Nat.le_of_ble_eq_true rfl | ktr_room); (case ku => first | exact units_up (by assumption) (by decide) | exact Nat.le_of_ble_eq_true rfl | ktr_units); intro zD9 zvs9 zc9 zadd9 zh9 ztk9 zF9 zN9 zm9 zV9 zf9; (try dsimp only); (try k_fold))
  k_with "getMethod ref" => (k_here; (with_reducible show wpAny _ _ (getMethod (Value.ref _) (Str.ofString "append") _) _ _ _); k_dflt (refine' my_method ?kN ?k1 ?k2 ?_; (case kN => k_asm); (case k1 => assumption); (case k2 => intro p hp; kcf_m)))
  k_with "call builtin:list.append" => (k_here; (with_reducible show wpAny _ _ (call (Value.builtin _) [Value.ref _, Value.ref _]) _ _ _); k_dflt (k_extra "my append"))
  k_with "call ref" => (k_here; (with_reducible show wpAny _ _ (call (Value.ref 152) _) _ _ _); k_dflt (refine' useV ?k1 ?k2 ?k3 ?k4 ?k5 ?kK (need_begin_ok _ _ _ _ _ _ _ _ _ _ _ ?h0 ?h1 ?h2 ?h3 ?h4) ?kd ?ku ?_); (case k1 => k_asm); (case k2 => k_asm); (case k3 => k_asm); (case k4 => k_asm); (case k5 => k_asm); (case kK => first | exact rfl | assumption); (case h0 => exact mem_up (by assumption) (by intro p hp; kcf_m)); (case h1 => exact LV.up (by assumption) (by intro p hp; kcf_m)); (case h2 => first | exact Src.up (by assumption) (by intro p hp; kcf_m) | exact Src.here (by kcf_m) | (refine' Src.int2 ?s1 ?s2; (case s1 => kcf_m); (case s2 => exact rfl))); (case h3 => omega); (case h4 => k_extra "small"); (case kd => first | exact room_up (by assumption) (by decide) | exact Nat.le_of_ble_eq_true rfl | ktr_room); (case ku => first | exact units_up (by assumption) (by decide) | exact Nat.le_of_ble_eq_true rfl | ktr_units); intro zh9 ztk9 zF9 zN9; (try dsimp only); (try k_fold))
  k_with "call ref" => (k_here; (with_reducible show wpAny _ _ (call (Value.ref 173) _) _ _ _); k_dflt (refine' Cl.use ?k1 ?k2 ?k3 ?k4 ?k5 ?kK (ssin_cos_ok _ _ _ _ _ _ _ _ _ ?h0 ?h1 ?h2 ?h3 ?h4 ?h5 ?h6) ?kd ?ku ?_); (case k1 => k_asm); (case k2 => k_asm); (case k3 => k_asm); (case k4 => k_asm); (case k5 => k_asm); (case kK => first | exact rfl | assumption); (case h0 => exact mem_up (by assumption) (by intro p hp; kcf_m)); (case h1 => exact LV.up (by assumption) (by intro p hp; kcf_m)); (case h2 => omega); (case h3 => assumption); (case h4 => assumption); (case h5 => assumption); (case h6 => assumption); (case kd => first | exact room_up (by assumption) (by decide) | exact Nat.le_of_ble_eq_true rfl | ktr_room); (case ku => first | exact units_up (by assumption) (by decide) | exact Nat.le_of_ble_eq_true rfl | ktr_units); intro zv9 zcur9 zh9 ztk9 zF9 zN9 zx9 zp9; obtain ⟨zT9, zxa9, zxb9, zvs9, zus9, zc9, zd9, ze9, zmT9, zmx9, zmy9, zVx9, zVy9⟩ := zp9; subst ze9; obtain ⟨zadd9, ze9', zf9⟩ := zx9; subst zcur9; (try dsimp only); (try k_fold))
  k_with "subscriptTail" => (k_here; (with_reducible show wpAny _ _ (subscriptTail _ _ (Value.ref _) (Value.int 0 _)) _ _ _); k_dflt (refine' pair_item0 ?k1 ?k2 ?_; (case k1 => k_asm); (case k2 => assumption)))
  k_with "subscriptTail" => (k_here; (with_reducible show wpAny _ _ (subscriptTail _ _ (Value.ref _) (Value.int 1 _)) _ _ _); k_dflt (refine' pair_item1 ?k1 ?k2 ?_; (case k1 => k_asm); (case k2 => assumption)))
  k_with "call ref" => (k_here; (with_reducible show wpAny _ _ (call (Value.ref 140) _) _ _ _); k_dflt (refine' useL ?k1 ?k2 ?k3 ?k4 ?k5 ?kK (sderive_ok _ _ _ _ _ _ _ ?h0 ?h1 ?h2 ?h3 ?h4) ?kd ?ku ?_); (case k1 => k_asm); (case k2 => k_asm); (case k3 => k_asm); (case k4 => k_asm); (case k5 => k_asm); (case kK => first | exact rfl | assumption); (case h0 => exact mem_up (by assumption) (by intro p hp; kcf_m)); (case h1 => exact LV.up (by assumption) (by intro p hp; kcf_m)); (case h2 => omega); (case h3 => omega); (case h4 => assumption); (case kd => first | exact room_up (by assumption) (by decide) | exact Nat.le_of_ble_eq_true rfl | ktr_room); (case ku => first | exact units_up (by assumption) (by decide) | exact Nat.le_of_ble_eq_true rfl | ktr_units); intro zD9 zvs9 zc9 zadd9 zh9 ztk9 zF9 zN9 zm9 zV9 zf9; (try dsimp only); (try k_fold))
  k_with "call ref" => (k_here; (with_reducible show wpAny _ _ (call (Value.ref 145) _) _ _ _); k_dflt (refine' useL ?k1 ?k2 ?k3 ?k4 ?k5 ?kK (sintegrate_ok _ _ _ _ _ _ _ ?h0 ?h1 ?h2 ?h3) ?kd ?ku ?_); (case k1 => k_asm); (case k2 => k_asm); (case k3 => k_asm); (case k4 => k_asm); (case k5 => k_asm); (case kK => first | exact rfl | assumption); (case h0 => exact mem_up (by assumption) (by intro p hp; kcf_m)); (case h1 => exact LV.up (by assumption) (by intro p hp; kcf_m)); (case h2 => omega); (case h3 => assumption); (case kd => first | exact room_up (by assumption) (by decide) | exact Nat.le_of_ble_eq_true rfl | ktr_room); (case ku => first | exact units_up (by assumption) (by decide) | exact Nat.le_of_ble_eq_true rfl | ktr_units); intro zD9 zvs9 zc9 zadd9 zh9 ztk9 zF9 zN9 zm9 zV9 zf9; (try dsimp only); (try k_fold))
  k_with "call ref" => (k_here; (with_reducible show wpAny _ _ (call (Value.ref 135) _) _ _ _); k_dflt (refine' useL ?k1 ?k2 ?k3 ?k4 ?k5 ?kK (sinverse_ok _ _ _ _ _ _ _ _ ?h0 ?h1 ?h2 ?h3 ?h4 ?h5 ?h6) ?kd ?ku ?_); (case k1 => k_asm); (case k2 => k_asm); (case k3 => k_asm); (case k4 => k_asm); (case k5 => k_asm); (case kK => first | exact rfl | assumption); (case h0 => exact mem_up (by assumption) (by intro p hp; kcf_m)); (case h1 => exact LV.up (by assumption) (by intro p hp; kcf_m)); (case h2 => omega); (case h3 => omega); (case h4 => assumption); (case h5 => assumption); (case h6 => assumption); (case kd => first | exact room_up (by assumption) (by decide) | exact Nat.le_of_ble_eq_true rfl | ktr_room); (case ku => first | exact units_up (by assumption) (by decide) | exact Nat.le_of_ble_eq_true rfl | ktr_units); intro zD9 zvs9 zc9 zadd9 zh9 ztk9 zF9 zN9 zm9 zV9 zf9; (try dsimp only); (try k_fold))
  k_with "setItem ref int" => (k_here; k_dflt (refine' set_box ?k1 ?k2 ?k3 ?_; (case k1 => k_asm); (case k2 => k_asm); (case k3 => assumption)); intro zh' zF' zN')
  k_with "subscriptTail" => (k_here; (with_reducible show wpAny _ _ (subscriptTail _ _ (Value.ref _) (Value.int _ _)) _ _ _); k_dflt (refine' ints_item ?k1 ?k2 ?k3 ?k4 ?k5 ?k6 ?_ ?k7; (case k1 => k_asm); (case k2 => kcf_m); (case k3 => assumption); (case k4 => omega); (case k5 => omega); (case k6 => omega); (case k7 => with_unfolding_all rfl)); intro zt9)
  k_with "call builtin:len" => (k_here; (with_reducible show wpAny _ _ (call (Value.builtin "len") [Value.ref _]) _ _ _); k_dflt (refine' ints_len ?k1 ?k2 ?k3 ?k4 ?_; (case k1 => k_asm); (case k2 => kcf_m); (case k3 => assumption); (case k4 => assumption)))
  k_with "call ref" => (k_here; (with_reducible show wpAny _ _ (call (Value.ref 209) _) _ _ _); k_dflt (refine' useTake ?k1 ?k2 ?k3 ?k4 ?k5 ?kK (law_take_ok _ _ _ _ _ _ _ _ _ _ _ _ ?h0 ?h1 ?h2 ?h3 ?h4 ?h5 ?h6 ?h7) ?kd ?ku ?_); (case k1 => k_asm); (case k2 => k_asm); (case k3 => k_asm); (case k4 => k_asm); (case k5 => k_asm); (case kK => first | exact rfl | assumption); (case h0 => kcf_m); (case h1 => assumption); (case h2 => assumption); (case h3 => omega); (case h4 => omega); (case h5 => omega); (case h6 => omega); (case h7 => assumption); (case kd => first | exact room_up (by assumption) (by decide) | exact Nat.le_of_ble_eq_true rfl | ktr_room); (case ku => first | exact units_up (by assumption) (by decide) | exact Nat.le_of_ble_eq_true rfl | ktr_units); intro zr9 zt9 zt8 zn8 zh9 ztk9 zF9 zN9 zl9 zg9; (try dsimp only); (try k_fold))
  k_with "subscriptTail" => (k_here; (with_reducible show wpAny _ _ (subscriptTail _ _ (Value.ref 202) (Value.int _ _)) _ _ _); k_dflt (refine' ratio_item ?k1 ?k2 ?k3 ?k4 ?k5 ?_ ?k7; (case k1 => k_asm); (case k2 => k_asm); (case k3 => k_asm); (case k4 => assumption); (case k5 => assumption); (case k7 => with_unfolding_all rfl)); intro zA9 zq9 zK9)
  k_with "call ref" => (k_here; (with_reducible show wpAny _ _ (call (Value.ref 180) _) _ _ _); k_dflt (refine' useL ?k1 ?k2 ?k3 ?k4 ?k5 ?kK (ssin_law _ _ _ _ _ _ _ ?h0 ?h1 ?h2 ?h3) ?kd ?ku ?_); (case k1 => k_asm); (case k2 => k_asm); (case k3 => k_asm); (case k4 => k_asm); (case k5 => k_asm); (case kK => first | exact rfl | assumption); (case h0 => exact mem_up (by assumption) (by intro p hp; kcf_m)); (case h1 => exact LV.up (by assumption) (by intro p hp; kcf_m)); (case h2 => omega); (case h3 => k_extra "beg"); (case kd => first | exact room_up (by assumption) (by decide) | exact Nat.le_of_ble_eq_true rfl | ktr_room); (case ku => first | exact units_up (by assumption) (by decide) | exact Nat.le_of_ble_eq_true rfl | ktr_units); intro zD9 zvs9 zc9 zadd9 zh9 ztk9 zF9 zN9 zm9 zV9 zf9; (try dsimp only); (try k_fold))
  k_with "call ref" => (k_here; (with_reducible show wpAny _ _ (call (Value.ref 187) _) _ _ _); k_dflt (refine' useL ?k1 ?k2 ?k3 ?k4 ?k5 ?kK (scos_law _ _ _ _ _ _ _ ?h0 ?h1 ?h2 ?h3) ?kd ?ku ?_); (case k1 => k_asm); (case k2 => k_asm); (case k3 => k_asm); (case k4 => k_asm); (case k5 => k_asm); (case kK => first | exact rfl | assumption); (case h0 => exact mem_up (by assumption) (by intro p hp; kcf_m)); (case h1 => exact LV.up (by assumption) (by intro p hp; kcf_m)); (case h2 => omega); (case h3 => k_extra "beg"); (case kd => first | exact room_up (by assumption) (by decide) | exact Nat.le_of_ble_eq_true rfl | ktr_room); (case ku => first | exact units_up (by assumption) (by decide) | exact Nat.le_of_ble_eq_true rfl | ktr_units); intro zD9 zvs9 zc9 zadd9 zh9 ztk9 zF9 zN9 zm9 zV9 zf9; (try dsimp only); (try k_fold))
  k_with "call ref" => (k_here; (with_reducible show wpAny _ _ (call (Value.ref 159) _) _ _ _); k_dflt (refine' useL ?k1 ?k2 ?k3 ?k4 ?k5 ?kK (sexp_law _ _ _ _ _ _ _ ?h0 ?h1 ?h2 ?h3) ?kd ?ku ?_); (case k1 => k_asm); (case k2 => k_asm); (case k3 => k_asm); (case k4 => k_asm); (case k5 => k_asm); (case kK => first | exact rfl | assumption); (case h0 => exact mem_up (by assumption) (by intro p hp; kcf_m)); (case h1 => exact LV.up (by assumption) (by intro p hp; kcf_m)); (case h2 => omega); (case h3 => k_extra "beg"); (case kd => first | exact room_up (by assumption) (by decide) | exact Nat.le_of_ble_eq_true rfl | ktr_room); (case ku => first | exact units_up (by assumption) (by decide) | exact Nat.le_of_ble_eq_true rfl | ktr_units); intro zD9 zvs9 zc9 zadd9 zh9 ztk9 zF9 zN9 zm9 zV9 zf9; (try dsimp only); (try k_fold))
  k_with "call ref" => (k_here; (with_reducible show wpAny _ _ (call (Value.ref 166) _) _ _ _); k_dflt (refine' useL ?k1 ?k2 ?k3 ?k4 ?k5 ?kK (slog_law _ _ _ _ _ _ _ ?h0 ?h1 ?h2 ?h3 ?h4) ?kd ?ku ?_); (case k1 => k_asm); (case k2 => k_asm); (case k3 => k_asm); (case k4 => k_asm); (case k5 => k_asm); (case kK => first | exact rfl | assumption); (case h0 => exact mem_up (by assumption) (by intro p hp; kcf_m)); (case h1 => exact LV.up (by assumption) (by intro p hp; kcf_m)); (case h2 => omega); (case h3 => omega); (case h4 => k_extra "beg"); (case kd => first | exact room_up (by assumption) (by decide) | exact Nat.le_of_ble_eq_true rfl | ktr_room); (case ku => first | exact units_up (by assumption) (by decide) | exact Nat.le_of_ble_eq_true rfl | ktr_units); intro zD9 zvs9 zc9 zadd9 zh9 ztk9 zF9 zN9 zm9 zV9 zf9; (try dsimp only); (try k_fold))
  k_with "call ref" => (k_here; (with_reducible show wpAny _ _ (call (Value.ref 194) _) _ _ _); k_dflt (refine' useL ?k1 ?k2 ?k3 ?k4 ?k5 ?kK (spower_law _ _ _ _ _ _ _ ?h0 ?h1 ?h2 _ _ ?h3 ?h4) ?kd ?ku ?_); (case k1 => k_asm); (case k2 => k_asm); (case k3 => k_asm); (case k4 => k_asm); (case k5 => k_asm); (case kK => first | exact rfl | assumption); (case h0 => exact mem_up (by assumption) (by intro p hp; kcf_m)); (case h1 => exact LV.up (by assumption) (by intro p hp; kcf_m)); (case h2 => omega); (case h3 => k_extra "exponent"); (case h4 => k_extra "beg"); (case kd => first | exact room_up (by assumption) (by decide) | exact Nat.le_of_ble_eq_true rfl | ktr_room); (case ku => first | exact units_up (by assumption) (by decide) | exact Nat.le_of_ble_eq_true rfl | ktr_units); intro zD9 zvs9 zc9 zadd9 zh9 ztk9 zF9 zN9 zm9 zV9 zf9; (try dsimp only); (try k_fold))
  k_with "call ref" => (k_here; (with_reducible show wpAny _ _ (call (Value.ref 111) _) _ _ _); k_dflt (refine' useL ?k1 ?k2 ?k3 ?k4 ?k5 ?kK (sadd_law _ _ _ _ _ _ _ ?h0 ?h1 ?h2 _ _ _ _ ?h3 ?h4 ?h5 ?h6) ?kd ?ku ?_); (case k1 => k_asm); (case k2 => k_asm); (case k3 => k_asm); (case k4 => k_asm); (case k5 => k_asm); (case kK => first | exact rfl | assumption); (case h0 => exact mem_up (by assumption) (by intro p hp; kcf_m)); (case h1 => exact LV.up (by assumption) (by intro p hp; kcf_m)); (case h2 => omega); (case h3 => exact mem_up (by assumption) (by intro p hp; kcf_m)); (case h4 => exact LV.up (by assumption) (by intro p hp; kcf_m)); (case h5 => k_extra "allsm"); (case h6 => k_extra "allsm"); (case kd => first | exact room_up (by assumption) (by decide) | exact Nat.le_of_ble_eq_true rfl | ktr_room); (case ku => first | exact units_up (by assumption) (by decide) | exact Nat.le_of_ble_eq_true rfl | ktr_units); intro zD9 zvs9 zc9 zadd9 zh9 ztk9 zF9 zN9 zm9 zV9 zf9; (try dsimp only); (try k_fold))
  k_with "call ref" => (k_here; (with_reducible show wpAny _ _ (call (Value.ref 116) _) _ _ _); k_dflt (refine' useL ?k1 ?k2 ?k3 ?k4 ?k5 ?kK (ssub_law _ _ _ _ _ _ _ ?h0 ?h1 ?h2 _ _ _ _ ?h3 ?h4 ?h5 ?h6) ?kd ?ku ?_); (case k1 => k_asm); (case k2 => k_asm); (case k3 => k_asm); (case k4 => k_asm); (case k5 => k_asm); (case kK => first | exact rfl | assumption); (case h0 => exact mem_up (by assumption) (by intro p hp; kcf_m)); (case h1 => exact LV.up (by assumption) (by intro p hp; kcf_m)); (case h2 => omega); (case h3 => exact mem_up (by assumption) (by intro p hp; kcf_m)); (case h4 => exact LV.up (by assumption) (by intro p hp; kcf_m)); (case h5 => k_extra "allsm"); (case h6 => k_extra "allsm"); (case kd => first | exact room_up (by assumption) (by decide) | exact Nat.le_of_ble_eq_true rfl | ktr_room); (case ku => first | exact units_up (by assumption) (by decide) | exact Nat.le_of_ble_eq_true rfl | ktr_units); intro zD9 zvs9 zc9 zadd9 zh9 ztk9 zF9 zN9 zm9 zV9 zf9; (try dsimp only); (try k_fold))
  k_with "call ref" => (k_here; (with_reducible show wpAny _ _ (call (Value.ref 128) _) _ _ _); k_dflt (refine' useL ?k1 ?k2 ?k3 ?k4 ?k5 ?kK (smul_law _ _ _ _ _ _ _ ?h0 ?h1 ?h2 _ _ _ _ ?h3 ?h4 ?h5) ?kd ?ku ?_); (case k1 => k_asm); (case k2 => k_asm); (case k3 => k_asm); (case k4 => k_asm); (case k5 => k_asm); (case kK => first | exact rfl | assumption); (case h0 => exact mem_up (by assumption) (by intro p hp; kcf_m)); (case h1 => exact LV.up (by assumption) (by intro p hp; kcf_m)); (case h2 => omega); (case h3 => exact mem_up (by assumption) (by intro p hp; kcf_m)); (case h4 => exact LV.up (by assumption) (by intro p hp; kcf_m)); (case h5 => k_extra "mulable"); (case kd => first | exact room_up (by assumption) (by decide) | exact Nat.le_of_ble_eq_true rfl | ktr_room); (case ku => first | exact units_up (by assumption) (by decide) | exact Nat.le_of_ble_eq_true rfl | ktr_units); intro zD9 zvs9 zc9 zadd9 zh9 ztk9 zF9 zN9 zm9 zV9 zf9; (try dsimp only); (try k_fold))
  k_with "call ref" => (k_here; (with_reducible show wpAny _ _ (call (Value.ref 64) _) _ _ _); k_dflt (refine' useQ ?k1 ?k2 ?k3 ?k4 ?k5 ?kK (radd_law _ _ _ _ _ _ ?h0 ?h1) ?kd ?ku ?_); (case k1 => k_asm); (case k2 => k_asm); (case k3 => k_asm); (case k4 => k_asm); (case k5 => k_asm); (case kK => first | exact rfl | assumption); (case h0 => assumption); (case h1 => assumption); (case kd => first | exact room_up (by assumption) (by decide) | exact Nat.le_of_ble_eq_true rfl | ktr_room); (case ku => first | exact units_up (by assumption) (by decide) | exact Nat.le_of_ble_eq_true rfl | ktr_units); intro zadd9 zD9 zt9 zu9 zn9 zh9 ztk9 zF9 zN9 zf9 zS9; (try dsimp only); (try k_fold))
  k_with "call ref" => (k_here; (with_reducible show wpAny _ _ (call (Value.ref 209) _) _ _ _); k_dflt (refine' useTake ?k1 ?k2 ?k3 (news_pull1 ?k4) ?k5 ?kK (law_take_ok _ _ _ _ _ _ _ _ _ _ _ _ ?h0 ?h1 ?h2 ?h3 ?h4 ?h5 ?h6 ?h7) ?kd ?ku ?_); (case k1 => k_asm); (case k2 => k_asm); (case k3 => k_asm); (case k4 => k_asm); (case k5 => k_asm); (case kK => first | exact rfl | assumption); (case h0 => kcf_m); (case h1 => assumption); (case h2 => first | assumption | exact pull1_ne (by assumption) (by assumption)); (case h3 => omega); (case h4 => omega); (case h5 => omega); (case h6 => omega); (case h7 => omega); (case kd => first | exact room_up (by assumption) (by decide) | exact Nat.le_of_ble_eq_true rfl | ktr_room); (case ku => first | exact units_up (by assumption) (by decide) | exact Nat.le_of_ble_eq_true rfl | ktr_units); intro zr9 zt9 zt8 zn8 zh9 ztk9 zF9 zN9 zl9 zg9; (try dsimp only); (try k_fold))
  k_with "call ref" => (k_here; (with_reducible show wpAny _ _ (call (Value.ref 209) _) _ _ _); k_dflt (refine' useTake ?k1 ?k2 ?k3 ?k4 ?k5 ?kK (law_take_ok _ _ _ _ _ _ _ _ _ _ _ _ ?h0 ?h1 ?h2 ?h3 ?h4 ?h5 ?h6 ?h7) ?kd ?ku ?_); (case k1 => k_asm); (case k2 => k_asm); (case k3 => k_asm); (case k4 => k_asm); (case k5 => k_asm); (case kK => first | exact rfl | assumption); (case h0 => kcf_m); (case h1 => assumption); (case h2 => first | assumption | exact pull1_ne (by assumption) (by assumption)); (case h3 => omega); (case h4 => omega); (case h5 => omega); (case h6 => omega); (case h7 => omega); (case kd => first | exact room_up (by assumption) (by decide) | exact Nat.le_of_ble_eq_true rfl | ktr_room); (case ku => first | exact units_up (by assumption) (by decide) | exact Nat.le_of_ble_eq_true rfl | ktr_units); intro zr9 zt9 zt8 zn8 zh9 ztk9 zF9 zN9 zl9 zg9; (try dsimp only); (try k_fold))
  k_with "call ref" => (k_here; (with_reducible show wpAny _ _ (call (Value.ref 214) _) _ _ _); k_dflt (refine' useRow ?k1 ?k2 ?k3 (news_pull ?k4) ?k5 ?kK (row_law2 _ _ _ _ _ _ _ _ _ _ _ _ _ _ _ _ _ ?h0 ?h1 ?h2 ?h3 ?h4 ?h5 ?h6 ?h7 ?h8) ?kd ?ku ?_); (case k1 => k_asm); (case k2 => k_asm); (case k3 => k_asm); (case k4 => k_asm); (case k5 => k_asm); (case kK => first | exact rfl | assumption); (case h0 => kcf_m); (case h1 => assumption); (case h2 => first | assumption | exact pull_ne (by assumption) (by assumption) (by assumption)); (case h3 => omega); (case h4 => omega); (case h5 => omega); (case h6 => omega); (case h7 => omega); (case h8 => kcf_m); (case kd => first | exact room_up (by assumption) (by decide) | exact Nat.le_of_ble_eq_true rfl | ktr_room); (case ku => first | exact units_up (by assumption) (by decide) | exact Nat.le_of_ble_eq_true rfl | ktr_units); intro zadd9 zD9 zrs9 zcc9 zfr9 ztb9 zn9 zh9 ztk9 zF9 zN9 zq9 zm9 zV9 zR9; (try dsimp only); (try k_fold))
  k_with "call ref" => (k_here; (with_reducible show wpAny _ _ (call (Value.ref 214) _) _ _ _); k_dflt (refine' useRow ?k1 ?k2 ?k3 ?k4 ?k5 ?kK (row_law2 _ _ _ _ _ _ _ _ _ _ _ _ _ _ _ _ _ ?h0 ?h1 ?h2 ?h3 ?h4 ?h5 ?h6 ?h7 ?h8) ?kd ?ku ?_); (case k1 => k_asm); (case k2 => k_asm); (case k3 => k_asm); (case k4 => k_asm); (case k5 => k_asm); (case kK => first | exact rfl | assumption); (case h0 => kcf_m); (case h1 => assumption); (case h2 => first | assumption | exact pull_ne (by assumption) (by assumption) (by assumption)); (case h3 => omega); (case h4 => omega); (case h5 => omega); (case h6 => omega); (case h7 => omega); (case h8 => kcf_m); (case kd => first | exact room_up (by assumption) (by decide) | exact Nat.le_of_ble_eq_true rfl | ktr_room); (case ku => first | exact units_up (by assumption) (by decide) | exact Nat.le_of_ble_eq_true rfl | ktr_units); intro zadd9 zD9 zrs9 zcc9 zfr9 ztb9 zn9 zh9 ztk9 zF9 zN9 zq9 zm9 zV9 zR9; (try dsimp only); (try k_fold))
  k_with "compareOp Eq ref ref" => (k_here; (with_reducible show wpAny _ _ (compareOp _ (Value.ref _) (Value.ref _)) _ _ _); k_dflt (refine' same_eq ?k1 ?k2 ?k3 ?h0 ?h1 ?h2 ?h3 ?ku ?he ?_); (case k1 => k_asm); (case k2 => k_asm); (case k3 => k_asm); (case h0 => exact mem_up (by assumption) (by intro p hp; kcf_m)); (case h1 => exact mem_up (by assumption) (by intro p hp; kcf_m)); (case h2 => exact LV.up (by assumption) (by intro p hp; kcf_m)); (case h3 => exact LV.up (by assumption) (by intro p hp; kcf_m)); (case ku => first | exact units_up (by assumption) (by decide) | exact Nat.le_of_ble_eq_true rfl | ktr_units); (case he => k_extra "same"))
  k_with "compareOp NotEq ref ref" => (k_here; (with_reducible show wpAny _ _ (compareOp _ (Value.ref _) (Value.ref _)) _ _ _); k_dflt (refine' same_ne ?k1 ?k2 ?k3 ?h0 ?h1 ?h2 ?h3 ?ku ?he ?_); (case k1 => k_asm); (case k2 => k_asm); (case k3 => k_asm); (case h0 => exact mem_up (by assumption) (by intro p hp; kcf_m)); (case h1 => exact mem_up (by assumption) (by intro p hp; kcf_m)); (case h2 => exact LV.up (by assumption) (by intro p hp; kcf_m)); (case h3 => exact LV.up (by assumption) (by intro p hp; kcf_m)); (case ku => first | exact units_up (by assumption) (by decide) | exact Nat.le_of_ble_eq_true rfl | ktr_units); (case he => k_extra "same"))
  k_with "subscriptTail" => (k_here; (with_reducible show wpAny _ _ (subscriptTail _ _ (Value.ref _) (Value.int 0 _)) _ _ _); k_dflt (refine' two_item0 ?k1 ?k2 ?k3 ?_; (case k1 => k_asm); (case k2 => assumption); (case k3 => intro p hp; kcf_m)))
  k_with "subscriptTail" => (k_here; (with_reducible show wpAny _ _ (subscriptTail _ _ (Value.ref _) (Value.int 1 _)) _ _ _); k_dflt (refine' two_item1 ?k1 ?k2 ?k3 ?_; (case k1 => k_asm); (case k2 => assumption); (case k3 => intro p hp; kcf_m)))
  k_with "newList" => (k_here; k_dflt (refine' newList_K ?k1 ?k2 ?_; (case k1 => k_asm); (case k2 => k_asm); k_whole); intro zl9 zh9 zF9 zN9 zq9; (replace zq9 := ne_of_lts zq9); (have zm9 := head_of zN9); (try dsimp only))
  k_with "call ref" => ((with_reducible show wpAny _ _ (call (Value.ref _) _) _ _ _); exfalso; omega)
  k_with "beg" => with_reducible exact Row.beg0 (by assumption)
  k_with "beg" => with_reducible exact Row.beg1 (by assumption)
  k_with "beg" => with_reducible exact sum_beg (by assumption) (by assumption)
  k_with "beg" => with_reducible exact prod_beg (by assumption) (by assumption)
  k_with "mulable" => with_reducible exact row_mulable (by assumption) (by assumption)
  k_with "mulable" => with_reducible exact exp_mulable' (by assumption) (by assumption)
  k_with "mulable" => with_reducible exact sc_mulable' (by assumption) (by assumption)
  k_with "mulable" => with_reducible exact cs_mulable' (by assumption) (by assumption)
  k_with "mulable" => with_reducible exact ss_mulable' (by assumption) (by assumption)
  k_with "mulable" => with_reducible exact cc_mulable' (by assumption) (by assumption)
  k_with "mulable" => with_reducible exact pow_mulable' (by assumption) (by assumption) (by assumption) (by assumption)
  k_with "allsm" => with_reducible exact row0_sm (by assumption)
  k_with "allsm" => with_reducible exact log_sm' (by assumption)
  k_with "allsm" => with_reducible exact Mulable.sm (by k_extra "mulable")
  k_with "exponent" => with_reducible exact KR.exp (by assumption)
  k_with "exponent" => (with_reducible refine' sum_exp ?e1 ?e2 ?e3 ?e4; (case e1 => assumption); (case e2 => intro p hp; kcf_m); (case e3 => assumption); (case e4 => assumption))
  k_with "same" => with_reducible exact sin_add (by omega)
  k_with "same" => with_reducible exact cos_add (by omega)
  k_with "same" => with_reducible exact exp_add (by omega)
  k_with "same" => with_reducible exact pow_add' (by omega)
  k_with "same" => with_reducible exact pow_mul2 (by assumption) (by assumption) (by omega)
  k_with "same" => with_reducible exact log_mul' (by assumption) (by assumption) (by omega)
  k_go0
  all_goals try k_fold
  all_goals k_steps
  done)
end Mine
theorem PySem.Challenge.cw_sa0097_01_holds : PySem.Challenge.rw_sa0097_01.Holds :=
  Mine.law_holds
