import PyProof.Rows.All
import Wide.All
import OpenK.AllK
import Wide.FinOn
import PySem.Challenge.RW_xm0620_01
open PySem PySem.W PyProof.Rows
set_option Elab.async false
set_option linter.unusedVariables false
namespace Mine
set_option maxRecDepth 100000 in
set_option maxHeartbeats 8000000 in
open_top hd for PySem.Challenge.rw_xm0620_01
/-- the parts were walked apart from the head: the walk as it stands there -/
theorem walk_plain : True := by
  w_top off
  trivial
def P2 (k : Int) : Int := 2 ^ k.toNat
def wrapZ (k n : Int) : Int := (n + P2 (k - 1)) % P2 k - P2 (k - 1)
theorem k_cases {k : Int} (hk : 3 ≤ k ∧ k ≤ 6) : k = 3 ∨ k = 4 ∨ k = 5 ∨ k = 6 := by omega
theorem wrap_lo {k n : Int} (hk : 3 ≤ k ∧ k ≤ 6) (h : ¬ 1 * 2 ^ (k - 1).toNat ≤ PySem.Builtin.bitAnd n (1 * 2 ^ k.toNat - 1)) : PySem.Builtin.bitAnd n (1 * 2 ^ k.toNat - 1) = wrapZ k n := by
  rcases k_cases hk with rfl | rfl | rfl | rfl
  · simp only [show (1 * 2 ^ (3 : Int).toNat - 1 : Int) = 7 from by decide, show (1 * 2 ^ ((3 : Int) - 1).toNat : Int) = 4 from by decide, bitAnd_m3] at h ⊢
    simp only [wrapZ, P2, show (2 ^ (3 : Int).toNat : Int) = 8 from by decide, show (2 ^ ((3 : Int) - 1).toNat : Int) = 4 from by decide]; omega
  · simp only [show (1 * 2 ^ (4 : Int).toNat - 1 : Int) = 15 from by decide, show (1 * 2 ^ ((4 : Int) - 1).toNat : Int) = 8 from by decide, bitAnd_m4] at h ⊢
    simp only [wrapZ, P2, show (2 ^ (4 : Int).toNat : Int) = 16 from by decide, show (2 ^ ((4 : Int) - 1).toNat : Int) = 8 from by decide]; omega
  · simp only [show (1 * 2 ^ (5 : Int).toNat - 1 : Int) = 31 from by decide, show (1 * 2 ^ ((5 : Int) - 1).toNat : Int) = 16 from by decide, bitAnd_m5] at h ⊢
    simp only [wrapZ, P2, show (2 ^ (5 : Int).toNat : Int) = 32 from by decide, show (2 ^ ((5 : Int) - 1).toNat : Int) = 16 from by decide]; omega
  · simp only [show (1 * 2 ^ (6 : Int).toNat - 1 : Int) = 63 from by decide, show (1 * 2 ^ ((6 : Int) - 1).toNat : Int) = 32 from by decide, bitAnd_m6] at h ⊢
    simp only [wrapZ, P2, show (2 ^ (6 : Int).toNat : Int) = 64 from by decide, show (2 ^ ((6 : Int) - 1).toNat : Int) = 32 from by decide]; omega
theorem wrap_hi {k n : Int} (hk : 3 ≤ k ∧ k ≤ 6) (h : 1 * 2 ^ (k - 1).toNat ≤ PySem.Builtin.bitAnd n (1 * 2 ^ k.toNat - 1)) : PySem.Builtin.bitAnd n (1 * 2 ^ k.toNat - 1) - 1 * 2 ^ k.toNat = wrapZ k n := by
  rcases k_cases hk with rfl | rfl | rfl | rfl
  · simp only [show (1 * 2 ^ (3 : Int).toNat - 1 : Int) = 7 from by decide, show (1 * 2 ^ ((3 : Int) - 1).toNat : Int) = 4 from by decide, bitAnd_m3] at h ⊢
    simp only [wrapZ, P2, show (1 * 2 ^ (3 : Int).toNat : Int) = 8 from by decide, show (2 ^ (3 : Int).toNat : Int) = 8 from by decide, show (2 ^ ((3 : Int) - 1).toNat : Int) = 4 from by decide]; omega
  · simp only [show (1 * 2 ^ (4 : Int).toNat - 1 : Int) = 15 from by decide, show (1 * 2 ^ ((4 : Int) - 1).toNat : Int) = 8 from by decide, bitAnd_m4] at h ⊢
    simp only [wrapZ, P2, show (1 * 2 ^ (4 : Int).toNat : Int) = 16 from by decide, show (2 ^ (4 : Int).toNat : Int) = 16 from by decide, show (2 ^ ((4 : Int) - 1).toNat : Int) = 8 from by decide]; omega
  · simp only [show (1 * 2 ^ (5 : Int).toNat - 1 : Int) = 31 from by decide, show (1 * 2 ^ ((5 : Int) - 1).toNat : Int) = 16 from by decide, bitAnd_m5] at h ⊢
    simp only [wrapZ, P2, show (1 * 2 ^ (5 : Int).toNat : Int) = 32 from by decide, show (2 ^ (5 : Int).toNat : Int) = 32 from by decide, show (2 ^ ((5 : Int) - 1).toNat : Int) = 16 from by decide]; omega
  · simp only [show (1 * 2 ^ (6 : Int).toNat - 1 : Int) = 63 from by decide, show (1 * 2 ^ ((6 : Int) - 1).toNat : Int) = 32 from by decide, bitAnd_m6] at h ⊢
    simp only [wrapZ, P2, show (1 * 2 ^ (6 : Int).toNat : Int) = 64 from by decide, show (2 ^ (6 : Int).toNat : Int) = 64 from by decide, show (2 ^ ((6 : Int) - 1).toNat : Int) = 32 from by decide]; omega
/-- what holds in a shallower frame holds in a deeper one -/
theorem wpAny_more {α : Type} {M : Model} {D U dp un : Nat} {gd : Option (List Code)} {cn : PySem.Str} {cs : Scope} {L a : Addr} {ccd : Value} {cl : List (PySem.Str × Addr)} {outer : List Env} {t : Sem α} {Q : α → Shared → Prop} {E : Value → Shared → Prop} {s : Shared}
    (hdp : dp ≤ D) (hun : un ≤ U) (h : wpAny M (ktrTop D U gd cn cs L a ccd cl outer) t Q E s) : wpAny M (ktrTop dp un gd cn cs L a ccd cl outer) t Q E s :=
  fun Γ p hΓ => h Γ p ⟨hΓ.1, Nat.le_trans hΓ.2.1 hdp, hΓ.2.2.1, hΓ.2.2.2.1, Nat.le_trans hΓ.2.2.2.2 hun⟩
/-- a call of the program's def at address f, from any def's frame that lies no deeper than D -/
abbrev Claim (D U : Nat) (w : World) (mean : ExcName → Option Value) (mg mb : PySem.Str → Option Value) (f : Addr) (news : List (Addr × Obj)) (pre : Prop) (args : List Value) (R : Heap → Addr → (PySem.Str → Option Value) → Shared → (Value → Shared → Prop) → Prop) : Prop :=
  ∀ (gd : Option (List Code)) (cn : PySem.Str) (cs : Scope) (a : Addr) (ccd : Value) (cl : List (PySem.Str × Addr)) (outer : List Env) (A₀ : Around) (base h₀ : Heap) (L : Addr) (m : PySem.Str → Option Value) (s : Shared) (Q E : Value → Shared → Prop),
    Below A₀ base outer h₀ → Fr h₀ L s.heap m → (hd.heap_39 w.params).In h₀ → News h₀ L s.heap news → Top hd.view_39 (looseW hd.view_39 [Str.ofString "RECKONINGS", Str.ofString "FOLDED"]) mean mg mb h₀ → cs.kind = .function →
    pre → R h₀ L m s Q →
    wpAny (model PySem.Challenge.rw_xm0620_01.row.prog w) (ktrTop D U gd cn cs L a ccd cl outer) (call (.ref f) args) Q E s
theorem Claim.use {D U : Nat} {w : World} {mean : ExcName → Option Value} {mg mb : PySem.Str → Option Value} {f : Addr} {news : List (Addr × Obj)} {pre : Prop} {args : List Value} {R : Heap → Addr → (PySem.Str → Option Value) → Shared → (Value → Shared → Prop) → Prop}
    (C : Claim D U w mean mg mb f news pre args R)
    {dp un : Nat} {gd : Option (List Code)} {cn : PySem.Str} {cs : Scope} {a : Addr} {ccd : Value} {cl : List (PySem.Str × Addr)} {outer : List Env} {A₀ : Around} {base h₀ : Heap} {L : Addr} {m : PySem.Str → Option Value} {s : Shared} {Q E : Value → Shared → Prop}
    (B : Below A₀ base outer h₀) (F : Fr h₀ L s.heap m) (X : (hd.heap_39 w.params).In h₀) (N : News h₀ L s.heap news) (T : Top hd.view_39 (looseW hd.view_39 [Str.ofString "RECKONINGS", Str.ofString "FOLDED"]) mean mg mb h₀)
    (hk : cs.kind = .function) (hp : pre) (hdp : dp ≤ D) (hun : un ≤ U) (hr : R h₀ L m s Q) :
    wpAny (model PySem.Challenge.rw_xm0620_01.row.prog w) (ktrTop dp un gd cn cs L a ccd cl outer) (call (.ref f) args) Q E s :=
  wpAny_more hdp hun (C _ _ _ _ _ _ _ _ _ _ _ _ _ _ _ B F X N T hk hp hr)
abbrev RetI (news : List (Addr × Obj)) (v : Int) (h₀ : Heap) (L : Addr) (m : PySem.Str → Option Value) (s : Shared) (Q : Value → Shared → Prop) : Prop :=
  ∀ (t : Tok) (h' : Heap) (tk' : Nat), Fr h₀ L h' m → News h₀ L h' news → Q (.int v t) { s with heap := h', toks := tk' }
set_option maxRecDepth 100000 in
set_option maxHeartbeats 8000000 in
theorem wrap_c (w : World) (mean : ExcName → Option Value) (mg mb : PySem.Str → Option Value) (n k : Int) (t u : Tok) (news : List (Addr × Obj)) :
    Claim 400 400 w mean mg mb 111 news (3 ≤ k ∧ k ≤ 6) [.int n t, .int k u] (RetI news (wrapZ k n)) := by
  dsimp only [Claim, RetI]
  k_fill
  intros; rename_i hret
  refine wpAny_call ?_
  k_dflt cell_enter
  k_steps
  all_goals (rename (3 ≤ k ∧ k ≤ 6) => hk)
  · exact cb_retI hret (wrap_hi hk (by assumption)) (by assumption) (by assumption)
  · exact cb_retI hret (wrap_lo hk (by assumption)) (by assumption) (by assumption)
theorem item_top {K : Frag} {prog : Program} {w : World} {A : Around} {E : Value → Shared → Prop} {s : Shared} {h₀ : Heap} {L : Addr} {m : PySem.Str → Option Value} {value slice : PySem.Expr} {l : Addr} {od : Option Addr} {vs : List Value} {n : Nat} {sl : Array (Option Value)} {k : Int} {u : Tok} {v : Value} {Q : Value → Shared → Prop}
    (F : Fr h₀ L s.heap m) (X : K.In h₀) (hl : K.lookup l = some ⟨.type "list", od, .seq vs.toArray n, sl⟩) (h0 : 0 ≤ k) (hhi : k < 2 ^ 63) (hx : vs[k.toNat]? = some v) (h : Q v s)
    (hs : subscripted slice false (.ref l) (.int k u) = operate [.ref l, .int k u] (getItem (.ref l) (.int k u))) :
    wpAny (model prog w) A (subscriptTail value slice (.ref l) (.int k u)) Q E s :=
  have hL : s.heap.IsList l vs.toArray := ⟨_, F.keep _ _ (X _ _ hl), rfl, n, rfl⟩
  PyProof.Rows.tail_any hL.typeIs slot_list_getitem.lookup (wpAny_getItem_list hL h0 hhi (by simpa using hx) h) hs
theorem ite_t {p : Prop} [Decidable p] {A B : Prop} (h : p) (hA : A) : if decide p = true then A else B := by rw [if_pos (decide_eq_true h)]; exact hA
theorem ite_f {p : Prop} [Decidable p] {A B : Prop} (h : ¬ p) (hB : B) : if decide p = true then A else B := by rw [if_neg (by rw [decide_eq_false h]; decide)]; exact hB
theorem ite_bt {x y : Int} {A B : Prop} (h : x ≠ y) (hA : A) : if (x != y) = true then A else B := by rw [if_pos (by simpa using h)]; exact hA
theorem ite_bf {x y : Int} {A B : Prop} (h : x = y) (hB : B) : if (x != y) = true then A else B := by rw [if_neg (by simpa using h)]; exact hB
theorem ite_et {x y : Int} {A B : Prop} (h : x = y) (hA : A) : if (x == y) = true then A else B := by rw [if_pos (by simpa using h)]; exact hA
theorem ite_ef {x y : Int} {A B : Prop} (h : x ≠ y) (hB : B) : if (x == y) = true then A else B := by rw [if_neg (by simpa using h)]; exact hB
abbrev tupO (a : Int) (ta : Tok) (c : Int) (tc : Tok) (n : Nat) : Obj := { cls := .type "tuple", data := .seq #[.int a ta, .int c tc] n }
abbrev InR (x : Int) : Prop := -64 ≤ x ∧ x ≤ 64
theorem fr_map {h₀ h : Heap} {L : Addr} {m m' : PySem.Str → Option Value} (F : Fr h₀ L h m) (e : m = m') : Fr h₀ L h m' := e ▸ F
/-- the fields of a Limits object: the width is known -/
inductive LimDict (k : Int) (tk : Tok) : Obj → Prop
  | mk (h0 h1 h2 h3 h4 h5 h6 h7 h8 h9 : Int) (k0 k1 k2 k3 k4 k5 k6 k7 k8 k9 : Tok) (v1 v2 v3 v4 v5 v6 v7 v8 v9 : Value) : LimDict k tk (dictOf [⟨h0, .str (Str.ofString "width") k0, .int k tk⟩, ⟨h1, .str (Str.ofString "registers") k1, v1⟩, ⟨h2, .str (Str.ofString "upvalues") k2, v2⟩, ⟨h3, .str (Str.ofString "local_names") k3, v3⟩, ⟨h4, .str (Str.ofString "ccalls") k4, v4⟩, ⟨h5, .str (Str.ofString "frames") k5, v5⟩, ⟨h6, .str (Str.ofString "stack") k6, v6⟩, ⟨h7, .str (Str.ofString "flush") k7, v7⟩, ⟨h8, .str (Str.ofString "steps") k8, v8⟩, ⟨h9, .str (Str.ofString "text") k9, v9⟩] 10)
abbrev RetV (news : List (Addr × Obj)) (v : Value) (h₀ : Heap) (L : Addr) (m : PySem.Str → Option Value) (s : Shared) (Q : Value → Shared → Prop) : Prop :=
  ∀ (h' : Heap) (tk' : Nat), Fr h₀ L h' m → News h₀ L h' news → Q v { s with heap := h', toks := tk' }
set_option maxRecDepth 100000 in
set_option maxHeartbeats 8000000 in
theorem num_c (w : World) (mean : ExcName → Option Value) (mg mb : PySem.Str → Option Value) (x : Int) (t : Tok) (l : Addr) (news : List (Addr × Obj)) :
    Claim 390 390 w mean mg mb 181 news True [.int x t, .ref l] (RetV news (.int x t)) := by
  dsimp only [Claim, RetV]
  k_fill
  intros; rename_i hret
  refine wpAny_call ?_
  k_dflt cell_enter
  rename Fr _ _ _ _ => FX
  have FY : Fr _ _ _ (fun y' => List.lookup y' [(Str.ofString "limits", Value.ref l), (Str.ofString "value", Value.int x t)]) := fr_map FX (by kernel_rfl)
  clear FX
  repeat' (first
    | (with_reducible refine ite_et (by omega) ?_; (try dsimp only))
    | (with_reducible refine ite_ef (by omega) ?_; (try dsimp only))
    | (k_unfold; (try dsimp only)) | (k_end; wrow_close) | walk1 | (dsimp only; walk1) | (leave1; (try dsimp only)))
  all_goals (exact hret _ _ (by assumption) (by assumption))
set_option maxRecDepth 100000 in
set_option maxHeartbeats 8000000 in
theorem nores_c (w : World) (mean : ExcName → Option Value) (mg mb : PySem.Str → Option Value) (p x y : Int) (tp t u : Tok) (news : List (Addr × Obj)) :
    Claim 390 390 w mean mg mb 189 news (p ≠ 3 ∧ p ≠ 4 ∧ p ≠ 5) [.int p tp, .int x t, .int y u] (RetV news (.bool false)) := by
  dsimp only [Claim, RetV]
  k_fill
  intros; rename_i hret
  rename (_ ∧ _ ∧ _) => hp
  obtain ⟨hp1, hp2, hp3⟩ := hp
  refine wpAny_call ?_
  k_dflt cell_enter
  rename Fr _ _ _ _ => FX
  have FY : Fr _ _ _ (fun y' => List.lookup y' [(Str.ofString "other", Value.int y u), (Str.ofString "one", Value.int x t), (Str.ofString "place", Value.int p tp)]) := fr_map FX (by kernel_rfl)
  clear FX
  repeat' (first
    | (with_reducible refine ite_et (by omega) ?_; (try dsimp only))
    | (with_reducible refine ite_ef (by omega) ?_; (try dsimp only))
    | (k_unfold; (try dsimp only)) | (k_end; wrow_close) | walk1 | (dsimp only; walk1) | (leave1; (try dsimp only)))
  have e : (p == 5) = false := by simpa using hp3
  rw [e]
  exact hret _ _ (by assumption) (by assumption)
theorem led2 {h₀ h : Heap} {L : Addr} {e1 e2 : Addr × Obj} {news : List (Addr × Obj)} (m1 : e1 ∈ news) (m2 : e2 ∈ news) (N : News h₀ L h news) : News h₀ L h (e1 :: e2 :: news) := by
  intro p hp
  rcases List.mem_cons.mp hp with rfl | hp
  · exact N _ m1
  · rcases List.mem_cons.mp hp with rfl | hp
    · exact N _ m2
    · exact N _ hp
theorem drop2 {h₀ h : Heap} {L : Addr} {e1 e2 : Addr × Obj} {news : List (Addr × Obj)} (N : News h₀ L h (e1 :: e2 :: news)) : News h₀ L h (e1 :: news) := by
  intro p hp
  rcases List.mem_cons.mp hp with rfl | hp
  · exact N _ (.head _)
  · exact N _ (.tail _ (.tail _ hp))
theorem unled2 {h₀ h : Heap} {L : Addr} {e1 e2 : Addr × Obj} {news : List (Addr × Obj)} (N : News h₀ L h (e1 :: e2 :: news)) : News h₀ L h news := fun p hp => N p (.tail _ (.tail _ hp))
set_option maxRecDepth 100000 in
set_option maxHeartbeats 8000000 in
theorem arith_mul (w : World) (mean : ExcName → Option Value) (mg mb : PySem.Str → Option Value) (a b k : Int) (to ta tb tk : Tok) (lx dx : Addr) (oD : Obj) (news : List (Addr × Obj)) :
    Claim 390 390 w mean mg mb 132 ((lx, instObj 53 dx) :: (dx, oD) :: news) ((3 ≤ k ∧ k ≤ 6) ∧ LimDict k tk oD ∧ InR a ∧ InR b) [.bytes #[109, 117, 108] to, .int a ta, .int b tb, .ref lx] (RetI ((lx, instObj 53 dx) :: (dx, oD) :: news) (wrapZ k (a * b))) := by
  dsimp only [Claim, RetI]
  k_fill
  intros; rename_i hret
  rename (_ ∧ LimDict _ _ _ ∧ _) => hpre
  obtain ⟨hk, hD, hia, hib⟩ := hpre
  cases hD
  refine wpAny_call ?_
  k_dflt cell_enter
  rename Fr _ _ _ _ => FX
  have FY : Fr _ _ _ (fun y' => List.lookup y' [(Str.ofString "limits", Value.ref lx), (Str.ofString "b", Value.int b tb), (Str.ofString "a", Value.int a ta), (Str.ofString "op", Value.bytes #[109, 117, 108] to)]) := fr_map FX (by kernel_rfl)
  clear FX
  repeat' (first
    | (k_here; (with_reducible show wpAny _ _ (call (Value.ref 111) _) _ _ _); k_dflt (refine' Claim.use (wrap_c _ _ _ _ _ _ _ _ _) (by k_asm) (by k_asm) (by k_asm) (by k_asm) (by k_asm) (by first | exact rfl | assumption) (by assumption) (by exact Nat.le_of_ble_eq_true rfl) (by exact Nat.le_of_ble_eq_true rfl) ?_); (dsimp only [RetI]; intro t9 h9 tk9 F9 N9; (try dsimp only); (try k_fold)))
    | (with_reducible refine ite_et (by omega) ?_; (try dsimp only))
    | (with_reducible refine ite_ef (by omega) ?_; (try dsimp only))
    | (k_unfold; (try dsimp only)) | (k_end; wrow_close) | walk1 | (dsimp only; walk1) | (leave1; (try dsimp only)))
  all_goals (exact hret _ _ _ (by assumption) (by assumption))
theorem arithu_mul (w : World) (mean : ExcName → Option Value) (mg mb : PySem.Str → Option Value) {news : List (Addr × Obj)} {a b k : Int} {to ta tb tk : Tok} {lx dx : Addr} {oD : Obj} {dp un : Nat} {gd : Option (List Code)} {cn : PySem.Str} {cs : Scope} {ad : Addr} {ccd : Value} {cl : List (PySem.Str × Addr)} {outer : List Env} {A₀ : Around} {base h₀ : Heap} {L : Addr} {m : PySem.Str → Option Value} {s : Shared} {Q E : Value → Shared → Prop}
    (B : Below A₀ base outer h₀) (F : Fr h₀ L s.heap m) (X : (hd.heap_39 w.params).In h₀) (N : News h₀ L s.heap news)
    (T : Top hd.view_39 (looseW hd.view_39 [Str.ofString "RECKONINGS", Str.ofString "FOLDED"]) mean mg mb h₀) (hk : cs.kind = .function)
    (m2 : (lx, instObj 53 dx) ∈ news) (m3 : (dx, oD) ∈ news) (hp : (3 ≤ k ∧ k ≤ 6) ∧ LimDict k tk oD ∧ InR a ∧ InR b) (hdp : dp ≤ 390) (hun : un ≤ 390) (hr : RetI news (wrapZ k (a * b)) h₀ L m s Q) :
    wpAny (model PySem.Challenge.rw_xm0620_01.row.prog w) (ktrTop dp un gd cn cs L ad ccd cl outer) (call (.ref 132) [.bytes #[109, 117, 108] to, .int a ta, .int b tb, .ref lx]) Q E s :=
  Claim.use (arith_mul w mean mg mb a b k to ta tb tk lx dx oD news) B F X (led2 m2 m3 N) T hk hp hdp hun fun t h' tk' F' N' => hr t h' tk' F' (unled2 N')
set_option maxRecDepth 100000 in
set_option maxHeartbeats 8000000 in
theorem arith_add (w : World) (mean : ExcName → Option Value) (mg mb : PySem.Str → Option Value) (a b k : Int) (to ta tb tk : Tok) (lx dx : Addr) (oD : Obj) (news : List (Addr × Obj)) :
    Claim 390 390 w mean mg mb 132 ((lx, instObj 53 dx) :: (dx, oD) :: news) ((3 ≤ k ∧ k ≤ 6) ∧ LimDict k tk oD) [.bytes #[97, 100, 100] to, .int a ta, .int b tb, .ref lx] (RetI ((lx, instObj 53 dx) :: (dx, oD) :: news) (wrapZ k (a + b))) := by
  dsimp only [Claim, RetI]
  k_fill
  intros; rename_i hret
  rename (_ ∧ LimDict _ _ _) => hpre
  obtain ⟨hk, hD⟩ := hpre
  cases hD
  refine wpAny_call ?_
  k_dflt cell_enter
  rename Fr _ _ _ _ => FX
  have FY : Fr _ _ _ (fun y' => List.lookup y' [(Str.ofString "limits", Value.ref lx), (Str.ofString "b", Value.int b tb), (Str.ofString "a", Value.int a ta), (Str.ofString "op", Value.bytes #[97, 100, 100] to)]) := fr_map FX (by kernel_rfl)
  clear FX
  repeat' (first
    | (k_here; (with_reducible show wpAny _ _ (call (Value.ref 111) _) _ _ _); k_dflt (refine' Claim.use (wrap_c _ _ _ _ _ _ _ _ _) (by k_asm) (by k_asm) (by k_asm) (by k_asm) (by k_asm) (by first | exact rfl | assumption) (by assumption) (by exact Nat.le_of_ble_eq_true rfl) (by exact Nat.le_of_ble_eq_true rfl) ?_); (dsimp only [RetI]; intro t9 h9 tk9 F9 N9; (try dsimp only); (try k_fold)))
    | (with_reducible refine ite_et (by omega) ?_; (try dsimp only))
    | (with_reducible refine ite_ef (by omega) ?_; (try dsimp only))
    | (k_unfold; (try dsimp only)) | (k_end; wrow_close) | walk1 | (dsimp only; walk1) | (leave1; (try dsimp only)))
  all_goals (exact hret _ _ _ (by assumption) (by assumption))
theorem arithu_add (w : World) (mean : ExcName → Option Value) (mg mb : PySem.Str → Option Value) {news : List (Addr × Obj)} {a b k : Int} {to ta tb tk : Tok} {lx dx : Addr} {oD : Obj} {dp un : Nat} {gd : Option (List Code)} {cn : PySem.Str} {cs : Scope} {ad : Addr} {ccd : Value} {cl : List (PySem.Str × Addr)} {outer : List Env} {A₀ : Around} {base h₀ : Heap} {L : Addr} {m : PySem.Str → Option Value} {s : Shared} {Q E : Value → Shared → Prop}
    (B : Below A₀ base outer h₀) (F : Fr h₀ L s.heap m) (X : (hd.heap_39 w.params).In h₀) (N : News h₀ L s.heap news)
    (T : Top hd.view_39 (looseW hd.view_39 [Str.ofString "RECKONINGS", Str.ofString "FOLDED"]) mean mg mb h₀) (hk : cs.kind = .function)
    (m2 : (lx, instObj 53 dx) ∈ news) (m3 : (dx, oD) ∈ news) (hp : (3 ≤ k ∧ k ≤ 6) ∧ LimDict k tk oD) (hdp : dp ≤ 390) (hun : un ≤ 390) (hr : RetI news (wrapZ k (a + b)) h₀ L m s Q) :
    wpAny (model PySem.Challenge.rw_xm0620_01.row.prog w) (ktrTop dp un gd cn cs L ad ccd cl outer) (call (.ref 132) [.bytes #[97, 100, 100] to, .int a ta, .int b tb, .ref lx]) Q E s :=
  Claim.use (arith_add w mean mg mb a b k to ta tb tk lx dx oD news) B F X (led2 m2 m3 N) T hk hp hdp hun fun t h' tk' F' N' => hr t h' tk' F' (unled2 N')
abbrev RetP (news : List (Addr × Obj)) (v : Int) (h₀ : Heap) (L : Addr) (m : PySem.Str → Option Value) (s : Shared) (Q : Value → Shared → Prop) : Prop :=
  ∀ (D : Addr) (t1 t2 : Tok) (n : Nat) (h' : Heap) (tk' : Nat), Fr h₀ L h' m → News h₀ L h' ((D, tupO 0 t1 v t2 n) :: news) → AllLt D news → Q (.ref D) { s with heap := h', toks := tk' }
set_option maxRecDepth 100000 in
set_option maxHeartbeats 8000000 in
theorem reckon_mul (w : World) (mean : ExcName → Option Value) (mg mb : PySem.Str → Option Value) (a b k : Int) (tp ta tb tk : Tok) (lx dx : Addr) (oD : Obj) (news : List (Addr × Obj)) :
    Claim 370 370 w mean mg mb 196 ((lx, instObj 53 dx) :: (dx, oD) :: news) ((3 ≤ k ∧ k ≤ 6) ∧ LimDict k tk oD ∧ InR a ∧ InR b) [.int 2 tp, .int a ta, .int b tb, .ref lx] (RetP ((lx, instObj 53 dx) :: (dx, oD) :: news) (wrapZ k (a * b))) := by
  dsimp only [Claim, RetP]
  k_fill
  intros; rename_i hret
  rename (_ ∧ LimDict _ _ _ ∧ _) => hpre
  refine wpAny_call ?_
  k_dflt cell_enter
  rename Fr _ _ _ _ => FX
  have FY : Fr _ _ _ (fun y' => List.lookup y' [(Str.ofString "limits", Value.ref lx), (Str.ofString "right", Value.int b tb), (Str.ofString "left", Value.int a ta), (Str.ofString "place", Value.int 2 tp)]) := fr_map FX (by kernel_rfl)
  clear FX
  repeat' (first
    | (k_here; (with_reducible show wpAny _ _ (call (Value.ref 181) _) _ _ _); k_dflt (refine' Claim.use (num_c _ _ _ _ _ _ _ _) (by k_asm) (by k_asm) (by k_asm) (by k_asm) (by k_asm) (by first | exact rfl | assumption) trivial (by exact Nat.le_of_ble_eq_true rfl) (by exact Nat.le_of_ble_eq_true rfl) ?_); (dsimp only [RetV]; intro h9 tk9 F9 N9; (try dsimp only); (try k_fold)))
    | (k_here; (with_reducible show wpAny _ _ (call (Value.ref 189) _) _ _ _); k_dflt (refine' Claim.use (nores_c _ _ _ _ _ _ _ _ _ _ _) (by k_asm) (by k_asm) (by k_asm) (by k_asm) (by k_asm) (by first | exact rfl | assumption) (by decide) (by exact Nat.le_of_ble_eq_true rfl) (by exact Nat.le_of_ble_eq_true rfl) ?_); (dsimp only [RetV]; intro h9 tk9 F9 N9; (try dsimp only); (try k_fold)))
    | (k_here; (with_reducible show wpAny _ _ (subscriptTail _ _ (Value.ref 182) (Value.int _ _)) _ _ _); (refine' item_top (by k_asm) (by k_asm) (by k_is) (by decide) (by decide) (by rfl) ?_ (by with_unfolding_all rfl)); k_whole)
    | (k_here; (with_reducible show wpAny _ _ (call (Value.ref 132) _) _ _ _); k_dflt (refine' arithu_mul _ _ _ _ (by k_asm) (by k_asm) (by k_asm) (by k_asm) (by k_asm) (by first | exact rfl | assumption) (by k_memK) (by k_memK) hpre (by exact Nat.le_of_ble_eq_true rfl) (by exact Nat.le_of_ble_eq_true rfl) ?_); (dsimp only [RetI]; intro t9 h9 tk9 F9 N9; (try dsimp only); (try k_fold)))
    | (with_reducible refine ite_et (by omega) ?_; (try dsimp only))
    | (with_reducible refine ite_ef (by omega) ?_; (try dsimp only))
    | (k_unfold; (try dsimp only)) | (k_end; wrow_close) | walk1 | (dsimp only; walk1) | (leave1; (try dsimp only)))
  rename News _ _ _ _ => NZ
  rename (_ ∧ _ ∧ _ ∧ AllLt _ _) => lZ
  exact hret _ _ _ _ _ _ (by assumption) (drop2 NZ) lZ.2
set_option maxRecDepth 100000 in
set_option maxHeartbeats 8000000 in
theorem reckon_add (w : World) (mean : ExcName → Option Value) (mg mb : PySem.Str → Option Value) (a b k : Int) (tp ta tb tk : Tok) (lx dx : Addr) (oD : Obj) (news : List (Addr × Obj)) :
    Claim 370 370 w mean mg mb 196 ((lx, instObj 53 dx) :: (dx, oD) :: news) ((3 ≤ k ∧ k ≤ 6) ∧ LimDict k tk oD) [.int 0 tp, .int a ta, .int b tb, .ref lx] (RetP ((lx, instObj 53 dx) :: (dx, oD) :: news) (wrapZ k (a + b))) := by
  dsimp only [Claim, RetP]
  k_fill
  intros; rename_i hret
  rename (_ ∧ LimDict _ _ _) => hpre
  refine wpAny_call ?_
  k_dflt cell_enter
  rename Fr _ _ _ _ => FX
  have FY : Fr _ _ _ (fun y' => List.lookup y' [(Str.ofString "limits", Value.ref lx), (Str.ofString "right", Value.int b tb), (Str.ofString "left", Value.int a ta), (Str.ofString "place", Value.int 0 tp)]) := fr_map FX (by kernel_rfl)
  clear FX
  repeat' (first
    | (k_here; (with_reducible show wpAny _ _ (call (Value.ref 181) _) _ _ _); k_dflt (refine' Claim.use (num_c _ _ _ _ _ _ _ _) (by k_asm) (by k_asm) (by k_asm) (by k_asm) (by k_asm) (by first | exact rfl | assumption) trivial (by exact Nat.le_of_ble_eq_true rfl) (by exact Nat.le_of_ble_eq_true rfl) ?_); (dsimp only [RetV]; intro h9 tk9 F9 N9; (try dsimp only); (try k_fold)))
    | (k_here; (with_reducible show wpAny _ _ (call (Value.ref 189) _) _ _ _); k_dflt (refine' Claim.use (nores_c _ _ _ _ _ _ _ _ _ _ _) (by k_asm) (by k_asm) (by k_asm) (by k_asm) (by k_asm) (by first | exact rfl | assumption) (by decide) (by exact Nat.le_of_ble_eq_true rfl) (by exact Nat.le_of_ble_eq_true rfl) ?_); (dsimp only [RetV]; intro h9 tk9 F9 N9; (try dsimp only); (try k_fold)))
    | (k_here; (with_reducible show wpAny _ _ (subscriptTail _ _ (Value.ref 182) (Value.int _ _)) _ _ _); (refine' item_top (by k_asm) (by k_asm) (by k_is) (by decide) (by decide) (by rfl) ?_ (by with_unfolding_all rfl)); k_whole)
    | (k_here; (with_reducible show wpAny _ _ (call (Value.ref 132) _) _ _ _); k_dflt (refine' arithu_add _ _ _ _ (by k_asm) (by k_asm) (by k_asm) (by k_asm) (by k_asm) (by first | exact rfl | assumption) (by k_memK) (by k_memK) hpre (by exact Nat.le_of_ble_eq_true rfl) (by exact Nat.le_of_ble_eq_true rfl) ?_); (dsimp only [RetI]; intro t9 h9 tk9 F9 N9; (try dsimp only); (try k_fold)))
    | (with_reducible refine ite_et (by omega) ?_; (try dsimp only))
    | (with_reducible refine ite_ef (by omega) ?_; (try dsimp only))
    | (k_unfold; (try dsimp only)) | (k_end; wrow_close) | walk1 | (dsimp only; walk1) | (leave1; (try dsimp only)))
  rename News _ _ _ _ => NZ
  rename (_ ∧ _ ∧ _ ∧ AllLt _ _) => lZ
  exact hret _ _ _ _ _ _ (by assumption) (drop2 NZ) lZ.2
def stepZ (k a c x : Int) : Int := wrapZ k (wrapZ k (a * x) + c)
def orb (k a c x0 : Int) : Nat → Int
  | 0 => x0
  | n + 1 => stepZ k a c (orb k a c x0 n)
def orbL (k a c x0 : Int) (n : Nat) : List Int := (List.range n).map (orb k a c x0)
def InW (k x : Int) : Prop := -P2 (k - 1) ≤ x ∧ x < P2 (k - 1)
theorem P2_cases {k : Int} (hk : 3 ≤ k ∧ k ≤ 6) : (k = 3 ∧ P2 k = 8 ∧ P2 (k - 1) = 4) ∨ (k = 4 ∧ P2 k = 16 ∧ P2 (k - 1) = 8) ∨ (k = 5 ∧ P2 k = 32 ∧ P2 (k - 1) = 16) ∨ (k = 6 ∧ P2 k = 64 ∧ P2 (k - 1) = 32) := by
  rcases k_cases hk with rfl | rfl | rfl | rfl <;> decide
theorem wrapZ_in {k : Int} (hk : 3 ≤ k ∧ k ≤ 6) (n : Int) : InW k (wrapZ k n) := by
  unfold InW wrapZ
  rcases P2_cases hk with ⟨_, h1, h2⟩ | ⟨_, h1, h2⟩ | ⟨_, h1, h2⟩ | ⟨_, h1, h2⟩ <;> rw [h1, h2] <;> omega
theorem stepZ_in {k : Int} (hk : 3 ≤ k ∧ k ≤ 6) (a c x : Int) : InW k (stepZ k a c x) := wrapZ_in hk _
theorem orb_in {k a c x0 : Int} (hk : 3 ≤ k ∧ k ≤ 6) (h0 : InW k x0) : ∀ n, InW k (orb k a c x0 n)
  | 0 => h0
  | _ + 1 => stepZ_in hk _ _ _
theorem inW_small {k x : Int} (hk : 3 ≤ k ∧ k ≤ 6) (h : InW k x) : -64 ≤ x ∧ x ≤ 64 := by
  unfold InW at h
  rcases P2_cases hk with ⟨_, h1, h2⟩ | ⟨_, h1, h2⟩ | ⟨_, h1, h2⟩ | ⟨_, h1, h2⟩ <;> rw [h2] at h <;> omega
theorem nodup_len (lo : Int) : ∀ (n : Nat) (l : List Int), l.Nodup → (∀ x ∈ l, lo ≤ x ∧ x < lo + n) → l.length ≤ n
  | 0, l, _, h => by
    cases l with
    | nil => simp
    | cons x r => have := h x (List.mem_cons_self ..); omega
  | n + 1, l, hn, h => by
    by_cases hm : (lo + n) ∈ l
    · have := nodup_len lo n (l.erase (lo + n)) (hn.erase _) (fun x hx => by
        have h1 := (hn.mem_erase_iff).mp hx
        have h2 := h x h1.2
        have h3 := h1.1
        omega)
      rw [List.length_erase_of_mem hm] at this
      omega
    · have := nodup_len lo n l hn (fun x hx => by
        have h2 := h x hx
        have h3 : x ≠ lo + n := fun e => hm (e ▸ hx)
        omega)
      omega
structure WayInv (k a c x0 : Int) (seen : List Int) (number : Int) : Prop where
  seenIs : seen = orbL k a c x0 seen.length
  numIs : number = orb k a c x0 seen.length
  nodup : seen.Nodup
theorem WayInv.start (k a c x0 : Int) : WayInv k a c x0 [] x0 := ⟨rfl, rfl, List.nodup_nil⟩
theorem orbL_succ (k a c x0 : Int) (n : Nat) : orbL k a c x0 (n + 1) = orbL k a c x0 n ++ [orb k a c x0 n] := by
  unfold orbL; rw [List.range_succ, List.map_append]; rfl
theorem WayInv.next {k a c x0 : Int} {seen : List Int} {number : Int} (h : WayInv k a c x0 seen number) (hn : number ∉ seen) : WayInv k a c x0 (seen ++ [number]) (stepZ k a c number) := by
  refine ⟨?_, ?_, ?_⟩
  · rw [List.length_append, List.length_singleton, orbL_succ, ← h.seenIs, ← h.numIs]
  · rw [List.length_append, List.length_singleton, orb, ← h.numIs]
  · rw [List.nodup_append]
    exact ⟨h.nodup, by simp, fun x hx y hy e => by rw [List.mem_singleton.mp hy] at e; exact hn (e ▸ hx)⟩
theorem WayInv.num_in {k a c x0 : Int} {seen : List Int} {number : Int} (h : WayInv k a c x0 seen number) (hk : 3 ≤ k ∧ k ≤ 6) (h0 : InW k x0) : InW k number := by
  rw [h.numIs]; exact orb_in hk h0 _
theorem WayInv.inR {k a c x0 : Int} {seen : List Int} {number : Int} (h : WayInv k a c x0 seen number) (hk : 3 ≤ k ∧ k ≤ 6) (h0 : InW k x0) : -64 ≤ number ∧ number ≤ 64 :=
  inW_small hk (h.num_in hk h0)
theorem WayInv.all_in {k a c x0 : Int} {seen : List Int} {number : Int} (h : WayInv k a c x0 seen number) (hk : 3 ≤ k ∧ k ≤ 6) (h0 : InW k x0) : ∀ x ∈ seen, InW k x := by
  intro x hx
  rw [h.seenIs] at hx
  obtain ⟨i, _, rfl⟩ := List.mem_map.mp hx
  exact orb_in hk h0 _
theorem inW_len {k : Int} (hk : 3 ≤ k ∧ k ≤ 6) {l : List Int} (hn : l.Nodup) (h : ∀ x ∈ l, InW k x) : (l.length : Int) ≤ P2 k := by
  have h1 := nodup_len (-P2 (k - 1)) (P2 k).toNat l hn (fun x hx => by
    have h2 := h x hx
    unfold InW at h2
    rcases P2_cases hk with ⟨_, e1, e2⟩ | ⟨_, e1, e2⟩ | ⟨_, e1, e2⟩ | ⟨_, e1, e2⟩ <;> rw [e1, e2] <;> rw [e2] at h2 <;> omega)
  rcases P2_cases hk with ⟨_, e1, e2⟩ | ⟨_, e1, e2⟩ | ⟨_, e1, e2⟩ | ⟨_, e1, e2⟩ <;> rw [e1] at h1 ⊢ <;> omega
theorem WayInv.len {k a c x0 : Int} {seen : List Int} {number : Int} (h : WayInv k a c x0 seen number) (hk : 3 ≤ k ∧ k ≤ 6) (h0 : InW k x0) : seen.length ≤ 64 := by
  have := inW_len hk h.nodup (h.all_in hk h0)
  rcases P2_cases hk with ⟨_, e1, e2⟩ | ⟨_, e1, e2⟩ | ⟨_, e1, e2⟩ | ⟨_, e1, e2⟩ <;> omega
theorem WayInv.lt {k a c x0 : Int} {seen : List Int} {number : Int} (h : WayInv k a c x0 seen number) (hk : 3 ≤ k ∧ k ≤ 6) (h0 : InW k x0) (hn : number ∉ seen) : seen.length < 64 := by
  have := (h.next hn).len hk h0
  rw [List.length_append, List.length_singleton] at this
  omega
/-- what _law_way gives: the first number that comes again -/
structure Way (k a c x0 : Int) (n j : Nat) : Prop where
  jlt : j < n
  again : orb k a c x0 n = orb k a c x0 j
  nodup : (orbL k a c x0 n).Nodup
  nle : n ≤ 64
theorem WayInv.done {k a c x0 : Int} {seen : List Int} {number : Int} (h : WayInv k a c x0 seen number) (hk : 3 ≤ k ∧ k ≤ 6) (h0 : InW k x0) (hm : number ∈ seen) :
    Way k a c x0 seen.length (seen.idxOf number) := by
  have h1 := List.idxOf_lt_length_of_mem hm
  have h2 : seen[seen.idxOf number]? = some number := by rw [List.getElem?_eq_getElem h1]; exact congrArg some (List.getElem_idxOf h1)
  generalize seen.idxOf number = j at h1 h2
  refine ⟨h1, ?_, ?_, h.len hk h0⟩
  · rw [← h.numIs]
    have h3 : (orbL k a c x0 seen.length)[j]? = some number := by rw [← h.seenIs]; exact h2
    unfold orbL at h3
    rw [List.getElem?_map, List.getElem?_range h1] at h3
    exact (Option.some.inj h3).symm
  · rw [← h.seenIs]; exact h.nodup
theorem reckonu_mul (w : World) (mean : ExcName → Option Value) (mg mb : PySem.Str → Option Value) {news : List (Addr × Obj)} {a b k : Int} {tp ta tb tk : Tok} {lx dx : Addr} {oD : Obj} {dp un : Nat} {gd : Option (List Code)} {cn : PySem.Str} {cs : Scope} {ad : Addr} {ccd : Value} {cl : List (PySem.Str × Addr)} {outer : List Env} {A₀ : Around} {base h₀ : Heap} {L : Addr} {m : PySem.Str → Option Value} {s : Shared} {Q E : Value → Shared → Prop}
    (B : Below A₀ base outer h₀) (F : Fr h₀ L s.heap m) (X : (hd.heap_39 w.params).In h₀) (N : News h₀ L s.heap news)
    (T : Top hd.view_39 (looseW hd.view_39 [Str.ofString "RECKONINGS", Str.ofString "FOLDED"]) mean mg mb h₀) (hk : cs.kind = .function)
    (m2 : (lx, instObj 53 dx) ∈ news) (m3 : (dx, oD) ∈ news) (hp : (3 ≤ k ∧ k ≤ 6) ∧ LimDict k tk oD ∧ InR a ∧ InR b) (hdp : dp ≤ 370) (hun : un ≤ 370) (hr : RetP news (wrapZ k (a * b)) h₀ L m s Q) :
    wpAny (model PySem.Challenge.rw_xm0620_01.row.prog w) (ktrTop dp un gd cn cs L ad ccd cl outer) (call (.ref 196) [.int 2 tp, .int a ta, .int b tb, .ref lx]) Q E s :=
  Claim.use (reckon_mul w mean mg mb a b k tp ta tb tk lx dx oD news) B F X (led2 m2 m3 N) T hk hp hdp hun fun D t1 t2 n h' tk' F' N' l' => hr D t1 t2 n h' tk' F' (cb_drop N' fun p hp => by
    rcases List.mem_cons.mp hp with rfl | hp
    · exact .head _
    · exact .tail _ (.tail _ (.tail _ hp))) l'.2.2
theorem reckonu_add (w : World) (mean : ExcName → Option Value) (mg mb : PySem.Str → Option Value) {news : List (Addr × Obj)} {a b k : Int} {tp ta tb tk : Tok} {lx dx : Addr} {oD : Obj} {dp un : Nat} {gd : Option (List Code)} {cn : PySem.Str} {cs : Scope} {ad : Addr} {ccd : Value} {cl : List (PySem.Str × Addr)} {outer : List Env} {A₀ : Around} {base h₀ : Heap} {L : Addr} {m : PySem.Str → Option Value} {s : Shared} {Q E : Value → Shared → Prop}
    (B : Below A₀ base outer h₀) (F : Fr h₀ L s.heap m) (X : (hd.heap_39 w.params).In h₀) (N : News h₀ L s.heap news)
    (T : Top hd.view_39 (looseW hd.view_39 [Str.ofString "RECKONINGS", Str.ofString "FOLDED"]) mean mg mb h₀) (hk : cs.kind = .function)
    (m2 : (lx, instObj 53 dx) ∈ news) (m3 : (dx, oD) ∈ news) (hp : (3 ≤ k ∧ k ≤ 6) ∧ LimDict k tk oD) (hdp : dp ≤ 370) (hun : un ≤ 370) (hr : RetP news (wrapZ k (a + b)) h₀ L m s Q) :
    wpAny (model PySem.Challenge.rw_xm0620_01.row.prog w) (ktrTop dp un gd cn cs L ad ccd cl outer) (call (.ref 196) [.int 0 tp, .int a ta, .int b tb, .ref lx]) Q E s :=
  Claim.use (reckon_add w mean mg mb a b k tp ta tb tk lx dx oD news) B F X (led2 m2 m3 N) T hk hp hdp hun fun D t1 t2 n h' tk' F' N' l' => hr D t1 t2 n h' tk' F' (cb_drop N' fun p hp => by
    rcases List.mem_cons.mp hp with rfl | hp
    · exact .head _
    · exact .tail _ (.tail _ (.tail _ hp))) l'.2.2
set_option maxRecDepth 100000 in
set_option maxHeartbeats 8000000 in
theorem gone_c (w : World) (mean : ExcName → Option Value) (mg mb : PySem.Str → Option Value) (x a c k : Int) (tx ta tc tk : Tok) (ra lx dx : Addr) (cn : Nat) (oD : Obj) (news : List (Addr × Obj)) :
    Claim 350 300 w mean mg mb 218 ((ra, tupO a ta c tc cn) :: (lx, instObj 53 dx) :: (dx, oD) :: news) ((3 ≤ k ∧ k ≤ 6) ∧ LimDict k tk oD ∧ InR a ∧ InR c ∧ InR x) [.int x tx, .ref ra, .ref lx]
      (RetI ((ra, tupO a ta c tc cn) :: (lx, instObj 53 dx) :: (dx, oD) :: news) (wrapZ k (wrapZ k (a * x) + c))) := by
  dsimp only [Claim, RetI]
  k_fill
  intros; rename_i hret
  rename (_ ∧ LimDict _ _ _ ∧ _) => hpre
  obtain ⟨hk, hD, ha, hc, hx⟩ := hpre
  refine wpAny_call ?_
  k_dflt cell_enter
  rename Fr _ _ _ _ => FX
  have FY : Fr _ _ _ (fun y' => List.lookup y' [(Str.ofString "limits", Value.ref lx), (Str.ofString "rule", Value.ref ra), (Str.ofString "number", Value.int x tx)]) := fr_map FX (by kernel_rfl)
  clear FX
  repeat' (first
    | (k_here; (with_reducible show wpAny _ _ (call (Value.ref 196) (Value.int 2 _ :: _)) _ _ _); k_dflt (refine' reckonu_mul _ _ _ _ (by k_asm) (by k_asm) (by k_asm) (by k_asm) (by k_asm) (by first | exact rfl | assumption) (by k_memK) (by k_memK) ⟨by assumption, by assumption, by assumption, by assumption⟩ (by exact Nat.le_of_ble_eq_true rfl) (by exact Nat.le_of_ble_eq_true rfl) ?_); (dsimp only [RetP]; intro D9 t91 t92 c9 h9 tk9 F9 N9 lt9; (try simp only [AllLt, and_true] at lt9); (try dsimp only); (try k_fold)))
    | (k_here; (with_reducible show wpAny _ _ (call (Value.ref 196) (Value.int 0 _ :: _)) _ _ _); k_dflt (refine' reckonu_add _ _ _ _ (by k_asm) (by k_asm) (by k_asm) (by k_asm) (by k_asm) (by first | exact rfl | assumption) (by k_memK) (by k_memK) ⟨by assumption, by assumption⟩ (by exact Nat.le_of_ble_eq_true rfl) (by exact Nat.le_of_ble_eq_true rfl) ?_); (dsimp only [RetP]; intro D9 t91 t92 c9 h9 tk9 F9 N9 lt9; (try simp only [AllLt, and_true] at lt9); (try dsimp only); (try k_fold)))
    | (with_reducible refine ite_et (by omega) ?_; (try dsimp only))
    | (with_reducible refine ite_ef (by omega) ?_; (try dsimp only))
    | (k_unfold; (try dsimp only)) | (k_end; wrow_close) | walk1 | (dsimp only; walk1) | (leave1; (try dsimp only)))
  all_goals (rename News _ _ _ _ => NZ; refine hret _ _ _ (by assumption) (cb_drop NZ ?_); intro p hp; repeat (first | exact hp | apply List.Mem.tail))
def intEntries : List DictEntry → Option (List (Int × Value))
  | [] => some []
  | e :: r => match e.key with
    | .int i _ => if e.hash = hashInt i then (intEntries r).map ((i, e.val) :: ·) else none
    | _ => none
theorem intEntries_ok {prog : Program} {w : World} : ∀ {es : List DictEntry} {kvs : List (Int × Value)}, intEntries es = some kvs →
    (∀ e ∈ es, ∃ k, (intKind prog w).is k e.key = true ∧ e.hash = (intKind prog w).hash k) ∧ PySem.Pairs (intKind prog w) es kvs
  | [], kvs, h => by
    cases h
    exact ⟨fun e he => (nomatch he), PySem.Pairs.nil⟩
  | e :: r, kvs, h => by
    obtain ⟨hh, hk, hv⟩ := e
    cases hk with
    | int i t =>
      simp only [intEntries] at h
      split at h
      · rename_i hhash
        cases hr : intEntries r with
        | none => rw [hr] at h; cases h
        | some kr =>
          rw [hr] at h
          cases h
          obtain ⟨a, b⟩ := intEntries_ok (prog := prog) (w := w) hr
          refine ⟨fun e he => ?_, PySem.Pairs.cons (intKind_is prog w i t) rfl b⟩
          rcases List.mem_cons.mp he with rfl | he
          · exact ⟨i, intKind_is prog w i t, hhash⟩
          · exact a e he
      · cases h
    | _ => simp only [intEntries] at h; cases h
section
variable {K : Frag} {prog : Program} {w : World} {A : Around} {E : Value → Shared → Prop} {s : Shared} {h₀ : Heap} {L : Addr} {m : PySem.Str → Option Value} {d : Addr} {es : List DictEntry} {n : Nat} {kvs : List (Int × Value)} {i : Int} {t : Tok} {v : Value} {Q : Value → Shared → Prop}
theorem dict_top (F : Fr h₀ L s.heap m) (X : K.In h₀) (hl : K.lookup d = some ⟨.type "dict", none, .dict es.toArray n, #[]⟩) (he : intEntries es = some kvs) (hn : (kvs.map (·.1)).Nodup) : s.heap.DictOf (intKind prog w) d kvs :=
  ⟨_, _, _, F.keep _ _ (X _ _ hl), ⟨rfl, rfl, rfl⟩, rfl, fun e he' => (intEntries_ok he).1 e (by simpa using he'), (by simpa using (intEntries_ok (prog := prog) (w := w) he).2), hn⟩
theorem notin_top (F : Fr h₀ L s.heap m) (X : K.In h₀) (hl : K.lookup d = some ⟨.type "dict", none, .dict es.toArray n, #[]⟩) (he : intEntries es = some kvs) (hn : (kvs.map (·.1)).Nodup) (hd : (d == sysModules) = false)
    (hv : valueAt kvs i = some v) (h : Q (.bool false) { s with toks := s.toks + 1 }) : wpAny (model prog w) A (compareOp .NotIn (.int i t) (.ref d)) Q E s :=
  wpAny_notIn_of (intKind_is prog w i t) hd (dict_top F X hl he hn).mapOf (by rw [hv]; exact h)
theorem item_topD {value slice : PySem.Expr} (F : Fr h₀ L s.heap m) (X : K.In h₀) (hl : K.lookup d = some ⟨.type "dict", none, .dict es.toArray n, #[]⟩) (he : intEntries es = some kvs) (hn : (kvs.map (·.1)).Nodup)
    (hv : valueAt kvs i = some v) (h : Q v { s with toks := s.toks + 1 })
    (hs : subscripted slice false (.ref d) (.int i t) = operate [.ref d, .int i t] (getItem (.ref d) (.int i t))) (hg : ∀ r, letTemporaryGo value (.ref d) r = pure ()) :
    wpAny (model prog w) A (subscriptTail value slice (.ref d) (.int i t)) Q E s :=
  have hD : s.heap.DictOf (intKind prog w) d kvs := dict_top F X hl he hn
  subscriptTail_builtin hD.typeIs slot_dict_getitem.lookup (wpAny_getItem_of (intKind_is prog w i t) hD.mapOf hv h) hs hg
end
set_option maxRecDepth 100000 in
set_option maxHeartbeats 8000000 in
theorem folded_mul (w : World) (mean : ExcName → Option Value) (mg mb : PySem.Str → Option Value) (a b k : Int) (tp ta tb tk : Tok) (lx dx : Addr) (oD : Obj) (news : List (Addr × Obj)) :
    Claim 370 370 w mean mg mb 204 ((lx, instObj 53 dx) :: (dx, oD) :: news) ((3 ≤ k ∧ k ≤ 6) ∧ LimDict k tk oD ∧ InR a ∧ InR b) [.int 14 tp, .int a ta, .int b tb, .ref lx] (RetI ((lx, instObj 53 dx) :: (dx, oD) :: news) (wrapZ k (a * b))) := by
  dsimp only [Claim, RetI]
  k_fill
  intros; rename_i hret
  rename (_ ∧ LimDict _ _ _ ∧ _) => hpre
  refine wpAny_call ?_
  k_dflt cell_enter
  rename Fr _ _ _ _ => FX
  have FY : Fr _ _ _ (fun y' => List.lookup y' [(Str.ofString "limits", Value.ref lx), (Str.ofString "other", Value.int b tb), (Str.ofString "one", Value.int a ta), (Str.ofString "op", Value.int 14 tp)]) := fr_map FX (by kernel_rfl)
  clear FX
  repeat' (first
    | (k_here; (with_reducible show wpAny _ _ (compareOp CmpOp.NotIn (Value.int _ _) (Value.ref 197)) _ _ _); (refine' notin_top (by k_asm) (by k_asm) (by k_is) (by rfl) (by decide) (by rfl) (by rfl) ?_); k_whole)
    | (k_here; (with_reducible show wpAny _ _ (subscriptTail _ _ (Value.ref 197) (Value.int _ _)) _ _ _); (refine' item_topD (by k_asm) (by k_asm) (by k_is) (by rfl) (by decide) (by rfl) ?_ (by with_unfolding_all rfl) (by intro _; with_unfolding_all rfl)); k_whole)
    | (k_here; (with_reducible show wpAny _ _ (call (Value.ref 132) _) _ _ _); k_dflt (refine' arithu_mul _ _ _ _ (by k_asm) (by k_asm) (by k_asm) (by k_asm) (by k_asm) (by first | exact rfl | assumption) (by k_memK) (by k_memK) hpre (by exact Nat.le_of_ble_eq_true rfl) (by exact Nat.le_of_ble_eq_true rfl) ?_); (dsimp only [RetI]; intro t9 h9 tk9 F9 N9; (try dsimp only); (try k_fold)))
    | (with_reducible refine ite_et (by omega) ?_; (try dsimp only))
    | (with_reducible refine ite_ef (by omega) ?_; (try dsimp only))
    | (k_unfold; (try dsimp only)) | (k_end; wrow_close) | walk1 | (dsimp only; walk1) | (leave1; (try dsimp only)))
  all_goals (exact hret _ _ _ (by assumption) (by assumption))
theorem foldedu_mul (w : World) (mean : ExcName → Option Value) (mg mb : PySem.Str → Option Value) {news : List (Addr × Obj)} {a b k : Int} {tp ta tb tk : Tok} {lx dx : Addr} {oD : Obj} {dp un : Nat} {gd : Option (List Code)} {cn : PySem.Str} {cs : Scope} {ad : Addr} {ccd : Value} {cl : List (PySem.Str × Addr)} {outer : List Env} {A₀ : Around} {base h₀ : Heap} {L : Addr} {m : PySem.Str → Option Value} {s : Shared} {Q E : Value → Shared → Prop}
    (B : Below A₀ base outer h₀) (F : Fr h₀ L s.heap m) (X : (hd.heap_39 w.params).In h₀) (N : News h₀ L s.heap news)
    (T : Top hd.view_39 (looseW hd.view_39 [Str.ofString "RECKONINGS", Str.ofString "FOLDED"]) mean mg mb h₀) (hk : cs.kind = .function)
    (m2 : (lx, instObj 53 dx) ∈ news) (m3 : (dx, oD) ∈ news) (hp : (3 ≤ k ∧ k ≤ 6) ∧ LimDict k tk oD ∧ InR a ∧ InR b) (hdp : dp ≤ 370) (hun : un ≤ 370) (hr : RetI news (wrapZ k (a * b)) h₀ L m s Q) :
    wpAny (model PySem.Challenge.rw_xm0620_01.row.prog w) (ktrTop dp un gd cn cs L ad ccd cl outer) (call (.ref 204) [.int 14 tp, .int a ta, .int b tb, .ref lx]) Q E s :=
  Claim.use (folded_mul w mean mg mb a b k tp ta tb tk lx dx oD news) B F X (led2 m2 m3 N) T hk hp hdp hun fun t h' tk' F' N' => hr t h' tk' F' (unled2 N')
set_option maxRecDepth 100000 in
set_option maxHeartbeats 8000000 in
theorem folded_add (w : World) (mean : ExcName → Option Value) (mg mb : PySem.Str → Option Value) (a b k : Int) (tp ta tb tk : Tok) (lx dx : Addr) (oD : Obj) (news : List (Addr × Obj)) :
    Claim 370 370 w mean mg mb 204 ((lx, instObj 53 dx) :: (dx, oD) :: news) ((3 ≤ k ∧ k ≤ 6) ∧ LimDict k tk oD) [.int 12 tp, .int a ta, .int b tb, .ref lx] (RetI ((lx, instObj 53 dx) :: (dx, oD) :: news) (wrapZ k (a + b))) := by
  dsimp only [Claim, RetI]
  k_fill
  intros; rename_i hret
  rename (_ ∧ LimDict _ _ _) => hpre
  refine wpAny_call ?_
  k_dflt cell_enter
  rename Fr _ _ _ _ => FX
  have FY : Fr _ _ _ (fun y' => List.lookup y' [(Str.ofString "limits", Value.ref lx), (Str.ofString "other", Value.int b tb), (Str.ofString "one", Value.int a ta), (Str.ofString "op", Value.int 12 tp)]) := fr_map FX (by kernel_rfl)
  clear FX
  repeat' (first
    | (k_here; (with_reducible show wpAny _ _ (compareOp CmpOp.NotIn (Value.int _ _) (Value.ref 197)) _ _ _); (refine' notin_top (by k_asm) (by k_asm) (by k_is) (by rfl) (by decide) (by rfl) (by rfl) ?_); k_whole)
    | (k_here; (with_reducible show wpAny _ _ (subscriptTail _ _ (Value.ref 197) (Value.int _ _)) _ _ _); (refine' item_topD (by k_asm) (by k_asm) (by k_is) (by rfl) (by decide) (by rfl) ?_ (by with_unfolding_all rfl) (by intro _; with_unfolding_all rfl)); k_whole)
    | (k_here; (with_reducible show wpAny _ _ (call (Value.ref 132) _) _ _ _); k_dflt (refine' arithu_add _ _ _ _ (by k_asm) (by k_asm) (by k_asm) (by k_asm) (by k_asm) (by first | exact rfl | assumption) (by k_memK) (by k_memK) hpre (by exact Nat.le_of_ble_eq_true rfl) (by exact Nat.le_of_ble_eq_true rfl) ?_); (dsimp only [RetI]; intro t9 h9 tk9 F9 N9; (try dsimp only); (try k_fold)))
    | (with_reducible refine ite_et (by omega) ?_; (try dsimp only))
    | (with_reducible refine ite_ef (by omega) ?_; (try dsimp only))
    | (k_unfold; (try dsimp only)) | (k_end; wrow_close) | walk1 | (dsimp only; walk1) | (leave1; (try dsimp only)))
  all_goals (exact hret _ _ _ (by assumption) (by assumption))
theorem foldedu_add (w : World) (mean : ExcName → Option Value) (mg mb : PySem.Str → Option Value) {news : List (Addr × Obj)} {a b k : Int} {tp ta tb tk : Tok} {lx dx : Addr} {oD : Obj} {dp un : Nat} {gd : Option (List Code)} {cn : PySem.Str} {cs : Scope} {ad : Addr} {ccd : Value} {cl : List (PySem.Str × Addr)} {outer : List Env} {A₀ : Around} {base h₀ : Heap} {L : Addr} {m : PySem.Str → Option Value} {s : Shared} {Q E : Value → Shared → Prop}
    (B : Below A₀ base outer h₀) (F : Fr h₀ L s.heap m) (X : (hd.heap_39 w.params).In h₀) (N : News h₀ L s.heap news)
    (T : Top hd.view_39 (looseW hd.view_39 [Str.ofString "RECKONINGS", Str.ofString "FOLDED"]) mean mg mb h₀) (hk : cs.kind = .function)
    (m2 : (lx, instObj 53 dx) ∈ news) (m3 : (dx, oD) ∈ news) (hp : (3 ≤ k ∧ k ≤ 6) ∧ LimDict k tk oD) (hdp : dp ≤ 370) (hun : un ≤ 370) (hr : RetI news (wrapZ k (a + b)) h₀ L m s Q) :
    wpAny (model PySem.Challenge.rw_xm0620_01.row.prog w) (ktrTop dp un gd cn cs L ad ccd cl outer) (call (.ref 204) [.int 12 tp, .int a ta, .int b tb, .ref lx]) Q E s :=
  Claim.use (folded_add w mean mg mb a b k tp ta tb tk lx dx oD news) B F X (led2 m2 m3 N) T hk hp hdp hun fun t h' tk' F' N' => hr t h' tk' F' (unled2 N')
abbrev RetT (news : List (Addr × Obj)) (v u : Int) (h₀ : Heap) (L : Addr) (m : PySem.Str → Option Value) (s : Shared) (Q : Value → Shared → Prop) : Prop :=
  ∀ (D : Addr) (t1 t2 : Tok) (n : Nat) (h' : Heap) (tk' : Nat), Fr h₀ L h' m → News h₀ L h' ((D, tupO v t1 u t2 n) :: news) → AllLt D news → Q (.ref D) { s with heap := h', toks := tk' }
set_option maxRecDepth 100000 in
set_option maxHeartbeats 8000000 in
theorem twice_c (w : World) (mean : ExcName → Option Value) (mg mb : PySem.Str → Option Value) (a c k : Int) (ta tc tk : Tok) (ra lx dx : Addr) (cn : Nat) (oD : Obj) (news : List (Addr × Obj)) :
    Claim 350 300 w mean mg mb 225 ((ra, tupO a ta c tc cn) :: (lx, instObj 53 dx) :: (dx, oD) :: news) ((3 ≤ k ∧ k ≤ 6) ∧ LimDict k tk oD ∧ InR a ∧ InR c) [.ref ra, .ref lx]
      (RetT ((ra, tupO a ta c tc cn) :: (lx, instObj 53 dx) :: (dx, oD) :: news) (wrapZ k (a * a)) (wrapZ k (wrapZ k (a * c) + c))) := by
  dsimp only [Claim, RetT]
  k_fill
  intros; rename_i hret
  rename (_ ∧ LimDict _ _ _ ∧ _) => hpre
  obtain ⟨hk, hD, ha, hc⟩ := hpre
  refine wpAny_call ?_
  k_dflt cell_enter
  rename Fr _ _ _ _ => FX
  have FY : Fr _ _ _ (fun y' => List.lookup y' [(Str.ofString "limits", Value.ref lx), (Str.ofString "rule", Value.ref ra)]) := fr_map FX (by kernel_rfl)
  clear FX
  repeat' (first
    | (k_here; (with_reducible show wpAny _ _ (call (Value.ref 204) (Value.int 14 _ :: _)) _ _ _); k_dflt (refine' foldedu_mul _ _ _ _ (by k_asm) (by k_asm) (by k_asm) (by k_asm) (by k_asm) (by first | exact rfl | assumption) (by k_memK) (by k_memK) ⟨by assumption, by assumption, by assumption, by assumption⟩ (by exact Nat.le_of_ble_eq_true rfl) (by exact Nat.le_of_ble_eq_true rfl) ?_); (dsimp only [RetI]; intro t9 h9 tk9 F9 N9; (try dsimp only); (try k_fold)))
    | (k_here; (with_reducible show wpAny _ _ (call (Value.ref 204) (Value.int 12 _ :: _)) _ _ _); k_dflt (refine' foldedu_add _ _ _ _ (by k_asm) (by k_asm) (by k_asm) (by k_asm) (by k_asm) (by first | exact rfl | assumption) (by k_memK) (by k_memK) ⟨by assumption, by assumption⟩ (by exact Nat.le_of_ble_eq_true rfl) (by exact Nat.le_of_ble_eq_true rfl) ?_); (dsimp only [RetI]; intro t9 h9 tk9 F9 N9; (try dsimp only); (try k_fold)))
    | (with_reducible refine ite_et (by omega) ?_; (try dsimp only))
    | (with_reducible refine ite_ef (by omega) ?_; (try dsimp only))
    | (k_unfold; (try dsimp only)) | (k_end; wrow_close) | walk1 | (dsimp only; walk1) | (leave1; (try dsimp only)))
  all_goals (exact hret _ _ _ _ _ _ (by assumption) (by assumption) (by assumption))
theorem led3 {h₀ h : Heap} {L : Addr} {e1 e2 e3 : Addr × Obj} {news : List (Addr × Obj)} (m1 : e1 ∈ news) (m2 : e2 ∈ news) (m3 : e3 ∈ news) (N : News h₀ L h news) : News h₀ L h (e1 :: e2 :: e3 :: news) := by
  intro p hp
  rcases List.mem_cons.mp hp with rfl | hp
  · exact N _ m1
  · exact led2 m2 m3 N p hp
theorem unled3 {h₀ h : Heap} {L : Addr} {e1 e2 e3 : Addr × Obj} {news : List (Addr × Obj)} (N : News h₀ L h (e1 :: e2 :: e3 :: news)) : News h₀ L h news := fun p hp => N p (.tail _ (.tail _ (.tail _ hp)))
theorem gone_u (w : World) (mean : ExcName → Option Value) (mg mb : PySem.Str → Option Value) {news : List (Addr × Obj)} {x a c k : Int} {tx ta tc tk : Tok} {ra lx dx : Addr} {cnt : Nat} {oD : Obj} {dp un : Nat} {gd : Option (List Code)} {cn : PySem.Str} {cs : Scope} {ad : Addr} {ccd : Value} {cl : List (PySem.Str × Addr)} {outer : List Env} {A₀ : Around} {base h₀ : Heap} {L : Addr} {m : PySem.Str → Option Value} {s : Shared} {Q E : Value → Shared → Prop}
    (B : Below A₀ base outer h₀) (F : Fr h₀ L s.heap m) (X : (hd.heap_39 w.params).In h₀) (N : News h₀ L s.heap news)
    (T : Top hd.view_39 (looseW hd.view_39 [Str.ofString "RECKONINGS", Str.ofString "FOLDED"]) mean mg mb h₀) (hk : cs.kind = .function)
    (m1 : (ra, tupO a ta c tc cnt) ∈ news) (m2 : (lx, instObj 53 dx) ∈ news) (m3 : (dx, oD) ∈ news) (hD : LimDict k tk oD)
    (hp : (3 ≤ k ∧ k ≤ 6) ∧ InR a ∧ InR c ∧ InR x) (hdp : dp ≤ 350) (hun : un ≤ 300) (hr : RetI news (stepZ k a c x) h₀ L m s Q) :
    wpAny (model PySem.Challenge.rw_xm0620_01.row.prog w) (ktrTop dp un gd cn cs L ad ccd cl outer) (call (.ref 218) [.int x tx, .ref ra, .ref lx]) Q E s :=
  Claim.use (gone_c w mean mg mb x a c k tx ta tc tk ra lx dx cnt oD news) B F X (led3 m1 m2 m3 N) T hk ⟨hp.1, hD, hp.2⟩ hdp hun fun t h' tk' F' N' => hr t h' tk' F' (unled3 N')
theorem twice_u (w : World) (mean : ExcName → Option Value) (mg mb : PySem.Str → Option Value) {news : List (Addr × Obj)} {a c k : Int} {ta tc tk : Tok} {ra lx dx : Addr} {cnt : Nat} {oD : Obj} {dp un : Nat} {gd : Option (List Code)} {cn : PySem.Str} {cs : Scope} {ad : Addr} {ccd : Value} {cl : List (PySem.Str × Addr)} {outer : List Env} {A₀ : Around} {base h₀ : Heap} {L : Addr} {m : PySem.Str → Option Value} {s : Shared} {Q E : Value → Shared → Prop}
    (B : Below A₀ base outer h₀) (F : Fr h₀ L s.heap m) (X : (hd.heap_39 w.params).In h₀) (N : News h₀ L s.heap news)
    (T : Top hd.view_39 (looseW hd.view_39 [Str.ofString "RECKONINGS", Str.ofString "FOLDED"]) mean mg mb h₀) (hk : cs.kind = .function)
    (m1 : (ra, tupO a ta c tc cnt) ∈ news) (m2 : (lx, instObj 53 dx) ∈ news) (m3 : (dx, oD) ∈ news) (hD : LimDict k tk oD)
    (hp : (3 ≤ k ∧ k ≤ 6) ∧ InR a ∧ InR c) (hdp : dp ≤ 350) (hun : un ≤ 300) (hr : RetT news (wrapZ k (a * a)) (wrapZ k (wrapZ k (a * c) + c)) h₀ L m s Q) :
    wpAny (model PySem.Challenge.rw_xm0620_01.row.prog w) (ktrTop dp un gd cn cs L ad ccd cl outer) (call (.ref 225) [.ref ra, .ref lx]) Q E s :=
  Claim.use (twice_c w mean mg mb a c k ta tc tk ra lx dx cnt oD news) B F X (led3 m1 m2 m3 N) T hk ⟨hp.1, hD, hp.2⟩ hdp hun fun D t1 t2 n h' tk' F' N' l' => hr D t1 t2 n h' tk' F' (cb_drop N' fun p hp => by
    rcases List.mem_cons.mp hp with rfl | hp
    · exact .head _
    · exact .tail _ (.tail _ (.tail _ (.tail _ hp)))) l'.2.2.2
theorem wrapZ_dvd {k : Int} (hk : 3 ≤ k ∧ k ≤ 6) (n : Int) : P2 k ∣ wrapZ k n - n := by
  unfold wrapZ
  rcases P2_cases hk with ⟨_, h1, h2⟩ | ⟨_, h1, h2⟩ | ⟨_, h1, h2⟩ | ⟨_, h1, h2⟩ <;> rw [h1, h2] <;> omega
theorem inW_eq {k x y : Int} (hk : 3 ≤ k ∧ k ≤ 6) (hx : InW k x) (hy : InW k y) (h : P2 k ∣ x - y) : x = y := by
  unfold InW at hx hy
  rcases P2_cases hk with ⟨_, h1, h2⟩ | ⟨_, h1, h2⟩ | ⟨_, h1, h2⟩ | ⟨_, h1, h2⟩ <;> rw [h1] at h <;> rw [h2] at hx hy <;> omega
theorem stepZ_dvd {k : Int} (hk : 3 ≤ k ∧ k ≤ 6) (a c x : Int) : P2 k ∣ stepZ k a c x - (a * x + c) := by
  have h1 := wrapZ_dvd hk (wrapZ k (a * x) + c)
  have h2 := wrapZ_dvd hk (a * x)
  have h3 := Int.dvd_add h1 h2
  unfold stepZ
  have e : wrapZ k (wrapZ k (a * x) + c) - (wrapZ k (a * x) + c) + (wrapZ k (a * x) - a * x) = wrapZ k (wrapZ k (a * x) + c) - (a * x + c) := by omega
  rw [e] at h3
  exact h3
/-- the rule, doubled t times, as the program doubles it -/
def rul (k a c : Int) : Nat → Int × Int
  | 0 => (a, c)
  | t + 1 => (wrapZ k ((rul k a c t).1 * (rul k a c t).1), wrapZ k (wrapZ k ((rul k a c t).1 * (rul k a c t).2) + (rul k a c t).2))
theorem dvd_trans_sub {m x y z : Int} (h1 : m ∣ x - y) (h2 : m ∣ y - z) : m ∣ x - z := by
  have h := Int.dvd_add h1 h2
  have e : x - y + (y - z) = x - z := by omega
  rwa [e] at h
theorem dvd_mul_sub {m x y : Int} (a : Int) (h : m ∣ x - y) : m ∣ a * x - a * y := by
  rw [← Int.mul_sub]; exact Int.dvd_trans h (Int.dvd_mul_left ..)
theorem rul_orb {k a c x0 : Int} (hk : 3 ≤ k ∧ k ≤ 6) : ∀ (t i : Nat), P2 k ∣ orb k a c x0 (i + 2 ^ t) - ((rul k a c t).1 * orb k a c x0 i + (rul k a c t).2)
  | 0, i => stepZ_dvd hk a c _
  | t + 1, i => by
    have h1 := rul_orb (x0 := x0) (a := a) (c := c) hk t (i + 2 ^ t)
    have h2 := dvd_mul_sub (rul k a c t).1 (rul_orb (x0 := x0) (a := a) (c := c) hk t i)
    have h3 := wrapZ_dvd hk ((rul k a c t).1 * (rul k a c t).1)
    have h4 := stepZ_dvd hk (rul k a c t).1 (rul k a c t).2 (rul k a c t).2
    have e : i + 2 ^ (t + 1) = i + 2 ^ t + 2 ^ t := by rw [Nat.pow_succ]; omega
    rw [e]
    have h4' : P2 k ∣ (rul k a c (t + 1)).2 - ((rul k a c t).1 * (rul k a c t).2 + (rul k a c t).2) := h4
    have h3' : P2 k ∣ (rul k a c (t + 1)).1 - (rul k a c t).1 * (rul k a c t).1 := h3
    generalize orb k a c x0 (i + 2 ^ t + 2 ^ t) = Z at *
    generalize orb k a c x0 (i + 2 ^ t) = Y at *
    generalize orb k a c x0 i = W at *
    generalize (rul k a c (t + 1)).1 = A' at *
    generalize (rul k a c (t + 1)).2 = C' at *
    generalize (rul k a c t).1 = A at *
    generalize (rul k a c t).2 = C at *
    have h5 : P2 k ∣ A' * W - A * A * W := by rw [← Int.sub_mul]; exact Int.dvd_mul_of_dvd_left h3'
    have h6 := Int.dvd_sub (Int.dvd_sub (Int.dvd_add h1 h2) h5) h4'
    have e6 : Z - (A * Y + C) + (A * Y - A * (A * W + C)) - (A' * W - A * A * W) - (C' - (A * C + C)) = Z - (A' * W + C') := by
      rw [Int.mul_add, ← Int.mul_assoc]; omega
    rw [e6] at h6
    exact h6
theorem P2_pow (k : Int) : P2 k = (2 : Int) ^ k.toNat := rfl
theorem pow_dvd {i j : Nat} (h : i ≤ j) : (2 : Int) ^ i ∣ 2 ^ j := by
  obtain ⟨d, rfl⟩ := Nat.exists_eq_add_of_le h
  rw [Int.pow_add]; exact Int.dvd_mul_right ..
theorem pow_le {k : Int} {i : Nat} (h : i ≤ k.toNat) : (2 : Int) ^ i ∣ P2 k := by
  rw [P2_pow]; exact pow_dvd h
theorem dvd_of_sub {m x y : Int} (h : m ∣ x - y) (hy : m ∣ y) : m ∣ x := by
  have := Int.dvd_add h hy
  have e : x - y + y = x := by omega
  rwa [e] at this
theorem rul_succ {k a c : Int} (hk : 3 ≤ k ∧ k ≤ 6) (t : Nat) {d : Int} (hd : d ∣ P2 k) :
    d ∣ (rul k a c (t + 1)).1 - (rul k a c t).1 * (rul k a c t).1 ∧ d ∣ (rul k a c (t + 1)).2 - ((rul k a c t).1 + 1) * (rul k a c t).2 := by
  refine ⟨Int.dvd_trans hd (wrapZ_dvd hk _), Int.dvd_trans hd ?_⟩
  have h := stepZ_dvd hk (rul k a c t).1 (rul k a c t).2 (rul k a c t).2
  rw [Int.add_mul, Int.one_mul]
  exact h
theorem two_pow_mul {t : Nat} {x y : Int} (hx : (2 : Int) ^ t ∣ x) (hy : (2 : Int) ∣ y) : (2 : Int) ^ (t + 1) ∣ x * y := by
  rw [Int.pow_succ]; exact Int.mul_dvd_mul hx hy
theorem sq_sub (A : Int) : A * A - 1 = (A - 1) * (A + 1) := by
  rw [Int.sub_mul, Int.mul_add]; omega
/-- a odd: the multiplier comes near 1 -/
theorem rul_A {k a c : Int} (hk : 3 ≤ k ∧ k ≤ 6) (ha : a % 2 = 1) : ∀ t : Nat, t + 1 ≤ k.toNat → (2 : Int) ^ (t + 1) ∣ (rul k a c t).1 - 1
  | 0, _ => by
    show (2 : Int) ^ 1 ∣ a - 1
    omega
  | t + 1, h => by
    have ih := rul_A (c := c) hk ha t (by omega)
    have hs := (rul_succ (a := a) (c := c) hk t (pow_le (i := t + 1 + 1) h)).1
    have h2 : (2 : Int) ∣ (rul k a c t).1 - 1 := Int.dvd_trans (by exact pow_dvd (i := 1) (by omega)) ih
    have h3 := two_pow_mul ih (y := (rul k a c t).1 + 1) (by omega)
    rw [← sq_sub] at h3
    have e := Int.dvd_add hs h3
    generalize (rul k a c (t + 1)).1 = A' at *
    generalize (rul k a c t).1 = A at *
    have e2 : A' - A * A + (A * A - 1) = A' - 1 := by omega
    rwa [e2] at e
theorem rul_A' {k a c : Int} (hk : 3 ≤ k ∧ k ≤ 6) (ha : a % 2 = 1) (t : Nat) (h : t ≤ k.toNat) : (2 : Int) ^ t ∣ (rul k a c t).1 - 1 := by
  cases t with
  | zero => exact Int.one_dvd _
  | succ t =>
    have ih := rul_A (c := c) hk ha t h
    have hs := (rul_succ (a := a) (c := c) hk t (pow_le (i := t + 1) h)).1
    have h3 : (2 : Int) ^ (t + 1) ∣ ((rul k a c t).1 - 1) * ((rul k a c t).1 + 1) := Int.dvd_mul_of_dvd_left ih
    rw [← sq_sub] at h3
    have e := Int.dvd_add hs h3
    generalize (rul k a c (t + 1)).1 = A' at *
    generalize (rul k a c t).1 = A at *
    have e2 : A' - A * A + (A * A - 1) = A' - 1 := by omega
    rwa [e2] at e
theorem rul_odd1 {k a c : Int} (hk : 3 ≤ k ∧ k ≤ 6) (ha : a % 2 = 1) (t : Nat) (h : t ≤ k.toNat) : (2 : Int) ∣ (rul k a c t).1 + 1 := by
  cases t with
  | zero => show (2 : Int) ∣ a + 1
            omega
  | succ t =>
    have h1 : (2 : Int) ∣ (rul k a c (t + 1)).1 - 1 := Int.dvd_trans (by exact pow_dvd (i := 1) (by omega)) (rul_A' (c := c) hk ha (t + 1) h)
    omega
/-- a odd: the addend -/
theorem rul_C {k a c : Int} (hk : 3 ≤ k ∧ k ≤ 6) (ha : a % 2 = 1) : ∀ t : Nat, t ≤ k.toNat → (2 : Int) ^ t ∣ (rul k a c t).2
  | 0, _ => Int.one_dvd _
  | t + 1, h => by
    have ih := rul_C (c := c) hk ha t (by omega)
    have hs := (rul_succ (a := a) (c := c) hk t (pow_le (i := t + 1) h)).2
    refine dvd_of_sub hs ?_
    rw [Int.mul_comm]
    exact two_pow_mul ih (rul_odd1 hk ha t (by omega))
theorem rul_C_more {k a c : Int} (hk : 3 ≤ k ∧ k ≤ 6) (ha : a % 2 = 1) (b : Nat) (hb : (2 : Int) ^ (b + 1) ∣ (rul k a c b).2) : ∀ d : Nat, b + d + 1 ≤ k.toNat → (2 : Int) ^ (b + d + 1) ∣ (rul k a c (b + d)).2
  | 0, _ => hb
  | d + 1, h => by
    have ih := rul_C_more hk ha b hb d (by omega)
    have hs := (rul_succ (a := a) (c := c) hk (b + d) (pow_le (i := b + (d + 1) + 1) h)).2
    refine dvd_of_sub hs ?_
    rw [Int.mul_comm]
    exact two_pow_mul ih (rul_odd1 hk ha (b + d) (by omega))
theorem rul_C_full {k a c : Int} (hk : 3 ≤ k ∧ k ≤ 6) (ha : a % 4 = 1) (hc : c % 2 = 1) : ∀ t : Nat, t + 1 ≤ k.toNat → (2 : Int) ^ (t + 1) ∣ (rul k a c t).2 - 2 ^ t ∧ (4 : Int) ∣ (rul k a c t).1 - 1
  | 0, _ => by
    constructor
    · show (2 : Int) ^ 1 ∣ c - 2 ^ 0
      omega
    · show (4 : Int) ∣ a - 1
      omega
  | t + 1, h => by
    obtain ⟨ih1, ih2⟩ := rul_C_full (c := c) hk ha hc t (by omega)
    have hs := (rul_succ (a := a) (c := c) hk t (pow_le (i := t + 1 + 1) h)).2
    have hs4 := (rul_succ (a := a) (c := c) hk t (d := 4) (Int.dvd_trans (by decide) (pow_le (i := 2) (by omega)))).1
    generalize (rul k a c (t + 1)).1 = A' at *
    generalize (rul k a c (t + 1)).2 = C' at *
    generalize (rul k a c t).1 = A at *
    generalize (rul k a c t).2 = C at *
    constructor
    · have e1 : (2 : Int) ^ (t + 1 + 1) ∣ (C - 2 ^ t) * (A + 1) := two_pow_mul ih1 (by omega)
      have e2 : (2 : Int) ^ (t + 1 + 1) ∣ 2 ^ t * (A - 1) := by
        rw [Int.pow_succ, Int.pow_succ, Int.mul_assoc]
        exact Int.mul_dvd_mul (Int.dvd_refl _) ih2
      have e3 := Int.dvd_add (Int.dvd_add hs e1) e2
      have e4 : C' - (A + 1) * C + (C - 2 ^ t) * (A + 1) + 2 ^ t * (A - 1) = C' - 2 ^ (t + 1) := by
        rw [Int.pow_succ, Int.sub_mul, Int.mul_comm C (A + 1), Int.mul_add, Int.mul_sub]
        omega
      rwa [e4] at e3
    · have e1 : (4 : Int) ∣ (A - 1) * (A + 1) := Int.dvd_mul_of_dvd_left ih2
      rw [← sq_sub] at e1
      have e := Int.dvd_add hs4 e1
      have e2 : A' - A * A + (A * A - 1) = A' - 1 := by omega
      rwa [e2] at e
/-- a even: the multiplier vanishes -/
theorem rul_even {k a c : Int} (hk : 3 ≤ k ∧ k ≤ 6) (ha : a % 2 = 0) : ∀ t : Nat, t + 1 ≤ k.toNat → (2 : Int) ^ (t + 1) ∣ (rul k a c t).1
  | 0, _ => by
    show (2 : Int) ^ 1 ∣ a
    omega
  | t + 1, h => by
    have ih := rul_even (c := c) hk ha t (by omega)
    have hs := (rul_succ (a := a) (c := c) hk t (pow_le (i := t + 1 + 1) h)).1
    refine dvd_of_sub hs (two_pow_mul ih (Int.dvd_trans (by exact pow_dvd (i := 1) (by omega)) ih))
theorem rul_in {k a c : Int} (hk : 3 ≤ k ∧ k ≤ 6) (ha : InW k a) (hc : InW k c) (t : Nat) : InW k (rul k a c t).1 ∧ InW k (rul k a c t).2 := by
  cases t with
  | zero => exact ⟨ha, hc⟩
  | succ t => exact ⟨wrapZ_in hk _, wrapZ_in hk _⟩
theorem inW_zero {k : Int} (hk : 3 ≤ k ∧ k ≤ 6) : InW k 0 := by
  unfold InW; rcases P2_cases hk with ⟨_, h1, h2⟩ | ⟨_, h1, h2⟩ | ⟨_, h1, h2⟩ | ⟨_, h1, h2⟩ <;> rw [h2] <;> omega
theorem inW_one {k : Int} (hk : 3 ≤ k ∧ k ≤ 6) : InW k 1 := by
  unfold InW; rcases P2_cases hk with ⟨_, h1, h2⟩ | ⟨_, h1, h2⟩ | ⟨_, h1, h2⟩ | ⟨_, h1, h2⟩ <;> rw [h2] <;> omega
theorem rul_odd_end {k a c : Int} (hk : 3 ≤ k ∧ k ≤ 6) (ha : InW k a) (hc : InW k c) (h : a % 2 = 1) : rul k a c k.toNat = (1, 0) := by
  have h1 := rul_A' (c := c) hk h k.toNat (Nat.le_refl _)
  have h2 := rul_C (c := c) hk h k.toNat (Nat.le_refl _)
  rw [← P2_pow] at h1 h2
  have hi := rul_in hk ha hc k.toNat
  have e1 := inW_eq hk hi.1 (inW_one hk) h1
  have e2 := inW_eq hk hi.2 (inW_zero hk) (by rwa [Int.sub_zero])
  exact Prod.ext e1 e2
theorem tn_pred {k : Int} (hk : 3 ≤ k ∧ k ≤ 6) : k.toNat - 1 + 1 = k.toNat := by omega
theorem tn_two {k : Int} (hk : 3 ≤ k ∧ k ≤ 6) : 1 + (k.toNat - 2) = k.toNat - 1 ∧ 1 + (k.toNat - 2) + 1 ≤ k.toNat ∧ 1 + 1 ≤ k.toNat := by omega
theorem rul_even_end {k a c : Int} (hk : 3 ≤ k ∧ k ≤ 6) (ha : InW k a) (hc : InW k c) (h : a % 2 = 0) : (rul k a c k.toNat).1 = 0 := by
  have hi := rul_in hk ha hc k.toNat
  have hd : P2 k ∣ (rul k a c k.toNat).1 := by
    rw [P2_pow]
    obtain ⟨t, e⟩ : ∃ t, k.toNat = t + 1 := ⟨k.toNat - 1, (tn_pred hk).symm⟩
    have ih := rul_even (c := c) hk h t (by omega)
    have hs := (rul_succ (a := a) (c := c) hk t (pow_le (i := t + 1) (by omega))).1
    rw [e]
    exact dvd_of_sub hs (Int.dvd_mul_of_dvd_left ih)
  exact inW_eq hk hi.1 (inW_zero hk) (by rwa [Int.sub_zero])
theorem orbL_get {k a c x0 : Int} {n i : Nat} (h : i < n) : (orbL k a c x0 n)[i]? = some (orb k a c x0 i) := by
  unfold orbL; rw [List.getElem?_map, List.getElem?_range h]; rfl
theorem orbL_len {k a c x0 : Int} {n : Nat} : (orbL k a c x0 n).length = n := by simp [orbL]
theorem Way.inj {k a c x0 : Int} {n j : Nat} (W : Way k a c x0 n j) {p q : Nat} (hp : p < n) (hq : q < n) (h : orb k a c x0 p = orb k a c x0 q) : p = q := by
  have h2 : (orbL k a c x0 n)[p]? = (orbL k a c x0 n)[q]? := by rw [orbL_get hp, orbL_get hq, h]
  exact (List.getElem?_inj (by rw [orbL_len]; exact hp) W.nodup).mp h2
theorem orb_go {k a c x0 : Int} {p q : Nat} (h : orb k a c x0 p = orb k a c x0 q) : ∀ d, orb k a c x0 (p + d) = orb k a c x0 (q + d)
  | 0 => h
  | d + 1 => by
    show stepZ k a c (orb k a c x0 (p + d)) = stepZ k a c (orb k a c x0 (q + d))
    rw [orb_go h d]
/-- from j on the orbit turns -/
theorem Way.turn {k a c x0 : Int} {n j : Nat} (W : Way k a c x0 n j) (i : Nat) (h : j ≤ i) : ∀ q : Nat, orb k a c x0 (i + (n - j) * q) = orb k a c x0 i
  | 0 => rfl
  | q + 1 => by
    have hj := W.jlt
    have h1 := orb_go W.again (i - j + (n - j) * q)
    have e1 : n + (i - j + (n - j) * q) = i + (n - j) * (q + 1) := by rw [Nat.mul_add]; omega
    have e2 : j + (i - j + (n - j) * q) = i + (n - j) * q := by omega
    rw [e1, e2] at h1
    rw [h1]
    exact Way.turn W i h q
/-- where in seen the number at i lies -/
def atZ (n j i : Nat) : Nat := if i < n then i else j + (i - j) % (n - j)
theorem atZ_lt {n j i : Nat} (hj : j < n) : atZ n j i < n := by
  unfold atZ
  have := Nat.mod_lt (i - j) (show n - j > 0 by omega)
  split <;> omega
theorem Way.at {k a c x0 : Int} {n j : Nat} (W : Way k a c x0 n j) (i : Nat) : orb k a c x0 i = orb k a c x0 (atZ n j i) := by
  unfold atZ
  split
  · rfl
  · have hj := W.jlt
    have h := W.turn (j + (i - j) % (n - j)) (by omega) ((i - j) / (n - j))
    have e := Nat.mod_add_div (i - j) (n - j)
    have e2 : j + (i - j) % (n - j) + (n - j) * ((i - j) / (n - j)) = i := by omega
    rw [e2] at h
    exact h
/-! a even -/
theorem even_near {k a c x0 : Int} (hk : 3 ≤ k ∧ k ≤ 6) (ha : a % 2 = 0) : ∀ i : Nat, i ≤ k.toNat → (2 : Int) ^ i ∣ orb k a c x0 (i + 1) - orb k a c x0 i
  | 0, _ => Int.one_dvd _
  | i + 1, h => by
    have ih := even_near (x0 := x0) (c := c) hk ha i (by omega)
    have h1 := Int.dvd_trans (pow_le (k := k) h) (stepZ_dvd hk a c (orb k a c x0 (i + 1)))
    have h2 := Int.dvd_trans (pow_le (k := k) h) (stepZ_dvd hk a c (orb k a c x0 i))
    have h3 : (2 : Int) ^ (i + 1) ∣ (orb k a c x0 (i + 1) - orb k a c x0 i) * a := two_pow_mul ih (by omega)
    have e0 : orb k a c x0 (i + 1 + 1) = stepZ k a c (orb k a c x0 (i + 1)) := rfl
    have e1 : orb k a c x0 (i + 1) = stepZ k a c (orb k a c x0 i) := rfl
    rw [e0]
    rw [← e1] at h2
    generalize stepZ k a c (orb k a c x0 (i + 1)) = z at *
    generalize orb k a c x0 (i + 1) = y at *
    generalize orb k a c x0 i = x at *
    have h4 := Int.dvd_add (Int.dvd_sub h1 h2) h3
    have e4 : z - (a * y + c) - (y - (a * x + c)) + (y - x) * a = z - y := by rw [Int.sub_mul, Int.mul_comm y a, Int.mul_comm x a]; omega
    rwa [e4] at h4
theorem even_fix {k a c x0 : Int} (hk : 3 ≤ k ∧ k ≤ 6) (h0 : InW k x0) (ha : a % 2 = 0) : orb k a c x0 (k.toNat + 1) = orb k a c x0 k.toNat := by
  refine inW_eq hk (orb_in hk h0 _) (orb_in hk h0 _) ?_
  have := even_near (x0 := x0) (c := c) hk ha k.toNat (Nat.le_refl _)
  rwa [← P2_pow] at this
theorem even_const {k a c x0 : Int} {p : Nat} (h : orb k a c x0 (p + 1) = orb k a c x0 p) : ∀ d, orb k a c x0 (p + d) = orb k a c x0 p
  | 0 => rfl
  | d + 1 => by
    have h1 := orb_go h d
    have e : p + 1 + d = p + (d + 1) := by omega
    rw [e] at h1
    rw [h1]
    exact even_const h d
theorem way_even {k a c x0 : Int} {n j : Nat} (W : Way k a c x0 n j) (hk : 3 ≤ k ∧ k ≤ 6) (h0 : InW k x0) (ha : a % 2 = 0) : n = j + 1 ∧ j ≤ k.toNat := by
  have hj := W.jlt
  have hf := even_fix (c := c) hk h0 ha
  have hn : n ≤ k.toNat + 1 := by
    apply Nat.le_of_not_lt
    intro hlt
    have := W.inj (p := k.toNat + 1) (q := k.toNat) hlt (by omega) hf
    omega
  have h1 := W.turn j (Nat.le_refl _) k.toNat
  have hge : k.toNat ≤ (n - j) * k.toNat := Nat.le_mul_of_pos_left _ (by omega)
  obtain ⟨d, e⟩ : ∃ d, j + (n - j) * k.toNat = k.toNat + d := ⟨j + (n - j) * k.toNat - k.toNat, by omega⟩
  rw [e, even_const hf] at h1
  have h2 : orb k a c x0 (j + 1) = orb k a c x0 j := by
    show stepZ k a c (orb k a c x0 j) = _
    rw [← h1]
    exact hf
  refine ⟨?_, by omega⟩
  apply Nat.le_antisymm _ hj
  apply Nat.le_of_not_lt
  intro hlt
  have := W.inj (p := j + 1) (q := j) hlt hj h2
  omega
theorem le_pow (n : Nat) : n ≤ 2 ^ n := Nat.le_of_lt Nat.lt_two_pow_self
/-- a even: the rule doubled k times sends every number to the fixed one -/
theorem even_end {k a c x0 : Int} {n j : Nat} (W : Way k a c x0 n j) (hk : 3 ≤ k ∧ k ≤ 6) (h0 : InW k x0) (ha : InW k a) (hc : InW k c) (he : a % 2 = 0) : rul k a c k.toNat = (0, orb k a c x0 j) := by
  have h1 := rul_even_end hk ha hc he
  have h2 := rul_orb (a := a) (c := c) (x0 := x0) hk k.toNat j
  rw [h1, Int.zero_mul, Int.zero_add] at h2
  have h3 := inW_eq hk (orb_in hk h0 _) (rul_in hk ha hc k.toNat).2 h2
  have hj := (way_even W hk h0 he).1
  have h4 : orb k a c x0 (j + 1) = orb k a c x0 j := by rw [← hj]; exact W.again
  rw [even_const h4] at h3
  exact Prod.ext h1 h3.symm
/-! a odd -/
theorem odd_round {k a c x0 : Int} (hk : 3 ≤ k ∧ k ≤ 6) (h0 : InW k x0) (ha : InW k a) (hc : InW k c) (h : a % 2 = 1) (i : Nat) : orb k a c x0 (i + 2 ^ k.toNat) = orb k a c x0 i := by
  have h2 := rul_orb (a := a) (c := c) (x0 := x0) hk k.toNat i
  rw [rul_odd_end hk ha hc h] at h2
  have e : (1 : Int) * orb k a c x0 i + 0 = orb k a c x0 i := by omega
  rw [e] at h2
  exact inW_eq hk (orb_in hk h0 _) (orb_in hk h0 _) h2
theorem odd_rounds {k a c x0 : Int} (hk : 3 ≤ k ∧ k ≤ 6) (h0 : InW k x0) (ha : InW k a) (hc : InW k c) (h : a % 2 = 1) (i : Nat) : ∀ q, orb k a c x0 (i + 2 ^ k.toNat * q) = orb k a c x0 i
  | 0 => rfl
  | q + 1 => by
    rw [Nat.mul_add, Nat.mul_one, ← Nat.add_assoc, odd_round hk h0 ha hc h]
    exact odd_rounds hk h0 ha hc h i q
theorem odd_j {k a c x0 : Int} {n j : Nat} (W : Way k a c x0 n j) (hk : 3 ≤ k ∧ k ≤ 6) (h0 : InW k x0) (ha : InW k a) (hc : InW k c) (h : a % 2 = 1) : j = 0 := by
  have hj := W.jlt
  have hge : j ≤ 2 ^ k.toNat * j := Nat.le_mul_of_pos_left _ (Nat.two_pow_pos _)
  have h1 := orb_go W.again (2 ^ k.toNat * j - j)
  have e1 : n + (2 ^ k.toNat * j - j) = (n - j) + 2 ^ k.toNat * j := by omega
  have e2 : j + (2 ^ k.toNat * j - j) = 0 + 2 ^ k.toNat * j := by omega
  rw [e1, e2, odd_rounds hk h0 ha hc h, odd_rounds hk h0 ha hc h] at h1
  by_cases hz : j = 0
  · exact hz
  · have := W.inj (p := n - j) (q := 0) (by omega) (by omega) h1
    omega
theorem odd_mod {k a c x0 : Int} {n : Nat} (W : Way k a c x0 n 0) {i : Nat} (h : orb k a c x0 i = x0) : i % n = 0 := by
  have hj := W.jlt
  have h1 := W.turn (i % n) (Nat.zero_le _) (i / n)
  rw [Nat.sub_zero, Nat.mod_add_div, h] at h1
  exact W.inj (p := i % n) (q := 0) (Nat.mod_lt _ hj) hj h1.symm
theorem odd_ring {k a c x0 : Int} {n : Nat} (W : Way k a c x0 n 0) (hk : 3 ≤ k ∧ k ≤ 6) (h0 : InW k x0) (ha : InW k a) (hc : InW k c) (h : a % 2 = 1) : 2 ^ k.toNat % n = 0 := by
  refine odd_mod W ?_
  have := odd_round (c := c) hk h0 ha hc h 0
  rwa [Nat.zero_add] at this
/-- the ring is not whole: half of the numbers bring the orbit back -/
theorem half_of {k : Int} {n : Nat} (hk : 3 ≤ k ∧ k ≤ 6) (hle : n ≤ 64) (hn : 2 ^ k.toNat % n = 0) (hne : (n : Int) ≠ P2 k) : 2 ^ (k.toNat - 1) % n = 0 := by
  have h3 : ∀ n : Fin 65, 2 ^ 3 % n.val = 0 → n.val ≠ 8 → 2 ^ 2 % n.val = 0 := by decide +kernel
  have h4 : ∀ n : Fin 65, 2 ^ 4 % n.val = 0 → n.val ≠ 16 → 2 ^ 3 % n.val = 0 := by decide +kernel
  have h5 : ∀ n : Fin 65, 2 ^ 5 % n.val = 0 → n.val ≠ 32 → 2 ^ 4 % n.val = 0 := by decide +kernel
  have h6 : ∀ n : Fin 65, 2 ^ 6 % n.val = 0 → n.val ≠ 64 → 2 ^ 5 % n.val = 0 := by decide +kernel
  have hl : n < 65 := by omega
  rcases P2_cases hk with ⟨rfl, e1, e2⟩ | ⟨rfl, e1, e2⟩ | ⟨rfl, e1, e2⟩ | ⟨rfl, e1, e2⟩ <;> rw [e1] at hne
  · exact h3 ⟨n, hl⟩ hn (fun e => hne (by simp only at e; omega))
  · exact h4 ⟨n, hl⟩ hn (fun e => hne (by simp only at e; omega))
  · exact h5 ⟨n, hl⟩ hn (fun e => hne (by simp only at e; omega))
  · exact h6 ⟨n, hl⟩ hn (fun e => hne (by simp only at e; omega))
/-- at half of the whole ring the orbit is back exactly when the addend vanishes -/
theorem half_orb {k a c x0 : Int} (hk : 3 ≤ k ∧ k ≤ 6) (h0 : InW k x0) (h : a % 2 = 1) : orb k a c x0 (2 ^ (k.toNat - 1)) = x0 ↔ P2 k ∣ (rul k a c (k.toNat - 1)).2 := by
  have h2 := rul_orb (a := a) (c := c) (x0 := x0) hk (k.toNat - 1) 0
  rw [Nat.zero_add] at h2
  have ek := tn_pred hk
  have hA := rul_A (c := c) hk h (k.toNat - 1) (Nat.le_of_eq ek)
  rw [ek, ← P2_pow] at hA
  have h2' : P2 k ∣ orb k a c x0 (2 ^ (k.toNat - 1)) - ((rul k a c (k.toNat - 1)).1 * x0 + (rul k a c (k.toNat - 1)).2) := h2
  have h3 : P2 k ∣ ((rul k a c (k.toNat - 1)).1 - 1) * x0 := Int.dvd_mul_of_dvd_left hA
  have h4 : P2 k ∣ orb k a c x0 (2 ^ (k.toNat - 1)) - x0 - (rul k a c (k.toNat - 1)).2 := by
    have h5 := Int.dvd_add h2' h3
    generalize orb k a c x0 (2 ^ (k.toNat - 1)) = z at *
    generalize (rul k a c (k.toNat - 1)).1 = A at *
    generalize (rul k a c (k.toNat - 1)).2 = C at *
    have e : z - (A * x0 + C) + (A - 1) * x0 = z - x0 - C := by rw [Int.sub_mul]; omega
    rwa [e] at h5
  constructor
  · intro e
    rw [e] at h4
    have h5 := Int.dvd_neg.mpr h4
    have e5 : -(x0 - x0 - (rul k a c (k.toNat - 1)).2) = (rul k a c (k.toNat - 1)).2 := by omega
    rwa [e5] at h5
  · intro hC
    exact inW_eq hk (orb_in hk h0 _) h0 (dvd_of_sub h4 hC)
theorem odd4 {a c : Int} (h : a % 2 = 1) (hn : ¬ (c % 2 = 1 ∧ a % 4 = 1)) (hc : c % 2 = 1) : a % 4 = 3 := by omega
theorem half_C {k a c : Int} (hk : 3 ≤ k ∧ k ≤ 6) (h : a % 2 = 1) : P2 k ∣ (rul k a c (k.toNat - 1)).2 ↔ ¬ (c % 2 = 1 ∧ a % 4 = 1) := by
  have ek := tn_pred hk
  constructor
  · intro hd ⟨hc, ha⟩
    have h1 := (rul_C_full (c := c) hk ha hc (k.toNat - 1) (Nat.le_of_eq ek)).1
    rw [ek, ← P2_pow] at h1
    have h2 := Int.dvd_sub hd h1
    generalize (rul k a c (k.toNat - 1)).2 = C at *
    have e : C - (C - 2 ^ (k.toNat - 1)) = (2 : Int) ^ (k.toNat - 1) := by omega
    rw [e] at h2
    rcases P2_cases hk with ⟨rfl, e1, e2⟩ | ⟨rfl, e1, e2⟩ | ⟨rfl, e1, e2⟩ | ⟨rfl, e1, e2⟩ <;> rw [e1] at h2 <;> revert h2 <;> decide
  · intro hn
    rw [P2_pow]
    by_cases hc : c % 2 = 1
    · have ha := odd4 h hn hc
      have hb : (2 : Int) ^ (1 + 1) ∣ (rul k a c 1).2 := by
        have hs := (rul_succ (a := a) (c := c) hk 0 (pow_le (i := 1 + 1) (tn_two hk).2.2)).2
        refine dvd_of_sub hs (Int.dvd_mul_of_dvd_left ?_)
        show (2 : Int) ^ (1 + 1) ∣ a + 1
        omega
      have := rul_C_more hk h 1 hb (k.toNat - 2) (tn_two hk).2.1
      have e1 := (tn_two hk).1
      rwa [e1, ek] at this
    · have hb : (2 : Int) ^ (0 + 1) ∣ (rul k a c 0).2 := by
        show (2 : Int) ^ (0 + 1) ∣ c
        omega
      have := rul_C_more hk h 0 hb (k.toNat - 1) (by omega)
      rwa [Nat.zero_add, ek] at this
theorem pow_nat {k : Int} : P2 k = ((2 ^ k.toNat : Nat) : Int) := by rw [P2_pow]; norm_cast
theorem odd_whole {k a c x0 : Int} {n : Nat} (W : Way k a c x0 n 0) (hk : 3 ≤ k ∧ k ≤ 6) (h0 : InW k x0) (ha : InW k a) (hc : InW k c) (h : a % 2 = 1) : (n : Int) = P2 k ↔ (c % 2 = 1 ∧ a % 4 = 1) := by
  have hr := odd_ring W hk h0 ha hc h
  constructor
  · intro e
    apply Classical.byContradiction
    intro hn
    have hb := (half_orb hk h0 h).mpr ((half_C hk h).mpr hn)
    have hm := odd_mod W hb
    have hlt : 2 ^ (k.toNat - 1) < n := by
      rw [pow_nat] at e
      have e' : n = 2 ^ k.toNat := by exact_mod_cast e
      rw [e']
      exact Nat.pow_lt_pow_right (by decide) (by omega)
    rw [Nat.mod_eq_of_lt hlt] at hm
    have := Nat.two_pow_pos (k.toNat - 1)
    omega
  · intro hn
    apply Classical.byContradiction
    intro hne
    have hm := half_of hk W.nle hr hne
    have hz := W.turn 0 (Nat.zero_le _) (2 ^ (k.toNat - 1) / n)
    have e : 0 + (n - 0) * (2 ^ (k.toNat - 1) / n) = 2 ^ (k.toNat - 1) := by
      have := Nat.mod_add_div (2 ^ (k.toNat - 1)) n
      rw [Nat.zero_add, Nat.sub_zero]; omega
    rw [e] at hz
    exact ((half_C hk h).mp ((half_orb hk h0 h).mp hz)) hn
/-- the program's tests, as numbers -/
theorem odd_mod_int {k M a c x0 : Int} {n : Nat} (W : Way k a c x0 n 0) (hk : 3 ≤ k ∧ k ≤ 6) (hM : M = P2 k) (h0 : InW k x0) (ha : InW k a) (hc : InW k c) (h : a % 2 = 1) : M.fmod (n : Int) = 0 := by
  have hr := odd_ring W hk h0 ha hc h
  rw [hM, pow_nat, Int.fmod_eq_emod_of_nonneg _ (Int.natCast_nonneg n)]
  exact_mod_cast hr
/-- a odd: numbers that lie 2^t apart on the ring differ by a multiple of 2^t -/
theorem odd_leap {k a c x0 : Int} {n : Nat} (W : Way k a c x0 n 0) (hk : 3 ≤ k ∧ k ≤ 6) (h : a % 2 = 1) (t : Nat) (ht : t ≤ k.toNat) (i : Nat) : (2 : Int) ^ t ∣ orb k a c x0 ((i + 2 ^ t) % n) - orb k a c x0 i := by
  have hj := W.jlt
  have h1 := W.turn ((i + 2 ^ t) % n) (Nat.zero_le _) ((i + 2 ^ t) / n)
  rw [Nat.sub_zero, Nat.mod_add_div] at h1
  rw [← h1]
  have h2 := Int.dvd_trans (pow_le (k := k) ht) (rul_orb (a := a) (c := c) (x0 := x0) hk t i)
  have h3 := rul_A' (c := c) hk h t ht
  have h4 := rul_C (c := c) hk h t ht
  generalize orb k a c x0 (i + 2 ^ t) = z at *
  generalize orb k a c x0 i = x at *
  generalize (rul k a c t).1 = A at *
  generalize (rul k a c t).2 = C at *
  have h5 : (2 : Int) ^ t ∣ (A - 1) * x := Int.dvd_mul_of_dvd_left h3
  have h6 := Int.dvd_add (Int.dvd_add h2 h5) h4
  have e : z - (A * x + C) + (A - 1) * x + C = z - x := by rw [Int.sub_mul]; omega
  rwa [e] at h6
/-- the doubled rule sends the first number to the one that lies 2^t on -/
theorem leap_step {k a c x0 : Int} (hk : 3 ≤ k ∧ k ≤ 6) (h0 : InW k x0) (t : Nat) : stepZ k (rul k a c t).1 (rul k a c t).2 x0 = orb k a c x0 (2 ^ t) := by
  have h2 := rul_orb (a := a) (c := c) (x0 := x0) hk t 0
  rw [Nat.zero_add] at h2
  have h1 := stepZ_dvd hk (rul k a c t).1 (rul k a c t).2 x0
  refine inW_eq hk (stepZ_in hk _ _ _) (orb_in hk h0 _) ?_
  have h2' : P2 k ∣ orb k a c x0 (2 ^ t) - ((rul k a c t).1 * x0 + (rul k a c t).2) := h2
  have := Int.dvd_sub h1 h2'
  generalize stepZ k (rul k a c t).1 (rul k a c t).2 x0 = y at *
  generalize orb k a c x0 (2 ^ t) = z at *
  generalize (rul k a c t).1 * x0 + (rul k a c t).2 = q at *
  have e : y - q - (z - q) = y - z := by omega
  rwa [e] at this
theorem way_cases {k M a c x0 : Int} {n j : Nat} (W : Way k a c x0 n j) (hk : 3 ≤ k ∧ k ≤ 6) (hM : M = P2 k) (h0 : InW k x0) (ha : InW k a) (hc : InW k c) :
    (a.fmod 2 = 0 ∧ (n : Int) - (j : Int) = 1 ∧ (j : Int) ≤ k) ∨ (a.fmod 2 = 1 ∧ (j : Int) = 0 ∧ M.fmod ((n : Int) - (j : Int)) = 0 ∧ (n : Int) = M ∧ c.fmod 2 = 1 ∧ a.fmod 4 = 1) ∨
    (a.fmod 2 = 1 ∧ (j : Int) = 0 ∧ M.fmod ((n : Int) - (j : Int)) = 0 ∧ (n : Int) ≠ M ∧ c.fmod 2 = 0) ∨ (a.fmod 2 = 1 ∧ (j : Int) = 0 ∧ M.fmod ((n : Int) - (j : Int)) = 0 ∧ (n : Int) ≠ M ∧ c.fmod 2 = 1 ∧ a.fmod 4 = 3) := by
  rw [show a.fmod 2 = a % 2 from Int.fmod_eq_emod_of_nonneg a (by decide), show c.fmod 2 = c % 2 from Int.fmod_eq_emod_of_nonneg c (by decide), show a.fmod 4 = a % 4 from Int.fmod_eq_emod_of_nonneg a (by decide)]
  rcases (show a % 2 = 0 ∨ a % 2 = 1 by omega) with h | h
  · obtain ⟨e, hj⟩ := way_even W hk h0 h
    exact .inl ⟨h, by omega, by omega⟩
  · obtain rfl := odd_j W hk h0 ha hc h
    have h1 : M.fmod ((n : Int) - ((0 : Nat) : Int)) = 0 := by simpa using odd_mod_int W hk hM h0 ha hc h
    have h2 := odd_whole W hk h0 ha hc h
    rw [← hM] at h2
    refine .inr ?_
    by_cases e : (n : Int) = M
    · exact .inl ⟨h, rfl, h1, e, (h2.mp e).1, (h2.mp e).2⟩
    · rcases (show c % 2 = 0 ∨ c % 2 = 1 by omega) with hc2 | hc2
      · exact .inr (.inl ⟨h, rfl, h1, e, hc2⟩)
      · refine .inr (.inr ⟨h, rfl, h1, e, hc2, ?_⟩)
        have h4 : ¬ a % 4 = 1 := fun h4 => e (h2.mpr ⟨hc2, h4⟩)
        omega
theorem rul_succ_is (k a c : Int) (i : Nat) : wrapZ k ((rul k a c i).1 * (rul k a c i).1) = (rul k a c (i + 1)).1 ∧ wrapZ k (wrapZ k ((rul k a c i).1 * (rul k a c i).2) + (rul k a c i).2) = (rul k a c (i + 1)).2 := ⟨rfl, rfl⟩
structure WayI (k a c x0 : Int) (seen : List Int) (number : Int) : Prop where
  inv : WayInv k a c x0 seen number
  len : seen.length ≤ 64
theorem way_size {k a c x0 : Int} {vs : List Value} {seen : List Int} {number : Int} (hi : IntsAre vs seen) (h : WayI k a c x0 seen number) : vs.toArray.size ≤ PySem.sizeLine := by
  have h1 := hi.length
  have h2 := h.len
  rw [PySem.sizeLine_eq, List.size_toArray]
  omega
theorem way_inR {k a c x0 : Int} {seen : List Int} {number : Int} (hk : 3 ≤ k ∧ k ≤ 6) (h0 : InW k x0) (h : WayI k a c x0 seen number) : InR number := h.1.inR hk h0
theorem way_start {k a c x0 : Int} : WayI k a c x0 [] x0 := ⟨WayInv.start _ _ _ _, Nat.zero_le _⟩
theorem any_mem {l : List Int} {n : Int} (h : (l.any fun x => x == n) = true) : n ∈ l := by
  obtain ⟨x, hx, e⟩ := List.any_eq_true.mp h
  rw [← eq_of_beq e]; exact hx
theorem any_not {l : List Int} {n : Int} (h : (l.any fun x => x == n) = false) : n ∉ l := fun hm => by
  have : (l.any fun x => x == n) = true := List.any_eq_true.mpr ⟨n, hm, by simp⟩
  rw [h] at this; cases this
theorem way_next {k a c x0 : Int} {seen : List Int} {number : Int} (hk : 3 ≤ k ∧ k ≤ 6) (h0 : InW k x0) (h : WayI k a c x0 seen number) (ha : (seen.any fun x => x == number) = false) :
    WayI k a c x0 (seen ++ [number]) (stepZ k a c number) :=
  have h2 := h.1.next (any_not ha)
  ⟨h2, h2.len hk h0⟩
theorem way_meas {k a c x0 : Int} {seen : List Int} {number : Int} (hk : 3 ≤ k ∧ k ≤ 6) (h0 : InW k x0) (h : WayI k a c x0 seen number) (ha : (seen.any fun x => x == number) = false) :
    64 - (seen ++ [number]).length < 64 - seen.length := by
  have h2 := h.1.lt hk h0 (any_not ha)
  rw [List.length_append, List.length_singleton]
  omega
theorem lay_small : ∀ (ns : List Int), (∀ x ∈ ns, -64 ≤ x ∧ x ≤ 64) → PyData.canLayAll0 (ns.map .int) = true ∧ PyData.depthAll (ns.map .int) = 0 ∧ PyData.weightAll (ns.map .int) ≤ 9 * ns.length
  | [], _ => ⟨rfl, rfl, Nat.le_refl _⟩
  | x :: r, h => by
    obtain ⟨h1, h2, h3⟩ := lay_small r fun y hy => h y (List.mem_cons_of_mem _ hy)
    have hx := h x (List.mem_cons_self ..)
    have hw : PyData.weight (.int x) ≤ 8 := by
      simp only [PyData.weight]
      split
      · exact Nat.zero_le _
      · rename_i hne
        have hp : x.natAbs ≠ 0 := fun e => hne (by simpa using e)
        have : x.natAbs.log2 < 7 := (Nat.log2_lt hp).mpr (by omega)
        omega
    refine ⟨?_, ?_, ?_⟩
    · simp only [List.map_cons, PyData.canLayAll0, PyData.canLay0, h1, Bool.and_self]
    · simp only [List.map_cons, PyData.depthAll, PyData.depth, h2, Nat.max_self]
    · simp only [List.map_cons, PyData.weightAll, List.length_cons]; omega
theorem lay_ok {ns : List Int} (h : ∀ x ∈ ns, -64 ≤ x ∧ x ≤ 64) (hl : ns.length ≤ 64) : PyData.layable0 (.list (ns.map .int)) = true := by
  obtain ⟨h1, h2, h3⟩ := lay_small ns h
  simp only [PyData.layable0, PyData.canLay0, PyData.depth, PyData.weight, h1, h2, Bool.true_and, Bool.and_eq_true, decide_eq_true_eq]
  exact ⟨by decide, decide_eq_true (Nat.le_trans h3 (Nat.le_trans (Nat.mul_le_mul_left 9 hl) (show 9 * 64 ≤ 2 ^ 20 by decide)))⟩
theorem way_lay {k a c x0 : Int} {seen : List Int} {number : Int} (hk : 3 ≤ k ∧ k ≤ 6) (h0 : InW k x0) (h : WayI k a c x0 seen number) : PyData.layable0 (.list (seen.map .int)) = true :=
  lay_ok (fun x hx => inW_small hk (h.1.all_in hk h0 x hx)) h.2
section
variable {prog : Program} {w : World} {A : Around} {E : Value → Shared → Prop} {Q : Flow → Shared → Prop} {s : Shared} {env : Env} {h₀ : Heap} {L l : Addr} {k a c x0 : Int} {rest : List (Addr × Obj)} {m₀ : PySem.Str → Option Value}
/-- what holds between two turns of the way's loop -/
def WayJ (k a c x0 : Int) (l : Addr) (rest : List (Addr × Obj)) (m₀ : PySem.Str → Option Value) (n : Nat) (m₁ : PySem.Str → Option Value) (news₁ : List (Addr × Obj)) : Prop :=
  ∃ vs seen cnt x t, news₁ = (l, listOf (List.toArray vs) cnt) :: rest ∧ n = 64 - seen.length ∧ IntsAre vs seen ∧ WayI k a c x0 seen x ∧ m₁ = fun z => if z = Str.ofString "number" then some (.int x t) else m₀ z
def WayE (k a c x0 : Int) (l : Addr) (rest : List (Addr × Obj)) (m₀ : PySem.Str → Option Value) (h₀ : Heap) (L : Addr) (s : Shared) (Q : Flow → Shared → Prop) (n : Nat) (f : Flow) (s₃ : Shared) : Prop :=
  WhileStep2 h₀ L s (WayJ k a c x0 l rest m₀) Q n f s₃
theorem way_while {test : PySem.Expr} {body : List PySem.Stmt} {pos : Pos} {t0 : Tok} {n0 : Nat} (k a c x0 : Int)
    (F : Fr h₀ L s.heap m₀) (N : News h₀ L s.heap ((l, listOf #[] n0) :: rest)) (hnum : m₀ (Str.ofString "number") = some (.int x0 t0))
    (turn : ∀ (vs : List Value) (seen : List Int) (cnt : Nat) (x : Int) (t : Tok) (h : Heap) (tk : Nat), IntsAre vs seen → WayI k a c x0 seen x →
      Fr h₀ L h (fun z => if z = Str.ofString "number" then some (.int x t) else m₀ z) → News h₀ L h ((l, listOf vs.toArray cnt) :: rest) →
      wpAny (model prog w) A (isTrue test env (eval test env)) (fun b s₂ =>
        if b = true then wpAny (model prog w) A (execs body env) (WayE k a c x0 l rest m₀ h₀ L s Q (64 - seen.length)) (fun _ _ => False) s₂ else Q .next s₂) (fun _ _ => False) { s with heap := h, toks := tk }) :
    wpAny (model prog w) A (exec (.While test body [] pos) env) Q E s := by
  refine wpAny_mono (E := fun _ _ => False) (While_inv2 (n₀ := 64) (WayJ k a c x0 l rest m₀) F N ⟨[], [], n0, x0, t0, rfl, rfl, .nil, way_start, ?_⟩ ?_ PassesOwn.never) (fun _ _ h => h) (fun _ _ h => h.elim)
  · funext z
    by_cases hz : z = Str.ofString "number"
    · rw [if_pos hz, hz, hnum]
    · rw [if_neg hz]
  · rintro n m₁ news₁ h₁ tk₁ F₁ N₁ ⟨vs, seen, cnt, x, t, rfl, rfl, hi, hI, rfl⟩
    exact turn vs seen cnt x t h₁ tk₁ hi hI F₁ N₁
theorem way_end {vs : List Value} {seen : List Int} {cnt : Nat} {x : Int} {t t' : Tok} {u : Tok} {h' : Heap} {tk' : Nat} {m' : PySem.Str → Option Value} (hk : 3 ≤ k ∧ k ≤ 6) (h0 : InW k x0) (hi : IntsAre vs seen) (hI : WayI k a c x0 seen x)
    (ha : (seen.any fun y => y == x) = false) (F : Fr h₀ L h' m') (N : News h₀ L h' ((l, listOf (vs.toArray.push (.int x u)) (cnt + 1)) :: rest))
    (hm : ∀ z, m' z = if z = Str.ofString "number" then some (.int (stepZ k a c x) t') else if z = Str.ofString "number" then some (.int x t) else m₀ z) :
    WayE k a c x0 l rest m₀ h₀ L s Q (64 - seen.length) .next { s with heap := h', toks := tk' } := by
  refine ⟨h', tk', m', _, 64 - (seen ++ [x]).length, rfl, F, N, way_meas hk h0 hI ha, vs ++ [.int x u], seen ++ [x], cnt + 1, stepZ k a c x, t', ?_, rfl, hi.append (.cons x u .nil), way_next hk h0 hI ha, ?_⟩
  · rw [List.push_toArray]
  · funext z
    rw [hm z]
    by_cases hz : z = Str.ofString "number"
    · rw [if_pos hz, if_pos hz]
    · rw [if_neg hz, if_neg hz, if_neg hz]
end
theorem way_ints {k a c x0 : Int} {vs : List Value} {seen : List Int} {number : Int} (hi : IntsAre vs seen) (h : WayI k a c x0 seen number) : IntsAre vs (orbL k a c x0 seen.length) := by
  rw [← h.inv.seenIs]; exact hi
abbrev RetW (news : List (Addr × Obj)) (k a c x0 : Int) (h₀ : Heap) (L : Addr) (m : PySem.Str → Option Value) (s : Shared) (Q : Value → Shared → Prop) : Prop :=
  ∀ (n j : Nat) (D S : Addr) (vs : List Value) (tj : Tok) (c1 c2 : Nat) (h' : Heap) (tk' : Nat), Way k a c x0 n j → IntsAre vs (orbL k a c x0 n) → Fr h₀ L h' m →
    News h₀ L h' ((D, ({ cls := .type "tuple", data := .seq #[.ref S, .int (j : Int) tj] c1 } : Obj)) :: (S, listOf vs.toArray c2) :: news) → AllLt D ((S, listOf vs.toArray c2) :: news) → AllLt S news → Q (.ref D) { s with heap := h', toks := tk' }
set_option maxRecDepth 100000 in
set_option maxHeartbeats 8000000 in
theorem way_c (w : World) (mean : ExcName → Option Value) (mg mb : PySem.Str → Option Value) (x0 a c k : Int) (tx ta tc tk : Tok) (ra lx dx : Addr) (cn : Nat) (oD : Obj) (hD : LimDict k tk oD) (news : List (Addr × Obj)) :
    Claim 330 200 w mean mg mb 232 ((ra, tupO a ta c tc cn) :: (lx, instObj 53 dx) :: (dx, oD) :: news) ((3 ≤ k ∧ k ≤ 6) ∧ InR a ∧ InR c ∧ InW k x0) [.int x0 tx, .ref ra, .ref lx]
      (RetW ((ra, tupO a ta c tc cn) :: (lx, instObj 53 dx) :: (dx, oD) :: news) k a c x0) := by
  dsimp only [Claim, RetW]
  k_fill
  intros; rename_i hret
  rename (_ ∧ InR _ ∧ InR _ ∧ InW _ _) => hpre
  obtain ⟨hk, ha, hc, hx0⟩ := hpre
  refine wpAny_call ?_
  k_dflt cell_enter
  repeat' (first | ((fail_if_success (k_here; (with_reducible show wpAny _ _ (exec (PySem.Stmt.While _ _ _ _) _) _ _ _))); (first | (k_unfold; (try dsimp only)) | (k_end; wrow_close) | walk1 | (dsimp only; walk1) | (leave1; (try dsimp only)))))
  refine way_while k a c x0 (by assumption) (by assumption) (by rfl) ?_
  intro vs seen cnt x t h tk9 hi hI F9 N9
  try k_fold
  repeat' (first
    | (k_here; (with_reducible show wpAny _ _ (call (Value.builtin "list.append") [Value.ref _, Value.int _ _]) _ _ _); (refine' append_K (by k_asm) (by k_asm) (by k_upd) ?_ (way_size (by assumption) (by assumption))); k_whole; intro h' F' N'; (try k_sweep))
    | (k_here; (with_reducible show wpAny _ _ (call (Value.builtin "list.index") [Value.ref _, Value.int _ _]) _ _ _); (refine' index_list_ints (by assumption) (by assumption) (way_lay (by assumption) (by assumption) (by assumption)) (any_mem (by assumption)) ?_); (try dsimp only); (try k_fold))
    | (k_here; (with_reducible show wpAny _ _ (call (Value.ref 218) [Value.int _ _, Value.ref _, Value.ref _]) _ _ _); k_dflt (refine' gone_u _ _ _ _ (by k_asm) (by k_asm) (by k_asm) (by k_asm) (by k_asm) (by first | exact rfl | assumption) (by k_memK) (by k_memK) (by k_memK) hD ⟨hk, ha, hc, way_inR hk hx0 hI⟩ (by exact Nat.le_of_ble_eq_true rfl) (by exact Nat.le_of_ble_eq_true rfl) ?_); (dsimp only [RetI]; intro t9 h9 tk9 F9 N9; (try dsimp only); (try k_fold)))
    | (k_unfold; (try dsimp only)) | (k_end; wrow_close) | walk1 | (dsimp only; walk1) | (leave1; (try dsimp only)))
  · exact hret _ _ _ _ _ _ _ _ _ _ (hI.inv.done hk hx0 (any_mem (by assumption))) (way_ints hi hI) (by assumption) (by assumption) (by assumption) (by assumption)
  · exact way_end hk hx0 hi hI (by assumption) (by assumption) (by assumption) (by intro z; rfl)
local macro_rules | `(tactic| k_room) => `(tactic| exact Nat.le_of_ble_eq_true rfl)
abbrev RetL (news : List (Addr × Obj)) (k : Int) (tk : Tok) (h₀ : Heap) (L : Addr) (m : PySem.Str → Option Value) (s : Shared) (Q : Value → Shared → Prop) : Prop :=
  ∀ (x dx : Addr) (h0 h1 h2 h3 h4 h5 h6 h7 h8 h9 : Int) (k0 k1 k2 k3 k4 k5 k6 k7 k8 k9 : Tok) (v1 v2 v3 v4 v5 v6 v7 v8 v9 : Value) (h' : Heap) (tk' : Nat), Fr h₀ L h' m → News h₀ L h' ((x, instObj 53 dx) :: (dx, dictOf [⟨h0, .str (Str.ofString "width") k0, .int k tk⟩, ⟨h1, .str (Str.ofString "registers") k1, v1⟩, ⟨h2, .str (Str.ofString "upvalues") k2, v2⟩, ⟨h3, .str (Str.ofString "local_names") k3, v3⟩, ⟨h4, .str (Str.ofString "ccalls") k4, v4⟩, ⟨h5, .str (Str.ofString "frames") k5, v5⟩, ⟨h6, .str (Str.ofString "stack") k6, v6⟩, ⟨h7, .str (Str.ofString "flush") k7, v7⟩, ⟨h8, .str (Str.ofString "steps") k8, v8⟩, ⟨h9, .str (Str.ofString "text") k9, v9⟩] 10) :: news) → AllLt dx news → dx < x → Q (.ref x) { s with heap := h', toks := tk' }
set_option maxRecDepth 100000 in
set_option maxHeartbeats 8000000 in
theorem lim_c (w : World) (mean : ExcName → Option Value) (mg mb : PySem.Str → Option Value) (k : Int) (tk : Tok) (news : List (Addr × Obj))
    (gd : Option (List Code)) (cn : PySem.Str) (cs : Scope) (a : Addr) (ccd : Value) (cl : List (PySem.Str × Addr)) (outer : List Env) (A₀ : Around) (base h₀ : Heap) (L : Addr) (m : PySem.Str → Option Value) (s : Shared) (Q E : Value → Shared → Prop)
    (B : Below A₀ base outer h₀) (F : Fr h₀ L s.heap m) (X : (hd.heap_39 w.params).In h₀) (N : News h₀ L s.heap news)
    (T : Top hd.view_39 (looseW hd.view_39 [Str.ofString "RECKONINGS", Str.ofString "FOLDED"]) mean mg mb h₀) (hk : cs.kind = .function)
    (hret : RetL news k tk h₀ L m s Q) :
    wpAny (model PySem.Challenge.rw_xm0620_01.row.prog w) (ktrTop 330 200 gd cn cs L a ccd cl outer) (call (.ref 53) [] [(Str.ofString "width", .int k tk)]) Q E s := by
  revert X; k_fill; intro X
  dsimp only [RetL] at hret
  k_dflt (refine' call_cls ?k1 ?k2 ?k3 ?k4 ?k5 ?k6 ?_)
  (case k1 => k_asm)
  (case k2 => k_asm)
  (case k3 => k_asm)
  (case k4 => k_is)
  (case k5 => k_is)
  (case k6 => k_is)
  intro x' d' h' F' N' l1 l2
  (try k_lt l1); (try k_lt2 l2)
  k_dflt (refine' code_def ?k1 ?k2 ?k3 ?k4 ?k5 ?kA ?kF ?kK ?k6 ?k7 ?k8 ?k9 ?kB ?_ ?c2 ?c3 ?c4 ?c5)
  (case kA => exact rfl)
  (case kF => exact rfl)
  (case kK => assumption)
  (case k1 => k_asm)
  (case k2 => k_asm)
  (case k3 => k_asm)
  (case k4 => k_asm)
  (case k5 => k_asm)
  (case k6 => k_is)
  (case k7 => k_is)
  (case k8 => exact Nat.le_of_ble_eq_true rfl)
  (case k9 => first | exact BindsTo.of_eq rfl | exact binds_K (by k_in) rfl (by k_is) rfl rfl rfl)
  (case c5 => decide)
  (case kB => exact locs rfl)
  (case c2 => exact rfl)
  (case c3 => exact rfl)
  (case c4 => exact rfl)
  intro g' L' h' FG' F' N' B' X' T'
  (try dsimp only)
  (try k_lift B')
  (try k_fold)
  rename Fr _ _ _ _ => FX
  have FY : Fr _ _ _ (fun y => List.lookup y [(Str.ofString "text", Value.int 1000000 219), (Str.ofString "steps", Value.int 1000000000 218), (Str.ofString "flush", Value.int 50 217), (Str.ofString "stack", Value.int 2000 216), (Str.ofString "frames", Value.int 200 215), (Str.ofString "ccalls", Value.int 40 214), (Str.ofString "local_names", Value.int 200 213), (Str.ofString "upvalues", Value.int 60 212), (Str.ofString "registers", Value.int 250 211), (Str.ofString "width", Value.int k tk), (Str.ofString "self", Value.ref x')]) := fr_map FX (by kernel_rfl)
  clear FX
  k_steps
  exact hret _ _ _ _ _ _ _ _ _ _ _ _ _ _ _ _ _ _ _ _ _ _ _ _ _ _ _ _ _ _ _ _ _ (by assumption) (by assumption) (allLt_of l1) l2
theorem got_size {its : Array Value} {turn : Nat} (h1 : its.size = turn) (h2 : turn ≤ 5) : its.size ≤ PySem.sizeLine := by
  rw [PySem.sizeLine_eq]; omega
set_option maxRecDepth 100000 in
set_option maxHeartbeats 8000000 in
theorem got_c (w : World) (mean : ExcName → Option Value) (mg mb : PySem.Str → Option Value) (K : Int) (tK : Tok) (S D0 D1 : Addr) (ws : List Value) (ns : List Int) (its : Array Value) (turn : Nat) (c0 c1 c2 : Nat) (news : List (Addr × Obj))
    (gd : Option (List Code)) (cn : PySem.Str) (cs : Scope) (a : Addr) (ccd : Value) (cl : List (PySem.Str × Addr)) (outer : List Env) (A₀ : Around) (base h₀ : Heap) (L : Addr) (m : PySem.Str → Option Value) (s : Shared) (Q E : Value → Shared → Prop)
    (B : Below A₀ base outer h₀) (F : Fr h₀ L s.heap m) (X : (hd.heap_39 w.params).In h₀) (N : News h₀ L s.heap ((S, listOf #[.ref D0, .ref D1] c0) :: (D0, listOf ws.toArray c1) :: (D1, listOf its c2) :: news))
    (T : Top hd.view_39 (looseW hd.view_39 [Str.ofString "RECKONINGS", Str.ofString "FOLDED"]) mean mg mb h₀) (hk : cs.kind = .function)
    (hi : IntsAre ws ns) (hn : ns.length ≤ 5) (hs : its.size = turn) (ht : turn ≤ 5) (hK : 0 < K ∧ K ≤ 64) (d1 : S ≠ D1) (d2 : D0 ≠ D1) (d3 : ∀ p ∈ news, p.1 ≠ D1)
    (hret : ∀ (i : Int) (t tt : Tok) (h' : Heap) (tk' : Nat), (0 ≤ i ∧ i < K) → Fr h₀ L h' m → News h₀ L h' ((S, listOf #[.ref D0, .ref D1] c0) :: (D0, listOf ws.toArray c1) :: (D1, listOf (its.push (.int (turn : Int) tt)) (c2 + 1)) :: news) → Q (.int i t) { s with heap := h', toks := tk' }) :
    wpAny (model PySem.Challenge.rw_xm0620_01.row.prog w) (ktrTop 330 200 gd cn cs L a ccd cl outer) (call (.ref 211) [.ref S, .int K tK]) Q E s := by
  revert X; k_fill; intro X
  refine wpAny_call ?_
  k_dflt cell_enter
  rename Fr _ _ _ _ => FX
  have FY : Fr _ _ _ (fun y => List.lookup y [(Str.ofString "many", Value.int K tK), (Str.ofString "sack", Value.ref S)]) := fr_map FX (by kernel_rfl)
  clear FX
  repeat' (first
    | (k_here; (with_reducible show wpAny _ _ (call (Value.builtin "list.append") [Value.ref _, Value.int _ _]) _ _ _); (refine' append_K (by k_asm) (by k_asm) (.tail (by assumption) (.tail (by assumption) (.head (by assumption)))) ?_ (got_size (by assumption) (by assumption))); k_whole; intro h' F' N'; (try k_sweep))
    | (k_unfold; (try dsimp only)) | (k_end; wrow_close) | walk1 | (dsimp only; walk1) | (leave1; (try dsimp only)))
  all_goals (exact hret _ _ _ _ _ ⟨Int.fmod_nonneg_of_pos _ hK.1, Int.fmod_lt_of_pos _ hK.1⟩ (by assumption) (by assumption))
theorem got_u (w : World) (mean : ExcName → Option Value) (mg mb : PySem.Str → Option Value) {dp un : Nat} {K : Int} {tK : Tok} {S D0 D1 : Addr} {ws : List Value} {ns : List Int} {its : Array Value} (turn : Nat) {c0 c1 c2 : Nat} {news news1 : List (Addr × Obj)} {o1 : Obj}
    {gd : Option (List Code)} {cn : PySem.Str} {cs : Scope} {a : Addr} {ccd : Value} {cl : List (PySem.Str × Addr)} {outer : List Env} {A₀ : Around} {base h₀ : Heap} {L : Addr} {m : PySem.Str → Option Value} {s : Shared} {Q E : Value → Shared → Prop}
    (B : Below A₀ base outer h₀) (F : Fr h₀ L s.heap m) (X : (hd.heap_39 w.params).In h₀) (N : News h₀ L s.heap news)
    (T : Top hd.view_39 (looseW hd.view_39 [Str.ofString "RECKONINGS", Str.ofString "FOLDED"]) mean mg mb h₀) (hk : cs.kind = .function)
    (m1 : (S, listOf #[.ref D0, .ref D1] c0) ∈ news) (m2 : (D0, listOf ws.toArray c1) ∈ news) (U : Upd D1 (listOf its c2) o1 news news1) 
    (hi : IntsAre ws ns) (hn : ns.length ≤ 5) (hs : its.size = turn) (ht : turn ≤ 5) (hK : 0 < K ∧ K ≤ 64) (d1 : S ≠ D1) (d2 : D0 ≠ D1)
    (hdp : dp ≤ 330) (hun : un ≤ 200)
    (hret : ∀ (i : Int) (t tt : Tok) (h' : Heap) (tk' : Nat), (0 ≤ i ∧ i < K) → Fr h₀ L h' m → (∀ news', Upd D1 (listOf its c2) (listOf (its.push (.int (turn : Int) tt)) (c2 + 1)) news news' → News h₀ L h' news') → Q (.int i t) { s with heap := h', toks := tk' }) :
    wpAny (model PySem.Challenge.rw_xm0620_01.row.prog w) (ktrTop dp un gd cn cs L a ccd cl outer) (call (.ref 211) [.ref S, .int K tK]) Q E s := by
  obtain ⟨pre, post, e1, e2, h1, h2⟩ := U.split
  have hall : ∀ p ∈ pre ++ post, p.1 ≠ D1 := fun p hp => (List.mem_append.mp hp).elim (h1 p) (h2 p)
  have hmem : ∀ p ∈ pre ++ post, p ∈ news := fun p hp => by
    rw [e1]
    rcases List.mem_append.mp hp with hp | hp
    · exact List.mem_append_left _ hp
    · exact List.mem_append_right _ (List.mem_cons_of_mem _ hp)
  refine wpAny_more (D := 330) (U := 200) hdp hun (got_c w mean mg mb K tK S D0 D1 ws ns its turn c0 c1 c2 (pre ++ post) gd cn cs a ccd cl outer A₀ base h₀ L m s Q E B F X ?_ T hk hi hn hs ht hK d1 d2 hall ?_)
  · intro p hp
    rcases List.mem_cons.mp hp with rfl | hp
    · exact N _ m1
    · rcases List.mem_cons.mp hp with rfl | hp
      · exact N _ m2
      · rcases List.mem_cons.mp hp with rfl | hp
        · exact N _ (by rw [e1]; exact List.mem_append_right _ (List.mem_cons_self ..))
        · exact N _ (hmem p hp)
  · intro i t tt h' tk' hb F' N'
    refine hret i t tt h' tk' hb F' fun news' U' p hp => ?_
    obtain ⟨pre', post', e1', e2', h1', h2'⟩ := U'.split
    rw [e2'] at hp
    have back : p ∈ pre' ++ post' → p ∈ pre ++ post := fun hq => by
      have hne : p.1 ≠ D1 := (List.mem_append.mp hq).elim (h1' p) (h2' p)
      have hin : p ∈ news := by
        rw [e1']
        rcases List.mem_append.mp hq with hq | hq
        · exact List.mem_append_left _ hq
        · exact List.mem_append_right _ (List.mem_cons_of_mem _ hq)
      rw [e1] at hin
      rcases List.mem_append.mp hin with hin | hin
      · exact List.mem_append_left _ hin
      · rcases List.mem_cons.mp hin with rfl | hin
        · exact absurd rfl hne
        · exact List.mem_append_right _ hin
    rcases List.mem_append.mp hp with hp | hp
    · exact N' p (List.mem_cons_of_mem _ (List.mem_cons_of_mem _ (List.mem_cons_of_mem _ (back (List.mem_append_left _ hp)))))
    · rcases List.mem_cons.mp hp with rfl | hp
      · exact N' _ (List.mem_cons_of_mem _ (List.mem_cons_of_mem _ (List.mem_cons_self ..)))
      · exact N' p (List.mem_cons_of_mem _ (List.mem_cons_of_mem _ (List.mem_cons_of_mem _ (back (List.mem_append_right _ hp)))))
abbrev RetM (news : List (Addr × Obj)) (k : Int) (tk : Tok) (h₀ : Heap) (L : Addr) (m : PySem.Str → Option Value) (s : Shared) (Q : Value → Shared → Prop) : Prop :=
  ∀ (x dx : Addr) (oD : Obj) (h' : Heap) (tk' : Nat), LimDict k tk oD → Fr h₀ L h' m → News h₀ L h' ((x, instObj 53 dx) :: (dx, oD) :: news) → AllLt dx news → dx < x → Q (.ref x) { s with heap := h', toks := tk' }
theorem lim_u (w : World) (mean : ExcName → Option Value) (mg mb : PySem.Str → Option Value) {dp un : Nat} {k : Int} {tk : Tok} {news : List (Addr × Obj)}
    {gd : Option (List Code)} {cn : PySem.Str} {cs : Scope} {a : Addr} {ccd : Value} {cl : List (PySem.Str × Addr)} {outer : List Env} {A₀ : Around} {base h₀ : Heap} {L : Addr} {m : PySem.Str → Option Value} {s : Shared} {Q E : Value → Shared → Prop}
    (B : Below A₀ base outer h₀) (F : Fr h₀ L s.heap m) (X : (hd.heap_39 w.params).In h₀) (N : News h₀ L s.heap news)
    (T : Top hd.view_39 (looseW hd.view_39 [Str.ofString "RECKONINGS", Str.ofString "FOLDED"]) mean mg mb h₀) (hk : cs.kind = .function) (hdp : dp ≤ 330) (hun : un ≤ 200)
    (hret : RetM news k tk h₀ L m s Q) :
    wpAny (model PySem.Challenge.rw_xm0620_01.row.prog w) (ktrTop dp un gd cn cs L a ccd cl outer) (call (.ref 53) [] [(Str.ofString "width", .int k tk)]) Q E s :=
  wpAny_more (D := 330) (U := 200) hdp hun (lim_c w mean mg mb k tk news gd cn cs a ccd cl outer A₀ base h₀ L m s Q E B F X N T hk fun x dx h0 h1 h2 h3 h4 h5 h6 h7 h8 h9 k0 k1 k2 k3 k4 k5 k6 k7 k8 k9 v1 v2 v3 v4 v5 v6 v7 v8 v9 h' tk' F' N' l1 l2 => hret x dx _ h' tk' (.mk h0 h1 h2 h3 h4 h5 h6 h7 h8 h9 k0 k1 k2 k3 k4 k5 k6 k7 k8 k9 v1 v2 v3 v4 v5 v6 v7 v8 v9) F' N' l1 l2)
theorem way_u (w : World) (mean : ExcName → Option Value) (mg mb : PySem.Str → Option Value) {dp un : Nat} {news : List (Addr × Obj)} {x0 a c k : Int} {tx ta tc tk : Tok} {ra lx dx : Addr} {cnt : Nat} {oD : Obj}
    {gd : Option (List Code)} {cn : PySem.Str} {cs : Scope} {ad : Addr} {ccd : Value} {cl : List (PySem.Str × Addr)} {outer : List Env} {A₀ : Around} {base h₀ : Heap} {L : Addr} {m : PySem.Str → Option Value} {s : Shared} {Q E : Value → Shared → Prop}
    (B : Below A₀ base outer h₀) (F : Fr h₀ L s.heap m) (X : (hd.heap_39 w.params).In h₀) (N : News h₀ L s.heap news)
    (T : Top hd.view_39 (looseW hd.view_39 [Str.ofString "RECKONINGS", Str.ofString "FOLDED"]) mean mg mb h₀) (hk : cs.kind = .function)
    (m1 : (ra, tupO a ta c tc cnt) ∈ news) (m2 : (lx, instObj 53 dx) ∈ news) (m3 : (dx, oD) ∈ news) (hD : LimDict k tk oD)
    (hp : (3 ≤ k ∧ k ≤ 6) ∧ InR a ∧ InR c ∧ InW k x0) (hdp : dp ≤ 330) (hun : un ≤ 200)
    (hr : ∀ (n j : Nat) (D S : Addr) (vs : List Value) (tj : Tok) (c1 c2 : Nat) (h' : Heap) (tk' : Nat), Way k a c x0 n j → IntsAre vs (orbL k a c x0 n) → Fr h₀ L h' m →
      News h₀ L h' ((D, ({ cls := .type "tuple", data := .seq #[.ref S, .int (j : Int) tj] c1 } : Obj)) :: (S, listOf vs.toArray c2) :: news) → S < D → AllLt D news → AllLt S news → Q (.ref D) { s with heap := h', toks := tk' }) :
    wpAny (model PySem.Challenge.rw_xm0620_01.row.prog w) (ktrTop dp un gd cn cs L ad ccd cl outer) (call (.ref 232) [.int x0 tx, .ref ra, .ref lx]) Q E s := by
  refine Claim.use (way_c w mean mg mb x0 a c k tx ta tc tk ra lx dx cnt oD hD news) B F X ?_ T hk hp hdp hun ?_
  · intro p hp'
    rcases List.mem_cons.mp hp' with rfl | hp'
    · exact N _ m1
    · rcases List.mem_cons.mp hp' with rfl | hp'
      · exact N _ m2
      · rcases List.mem_cons.mp hp' with rfl | hp'
        · exact N _ m3
        · exact N _ hp'
  · intro n j D S vs tj c1 c2 h' tk' hw hi F' N' l1 l2
    refine hr n j D S vs tj c1 c2 h' tk' hw hi F' (cb_drop N' fun p hp => ?_) l1.1 l1.2.2.2.2 l2.2.2.2
    rcases List.mem_cons.mp hp with rfl | hp
    · exact List.Mem.head _
    · rcases List.mem_cons.mp hp with rfl | hp
      · exact List.Mem.tail _ (List.Mem.head _)
      · exact List.Mem.tail _ (List.Mem.tail _ (List.Mem.tail _ (List.Mem.tail _ (List.Mem.tail _ hp))))
theorem P2_bound {i : Int} (h : 0 ≤ i ∧ i ≤ 6) : 1 ≤ P2 i ∧ P2 i ≤ 64 := by
  have e : P2 i = ((2 ^ i.toNat : Nat) : Int) := by unfold P2; norm_cast
  have h1 := Nat.two_pow_pos i.toNat
  have h2 := Nat.pow_le_pow_right (n := 2) (by decide) (show i.toNat ≤ 6 by omega)
  rw [e]
  omega
theorem shl_rule {prog : Program} {w : World} {A : Around} {E : Value → Shared → Prop} {s : Shared} {i : Int} {t u : Tok} {Q : Value → Shared → Prop} (h : 0 ≤ i ∧ i ≤ 6)
    (hq : ∀ M, M = P2 i → (1 ≤ M ∧ M ≤ 64) → Q (.int M s.toks) { s with toks := s.toks + 1 }) : wpAny (model prog w) A (binaryOp .LShift (.int 1 t) (.int i u)) Q E s := by
  refine lshift_int h.1 (by have : (Builtin.Int.intBits 1 : Int) = 1 := by decide
                            omega) ?_
  have e : (1 * 2 ^ i.toNat : Int) = P2 i := by rw [Int.one_mul]; rfl
  rw [e]
  exact hq _ rfl (P2_bound h)
/-- the law's def, its statements, its names -/
def lawDef : Option PySem.Stmt := PySem.Challenge.pw_xm0620_01.main.body.getLast?
def noExpr : PySem.Expr := PySem.Expr.Tuple [] 0 ⟨0, 0, 0, 0⟩
def defParts : Option PySem.Stmt → List PySem.Stmt × Scope
  | some (.FunctionDef _ _ body _ _ _ scope _ _ _) => (body, scope)
  | _ => ([], PySem.Challenge.pw_xm0620_01.main.scope)
def lawBody : List PySem.Stmt := (defParts lawDef).1
def lawScope : Scope := (defParts lawDef).2
def stTest : PySem.Stmt → PySem.Expr
  | .If t _ _ _ => t
  | _ => noExpr
def stVal : PySem.Stmt → PySem.Expr
  | .Assign _ e _ => e
  | _ => noExpr
def stFor : PySem.Stmt → List PySem.Stmt
  | .For _ _ b _ _ => b
  | _ => []
def cmpL : PySem.Expr → PySem.Expr
  | .Compare l _ _ _ => l
  | _ => noExpr
def boolR : PySem.Expr → PySem.Expr
  | .BoolOp _ es _ => es.getLastD noExpr
  | _ => noExpr
/-- a comprehension's element, names, first test -/
def compE : PySem.Expr → PySem.Expr × Scope × PySem.Expr
  | .ListComp elt gens sc _ => (elt, sc, (gens.map (·.ifs)).flatten.headD noExpr)
  | _ => (noExpr, lawScope, noExpr)
def nth (l : List PySem.Stmt) (i : Nat) : PySem.Stmt := l.getD i (.Return none ⟨0, 0, 0, 0⟩)
abbrev lawEnv (L fa : Addr) (cd : Value) : Env := envOfC (Str.ofString "law") lawScope L fa cd
theorem map_same {m : PySem.Str → Option Value} {x : PySem.Str} {v : Value} (h : m x = some v) : m = fun y => if y = x then some v else m y := by
  funext y
  by_cases e : y = x
  · rw [if_pos e, e, h]
  · rw [if_neg e]
/-- the first comprehension's element and names -/
def lawElt : PySem.Expr := (compE (stVal (nth lawBody 3))).1
def lawEltScope : Scope := (compE (stVal (nth lawBody 3))).2.1
/-- what an element hands on: the number drawn, less half the numbers; the list of draws is one longer -/
def EltJ (led : Array Value → Nat → List (Addr × Obj)) (h₀ : Heap) (L : Addr) (m : PySem.Str → Option Value) (M : Int) (its : Array Value) (turn c1 : Nat) (s : Shared) (y : Value) (s' : Shared) : Prop :=
  ∃ (x : Int) (t tt : Tok) (h' : Heap) (tk' : Nat), y = .int (x - M.fdiv 2) t ∧ (0 ≤ x ∧ x < M) ∧ s' = { s with heap := h', toks := tk' } ∧ Fr h₀ L h' m ∧ News h₀ L h' (led (its.push (.int (turn : Int) tt)) (c1 + 1))
set_option maxRecDepth 100000 in
set_option maxHeartbeats 8000000 in
theorem elt_c (w : World) (mean : ExcName → Option Value) (mg mb : PySem.Str → Option Value) (h₀ : Heap) (L fa : Addr) (cd : Value) (Bw : Below callerA h₀ [] h₀) (X : (hd.heap_39 w.params).In h₀)
    (T : Top hd.view_39 (looseW hd.view_39 [Str.ofString "RECKONINGS", Str.ofString "FOLDED"]) mean mg mb h₀) (m : PySem.Str → Option Value)
    (k M : Int) (tk tM : Tok) (hMb : 1 ≤ M ∧ M ≤ 64) (S D0 D1 x9 dx9 : Addr) (ws : List Value) (ns : List Int) (c0 c1 c2 : Nat) (its : Array Value) (turn : Nat) (oD : Obj) (hD : LimDict k tk oD) (o1 o2 o3 o4 o5 : Obj)
    (hi : IntsAre ws ns) (hn : ns.length ≤ 5) (hs : its.size = turn) (ht : turn ≤ 5) (d1 : o1.data = .cell (some (.ref S))) (d2 : o2.data = .cell (some (.int M tM)))
    (l0 : @LT.lt Nat _ (L + 1 + 1 + 1 + 1 + 1) D0) (l1 : @LT.lt Nat _ D0 D1) (l2 : @LT.lt Nat _ D1 S) (l3 : @LT.lt Nat _ S dx9) (l4 : @LT.lt Nat _ dx9 x9) (I C D : Addr) (oI oC : Obj) (ys : List Value) (n1 : @Ne Nat D1 I) (n2 : @Ne Nat D1 C) (n3 : @Ne Nat D1 D)
    (h : Heap) (tk₀ : Nat) (s : Shared) (F : Fr h₀ L h m) (N : News h₀ L h ((I, oI) :: (C, oC) :: (D, LCg.lst ys) :: [(S, listOf #[.ref D0, .ref D1] c0), (D1, listOf its c1), (D0, listOf ws.toArray c2), (x9, instObj 53 dx9), (dx9, oD), (L + 1 + 1 + 1 + 1 + 1, o5), (L + 1 + 1 + 1 + 1, o4), (L + 1 + 1 + 1, o3), (L + 1 + 1, o2), (L + 1, o1)])) :
    wpAny (model PySem.Challenge.rw_xm0620_01.row.prog w) (callerA.deeper (lawEnv L fa cd)) (eval lawElt (compEnvC lawEltScope [(Str.ofString "sack", L + 1), (Str.ofString "most", L + 1 + 1)] C (lawEnv L fa cd)))
      (EltJ (fun its' c' => (I, oI) :: (C, oC) :: (D, LCg.lst ys) :: [(S, listOf #[.ref D0, .ref D1] c0), (D1, listOf its' c'), (D0, listOf ws.toArray c2), (x9, instObj 53 dx9), (dx9, oD), (L + 1 + 1 + 1 + 1 + 1, o5), (L + 1 + 1 + 1 + 1, o4), (L + 1 + 1 + 1, o3), (L + 1 + 1, o2), (L + 1, o1)]) h₀ L m M its turn c1 s) (fun _ _ => False) { s with heap := h, toks := tk₀ } := by
  revert X; k_fill; intro X
  conv in lawElt => whnf
  conv in lawEltScope => whnf
  unfold lawEnv
  conv in lawScope => whnf
  repeat' (first | ((fail_if_success (k_here; (with_reducible show wpAny _ _ (call (Value.ref 211) _) _ _ _))); (first | (k_unfold; (try dsimp only)) | (k_end; wrow_close) | walk1 | (dsimp only; walk1) | (leave1; (try dsimp only)))))
  k_dflt (refine' got_u _ _ _ _ turn (by k_asm) (by k_asm) (by k_asm) (by k_asm) (by k_asm) (by first | exact rfl | assumption) (by k_memK) (by k_memK) (o1 := listOf #[] 0) (by k_upd) hi hn hs ht ⟨by omega, by omega⟩ (by refine neN ?_; omega) (by refine neN ?_; omega) (by exact Nat.le_of_ble_eq_true rfl) (by exact Nat.le_of_ble_eq_true rfl) ?_)
  intro iG tG ttG hh9 tk9 hG F9 N8
  have N9 := N8 _ (by k_upd)
  clear N8
  (try dsimp only)
  (try k_fold)
  k_steps
  exact ⟨_, _, _, _, _, rfl, hG, rfl, F9, N9⟩
theorem off_same {I C D : Addr} : ∀ {l l' : List (Addr × Obj)}, l.map (·.1) = l'.map (·.1) → LCg.Off3 I C D l → LCg.Off3 I C D l'
  | [], [], _, _ => trivial
  | [], _ :: _, e, _ => by cases e
  | _ :: _, [], e, _ => by cases e
  | p :: r, q :: r', e, h => by
    rw [List.map_cons, List.map_cons] at e
    injection e with e1 e2
    refine ⟨?_, off_same e2 h.2⟩
    rw [← e1]; exact h.1
theorem comp_step (w : World) (mean : ExcName → Option Value) (mg mb : PySem.Str → Option Value) (h₀ : Heap) (L fa : Addr) (cd : Value) (Bw : Below callerA h₀ [] h₀) (X : (hd.heap_39 w.params).In h₀)
    (T : Top hd.view_39 (looseW hd.view_39 [Str.ofString "RECKONINGS", Str.ofString "FOLDED"]) mean mg mb h₀) (m : PySem.Str → Option Value)
    (k M : Int) (tk tM : Tok) (hMb : 1 ≤ M ∧ M ≤ 64) (S D0 D1 x9 dx9 : Addr) (ws : List Value) (ns : List Int) (c0 c1 c2 : Nat) (its : Array Value) (turn : Nat) (oD : Obj) (hD : LimDict k tk oD) (o1 o2 o3 o4 o5 : Obj)
    (hi : IntsAre ws ns) (hn : ns.length ≤ 5) (hs : its.size = turn) (ht : turn ≤ 5) (d1 : o1.data = .cell (some (.ref S))) (d2 : o2.data = .cell (some (.int M tM)))
    (l0 : @LT.lt Nat _ (L + 1 + 1 + 1 + 1 + 1) D0) (l1 : @LT.lt Nat _ D0 D1) (l2 : @LT.lt Nat _ D1 S) (l3 : @LT.lt Nat _ S dx9) (l4 : @LT.lt Nat _ dx9 x9) {Fin : List Value → List (Addr × Obj) → Prop} {P : Nat → Value → Prop} {n i : Nat} {ys : List Value} {s : Shared}
    (hnext : ∀ (x : Int) (t tt : Tok), (0 ≤ x ∧ x < M) → LCg.CompRest PySem.Challenge.rw_xm0620_01.row.prog w (callerA.deeper (lawEnv L fa cd)) h₀ L m (lawEnv L fa cd) lawElt (Str.ofString "turn") lawEltScope [(Str.ofString "sack", L + 1), (Str.ofString "most", L + 1 + 1)] s (fun _ => True) P Fin n (i + 1) (ys ++ [.int (x - M.fdiv 2) t]) ([(S, listOf #[.ref D0, .ref D1] c0), (D1, listOf (its.push (.int (turn : Int) tt)) (c1 + 1)), (D0, listOf ws.toArray c2), (x9, instObj 53 dx9), (dx9, oD), (L + 1 + 1 + 1 + 1 + 1, o5), (L + 1 + 1 + 1 + 1, o4), (L + 1 + 1 + 1, o3), (L + 1 + 1, o2), (L + 1, o1)])) :
    LCg.CompRest PySem.Challenge.rw_xm0620_01.row.prog w (callerA.deeper (lawEnv L fa cd)) h₀ L m (lawEnv L fa cd) lawElt (Str.ofString "turn") lawEltScope [(Str.ofString "sack", L + 1), (Str.ofString "most", L + 1 + 1)] s (fun _ => True) P Fin (n + 1) i ys ([(S, listOf #[.ref D0, .ref D1] c0), (D1, listOf its c1), (D0, listOf ws.toArray c2), (x9, instObj 53 dx9), (dx9, oD), (L + 1 + 1 + 1 + 1 + 1, o5), (L + 1 + 1 + 1 + 1, o4), (L + 1 + 1 + 1, o3), (L + 1 + 1, o2), (L + 1, o1)]) := by
  refine LCg.CompRest.succ fun v I oI C oC D m₂ h tk₀ E' _ _ _ F N off ne => ?_
  refine wpAny_mono (elt_c w mean mg mb h₀ L fa cd Bw X T m k M tk tM hMb S D0 D1 x9 dx9 ws ns c0 c1 c2 its turn oD hD o1 o2 o3 o4 o5 hi hn hs ht d1 d2 l0 l1 l2 l3 l4 I C D oI oC ys off.2.1.1 off.2.1.2.1 off.2.1.2.2 h tk₀ s F N) (fun y s' hy => ?_) (fun _ _ e => e.elim)
  obtain ⟨x, t, tt, h', tk', rfl, hb, rfl, F', N'⟩ := hy
  exact ⟨h', tk', _, rfl, F', N', off_same (by rfl) off, trivial, hnext x t tt hb⟩
/-- what the law's rest asks, from the call of _law_way on -/
def ContC (w : World) (h₀ : Heap) (L fa : Addr) (cd : Value) (k : Int) (tk : Tok) (x9 dx9 : Addr) (oD : Obj) (o2 o3 o4 o5 : Obj) (Q : Flow → Shared → Prop) (E : Value → Shared → Prop) (s : Shared) : Prop :=
  ∀ (a c f : Int) (ta tc tf : Tok) (m' : PySem.Str → Option Value) (h' : Heap) (tk' : Nat), InW k a → InW k c → InW k f →
    m' (Str.ofString "a") = some (.int a ta) → m' (Str.ofString "c") = some (.int c tc) → m' (Str.ofString "first") = some (.int f tf) → m' (Str.ofString "limits") = some (.ref x9) → m' (Str.ofString "bits") = some (.int k tk) →
    Fr h₀ L h' m' → News h₀ L h' [(x9, instObj 53 dx9), (dx9, oD), (L + 1 + 1 + 1 + 1 + 1, o5), (L + 1 + 1 + 1 + 1, o4), (L + 1 + 1 + 1, o3), (L + 1 + 1, o2)] →
    wpAny (model PySem.Challenge.rw_xm0620_01.row.prog w) (callerA.deeper (lawEnv L fa cd)) (execs (List.drop 7 lawBody) (lawEnv L fa cd)) Q E { s with heap := h', toks := tk' }
theorem contC_use {w : World} {h₀ : Heap} {L fa : Addr} {cd : Value} {k : Int} {tk : Tok} {x9 dx9 : Addr} {oD : Obj} {o2 o3 o4 o5 : Obj} {Q : Flow → Shared → Prop} {E : Value → Shared → Prop} {s : Shared}
    {a c f : Int} {ta tc tf : Tok} {m' : PySem.Str → Option Value} {h' : Heap} {tk' : Nat} {news : List (Addr × Obj)} (C : ContC w h₀ L fa cd k tk x9 dx9 oD o2 o3 o4 o5 Q E s) (F : Fr h₀ L h' m') (N : News h₀ L h' news)
    (e1 : m' (Str.ofString "a") = some (.int a ta)) (e2 : m' (Str.ofString "c") = some (.int c tc)) (e3 : m' (Str.ofString "first") = some (.int f tf)) (e4 : m' (Str.ofString "limits") = some (.ref x9)) (e5 : m' (Str.ofString "bits") = some (.int k tk))
    (ha : InW k a) (hc : InW k c) (hf : InW k f) (hs : ∀ p ∈ [(x9, instObj 53 dx9), (dx9, oD), (L + 1 + 1 + 1 + 1 + 1, o5), (L + 1 + 1 + 1 + 1, o4), (L + 1 + 1 + 1, o3), (L + 1 + 1, o2)], p ∈ news) :
    wpAny (model PySem.Challenge.rw_xm0620_01.row.prog w) (callerA.deeper (lawEnv L fa cd)) (execs (List.drop 7 lawBody) (lawEnv L fa cd)) Q E { s with heap := h', toks := tk' } :=
  C a c f ta tc tf m' h' tk' ha hc hf e1 e2 e3 e4 e5 F (cb_drop N hs)
theorem M_cases {k M : Int} (hk : 3 ≤ k ∧ k ≤ 6) (hM : M = P2 k) : M = 8 ∨ M = 16 ∨ M = 32 ∨ M = 64 := by
  subst hM
  rcases P2_cases hk with ⟨_, h1, _⟩ | ⟨_, h1, _⟩ | ⟨_, h1, _⟩ | ⟨_, h1, _⟩ <;> omega
theorem inW_of {k M z : Int} (hk : 3 ≤ k ∧ k ≤ 6) (hM : M = P2 k) (h : -(M / 2) ≤ z ∧ z < M / 2) : InW k z := by
  subst hM
  unfold InW
  rcases P2_cases hk with ⟨_, h1, h2⟩ | ⟨_, h1, h2⟩ | ⟨_, h1, h2⟩ | ⟨_, h1, h2⟩ <;> rw [h2] <;> rw [h1] at h <;> omega
theorem inW_draw {k M y : Int} (hk : 3 ≤ k ∧ k ≤ 6) (hM : M = P2 k) (h : 0 ≤ y ∧ y < M) : InW k (y - M.fdiv 2) := by
  have hMc := M_cases hk hM
  refine inW_of hk hM ?_
  rw [Int.fdiv_eq_ediv_of_nonneg M (by decide)]
  omega
theorem inW_four {k x : Int} (hk : 3 ≤ k ∧ k ≤ 6) (h : InW k x) : InW k (4 * x.fdiv 4 + 1) := by
  rw [Int.fdiv_eq_ediv_of_nonneg x (by decide)]
  unfold InW at h ⊢
  rcases P2_cases hk with ⟨_, _, h2⟩ | ⟨_, _, h2⟩ | ⟨_, _, h2⟩ | ⟨_, _, h2⟩ <;> rw [h2] at h ⊢ <;> omega
theorem inW_two {k x : Int} (hk : 3 ≤ k ∧ k ≤ 6) (h : InW k x) : InW k (2 * x.fdiv 2 + 1) := by
  rw [Int.fdiv_eq_ediv_of_nonneg x (by decide)]
  unfold InW at h ⊢
  rcases P2_cases hk with ⟨_, _, h2⟩ | ⟨_, _, h2⟩ | ⟨_, _, h2⟩ | ⟨_, _, h2⟩ <;> rw [h2] at h ⊢ <;> omega
theorem inW_odd {k x : Int} (hk : 3 ≤ k ∧ k ≤ 6) (h : InW k x) : InW k (x - x.fmod 2 + 1) := by
  rw [Int.fmod_eq_emod_of_nonneg x (by decide)]
  unfold InW at h ⊢
  rcases P2_cases hk with ⟨_, _, h2⟩ | ⟨_, _, h2⟩ | ⟨_, _, h2⟩ | ⟨_, _, h2⟩ <;> rw [h2] at h ⊢ <;> omega
theorem fdiv2 (x : Int) : x.fdiv 2 = x / 2 := Int.fdiv_eq_ediv_of_nonneg x (by decide)
theorem fdiv4 (x : Int) : x.fdiv 4 = x / 4 := Int.fdiv_eq_ediv_of_nonneg x (by decide)
theorem fmod2 (x : Int) : x.fmod 2 = x % 2 := Int.fmod_eq_emod_of_nonneg x (by decide)
set_option maxRecDepth 100000 in
set_option maxHeartbeats 8000000 in
theorem law_B (w : World) (mean : ExcName → Option Value) (mg mb : PySem.Str → Option Value) (h₀ : Heap) (L fa : Addr) (cd : Value) (Bw : Below callerA h₀ [] h₀) (X : (hd.heap_39 w.params).In h₀)
    (T : Top hd.view_39 (looseW hd.view_39 [Str.ofString "RECKONINGS", Str.ofString "FOLDED"]) mean mg mb h₀) (m₀ : PySem.Str → Option Value)
    (k M : Int) (tk tM : Tok) (hk : 3 ≤ k ∧ k ≤ 6) (hM : M = P2 k) (hMb : 1 ≤ M ∧ M ≤ 64) (S D0 D1 x9 dx9 : Addr) (ws : List Value) (ns : List Int) (c0 c1 c2 : Nat) (v0 : Value) (oD : Obj) (hD : LimDict k tk oD) (o1 o2 o3 o4 o5 : Obj)
    (hi : IntsAre ws ns) (hn : ns.length ≤ 5) (d1 : o1.data = .cell (some (.ref S))) (d2 : o2.data = .cell (some (.int M tM)))
    (l0 : @LT.lt Nat _ (L + 1 + 1 + 1 + 1 + 1) D0) (l1 : @LT.lt Nat _ D0 D1) (l2 : @LT.lt Nat _ D1 S) (l3 : @LT.lt Nat _ S dx9) (l4 : @LT.lt Nat _ dx9 x9) (s : Shared) (Q : Flow → Shared → Prop)
    (F : Fr h₀ L s.heap (fun y => if y = Str.ofString "limits" then some (.ref x9) else if y = Str.ofString "bits" then some (.int k tk) else m₀ y)) (N : News h₀ L s.heap [(S, listOf #[.ref D0, .ref D1] c0), (D1, listOf #[v0] c1), (D0, listOf ws.toArray c2), (x9, instObj 53 dx9), (dx9, oD), (L + 1 + 1 + 1 + 1 + 1, o5), (L + 1 + 1 + 1 + 1, o4), (L + 1 + 1 + 1, o3), (L + 1 + 1, o2), (L + 1, o1)])
    (C : ContC w h₀ L fa cd k tk x9 dx9 oD o2 o3 o4 o5 Q (fun _ _ => False) s) :
    wpAny (model PySem.Challenge.rw_xm0620_01.row.prog w) (callerA.deeper (lawEnv L fa cd)) (execs (List.drop 3 lawBody) (lawEnv L fa cd)) Q (fun _ _ => False) s := by
  revert X; k_fill; intro X
  conv in (List.drop 3 lawBody) => whnf
  unfold lawEnv
  conv in lawScope => whnf
  repeat' (first | ((with_reducible show wpAny _ _ _ _ _ _); (first | (k_unfold; (try dsimp only)) | (k_end; wrow_close) | walk1 | (dsimp only; walk1) | (leave1; (try dsimp only)))))
  k_dflt (refine LCg.CompSrc.range (by rfl) (by k_asm) (by k_asm) (by assumption) (by first | decide | rfl) (by first | rfl | decide) (by first | size_fits | exact Nat.le_of_ble_eq_true rfl) ?_; intro g'; lcg_lit)
  refine comp_step w mean mg mb h₀ L fa cd Bw X T _ k M tk tM hMb S D0 D1 x9 dx9 ws ns c0 c1 c2 #[v0] 1 oD hD o1 o2 o3 o4 o5 hi hn rfl (by decide) d1 d2 l0 l1 l2 l3 l4 fun y1 t1 u1 b1 => comp_step w mean mg mb h₀ L fa cd Bw X T _ k M tk tM hMb S D0 D1 x9 dx9 ws ns c0 (c1 + 1) c2 _ 2 oD hD o1 o2 o3 o4 o5 hi hn rfl (by decide) d1 d2 l0 l1 l2 l3 l4 fun y2 t2 u2 b2 => comp_step w mean mg mb h₀ L fa cd Bw X T _ k M tk tM hMb S D0 D1 x9 dx9 ws ns c0 (c1 + 1 + 1) c2 _ 3 oD hD o1 o2 o3 o4 o5 hi hn rfl (by decide) d1 d2 l0 l1 l2 l3 l4 fun y3 t3 u3 b3 => LCg.CompRest.zero ?_
  repeat' (first
    | (k_here; (with_reducible show wpAny _ _ (execs (PySem.Stmt.Assign [PySem.Expr.Tuple [PySem.Expr.Name (Str.ofString "seen") _, _] _ _] _ _ :: _) _) _ _ _); k_dflt (refine contC_use C (by assumption) (by assumption) (by rfl) (by rfl) (by rfl) (by rfl) (by rfl) ?_ ?_ ?_ (by lcg_sub)))
    | (k_here; (with_reducible show wpAny _ _ (call (Value.ref 211) [Value.ref _, Value.int _ _]) _ _ _); (try (rename (@Ne Nat S _ ∧ @Ne Nat D1 _ ∧ _) => hZ; have hZ1 := hZ.2.1; clear hZ)); k_dflt (refine' got_u _ _ _ _ _ (by k_asm) (by k_asm) (by k_asm) (by k_asm) (by k_asm) (by first | exact rfl | assumption) (by k_memK) (by k_memK) (o1 := listOf #[] 0) (by k_upd) (by assumption) (by omega) (by exact rfl) (by exact Nat.le_of_ble_eq_true rfl) ⟨by omega, by omega⟩ (by refine neN ?_; omega) (by refine neN ?_; omega) (by exact Nat.le_of_ble_eq_true rfl) (by exact Nat.le_of_ble_eq_true rfl) ?_); (intro iG tG ttG h9 tk9 hG F9 N8; (have N9 := N8 _ (by k_upd)); clear N8; (try dsimp only); (try k_fold)))
    | (k_unfold; (try dsimp only)) | (k_end; wrow_close) | walk1 | (dsimp only; walk1) | (leave1; (try dsimp only)))
  all_goals (repeat (first | exact inW_draw hk hM (by assumption) | refine inW_four hk ?_ | refine inW_two hk ?_ | refine inW_odd hk ?_))
section
open PySem.Calls
/-! a list comprehension with one test that no item meets gives an empty list -/
section
variable {prog : Program} {w : World} {A : Around} {E : Value → Shared → Prop} {s : Shared} {h₀ : Heap} {L : Addr} {m : PySem.Str → Option Value} {env : Env} {c elt : PySem.Expr} {x : PySem.Str} {scope : Scope} {cl : List (PySem.Str × Addr)}
def TestOff (prog : Program) (w : World) (A : Around) (h₀ : Heap) (L : Addr) (m : PySem.Str → Option Value) (env : Env) (c : PySem.Expr) (x : PySem.Str) (scope : Scope) (cl : List (PySem.Str × Addr)) (P : Nat → Value → Prop) (news : List (Addr × Obj)) : Prop :=
  ∀ (C : Addr) (oC : Obj) (i : Nat) (v : Value) (m₂ : PySem.Str → Option Value) (s₃ : Shared), P i v → LCg.NsObj oC m₂ → m₂ x = some v → Fr h₀ L s₃.heap m → News h₀ L s₃.heap ((C, oC) :: news) →
    wpAny (model prog w) A (isTrue c (compEnvC scope cl C env) (eval c (compEnvC scope cl C env))) (fun b s₄ => b = false ∧ ∃ tk', s₄ = { s₃ with toks := tk' }) (fun _ _ => False) s₃
theorem filt_quiet {s₂ : Shared} {I : Addr} {P : Nat → Value → Prop} {news : List (Addr × Obj)} (F : Fr h₀ L s₂.heap m) (N : News h₀ L s₂.heap news) (off : ∀ p ∈ news, p.1 ≠ I) (hIL : L ≠ I) (hI₀ : h₀.get? I = none)
    (ht : TestOff prog w A h₀ L m env c x scope cl P news) : QuietOnC prog w A env scope cl x [c] elt [I] P (fun _ => false) (fun _ _ => True) s₂ where
  tests := fun C i v s₃ m₃ E' hC hP hn hm hk _ => by
    obtain ⟨oC, heC, hoC⟩ := LCg.ns_obj hn
    have F₃ : Fr h₀ L s₃.heap m := LCg.fr_but F hk hIL hI₀
    have N₃ : News h₀ L s₃.heap news := LCg.news_but N hk off
    have hLC : C ≠ L := Nat.ne_of_gt (Nat.lt_of_lt_of_le F.ns.lt hC)
    have hC₀ : h₀.get? C = none := by
      cases e : h₀.get? C with
      | none => rfl
      | some o => exact absurd (Heap.lt_size (F.keep _ _ e)) (Nat.not_lt.mpr hC)
    refine wpAny_tests_one (wpAny_mono (ht C oC i v m₃ s₃ hP hoC hm F₃ (fun p hp => ?_)) (fun b s₄ hb => ?_) (fun _ _ e => e.elim))
    · rcases List.mem_cons.mp hp with rfl | hp
      · exact ⟨heC, hLC, hC₀⟩
      · exact N₃ p hp
    · obtain ⟨rfl, tk', rfl⟩ := hb
      exact ⟨rfl, _, _, rfl, fun _ _ e => e⟩
  elt := fun _ _ _ _ _ _ _ _ hp => by cases hp
/-- where the comprehension's source stands, and what is asked behind it -/
def FiltL (prog : Program) (w : World) (A : Around) (h₀ : Heap) (L : Addr) (m : PySem.Str → Option Value) (env : Env) (c : PySem.Expr) (x : PySem.Str) (scope : Scope) (cl : List (PySem.Str × Addr)) (Q : Value → Shared → Prop) (xv : Value) (s₁ : Shared) : Prop :=
  ∃ (l : Addr) (its : Array Value) (k : Nat) (news : List (Addr × Obj)), xv = .ref l ∧ A.handled = none ∧ Fr h₀ L s₁.heap m ∧ News h₀ L s₁.heap news ∧ (l, listOf its k) ∈ news ∧ its.size ≤ sizeLine ∧
    TestOff prog w A h₀ L m env c x scope cl (fun i v => its[i]? = some v) news ∧
    ∀ (D : Addr) (n : Nat) (h : Heap) (tk : Nat), Fr h₀ L h m → News h₀ L h ((D, listOf #[] n) :: news) → (∀ p ∈ news, p.1 ≠ D) → Q (.ref D) { s₁ with heap := h, toks := tk }
theorem nil_of_paired {F : Value → Value → Prop} {vs : List Value} {ys : Array Value} (h : Paired F (vs.filter fun _ => false) ys.toList) : ys = #[] := by
  have e : vs.filter (fun _ => false) = [] := by simp
  rw [e] at h
  have := h.length
  cases ys with
  | mk l => cases l with
    | nil => rfl
    | cons _ _ => simp at this
theorem filt_fin {s₂ : Shared} {I : Addr} {news : List (Addr × Obj)} {h' : Heap} {D : Addr} (F : Fr h₀ L s₂.heap m) (N : News h₀ L s₂.heap news) (off : ∀ p ∈ news, p.1 ≠ I) (hIL : L ≠ I) (hI₀ : h₀.get? I = none)
    (hD : s₂.heap.get? D = none) (hp : h'.PlainList D #[]) (hk : ∀ b o, b ∉ [I] → s₂.heap.get? b = some o → h'.get? b = some o) :
    ∃ n, Fr h₀ L h' m ∧ News h₀ L h' ((D, listOf #[] n) :: news) ∧ (∀ p ∈ news, p.1 ≠ D) := by
  obtain ⟨n, e⟩ := hp
  have hne : ∀ {b : Addr} {o : Obj}, s₂.heap.get? b = some o → b ≠ D := fun {b o} q r => by rw [r, hD] at q; cases q
  refine ⟨n, LCg.fr_but F hk hIL hI₀, fun p hp => ?_, fun p hp => hne (N p hp).1⟩
  rcases List.mem_cons.mp hp with rfl | hp
  · refine ⟨e, ?_, ?_⟩
    · obtain ⟨oL, _, _, hL, _⟩ := F.ns
      exact (hne hL).symm
    · cases q : h₀.get? D with
      | none => rfl
      | some o => exact absurd rfl (hne (F.keep _ _ q))
  · exact LCg.news_but N hk off p hp
theorem filt_list {iter : PySem.Expr} {px pos : Pos} {Q : Value → Shared → Prop} (_F₀ : Fr h₀ L s.heap m) (hclos : closureFor scope env = pure cl) (hcell : ∀ y ∈ scope.names, y.2 ≠ .cell) (hkind : scope.kind = .function)
    (hnames : ∀ y ∈ scope.names, y.2 = .local → scope.names.lookup y.1 = some .local) (hx : scope.names.lookup x = some .local)
    (h : wpAny (model prog w) A (eval iter env) (FiltL prog w A h₀ L m env c x scope cl Q) E s) (hs : ∀ x, foldedSetIterable iter env x = pure x := by intro _; rfl) :
    wpAny (model prog w) A (eval (.ListComp elt [⟨.Name x px, iter, [c], 0⟩] scope pos) env) Q E s := by
  refine wpAny_ListComp_free (fun _ => false) (fun _ _ => True) hclos hcell hkind hnames hx (wpAny_mono h (fun xv s₁ h₁ => ?_) fun _ _ e => e) hs
  obtain ⟨l, its, k, news, rfl, hh, F, N, hm, hsz, ht, hQ⟩ := h₁
  have hl : s₁.heap.IsList l its := ⟨_, (N _ hm).1, rfl, k, rfl⟩
  have hlt : l < s₁.heap.objs.size := Heap.lt_size (N _ hm).1
  have up : ∀ b o, s₁.heap.get? b = some o → (s₁.heap.push { cls := .type "list_iterator", data := .fields #[.ref l, .int 0 0] }).get? b = some o := fun b o e => Heap.get?_push_of_some _ e
  have F₂ := F.keeps up
  have N₂ := N.grown up
  have off : ∀ p ∈ news, p.1 ≠ s₁.heap.objs.size := fun p hp => Nat.ne_of_lt (Heap.lt_size (N p hp).1)
  have hIL : L ≠ s₁.heap.objs.size := Nat.ne_of_lt F.ns.lt
  have hI₀ : h₀.get? s₁.heap.objs.size = none := next_is_new F
  refine wpAny_pyIter_list hl ⟨_, _, _, _, _, _, rfl, Walks.list hh s₁.heap.objs.size l (Nat.ne_of_lt hlt) its, hsz, ⟨⟨_, Heap.get?_push_size _ rfl, rfl, rfl⟩, hl.push _⟩, fun b hb => ?_, filt_quiet F₂ N₂ off hIL hI₀ ht, ?_⟩
  · show b < (s₁.heap.push _).objs.size
    rw [Heap.size_push]
    rcases List.mem_cons.mp hb with rfl | hb
    · exact Nat.lt_succ_self _
    · rw [List.mem_singleton.mp hb]; exact Nat.lt_succ_of_lt hlt
  · intro D h' tk ys vs hD _ hpl _ _ hpair hk
    have e := nil_of_paired hpair
    subst e
    obtain ⟨n, F', N', o'⟩ := filt_fin F₂ N₂ off hIL hI₀ hD hpl hk
    exact hQ D n h' tk F' N' o'
def FiltR (prog : Program) (w : World) (A : Around) (h₀ : Heap) (L : Addr) (m : PySem.Str → Option Value) (env : Env) (c : PySem.Expr) (x : PySem.Str) (scope : Scope) (cl : List (PySem.Str × Addr)) (Q : Value → Shared → Prop) (xv : Value) (s₁ : Shared) : Prop :=
  ∃ (r : Addr) (b : Int) (t u v : Tok) (n : Nat) (news : List (Addr × Obj)), xv = .ref r ∧ A.handled = none ∧ Fr h₀ L s₁.heap m ∧ News h₀ L s₁.heap news ∧ IsRange s₁.heap r 0 b 1 t u v ∧ Builtin.Range.small 0 b 1 = true ∧ Builtin.Range.rangeSize 0 b 1 = ((n : Nat) : Int) ∧ n ≤ sizeLine ∧
    TestOff prog w A h₀ L m env c x scope cl (fun i v => i < n ∧ ∃ t, v = .int (0 + (i : Int) * 1) t) news ∧
    ∀ (D : Addr) (k : Nat) (h : Heap) (tk : Nat), Fr h₀ L h m → News h₀ L h ((D, listOf #[] k) :: news) → (∀ p ∈ news, p.1 ≠ D) → Q (.ref D) { s₁ with heap := h, toks := tk }
theorem filt_range {iter : PySem.Expr} {px pos : Pos} {Q : Value → Shared → Prop} (_F₀ : Fr h₀ L s.heap m) (hclos : closureFor scope env = pure cl) (hcell : ∀ y ∈ scope.names, y.2 ≠ .cell) (hkind : scope.kind = .function)
    (hnames : ∀ y ∈ scope.names, y.2 = .local → scope.names.lookup y.1 = some .local) (hx : scope.names.lookup x = some .local)
    (h : wpAny (model prog w) A (eval iter env) (FiltR prog w A h₀ L m env c x scope cl Q) E s) (hs : ∀ x, foldedSetIterable iter env x = pure x := by intro _; rfl) :
    wpAny (model prog w) A (eval (.ListComp elt [⟨.Name x px, iter, [c], 0⟩] scope pos) env) Q E s := by
  refine wpAny_ListComp_free (fun _ => false) (fun _ _ => True) hclos hcell hkind hnames hx (wpAny_mono h (fun xv s₁ h₁ => ?_) fun _ _ e => e) hs
  obtain ⟨r, b, t, u, v, n, news, rfl, hh, F, N, hr, hsm, hn, hsz, ht, hQ⟩ := h₁
  have off : ∀ p ∈ news, p.1 ≠ s₁.heap.objs.size := fun p hp => Nat.ne_of_lt (Heap.lt_size (N p hp).1)
  have hIL : L ≠ s₁.heap.objs.size := Nat.ne_of_lt F.ns.lt
  have hI₀ : h₀.get? s₁.heap.objs.size = none := next_is_new F
  refine wpAny_pyIter_range hr hsm ?_
  have F₂ := F.keeps (h' := s₁.heap.push { cls := .type "range_iterator", data := .fields #[rawInt 0, rawInt (Builtin.Range.rangeSize 0 b 1), rawInt 1] }) fun _ _ e => Heap.get?_push_of_some _ e
  have N₂ := N.grown (h' := s₁.heap.push { cls := .type "range_iterator", data := .fields #[rawInt 0, rawInt (Builtin.Range.rangeSize 0 b 1), rawInt 1] }) fun _ _ e => Heap.get?_push_of_some _ e
  refine ⟨_, _, _, _, _, _, rfl, (Walks.range hh s₁.heap.objs.size 0 1 n).bound, hsz, ?_, fun b hb => ?_, filt_quiet F₂ N₂ off hIL hI₀ ht, ?_⟩
  · show IsRangeIter _ _ _ _ _
    rw [hn]; simpa using Heap.get?_push_size _ rfl
  · rw [List.mem_singleton.mp hb]
    show s₁.heap.objs.size < (s₁.heap.push _).objs.size
    rw [Heap.size_push]; exact Nat.lt_succ_self _
  · intro D h' tk ys vs hD _ hpl _ _ hpair hk
    have e := nil_of_paired hpair
    subst e
    obtain ⟨k, F', N', o'⟩ := filt_fin F₂ N₂ off hIL hI₀ hD hpl hk
    exact hQ D k h' tk F' N' o'
end
end
/-- the first test: no number, or out of range -/
def lawTest : PySem.Expr := (compE (cmpL (stTest (nth lawBody 9)))).2.2
def lawTestScope : Scope := (compE (cmpL (stTest (nth lawBody 9)))).2.1
theorem inW_to {k M z : Int} (hk : 3 ≤ k ∧ k ≤ 6) (hM : M = P2 k) (h : InW k z) : -(M.fdiv 2) ≤ z ∧ z < M.fdiv 2 := by
  subst hM
  rw [fdiv2]
  unfold InW at h
  rcases P2_cases hk with ⟨_, h1, h2⟩ | ⟨_, h1, h2⟩ | ⟨_, h1, h2⟩ | ⟨_, h1, h2⟩ <;> rw [h2] at h <;> rw [h1] <;> omega
theorem ints_at : ∀ {vs : List Value} {ns : List Int} {i : Nat} {v : Value}, IntsAre vs ns → vs[i]? = some v → ∃ z t, v = .int z t ∧ ns[i]? = some z
  | _, _, i, v, .nil, h => by simp at h
  | _, _, 0, v, .cons n t r, h => by
    simp at h
    exact ⟨n, t, h.symm, rfl⟩
  | _, _, i + 1, v, .cons n t r, h => by
    simp at h
    obtain ⟨z, u, e, q⟩ := ints_at r h
    exact ⟨z, u, e, by simpa using q⟩
set_option maxRecDepth 100000 in
set_option maxHeartbeats 8000000 in
theorem test1_c (w : World) (mean : ExcName → Option Value) (mg mb : PySem.Str → Option Value) (h₀ : Heap) (L fa : Addr) (cd : Value) (Bw : Below callerA h₀ [] h₀) (X : (hd.heap_39 w.params).In h₀)
    (T : Top hd.view_39 (looseW hd.view_39 [Str.ofString "RECKONINGS", Str.ofString "FOLDED"]) mean mg mb h₀) (m : PySem.Str → Option Value)
    (k M : Int) (tM : Tok) (hk : 3 ≤ k ∧ k ≤ 6) (hM : M = P2 k) (o2 : Obj) (d2 : o2.data = .cell (some (.int M tM))) (C : Addr) (oC : Obj) (m₂ : PySem.Str → Option Value) (z : Int) (t : Tok) (hz : InW k z)
    (hC : LCg.NsObj oC m₂) (hx : m₂ (Str.ofString "number") = some (.int z t)) (s : Shared) (F : Fr h₀ L s.heap m) (N : News h₀ L s.heap [(C, oC), (L + 1 + 1, o2)]) :
    wpAny (model PySem.Challenge.rw_xm0620_01.row.prog w) (callerA.deeper (lawEnv L fa cd)) (isTrue lawTest (compEnvC lawTestScope [(Str.ofString "most", L + 1 + 1)] C (lawEnv L fa cd)) (eval lawTest (compEnvC lawTestScope [(Str.ofString "most", L + 1 + 1)] C (lawEnv L fa cd))))
      (fun b s₄ => b = false ∧ ∃ tk', s₄ = { s with toks := tk' }) (fun _ _ => False) s := by
  revert X; k_fill; intro X
  conv in lawTest => whnf
  conv in lawTest => whnf
  conv in lawTestScope => whnf
  conv in lawTestScope => whnf
  unfold lawEnv
  conv in lawScope => whnf
  have hMc := M_cases hk hM
  have hb := inW_to hk hM hz
  k_steps
  all_goals (exfalso; omega)
section
open PySem.Calls
section
variable {prog : Program} {w : World} {A : Around} {E : Value → Shared → Prop} {s : Shared} {env : Env} {h₀ : Heap} {x : PySem.Str} {body : List PySem.Stmt} {Q : Flow → Shared → Prop}
/-- the end of a turn: the iterator's object still lies in the ledger -/
def TurnE (h₀ : Heap) (L : Addr) (I : Addr) (oI : Obj) (s : Shared) (J : (PySem.Str → Option Value) → List (Addr × Obj) → Prop) (Q : Flow → Shared → Prop) (f : Flow) (s' : Shared) : Prop :=
  match f with
  | .ret v => Q (.ret v) s'
  | .brk => Q .next s'
  | _ => ∃ h' tk' m' nx', s' = { s with heap := h', toks := tk' } ∧ Fr h₀ L h' m' ∧ News h₀ L h' ((I, oI) :: nx') ∧ (∀ p ∈ nx', p.1 ≠ I) ∧ J m' nx'
/-- a range loop whose ledger may change its addresses -/
theorem range_own {r : Addr} {b : Int} {t₀ u₀ v₀ : Tok} {n : Nat} {m₀ : PySem.Str → Option Value} {news : List (Addr × Obj)} (J : Nat → (PySem.Str → Option Value) → List (Addr × Obj) → Prop)
    (hh : A.handled = none) (hr : IsRange s.heap r 0 b 1 t₀ u₀ v₀) (hsmall : Builtin.Range.small 0 b 1 = true) (hn : Builtin.Range.rangeSize 0 b 1 = (n : Int)) (F : Fr h₀ env.locals s.heap m₀) (N : News h₀ env.locals s.heap news) (hj : J 0 m₀ news)
    (turn : ∀ (i : Nat) (t : Tok) m₁ nx h tk I oI, i < n → J i m₁ nx → (∀ p ∈ nx, p.1 ≠ I) → Fr h₀ env.locals h (fun y => if y = x then some (.int (i : Int) t) else m₁ y) → News h₀ env.locals h ((I, oI) :: nx) →
      wpAny (model prog w) A (execs body env) (TurnE h₀ env.locals I oI s (J (i + 1)) Q) E { s with heap := h, toks := tk })
    (done : ∀ m₁ nx h tk, J n m₁ nx → Fr h₀ env.locals h m₁ → News h₀ env.locals h nx → Q .next { s with heap := h, toks := tk }) :
    wpAny (model prog w) A (pyIter (.ref r)) (fun it s₂ => LoopAtV prog w A h₀ env x body Q E it s₂) E s := by
  refine wpAny_pyIter_range hr hsmall ?_
  have W : Walks prog w A s.heap.objs.size [s.heap.objs.size] [s.heap.objs.size] n (fun i v => i < n ∧ ∃ t, v = .int (0 + i * 1) t)
      (fun i h => IsRangeIter h s.heap.objs.size (0 + (i : Nat) * 1) ((n : Int) - (i : Nat)) 1) := (Walks.range hh _ 0 1 n).bound
  have hI₀ : h₀.get? s.heap.objs.size = none := next_is_new F
  refine ⟨_, _, _, n, _, _, m₀, news, J, rfl, W, ?_, ?_, ?_, (by show IsRangeIter _ _ _ _ _; rw [hn]; simpa using Heap.get?_push_size _ rfl), F.push _, (fun p hp => ⟨Heap.get?_push_of_some _ (N p hp).1, (N p hp).2⟩), hj, ?_, ?_⟩
  · intro hm
    exact absurd F.ns.lt ((List.mem_singleton.mp hm) ▸ Nat.lt_irrefl _)
  · intro b' hb
    rw [List.mem_singleton.mp hb]
    exact hI₀
  · intro p hp hI
    exact absurd (Heap.lt_size (N p hp).1) ((List.mem_singleton.mp hI) ▸ Nat.lt_irrefl _)
  · rintro i v m₁ nx s₁ own ⟨hh', tk', rfl⟩ hin ⟨_, t, rfl⟩ hJ hoff hown _ hall hst F₁ N₁
    have e1 : (0 : Int) + (i : Int) * 1 = (i : Int) := by omega
    rw [e1] at F₁
    obtain ⟨oI, ho⟩ : ∃ o, hh'.get? s.heap.objs.size = some o := ⟨_, hst⟩
    have hio := hall _ (List.mem_singleton.mpr rfl) hI₀ oI ho
    have hone := own_one hown (fun b' hb => .inl (List.mem_singleton.mp hb)) ho N₁
    have N₂ := news_one hio N₁
    have hoff' : ∀ p ∈ nx, p.1 ≠ s.heap.objs.size := fun p hp e => hoff p hp (List.mem_singleton.mpr e)
    refine wpAny_mono (turn i t m₁ nx hh' tk' _ oI hin hJ hoff' F₁ N₂) (fun f s₂ p => ?_) fun _ _ e => e
    have fin : (∃ h' tk' m' nx', s₂ = { s with heap := h', toks := tk' } ∧ Fr h₀ env.locals h' m' ∧ News h₀ env.locals h' ((s.heap.objs.size, oI) :: nx') ∧ (∀ p ∈ nx', p.1 ≠ s.heap.objs.size) ∧ J (i + 1) m' nx') →
        LoopStepU h₀ env.locals [s.heap.objs.size] own (J (i + 1)) { s with heap := hh', toks := tk' } .next s₂ := by
      rintro ⟨h', tk, m', nx', e, F', N', ha, hm⟩
      refine ⟨rfl, h', tk, m', nx', e, F', fun p hp => ?_, fun p hp hq => ha p hp (List.mem_singleton.mp hq), hm⟩
      rcases List.mem_append.mp hp with h | h
      · rw [hone p h]; exact N' _ (List.mem_cons_self ..)
      · exact N' _ (List.mem_cons_of_mem _ h)
    cases f with
    | ret v => exact .ret p
    | brk => exact .brk p
    | next => exact .next (fin p)
    | cont => exact .cont (fin p)
  · rintro h' tk m' nx' F' N' _ hJ
    exact done m' nx' h' tk hJ F' N'
end
theorem ints_get : ∀ {vs : List Value} {ns : List Int} {i : Nat} {z : Int}, IntsAre vs ns → ns[i]? = some z → ∃ t, vs[i]? = some (.int z t)
  | _, _, i, z, .nil, h => by simp at h
  | _, _, 0, z, .cons n t r, h => by
    simp at h
    exact ⟨t, by simp [h]⟩
  | _, _, i + 1, z, .cons n t r, h => by
    simp at h
    obtain ⟨u, e⟩ := ints_get r h
    exact ⟨u, by simpa using e⟩
theorem item_seen {prog : Program} {w : World} {A : Around} {E : Value → Shared → Prop} {s : Shared} {h₀ : Heap} {L : Addr} {value slice : PySem.Expr} {l : Addr} {vs : List Value} {cnt : Nat} {news : List (Addr × Obj)} {ns : List Int} {i : Nat} {z q : Int} {u : Tok} {Q : Value → Shared → Prop}
    (N : News h₀ L s.heap news) (hm : (l, listOf vs.toArray cnt) ∈ news) (hi : IntsAre vs ns) (hz : ns[i]? = some z) (hq : q = (i : Int)) (h64 : i < 128) (h : ∀ t, Q (.int z t) s)
    (hs : subscripted slice false (.ref l) (.int q u) = operate [.ref l, .int q u] (getItem (.ref l) (.int q u))) :
    wpAny (model prog w) A (subscriptTail value slice (.ref l) (.int q u)) Q E s := by
  obtain ⟨t, e⟩ := ints_get hi hz
  have hL : s.heap.IsList l vs.toArray := ⟨_, (N _ hm).1, rfl, cnt, rfl⟩
  subst hq
  exact PyProof.Rows.tail_any hL.typeIs slot_list_getitem.lookup (wpAny_getItem_list hL (by omega) (by omega) (by simpa using e) (h t)) hs
end
/-- the loop's statements, the second comprehension's test -/
def forBody : List PySem.Stmt := stFor (nth lawBody 13)
def lawTest2 : PySem.Expr := (compE (cmpL (boolR (stTest (nth forBody 3))))).2.2
def lawTest2Scope : Scope := (compE (cmpL (boolR (stTest (nth forBody 3))))).2.1
theorem ring_int {n j q z : Nat} {y : Int} (hy : y = (z : Int)) (hj : j = 0) : (y + (q : Int)).fmod ((n : Int) - (j : Int)) = (((z + q) % n : Nat) : Int) := by
  subst hj hy
  have e2 : (n : Int) - ((0 : Nat) : Int) = (n : Int) := by omega
  rw [e2, Int.fmod_eq_emod_of_nonneg _ (Int.natCast_nonneg _)]
  norm_cast
set_option maxRecDepth 100000 in
set_option maxHeartbeats 8000000 in
theorem test2_c (w : World) (mean : ExcName → Option Value) (mg mb : PySem.Str → Option Value) (h₀ : Heap) (L fa : Addr) (cd : Value) (Bw : Below callerA h₀ [] h₀) (X : (hd.heap_39 w.params).In h₀)
    (T : Top hd.view_39 (looseW hd.view_39 [Str.ofString "RECKONINGS", Str.ofString "FOLDED"]) mean mg mb h₀) (m : PySem.Str → Option Value)
    (k a c f : Int) (n j q z : Nat) (hj : j = 0) (hz : z < n) (hn : n ≤ 64) (hq : 1 ≤ q ∧ q ≤ 32) (hdv : (q : Int) ∣ orb k a c f ((z + q) % n) - orb k a c f z) (SL : Addr) (vs : List Value) (c2 : Nat) (hI : IntsAre vs (orbL k a c f n))
    (o3 o4 o5 : Obj) (tr tq : Tok) (d3 : o3.data = .cell (some (.ref SL))) (d4 : o4.data = .cell (some (.int ((n : Int) - (j : Int)) tr))) (d5 : o5.data = .cell (some (.int (q : Int) tq)))
    (C : Addr) (oC : Obj) (m₂ : PySem.Str → Option Value) (y : Int) (hy : y = (z : Int)) (t : Tok) (hC : LCg.NsObj oC m₂) (hx : m₂ (Str.ofString "here") = some (.int y t)) (s : Shared) (F : Fr h₀ L s.heap m)
    (N : News h₀ L s.heap [(C, oC), (SL, listOf vs.toArray c2), (L + 1 + 1 + 1 + 1 + 1, o5), (L + 1 + 1 + 1 + 1, o4), (L + 1 + 1 + 1, o3)]) :
    wpAny (model PySem.Challenge.rw_xm0620_01.row.prog w) (callerA.deeper (lawEnv L fa cd)) (isTrue lawTest2 (compEnvC lawTest2Scope [(Str.ofString "seen", L + 1 + 1 + 1), (Str.ofString "ring", L + 1 + 1 + 1 + 1), (Str.ofString "leap", L + 1 + 1 + 1 + 1 + 1)] C (lawEnv L fa cd)) (eval lawTest2 (compEnvC lawTest2Scope [(Str.ofString "seen", L + 1 + 1 + 1), (Str.ofString "ring", L + 1 + 1 + 1 + 1), (Str.ofString "leap", L + 1 + 1 + 1 + 1 + 1)] C (lawEnv L fa cd))))
      (fun b s₄ => b = false ∧ ∃ tk', s₄ = { s with toks := tk' }) (fun _ _ => False) s := by
  revert X; k_fill; intro X
  conv in lawTest2 => whnf
  conv in lawTest2 => whnf
  conv in lawTest2Scope => whnf
  conv in lawTest2Scope => whnf
  unfold lawEnv
  conv in lawScope => whnf
  have hr : @Ne Int ((n : Int) - (j : Int)) 0 := by omega
  have hq0 : @Ne Int (q : Int) 0 := by omega
  have hA := ring_int (n := n) (q := q) hy hj
  have hlt : (z + q) % n < n := Nat.mod_lt _ (by omega)
  have hzA := orbL_get (k := k) (a := a) (c := c) (x0 := f) hlt
  have hzB := orbL_get (k := k) (a := a) (c := c) (x0 := f) hz
  have hF := Int.fmod_eq_zero_of_dvd hdv
  repeat' (first
    | (k_here; (with_reducible show wpAny _ _ (subscriptTail _ _ (Value.ref _) (Value.int _ _)) _ _ _); k_dflt (refine item_seen (by k_asm) (by k_memK) hI hzB hy (by omega) ?_ (by with_unfolding_all rfl)); intro tS; (try dsimp only))
    | (k_here; (with_reducible show wpAny _ _ (subscriptTail _ _ (Value.ref _) (Value.int _ _)) _ _ _); k_dflt (refine item_seen (by k_asm) (by k_memK) hI hzA hA (by omega) ?_ (by with_unfolding_all rfl)); intro tS; (try dsimp only))
    | (k_unfold; (try dsimp only)) | (k_end; wrow_close) | walk1 | (dsimp only; walk1) | (leave1; (try dsimp only)))
  all_goals (rw [hF]; rfl)
/-- what holds between the turns -/
def LoopJ (L : Addr) (a c f k : Int) (ta tj tf tk : Tok) (j : Nat) (x9 dx9 SL : Addr) (vs : List Value) (c2 : Nat) (oD : Obj) (o2 o3 o4 : Obj) (t : Nat) (m : PySem.Str → Option Value) (nx : List (Addr × Obj)) : Prop :=
  ∃ (ra : Addr) (tA tC : Tok) (cn : Nat) (o5 : Obj) (vv5 : Option Value), @LT.lt Nat _ (L + 1 + 1 + 1 + 1 + 1) ra ∧ o5.data = .cell vv5 ∧ nx = [(ra, tupO (rul k a c t).1 tA (rul k a c t).2 tC cn), (SL, listOf vs.toArray c2), (x9, instObj 53 dx9), (dx9, oD), (L + 1 + 1 + 1 + 1 + 1, o5), (L + 1 + 1 + 1 + 1, o4), (L + 1 + 1 + 1, o3), (L + 1 + 1, o2)] ∧
    m (Str.ofString "rule") = some (.ref ra) ∧ m (Str.ofString "ahead") = some (.int (j : Int) tj) ∧ m (Str.ofString "first") = some (.int f tf) ∧ m (Str.ofString "a") = some (.int a ta) ∧ m (Str.ofString "limits") = some (.ref x9) ∧ m (Str.ofString "bits") = some (.int k tk)
theorem at_int {n j q : Nat} (hj : j < n) (hq : ¬ q < n) : (j : Int) + ((q : Int) - (j : Int)).fmod ((n : Int) - (j : Int)) = ((atZ n j q : Nat) : Int) := by
  unfold atZ
  rw [if_neg hq]
  have e1 : (q : Int) - (j : Int) = ((q - j : Nat) : Int) := by omega
  have e2 : (n : Int) - (j : Int) = ((n - j : Nat) : Int) := by omega
  rw [e1, e2, Int.fmod_eq_emod_of_nonneg _ (Int.natCast_nonneg _)]
  omega
theorem at_low {n j q : Nat} (hq : q < n) : (q : Int) = ((atZ n j q : Nat) : Int) := by
  unfold atZ
  rw [if_pos hq]
theorem turn_le {k : Int} {i : Nat} (hk : 3 ≤ k ∧ k ≤ 6) (hi : i < k.toNat) : (i : Int) ≤ 6 := by omega
theorem pow_small {k : Int} {i : Nat} (hk : 3 ≤ k ∧ k ≤ 6) (hi : i < k.toNat) : P2 (i : Int) = ((2 ^ i : Nat) : Int) ∧ 1 ≤ 2 ^ i ∧ 2 ^ i ≤ 32 := by
  refine ⟨pow_nat, Nat.two_pow_pos i, ?_⟩
  exact Nat.pow_le_pow_right (n := 2) (by decide) (show i ≤ 5 by omega)
def atExpr : PySem.Expr := stVal (nth forBody 1)
def ifTest : PySem.Expr := stTest (nth forBody 3)
set_option maxRecDepth 100000 in
set_option maxHeartbeats 8000000 in
theorem at_c (w : World) (mean : ExcName → Option Value) (mg mb : PySem.Str → Option Value) (h₀ : Heap) (L fa : Addr) (cd : Value) (Bw : Below callerA h₀ [] h₀) (X : (hd.heap_39 w.params).In h₀)
    (T : Top hd.view_39 (looseW hd.view_39 [Str.ofString "RECKONINGS", Str.ofString "FOLDED"]) mean mg mb h₀) (m : PySem.Str → Option Value)
    (SL : Addr) (vs : List Value) (c2 : Nat) (o3 o4 o5 : Obj) (tj tr tq : Tok) (n j q : Nat) (hn1 : j < n) (hn2 : n ≤ 64) (hq1 : 1 ≤ q ∧ q ≤ 32) (hlen : vs.length = n)
    (d3 : o3.data = .cell (some (.ref SL))) (d4 : o4.data = .cell (some (.int ((n : Int) - (j : Int)) tr))) (d5 : o5.data = .cell (some (.int (q : Int) tq))) (s : Shared) (Q : Value → Shared → Prop)
    (F : Fr h₀ L s.heap (fun y => if y = Str.ofString "ahead" then some (.int (j : Int) tj) else m y)) (N : News h₀ L s.heap [(SL, listOf vs.toArray c2), (L + 1 + 1 + 1 + 1 + 1, o5), (L + 1 + 1 + 1 + 1, o4), (L + 1 + 1 + 1, o3)])
    (hq : ∀ (t : Tok) (tk' : Nat), Q (.int ((atZ n j q : Nat) : Int) t) { s with toks := tk' }) :
    wpAny (model PySem.Challenge.rw_xm0620_01.row.prog w) (callerA.deeper (lawEnv L fa cd)) (eval atExpr (lawEnv L fa cd)) Q (fun _ _ => False) s := by
  revert X; k_fill; intro X
  conv in atExpr => whnf
  unfold lawEnv
  conv in lawScope => whnf
  have hr : @Ne Int ((n : Int) - (j : Int)) 0 := by omega
  by_cases hlt : q < n
  · have hA := at_low (j := j) hlt
    rw [← hA] at hq
    repeat' (first
    | (with_reducible refine ite_t (by omega) ?_; (try dsimp only))
    | (with_reducible refine ite_f (by omega) ?_; (try dsimp only))
    | (with_reducible refine ite_bt (by omega) ?_; (try dsimp only))
    | (with_reducible refine ite_et (by omega) ?_; (try dsimp only))
    | (with_reducible refine ite_ef (by omega) ?_; (try dsimp only))
    | (with_reducible refine ite_bf (by omega) ?_; (try dsimp only))
    | (k_here; (with_reducible show wpAny _ _ (call (Value.builtin "len") [Value.ref _]) _ _ _); k_dflt (refine kst_len (by k_asm) (by k_memK) hlen (by omega) ?_))
    | (k_unfold; (try dsimp only)) | (k_end; wrow_close) | walk1 | (dsimp only; walk1) | (leave1; (try dsimp only)))
    all_goals exact hq _ _
  · have hA := at_int hn1 hlt
    rw [← hA] at hq
    repeat' (first
    | (with_reducible refine ite_t (by omega) ?_; (try dsimp only))
    | (with_reducible refine ite_f (by omega) ?_; (try dsimp only))
    | (with_reducible refine ite_bt (by omega) ?_; (try dsimp only))
    | (with_reducible refine ite_et (by omega) ?_; (try dsimp only))
    | (with_reducible refine ite_ef (by omega) ?_; (try dsimp only))
    | (with_reducible refine ite_bf (by omega) ?_; (try dsimp only))
    | (k_here; (with_reducible show wpAny _ _ (call (Value.builtin "len") [Value.ref _]) _ _ _); k_dflt (refine kst_len (by k_asm) (by k_memK) hlen (by omega) ?_))
    | (k_unfold; (try dsimp only)) | (k_end; wrow_close) | walk1 | (dsimp only; walk1) | (leave1; (try dsimp only)))
    all_goals exact hq _ _
set_option maxRecDepth 100000 in
set_option maxHeartbeats 8000000 in
theorem if_c (w : World) (mean : ExcName → Option Value) (mg mb : PySem.Str → Option Value) (h₀ : Heap) (L fa : Addr) (cd : Value) (Bw : Below callerA h₀ [] h₀) (X : (hd.heap_39 w.params).In h₀)
    (T : Top hd.view_39 (looseW hd.view_39 [Str.ofString "RECKONINGS", Str.ofString "FOLDED"]) mean mg mb h₀) (m : PySem.Str → Option Value)
    (ra I SL x9 dx9 : Addr) (vs : List Value) (c2 : Nat) (oI oR oD o2 o3 o4 o5 : Obj) (ta tr tq : Tok) (k a c f : Int) (n j q : Nat) (hcase : (a.fmod 2 = 0) ∨ (a.fmod 2 = 1 ∧ j = 0)) (hn1 : j < n) (hn2 : n ≤ 64) (hq1 : 1 ≤ q ∧ q ≤ 32) (hI : IntsAre vs (orbL k a c f n))
    (hleap : ∀ here, a.fmod 2 = 1 → j = 0 → ((q : Nat) : Int) ∣ orb k a c f ((here + q) % n) - orb k a c f here)
    (d3 : o3.data = .cell (some (.ref SL))) (d4 : o4.data = .cell (some (.int ((n : Int) - (j : Int)) tr))) (d5 : o5.data = .cell (some (.int (q : Int) tq))) (s : Shared) (Q : Bool → Shared → Prop)
    (F : Fr h₀ L s.heap (fun y => if y = Str.ofString "a" then some (.int a ta) else m y)) (N : News h₀ L s.heap [(I, oI), (ra, oR), (SL, listOf vs.toArray c2), (x9, instObj 53 dx9), (dx9, oD), (L + 1 + 1 + 1 + 1 + 1, o5), (L + 1 + 1 + 1 + 1, o4), (L + 1 + 1 + 1, o3), (L + 1 + 1, o2)])
    (hq : ∀ (h' : Heap) (tk' : Nat), Fr h₀ L h' (fun y => if y = Str.ofString "a" then some (.int a ta) else m y) → News h₀ L h' [(I, oI), (ra, oR), (SL, listOf vs.toArray c2), (x9, instObj 53 dx9), (dx9, oD), (L + 1 + 1 + 1 + 1 + 1, o5), (L + 1 + 1 + 1 + 1, o4), (L + 1 + 1 + 1, o3), (L + 1 + 1, o2)] → Q false { s with heap := h', toks := tk' }) :
    wpAny (model PySem.Challenge.rw_xm0620_01.row.prog w) (callerA.deeper (lawEnv L fa cd)) (isTrue ifTest (lawEnv L fa cd) (eval ifTest (lawEnv L fa cd))) Q (fun _ _ => False) s := by
  revert X; k_fill; intro X
  conv in ifTest => whnf
  conv in ifTest => whnf
  unfold lawEnv
  conv in lawScope => whnf
  rcases hcase with e1 | ⟨e1, e2⟩
  all_goals (repeat' (first
    | (with_reducible refine ite_t (by omega) ?_; (try dsimp only))
    | (with_reducible refine ite_f (by omega) ?_; (try dsimp only))
    | (with_reducible refine ite_bt (by omega) ?_; (try dsimp only))
    | (with_reducible refine ite_et (by omega) ?_; (try dsimp only))
    | (with_reducible refine ite_ef (by omega) ?_; (try dsimp only))
    | (with_reducible refine ite_bf (by omega) ?_; (try dsimp only))
    | (k_here; (with_reducible show wpAny _ _ (eval (PySem.Expr.ListComp _ _ _ _) _) _ _ _); refine filt_range (by k_asm) (by rfl) (by decide) (by rfl) (by decide) (by rfl) ?_)
    | ((with_reducible show FiltR _ _ _ _ _ _ _ _ _ _ _ _ _ _); k_dflt (refine ⟨_, _, _, _, _, n, _, rfl, by rfl, by k_asm, by k_asm, by assumption, small_one (by omega) (by omega) (by omega) (by omega), by rw [rangeSize_nat]; omega, by rw [PySem.sizeLine_eq]; omega, (by intro C oC y v m₂ s₃ hP hC hx F3 N3; (obtain ⟨hy, t, rfl⟩ := hP); exact test2_c w mean mg mb h₀ L fa cd Bw X T _ k a c f n j q y e2 hy hn2 hq1 (hleap y e1 e2) SL vs c2 hI o3 o4 _ tr _ d3 d4 (by assumption) C oC m₂ _ (by omega) t hC hx s₃ F3 (cb_drop N3 (by lcg_sub))), ?_⟩); intro D nn h8 tk8 F8 N8 o8; (try dsimp only); (try k_fold))
    | (k_unfold; (try dsimp only)) | (k_end; wrow_close) | walk1 | (dsimp only; walk1) | (leave1; (try dsimp only))))
  all_goals (rename News _ _ _ _ => NZ; exact hq _ _ (by assumption) (cb_drop NZ (by lcg_sub)))
set_option maxRecDepth 100000 in
set_option maxHeartbeats 8000000 in
theorem law_T (w : World) (mean : ExcName → Option Value) (mg mb : PySem.Str → Option Value) (h₀ : Heap) (L fa : Addr) (cd : Value) (Bw : Below callerA h₀ [] h₀) (X : (hd.heap_39 w.params).In h₀)
    (T : Top hd.view_39 (looseW hd.view_39 [Str.ofString "RECKONINGS", Str.ofString "FOLDED"]) mean mg mb h₀) (m₀ : PySem.Str → Option Value)
    (k M : Int) (tk tM : Tok) (hk : 3 ≤ k ∧ k ≤ 6) (hM : M = P2 k) (x9 dx9 SL : Addr) (vs : List Value) (c2 : Nat) (oD : Obj) (hD : LimDict k tk oD) (o2 o3 o4 o5 : Obj)
    (a c f : Int) (ta tj tf tr : Tok) (n j : Nat) (ha : InW k a) (hc : InW k c) (hf : InW k f) (hW : Way k a c f n j) (hI : IntsAre vs (orbL k a c f n)) (hcase : (a.fmod 2 = 0) ∨ (a.fmod 2 = 1 ∧ j = 0))
    (d2 : o2.data = .cell (some (.int M tM))) (d3 : o3.data = .cell (some (.ref SL))) (d4 : o4.data = .cell (some (.int ((n : Int) - (j : Int)) tr))) (vv5 : Option Value) (d5 : o5.data = .cell vv5)
    (l0 : @LT.lt Nat _ (L + 1 + 1 + 1 + 1 + 1) dx9) (l4 : @LT.lt Nat _ dx9 x9) (l5 : @LT.lt Nat _ x9 SL) (ra I : Addr) (oI : Obj) (tA tC : Tok) (cn : Nat) (l6 : @LT.lt Nat _ (L + 1 + 1 + 1 + 1 + 1) ra) (i : Nat) (hi : i < k.toNat) (ti : Tok)
    (nI1 : @Ne Nat ra I) (nI2 : @Ne Nat SL I) (nI3 : @Ne Nat x9 I) (nI4 : @Ne Nat dx9 I) (nI5 : @Ne Nat (L + 1 + 1 + 1 + 1 + 1) I) (nI6 : @Ne Nat (L + 1 + 1 + 1 + 1) I) (nI7 : @Ne Nat (L + 1 + 1 + 1) I) (nI8 : @Ne Nat (L + 1 + 1) I)
    (s : Shared) (h : Heap) (tkh : Nat) (Q : Flow → Shared → Prop)
    (F : Fr h₀ L h (fun y => if y = Str.ofString "turn" then some (.int (i : Int) ti) else if y = Str.ofString "rule" then some (.ref ra) else if y = Str.ofString "ahead" then some (.int (j : Int) tj) else if y = Str.ofString "first" then some (.int f tf) else if y = Str.ofString "a" then some (.int a ta) else if y = Str.ofString "limits" then some (.ref x9) else if y = Str.ofString "bits" then some (.int k tk) else m₀ y))
    (N : News h₀ L h [(I, oI), (ra, tupO (rul k a c i).1 tA (rul k a c i).2 tC cn), (SL, listOf vs.toArray c2), (x9, instObj 53 dx9), (dx9, oD), (L + 1 + 1 + 1 + 1 + 1, o5), (L + 1 + 1 + 1 + 1, o4), (L + 1 + 1 + 1, o3), (L + 1 + 1, o2)]) :
    wpAny (model PySem.Challenge.rw_xm0620_01.row.prog w) (callerA.deeper (lawEnv L fa cd)) (execs forBody (lawEnv L fa cd)) (TurnE h₀ L I oI s (LoopJ L a c f k ta tj tf tk j x9 dx9 SL vs c2 oD o2 o3 o4 (i + 1)) Q) (fun _ _ => False) { s with heap := h, toks := tkh } := by
  revert X; k_fill; intro X
  conv in forBody => whnf
  unfold lawEnv
  conv in lawScope => whnf
  obtain ⟨hp2, hq1, hq2⟩ := pow_small hk hi
  have hi0 : (0 : Int) ≤ (i : Int) := Int.natCast_nonneg i
  have hi6 := turn_le hk hi
  have hLS := leap_step (a := a) (c := c) hk hf i
  have hn1 := hW.jlt
  have hn2 := hW.nle
  have hlen : vs.length = n := by rw [hI.length]; simp [orbL]
  have hrn := rul_in hk ha hc i
  have hz := orbL_get (k := k) (a := a) (c := c) (x0 := f) (atZ_lt (i := 2 ^ i) hn1)
  have hz2 := atZ_lt (i := 2 ^ i) hn1
  rw [hW.at (2 ^ i)] at hLS
  have hleap : ∀ here, a.fmod 2 = 1 → j = 0 → ((2 ^ i : Nat) : Int) ∣ orb k a c f ((here + 2 ^ i) % n) - orb k a c f here := fun here h1 h2 => by
    subst h2
    have := odd_leap hW hk (by rw [← h1]; exact (Int.fmod_eq_emod_of_nonneg a (by decide)).symm) i (by omega) here
    rwa [show ((2 : Int) ^ i) = ((2 ^ i : Nat) : Int) by norm_cast] at this
  have hr1 := rul_succ_is k a c i
  generalize rul k a c i = R at *
  obtain ⟨R', hR'⟩ : ∃ R', rul k a c (i + 1) = R' := ⟨_, rfl⟩
  rw [hR'] at hr1
  generalize 2 ^ i = q at *
  have hr : @Ne Int ((n : Int) - (j : Int)) 0 := by omega
  have iA := inW_small hk hrn.1
  have iC := inW_small hk hrn.2
  have iF := inW_small hk hf
  repeat' (first
    | (k_here; (with_reducible show wpAny _ _ (binaryOp Operator.LShift (Value.int 1 _) (Value.int _ _)) _ _ _); refine shl_rule ⟨hi0, hi6⟩ ?_; intro ML hML hMLb; (try dsimp only); rw [hp2] at hML; subst hML)
    | (with_reducible refine ite_bf (by omega) ?_; (try dsimp only))
    | (k_here; (with_reducible show wpAny _ _ (eval (PySem.Expr.IfExp _ _ _ _) _) _ _ _); rename Fr _ _ _ _ => FZ; rename News _ _ _ _ => NZ; (refine at_c w mean mg mb h₀ L fa cd Bw X T _ SL vs c2 o3 o4 _ tj tr _ n j q hn1 hn2 ⟨hq1, hq2⟩ hlen d3 d4 (by assumption) _ _ (fr_map FZ (map_same (by rfl))) (cb_drop NZ (by lcg_sub)) ?_); intro tA9 tkA9; (try dsimp only))
    | (k_here; (with_reducible show wpAny _ _ (isTrue (PySem.Expr.BoolOp _ _ _) _ _) _ _ _); rename Fr _ _ _ _ => FZ; rename News _ _ _ _ => NZ; (refine if_c w mean mg mb h₀ L fa cd Bw X T _ ra I SL x9 dx9 vs c2 oI _ oD o2 o3 o4 _ ta tr _ k a c f n j q hcase hn1 hn2 ⟨hq1, hq2⟩ hI hleap d3 d4 (by assumption) _ _ (fr_map FZ (map_same (by rfl))) NZ ?_); intro hB9 tkB9 FB9 NB9; (try dsimp only); replace FB9 := fr_map FB9 (map_same (by rfl)).symm; (try k_fold))
    | (k_here; (with_reducible show wpAny _ _ (subscriptTail _ _ (Value.ref _) (Value.int _ _)) _ _ _); k_dflt (refine item_seen (by k_asm) (by k_memK) hI hz rfl (by omega) ?_ (by with_unfolding_all rfl)); intro tS; (try dsimp only))
    | (k_here; (with_reducible show wpAny _ _ (call (Value.ref 218) _) _ _ _); k_dflt (refine' gone_u _ _ _ _ (by k_asm) (by k_asm) (by k_asm) (by k_asm) (by k_asm) (by first | exact rfl | assumption) (by k_memK) (by k_memK) (by k_memK) hD ⟨hk, iA, iC, iF⟩ (by exact Nat.le_of_ble_eq_true rfl) (by exact Nat.le_of_ble_eq_true rfl) ?_); (dsimp only [RetI]; intro t9 h9 tk9 F9 N9; (try dsimp only); (try k_fold)))
    | (k_here; (with_reducible show wpAny _ _ (call (Value.ref 225) _) _ _ _); k_dflt (refine' twice_u _ _ _ _ (by k_asm) (by k_asm) (by k_asm) (by k_asm) (by k_asm) (by first | exact rfl | assumption) (by k_memK) (by k_memK) (by k_memK) hD ⟨hk, iA, iC⟩ (by exact Nat.le_of_ble_eq_true rfl) (by exact Nat.le_of_ble_eq_true rfl) ?_); (dsimp only [RetT]; intro D9 t91 t92 c9 h9 tk9 F9 N9 lt9; simp only [AllLt, and_true] at lt9; rw [hr1.1, hr1.2] at N9; (try dsimp only); (try k_fold)))
    | (k_unfold; (try dsimp only)) | (k_end; wrow_close) | walk1 | (dsimp only; walk1) | (leave1; (try dsimp only)))
  all_goals (rename (_ = Data.cell (some (Value.int (q : Int) _))) => dZ; rename News _ _ _ _ => NZ; rename Fr _ _ _ _ => FZ; dsimp only [TurnE, LoopJ]; rw [hR']; refine ⟨_, _, _, _, rfl, FZ, ?_, ?_, D9, t91, t92, c9, _, _, ?_, dZ, rfl, rfl, rfl, rfl, rfl, rfl, rfl⟩; (exact cb_drop NZ (by lcg_sub)); (intro p hp; simp only [List.mem_cons, List.not_mem_nil, or_false] at hp; rcases hp with rfl | rfl | rfl | rfl | rfl | rfl | rfl | rfl <;> (refine neN ?_; omega)); omega)
/-- a map that holds these names, laid open -/
theorem open_map {m : PySem.Str → Option Value} {v1 v2 v3 v4 v5 v6 : Value} (e1 : m (Str.ofString "rule") = some v1) (e2 : m (Str.ofString "ahead") = some v2) (e3 : m (Str.ofString "first") = some v3) (e4 : m (Str.ofString "a") = some v4) (e5 : m (Str.ofString "limits") = some v5) (e6 : m (Str.ofString "bits") = some v6) :
    m = fun y => if y = Str.ofString "rule" then some v1 else if y = Str.ofString "ahead" then some v2 else if y = Str.ofString "first" then some v3 else if y = Str.ofString "a" then some v4 else if y = Str.ofString "limits" then some v5 else if y = Str.ofString "bits" then some v6 else m y := by
  funext y
  by_cases h1 : y = Str.ofString "rule"
  · rw [if_pos h1, h1, e1]
  · rw [if_neg h1]
    by_cases h2 : y = Str.ofString "ahead"
    · rw [if_pos h2, h2, e2]
    · rw [if_neg h2]
      by_cases h3 : y = Str.ofString "first"
      · rw [if_pos h3, h3, e3]
      · rw [if_neg h3]
        by_cases h4 : y = Str.ofString "a"
        · rw [if_pos h4, h4, e4]
        · rw [if_neg h4]
          by_cases h5 : y = Str.ofString "limits"
          · rw [if_pos h5, h5, e5]
          · rw [if_neg h5]
            by_cases h6 : y = Str.ofString "bits"
            · rw [if_pos h6, h6, e6]
            · rw [if_neg h6]
theorem turn_map {m : PySem.Str → Option Value} {v0 v1 v2 v3 v4 v5 v6 : Value} (e1 : m (Str.ofString "rule") = some v1) (e2 : m (Str.ofString "ahead") = some v2) (e3 : m (Str.ofString "first") = some v3) (e4 : m (Str.ofString "a") = some v4) (e5 : m (Str.ofString "limits") = some v5) (e6 : m (Str.ofString "bits") = some v6) :
    (fun y => if y = Str.ofString "turn" then some v0 else m y) = fun y => if y = Str.ofString "turn" then some v0 else if y = Str.ofString "rule" then some v1 else if y = Str.ofString "ahead" then some v2 else if y = Str.ofString "first" then some v3 else if y = Str.ofString "a" then some v4 else if y = Str.ofString "limits" then some v5 else if y = Str.ofString "bits" then some v6 else m y := by
  funext y
  by_cases h0 : y = Str.ofString "turn"
  · rw [if_pos h0, if_pos h0]
  · rw [if_neg h0, if_neg h0]
    exact congrFun (open_map e1 e2 e3 e4 e5 e6) y
set_option maxRecDepth 100000 in
set_option maxHeartbeats 8000000 in
theorem law_D (w : World) (mean : ExcName → Option Value) (mg mb : PySem.Str → Option Value) (h₀ : Heap) (L fa : Addr) (cd : Value) (Bw : Below callerA h₀ [] h₀) (X : (hd.heap_39 w.params).In h₀)
    (T : Top hd.view_39 (looseW hd.view_39 [Str.ofString "RECKONINGS", Str.ofString "FOLDED"]) mean mg mb h₀)
    (k M : Int) (tk tM : Tok) (hk : 3 ≤ k ∧ k ≤ 6) (hM : M = P2 k) (x9 dx9 SL : Addr) (vs : List Value) (c2 : Nat) (oD : Obj) (hD : LimDict k tk oD) (o2 o3 o4 : Obj)
    (a c f : Int) (ta tj tf tr : Tok) (n j : Nat) (ha : InW k a) (hc : InW k c) (hf : InW k f) (hW : Way k a c f n j) (hI : IntsAre vs (orbL k a c f n)) (hcase : (a.fmod 2 = 0) ∨ (a.fmod 2 = 1 ∧ j = 0))
    (d2 : o2.data = .cell (some (.int M tM))) (d3 : o3.data = .cell (some (.ref SL))) (d4 : o4.data = .cell (some (.int ((n : Int) - (j : Int)) tr)))
    (l0 : @LT.lt Nat _ (L + 1 + 1 + 1 + 1 + 1) dx9) (l4 : @LT.lt Nat _ dx9 x9) (l5 : @LT.lt Nat _ x9 SL) (m₁ : PySem.Str → Option Value) (nx : List (Addr × Obj)) (s : Shared) (Q : Flow → Shared → Prop)
    (hJ : LoopJ L a c f k ta tj tf tk j x9 dx9 SL vs c2 oD o2 o3 o4 0 m₁ nx) (F : Fr h₀ L s.heap m₁) (N : News h₀ L s.heap nx)
    (hret : ∀ (m' : PySem.Str → Option Value) (h' : Heap) (tk' : Nat), Fr h₀ L h' m' → Q (.ret (.bool true)) { s with heap := h', toks := tk' }) :
    wpAny (model PySem.Challenge.rw_xm0620_01.row.prog w) (callerA.deeper (lawEnv L fa cd)) (execs (List.drop 13 lawBody) (lawEnv L fa cd)) Q (fun _ _ => False) s := by
  have hT := law_T w mean mg mb h₀ L fa cd Bw X T
  revert X; k_fill; intro X
  conv in (List.drop 13 lawBody) => whnf
  have F' := F
  have hJ' := hJ
  obtain ⟨ra, tA, tC, cn, o5, vv5, l6, d5, rfl, e1, e2, e3, e4, e5, e6⟩ := hJ'
  replace F' := fr_map F' (open_map e1 e2 e3 e4 e5 e6)
  clear F
  refine wpAny_execs_cons ?_
  refine For_invV h₀ (by rfl) (by rfl) ?_
  repeat' (first | ((fail_if_success (k_here; (with_reducible show wpAny _ _ (pyIter _) _ _ _))); (first | (k_unfold; (try dsimp only)) | (k_end; wrow_close) | walk1 | (dsimp only; walk1) | (leave1; (try dsimp only)))))
  rename IsRange _ _ _ _ _ _ _ _ => hR
  refine range_own (LoopJ L a c f k ta tj tf tk j x9 dx9 SL vs c2 oD o2 o3 o4) (n := k.toNat) (by rfl) hR (small_one (by omega) (by omega) (by omega) (by omega)) (by rw [rangeSize_nat]; omega) (by assumption) (by assumption) ⟨ra, tA, tC, cn, o5, vv5, l6, d5, rfl, rfl, rfl, rfl, rfl, rfl, rfl⟩ ?_ ?_
  · intro i t m₂ nx h tk₁ I oI hi hj2 hoff F2 N2
    obtain ⟨ra', tA', tC', cn', o5', vv5', l6', d5', rfl, g1, g2, g3, g4, g5, g6⟩ := hj2
    have ho : ∀ p ∈ [(ra', tupO (rul k a c i).1 tA' (rul k a c i).2 tC' cn'), (SL, listOf vs.toArray c2), (x9, instObj 53 dx9), (dx9, oD), (L + 1 + 1 + 1 + 1 + 1, o5'), (L + 1 + 1 + 1 + 1, o4), (L + 1 + 1 + 1, o3), (L + 1 + 1, o2)], @Ne Nat p.1 I := hoff
    simp only [List.forall_mem_cons] at ho
    exact hT m₂ k M tk tM hk hM x9 dx9 SL vs c2 oD hD o2 o3 o4 o5' a c f ta tj tf tr n j ha hc hf hW hI hcase d2 d3 d4 vv5' d5' l0 l4 l5 ra' I oI tA' tC' cn' l6' i hi t ho.1 ho.2.1 ho.2.2.1 ho.2.2.2.1 ho.2.2.2.2.1 ho.2.2.2.2.2.1 ho.2.2.2.2.2.2.1 ho.2.2.2.2.2.2.2.1 _ h tk₁ _ (fr_map F2 (turn_map g1 g2 g3 g4 g5 g6)) N2
  · intro m₂ nx h tk₁ hj2 F2 N2
    obtain ⟨ra', tA', tC', cn', o5', vv5', l6', d5', rfl, g1, g2, g3, g4, g5, g6⟩ := hj2
    replace F2 := fr_map F2 (open_map g1 g2 g3 g4 g5 g6)
    clear hT e1 e2 e3 e4 e5 e6 hJ d5 l6
    have hn1 := hW.jlt
    have hn2 := hW.nle
    have hz := orbL_get (k := k) (a := a) (c := c) (x0 := f) hn1
    dsimp only
    rcases hcase with hp | ⟨hp, hq⟩
    · have hR := even_end hW hk hf ha hc (by rw [← hp]; exact (Int.fmod_eq_emod_of_nonneg a (by decide)).symm)
      simp only [hR] at N2
      repeat' (first
    | (with_reducible refine ite_t (by omega) ?_; (try dsimp only))
    | (with_reducible refine ite_f (by omega) ?_; (try dsimp only))
    | (with_reducible refine ite_et (by omega) ?_; (try dsimp only))
    | (with_reducible refine ite_ef (by omega) ?_; (try dsimp only))
    | (k_here; (with_reducible show wpAny _ _ (subscriptTail _ _ (Value.ref _) (Value.int _ _)) _ _ _); k_dflt (refine item_seen (by k_asm) (by k_memK) hI hz rfl (by omega) ?_ (by with_unfolding_all rfl)); intro tS; (try dsimp only))
    | (k_unfold; (try dsimp only)) | (k_end; wrow_close) | walk1 | (dsimp only; walk1) | (leave1; (try dsimp only)))
      all_goals first | exact hret _ _ _ (by assumption)
    · have hR := rul_odd_end hk ha hc (by rw [← hp]; exact (Int.fmod_eq_emod_of_nonneg a (by decide)).symm)
      simp only [hR] at N2
      repeat' (first
    | (with_reducible refine ite_t (by omega) ?_; (try dsimp only))
    | (with_reducible refine ite_f (by omega) ?_; (try dsimp only))
    | (with_reducible refine ite_et (by omega) ?_; (try dsimp only))
    | (with_reducible refine ite_ef (by omega) ?_; (try dsimp only))
    | (k_here; (with_reducible show wpAny _ _ (subscriptTail _ _ (Value.ref _) (Value.int _ _)) _ _ _); k_dflt (refine item_seen (by k_asm) (by k_memK) hI hz rfl (by omega) ?_ (by with_unfolding_all rfl)); intro tS; (try dsimp only))
    | (k_unfold; (try dsimp only)) | (k_end; wrow_close) | walk1 | (dsimp only; walk1) | (leave1; (try dsimp only)))
      all_goals first | exact hret _ _ _ (by assumption)
theorem law_D0 (w : World) (mean : ExcName → Option Value) (mg mb : PySem.Str → Option Value) (h₀ : Heap) (L fa : Addr) (cd : Value) (Bw : Below callerA h₀ [] h₀) (X : (hd.heap_39 w.params).In h₀)
    (T : Top hd.view_39 (looseW hd.view_39 [Str.ofString "RECKONINGS", Str.ofString "FOLDED"]) mean mg mb h₀)
    (k M : Int) (tk tM : Tok) (hk : 3 ≤ k ∧ k ≤ 6) (hM : M = P2 k) (x9 dx9 SL : Addr) (vs : List Value) (c2 : Nat) (oD : Obj) (hD : LimDict k tk oD) (o2 o3 o4 o5 : Obj)
    (a c f : Int) (ta tc tj tf tr : Tok) (n j : Nat) (ha : InW k a) (hc : InW k c) (hf : InW k f) (hW : Way k a c f n j) (hI : IntsAre vs (orbL k a c f n)) (hcase : (a.fmod 2 = 0) ∨ (a.fmod 2 = 1 ∧ j = 0))
    (d2 : o2.data = .cell (some (.int M tM))) (d3 : o3.data = .cell (some (.ref SL))) (d4 : o4.data = .cell (some (.int ((n : Int) - (j : Int)) tr))) (d5 : o5.data = .cell none)
    (l0 : @LT.lt Nat _ (L + 1 + 1 + 1 + 1 + 1) dx9) (l4 : @LT.lt Nat _ dx9 x9) (l5 : @LT.lt Nat _ x9 SL) (m₁ : PySem.Str → Option Value) (ra : Addr) (cn : Nat) (l6 : @LT.lt Nat _ (L + 1 + 1 + 1 + 1 + 1) ra) (s : Shared) (Q : Flow → Shared → Prop)
    (F : Fr h₀ L s.heap m₁) (e1 : m₁ (Str.ofString "rule") = some (.ref ra)) (e2 : m₁ (Str.ofString "ahead") = some (.int (j : Int) tj)) (e3 : m₁ (Str.ofString "first") = some (.int f tf)) (e4 : m₁ (Str.ofString "a") = some (.int a ta)) (e5 : m₁ (Str.ofString "limits") = some (.ref x9)) (e6 : m₁ (Str.ofString "bits") = some (.int k tk))
    (N : News h₀ L s.heap [(ra, tupO a ta c tc cn), (SL, listOf vs.toArray c2), (x9, instObj 53 dx9), (dx9, oD), (L + 1 + 1 + 1 + 1 + 1, o5), (L + 1 + 1 + 1 + 1, o4), (L + 1 + 1 + 1, o3), (L + 1 + 1, o2)])
    (hret : ∀ (m' : PySem.Str → Option Value) (h' : Heap) (tk' : Nat), Fr h₀ L h' m' → Q (.ret (.bool true)) { s with heap := h', toks := tk' }) :
    wpAny (model PySem.Challenge.rw_xm0620_01.row.prog w) (callerA.deeper (lawEnv L fa cd)) (execs (List.drop 13 lawBody) (lawEnv L fa cd)) Q (fun _ _ => False) s :=
  law_D w mean mg mb h₀ L fa cd Bw X T k M tk tM hk hM x9 dx9 SL vs c2 oD hD o2 o3 o4 a c f ta tj tf tr n j ha hc hf hW hI hcase d2 d3 d4 l0 l4 l5 m₁ _ s Q ⟨ra, ta, tc, cn, o5, none, l6, d5, rfl, e1, e2, e3, e4, e5, e6⟩ F N hret
theorem ne_bool_same {prog : Program} {w : World} {A : Around} {E : Value → Shared → Prop} {s : Shared} {c d : Bool} {Q : Value → Shared → Prop} (e : c = d) (h : ∀ tk, Q (.bool false) { s with toks := tk }) : wpAny (model prog w) A (compareOp .NotEq (.bool c) (.bool d)) Q E s := by
  subst e
  exact ne_bool (by rw [bne_self_eq_false]; exact h s.toks)
theorem fmod4 (x : Int) : x.fmod 4 = x % 4 := Int.fmod_eq_emod_of_nonneg x (by decide)
theorem orbL_in {k a c x0 z : Int} {n i : Nat} (hk : 3 ≤ k ∧ k ≤ 6) (h0 : InW k x0) (h : (orbL k a c x0 n)[i]? = some z) : InW k z := by
  unfold orbL at h
  rw [List.getElem?_map] at h
  obtain ⟨q, _, rfl⟩ := Option.map_eq_some_iff.mp h
  exact orb_in hk h0 _
def ifA : PySem.Expr := stTest (nth lawBody 10)
def ifB : PySem.Expr := stTest (nth lawBody 11)
/-- where the numbers of the orbit stand -/
def WayC (M a c k : Int) (n j : Nat) : Prop :=
  (a.fmod 2 = 0 ∧ (n : Int) - (j : Int) = 1 ∧ (j : Int) ≤ k) ∨ (a.fmod 2 = 1 ∧ (j : Int) = 0 ∧ M.fmod ((n : Int) - (j : Int)) = 0 ∧ (n : Int) = M ∧ c.fmod 2 = 1 ∧ a.fmod 4 = 1) ∨
    (a.fmod 2 = 1 ∧ (j : Int) = 0 ∧ M.fmod ((n : Int) - (j : Int)) = 0 ∧ (n : Int) ≠ M ∧ c.fmod 2 = 0) ∨ (a.fmod 2 = 1 ∧ (j : Int) = 0 ∧ M.fmod ((n : Int) - (j : Int)) = 0 ∧ (n : Int) ≠ M ∧ c.fmod 2 = 1 ∧ a.fmod 4 = 3)
set_option maxRecDepth 100000 in
set_option maxHeartbeats 8000000 in
theorem ifA_c (w : World) (mean : ExcName → Option Value) (mg mb : PySem.Str → Option Value) (h₀ : Heap) (L fa : Addr) (cd : Value) (Bw : Below callerA h₀ [] h₀) (X : (hd.heap_39 w.params).In h₀)
    (T : Top hd.view_39 (looseW hd.view_39 [Str.ofString "RECKONINGS", Str.ofString "FOLDED"]) mean mg mb h₀) (m : PySem.Str → Option Value)
    (M k a c f : Int) (tM tr tj tf tc ta tk : Tok) (n j : Nat) (x9 : Addr) (o2 o4 : Obj) (hr : @Ne Int ((n : Int) - (j : Int)) 0) (hw : WayC M a c k n j)
    (d2 : o2.data = .cell (some (.int M tM))) (d4 : o4.data = .cell (some (.int ((n : Int) - (j : Int)) tr))) (s : Shared) (Q : Bool → Shared → Prop)
    (F : Fr h₀ L s.heap (fun y => if y = Str.ofString "ahead" then some (.int (j : Int) tj) else if y = Str.ofString "first" then some (.int f tf) else if y = Str.ofString "c" then some (.int c tc) else if y = Str.ofString "a" then some (.int a ta) else if y = Str.ofString "limits" then some (.ref x9) else if y = Str.ofString "bits" then some (.int k tk) else m y)) (N : News h₀ L s.heap [(L + 1 + 1 + 1 + 1, o4), (L + 1 + 1, o2)])
    (hq : ∀ (tk' : Nat), Q false { s with toks := tk' }) :
    wpAny (model PySem.Challenge.rw_xm0620_01.row.prog w) (callerA.deeper (lawEnv L fa cd)) (isTrue ifA (lawEnv L fa cd) (eval ifA (lawEnv L fa cd))) Q (fun _ _ => False) s := by
  revert X; k_fill; intro X
  conv in ifA => whnf
  conv in ifA => whnf
  unfold lawEnv
  conv in lawScope => whnf
  rcases hw with ⟨e1, e2, e3⟩ | ⟨e1, e2, e3, e4, e5, e6⟩ | ⟨e1, e2, e3, e4, e5⟩ | ⟨e1, e2, e3, e4, e5, e6⟩
  all_goals (repeat' (first
    | (with_reducible refine ite_t (by omega) ?_; (try dsimp only))
    | (with_reducible refine ite_f (by omega) ?_; (try dsimp only))
    | (with_reducible refine ite_bt (by omega) ?_; (try dsimp only))
    | (with_reducible refine ite_et (by omega) ?_; (try dsimp only))
    | (with_reducible refine ite_ef (by omega) ?_; (try dsimp only))
    | (with_reducible refine ite_bf (by omega) ?_; (try dsimp only))
    | (k_here; (with_reducible show wpAny _ _ (compareOp CmpOp.NotEq (Value.bool _) (Value.bool _)) _ _ _); refine ne_bool_same (by first | exact decide_eq_decide.mpr (by omega) | exact decide_eq_false (by omega)) ?_; intro tkZ; dsimp only)
    | (k_unfold; (try dsimp only)) | (k_end; wrow_close) | walk1 | (dsimp only; walk1) | (leave1; (try dsimp only))))
  all_goals exact hq _
set_option maxRecDepth 100000 in
set_option maxHeartbeats 8000000 in
theorem ifB_c (w : World) (mean : ExcName → Option Value) (mg mb : PySem.Str → Option Value) (h₀ : Heap) (L fa : Addr) (cd : Value) (Bw : Below callerA h₀ [] h₀) (X : (hd.heap_39 w.params).In h₀)
    (T : Top hd.view_39 (looseW hd.view_39 [Str.ofString "RECKONINGS", Str.ofString "FOLDED"]) mean mg mb h₀) (m : PySem.Str → Option Value)
    (M k a c f : Int) (tM tr tj tf tc ta tk : Tok) (n j : Nat) (x9 : Addr) (o2 o4 : Obj) (hr : @Ne Int ((n : Int) - (j : Int)) 0) (hw : WayC M a c k n j)
    (d2 : o2.data = .cell (some (.int M tM))) (d4 : o4.data = .cell (some (.int ((n : Int) - (j : Int)) tr))) (s : Shared) (Q : Bool → Shared → Prop)
    (F : Fr h₀ L s.heap (fun y => if y = Str.ofString "ahead" then some (.int (j : Int) tj) else if y = Str.ofString "first" then some (.int f tf) else if y = Str.ofString "c" then some (.int c tc) else if y = Str.ofString "a" then some (.int a ta) else if y = Str.ofString "limits" then some (.ref x9) else if y = Str.ofString "bits" then some (.int k tk) else m y)) (N : News h₀ L s.heap [(L + 1 + 1 + 1 + 1, o4), (L + 1 + 1, o2)])
    (hq : ∀ (tk' : Nat), Q false { s with toks := tk' }) :
    wpAny (model PySem.Challenge.rw_xm0620_01.row.prog w) (callerA.deeper (lawEnv L fa cd)) (isTrue ifB (lawEnv L fa cd) (eval ifB (lawEnv L fa cd))) Q (fun _ _ => False) s := by
  revert X; k_fill; intro X
  conv in ifB => whnf
  conv in ifB => whnf
  unfold lawEnv
  conv in lawScope => whnf
  rcases hw with ⟨e1, e2, e3⟩ | ⟨e1, e2, e3, e4, e5, e6⟩ | ⟨e1, e2, e3, e4, e5⟩ | ⟨e1, e2, e3, e4, e5, e6⟩
  all_goals (repeat' (first
    | (with_reducible refine ite_t (by omega) ?_; (try dsimp only))
    | (with_reducible refine ite_f (by omega) ?_; (try dsimp only))
    | (with_reducible refine ite_bt (by omega) ?_; (try dsimp only))
    | (with_reducible refine ite_et (by omega) ?_; (try dsimp only))
    | (with_reducible refine ite_ef (by omega) ?_; (try dsimp only))
    | (with_reducible refine ite_bf (by omega) ?_; (try dsimp only))
    | (k_here; (with_reducible show wpAny _ _ (compareOp CmpOp.NotEq (Value.bool _) (Value.bool _)) _ _ _); refine ne_bool_same (by first | exact decide_eq_decide.mpr (by omega) | exact decide_eq_false (by omega)) ?_; intro tkZ; dsimp only)
    | (k_unfold; (try dsimp only)) | (k_end; wrow_close) | walk1 | (dsimp only; walk1) | (leave1; (try dsimp only))))
  all_goals exact hq _
set_option maxRecDepth 100000 in
set_option maxHeartbeats 8000000 in
theorem law_C (w : World) (mean : ExcName → Option Value) (mg mb : PySem.Str → Option Value) (h₀ : Heap) (L fa : Addr) (cd : Value) (Bw : Below callerA h₀ [] h₀) (X : (hd.heap_39 w.params).In h₀)
    (T : Top hd.view_39 (looseW hd.view_39 [Str.ofString "RECKONINGS", Str.ofString "FOLDED"]) mean mg mb h₀) (m₀ : PySem.Str → Option Value)
    (k M : Int) (tk tM : Tok) (hk : 3 ≤ k ∧ k ≤ 6) (hM : M = P2 k) (x9 dx9 : Addr) (oD : Obj) (hD : LimDict k tk oD) (o2 o3 o4 o5 : Obj)
    (d2 : o2.data = .cell (some (.int M tM))) (d3 : o3.data = .cell none) (d4 : o4.data = .cell none) (d5 : o5.data = .cell none)
    (l0 : @LT.lt Nat _ (L + 1 + 1 + 1 + 1 + 1) dx9) (l4 : @LT.lt Nat _ dx9 x9) (s : Shared) (Q : Flow → Shared → Prop)
    (a c f : Int) (ta tc tf : Tok) (ha : InW k a) (hc : InW k c) (hf : InW k f)
    (F : Fr h₀ L s.heap (fun y => if y = Str.ofString "first" then some (.int f tf) else if y = Str.ofString "c" then some (.int c tc) else if y = Str.ofString "a" then some (.int a ta) else if y = Str.ofString "limits" then some (.ref x9) else if y = Str.ofString "bits" then some (.int k tk) else m₀ y))
    (N : News h₀ L s.heap [(x9, instObj 53 dx9), (dx9, oD), (L + 1 + 1 + 1 + 1 + 1, o5), (L + 1 + 1 + 1 + 1, o4), (L + 1 + 1 + 1, o3), (L + 1 + 1, o2)]) (hret : ∀ (m' : PySem.Str → Option Value) (h' : Heap) (tk' : Nat), Fr h₀ L h' m' → Q (.ret (.bool true)) { s with heap := h', toks := tk' }) :
    wpAny (model PySem.Challenge.rw_xm0620_01.row.prog w) (callerA.deeper (lawEnv L fa cd)) (execs (List.drop 7 lawBody) (lawEnv L fa cd)) Q (fun _ _ => False) s := by
  revert X; k_fill; intro X
  conv in (List.drop 7 lawBody) => whnf
  unfold lawEnv
  conv in lawScope => whnf
  repeat' (first | ((fail_if_success (k_here; (with_reducible show wpAny _ _ (call (Value.ref 232) _) _ _ _))); (first | (k_unfold; (try dsimp only)) | (k_end; wrow_close) | walk1 | (dsimp only; walk1) | (leave1; (try dsimp only)))))
  k_dflt (refine' way_u _ _ _ _ (by k_asm) (by k_asm) (by k_asm) (by k_asm) (by k_asm) (by first | exact rfl | assumption) (by k_memK) (by k_memK) (by k_memK) hD ⟨hk, inW_small hk ha, inW_small hk hc, hf⟩ (by exact Nat.le_of_ble_eq_true rfl) (by exact Nat.le_of_ble_eq_true rfl) ?_)
  intro n j DT SL vs tj c1 c2 hh9 tkk9 hW hI F9 N9 lt1 lt2 lt3
  simp only [AllLt, and_true] at lt2 lt3
  replace lt1 := ltN lt1
  have hlen : vs.length = n := by rw [hI.length]; simp [orbL]
  have hn1 := hW.jlt
  have hn2 := hW.nle
  (try dsimp only)
  (try k_fold)
  repeat' (first | ((fail_if_success (k_here; (with_reducible show wpAny _ _ (eval (PySem.Expr.ListComp _ _ _ _) _) _ _ _))); (first | (k_here; (with_reducible show wpAny _ _ (call (Value.builtin "len") [Value.ref _]) _ _ _); k_dflt (refine kst_len (by k_asm) (by k_memK) hlen (by omega) ?_)) | (k_unfold; (try dsimp only)) | (k_end; wrow_close) | walk1 | (dsimp only; walk1) | (leave1; (try dsimp only)))))
  refine filt_list (by k_asm) (by rfl) (by decide) (by rfl) (by decide) (by rfl) ?_
  repeat' (first | ((with_reducible show wpAny _ _ _ _ _ _); (first | (k_unfold; (try dsimp only)) | (k_end; wrow_close) | walk1 | (dsimp only; walk1) | (leave1; (try dsimp only)))))
  refine ⟨_, _, _, _, rfl, by rfl, by k_asm, by k_asm, by k_memK, ?_, ?_, ?_⟩
  · rw [PySem.sizeLine_eq, List.size_toArray]; omega
  · intro C oC i v m₂ s₃ hP hC hx F3 N3
    obtain ⟨z, t, rfl, hz⟩ := ints_at hI (by simpa using hP)
    exact test1_c w mean mg mb h₀ L fa cd Bw X T _ k M tM hk hM o2 d2 C oC m₂ z t (orbL_in hk hf hz) hC hx s₃ F3 (cb_drop N3 (by lcg_sub))
  intro D nn hh8 tkk8 F8 N8 o8
  (try dsimp only)
  (try k_fold)
  have hr : @Ne Int ((n : Int) - (j : Int)) 0 := by omega
  have l5 : @LT.lt Nat _ x9 SL := by omega
  clear lt1 lt2 lt3 o8
  have hcs : (a.fmod 2 = 0) ∨ (a.fmod 2 = 1 ∧ j = 0) := by
    rcases way_cases hW hk hM hf ha hc with h | h | h | h <;> omega
  have hwc : WayC M a c k n j := way_cases hW hk hM hf ha hc
  repeat' (first
    | (k_here; (with_reducible show wpAny _ _ (isTrue (PySem.Expr.BoolOp _ _ _) _ _) _ _ _); rename Fr _ _ _ _ => FZ; rename News _ _ _ _ => NZ; rename (_ = Data.cell (some (Value.int ((n:Int) - (j:Int)) _))) => dR; first
      | (refine ifA_c w mean mg mb h₀ L fa cd Bw X T _ M k a c f tM _ tj tf tc ta _ n j x9 o2 _ hr hwc d2 dR _ _ FZ (cb_drop NZ (by lcg_sub)) ?_; intro tkZ; (try dsimp only))
      | (refine ifB_c w mean mg mb h₀ L fa cd Bw X T _ M k a c f tM _ tj tf tc ta _ n j x9 o2 _ hr hwc d2 dR _ _ FZ (cb_drop NZ (by lcg_sub)) ?_; intro tkZ; (try dsimp only)))
    | ((fail_if_success (k_here; (with_reducible show wpAny _ _ (execs (PySem.Stmt.For _ _ _ _ _ :: _) _) _ _ _))); (first | (k_unfold; (try dsimp only)) | (k_end; wrow_close) | walk1 | (dsimp only; walk1) | (leave1; (try dsimp only)))))
  (rename Fr _ _ _ _ => FZ; rename News _ _ _ _ => NZ; rename (_ = Data.cell (some (Value.ref SL))) => dS; rename (_ = Data.cell (some (Value.int ((n:Int) - (j:Int)) _))) => dR; refine law_D0 w mean mg mb h₀ L fa cd Bw X T k M _ tM hk hM x9 dx9 SL vs c2 oD hD o2 _ _ o5 a c f ta tc tj tf _ n j ha hc hf hW hI hcs d2 dS dR d5 l0 l4 l5 _ _ 0 ?_ _ _ FZ (by rfl) (by rfl) (by rfl) (by rfl) (by rfl) (by rfl) ?_ ?_; omega; exact cb_drop NZ (by lcg_sub); exact hret)
theorem open_map5 {m : PySem.Str → Option Value} {v1 v2 v3 v4 v5 : Value} (e1 : m (Str.ofString "first") = some v1) (e2 : m (Str.ofString "c") = some v2) (e3 : m (Str.ofString "a") = some v3) (e4 : m (Str.ofString "limits") = some v4) (e5 : m (Str.ofString "bits") = some v5) :
    m = fun y => if y = Str.ofString "first" then some v1 else if y = Str.ofString "c" then some v2 else if y = Str.ofString "a" then some v3 else if y = Str.ofString "limits" then some v4 else if y = Str.ofString "bits" then some v5 else m y := by
  funext y
  by_cases h1 : y = Str.ofString "first"
  · rw [if_pos h1, h1, e1]
  · rw [if_neg h1]
    by_cases h2 : y = Str.ofString "c"
    · rw [if_pos h2, h2, e2]
    · rw [if_neg h2]
      by_cases h3 : y = Str.ofString "a"
      · rw [if_pos h3, h3, e3]
      · rw [if_neg h3]
        by_cases h4 : y = Str.ofString "limits"
        · rw [if_pos h4, h4, e4]
        · rw [if_neg h4]
          by_cases h5 : y = Str.ofString "bits"
          · rw [if_pos h5, h5, e5]
          · rw [if_neg h5]
set_option maxRecDepth 100000 in
set_option maxHeartbeats 8000000 in
theorem cw : PySem.Challenge.rw_xm0620_01.Holds := hd (by
  k_go0
  all_goals (try k_fold)
  refine wpAny_mono (E := fun _ _ => False) ?_ (fun _ _ h => h) (fun _ _ h => h.elim)
  rename Fr _ _ _ _ => FX
  have FY : Fr _ _ _ (fun y => if y = Str.ofString "script" then some (Value.ref _) else none) := FX
  clear FX
  (repeat' (first
    | ((fail_if_success (k_here; (with_reducible show wpAny _ _ (execs (PySem.Stmt.Assign [PySem.Expr.Tuple [_, _, _] _ _] _ _ :: _) _) _ _ _))); first
      | (k_here; (with_reducible show wpAny _ _ (binaryOp Operator.LShift (Value.int 1 _) (Value.int _ _)) _ _ _); (refine' shl_rule ⟨by omega, by omega⟩ ?_); (intro M hM hMb; (try dsimp only)))
      | (k_here; (with_reducible show wpAny _ _ (call (Value.ref 211) [Value.ref _, Value.int _ _]) _ _ _); k_dflt (refine' got_u _ _ _ _ _ (by k_asm) (by k_asm) (by k_asm) (by k_asm) (by k_asm) (by first | exact rfl | assumption) (by k_memK) (by k_memK) (o1 := listOf #[] 0) (by k_upd) (by assumption) (by omega) (by exact rfl) (by exact Nat.le_of_ble_eq_true rfl) ⟨by omega, by omega⟩ (by refine neN ?_; omega) (by refine neN ?_; omega) (by exact Nat.le_of_ble_eq_true rfl) (by exact Nat.le_of_ble_eq_true rfl) ?_); (intro iG tG ttG h9 tk9 hG F9 N8; (have N9 := N8 _ (by k_upd)); clear N8; (try dsimp only); (try k_fold)))
      | (k_here; (with_reducible show wpAny _ _ (call (Value.ref 53) _ _) _ _ _); k_dflt (refine' lim_u _ _ _ _ (by k_asm) (by k_asm) (by k_asm) (by k_asm) (by k_asm) (by first | exact rfl | assumption) (by exact Nat.le_of_ble_eq_true rfl) (by exact Nat.le_of_ble_eq_true rfl) ?_); (dsimp only [RetM]; intro x9 dx9 oD hh9 tkL hD F9 N9 l1 l2; (try simp only [AllLt, and_true] at l1); (try k_lt2 l2); (try dsimp only); (try k_fold)))
      | (first | (k_unfold; (try dsimp only)) | (k_end; wrow_close) | walk1 | (dsimp only; walk1) | (leave1; (try dsimp only))))))
  rename News _ _ _ _ => NZ
  rename Fr _ _ _ _ => FZ
  rename IntsAre _ (List.take 5 _) => hI5
  refine law_B _ _ _ _ _ _ _ _ (by k_asm) (by k_asm) (by k_asm) (fun y => if y = Str.ofString "script" then some (Value.ref _) else none) (3 + iG) M _ ?tM ⟨by omega, by omega⟩ hM hMb ?S ?D0 ?D1 x9 dx9 _ _ ?c0 ?c1 ?c2 ?v0 oD hD ?o1 ?o2 ?o3 ?o4 ?o5 hI5 (by rw [List.length_take]; omega) ?d1 ?d2 ?l0 ?l1 ?l2 ?l3 ?l4 _ _ FZ ?N ?C
  case N =>
    refine cb_drop NZ ?_
    simp only [List.forall_mem_cons]
    refine ⟨?_, ?_, ?_, ?_, ?_, ?_, ?_, ?_, ?_, ?_, fun _ h => nomatch h⟩
    all_goals (repeat (first | exact List.Mem.head _ | apply List.Mem.tail))
  case d1 => assumption
  case d2 => assumption
  case l0 => omega
  case l1 => omega
  case l2 => omega
  case l3 => omega
  case l4 => omega
  intro a c f ta tc tf m' h' tk' ha hc hf e1 e2 e3 e4 e5 F5 N5
  refine law_C _ _ _ _ _ _ _ _ (by k_asm) (by k_asm) (by k_asm) m' (3 + iG) M _ ?tM ⟨by omega, by omega⟩ hM x9 dx9 oD hD _ _ _ _ ?d2 ?d3 ?d4 ?d5 ?l0 ?l4 _ _ a c f ta tc tf ha hc hf (fr_map F5 (open_map5 e3 e2 e1 e4 e5)) N5 ?hret
  case d2 => assumption
  case d3 => first | assumption | (refine Eq.trans (by assumption) ?_; rfl)
  case d4 => first | assumption | (refine Eq.trans (by assumption) ?_; rfl)
  case d5 => first | assumption | (refine Eq.trans (by assumption) ?_; rfl)
  case l0 => omega
  case l4 => omega
  intro m' h' tk' F'
  (try dsimp only)
  k_unfold
  k_end
  wrow_close)
end Mine
theorem PySem.Challenge.cw_xm0620_01_holds : PySem.Challenge.rw_xm0620_01.Holds :=
  Mine.cw
