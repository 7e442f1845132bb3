import PyProof.Rows.All
import Wide.All
import OpenK.AllK
import Wide.FinOn
import PySem.Challenge.RW_nn0293_01
open PySem PySem.W PySem.Calls PyProof.Rows
set_option Elab.async false
set_option maxRecDepth 100000
set_option maxHeartbeats 8000000
namespace Mine
section HdT
open_top hd for PySem.Challenge.rw_nn0293_01
end HdT
end Mine
namespace Mine
section BaseT
def CtrI (prog : Program) (w : World) (K : Frag) (dn : Nat) (f : Addr) (news : List (Addr × Obj)) (vs : List Value) (x : Int) : Prop :=
  ∀ (p : Program) (loose : List Str) (mean : ExcName → Option Value) (mg mb : Str → Option Value)
    (dp un : Nat) (gd : Option (List Code)) (cn : Str) (cs : Scope) (a : Addr) (ccd : Value) (cl : List (Str × Addr)) (outer : List Env) (A₀ : Around) (base h₀ : Heap) (L : Addr) (m : Str → Option Value) (s : Shared) (Q E : Value → Shared → Prop),
    Below A₀ base outer h₀ → Fr h₀ L s.heap m → K.In h₀ → News h₀ L s.heap news → Top p loose mean mg mb h₀ → cs.kind = .function → dp + dn < recursionLimit → un + 8 * dn < cLine →
    (∀ t h' tk', Fr h₀ L h' m → News h₀ L h' news → Q (.int x t) { s with heap := h', toks := tk' }) →
    wpAny (model prog w) (ktrTop dp un gd cn cs L a ccd cl outer) (call (.ref f) vs) Q E s

def Ctr (prog : Program) (w : World) (K : Frag) (dn : Nat) (f : Addr) (news : List (Addr × Obj)) (vs : List Value) (Post : List (Addr × Obj) → Value → Prop) : Prop :=
  ∀ (p : Program) (loose : List Str) (mean : ExcName → Option Value) (mg mb : Str → Option Value)
    (dp un : Nat) (gd : Option (List Code)) (cn : Str) (cs : Scope) (a : Addr) (ccd : Value) (cl : List (Str × Addr)) (outer : List Env) (A₀ : Around) (base h₀ : Heap) (L : Addr) (m : Str → Option Value) (s : Shared) (Q E : Value → Shared → Prop),
    Below A₀ base outer h₀ → Fr h₀ L s.heap m → K.In h₀ → News h₀ L s.heap news → Top p loose mean mg mb h₀ → cs.kind = .function → dp + dn < recursionLimit → un + 8 * dn < cLine →
    (∀ r tl h' tk', Fr h₀ L h' m → News h₀ L h' (tl ++ news) → (∀ q ∈ tl, ∀ p ∈ news, p.1 ≠ q.1) → Post tl r → Q r { s with heap := h', toks := tk' }) →
    wpAny (model prog w) (ktrTop dp un gd cn cs L a ccd cl outer) (call (.ref f) vs) Q E s

theorem ctr_use {prog : Program} {w : World} {K : Frag} {dn : Nat} {f : Addr} {news : List (Addr × Obj)} {vs : List Value} {Post : List (Addr × Obj) → Value → Prop} (C : Ctr prog w K dn f news vs Post)
    {p : Program} {loose : List Str} {mean : ExcName → Option Value} {mg mb : Str → Option Value}
    {dp un : Nat} {gd : Option (List Code)} {cn : Str} {cs : Scope} {a : Addr} {ccd : Value} {cl : List (Str × Addr)} {outer : List Env} {A₀ : Around} {base h₀ : Heap} {L : Addr} {m : Str → Option Value} {s : Shared} {Q E : Value → Shared → Prop}
    (B : Below A₀ base outer h₀) (F : Fr h₀ L s.heap m) (X : K.In h₀) (N : News h₀ L s.heap news) (T : Top p loose mean mg mb h₀) (hk : cs.kind = .function) (hd : dp + dn < recursionLimit) (hu : un + 8 * dn < cLine)
    (ret : ∀ r tl h' tk', Fr h₀ L h' m → News h₀ L h' (tl ++ news) → (∀ q ∈ tl, ∀ p ∈ news, p.1 ≠ q.1) → Post tl r → Q r { s with heap := h', toks := tk' }) :
    wpAny (model prog w) (ktrTop dp un gd cn cs L a ccd cl outer) (call (.ref f) vs) Q E s :=
  C _ _ _ _ _ _ _ _ _ _ _ _ _ _ _ _ _ _ _ _ _ _ B F X N T hk hd hu ret

theorem fresh_of {g h : Heap} {L : Addr} {W news : List (Addr × Obj)} (N : News g L h W) (hb : ∀ p ∈ news, g.get? p.1 = some p.2) : ∀ q ∈ W, ∀ p ∈ news, p.1 ≠ q.1 := fun q hq p hp e => by
  have z := (N q hq).2.2
  rw [← e, hb p hp] at z
  cases z
theorem ctrI_end {h₀ h' : Heap} {L : Addr} {m : Str → Option Value} {news : List (Addr × Obj)} {s : Shared} {Q : Value → Shared → Prop} {x y : Int} {t : Tok} {tk' : Nat}
    (hret : ∀ t h' tk', Fr h₀ L h' m → News h₀ L h' news → Q (.int x t) { s with heap := h', toks := tk' }) (F : Fr h₀ L h' m) (N : News h₀ L h' news) (e : y = x) : Q (.int y t) { s with heap := h', toks := tk' } := by
  subst e
  exact hret t h' tk' F N

theorem ctrI_use {prog : Program} {w : World} {K : Frag} {dn : Nat} {f : Addr} {news : List (Addr × Obj)} {vs : List Value} {x : Int} (C : CtrI prog w K dn f news vs x)
    {p : Program} {loose : List Str} {mean : ExcName → Option Value} {mg mb : Str → Option Value}
    {dp un : Nat} {gd : Option (List Code)} {cn : Str} {cs : Scope} {a : Addr} {ccd : Value} {cl : List (Str × Addr)} {outer : List Env} {A₀ : Around} {base h₀ : Heap} {L : Addr} {m : Str → Option Value} {s : Shared} {Q E : Value → Shared → Prop}
    (B : Below A₀ base outer h₀) (F : Fr h₀ L s.heap m) (X : K.In h₀) (N : News h₀ L s.heap news) (T : Top p loose mean mg mb h₀) (hk : cs.kind = .function) (hd : dp + dn < recursionLimit) (hu : un + 8 * dn < cLine)
    (ret : ∀ t h' tk', Fr h₀ L h' m → News h₀ L h' news → Q (.int x t) { s with heap := h', toks := tk' }) :
    wpAny (model prog w) (ktrTop dp un gd cn cs L a ccd cl outer) (call (.ref f) vs) Q E s :=
  C _ _ _ _ _ _ _ _ _ _ _ _ _ _ _ _ _ _ _ _ _ _ B F X N T hk hd hu ret

section
variable {prog : Program} {w : World} {A : Around} {E : Value → Shared → Prop} {s : Shared} {Q : Value → Shared → Prop} {a n : Int} {t u : Tok}
theorem r_and1 (h : Q (.int (a % 2) s.toks) { s with toks := s.toks + 1 }) : wpAny (model prog w) A (binaryOp .BitAnd (.int a t) (.int 1 u)) Q E s := by
  refine and_int ?_
  have e := kbt_mask a 1
  rw [show ((2:Int)^1 - 1) = 1 from rfl, show ((2:Int)^1) = 2 from rfl] at e
  rw [e]; exact h
theorem r_shl (h0 : 0 ≤ n) (h1 : n ≤ 64) (ha : 0 ≤ a) (hb : a < 4294967296) (h : Q (.int (a * 2 ^ n.toNat) s.toks) { s with toks := s.toks + 1 }) : wpAny (model prog w) A (binaryOp .LShift (.int a t) (.int n u)) Q E s := by
  refine lshift_int_small h0 (by omega) ?_ h
  have : a.natAbs < 4294967296 := by omega
  exact Nat.lt_of_lt_of_le this (by decide)
theorem r_shr (h0 : 0 ≤ n) (h : Q (.int (a / 2 ^ n.toNat) s.toks) { s with toks := s.toks + 1 }) : wpAny (model prog w) A (binaryOp .RShift (.int a t) (.int n u)) Q E s := by
  refine rshift_int h0 ?_
  rw [Int.fdiv_eq_ediv_of_nonneg _ (Int.le_of_lt (kbt_pos _))]
  exact h
theorem r_div {b : Int} (h0 : 0 < b) (h1 : b < 1073741824) (h : Q (.int (a / b) s.toks) { s with toks := s.toks + 1 }) : wpAny (model prog w) A (binaryOp .FloorDiv (.int a t) (.int b u)) Q E s := by
  refine floordiv_int (by omega) ?_ (.inl (PyProof.noPylong_small (by omega)))
  rw [Int.fdiv_eq_ediv_of_nonneg _ (Int.le_of_lt h0)]
  exact h
theorem r_mod {b : Int} (h0 : 0 < b) (h : Q (.int (a % b) s.toks) { s with toks := s.toks + 1 }) : wpAny (model prog w) A (binaryOp .Mod (.int a t) (.int b u)) Q E s := by
  refine mod_int' (by omega) ?_
  rw [Int.fmod_eq_emod_of_nonneg _ (Int.le_of_lt h0)]
  exact h
theorem r_pow2 (h0 : 0 ≤ n) (h1 : n ≤ 64) (h : Q (.int (2 ^ n.toNat) s.toks) { s with toks := s.toks + 1 }) : wpAny (model prog w) A (binaryOp .Pow (.int 2 t) (.int n u)) Q E s :=
  pow_int_small h0 (by omega) (by decide) h
end

section
variable {prog : Program} {w : World} {A : Around} {E : Value → Shared → Prop} {s : Shared} {Q : Value → Shared → Prop} {a b n : Int} {t u : Tok}
theorem r_mul (h0 : -4294967296 < a) (h1 : a < 4294967296) (h : Q (.int (a * b) s.toks) { s with toks := s.toks + 1 }) : wpAny (model prog w) A (binaryOp .Mult (.int a t) (.int b u)) Q E s := by
  refine mul_int h (IntMulOk.of_left ?_)
  refine (intBits_le_iff (m := 64)).mpr ?_
  have : a.natAbs < 4294967296 := by omega
  exact Nat.lt_of_lt_of_le this (by decide)
theorem r_divp {m : Nat} (h1 : m < 30) (h : Q (.int (a / 2 ^ m) s.toks) { s with toks := s.toks + 1 }) : wpAny (model prog w) A (binaryOp .FloorDiv (.int a t) (.int (2 ^ m) u)) Q E s := by
  refine r_div (kbt_pos m) ?_ h
  have h2 : (2:Int) ^ m ≤ 2 ^ 29 := by
    have := Nat.pow_le_pow_right (n := 2) (by decide) (show m ≤ 29 by omega)
    rw [← kbt_cast, ← kbt_cast]; exact Int.ofNat_le.mpr this
  have h3 : (2:Int) ^ 29 = 536870912 := by decide
  omega
theorem pow_pos2 (n : Nat) : (0:Int) < 2 ^ n := kbt_pos n
theorem pow_le2 {n m : Nat} (h : n ≤ m) : (2:Int) ^ n ≤ 2 ^ m := by
  have := Nat.pow_le_pow_right (n := 2) (by decide) h
  rw [← kbt_cast, ← kbt_cast]; exact Int.ofNat_le.mpr this
theorem r_item {value slice : PySem.Expr} {l : Addr} {vs : List Value} {ns : List Int} {k hi : Int} (hl : IsTup s.heap l vs.toArray) (hv : IntsAre vs ns)
    (ho : ∀ x ∈ ns, 0 ≤ x ∧ x < hi) (h0 : 0 ≤ k) (h1 : k < ns.length) (hfit : k < 2 ^ 63)
    (h : ∀ t, 0 ≤ ns.getD k.toNat 0 → ns.getD k.toNat 0 < hi → Q (.int (ns.getD k.toNat 0) t) s)
    (hs : subscripted slice false (.ref l) (.int k u) = operate [.ref l, .int k u] (getItem (.ref l) (.int k u)) := by with_unfolding_all rfl) (hg : ∀ r, letTemporaryGo value (.ref l) r = pure () := by intro _; with_unfolding_all rfl) :
    wpAny (model prog w) A (subscriptTail value slice (.ref l) (.int k u)) Q E s := by
  refine item_tuple_ints hl hv h0 h1 hfit (fun t => ?_) hs hg
  have hk : k.toNat < ns.length := by omega
  have hm : ns.getD k.toNat 0 ∈ ns := by
    rw [List.getD_eq_getElem?_getD, List.getElem?_eq_getElem hk]
    exact List.getElem_mem hk
  exact h t (ho _ hm).1 (ho _ hm).2
end
theorem fmod2 (a : Int) : 0 ≤ a.fmod 2 ∧ a.fmod 2 ≤ 1 := by
  rw [Int.fmod_eq_emod_of_nonneg _ (by decide)]
  omega
section
variable {prog : Program} {w : World} {A : Around} {E : Value → Shared → Prop} {s : Shared} {Q : Value → Shared → Prop}
theorem r_len {l : Addr} {vs : List Value} {K : Nat} (hl : IsTup s.heap l vs.toArray) (hv : vs.length = K) (hK : K ≤ 8) (h : Q (.int (K : Int) (s.toks + 1)) { s with toks := s.toks + 1 + 1 }) : wpAny (model prog w) A (call (.builtin "len") [.ref l]) Q E s := by
  have e : vs.toArray.size = K := by rw [List.size_toArray, hv]
  exact PyProof.Rows.len_tuple hl (by rw [e]; omega) (by rw [e]; exact h)
end
theorem gentok {M : Model} {A : Around} {α : Type} {T : Sem α} {Q : α → Shared → Prop} {E : Value → Shared → Prop} {h : Heap} {g : Array GenState} {d : Drawn} {t : Nat} {o : OsState} (H : ∀ t, wpAny M A T Q E ⟨h, g, d, t, o⟩) : wpAny M A T Q E ⟨h, g, d, t, o⟩ := H t
def Stop (P : Prop) : Prop := P
theorem Stop.mk {P : Prop} (h : Stop P) : P := h

def oldI (o : List Int) (flipped row : Int) : Nat → Int
  | 0 => 0
  | n + 1 => oldI o flipped row n + (if (flipped / 2 ^ n) % 2 = 1 then 1 - (row / 2 ^ n) % 2 else (row / 2 ^ n) % 2) * 2 ^ (o.getD n 0).toNat

def madeI (t : Int) (o : List Int) (flipped out : Int) (k : Nat) : Nat → Int
  | 0 => 0
  | n + 1 => madeI t o flipped out k n + (if out = 1 then 1 - (t / 2 ^ (oldI o flipped n k).toNat) % 2 else (t / 2 ^ (oldI o flipped n k).toNat) % 2) * 2 ^ n
def fullI (K : Nat) : Int := 2 ^ (2 ^ K) - 1
def varI (i K : Nat) : Int := Builtin.bitXor (fullI K) (fullI K / (2 ^ (2 ^ i) + 1))
def spreadI (v : Int) (o : List Int) : Nat → Int
  | 0 => 0
  | n + 1 => Builtin.bitOr (spreadI v o n) ((v / 2 ^ n) % 2 * 2 ^ (o.getD n 0).toNat)
def permI (t : Int) (o : List Int) (K : Nat) : Nat → Int
  | 0 => 0
  | n + 1 => Builtin.bitOr (permI t o K n) ((t / 2 ^ (spreadI n o K).toNat) % 2 * 2 ^ n)
def flI (t : Int) (i K : Nat) : Int := Builtin.bitOr (Builtin.bitAnd t (varI i K) / 2 ^ (2 ^ i)) (Builtin.bitXor t (Builtin.bitAnd t (varI i K)) * 2 ^ (2 ^ i))
def lowI (n : Nat) : Nat := if n % 2 = 1 then 0 else if n % 4 = 2 then 1 else 2
theorem bitNot2 (x : Int) : Builtin.bitNot (Builtin.bitNot x) = x := by unfold Builtin.bitNot; omega
theorem bOr_pp {a b : Int} (ha : 0 ≤ a) (hb : 0 ≤ b) : Builtin.bitOr a b = ((a.toNat ||| b.toNat : Nat) : Int) := by
  have h1 : decide (0 ≤ Builtin.bitNot a) = false := by unfold Builtin.bitNot; simp; omega
  have h2 : decide (0 ≤ Builtin.bitNot b) = false := by unfold Builtin.bitNot; simp; omega
  unfold Builtin.bitOr Builtin.bitAnd
  rw [h1, h2]
  simp only [bitNot2]
theorem bitOr_nonneg {a b : Int} (ha : 0 ≤ a) (hb : 0 ≤ b) : 0 ≤ Builtin.bitOr a b := by
  rw [bOr_pp ha hb]; exact Int.natCast_nonneg _
theorem bitXor_range {a b : Int} {n : Nat} (ha : 0 ≤ a) (hb : 0 ≤ b) (ha2 : a < 2 ^ n) (hb2 : b < 2 ^ n) : 0 ≤ Builtin.bitXor a b ∧ Builtin.bitXor a b < 2 ^ n := by
  have e : Builtin.bitXor a b = Builtin.bitOr a b - Builtin.bitAnd a b := rfl
  rw [e, bOr_pp ha hb, bitAnd_pp ha hb]
  have h1 : a.toNat < 2 ^ n := by have := kbt_cast n; omega
  have h2 : b.toNat < 2 ^ n := by have := kbt_cast n; omega
  have h3 := Nat.or_lt_two_pow h1 h2
  have h4 : a.toNat &&& b.toNat ≤ a.toNat := Nat.and_le_left
  have h5 : a.toNat ≤ a.toNat ||| b.toNat := Nat.left_le_or
  have := kbt_cast n
  omega
theorem bitAnd_range {a b : Int} (ha : 0 ≤ a) (hb : 0 ≤ b) : 0 ≤ Builtin.bitAnd a b ∧ Builtin.bitAnd a b ≤ a := by
  rw [bitAnd_pp ha hb]
  have h4 : a.toNat &&& b.toNat ≤ a.toNat := Nat.and_le_left
  omega
theorem spreadI_nonneg (v : Int) (o : List Int) : ∀ n, 0 ≤ spreadI v o n
  | 0 => Int.le_refl 0
  | n + 1 => bitOr_nonneg (spreadI_nonneg v o n) (Int.mul_nonneg (Int.emod_nonneg _ (by decide)) (Int.le_of_lt (kbt_pos _)))
theorem permI_nonneg (t : Int) (o : List Int) (K : Nat) : ∀ n, 0 ≤ permI t o K n
  | 0 => Int.le_refl 0
  | n + 1 => bitOr_nonneg (permI_nonneg t o K n) (Int.mul_nonneg (Int.emod_nonneg _ (by decide)) (Int.le_of_lt (kbt_pos _)))
theorem old_step {ord : List Int} {flp k c x p : Int} {n : Nat} {pre : List Int} {k2 : Int} (hl : pre.length = n) (he : c = oldI ord flp k n) (h0 : 0 ≤ c) (h1 : c ≤ 4 * n) (hx : x = if flp / 2 ^ n % 2 = 1 then 1 - k / 2 ^ n % 2 else k / 2 ^ n % 2) (hp : p = ord.getD n 0) (hp0 : 0 ≤ p) (hp1 : p < 3) :
    c + x * 2 ^ p.toNat = oldI ord flp k (pre ++ [k2]).length ∧ 0 ≤ c + x * 2 ^ p.toNat ∧ c + x * 2 ^ p.toNat ≤ 4 * ((pre ++ [k2]).length : Int) := by
  rw [List.length_append, List.length_singleton, hl]
  have hx01 : x = 0 ∨ x = 1 := by
    rw [hx]; split <;> omega
  refine ⟨?_, ?_⟩
  · rw [oldI, he, hx, hp]
  · have : p = 0 ∨ p = 1 ∨ p = 2 := by omega
    rcases this with rfl | rfl | rfl <;> rcases hx01 with rfl | rfl <;> simp <;> omega
theorem made_step {t : Int} {o : List Int} {flp out k x old found : Int} {K n : Nat} {pre : List Int} {k2 : Int} (hl : pre.length = n) (hk : k = n) (he : found = madeI t o flp out K n) (ho : old = oldI o flp k K) (hx : x = if out = 1 then 1 - t / 2 ^ old.toNat % 2 else t / 2 ^ old.toNat % 2) :
    found + x * 2 ^ k.toNat = madeI t o flp out K (pre ++ [k2]).length := by
  rw [List.length_append, List.length_singleton, hl, madeI, he, hx, ho, hk]
  rfl
def appL (t : Int) (o : List Int) (f : Int) (K : Nat) : Nat → Int
  | 0 => permI t o K (2 ^ K)
  | n + 1 => if f / 2 ^ n % 2 = 1 then flI (appL t o f K n) n K else appL t o f K n
def appI (t : Int) (o : List Int) (f b : Int) (K : Nat) : Int := if b = 1 then Builtin.bitXor (appL t o f K K) (fullI K) else appL t o f K K
theorem bitOr_lt {a b : Int} {n : Nat} (ha : 0 ≤ a) (hb : 0 ≤ b) (ha2 : a < 2 ^ n) (hb2 : b < 2 ^ n) : Builtin.bitOr a b < 2 ^ n := by
  rw [bOr_pp ha hb]
  have hc := kbt_cast n
  have h3 := Nat.or_lt_two_pow (show a.toNat < 2 ^ n by omega) (show b.toNat < 2 ^ n by omega)
  omega
theorem permI_lt (t : Int) (o : List Int) (K : Nat) : ∀ n, permI t o K n < 2 ^ n
  | 0 => (by decide : (0 : Int) < 2 ^ 0)
  | n + 1 => by
    have h0 := permI_nonneg t o K n
    have h1 := permI_lt t o K n
    have h2 := kbt_pos n
    have h3 : (2 : Int) ^ (n + 1) = 2 * 2 ^ n := by rw [Int.pow_succ]; omega
    have hx : t / 2 ^ (spreadI (↑n) o K).toNat % 2 = 0 ∨ t / 2 ^ (spreadI (↑n) o K).toNat % 2 = 1 := by omega
    rw [permI]
    rcases hx with hx | hx <;> rw [hx]
    · exact bitOr_lt h0 (by omega) (by omega) (by omega)
    · exact bitOr_lt h0 (by omega) (by omega) (by omega)
theorem fl_chk3 : ∀ n : Fin 256, ∀ i : Fin 3, 0 ≤ flI (n.val : Int) i.val 3 ∧ flI (n.val : Int) i.val 3 < 256 := by decide +kernel
theorem fl_chk2 : ∀ n : Fin 16, ∀ i : Fin 2, 0 ≤ flI (n.val : Int) i.val 2 ∧ flI (n.val : Int) i.val 2 < 16 := by decide +kernel
theorem fl_chk1 : ∀ n : Fin 4, ∀ i : Fin 1, 0 ≤ flI (n.val : Int) i.val 1 ∧ flI (n.val : Int) i.val 1 < 4 := by decide +kernel
theorem fl_rng {t : Int} {I K : Nat} (hI : I < K) (hK : K ≤ 3) (h0 : 0 ≤ t) (h1 : t < 2 ^ (2 ^ K)) : 0 ≤ flI t I K ∧ flI t I K < 2 ^ (2 ^ K) := by
  have hc : K = 1 ∨ K = 2 ∨ K = 3 := by omega
  have ht : ((t.toNat : Nat) : Int) = t := by omega
  rcases hc with rfl | rfl | rfl
  · have h1 : t < 4 := h1
    have := fl_chk1 ⟨t.toNat, by omega⟩ ⟨I, hI⟩
    simp only [ht] at this; exact this
  · have h1 : t < 16 := h1
    have := fl_chk2 ⟨t.toNat, by omega⟩ ⟨I, hI⟩
    simp only [ht] at this; exact this
  · have h1 : t < 256 := h1
    have := fl_chk3 ⟨t.toNat, by omega⟩ ⟨I, hI⟩
    simp only [ht] at this; exact this
theorem two8 {K : Nat} (hK : K ≤ 3) : (2 : Int) ^ (2 ^ K) ≤ 2 ^ 8 := by
  have h : K = 0 ∨ K = 1 ∨ K = 2 ∨ K = 3 := by omega
  rcases h with rfl | rfl | rfl | rfl <;> decide
end BaseT
end Mine
namespace Mine
section RebaseT
inductive Cut (I : Addr) (it : Obj) : List (Addr × Obj) → List (Addr × Obj) → Prop
  | here {r : List (Addr × Obj)} : (∀ p ∈ r, p.1 ≠ I) → Cut I it ((I, it) :: r) r
  | there {q : Addr × Obj} {r n : List (Addr × Obj)} : q.1 ≠ I → Cut I it r n → Cut I it (q :: r) (q :: n)
theorem Cut.sub {I : Addr} {it : Obj} : ∀ {all n : List (Addr × Obj)}, Cut I it all n → ∀ p ∈ (I, it) :: n, p ∈ all
  | _, _, .here _, p, hp => hp
  | _, _, .there _ c, p, hp => by
    rcases List.mem_cons.mp hp with rfl | hp
    · exact .tail _ (c.sub _ (.head _))
    · rcases List.mem_cons.mp hp with rfl | hp
      · exact .head _
      · exact .tail _ (c.sub _ (.tail _ hp))
theorem Cut.off {I : Addr} {it : Obj} : ∀ {all n : List (Addr × Obj)}, Cut I it all n → ∀ p ∈ n, p.1 ≠ I
  | _, _, .here h, p, hp => h p hp
  | _, _, .there h c, p, hp => by
    rcases List.mem_cons.mp hp with rfl | hp
    · exact h
    · exact c.off p hp
theorem unrEnd_cut {h₀ : Heap} {L I : Addr} {it : Obj} {rest : (Str → Option Value) → List (Addr × Obj) → Prop} {s₁ : Shared} {h' : Heap} {tk : Nat} {m' : Str → Option Value} {all news' : List (Addr × Obj)} (F : Fr h₀ L h' m') (N : News h₀ L h' all) (c : Cut I it all news')
    (r : rest m' news') : UnrEnd h₀ L s₁ I it rest { s₁ with heap := h', toks := tk } := UnrEnd.intro F N news' c.sub c.off r

theorem rebase {A : Around} {base g h₁ : Heap} {outer : List Env} {L' : Addr} {m' : Str → Option Value} {news cells : List (Addr × Obj)} (F' : Fr g L' h₁ m') (N' : News g L' h₁ (cells ++ news)) (l1 : ∀ p ∈ news, p.1 < L') (lc : ∀ p ∈ cells, L' ≤ p.1) (B : Below A base outer g) :
    ∃ g2 : Heap, g.objs.size ≤ g2.objs.size ∧ g.StaysIn g2 ∧ Fr g2 L' h₁ m' ∧ News g2 L' h₁ cells ∧ Below A base outer g2 ∧ (∀ p ∈ news, g2.get? p.1 = some p.2) := by
  let g2 : Heap := ⟨h₁.objs.extract 0 L', h₁.life⟩
  have hlt := ltN F'.ns.lt
  have hsz : g2.objs.size = L' := by
    show (h₁.objs.extract 0 L').size = L'
    simp; omega
  have hget : ∀ b, b < L' → g2.get? b = h₁.get? b := by
    intro b hb
    have hb := ltN hb
    show Heap.get? ⟨h₁.objs.extract 0 L', h₁.life⟩ b = _
    unfold Heap.get?
    have : (h₁.objs.extract 0 L')[b]? = h₁.objs[b]? := by
      rw [Array.getElem?_extract]; simp; intro h; omega
    simp only [this]
  have hnone : ∀ b, L' ≤ b → g2.get? b = none := by
    intro b hb
    cases hq : g2.get? b with
    | none => rfl
    | some o => exact absurd (Nat.lt_of_lt_of_le (Heap.lt_size hq) (Nat.le_of_eq hsz)) (Nat.not_lt.mpr hb)
  have st : g.StaysIn g2 := fun b o e => by
    rw [hget b (Nat.lt_of_lt_of_le (Heap.lt_size e) F'.above)]
    exact F'.keep b o e
  refine ⟨g2, ?_, st, ⟨F'.ns, ?_, ?_⟩, ?_, ⟨B.stack, fun b o e => st b o (B.stays b o e), B.frames.of_keeps fun b o e _ => ⟨o, st b o e, rfl⟩⟩, ?_⟩
  · rw [hsz]; exact F'.above
  · intro b o e
    rw [← hget b (Nat.lt_of_lt_of_le (Heap.lt_size e) (Nat.le_of_eq hsz))]; exact e
  · exact Nat.le_of_eq hsz
  · intro p hp
    have := N' p (List.mem_append.mpr (.inl hp))
    exact ⟨this.1, this.2.1, hnone _ (lc p hp)⟩
  · intro p hp
    rw [hget _ (l1 p hp)]
    exact (N' p (List.mem_append.mpr (.inr hp))).1

theorem leaveK_rebase {h₀ g g2 : Heap} {L : Addr} {m : Str → Option Value} {R : Result → Shared → Prop} {v : Value} {s' : Shared} {news : List (Addr × Obj)} (hsz : g.objs.size ≤ g2.objs.size) (st : g.StaysIn g2) (hb : ∀ p ∈ news, g2.get? p.1 = some p.2) (hn : ∀ p ∈ news, g.get? p.1 = none)
    (h : LeaveK h₀ L m g2 (fun r s'' => News h₀ L s''.heap news → R r s'') v s') : LeaveK h₀ L m g R v s' := by
  obtain ⟨L1, m1, n1, F1, N1, k⟩ := h
  refine ⟨L1, m1, n1 ++ news, ⟨F1.ns, fun b o e => F1.keep b o (st b o e), Nat.le_trans hsz F1.above⟩, ?_, ?_⟩
  · intro p hp
    rcases List.mem_append.mp hp with hp | hp
    · refine ⟨(N1 p hp).1, (N1 p hp).2.1, ?_⟩
      cases hq : g.get? p.1 with
      | none => rfl
      | some o => have := (N1 p hp).2.2; rw [st _ _ hq] at this; cases this
    · refine ⟨F1.keep _ _ (hb p hp), fun e => ?_, hn p hp⟩
      exact absurd (Nat.lt_of_lt_of_le (Heap.lt_size (hb p hp)) F1.above) (by rw [e]; exact Nat.lt_irrefl _)
  · intro F N
    exact k F (fun p hp => N p (List.mem_append.mpr (.inl hp))) (fun p hp => N p (List.mem_append.mpr (.inr hp)))

section
variable {prog : Program} {w : World} {A A₀ : Around} {E : Value → Shared → Prop} {s : Shared} {K : Frag} {L : Addr} {h₀ base : Heap} {m mg mb : Str → Option Value} {news : List (Addr × Obj)} {p : Program} {loose : List Str} {mean : ExcName → Option Value} {Q : Value → Shared → Prop}
theorem code_defB {env : Env} {outer : List Env} {R : Result → Shared → Prop} {name qual : Str} {params : Arguments} {body : List Stmt} {scope : Scope} {dV kV doc pm cdv ct oc : Value} {an od : Option Addr} {osl : Array (Option Value)} {f : Addr} {args : Args} {binds : List (Str × Value)}
    (B : Below A₀ base outer h₀) (F : Fr h₀ L s.heap m) (X₀ : K.In h₀) (N : News h₀ L s.heap news) (T : Top p loose mean mg mb h₀) (hA : A.frames = some (env :: outer)) (hf : env.frame = some L) (hke : env.scope.kind = .function)
    (ho : K.lookup f = some ⟨oc, od, .func (fnOf name qual params body scope dV kV doc pm an cdv ct), osl⟩) (hcd : codeIn K cdv qual = true) (hroom : A.depth < recursionLimit)
    (hbind : BindsTo s (fnOf name qual params body scope dV kV doc pm an cdv ct) args binds) (hloc : ∀ y ∈ binds, scope.names.lookup y.1 = some .local)
    (h : ∀ g L' h₁, Fr g L' h₁ (fun y => binds.reverse.lookup y) → News g L' h₁ [] → Below A base (env :: outer) g → K.In g → Top p loose mean mg mb g → (∀ p ∈ news, g.get? p.1 = some p.2) →
      wpAny (model prog w) (A.deeper (envOf qual scope L' f cdv)) (execs body (envOf qual scope L' f cdv))
        (fun fl s' => LeaveK h₀ L m g (fun r s'' => News h₀ L s''.heap news → R r s'') (match fl with | .ret v => v | _ => .none) s')
        (fun e s' => wpAny (model prog w) (A.deeper (envOf qual scope L' f cdv)) (leaving (envOf qual scope L' f cdv) e) (fun _ s'' => R (.error e) s'') (fun e' s'' => R (.error e') s'') s')
        { s with heap := h₁, toks := s.toks + binds.length })
    (hco : scope.isCoroutine = false) (hgen : scope.isGenerator = false) (hk : scope.kind = .function)
    (hcell : ∀ x ∈ scope.names, x.2 ≠ .cell) : codeAny (model prog w) A (.call (.ref f) args) R s :=
  callX_plain (cl := []) B F N T.nolimit hA hf hke ((X₀.keeps F.keep) _ _ ho) rfl (codeRec_of (X₀.keeps F.keep) hcd) hroom hbind hloc (fun g L' h₁ FG F' N' B' st l1 => by
    obtain ⟨g2, hsz, st2, F2, N2, B2, hb⟩ := rebase (cells := []) F' (by simpa using N') l1 (fun _ h => nomatch h) B'
    have X2 : K.In g2 := X₀.keeps fun b o e => st2 b o (st b o e)
    have T2 := T.keeps (h' := g2) fun b o e => st2 b o (st b o e)
    exact wpAny_mono (h g2 L' h₁ F2 N2 B2 X2 T2 hb) (fun fl s' hl => leaveK_rebase hsz st2 hb (fun p hp => (N' p hp).2.2) hl) fun _ _ y => y) hcell hco hgen hk

theorem cellsFrom_ge : ∀ (names : List (Str × NameKind)) (n : Nat) (acc : List (Str × Addr)) (q : Str × Addr), q ∈ cellsFrom n names acc → q ∈ acc ∨ n ≤ q.2
  | [], _, _, _, h => .inl h
  | (y, k) :: r, n, acc, q, h => by
    unfold cellsFrom at h
    split at h
    · rcases cellsFrom_ge r (n + 1) ((y, n) :: acc) q h with h | h
      · rcases List.mem_cons.mp h with rfl | h
        · exact .inr (Nat.le_refl _)
        · exact .inl h
      · exact .inr (Nat.le_of_succ_le h)
    · exact cellsFrom_ge r n acc q h
theorem cells_ge {cm : Str → Option Value} {n : Nat} : ∀ {cs : List (Str × Addr)} {cells : List (Addr × Obj)}, CellsAre cm cs cells → (∀ q ∈ cs, n ≤ q.2) → ∀ p ∈ cells, n ≤ p.1
  | _, _, .nil, _, _, h => nomatch h
  | _, _, .cons _ r, hq, p, hp => by
    rcases List.mem_cons.mp hp with rfl | hp
    · exact hq _ (.head _)
    · exact cells_ge r (fun q h => hq q (.tail _ h)) p hp

theorem code_defCB {env : Env} {outer : List Env} {R : Result → Shared → Prop} {name qual : Str} {params : Arguments} {body : List Stmt} {scope : Scope} {dV kV doc pm cdv ct oc : Value} {an od : Option Addr} {osl : Array (Option Value)} {f : Addr} {args : Args} {binds : List (Str × Value)}
    (B : Below A₀ base outer h₀) (F : Fr h₀ L s.heap m) (X₀ : K.In h₀) (N : News h₀ L s.heap news) (T : Top p loose mean mg mb h₀) (hA : A.frames = some (env :: outer)) (hf : env.frame = some L) (hke : env.scope.kind = .function)
    (ho : K.lookup f = some ⟨oc, od, .func (fnOf name qual params body scope dV kV doc pm an cdv ct), osl⟩) (hcd : codeIn K cdv qual = true) (hroom : A.depth < recursionLimit)
    (hbind : BindsTo s (fnOf name qual params body scope dV kV doc pm an cdv ct) args binds) (hkind : (binds.all fun y => scope.names.lookup y.1 == some .local || scope.names.lookup y.1 == some .cell) = true)
    (hnd : ((cellsFrom 0 scope.names []).map (·.1)).Nodup)
    (h : ∀ g L' h₁ tk cells, Fr g L' h₁ (bindL (envOfC qual scope L' f cdv).kindOf binds fun _ => none) → News g L' h₁ cells →
      CellsAre (bindC (envOfC qual scope L' f cdv).kindOf binds fun _ => none) (cellsFrom (L' + 1) scope.names []) cells → Below A base (env :: outer) g → K.In g → Top p loose mean mg mb g → (∀ p ∈ news, g.get? p.1 = some p.2) →
      wpAny (model prog w) (A.deeper (envOfC qual scope L' f cdv)) (execs body (envOfC qual scope L' f cdv))
        (fun fl s' => LeaveK h₀ L m g (fun r s'' => News h₀ L s''.heap news → R r s'') (match fl with | .ret v => v | _ => .none) s')
        (fun e s' => wpAny (model prog w) (A.deeper (envOfC qual scope L' f cdv)) (leaving (envOfC qual scope L' f cdv) e) (fun _ s'' => R (.error e) s'') (fun e' s'' => R (.error e') s'') s')
        { s with heap := h₁, toks := tk })
    (hco : scope.isCoroutine = false) (hgen : scope.isGenerator = false) (hk : scope.kind = .function) : codeAny (model prog w) A (.call (.ref f) args) R s :=
  callX_cells B F N T.nolimit hA hf hke ((X₀.keeps F.keep) _ _ ho) rfl (codeRec_of (X₀.keeps F.keep) hcd) hroom hbind (kindsX hkind) hnd (fun g L' h₁ tk cells FG F' N' Y B' st l1 => by
    obtain ⟨g2, hsz, st2, F2, N2, B2, hb⟩ := rebase (cells := cells) F' N' l1 (cells_ge Y fun q hq => (cellsFrom_ge _ _ _ q hq).elim (fun h => nomatch h) fun h => Nat.le_of_succ_le h) B'
    have X2 : K.In g2 := X₀.keeps fun b o e => st2 b o (st b o e)
    have T2 := T.keeps (h' := g2) fun b o e => st2 b o (st b o e)
    exact wpAny_mono (h g2 L' h₁ tk cells F2 N2 Y B2 X2 T2 hb) (fun fl s' hl => leaveK_rebase hsz st2 hb (fun p hp => (N' p (List.mem_append.mpr (.inr hp))).2.2) hl) fun _ _ y => y) hco hgen hk
end
end RebaseT
end Mine
namespace Mine
section MadeT
local macro_rules | `(tactic| k_mem) => `(tactic| assumption)
local macro_rules | `(tactic| walk_at "binaryOp Pow int int") => `(tactic| ((with_reducible show wpAny _ _ (binaryOp _ (Value.int 2 _) (Value.int _ _)) _ _ _); refine r_pow2 (by omega) (by omega) ?_))
local macro_rules | `(tactic| walk_at "binaryOp Mult int int") => `(tactic| (refine r_mul ?a ?b ?_; (case a => omega); (case b => omega)))
local macro_rules | `(tactic| walk_at "binaryOp FloorDiv int int") => `(tactic| first | (refine r_divp ?a ?_; (case a => omega)) | (refine r_div ?a ?b ?_; (case a => omega); (case b => omega)))
local macro_rules | `(tactic| walk_at "binaryOp Mod int int") => `(tactic| (refine r_mod ?a ?_; (case a => first | exact pow_pos2 _ | omega)))
local macro_rules | `(tactic| walk_at "subscriptTail") => `(tactic| (k_here; (with_reducible show wpAny _ _ (subscriptTail _ _ (Value.ref _) (Value.int _ _)) _ _ _); k_dflt (refine' r_item ?t ?i ?o ?a ?b ?c ?_; (case t => exact News.isTup (by k_asm) (by k_mem)); (case i => assumption); (case o => assumption); (case a => omega); (case b => omega); (case c => omega); intro _ _ _)))
local macro_rules | `(tactic| walk_at "pyIter ref") => `(tactic| ((with_reducible show wpAny _ _ (pyIter (Value.ref _)) (fun it s₂ => LoopAtV _ _ _ _ _ _ _ _ _ it s₂) _ _); refine Stop.mk ?_))
local macro_rules | `(tactic| walk_at "InvEndN") => `(tactic| refine Stop.mk ?_)

theorem made_C (K : Nat) (hK : K ≤ 3) (w : World) (news : List (Addr × Obj)) (tab : Int) (tv : Tok) (ord : List Int) (vs : List Value) (b : Addr) (n : Nat) (flp ou : Int) (tf tou tk : Tok)
    (hi : IntsAre vs ord) (hln : ord.length = K) (ho : ∀ x ∈ ord, 0 ≤ x ∧ x < 3)
    (hb : (b, ({ cls := .type "tuple", data := .seq vs.toArray n } : Obj)) ∈ news) :
    CtrI PySem.Challenge.rw_nn0293_01.row.prog w (hd.heap_39 w.params) 1 103 news [.int tab tv, .ref b, .int flp tf, .int ou tou, .int (K : Int) tk] (madeI tab ord flp ou K (2 ^ K)) := by
  w_top off
  k_with_none
  k_fill
  unfold CtrI
  have hsm : Builtin.Range.small 0 (2 ^ (K : Int).toNat) 1 = true := by
    have : K = 0 ∨ K = 1 ∨ K = 2 ∨ K = 3 := by omega
    rcases this with rfl | rfl | rfl | rfl <;> decide
  have hrs : Builtin.Range.rangeSize 0 (2 ^ (K : Int).toNat) 1 = ((2 ^ K : Nat) : Int) := by
    have : K = 0 ∨ K = 1 ∨ K = 2 ∨ K = 3 := by omega
    rcases this with rfl | rfl | rfl | rfl <;> rfl
  have hp8 : 2 ^ K ≤ 8 := by
    have : K = 0 ∨ K = 1 ∨ K = 2 ∨ K = 3 := by omega
    rcases this with rfl | rfl | rfl | rfl <;> decide
  have hsm2 : Builtin.Range.small 0 (K : Int) 1 = true := by
    have : K = 0 ∨ K = 1 ∨ K = 2 ∨ K = 3 := by omega
    rcases this with rfl | rfl | rfl | rfl <;> decide
  have hrs2 : Builtin.Range.rangeSize 0 (K : Int) 1 = (K : Int) := by
    have : K = 0 ∨ K = 1 ∨ K = 2 ∨ K = 3 := by omega
    rcases this with rfl | rfl | rfl | rfl <;> rfl
  intro p loose mean mg mb dp un gd cn cs a ccd cl outer A₀ base h₀ L m s Q E B F X N T hk hdp hun hret
  refine wpAny_call ?_
  k_dflt cell_enter
  k_steps
  unfold Stop
  (rename Fr _ _ _ _ => lF'); (rename News _ _ _ _ => lN'); (rename IsRange _ _ _ _ _ _ _ _ => rgX)
  with_unfolding_all refine' kst_range (σ := Int × Tok) (n := 2 ^ K) (fun _ => news) (fun c => [(Str.ofString "found", .int c.1 c.2)]) (fun _ => True) ["old", "spot", "bit"] (fun pre c => c.1 = madeI tab ord flp ou K pre.length) (0, _) (by rfl) rgX hsm hrs lF' lN' trivial ?kk rfl ?turn ?done
  case kk => kst_all
  case turn =>
    intro c pre k t u h tk own hk1 hlt hoff _ hc F1 N1
    (dsimp only [kstB] at F1)
    clear lF' lN' rgX
    try k_fold
    k_steps
    unfold Stop
    (rename Fr _ _ _ _ => lF'); (rename News _ _ _ _ => lN'); (rename IsRange _ _ _ _ _ _ _ _ => rgX)
    with_unfolding_all refine' kst_range (σ := Int × Tok) (n := K) (fun _ => news ++ own) (fun c => [(Str.ofString "old", .int c.1 c.2)]) (fun _ => True) ["bit"] (fun pre2 c => c.1 = oldI ord flp k pre2.length ∧ 0 ≤ c.1 ∧ c.1 ≤ 4 * pre2.length) (0, _) (by rfl) rgX hsm2 hrs2 lF' lN' trivial ?kk2 ⟨rfl, Int.le_refl 0, Int.le_refl 0⟩ ?turn2 ?done2
    case kk2 => kst_all
    case turn2 =>
      intro c2 pre2 k2 t2 u2 h2 tk2 own2 hk2 hlt2 hoff2 _ hc2 F2 N2
      (dsimp only [kstB] at F2)
      clear lF' lN' rgX
      have hk2' : k2.toNat = pre2.length := by omega
      try k_fold
      k_steps
      all_goals
        unfold Stop
        refine' kst_end (⟨?_, ?_⟩ : Int × Tok) (by assumption) (by assumption) ?hn ?ho rfl trivial ?hk ?hr ?hp
        case hk => kst_all
        case hn => intro p hp; exact List.mem_append.mpr (.inl hp)
        case ho => intro p hp; exact List.mem_append.mpr (.inr hp)
        case hr => kst_same
        case hp => 
          obtain ⟨he, h0, h1⟩ := hc2
          refine old_step rfl he h0 h1 ?_ ?_ (by assumption) (by assumption)
          · first | (rw [if_pos (by rw [← hk2']; with_reducible assumption)]; rw [hk2']) | (rw [if_neg (by rw [← hk2']; with_reducible assumption)]; rw [hk2'])
          · rw [hk2']
    case done2 =>
      intro c2 u2 h2 tk2 _ hc2 F2 N2
      (dsimp only [kstB] at F2)
      clear lF' lN' rgX
      obtain ⟨he, h0, h1⟩ := hc2
      rw [rangeKs_length] at he h1
      try k_fold
      k_steps
      all_goals
        unfold Stop
        refine' kst_end (⟨?_, ?_⟩ : Int × Tok) (by assumption) (by assumption) ?hn ?ho rfl trivial ?hk ?hr ?hp
        case hk => kst_all
        case hn => intro p hp; exact List.mem_append.mpr (.inl hp)
        case ho => intro p hp; exact List.mem_append.mpr (.inr hp)
        case hr => kst_same
        case hp => 
          refine made_step rfl (by omega) hc he ?_
          first | (rw [if_pos (by with_reducible assumption)]) | (rw [if_neg (by with_reducible assumption)])
  case done =>
      intro c2 u2 h2 tk2 _ hc2 F2 N2
      (dsimp only [kstB] at F2)
      clear lF' lN' rgX
      try k_fold
      rw [rangeKs_length] at hc2
      k_steps
      exact ctrI_end hret (by k_asm) (by k_asm) hc2
end MadeT
end Mine
namespace Mine
section SmallAT
local macro_rules | `(tactic| walk_at "execs cons") => `(tactic| ((with_reducible show wpAny _ _ (execs _ _) _ _ ⟨_, _, _, _ + 1, _⟩); refine gentok ?_; intro tk))
local macro_rules | `(tactic| walk_at "execs nil") => `(tactic| ((with_reducible show wpAny _ _ (execs _ _) _ _ ⟨_, _, _, _ + 1, _⟩); refine gentok ?_; intro tk))
local macro_rules | `(tactic| k_mem) => `(tactic| assumption)
local macro_rules | `(tactic| walk_at "binaryOp Pow int int") => `(tactic| ((with_reducible show wpAny _ _ (binaryOp _ (Value.int 2 _) (Value.int _ _)) _ _ _); refine r_pow2 (by omega) (by omega) ?_))
local macro_rules | `(tactic| walk_at "binaryOp Mult int int") => `(tactic| (refine r_mul ?a ?b ?_; (case a => omega); (case b => omega)))
local macro_rules | `(tactic| walk_at "binaryOp FloorDiv int int") => `(tactic| first | (refine r_divp ?a ?_; (case a => omega)) | (refine r_div ?a ?b ?_; (case a => omega); (case b => omega)))
local macro_rules | `(tactic| walk_at "binaryOp Mod int int") => `(tactic| (refine r_mod ?a ?_; (case a => first | exact pow_pos2 _ | omega)))
local macro_rules | `(tactic| walk_at "binaryOp RShift int int") => `(tactic| (refine r_shr ?a ?_; (case a => omega)))
local macro_rules | `(tactic| walk_at "binaryOp LShift int int") => `(tactic| (refine r_shl ?a ?b ?c ?d ?_; (case a => omega); (case b => omega); (case c => omega); (case d => omega)))
local macro_rules | `(tactic| walk_at "binaryOp BitAnd int int") => `(tactic| ((with_reducible show wpAny _ _ (binaryOp _ (Value.int _ _) (Value.int 1 _)) _ _ _); refine r_and1 ?_))
local macro_rules | `(tactic| walk_at "subscriptTail") => `(tactic| (k_here; (with_reducible show wpAny _ _ (subscriptTail _ _ (Value.ref _) (Value.int _ _)) _ _ _); k_dflt (refine' r_item ?t ?i ?o ?a ?b ?c ?_; (case t => exact News.isTup (by k_asm) (by k_mem)); (case i => assumption); (case o => assumption); (case a => omega); (case b => omega); (case c => omega); intro _ _ _)))
local macro_rules | `(tactic| walk_at "mine enterB") => `(tactic| (k_dflt (refine' code_defB ?k1 ?k2 ?k3 ?k4 ?k5 ?kA ?kF ?kK ?k6 ?k7 ?k8 ?k9 ?kB ?_ ?c2 ?c3 ?c4 ?c5; (case kA => exact rfl); (case kF => exact rfl); (case kK => assumption); (case k1 => k_asm); (case k2 => k_asm); (case k3 => k_asm); (case k4 => k_asm); (case k5 => k_asm); (case k6 => k_is); (case k7 => k_is); (case k8 => ktr_room); (case k9 => exact BindsTo.of_eq rfl); (case c5 => decide); (case kB => exact locs rfl); (case c2 => exact rfl); (case c3 => exact rfl); (case c4 => exact rfl); k_whole; intro g' L' h' F' N' B' X' T' hbase; (try dsimp only); (try k_fold))))
local macro_rules | `(tactic| walk_at "mine enterCB") => `(tactic| (k_dflt (refine' code_defCB ?k1 ?k2 ?k3 ?k4 ?k5 ?kA ?kF ?kK ?k6 ?k7 ?k8 ?k9 ?kB ?kD ?_ ?c2 ?c3 ?c4; (case kA => exact rfl); (case kF => exact rfl); (case kK => assumption); (case k1 => k_asm); (case k2 => k_asm); (case k3 => k_asm); (case k4 => k_asm); (case k5 => k_asm); (case k6 => k_is); (case k7 => k_is); (case k8 => ktr_room); (case k9 => exact BindsTo.of_eq rfl); (case kB => exact rfl); (case kD => decide +kernel); (case c2 => exact rfl); (case c3 => exact rfl); (case c4 => exact rfl); k_whole; intro g' L' h' tk' cells' F' N' Y' B' X' T' hbase; k_cells Y'; (try simp only [List.cons_append, List.nil_append] at N'); (try dsimp only); (try k_fold))))
local macro_rules | `(tactic| walk_at "mine ints") => `(tactic| first | assumption | exact IntsAre.nil | exact IntsAre.cons _ _ (by walk_at "mine ints"))
local macro_rules | `(tactic| walk_at "compareOp NotIn int ref") => `(tactic| (k_here; k_dflt (refine' notin_tuple_ints ?t ?i ?_; (case t => exact News.isTup (by k_asm) (by k_mem)); (case i => walk_at "mine ints"); k_whole)))
local macro_rules | `(tactic| walk_at "mine cut") => `(tactic| first | (refine' Cut.here ?_; k_all) | (refine' Cut.there ?a ?b; (case a => k_ne); (case b => walk_at "mine cut")))
local macro_rules | `(tactic| walk_at "UnrEnd") => `(tactic| (refine' unrEnd_cut (by assumption) (by assumption) ?c ?_; (case c => walk_at "mine cut"); first | (k_dflt (refine ⟨by k_mem, ?_⟩)) | skip))
local macro_rules | `(tactic| walk_at "mine enter") => `(tactic| (refine wpAny_call ?_; k_dflt cell_enter))
local macro_rules | `(tactic| walk_at "call builtin:len") => `(tactic| (k_here; (with_reducible show wpAny _ _ (call (Value.builtin "len") [Value.ref _]) _ _ _); k_dflt (refine' r_len ?t ?e ?k ?_; (case t => exact News.isTup (by k_asm) (by k_mem)); (case e => assumption); (case k => omega))))

section
theorem full_C (k : Int) (K : Nat) (hk : k = K) (hK : K ≤ 3) (w : World) (news : List (Addr × Obj)) (tk : Tok) :
    CtrI PySem.Challenge.rw_nn0293_01.row.prog w (hd.heap_39 w.params) 1 21 news [.int k tk] (fullI K) := by
  subst hk
  have h : K = 0 ∨ K = 1 ∨ K = 2 ∨ K = 3 := by omega
  w_top off
  k_with_none
  k_fill
  unfold CtrI
  intro p loose mean mg mb dp un gd cn cs a ccd cl outer A₀ base h₀ L m s Q E B F X N T hk hdp hun hret
  walk_at "mine enter"
  have hp : (1 : Int) * 2 ^ (K : Int).toNat ≤ 8 ∧ 1 ≤ (1 : Int) * 2 ^ (K : Int).toNat := by
    rcases h with rfl | rfl | rfl | rfl <;> decide
  k_steps
  refine ctrI_end hret (by k_asm) (by k_asm) ?_
  rcases h with rfl | rfl | rfl | rfl <;> decide

theorem low_C (v : Int) (n : Nat) (hv : v = n) (hn : 1 ≤ n) (hn8 : n < 8) (w : World) (news : List (Addr × Obj)) (tk : Tok) :
    CtrI PySem.Challenge.rw_nn0293_01.row.prog w (hd.heap_39 w.params) 1 70 news [.int v tk] (lowI n : Nat) := by
  subst hv
  w_top off
  k_with_none
  k_fill
  unfold CtrI
  intro p loose mean mg mb dp un gd cn cs a ccd cl outer A₀ base h₀ L m s Q E B F X N T hk hdp hun hret
  walk_at "mine enter"
  have h : n = 1 ∨ n = 2 ∨ n = 3 ∨ n = 4 ∨ n = 5 ∨ n = 6 ∨ n = 7 := by omega
  rcases h with rfl | rfl | rfl | rfl | rfl | rfl | rfl <;> k_steps
  all_goals exact ctrI_end hret (by k_asm) (by k_asm) (by decide)

local macro_rules | `(tactic| walk_at "call ref") => `(tactic| ((with_reducible show wpAny _ _ (call (Value.ref 21) _) _ _ _); k_dflt (refine' ctrI_use (full_C _ _ ?e ?h _ _ _) ?k1 ?k2 ?k3 ?k4 ?k5 ?kK ?kd ?ku ?_; (case k1 => k_asm); (case k2 => k_asm); (case k3 => k_asm); (case k4 => k_asm); (case k5 => k_asm); (case kK => first | exact rfl | assumption); (case kd => ktr_room); (case ku => ktr_units); (case e => first | rfl | omega); (case h => omega); intro t9 h9 tk9 F9 N9; (try dsimp only); (try k_fold))))

theorem pw_le {i : Nat} (hi : i ≤ 3) : (1 : Int) * 2 ^ (i : Int).toNat ≤ 8 ∧ 1 ≤ (1 : Int) * 2 ^ (i : Int).toNat := by
  have h : i = 0 ∨ i = 1 ∨ i = 2 ∨ i = 3 := by omega
  rcases h with rfl | rfl | rfl | rfl <;> decide
theorem pw_le2 {i : Nat} (hi : i ≤ 2) : (1 : Int) * 2 ^ ((1 : Int) * 2 ^ (i : Int).toNat).toNat ≤ 16 ∧ 1 ≤ (1 : Int) * 2 ^ ((1 : Int) * 2 ^ (i : Int).toNat).toNat := by
  have h : i = 0 ∨ i = 1 ∨ i = 2 := by omega
  rcases h with rfl | rfl | rfl <;> decide
theorem var_C (i k : Int) (I K : Nat) (hi : i = I) (hk : k = K) (hI : I < K) (hK : K ≤ 3) (w : World) (news : List (Addr × Obj)) (ti tk : Tok) :
    CtrI PySem.Challenge.rw_nn0293_01.row.prog w (hd.heap_39 w.params) 2 28 news [.int i ti, .int k tk] (varI I K) := by
  subst hi hk
  have hq := pw_le (show I ≤ 3 by omega)
  have hq2 := pw_le2 (show I ≤ 2 by omega)
  w_top off
  k_with_none
  k_fill
  unfold CtrI
  intro p loose mean mg mb dp un gd cn cs a ccd cl outer A₀ base h₀ L m s Q E B F X N T hk hdp hun hret
  walk_at "mine enter"
  k_steps
  refine ctrI_end hret (by k_asm) (by k_asm) ?_
  have h : I = 0 ∨ I = 1 ∨ I = 2 := by omega
  rcases h with rfl | rfl | rfl <;> rfl

local macro_rules | `(tactic| walk_at "call ref") => `(tactic| ((with_reducible show wpAny _ _ (call (Value.ref 28) _) _ _ _); k_dflt (refine' ctrI_use (var_C _ _ _ _ ?e1 ?e2 ?h1 ?h2 _ _ _ _) ?k1 ?k2 ?k3 ?k4 ?k5 ?kK ?kd ?ku ?_; (case k1 => k_asm); (case k2 => k_asm); (case k3 => k_asm); (case k4 => k_asm); (case k5 => k_asm); (case kK => first | exact rfl | assumption); (case kd => ktr_room); (case ku => ktr_units); (case e1 => first | rfl | omega); (case e2 => first | rfl | omega); (case h1 => omega); (case h2 => omega); intro t9 h9 tk9 F9 N9; (try dsimp only); (try k_fold))))

theorem varI_range {I K : Nat} (hI : I < K) (hK : K ≤ 3) : 0 ≤ varI I K ∧ varI I K < 2 ^ 8 := by
  have h1 : I = 0 ∨ I = 1 ∨ I = 2 := by omega
  have h2 : K = 0 ∨ K = 1 ∨ K = 2 ∨ K = 3 := by omega
  rcases h1 with rfl | rfl | rfl <;> rcases h2 with rfl | rfl | rfl | rfl <;> decide
theorem flip_C (t i k : Int) (I K : Nat) (hi : i = I) (hk : k = K) (hI : I < K) (hK : K ≤ 3) (h0 : 0 ≤ t) (h1 : t < 2 ^ 8) (w : World) (news : List (Addr × Obj)) (tt ti tk : Tok) :
    CtrI PySem.Challenge.rw_nn0293_01.row.prog w (hd.heap_39 w.params) 3 49 news [.int t tt, .int i ti, .int k tk] (flI t I K) := by
  subst hi hk
  have hq := pw_le (show I ≤ 3 by omega)
  have hv := varI_range hI hK
  have ha := bitAnd_range h0 hv.1
  have hx := bitXor_range (n := 8) h0 ha.1 h1 (by omega)
  w_top off
  k_with_none
  k_fill
  unfold CtrI
  intro p loose mean mg mb dp un gd cn cs a ccd cl outer A₀ base h₀ L m s Q E B F X N T hk hdp hun hret
  walk_at "mine enter"
  k_steps
  refine ctrI_end hret (by k_asm) (by k_asm) ?_
  have h : I = 0 ∨ I = 1 ∨ I = 2 := by omega
  rcases h with rfl | rfl | rfl <;> rfl
end
end SmallAT
end Mine
namespace Mine
section SmallBT
local macro_rules | `(tactic| walk_at "execs cons") => `(tactic| ((with_reducible show wpAny _ _ (execs _ _) _ _ ⟨_, _, _, _ + 1, _⟩); refine gentok ?_; intro tk))
local macro_rules | `(tactic| walk_at "execs nil") => `(tactic| ((with_reducible show wpAny _ _ (execs _ _) _ _ ⟨_, _, _, _ + 1, _⟩); refine gentok ?_; intro tk))
local macro_rules | `(tactic| k_mem) => `(tactic| assumption)
local macro_rules | `(tactic| walk_at "binaryOp Pow int int") => `(tactic| ((with_reducible show wpAny _ _ (binaryOp _ (Value.int 2 _) (Value.int _ _)) _ _ _); refine r_pow2 (by omega) (by omega) ?_))
local macro_rules | `(tactic| walk_at "binaryOp Mult int int") => `(tactic| (refine r_mul ?a ?b ?_; (case a => omega); (case b => omega)))
local macro_rules | `(tactic| walk_at "binaryOp FloorDiv int int") => `(tactic| first | (refine r_divp ?a ?_; (case a => omega)) | (refine r_div ?a ?b ?_; (case a => omega); (case b => omega)))
local macro_rules | `(tactic| walk_at "binaryOp Mod int int") => `(tactic| (refine r_mod ?a ?_; (case a => first | exact pow_pos2 _ | omega)))
local macro_rules | `(tactic| walk_at "binaryOp RShift int int") => `(tactic| (refine r_shr ?a ?_; (case a => omega)))
local macro_rules | `(tactic| walk_at "binaryOp LShift int int") => `(tactic| (refine r_shl ?a ?b ?c ?d ?_; (case a => omega); (case b => omega); (case c => omega); (case d => omega)))
local macro_rules | `(tactic| walk_at "binaryOp BitAnd int int") => `(tactic| ((with_reducible show wpAny _ _ (binaryOp _ (Value.int _ _) (Value.int 1 _)) _ _ _); refine r_and1 ?_))
local macro_rules | `(tactic| walk_at "subscriptTail") => `(tactic| (k_here; (with_reducible show wpAny _ _ (subscriptTail _ _ (Value.ref _) (Value.int _ _)) _ _ _); k_dflt (refine' r_item ?t ?i ?o ?a ?b ?c ?_; (case t => exact News.isTup (by k_asm) (by k_mem)); (case i => assumption); (case o => assumption); (case a => omega); (case b => omega); (case c => omega); intro _ _ _)))
local macro_rules | `(tactic| walk_at "mine enterB") => `(tactic| (k_dflt (refine' code_defB ?k1 ?k2 ?k3 ?k4 ?k5 ?kA ?kF ?kK ?k6 ?k7 ?k8 ?k9 ?kB ?_ ?c2 ?c3 ?c4 ?c5; (case kA => exact rfl); (case kF => exact rfl); (case kK => assumption); (case k1 => k_asm); (case k2 => k_asm); (case k3 => k_asm); (case k4 => k_asm); (case k5 => k_asm); (case k6 => k_is); (case k7 => k_is); (case k8 => ktr_room); (case k9 => exact BindsTo.of_eq rfl); (case c5 => decide); (case kB => exact locs rfl); (case c2 => exact rfl); (case c3 => exact rfl); (case c4 => exact rfl); k_whole; intro g' L' h' F' N' B' X' T' hbase; (try dsimp only); (try k_fold))))
local macro_rules | `(tactic| walk_at "mine enterCB") => `(tactic| (k_dflt (refine' code_defCB ?k1 ?k2 ?k3 ?k4 ?k5 ?kA ?kF ?kK ?k6 ?k7 ?k8 ?k9 ?kB ?kD ?_ ?c2 ?c3 ?c4; (case kA => exact rfl); (case kF => exact rfl); (case kK => assumption); (case k1 => k_asm); (case k2 => k_asm); (case k3 => k_asm); (case k4 => k_asm); (case k5 => k_asm); (case k6 => k_is); (case k7 => k_is); (case k8 => ktr_room); (case k9 => exact BindsTo.of_eq rfl); (case kB => exact rfl); (case kD => decide +kernel); (case c2 => exact rfl); (case c3 => exact rfl); (case c4 => exact rfl); k_whole; intro g' L' h' tk' cells' F' N' Y' B' X' T' hbase; k_cells Y'; (try simp only [List.cons_append, List.nil_append] at N'); (try dsimp only); (try k_fold))))
local macro_rules | `(tactic| walk_at "mine ints") => `(tactic| first | assumption | exact IntsAre.nil | exact IntsAre.cons _ _ (by walk_at "mine ints"))
local macro_rules | `(tactic| walk_at "compareOp NotIn int ref") => `(tactic| (k_here; k_dflt (refine' notin_tuple_ints ?t ?i ?_; (case t => exact News.isTup (by k_asm) (by k_mem)); (case i => walk_at "mine ints"); k_whole)))
local macro_rules | `(tactic| walk_at "mine cut") => `(tactic| first | (refine' Cut.here ?_; k_all) | (refine' Cut.there ?a ?b; (case a => k_ne); (case b => walk_at "mine cut")))
local macro_rules | `(tactic| walk_at "UnrEnd") => `(tactic| (refine' unrEnd_cut (by assumption) (by assumption) ?c ?_; (case c => walk_at "mine cut"); first | (k_dflt (refine ⟨by k_mem, ?_⟩)) | skip))
local macro_rules | `(tactic| walk_at "mine enter") => `(tactic| (refine wpAny_call ?_; k_dflt cell_enter))
local macro_rules | `(tactic| walk_at "call builtin:len") => `(tactic| (k_here; (with_reducible show wpAny _ _ (call (Value.builtin "len") [Value.ref _]) _ _ _); k_dflt (refine' r_len ?t ?e ?k ?_; (case t => exact News.isTup (by k_asm) (by k_mem)); (case e => assumption); (case k => omega))))

section
local macro_rules | `(tactic| walk_at "pyIter ref") => `(tactic| ((with_reducible show wpAny _ _ (pyIter (Value.ref _)) (fun it s₂ => LoopAtV _ _ _ _ _ _ _ _ _ it s₂) _ _); refine Stop.mk ?_))
local macro_rules | `(tactic| walk_at "InvEndN") => `(tactic| refine Stop.mk ?_)
local macro_rules | `(tactic| walk_at "call type:range") => `(tactic| ((rename Fr _ _ _ _ => F'); (rename News _ _ _ _ => N'); (with_unfolding_all refine range1_rows F' N' ?_); intro _ _ _ _ _ _ _ _ _))

theorem nn4 {K : Nat} (hK : K ≤ 3) : K = 0 ∨ K = 1 ∨ K = 2 ∨ K = 3 := by omega
theorem smK {K : Nat} (hK : K ≤ 3) : Builtin.Range.small 0 (K : Int) 1 = true := by
  rcases nn4 hK with rfl | rfl | rfl | rfl <;> decide
theorem rsK {K : Nat} (hK : K ≤ 3) : Builtin.Range.rangeSize 0 (K : Int) 1 = (K : Int) := by
  rcases nn4 hK with rfl | rfl | rfl | rfl <;> rfl
theorem smP {K : Nat} (hK : K ≤ 3) : Builtin.Range.small 0 (1 * 2 ^ (K : Int).toNat) 1 = true := by
  rcases nn4 hK with rfl | rfl | rfl | rfl <;> decide
theorem rsP {K : Nat} (hK : K ≤ 3) : Builtin.Range.rangeSize 0 (1 * 2 ^ (K : Int).toNat) 1 = ((2 ^ K : Nat) : Int) := by
  rcases nn4 hK with rfl | rfl | rfl | rfl <;> rfl
theorem p8 {K : Nat} (hK : K ≤ 3) : 2 ^ K ≤ 8 := by
  rcases nn4 hK with rfl | rfl | rfl | rfl <;> decide
theorem spread_step {v : Int} {ord : List Int} {c x p : Int} {n : Nat} {pre : List Int} {k2 : Int} (hl : pre.length = n) (he : c = spreadI v ord n) (hx : x = (v / 2 ^ n) % 2) (hp : p = ord.getD n 0) :
    Builtin.bitOr c (x * 2 ^ p.toNat) = spreadI v ord (pre ++ [k2]).length := by
  rw [List.length_append, List.length_singleton, hl, spreadI, he, hx, hp]
theorem spread_C (v : Int) (ord : List Int) (vs : List Value) (K : Nat) (b : Addr) (hK : K ≤ 3) (hi : IntsAre vs ord) (hlo : ord.length = K ∧ ∀ x ∈ ord, 0 ≤ x ∧ x < 3) (w : World) (news : List (Addr × Obj)) (tv : Tok) (n : Nat)
    (hb : (b, ({ cls := .type "tuple", data := .seq vs.toArray n } : Obj)) ∈ news) :
    CtrI PySem.Challenge.rw_nn0293_01.row.prog w (hd.heap_39 w.params) 1 35 news [.int v tv, .ref b] (spreadI v ord K) := by
  obtain ⟨hl, ho⟩ := hlo
  have hvl : vs.length = K := by rw [hi.length]; exact hl
  w_top off
  k_with_none
  k_fill
  unfold CtrI
  intro p loose mean mg mb dp un gd cn cs a ccd cl outer A₀ base h₀ L m s Q E B F X N T hk hdp hun hret
  walk_at "mine enter"
  k_steps
  unfold Stop
  (rename Fr _ _ _ _ => lF'); (rename News _ _ _ _ => lN'); (rename IsRange _ _ _ _ _ _ _ _ => rgX)
  with_unfolding_all refine' kst_range (σ := Int × Tok) (n := K) (fun _ => news) (fun c => [(Str.ofString "row", .int c.1 c.2)]) (fun _ => True) [] (fun pre c => c.1 = spreadI v ord pre.length) (0, _) (by rfl) rgX (smK hK) (rsK hK) lF' lN' trivial ?kk rfl ?turn ?done
  case kk => kst_all
  case turn =>
    intro c pre k t u h tk own hk1 hlt hoff _ hc F1 N1
    (dsimp only [kstB] at F1)
    clear lF' lN' rgX
    have hk2' : k.toNat = pre.length := by omega
    have hbit : 0 ≤ v / 2 ^ k.toNat % 2 ∧ v / 2 ^ k.toNat % 2 < 2 := by omega
    try k_fold
    k_steps
    all_goals
      unfold Stop
      refine' kst_end (⟨?_, ?_⟩ : Int × Tok) (by assumption) (by assumption) ?hn ?ho rfl trivial ?hk ?hr ?hp
      case hk => kst_all
      case hn => intro p hp; exact List.mem_append.mpr (.inl hp)
      case ho => intro p hp; exact List.mem_append.mpr (.inr hp)
      case hr => kst_same
      case hp => exact spread_step rfl hc (by rw [hk2']) (by rw [hk2'])
  case done =>
    intro c2 u2 h2 tk2 _ hc2 F2 N2
    (dsimp only [kstB] at F2)
    clear lF' lN' rgX
    rw [rangeKs_length] at hc2
    try k_fold
    k_steps
    exact ctrI_end hret (by k_asm) (by k_asm) hc2

local macro_rules | `(tactic| walk_at "call ref") => `(tactic| ((with_reducible show wpAny _ _ (call (Value.ref 35) _) _ _ _); k_dflt (refine' ctrI_use (spread_C _ _ _ _ _ ?h1 ?h2 ?h3 _ _ _ _ ?h4) ?k1 ?k2 ?k3 ?k4 ?k5 ?kK ?kd ?ku ?_; (case k1 => k_asm); (case k2 => k_asm); (case k3 => k_asm); (case k4 => k_asm); (case k5 => k_asm); (case kK => first | exact rfl | assumption); (case kd => ktr_room); (case ku => ktr_units); (case h4 => k_mem); (case h2 => assumption); (case h3 => assumption); (case h1 => assumption); intro t9 h9 tk9 F9 N9; (try dsimp only); (try k_fold))))

theorem perm_step {t : Int} {ord : List Int} {c x k : Int} {n K : Nat} {pre : List Int} {k2 : Int} (hl : pre.length = n) (hk : k = n) (he : c = permI t ord K n) (hx : x = (t / 2 ^ (spreadI k ord K).toNat) % 2) :
    Builtin.bitOr c (x * 2 ^ k.toNat) = permI t ord K (pre ++ [k2]).length := by
  rw [List.length_append, List.length_singleton, hl, permI, he, hx, hk]
  rfl
theorem perm_C (t k : Int) (ord : List Int) (vs : List Value) (K : Nat) (b : Addr) (hk : k = K) (hK : K ≤ 3) (hi : IntsAre vs ord) (hlo : ord.length = K ∧ ∀ x ∈ ord, 0 ≤ x ∧ x < 3) (w : World) (news : List (Addr × Obj)) (tv tk : Tok) (n : Nat)
    (hb : (b, ({ cls := .type "tuple", data := .seq vs.toArray n } : Obj)) ∈ news) :
    CtrI PySem.Challenge.rw_nn0293_01.row.prog w (hd.heap_39 w.params) 2 42 news [.int t tv, .ref b, .int k tk] (permI t ord K (2 ^ K)) := by
  subst hk
  have h8 := p8 hK
  w_top off
  k_with_none
  k_fill
  unfold CtrI
  intro p loose mean mg mb dp un gd cn cs a ccd cl outer A₀ base h₀ L m s Q E B F X N T hk hdp hun hret
  walk_at "mine enter"
  k_steps
  unfold Stop
  (rename Fr _ _ _ _ => lF'); (rename News _ _ _ _ => lN'); (rename IsRange _ _ _ _ _ _ _ _ => rgX)
  with_unfolding_all refine' kst_range (σ := Int × Tok) (n := 2 ^ K) (fun _ => news) (fun c => [(Str.ofString "result", .int c.1 c.2)]) (fun _ => True) [] (fun pre c => c.1 = permI t ord K pre.length) (0, _) (by rfl) rgX (smP hK) (rsP hK) lF' lN' trivial ?kk rfl ?turn ?done
  case kk => kst_all
  case turn =>
    intro c pre k t2 u h tk own hk1 hlt hoff _ hc F1 N1
    (dsimp only [kstB] at F1)
    clear lF' lN' rgX
    have hk2' : k.toNat = pre.length := by omega
    have hsp := spreadI_nonneg k ord K
    have hbit : 0 ≤ t / 2 ^ (spreadI k ord K).toNat % 2 ∧ t / 2 ^ (spreadI k ord K).toNat % 2 < 2 := by omega
    try k_fold
    k_steps
    all_goals
      unfold Stop
      refine' kst_end (⟨?_, ?_⟩ : Int × Tok) (by assumption) (by assumption) ?hn ?ho rfl trivial ?hk ?hr ?hp
      case hk => kst_all
      case hn => intro p hp; exact List.mem_append.mpr (.inl hp)
      case ho => intro p hp; exact List.mem_append.mpr (.inr hp)
      case hr => kst_same
      case hp => exact perm_step rfl (by omega) hc rfl
  case done =>
    intro c2 u2 h2 tk2 _ hc2 F2 N2
    (dsimp only [kstB] at F2)
    clear lF' lN' rgX
    rw [rangeKs_length] at hc2
    try k_fold
    k_steps
    exact ctrI_end hret (by k_asm) (by k_asm) hc2
end
end SmallBT
end Mine
namespace Mine
section AppT
local macro_rules | `(tactic| walk_at "execs cons") => `(tactic| ((with_reducible show wpAny _ _ (execs _ _) _ _ ⟨_, _, _, _ + 1, _⟩); refine gentok ?_; intro tk))
local macro_rules | `(tactic| walk_at "execs nil") => `(tactic| ((with_reducible show wpAny _ _ (execs _ _) _ _ ⟨_, _, _, _ + 1, _⟩); refine gentok ?_; intro tk))
local macro_rules | `(tactic| k_mem) => `(tactic| assumption)
local macro_rules | `(tactic| walk_at "binaryOp Pow int int") => `(tactic| ((with_reducible show wpAny _ _ (binaryOp _ (Value.int 2 _) (Value.int _ _)) _ _ _); refine r_pow2 (by omega) (by omega) ?_))
local macro_rules | `(tactic| walk_at "binaryOp Mult int int") => `(tactic| (refine r_mul ?a ?b ?_; (case a => omega); (case b => omega)))
local macro_rules | `(tactic| walk_at "binaryOp FloorDiv int int") => `(tactic| first | (refine r_divp ?a ?_; (case a => omega)) | (refine r_div ?a ?b ?_; (case a => omega); (case b => omega)))
local macro_rules | `(tactic| walk_at "binaryOp Mod int int") => `(tactic| (refine r_mod ?a ?_; (case a => first | exact pow_pos2 _ | omega)))
local macro_rules | `(tactic| walk_at "binaryOp RShift int int") => `(tactic| (refine r_shr ?a ?_; (case a => omega)))
local macro_rules | `(tactic| walk_at "binaryOp LShift int int") => `(tactic| (refine r_shl ?a ?b ?c ?d ?_; (case a => omega); (case b => omega); (case c => omega); (case d => omega)))
local macro_rules | `(tactic| walk_at "binaryOp BitAnd int int") => `(tactic| ((with_reducible show wpAny _ _ (binaryOp _ (Value.int _ _) (Value.int 1 _)) _ _ _); refine r_and1 ?_))
local macro_rules | `(tactic| walk_at "subscriptTail") => `(tactic| (k_here; (with_reducible show wpAny _ _ (subscriptTail _ _ (Value.ref _) (Value.int _ _)) _ _ _); k_dflt (refine' r_item ?t ?i ?o ?a ?b ?c ?_; (case t => exact News.isTup (by k_asm) (by k_mem)); (case i => assumption); (case o => assumption); (case a => omega); (case b => omega); (case c => omega); intro _ _ _)))
local macro_rules | `(tactic| walk_at "mine enterB") => `(tactic| (k_dflt (refine' code_defB ?k1 ?k2 ?k3 ?k4 ?k5 ?kA ?kF ?kK ?k6 ?k7 ?k8 ?k9 ?kB ?_ ?c2 ?c3 ?c4 ?c5; (case kA => exact rfl); (case kF => exact rfl); (case kK => assumption); (case k1 => k_asm); (case k2 => k_asm); (case k3 => k_asm); (case k4 => k_asm); (case k5 => k_asm); (case k6 => k_is); (case k7 => k_is); (case k8 => ktr_room); (case k9 => exact BindsTo.of_eq rfl); (case c5 => decide); (case kB => exact locs rfl); (case c2 => exact rfl); (case c3 => exact rfl); (case c4 => exact rfl); k_whole; intro g' L' h' F' N' B' X' T' hbase; (try dsimp only); (try k_fold))))
local macro_rules | `(tactic| walk_at "mine enterCB") => `(tactic| (k_dflt (refine' code_defCB ?k1 ?k2 ?k3 ?k4 ?k5 ?kA ?kF ?kK ?k6 ?k7 ?k8 ?k9 ?kB ?kD ?_ ?c2 ?c3 ?c4; (case kA => exact rfl); (case kF => exact rfl); (case kK => assumption); (case k1 => k_asm); (case k2 => k_asm); (case k3 => k_asm); (case k4 => k_asm); (case k5 => k_asm); (case k6 => k_is); (case k7 => k_is); (case k8 => ktr_room); (case k9 => exact BindsTo.of_eq rfl); (case kB => exact rfl); (case kD => decide +kernel); (case c2 => exact rfl); (case c3 => exact rfl); (case c4 => exact rfl); k_whole; intro g' L' h' tk' cells' F' N' Y' B' X' T' hbase; k_cells Y'; (try simp only [List.cons_append, List.nil_append] at N'); (try dsimp only); (try k_fold))))
local macro_rules | `(tactic| walk_at "mine ints") => `(tactic| first | assumption | exact IntsAre.nil | exact IntsAre.cons _ _ (by walk_at "mine ints"))
local macro_rules | `(tactic| walk_at "compareOp NotIn int ref") => `(tactic| (k_here; k_dflt (refine' notin_tuple_ints ?t ?i ?_; (case t => exact News.isTup (by k_asm) (by k_mem)); (case i => walk_at "mine ints"); k_whole)))
local macro_rules | `(tactic| walk_at "mine cut") => `(tactic| first | (refine' Cut.here ?_; k_all) | (refine' Cut.there ?a ?b; (case a => k_ne); (case b => walk_at "mine cut")))
local macro_rules | `(tactic| walk_at "UnrEnd") => `(tactic| (refine' unrEnd_cut (by assumption) (by assumption) ?c ?_; (case c => walk_at "mine cut"); first | (k_dflt (refine ⟨by k_mem, ?_⟩)) | skip))
local macro_rules | `(tactic| walk_at "mine enter") => `(tactic| (refine wpAny_call ?_; k_dflt cell_enter))
local macro_rules | `(tactic| walk_at "call builtin:len") => `(tactic| (k_here; (with_reducible show wpAny _ _ (call (Value.builtin "len") [Value.ref _]) _ _ _); k_dflt (refine' r_len ?t ?e ?k ?_; (case t => exact News.isTup (by k_asm) (by k_mem)); (case e => assumption); (case k => omega))))

section
local macro_rules | `(tactic| walk_at "pyIter ref") => `(tactic| ((with_reducible show wpAny _ _ (pyIter (Value.ref _)) (fun it s₂ => LoopAtV _ _ _ _ _ _ _ _ _ it s₂) _ _); refine Stop.mk ?_))
local macro_rules | `(tactic| walk_at "InvEndN") => `(tactic| refine Stop.mk ?_)
local macro_rules | `(tactic| walk_at "call type:range") => `(tactic| ((rename Fr _ _ _ _ => F'); (rename News _ _ _ _ => N'); (with_unfolding_all refine range1_rows F' N' ?_); intro _ _ _ _ _ _ _ _ _))

local macro_rules | `(tactic| walk_at "call ref") => `(tactic| ((with_reducible show wpAny _ _ (call (Value.ref 21) _) _ _ _); k_dflt (refine' ctrI_use (full_C _ _ ?e ?h _ _ _) ?k1 ?k2 ?k3 ?k4 ?k5 ?kK ?kd ?ku ?_; (case k1 => k_asm); (case k2 => k_asm); (case k3 => k_asm); (case k4 => k_asm); (case k5 => k_asm); (case kK => first | exact rfl | assumption); (case kd => ktr_room); (case ku => ktr_units); (case e => first | rfl | omega); (case h => omega); intro t9 h9 tk9 F9 N9; (try dsimp only); (try k_fold))))
local macro_rules | `(tactic| walk_at "call ref") => `(tactic| ((with_reducible show wpAny _ _ (call (Value.ref 49) _) _ _ _); k_dflt (refine' ctrI_use (flip_C _ _ _ _ _ ?e1 ?e2 ?h1 ?h2 ?h3 ?h4 _ _ _ _ _) ?k1 ?k2 ?k3 ?k4 ?k5 ?kK ?kd ?ku ?_; (case k1 => k_asm); (case k2 => k_asm); (case k3 => k_asm); (case k4 => k_asm); (case k5 => k_asm); (case kK => first | exact rfl | assumption); (case kd => ktr_room); (case ku => ktr_units); (case e1 => first | rfl | omega); (case e2 => first | rfl | omega); (case h1 => omega); (case h2 => omega); (case h3 => omega); (case h4 => omega); intro t9 h9 tk9 F9 N9; (try dsimp only); (try k_fold))))
local macro_rules | `(tactic| walk_at "call ref") => `(tactic| ((with_reducible show wpAny _ _ (call (Value.ref 42) _) _ _ _); k_dflt (refine' ctrI_use (perm_C _ _ _ _ _ _ ?e ?h1 ?h2 ?h3 _ _ _ _ _ ?h4) ?k1 ?k2 ?k3 ?k4 ?k5 ?kK ?kd ?ku ?_; (case k1 => k_asm); (case k2 => k_asm); (case k3 => k_asm); (case k4 => k_asm); (case k5 => k_asm); (case kK => first | exact rfl | assumption); (case kd => ktr_room); (case ku => ktr_units); (case e => first | rfl | omega); (case h4 => k_mem); (case h2 => assumption); (case h3 => assumption); (case h1 => assumption); intro t9 h9 tk9 F9 N9; (try dsimp only); (try k_fold))))

theorem appL_rng {t f : Int} {ord : List Int} {K : Nat} (hK : K ≤ 3) : ∀ n, n ≤ K → 0 ≤ appL t ord f K n ∧ appL t ord f K n < 2 ^ (2 ^ K)
  | 0, _ => ⟨permI_nonneg _ _ _ _, permI_lt _ _ _ _⟩
  | n + 1, h => by
    have ih := appL_rng (t := t) (f := f) (ord := ord) hK n (by omega)
    rw [appL]
    split
    · exact fl_rng (by omega) hK ih.1 ih.2
    · exact ih
theorem apply_C (t k f b : Int) (ord : List Int) (vs : List Value) (K : Nat) (ob fo : Addr) (hk : k = K) (hK : K ≤ 3) (ht0 : 0 ≤ t) (ht1 : t < 2 ^ (2 ^ K)) (hi : IntsAre vs ord) (hlo : ord.length = K ∧ ∀ x ∈ ord, 0 ≤ x ∧ x < 3) (w : World) (news : List (Addr × Obj)) (tv tk tf tb : Tok) (n n2 : Nat)
    (hb : (ob, ({ cls := .type "tuple", data := .seq vs.toArray n } : Obj)) ∈ news) (hfo : (fo, ({ cls := .type "tuple", data := .seq [Value.ref ob, Value.int f tf, Value.int b tb].toArray n2 } : Obj)) ∈ news) :
    CtrI PySem.Challenge.rw_nn0293_01.row.prog w (hd.heap_39 w.params) 4 77 news [.int t tv, .ref fo, .int k tk] (appI t ord f b K) := by
  subst hk
  have h8 := p8 hK
  w_top off
  k_with_none
  k_fill
  unfold CtrI
  intro p loose mean mg mb dp un gd cn cs a ccd cl outer A₀ base h₀ L m s Q E B F X N T hk hdp hun hret
  walk_at "mine enter"
  k_steps
  unfold Stop
  (rename Fr _ _ _ _ => lF'); (rename News _ _ _ _ => lN'); (rename IsRange _ _ _ _ _ _ _ _ => rgX)
  with_unfolding_all refine' kst_range (σ := Int × Tok) (n := K) (fun _ => news) (fun c => [(Str.ofString "result", .int c.1 c.2)]) (fun _ => True) [] (fun pre c => c.1 = appL t ord f K pre.length) (_, _) (by rfl) rgX (smK hK) (rsK hK) lF' lN' trivial ?kk rfl ?turn ?done
  case kk => kst_all
  case turn =>
    intro c pre j t2 u h tk own hk1 hlt hoff _ hc F1 N1
    (dsimp only [kstB] at F1)
    clear lF' lN' rgX
    have hj : j.toNat = pre.length := by omega
    have hr := appL_rng (t := t) (f := f) (ord := ord) hK pre.length (by omega)
    have h28 := two8 hK
    have hbit : 0 ≤ f / 2 ^ j.toNat % 2 ∧ f / 2 ^ j.toNat % 2 < 2 := by omega
    have hj2 : j = (pre.length : Int) := by omega
    try k_fold
    k_steps
    all_goals
      unfold Stop
      refine' kst_end (⟨?_, ?_⟩ : Int × Tok) (by assumption) (by assumption) ?hn ?ho rfl trivial ?hk ?hr ?hp
      case hk => kst_all
      case hn => intro p hp; exact List.mem_append.mpr (.inl hp)
      case ho => intro p hp; exact List.mem_append.mpr (.inr hp)
      case hr => kst_same
      case hp =>
        rw [List.length_append, List.length_singleton, appL]
        first | (rw [if_pos (by rw [← hj]; with_reducible assumption), ← hc]) | (rw [if_neg (by rw [← hj]; with_reducible assumption), ← hc])
  case done =>
    intro c2 u2 h2 tk2 _ hc2 F2 N2
    (dsimp only [kstB] at F2)
    clear lF' lN' rgX
    rw [rangeKs_length] at hc2
    try k_fold
    k_steps
    all_goals
      refine ctrI_end hret (by k_asm) (by k_asm) ?_
      unfold appI
      first | (rw [if_pos (by with_reducible assumption), ← hc2]) | (rw [if_neg (by with_reducible assumption), ← hc2])
end
end AppT
end Mine
namespace Mine
section LoopDT
def DJ {σ : Type} (Led : σ → List (Addr × Obj)) (cst : List (Addr × Obj)) (ps : σ → List (Str × Value)) (Facts : List (Addr × Obj) → σ → Prop) (x : Str) (stored : List Str) (m₀ : Str → Option Value) (P : Nat → σ → Prop) (c₀ : σ) (i : Nat) (m : Str → Option Value) (nx : List (Addr × Obj)) : Prop :=
  ∃ (c : σ) (tl : List (Addr × Obj)), nx = Led c ++ (cst ++ tl) ∧ (∀ q ∈ tl, ∀ p ∈ Led c₀ ++ cst, p.1 < q.1) ∧ Facts (cst ++ tl) c ∧ (∀ p ∈ ps c, m p.1 = some p.2) ∧ (∀ z, z ≠ x → (∀ p ∈ ps c, z ≠ p.1) → stored.contains z = false → m z = m₀ z) ∧ P i c

section
variable {prog : Program} {w : World} {A : Around} {E : Value → Shared → Prop} {s : Shared} {env : Env} {h₀ : Heap} {x : Str} {body : List Stmt} {Q : Flow → Shared → Prop}

theorem dj_fin {σ : Type} {Led : σ → List (Addr × Obj)} {cst : List (Addr × Obj)} {ps : σ → List (Str × Value)} {Facts : List (Addr × Obj) → σ → Prop} {stored : List Str} {m₀ : Str → Option Value} {P : Nat → σ → Prop} {c₀ : σ} {L : Addr} {i : Nat}
    (hadr : ∀ c, (Led c).map (·.1) = (Led c₀).map (·.1)) {c : σ} {tl own : List (Addr × Obj)} (hoff : OwnOff own ((Led c ++ (cst ++ tl)).map (·.1))) (ht : ∀ q ∈ tl, ∀ p ∈ Led c₀ ++ cst, p.1 < q.1) {s₁ : Shared}
    (c' : σ) (add all : List (Addr × Obj)) (h' : Heap) (tk' : Nat) (m' : Str → Option Value) (F : Fr h₀ L h' m') (N : News h₀ L h' all) (hall : ∀ p ∈ Led c' ++ ((cst ++ tl) ++ own), p ∈ all) (hadd : ∀ p ∈ add, p ∈ all) (hlt : ∀ q ∈ add, ∀ p ∈ Led c ++ ((cst ++ tl) ++ own), p.1 < q.1)
    (hf : Facts ((cst ++ tl) ++ add) c') (hk : ∀ p ∈ ps c', m' p.1 = some p.2) (hr : ∀ z, z ≠ x → (∀ p ∈ ps c', z ≠ p.1) → stored.contains z = false → m' z = m₀ z) (hp : P (i + 1) c') :
    InvEndG h₀ L (DJ Led cst ps Facts x stored m₀ P c₀ (i + 1)) own s₁ { s₁ with heap := h', toks := tk' } := by
  refine InvEndG.intro (nx := Led c' ++ (cst ++ (tl ++ add))) F N ⟨c', tl ++ add, rfl, ?_, by rw [← List.append_assoc]; exact hf, hk, hr, hp⟩ ?_ ?_ ?_
  · intro q hq p hp
    rcases List.mem_append.mp hq with hq | hq
    · exact ht q hq p hp
    · have hp2 : p.1 ∈ (Led c).map (·.1) ∨ p ∈ cst := by
        rcases List.mem_append.mp hp with h | h
        · left; rw [hadr c]; exact List.mem_map.mpr ⟨p, h, rfl⟩
        · exact .inr h
      rcases hp2 with h | h
      · obtain ⟨p2, hp2, e⟩ := List.mem_map.mp h
        rw [← e]; exact hlt q hq p2 (List.mem_append.mpr (.inl hp2))
      · exact hlt q hq p (List.mem_append.mpr (.inr (List.mem_append.mpr (.inl (List.mem_append.mpr (.inl h))))))
  · intro p hp b hb
    obtain ⟨q, hq, rfl⟩ := List.mem_map.mp hb
    rcases List.mem_append.mp hq with hq | hq
    · have : q.1 ∈ (Led c).map (·.1) := by rw [hadr c, ← hadr c']; exact List.mem_map.mpr ⟨q, hq, rfl⟩
      obtain ⟨p2, hp2, e⟩ := List.mem_map.mp this
      rw [← e]
      exact hoff p hp _ (List.mem_map.mpr ⟨p2, List.mem_append.mpr (.inl hp2), rfl⟩)
    · rcases List.mem_append.mp hq with hq | hq
      · exact hoff p hp _ (List.mem_map.mpr ⟨q, List.mem_append.mpr (.inr (List.mem_append.mpr (.inl hq))), rfl⟩)
      · rcases List.mem_append.mp hq with hq | hq
        · exact hoff p hp _ (List.mem_map.mpr ⟨q, List.mem_append.mpr (.inr (List.mem_append.mpr (.inr hq))), rfl⟩)
        · exact Nat.ne_of_lt (hlt q hq p (List.mem_append.mpr (.inr (List.mem_append.mpr (.inr hp)))))
  · intro p hp
    rcases List.mem_append.mp hp with h | h
    · exact hall p (List.mem_append.mpr (.inl h))
    · rcases List.mem_append.mp h with h | h
      · exact hall p (List.mem_append.mpr (.inr (List.mem_append.mpr (.inl (List.mem_append.mpr (.inl h))))))
      · rcases List.mem_append.mp h with h | h
        · exact hall p (List.mem_append.mpr (.inr (List.mem_append.mpr (.inl (List.mem_append.mpr (.inr h))))))
        · exact hadd p h
  · intro p hp
    exact hall p (List.mem_append.mpr (.inr (List.mem_append.mpr (.inr hp))))

theorem dj_sep2 {l₀ cst tl : List (Addr × Obj)} (hs0 : ∀ p ∈ cst, ∀ q ∈ l₀, p.1 ≠ q.1) (ht : ∀ q ∈ tl, ∀ p ∈ l₀ ++ cst, p.1 < q.1) : ∀ p ∈ cst ++ tl, ∀ q ∈ l₀, p.1 ≠ q.1 := by
  intro p hp q hq
  rcases List.mem_append.mp hp with h | h
  · exact hs0 p h q hq
  · exact (Nat.ne_of_lt (ht p h q (List.mem_append.mpr (.inl hq)))).symm
theorem dj_sep {σ : Type} {Led : σ → List (Addr × Obj)} {cst : List (Addr × Obj)} {c₀ : σ}
    (hadr : ∀ c, (Led c).map (·.1) = (Led c₀).map (·.1)) {c : σ} {tl own : List (Addr × Obj)} (hoff : OwnOff own ((Led c ++ (cst ++ tl)).map (·.1))) (hs0 : ∀ p ∈ cst, ∀ q ∈ Led c₀, p.1 ≠ q.1) (ht : ∀ q ∈ tl, ∀ p ∈ Led c₀ ++ cst, p.1 < q.1) :
    ∀ p ∈ (cst ++ tl) ++ own, ∀ q ∈ Led c₀, p.1 ≠ q.1 := by
  intro p hp q hq
  rcases List.mem_append.mp hp with h | h
  · exact dj_sep2 hs0 ht p h q hq
  · have : q.1 ∈ (Led c).map (·.1) := by rw [hadr c]; exact List.mem_map.mpr ⟨q, hq, rfl⟩
    obtain ⟨p2, hp2, e⟩ := List.mem_map.mp this
    rw [← e]
    exact hoff p h _ (List.mem_map.mpr ⟨p2, List.mem_append.mpr (.inl hp2), rfl⟩)

theorem dj_wo {l W own : List (Addr × Obj)} (hoff : OwnOff own ((l ++ W).map (·.1))) : ∀ p ∈ W, ∀ q ∈ own, p.1 ≠ q.1 := fun p hp q hq e =>
  hoff q hq p.1 (List.mem_map.mpr ⟨p, List.mem_append.mpr (.inr hp), rfl⟩) e.symm

abbrev DFin {σ : Type} (Led : σ → List (Addr × Obj)) (ps : σ → List (Str × Value)) (Facts : List (Addr × Obj) → σ → Prop) (x : Str) (stored : List Str) (m₀ : Str → Option Value) (P : Nat → σ → Prop) (h₀ : Heap) (L : Addr) (c : σ) (W own : List (Addr × Obj)) (i : Nat) (J : (Str → Option Value) → List (Addr × Obj) → Prop) (s₁ : Shared) : Prop :=
  ∀ (c' : σ) (add all : List (Addr × Obj)) (h' : Heap) (tk' : Nat) (m' : Str → Option Value), Fr h₀ L h' m' → News h₀ L h' all → (∀ p ∈ Led c' ++ (W ++ own), p ∈ all) → (∀ p ∈ add, p ∈ all) → (∀ q ∈ add, ∀ p ∈ Led c ++ (W ++ own), p.1 < q.1) →
    Facts (W ++ add) c' → (∀ p ∈ ps c', m' p.1 = some p.2) → (∀ z, z ≠ x → (∀ p ∈ ps c', z ≠ p.1) → stored.contains z = false → m' z = m₀ z) → P (i + 1) c' → InvEndG h₀ L J own s₁ { s₁ with heap := h', toks := tk' }

theorem rgD {σ : Type} {r : Addr} {a₀ b₀ : Int} {t₀ u₀ v₀ : Tok} {n : Nat} {m₀ : Str → Option Value} {cst : List (Addr × Obj)} (Led : σ → List (Addr × Obj)) (ps : σ → List (Str × Value)) (Facts : List (Addr × Obj) → σ → Prop) (stored : List Str) (P : Nat → σ → Prop) (c₀ : σ)
    (hh : A.handled = none) (hr : IsRange s.heap r a₀ b₀ 1 t₀ u₀ v₀) (hsmall : Builtin.Range.small a₀ b₀ 1 = true) (hsz : Builtin.Range.rangeSize a₀ b₀ 1 = (n : Int)) (F : Fr h₀ env.locals s.heap m₀) (N : News h₀ env.locals s.heap (Led c₀ ++ cst)) (hadr : ∀ c, (Led c).map (·.1) = (Led c₀).map (·.1)) (hs0 : ∀ p ∈ cst, ∀ q ∈ Led c₀, p.1 ≠ q.1) (hf : Facts cst c₀) (hk : ∀ p ∈ ps c₀, m₀ p.1 = some p.2) (hp : P 0 c₀)
    (turn : ∀ (c : σ) (W own : List (Addr × Obj)) (i : Nat) t (u : Str → Option Value) h tk J, i < n → (∀ p ∈ cst, p ∈ W) → Facts W c → P i c →
      Fr h₀ env.locals h (fun y => if y = x then some (.int (a₀ + (i : Int)) t) else kstB (fun z => if stored.contains z then u z else m₀ z) (ps c) y) → News h₀ env.locals h (Led c ++ (W ++ own)) → (∀ p ∈ W ++ own, ∀ q ∈ Led c₀, p.1 ≠ q.1) → (∀ p ∈ W, ∀ q ∈ own, p.1 ≠ q.1) →
      DFin Led ps Facts x stored m₀ P h₀ env.locals c W own i J { s with heap := h, toks := tk } →
      wpAny (model prog w) A (execs body env) (InvPostG h₀ env.locals J own { s with heap := h, toks := tk } Q) E { s with heap := h, toks := tk })
    (done : ∀ (c : σ) (add : List (Addr × Obj)) (u : Str → Option Value) h tk, (∀ q ∈ add, ∀ p ∈ Led c₀ ++ cst, p.1 < q.1) → Facts (cst ++ add) c → P n c → Fr h₀ env.locals h (fun y => if y = x then u y else kstB (fun z => if stored.contains z then u z else m₀ z) (ps c) y) → News h₀ env.locals h (Led c ++ (cst ++ add)) → (∀ p ∈ cst ++ add, ∀ q ∈ Led c₀, p.1 ≠ q.1) → Q .next { s with heap := h, toks := tk }) :
    wpAny (model prog w) A (pyIter (.ref r)) (fun it s₂ => LoopAtV prog w A h₀ env x body Q E it s₂) E s := by
  refine wpAny_pyIter_range hr hsmall ?_
  have W : Walks prog w A s.heap.objs.size [s.heap.objs.size] [s.heap.objs.size] n (fun i v => i < n ∧ ∃ t, v = .int (a₀ + i * 1) t)
      (fun i h => IsRangeIter h s.heap.objs.size (a₀ + (i : Nat) * 1) ((n : Int) - (i : Nat)) 1) := (Walks.range hh _ a₀ 1 n).bound
  refine kdr_loop (news := Led c₀ ++ (cst ++ [])) (DJ Led cst ps Facts x stored m₀ P c₀) W (fun _ h => h) (fun _ h => h) ?_ ?_ ?_ ?_ (by show IsRangeIter _ _ _ _ _; rw [hsz]; simpa using Heap.get?_push_size _ rfl) (F.push _) (fun p hp => by rw [List.append_nil] at hp; exact ⟨Heap.get?_push_of_some _ (N p hp).1, (N p hp).2⟩) ⟨c₀, [], rfl, fun _ hp => (nomatch hp), by rw [List.append_nil]; exact hf, hk, fun _ _ _ _ => rfl, hp⟩ ?_ ?_
  · intro i h hi b hb
    rw [List.mem_singleton.mp hb]
    exact ⟨_, hi⟩
  · intro hm
    exact absurd F.ns.lt ((List.mem_singleton.mp hm) ▸ Nat.lt_irrefl _)
  · intro b hb
    rw [List.mem_singleton.mp hb]
    exact next_is_new F
  · intro p hp hI
    rw [List.append_nil] at hp
    exact absurd (Heap.lt_size (N p hp).1) ((List.mem_singleton.mp hI) ▸ Nat.lt_irrefl _)
  · rintro i v m₁ nx h tk own hi ⟨_, t, rfl⟩ hoff ⟨c, tl, rfl, ht, hf', h1, h2, hp'⟩ F₁ N₁
    have e1 : a₀ + (i : Int) * 1 = a₀ + (i : Int) := by omega
    rw [e1] at F₁
    rw [List.append_assoc] at N₁
    exact turn c (cst ++ tl) own i t m₁ h tk _ hi (fun p hp => List.mem_append.mpr (.inl hp)) hf' hp' (kst_fr h1 h2 F₁) N₁ (dj_sep hadr hoff hs0 ht) (dj_wo hoff) (dj_fin hadr hoff ht)
  · rintro m₁ nx h tk ⟨c, tl, rfl, ht, hf', h1, h2, hp'⟩ F₁ N₁
    exact done c tl m₁ h tk ht hf' hp' (kst_frOut h1 h2 F₁) N₁ (dj_sep2 hs0 ht)

theorem lsD {σ : Type} {l : Addr} {vs : List Value} {ds : List Dat} {nn : Nat} {m₀ : Str → Option Value} {cst : List (Addr × Obj)} (Led : σ → List (Addr × Obj)) (ps : σ → List (Str × Value)) (Facts : List (Addr × Obj) → σ → Prop) (stored : List Str) (P : Nat → σ → Prop) (c₀ : σ)
    (hh : A.handled = none) (hl : (l, listOf vs.toArray nn) ∈ cst) (hd : DatAll cst vs ds) (F : Fr h₀ env.locals s.heap m₀) (N : News h₀ env.locals s.heap (Led c₀ ++ cst)) (hadr : ∀ c, (Led c).map (·.1) = (Led c₀).map (·.1)) (hs0 : ∀ p ∈ cst, ∀ q ∈ Led c₀, p.1 ≠ q.1) (hf : Facts cst c₀) (hk : ∀ p ∈ ps c₀, m₀ p.1 = some p.2) (hp : P 0 c₀)
    (turn : ∀ (c : σ) (W own : List (Addr × Obj)) (i : Nat) d v (u : Str → Option Value) h tk J, ds[i]? = some d → DatIn W v d → (∀ p ∈ cst, p ∈ W) → Facts W c → P i c →
      Fr h₀ env.locals h (fun y => if y = x then some v else kstB (fun z => if stored.contains z then u z else m₀ z) (ps c) y) → News h₀ env.locals h (Led c ++ (W ++ own)) → (∀ p ∈ W ++ own, ∀ q ∈ Led c₀, p.1 ≠ q.1) → (∀ p ∈ W, ∀ q ∈ own, p.1 ≠ q.1) →
      DFin Led ps Facts x stored m₀ P h₀ env.locals c W own i J { s with heap := h, toks := tk } →
      wpAny (model prog w) A (execs body env) (InvPostG h₀ env.locals J own { s with heap := h, toks := tk } Q) E { s with heap := h, toks := tk })
    (done : ∀ (c : σ) (add : List (Addr × Obj)) (u : Str → Option Value) h tk, (∀ q ∈ add, ∀ p ∈ Led c₀ ++ cst, p.1 < q.1) → Facts (cst ++ add) c → P ds.length c → Fr h₀ env.locals h (fun y => if y = x then u y else kstB (fun z => if stored.contains z then u z else m₀ z) (ps c) y) → News h₀ env.locals h (Led c ++ (cst ++ add)) → (∀ p ∈ cst ++ add, ∀ q ∈ Led c₀, p.1 ≠ q.1) → Q .next { s with heap := h, toks := tk }) :
    wpAny (model prog w) A (pyIter (.ref l)) (fun it s₂ => LoopAtV prog w A h₀ env x body Q E it s₂) E s := by
  have hlen : vs.length = ds.length := hd.length
  refine kdl_iter (news := Led c₀ ++ (cst ++ [])) (DJ Led cst ps Facts x stored m₀ P c₀) hh (List.mem_append.mpr (.inr (List.mem_append.mpr (.inl hl)))) F (fun p hp => N p (by rw [List.append_nil] at hp; exact hp)) ⟨c₀, [], rfl, fun _ hp => (nomatch hp), by rw [List.append_nil]; exact hf, hk, fun _ _ _ _ => rfl, hp⟩ ?_ ?_
  · rintro i v m₁ nx h tk own hv hoff _ ⟨c, tl, rfl, ht, hf', h1, h2, hp'⟩ F₁ N₁
    have hi : i < ds.length := by rw [← hlen]; exact (List.getElem?_eq_some_iff.mp hv).1
    obtain ⟨v', hv', hD⟩ := hd.get hi
    have ev : v' = v := by rw [hv] at hv'; exact (Option.some.inj hv').symm
    rw [ev] at hD
    rw [List.append_assoc] at N₁
    have up : ∀ s₂, InvEndG h₀ env.locals (DJ Led cst ps Facts x stored m₀ P c₀ (i + 1)) own { s with heap := h, toks := tk } s₂ →
        InvEndG h₀ env.locals (fun m' nx => (l, listOf vs.toArray nn) ∈ nx ∧ DJ Led cst ps Facts x stored m₀ P c₀ (i + 1) m' nx) own { s with heap := h, toks := tk } s₂ := by
      rintro s₂ ⟨h', tk', m', news', nx', e', F', N', hn', ho', ha, hS⟩
      refine ⟨h', tk', m', news', nx', e', F', N', hn', ho', ha, ?_, hS⟩
      obtain ⟨c', tl', rfl, _⟩ := hS
      exact List.mem_append.mpr (.inr (List.mem_append.mpr (.inl hl)))
    refine wpAny_mono (turn c (cst ++ tl) own i (ds[i]'hi) v m₁ h tk _ (List.getElem?_eq_getElem hi) (DatIn.mono (fun p hp => List.mem_append.mpr (.inl hp)) hD) (fun p hp => List.mem_append.mpr (.inl hp)) hf' hp' (kst_fr h1 h2 F₁) N₁ (dj_sep hadr hoff hs0 ht) (dj_wo hoff) (dj_fin hadr hoff ht)) (fun f s₂ p => ?_) fun _ _ x => x
    cases f with
    | ret v => exact p
    | brk => exact p
    | next => exact up _ p
    | cont => exact up _ p
  · rintro m₁ nx h tk ⟨c, tl, rfl, ht, hf', h1, h2, hp'⟩ F₁ N₁
    rw [hlen] at hp'
    exact done c tl m₁ h tk ht hf' hp' (kst_frOut h1 h2 F₁) N₁ (dj_sep2 hs0 ht)
end
def tupD (o : List Int) : Dat := Dat.tuple (o.map Dat.int)
theorem ints_inv {W : List (Addr × Obj)} : ∀ {vs : List Value} {o : List Int}, DatAll W vs (o.map Dat.int) → IntsAre vs o
  | [], [], _ => .nil
  | [], _ :: _, h => by cases h
  | _ :: _, [], h => by cases h
  | v :: vs, x :: o, h => by
    cases h with
    | cons h r =>
      cases h
      exact .cons _ _ (ints_inv r)
theorem ints_mk {W : List (Addr × Obj)} {vs : List Value} {o : List Int} (h : IntsAre vs o) : DatAll W vs (o.map Dat.int) := by
  induction h with
  | nil => exact .nil
  | cons n t _ ih => exact .cons (.int n t) ih
theorem tup_inv {W : List (Addr × Obj)} {v : Value} {o : List Int} (h : DatIn W v (tupD o)) : ∃ a vs n, v = .ref a ∧ (a, ({ cls := .type "tuple", data := .seq vs.toArray n } : Obj)) ∈ W ∧ IntsAre vs o := by
  unfold tupD at h
  cases h with
  | tuple hm hr => exact ⟨_, _, _, rfl, hm, ints_inv hr⟩
theorem tup_mk {W : List (Addr × Obj)} {a : Addr} {vs : List Value} {n : Nat} {o : List Int} (hm : (a, ({ cls := .type "tuple", data := .seq vs.toArray n } : Obj)) ∈ W) (h : IntsAre vs o) : DatIn W (.ref a) (tupD o) := .tuple hm (ints_mk h)
theorem list_inv {W : List (Addr × Obj)} {v : Value} {ds : List Dat} (h : DatIn W v (Dat.list ds)) : ∃ a vs n, v = .ref a ∧ (a, listOf vs.toArray n) ∈ W ∧ DatAll W vs ds := by
  cases h with
  | list hm hr => exact ⟨_, _, _, rfl, hm, hr⟩
section
variable {prog : Program} {w : World} {A : Around} {E : Value → Shared → Prop} {s : Shared} {h₀ : Heap} {L : Addr} {m : Str → Option Value} {Q : Value → Shared → Prop}
theorem r_addTx {b t x : Addr} {O : Obj} {R : List (Addr × Obj)} {y : Value} {nb n : Nat} {vs : List Value} (F : Fr h₀ L s.heap m) (N : News h₀ L s.heap ((b, ({ cls := .type "tuple", data := .seq #[y] nb } : Obj)) :: (x, O) :: R))
    (hlt : ∀ p ∈ (x, O) :: R, p.1 < b) (hx : ∀ p ∈ R, p.1 ≠ x) (htm : (t, ({ cls := .type "tuple", data := .seq vs.toArray n } : Obj)) ∈ R) (hz : vs.length ≤ 1000)
    (h : ∀ D h' add2, Fr h₀ L h' m → News h₀ L h' ((x, O) :: (add2 ++ R)) → (∀ q ∈ add2, ∀ p ∈ (x, O) :: R, p.1 < q.1) → (∀ p ∈ add2 ++ R, p.1 ≠ x) → (∃ n', (D, ({ cls := .type "tuple", data := .seq (vs ++ [y]).toArray n' } : Obj)) ∈ add2) → Q (.ref D) { s with heap := h' }) :
    wpAny (model prog w) A (binaryOp .Add (.ref t) (.ref b)) Q E s := by
  have hb : IsTup s.heap b #[y] := News.isTup N (.head _)
  have ht : IsTup s.heap t vs.toArray := News.isTup N (.tail _ (.tail _ htm))
  have hbx : ∀ q ∈ [(b, ({ cls := .type "tuple", data := .seq #[y] nb } : Obj))], ∀ p ∈ (x, O) :: R, p.1 < q.1 := by
    intro q hq p hp; rw [List.mem_singleton.mp hq]; exact hlt p hp
  cases vs with
  | nil =>
    refine kde_addT0 F N ht hb rfl (by simp) ?_
    refine h b s.heap [(b, ({ cls := .type "tuple", data := .seq #[y] nb } : Obj))] F ?_ hbx ?_ ⟨nb, .head _⟩
    · intro p hp
      rcases List.mem_cons.mp hp with rfl | hp
      · exact N _ (.tail _ (.head _))
      · rcases List.mem_cons.mp hp with rfl | hp
        · exact N _ (.head _)
        · exact N _ (.tail _ (.tail _ hp))
    · intro p hp
      rcases List.mem_cons.mp hp with rfl | hp
      · exact (Nat.ne_of_lt (hlt (x, O) (.head _))).symm
      · exact hx p hp
  | cons v0 vs =>
    refine kde_addT (zs := (v0 :: vs) ++ [y]) F N ht hb (by simp) (by simp) (by simp at hz ⊢; omega) (by simp) ?_
    intro D h' F' N' l1
    refine h D h' [(D, ({ cls := .type "tuple", data := .seq ((v0 :: vs) ++ [y]).toArray } : Obj)), (b, ({ cls := .type "tuple", data := .seq #[y] nb } : Obj))] F' ?_ ?_ ?_ ⟨_, .head _⟩
    · intro p hp
      rcases List.mem_cons.mp hp with rfl | hp
      · exact N' _ (.tail _ (.tail _ (.head _)))
      · rcases List.mem_cons.mp hp with rfl | hp
        · exact N' _ (.head _)
        · rcases List.mem_cons.mp hp with rfl | hp
          · exact N' _ (.tail _ (.head _))
          · exact N' _ (.tail _ (.tail _ (.tail _ hp)))
    · intro q hq p hp
      rcases List.mem_cons.mp hq with rfl | hq
      · exact l1 p (.tail _ hp)
      · exact hbx q hq p hp
    · intro p hp
      rcases List.mem_cons.mp hp with rfl | hp
      · exact (Nat.ne_of_lt (l1 (x, O) (.tail _ (.head _)))).symm
      · rcases List.mem_cons.mp hp with rfl | hp
        · exact (Nat.ne_of_lt (hlt (x, O) (.head _))).symm
        · exact hx p hp
theorem IntsAre.snoc {vs : List Value} {o : List Int} (h : IntsAre vs o) (i : Int) (t : Tok) : IntsAre (vs ++ [.int i t]) (o ++ [i]) := by
  induction h with
  | nil => exact .cons _ _ .nil
  | cons n t' _ ih => exact .cons _ _ ih
end
def rowStep (row : List Int) (n : Nat) : List (List Int) := ((List.range n).filter (fun (i : Nat) => !(row.any (· == (i : Int))))).map fun (i : Nat) => row ++ [(i : Int)]
theorem rowStep_succ (row : List Int) (n : Nat) : rowStep row (n + 1) = rowStep row n ++ (if (!(row.any (· == (n : Int)))) = true then [row ++ [(n : Int)]] else []) := by
  unfold rowStep
  rw [List.range_succ, List.filter_append, List.map_append]
  congr 1
  rw [List.filter_cons]
  by_cases h : (!(row.any (· == (n : Int)))) = true
  · rw [if_pos h, if_pos h]; rfl
  · rw [if_neg h, if_neg h]; rfl
def ordStep (K : Nat) (rows : List (List Int)) : List (List Int) := rows.flatMap fun row => rowStep row K
def ordsL (K : Nat) : Nat → List (List Int)
  | 0 => [[]]
  | n + 1 => ordStep K (ordsL K n)
theorem ordStep_take {K : Nat} {rows : List (List Int)} {i : Nat} {row : List Int} (h : rows[i]? = some row) : ordStep K (rows.take (i + 1)) = ordStep K (rows.take i) ++ rowStep row K := by
  unfold ordStep
  rw [List.take_add_one, h]
  simp
theorem ordsL_len {K n : Nat} (hK : K ≤ 3) (hn : n ≤ K) : (ordsL K n).length ≤ 6 := by
  have h1 : K = 0 ∨ K = 1 ∨ K = 2 ∨ K = 3 := by omega
  have h2 : n = 0 ∨ n = 1 ∨ n = 2 ∨ n = 3 := by omega
  rcases h1 with rfl | rfl | rfl | rfl <;> rcases h2 with rfl | rfl | rfl | rfl <;> first | decide | omega
theorem ordsL_row {K n : Nat} (hK : K ≤ 3) (hn : n ≤ K) {row : List Int} (h : row ∈ ordsL K n) : row.length ≤ 3 := by
  have h1 : K = 0 ∨ K = 1 ∨ K = 2 ∨ K = 3 := by omega
  have h2 : n = 0 ∨ n = 1 ∨ n = 2 ∨ n = 3 := by omega
  have key : ∀ rs : List (List Int), (rs.all fun r => decide (r.length ≤ 3)) = true → row ∈ rs → row.length ≤ 3 := fun rs ha hm => by simpa using (List.all_eq_true.mp ha) row hm
  refine key _ ?_ h
  rcases h1 with rfl | rfl | rfl | rfl <;> rcases h2 with rfl | rfl | rfl | rfl <;> first | decide | omega
theorem mem_r1 {α : Type} {x : α} {own W R : List α} (hR : R = W ++ own) : ∀ p ∈ (x :: own) ++ W, p ∈ x :: R := by
  intro p hp
  rcases List.mem_append.mp hp with h | h
  · rcases List.mem_cons.mp h with rfl | h
    · exact .head _
    · exact .tail _ (by rw [hR]; exact List.mem_append.mpr (.inr h))
  · exact .tail _ (by rw [hR]; exact List.mem_append.mpr (.inl h))
theorem mem_r2 {α : Type} {x : α} {own own2 W2 R2 : List α} (hR2 : R2 = own ++ (W2 ++ own2)) : ∀ p ∈ (x :: own) ++ (W2 ++ own2), p ∈ x :: R2 := by
  intro p hp
  rw [hR2]; exact hp
theorem mem_r3 {α : Type} {x : α} {own own2 W2 R2 : List α} (hR2 : R2 = own ++ (W2 ++ own2)) : ∀ p ∈ (x :: (own ++ own2)) ++ W2, p ∈ x :: R2 := by
  intro p hp
  rw [hR2]
  rcases List.mem_append.mp hp with h | h
  · rcases List.mem_cons.mp h with rfl | h
    · exact .head _
    · rcases List.mem_append.mp h with h | h
      · exact .tail _ (List.mem_append.mpr (.inl h))
      · exact .tail _ (List.mem_append.mpr (.inr (List.mem_append.mpr (.inr h))))
  · exact .tail _ (List.mem_append.mpr (.inr (List.mem_append.mpr (.inl h))))
theorem datAll_snoc {W add : List (Addr × Obj)} {us : List Value} {dat : List (List Int)} {D : Addr} {vs : List Value} {n : Nat} {o : List Int} (h : DatAll W us (dat.map tupD)) (hm : (D, ({ cls := .type "tuple", data := .seq vs.toArray n } : Obj)) ∈ add) (hi : IntsAre vs o) :
    DatAll (W ++ add) (us ++ [.ref D]) ((dat ++ [o]).map tupD) := by
  rw [List.map_append]
  exact (DatAll.mono (fun p hp => List.mem_append.mpr (.inl hp)) h).append (DatAll.one (tup_mk (List.mem_append.mpr (.inr hm)) hi))
theorem tupD_inj {a b : List Int} (h : tupD a = tupD b) : a = b := by
  unfold tupD at h
  injection h with h
  exact (List.map_inj_right (fun x y h => by injection h)).mp h
theorem mem_r4 {α : Type} {x : α} {own own2 W2 own3 R3 add : List α} (hR3 : R3 = (own ++ own2) ++ (W2 ++ own3)) : ∀ p ∈ (x :: (own ++ own2)) ++ (W2 ++ own3), p ∈ x :: (add ++ R3) := by
  intro p hp
  rcases List.mem_cons.mp hp with rfl | hp
  · exact .head _
  · exact .tail _ (List.mem_append.mpr (.inr (by rw [hR3]; exact hp)))
theorem mem_r5 {α : Type} {x : α} {own own2 W2 own3 R3 : List α} (hR3 : R3 = (own ++ own2) ++ (W2 ++ own3)) : ∀ p ∈ (x :: (own ++ own2)) ++ (W2 ++ own3), p ∈ x :: R3 := by
  intro p hp
  rcases List.mem_cons.mp hp with rfl | hp
  · exact .head _
  · exact .tail _ (by rw [hR3]; exact hp)
theorem mem_r6 {α : Type} {x : α} {own own2 W2 : List α} : ∀ p ∈ (x :: own) ++ (W2 ++ own2), p ∈ (x :: (own ++ own2)) ++ W2 := by
  intro p hp
  rcases List.mem_append.mp hp with h | h
  · rcases List.mem_cons.mp h with rfl | h
    · exact .head _
    · exact .tail _ (List.mem_append.mpr (.inl (List.mem_append.mpr (.inl h))))
  · rcases List.mem_append.mp h with h | h
    · exact List.mem_append.mpr (.inr h)
    · exact .tail _ (List.mem_append.mpr (.inl (List.mem_append.mpr (.inr h))))
theorem mem_r7 {α : Type} {own W2 add : List α} : ∀ p ∈ own ++ W2, p ∈ own ++ (W2 ++ add) := by
  intro p hp
  rcases List.mem_append.mp hp with h | h
  · exact List.mem_append.mpr (.inl h)
  · exact List.mem_append.mpr (.inr (List.mem_append.mpr (.inl h)))
theorem news_app {h₀ h : Heap} {L : Addr} {a b : List (Addr × Obj)} (N1 : News h₀ L h a) (N2 : News h₀ L h b) : News h₀ L h (a ++ b) := fun p hp => (List.mem_append.mp hp).elim (N1 p) (N2 p)
end LoopDT
end Mine
namespace Mine
section TupRT
section
variable {prog : Program} {w : World} {A : Around} {E : Value → Shared → Prop} {s : Shared}
theorem collect_range {Q : List Value → Shared → Prop} {r : Addr} {a b c : Int} {t u v : Tok} {n : Nat} (hh : A.handled = none) (hr : IsRange s.heap r a b c t u v) (hsmall : Builtin.Range.small a b c = true)
    (hn : Builtin.Range.rangeSize a b c = n) (hlen : n ≤ 2 ^ 24)
    (hQ : ∀ (h' : Heap) (tk : Nat) (acc : Array Value), (∀ b o, s.heap.get? b = some o → h'.get? b = some o) → ItemsOf (fun i v => ∃ t, v = Value.int (a + i * c) t) acc n → Q acc.toList { s with heap := h', toks := tk }) :
    wpAny (model prog w) A (collect (.ref r)) Q E s := by
  unfold collect
  refine wpAny_bind (wpAny_runValue (codeAny_builtin F.entry_proto_collect ?_))
  rw [Around.under_plainId F.plain_proto_collect _]
  show wpAny _ A.in1 (newList [] >>= fun l => again (.builtin "list.__iadd__" ⟨[l, .ref r], []⟩)) _ _ s
  refine wpAny_bind (wpAny_newObj_type ?_)
  refine wpAny_pure ⟨plainId_quiet F.plain_list_iadd _, codeAny_builtin F.entry_list_iadd ?_⟩
  rw [Around.under_plainId F.plain_list_iadd _]
  show wpAny _ A.in1 (Builtin.List.listExtendWith (.ref s.heap.objs.size) (.ref r) (.ref s.heap.objs.size)) _ _ _
  have hS : (s.heap.push { cls := .type "list", data := .seq ([] : List Value).toArray }).get? s.heap.objs.size = some { cls := .type "list", data := .seq #[] 0 } := Heap.get?_push_size _ rfl
  refine wpAny_mono (wpAny_extend_range (A := A) (n := n) (R := fun rr s' => rr = .ok (.ret (.ref s.heap.objs.size)) ∧ ∃ h' tk acc c', s' = { s with heap := h', toks := tk } ∧ (∀ b o, s.heap.get? b = some o → h'.get? b = some o) ∧ h'.get? s.heap.objs.size = some { cls := .type "list", dict := none, data := .seq acc c', slots := #[] } ∧ ItemsOf (fun i v => ∃ t, v = Value.int (a + i * c) t) acc n)
    hh (Heap.get?_push_of_some _ hr) hsmall hn hlen s.heap.objs.size _ 0 hS (fun h' tk acc' c' hk hS' hacc => ⟨rfl, h', tk, acc', c', rfl, fun b o e => hk b o (Nat.ne_of_lt (Heap.lt_size e)) (Heap.get?_push_of_some _ e), hS', hacc⟩)) (fun fin s' h => ?_) (fun e s' h => ?_)
  · have fin' : ∀ s', (∃ h' tk acc c', s' = { s with heap := h', toks := tk } ∧ (∀ b o, s.heap.get? b = some o → h'.get? b = some o) ∧ h'.get? s.heap.objs.size = some { cls := .type "list", dict := none, data := .seq acc c', slots := #[] } ∧ ItemsOf (fun i v => ∃ t, v = Value.int (a + i * c) t) acc n) →
        wpAny (model prog w) A (match Value.ref s.heap.objs.size with
        | Value.ref a => do
          match (← load a).data with
            | Data.seq xs _ => pure xs.toList
            | _ => unsupported "internal:collect"
        | _ => unsupported "internal:collect") Q E s' := by
      rintro s' ⟨h', tk, acc, c', rfl, hk, hS', hacc⟩
      show wpAny _ A (load s.heap.objs.size >>= _) _ _ _
      refine wpAny_bind (wpAny_load hS' ?_)
      exact wpAny_pure (hQ h' tk acc hk hacc)
    cases fin with
    | done f =>
      obtain ⟨e, hex⟩ := h
      cases e
      exact fin' s' hex
    | again c' => exact ⟨h.1, codeAny_mono h.2 fun rr s'' hr => by obtain ⟨rfl, hex⟩ := hr; exact fin' s'' hex⟩
  · exact absurd h.1 (by simp)

theorem code_tuple_new_range {Q₁ : Value → Shared → Prop} {r : Addr} {a b c : Int} {t u v : Tok} {n : Nat} (hh : A.handled = none) (hr : IsRange s.heap r a b c t u v) (hsmall : Builtin.Range.small a b c = true)
    (hn : Builtin.Range.rangeSize a b c = n) (hlen : n ≤ 2 ^ 20)
    (h : ∀ (h' : Heap) (tk : Nat) (acc : Array Value), (∀ b o, s.heap.get? b = some o → h'.get? b = some o) → ItemsOf (fun i v => ∃ t, v = Value.int (a + i * c) t) acc n → Q₁ (.ref h'.objs.size) { s with heap := h'.push { cls := .type "tuple", data := .seq acc }, toks := tk }) :
    codeAny (model prog w) A (.call (.builtin "tuple.__new__") ⟨[.type "tuple", .ref r], []⟩) (wants Q₁ E) s := by
  refine codeAny_of_tree ?_
  show wpAny _ A.in1 (do checkBuiltinCall "tuple.__new__" ⟨[.type "tuple", .ref r], []⟩; again (.builtin "tuple.__new__" ⟨[.type "tuple", .ref r], []⟩)) _ _ s
  refine wpAny_bind (wpAny_of_eq (F.newCall_tuple_1 _) (wpAny_pure ⟨plainId_quiet F.plain_tuple_new _, codeAny_builtin F.entry_tuple_new ?_⟩))
  rw [Around.under_plainId F.plain_tuple_new _]
  have hsub := sub_tuple_self
  have hinit := init_tuple_lookup
  have hmh := madeHere_tuple
  have hTI : s.TypeIs (.ref r) "range" := ⟨_, hr, rfl⟩
  wp_walk using wpAny_typeOf hTI, collect_range (A := A.in1) hh hr hsmall hn (Nat.le_trans hlen (by decide))
  intro h' tk acc hk hacc
  show wpAny _ _ (Builtin.Tuple.tupleExact acc.toList.toArray >>= fun v => ret v) _ _ _
  unfold Builtin.Tuple.tupleExact
  refine wpAny_bind (wpAny_newObj_type ?_ (by show acc.toList.toArray.size ≤ sizeLine; simp only [Array.toArray_toList]; rw [hacc.1, sizeLine_eq]; omega))
  refine wpAny_pure ?_
  have e : acc.toList.toArray = acc := by simp
  rw [e]
  exact h h' tk acc hk hacc

theorem call_tuple_range {Q : Value → Shared → Prop} {r : Addr} {a b c : Int} {t u v : Tok} {n : Nat} (hh : A.handled = none) (hr : IsRange s.heap r a b c t u v) (hsmall : Builtin.Range.small a b c = true)
    (hn : Builtin.Range.rangeSize a b c = n) (hlen : n ≤ 2 ^ 20)
    (hQ : ∀ (h' : Heap) (tk : Nat) (acc : Array Value), (∀ b o, s.heap.get? b = some o → h'.get? b = some o) → ItemsOf (fun i v => ∃ t, v = Value.int (a + i * c) t) acc n → Q (.ref h'.objs.size) { s with heap := h'.push { cls := .type "tuple", data := .seq acc }, toks := tk }) :
    wpAny (model prog w) A (call (.type "tuple") [.ref r]) Q E s := by
  refine callType_codes (Q₁ := fun obj s₁ => s₁.TypeIs obj "tuple" ∧ Q obj s₁) F.called_tuple (F.typeCall_tuple_1 _) F.entry_object_init
    (code_tuple_new_range hh hr hsmall hn hlen fun h' tk acc hk hacc => ⟨⟨_, Heap.get?_push_size _ rfl, rfl⟩, hQ h' tk acc hk hacc⟩) fun obj s₁ h₁ => ?_
  exact ⟨h₁.1, F.args_object_init_2 obj _, object_init_meets F.called_tuple.init.lookup F.called_tuple.made (by decide) prog w A.in1 _ s₁ ⟨h₁.1, rfl, h₁.2⟩⟩
end
theorem intsAre_of_get : ∀ {vs : List Value} {ns : List Int}, vs.length = ns.length → (∀ (i : Nat) (v : Value) (n : Int), vs[i]? = some v → ns[i]? = some n → ∃ t, v = Value.int n t) → IntsAre vs ns
  | [], [], _, _ => .nil
  | [], _ :: _, h, _ => by cases h
  | _ :: _, [], h, _ => by cases h
  | v :: vs, n :: ns, h, g => by
    obtain ⟨t, rfl⟩ := g 0 v n rfl rfl
    exact .cons _ _ (intsAre_of_get (Nat.succ.inj h) fun i v n hv hn => g (i + 1) v n (by simpa using hv) (by simpa using hn))
section
variable {prog : Program} {w : World} {A : Around} {E : Value → Shared → Prop} {s : Shared} {h₀ : Heap} {L : Addr} {m : Str → Option Value} {Q : Value → Shared → Prop}
theorem r_tupleRange {r : Addr} {b : Int} {t u v : Tok} {n : Nat} {news : List (Addr × Obj)} (hh : A.handled = none) (F : Fr h₀ L s.heap m) (N : News h₀ L s.heap news) (hr : IsRange s.heap r 0 b 1 t u v) (hsmall : Builtin.Range.small 0 b 1 = true)
    (hn : Builtin.Range.rangeSize 0 b 1 = n) (hlen : n ≤ 2 ^ 20)
    (hQ : ∀ (D : Addr) (h' : Heap) (tk : Nat) (vs : List Value), Fr h₀ L h' m → News h₀ L h' ((D, ({ cls := .type "tuple", data := .seq vs.toArray } : Obj)) :: news) → (∀ p ∈ news, p.1 < D) → IntsAre vs (rangeKs 0 n) → Q (.ref D) { s with heap := h', toks := tk }) :
    wpAny (model prog w) A (call (.type "tuple") [.ref r]) Q E s := by
  refine call_tuple_range hh hr hsmall hn hlen fun h' tk acc hk hacc => ?_
  have F' : Fr h₀ L h' m := F.keeps hk
  have N' : News h₀ L h' news := fun p hp => ⟨hk _ _ (N p hp).1, (N p hp).2⟩
  have e : (acc.toList).toArray = acc := by simp
  refine hQ _ _ _ acc.toList (F'.push _) ?_ (fun p hp => Heap.lt_size (N' p hp).1) ?_
  · rw [e]; exact N'.push F' _
  · refine intsAre_of_get ?_ ?_
    · rw [rangeKs_length, Array.length_toList, hacc.1]
    · intro i v k hv hk'
      obtain ⟨t, ht⟩ := hacc.2 i v (by simpa using hv)
      have hi : i < n := by
        have := (List.getElem?_eq_some_iff.mp hk').1
        rw [rangeKs_length] at this; exact this
      have : k = 0 + (i : Int) := by
        have hq : (rangeKs 0 n)[i]? = some (0 + (i : Int)) := by simp [rangeKs, hi]
        rw [hq] at hk'; exact (Option.some.inj hk').symm
      exact ⟨t, by rw [ht, this]; simp⟩
end
end TupRT
end Mine
namespace Mine
section OrdT
local macro_rules | `(tactic| walk_at "execs cons") => `(tactic| ((with_reducible show wpAny _ _ (execs _ _) _ _ ⟨_, _, _, _ + 1, _⟩); refine gentok ?_; intro tk))
local macro_rules | `(tactic| walk_at "execs nil") => `(tactic| ((with_reducible show wpAny _ _ (execs _ _) _ _ ⟨_, _, _, _ + 1, _⟩); refine gentok ?_; intro tk))
local macro_rules | `(tactic| k_mem) => `(tactic| assumption)
local macro_rules | `(tactic| walk_at "binaryOp Pow int int") => `(tactic| ((with_reducible show wpAny _ _ (binaryOp _ (Value.int 2 _) (Value.int _ _)) _ _ _); refine r_pow2 (by omega) (by omega) ?_))
local macro_rules | `(tactic| walk_at "binaryOp Mult int int") => `(tactic| (refine r_mul ?a ?b ?_; (case a => omega); (case b => omega)))
local macro_rules | `(tactic| walk_at "binaryOp FloorDiv int int") => `(tactic| first | (refine r_divp ?a ?_; (case a => omega)) | (refine r_div ?a ?b ?_; (case a => omega); (case b => omega)))
local macro_rules | `(tactic| walk_at "binaryOp Mod int int") => `(tactic| (refine r_mod ?a ?_; (case a => first | exact pow_pos2 _ | omega)))
local macro_rules | `(tactic| walk_at "binaryOp RShift int int") => `(tactic| (refine r_shr ?a ?_; (case a => omega)))
local macro_rules | `(tactic| walk_at "binaryOp LShift int int") => `(tactic| (refine r_shl ?a ?b ?c ?d ?_; (case a => omega); (case b => omega); (case c => omega); (case d => omega)))
local macro_rules | `(tactic| walk_at "binaryOp BitAnd int int") => `(tactic| ((with_reducible show wpAny _ _ (binaryOp _ (Value.int _ _) (Value.int 1 _)) _ _ _); refine r_and1 ?_))
local macro_rules | `(tactic| walk_at "subscriptTail") => `(tactic| (k_here; (with_reducible show wpAny _ _ (subscriptTail _ _ (Value.ref _) (Value.int _ _)) _ _ _); k_dflt (refine' r_item ?t ?i ?o ?a ?b ?c ?_; (case t => exact News.isTup (by k_asm) (by k_mem)); (case i => assumption); (case o => assumption); (case a => omega); (case b => omega); (case c => omega); intro _ _ _)))
local macro_rules | `(tactic| walk_at "mine enterB") => `(tactic| (k_dflt (refine' code_defB ?k1 ?k2 ?k3 ?k4 ?k5 ?kA ?kF ?kK ?k6 ?k7 ?k8 ?k9 ?kB ?_ ?c2 ?c3 ?c4 ?c5; (case kA => exact rfl); (case kF => exact rfl); (case kK => assumption); (case k1 => k_asm); (case k2 => k_asm); (case k3 => k_asm); (case k4 => k_asm); (case k5 => k_asm); (case k6 => k_is); (case k7 => k_is); (case k8 => ktr_room); (case k9 => exact BindsTo.of_eq rfl); (case c5 => decide); (case kB => exact locs rfl); (case c2 => exact rfl); (case c3 => exact rfl); (case c4 => exact rfl); k_whole; intro g' L' h' F' N' B' X' T' hbase; (try dsimp only); (try k_fold))))
local macro_rules | `(tactic| walk_at "mine enterCB") => `(tactic| (k_dflt (refine' code_defCB ?k1 ?k2 ?k3 ?k4 ?k5 ?kA ?kF ?kK ?k6 ?k7 ?k8 ?k9 ?kB ?kD ?_ ?c2 ?c3 ?c4; (case kA => exact rfl); (case kF => exact rfl); (case kK => assumption); (case k1 => k_asm); (case k2 => k_asm); (case k3 => k_asm); (case k4 => k_asm); (case k5 => k_asm); (case k6 => k_is); (case k7 => k_is); (case k8 => ktr_room); (case k9 => exact BindsTo.of_eq rfl); (case kB => exact rfl); (case kD => decide +kernel); (case c2 => exact rfl); (case c3 => exact rfl); (case c4 => exact rfl); k_whole; intro g' L' h' tk' cells' F' N' Y' B' X' T' hbase; k_cells Y'; (try simp only [List.cons_append, List.nil_append] at N'); (try dsimp only); (try k_fold))))
local macro_rules | `(tactic| walk_at "mine ints") => `(tactic| first | assumption | exact IntsAre.nil | exact IntsAre.cons _ _ (by walk_at "mine ints"))
local macro_rules | `(tactic| walk_at "compareOp NotIn int ref") => `(tactic| (k_here; k_dflt (refine' notin_tuple_ints ?t ?i ?_; (case t => exact News.isTup (by k_asm) (by k_mem)); (case i => walk_at "mine ints"); k_whole)))
local macro_rules | `(tactic| walk_at "mine cut") => `(tactic| first | (refine' Cut.here ?_; k_all) | (refine' Cut.there ?a ?b; (case a => k_ne); (case b => walk_at "mine cut")))
local macro_rules | `(tactic| walk_at "UnrEnd") => `(tactic| (refine' unrEnd_cut (by assumption) (by assumption) ?c ?_; (case c => walk_at "mine cut"); first | (k_dflt (refine ⟨by k_mem, ?_⟩)) | skip))
local macro_rules | `(tactic| walk_at "mine enter") => `(tactic| (refine wpAny_call ?_; k_dflt cell_enter))
local macro_rules | `(tactic| walk_at "call builtin:len") => `(tactic| (k_here; (with_reducible show wpAny _ _ (call (Value.builtin "len") [Value.ref _]) _ _ _); k_dflt (refine' r_len ?t ?e ?k ?_; (case t => exact News.isTup (by k_asm) (by k_mem)); (case e => assumption); (case k => omega))))

section
local macro_rules | `(tactic| walk_at "pyIter ref") => `(tactic| ((with_reducible show wpAny _ _ (pyIter (Value.ref _)) (fun it s₂ => LoopAtV _ _ _ _ _ _ _ _ _ it s₂) _ _); refine Stop.mk ?_))
local macro_rules | `(tactic| walk_at "InvEndN") => `(tactic| refine Stop.mk ?_)
local macro_rules | `(tactic| walk_at "call type:range") => `(tactic| ((rename Fr _ _ _ _ => F'); (rename News _ _ _ _ => N'); (with_unfolding_all refine range1_rows F' N' ?_); intro _ _ _ _ _ _ _ _ _))
local macro_rules | `(tactic| walk_at "InvEndG") => `(tactic| refine Stop.mk ?_)
local macro_rules | `(tactic| walk_at "binaryOp Add ref ref") => `(tactic| k_extra "binaryOp Add ref ref")
local macro_rules | `(tactic| size_fits) => `(tactic| (simp only [List.size_toArray, sizeLine_eq]; omega))
local macro_rules | `(tactic| k_all) => `(tactic| assumption)
local macro_rules | `(tactic| walk_at "newList") => `(tactic| k_extra "newList")
local macro_rules | `(tactic| walk_at "InvPostG") => `(tactic| dsimp only [InvPostG])
local macro_rules | `(tactic| walk_at "exec For Name Name cons nil") => `(tactic| (k_here; (rename Fr _ _ _ _ => lF'); (with_unfolding_all refine' For_invVF lF' ?k1 ?k2 ?_; (case k1 => exact rfl); (case k2 => exact rfl); k_whole)))

theorem orders_C (k : Int) (K : Nat) (hk : k = K) (hK : K ≤ 3) (w : World) (news : List (Addr × Obj)) (tk : Tok) :
    Ctr PySem.Challenge.rw_nn0293_01.row.prog w (hd.heap_39 w.params) 1 56 news [.int k tk] (fun tl r => DatIn tl r (Dat.list ((ordsL K K).map tupD))) := by
  subst hk
  w_top off
  k_with_none
  k_fill
  unfold Ctr
  intro p loose mean mg mb dp un gd cn cs a ccd cl outer A₀ base h₀ L m s Q E B F X N T hk hdp hun hret
  refine wpAny_call ?_
  k_with "newList" => (k_here; k_dflt (refine' newList_K ?k1 ?k2 ?_; (case k1 => k_asm); (case k2 => k_asm); k_whole); intro xl h9 F9 N9 hxl)
  k_with "binaryOp Add ref ref" => (k_here; k_dflt (refine' r_addTx ?F ?N ?l ?x ?t ?z ?_; (case F => k_asm); (case N => k_asm); (case l => first | assumption | exact kst_ltOf (by assumption)); (case x => assumption); (case t => assumption); (case z => assumption)); intro aD h9 aAdd F9 N9 aLt aNe aMem)
  walk_at "mine enterB"
  k_steps
  unfold Stop
  (rename Fr _ _ _ _ => lF'); (rename News _ _ _ _ => lN'); (rename IsRange _ _ _ _ _ _ _ _ => rgX)
  with_unfolding_all refine' rgD (σ := Value × List (List Int)) (n := K) (fun _ => []) (fun c => [(Str.ofString "rows", c.1)]) (fun W c => DatIn W c.1 (Dat.list (c.2.map tupD))) ["longer", "row", "i"] (fun i c => c.2 = ordsL K i) (_, [[]]) (by rfl) rgX (smK hK) (rsK hK) lF' lN' (fun _ => rfl) (fun _ _ _ h => nomatch h) ?kf ?kk rfl ?turn ?done
  case kk => kst_all
  case kf => exact DatIn.list (.head _) (.cons (.tuple (.tail _ (.head _)) .nil) .nil)
  case turn =>
    rintro ⟨v, rows⟩ W own i t u h tk J hi hsub hF hP F1 N1 hsep hWO fin
    (dsimp only [kstB] at F1 hF hP)
    obtain ⟨a1, vs1, nn1, ha1, hm1, hall1⟩ := list_inv hF
    subst ha1
    clear lF' lN' rgX
    rw [List.nil_append] at N1
    obtain ⟨R, hR⟩ : ∃ R, R = W ++ own := ⟨_, rfl⟩
    rw [← hR] at N1
    have hmR : (a1, listOf vs1.toArray nn1) ∈ R := by rw [hR]; exact List.mem_append.mpr (.inl hm1)
    try k_fold
    k_steps
    unfold Stop
    (rename Fr _ _ _ _ => lF'); (rename News _ _ _ _ => lN'); 
    have hxR : ∀ p ∈ R, p.1 ≠ xl := fun p hp => Nat.ne_of_lt (hxl p hp)
    with_unfolding_all refine' lsD (σ := List Value × List (List Int) × Nat) (ds := rows.map tupD) (cst := W) (fun c => (xl, listOf c.1.toArray c.2.2) :: own) (fun _ => []) (fun W c => DatAll W c.1 (c.2.1.map tupD)) ["i"] (fun i c => c.2.1 = ordStep K (rows.take i) ∧ c.1.length ≤ 3 * i) ([], [], 0) (by rfl) hm1 hall1 lF' ?kN2 (fun _ => rfl) ?ks2 DatAll.nil (fun _ h => nomatch h) ⟨rfl, Nat.le_refl 0⟩ ?turn2 ?done2
    case kN2 => exact fun p hp => lN' p (mem_r1 hR p hp)
    case ks2 =>
      intro p hp q hq
      rcases List.mem_cons.mp hq with rfl | hq
      · exact hxR p (by rw [hR]; exact List.mem_append.mpr (.inl hp))
      · exact hWO p hp q hq
    case turn2 =>
      rintro ⟨us, dat, nd⟩ W2 own2 i2 d v2 u2 h2 tk2 J2 hd2 hD2 hsub2 hF2 hP2 F2 N2 hsep2 hWO2 fin2
      (dsimp only [kstB] at F2 hF2 hP2)
      obtain ⟨row, hrow, hdr⟩ : ∃ row, rows[i2]? = some row ∧ d = tupD row := by
        rw [List.getElem?_map] at hd2
        cases hr : rows[i2]? with
        | none => rw [hr] at hd2; cases hd2
        | some row => rw [hr] at hd2; exact ⟨row, rfl, (Option.some.inj hd2).symm⟩
      subst hdr
      obtain ⟨ra, rvs, rn, hra, hrm, hri⟩ := tup_inv hD2
      subst hra
      obtain ⟨R2, hR2⟩ : ∃ R2, R2 = own ++ (W2 ++ own2) := ⟨_, rfl⟩
      replace N2 : News _ _ _ ((xl, listOf us.toArray nd) :: R2) := fun p hp => N2 p (by rw [hR2] at hp; exact hp)
      clear lF' lN'
      try k_fold
      k_steps
      unfold Stop
      (rename Fr _ _ _ _ => lF'); (rename News _ _ _ _ => lN'); (rename IsRange _ _ _ _ _ _ _ _ => rgX)
      have hi2 : i2 < rows.length := (List.getElem?_eq_some_iff.mp hrow).1
      have hrl : rows.length ≤ 6 := by rw [hP]; exact ordsL_len hK (by omega)
      have hrowl : rvs.length ≤ 1000 := by
        have := ordsL_row hK (show i ≤ K by omega) (row := row) (by rw [← hP]; exact List.mem_of_getElem? hrow)
        rw [hri.length]; omega
      have hxo : ∀ p ∈ own, p.1 ≠ xl := fun p hp => hxR p (by rw [hR]; exact List.mem_append.mpr (.inr hp))
      have hxo2 : ∀ p ∈ W2 ++ own2, p.1 ≠ xl := fun p hp => hsep2 p hp _ (.head _)
      have hR6 : 3 * i2 ≤ 18 := by omega
      with_unfolding_all refine' rgD (σ := List Value × List (List Int) × Nat) (n := K) (cst := W2) (fun c => (xl, listOf c.1.toArray c.2.2) :: (own ++ own2)) (fun _ => []) (fun W c => DatAll W c.1 (c.2.1.map tupD)) [] (fun i c => c.2.1 = dat ++ rowStep row i ∧ c.1.length ≤ us.length + i) (us, dat, nd) (by rfl) rgX (smK hK) (rsK hK) lF' ?kN3 (fun _ => rfl) ?ks3 hF2 (fun _ h => nomatch h) ⟨by unfold rowStep; simp, Nat.le_refl _⟩ ?turn3 ?done3
      case kN3 => exact fun p hp => lN' p (mem_r3 hR2 p hp)
      case ks3 =>
        intro p hp q hq
        rcases List.mem_cons.mp hq with rfl | hq
        · exact hxo2 p (List.mem_append.mpr (.inl hp))
        · rcases List.mem_append.mp hq with hq | hq
          · exact hsep2 p (List.mem_append.mpr (.inl hp)) q (.tail _ hq)
          · exact hWO2 p hp q hq
      case turn3 =>
        rintro ⟨us3, dat3, nd3⟩ W3 own3 i3 t3 u3 h3 tk3 J3 hi3 hsub3 hF3 hP3 F3 N3 hsep3 hWO3 fin3
        (dsimp only [kstB] at F3 hF3 hP3)
        simp only [Int.zero_add] at F3
        obtain ⟨R3, hR3⟩ : ∃ R3, R3 = (own ++ own2) ++ (W3 ++ own3) := ⟨_, rfl⟩
        replace N3 : News _ _ _ ((xl, listOf us3.toArray nd3) :: R3) := fun p hp => N3 p (by rw [hR3] at hp; exact hp)
        have hx3 : ∀ p ∈ R3, p.1 ≠ xl := by
          intro p hp
          rw [hR3] at hp
          rcases List.mem_append.mp hp with hp | hp
          · rcases List.mem_append.mp hp with hp | hp
            · exact hxo p hp
            · exact hxo2 p (List.mem_append.mpr (.inr hp))
          · exact hsep3 p hp _ (.head _)
        have hrm3 : (ra, ({ cls := .type "tuple", data := .seq rvs.toArray rn } : Obj)) ∈ R3 := by
          rw [hR3]; exact List.mem_append.mpr (.inr (List.mem_append.mpr (.inl (hsub3 _ hrm))))
        have hus : us3.length ≤ 100 := by omega
        clear lF' lN' rgX
        try k_fold
        k_steps
        · unfold Stop
          have ha : row.any (fun x => x == (i3 : Int)) = true := by assumption
          refine fin3 (us3, dat3, nd3) [] _ _ _ _ (by assumption) (by assumption) ?b1 (fun _ h => nomatch h) (fun _ h => nomatch h) ?b4 (fun _ h => nomatch h) ?b6 ?b7
          case b1 => exact fun p hp => mem_r5 hR3 p hp
          case b4 => rw [List.append_nil]; exact hF3
          case b6 => kst_same
          case b7 =>
            refine ⟨?_, ?_⟩
            · show dat3 = dat ++ rowStep row (i3 + 1)
              rw [rowStep_succ, if_neg (by rw [ha]; decide), hP3.1]
              simp
            · show us3.length ≤ us.length + (i3 + 1)
              have := hP3.2
              omega
        · unfold Stop
          have ha : row.any (fun x => x == (i3 : Int)) = false := by first | assumption | (simpa using ‹¬ _›)
          (rename News _ _ _ _ => nE)
          simp only [List.push_toArray] at nE
          obtain ⟨n9, hm9⟩ := aMem
          refine fin3 (us3 ++ [.ref aD], dat3 ++ [row ++ [(i3 : Int)]], nd3 + 1) aAdd _ _ _ _ (by assumption) nE ?a1 ?a2 ?a3 ?a4 (fun _ h => nomatch h) ?a6 ?a7
          case a1 => exact fun p hp => mem_r4 hR3 p hp
          case a2 => exact fun p hp => .tail _ (List.mem_append.mpr (.inl hp))
          case a3 => exact fun q hq p hp => aLt q hq p (mem_r5 hR3 p hp)
          case a4 => exact datAll_snoc hF3 hm9 (IntsAre.snoc hri _ _)
          case a6 => kst_same
          case a7 =>
            refine ⟨?_, ?_⟩
            · show dat3 ++ [row ++ [(i3 : Int)]] = dat ++ rowStep row (i3 + 1)
              rw [rowStep_succ, if_pos (by rw [ha]; decide), hP3.1]
              simp
            · show (us3 ++ [Value.ref aD]).length ≤ us.length + (i3 + 1)
              have := hP3.2
              simp only [List.length_append, List.length_singleton]
              omega
      case done3 =>
        rintro ⟨us3, dat3, nd3⟩ add3 u3 h3 tk3 hlt3 hF3 hP3 F3 N3 hsep3
        (dsimp only [kstB] at F3 hF3 hP3)
        clear lF' lN' rgX
        try k_fold
        k_steps
        unfold Stop
        refine fin2 (us3, dat3, nd3) add3 _ _ _ _ (by assumption) (by assumption) ?c1 ?c2 ?c3 hF3 (fun _ h => nomatch h) ?c6 ?c7
        case c1 => exact fun p hp => mem_r7 p (mem_r6 p hp)
        case c2 => exact fun p hp => List.mem_append.mpr (.inr (List.mem_append.mpr (.inr hp)))
        case c3 => exact fun q hq p hp => hlt3 q hq p (mem_r6 p hp)
        case c6 => kst_same
        case c7 =>
          refine ⟨?_, ?_⟩
          · show dat3 = ordStep K (rows.take (i2 + 1))
            rw [ordStep_take hrow, ← hP2.1, hP3.1]
          · show us3.length ≤ 3 * (i2 + 1)
            have := hP3.2; have := hP2.2
            omega
    case done2 =>
      rintro ⟨us, dat, nd⟩ add2 u2 h2 tk2 hlt2 hF2 hP2 F2 N2 hsep2
      (dsimp only [kstB] at F2 hF2 hP2)
      clear lF' lN'
      try k_fold
      k_steps
      unfold Stop
      refine fin (.ref xl, dat) ((xl, listOf us.toArray nd) :: add2) _ _ _ _ (by assumption) (by assumption) ?c1 ?c2 ?c3 ?c4 ?c5 ?c6 ?c7
      case c1 =>
        intro p hp
        rcases List.mem_append.mp (show p ∈ W ++ own from hp) with h | h
        · exact List.mem_append.mpr (.inr (List.mem_append.mpr (.inl h)))
        · exact .tail _ (List.mem_append.mpr (.inl h))
      case c2 =>
        intro p hp
        rcases List.mem_cons.mp hp with rfl | h
        · exact .head _
        · exact List.mem_append.mpr (.inr (List.mem_append.mpr (.inr h)))
      case c3 =>
        intro q hq p hp
        rcases List.mem_cons.mp hq with rfl | hq
        · exact hxl p (by rw [hR]; exact hp)
        · refine hlt2 q hq p ?_
          rcases List.mem_append.mp (show p ∈ W ++ own from hp) with h | h
          · exact List.mem_append.mpr (.inr h)
          · exact .tail _ (List.mem_append.mpr (.inl h))
      case c4 =>
        refine DatIn.list (List.mem_append.mpr (.inr (.head _))) (DatAll.mono ?_ hF2)
        intro p hp
        rcases List.mem_append.mp hp with h | h
        · exact List.mem_append.mpr (.inl h)
        · exact List.mem_append.mpr (.inr (.tail _ h))
      case c5 => kst_all
      case c6 => kst_same
      case c7 =>
        show dat = ordStep K (ordsL K i)
        rw [← hP, hP2.1, List.length_map, List.take_length]
  case done =>
    rintro ⟨v, rows⟩ add u h tk hlt hF hP F1 N1 hsep
    (dsimp only [kstB] at F1 hF hP)
    clear lF' lN' rgX
    rw [List.nil_append] at N1
    subst hP
    have hfresh := fresh_of N1 (by assumption : ∀ p ∈ news, _ = some p.2)
    try k_fold
    k_steps
    exact hret _ _ _ _ (by k_asm) (news_app (by assumption) (by assumption)) hfresh hF
end
end OrdT
end Mine
namespace Mine
section PickT
local macro_rules | `(tactic| walk_at "execs cons") => `(tactic| ((with_reducible show wpAny _ _ (execs _ _) _ _ ⟨_, _, _, _ + 1, _⟩); refine gentok ?_; intro tk))
local macro_rules | `(tactic| walk_at "execs nil") => `(tactic| ((with_reducible show wpAny _ _ (execs _ _) _ _ ⟨_, _, _, _ + 1, _⟩); refine gentok ?_; intro tk))
local macro_rules | `(tactic| k_mem) => `(tactic| assumption)
local macro_rules | `(tactic| walk_at "binaryOp Pow int int") => `(tactic| ((with_reducible show wpAny _ _ (binaryOp _ (Value.int 2 _) (Value.int _ _)) _ _ _); refine r_pow2 (by omega) (by omega) ?_))
local macro_rules | `(tactic| walk_at "binaryOp Mult int int") => `(tactic| (refine r_mul ?a ?b ?_; (case a => omega); (case b => omega)))
local macro_rules | `(tactic| walk_at "binaryOp FloorDiv int int") => `(tactic| first | (refine r_divp ?a ?_; (case a => omega)) | (refine r_div ?a ?b ?_; (case a => omega); (case b => omega)))
local macro_rules | `(tactic| walk_at "binaryOp Mod int int") => `(tactic| (refine r_mod ?a ?_; (case a => first | exact pow_pos2 _ | omega)))
local macro_rules | `(tactic| walk_at "binaryOp RShift int int") => `(tactic| (refine r_shr ?a ?_; (case a => omega)))
local macro_rules | `(tactic| walk_at "binaryOp LShift int int") => `(tactic| (refine r_shl ?a ?b ?c ?d ?_; (case a => omega); (case b => omega); (case c => omega); (case d => omega)))
local macro_rules | `(tactic| walk_at "binaryOp BitAnd int int") => `(tactic| ((with_reducible show wpAny _ _ (binaryOp _ (Value.int _ _) (Value.int 1 _)) _ _ _); refine r_and1 ?_))
local macro_rules | `(tactic| walk_at "subscriptTail") => `(tactic| (k_here; (with_reducible show wpAny _ _ (subscriptTail _ _ (Value.ref _) (Value.int _ _)) _ _ _); k_dflt (refine' r_item ?t ?i ?o ?a ?b ?c ?_; (case t => exact News.isTup (by k_asm) (by k_mem)); (case i => assumption); (case o => assumption); (case a => omega); (case b => omega); (case c => omega); intro _ _ _)))
local macro_rules | `(tactic| walk_at "mine enterB") => `(tactic| (k_dflt (refine' code_defB ?k1 ?k2 ?k3 ?k4 ?k5 ?kA ?kF ?kK ?k6 ?k7 ?k8 ?k9 ?kB ?_ ?c2 ?c3 ?c4 ?c5; (case kA => exact rfl); (case kF => exact rfl); (case kK => assumption); (case k1 => k_asm); (case k2 => k_asm); (case k3 => k_asm); (case k4 => k_asm); (case k5 => k_asm); (case k6 => k_is); (case k7 => k_is); (case k8 => ktr_room); (case k9 => exact BindsTo.of_eq rfl); (case c5 => decide); (case kB => exact locs rfl); (case c2 => exact rfl); (case c3 => exact rfl); (case c4 => exact rfl); k_whole; intro g' L' h' F' N' B' X' T' hbase; (try dsimp only); (try k_fold))))
local macro_rules | `(tactic| walk_at "mine enterCB") => `(tactic| (k_dflt (refine' code_defCB ?k1 ?k2 ?k3 ?k4 ?k5 ?kA ?kF ?kK ?k6 ?k7 ?k8 ?k9 ?kB ?kD ?_ ?c2 ?c3 ?c4; (case kA => exact rfl); (case kF => exact rfl); (case kK => assumption); (case k1 => k_asm); (case k2 => k_asm); (case k3 => k_asm); (case k4 => k_asm); (case k5 => k_asm); (case k6 => k_is); (case k7 => k_is); (case k8 => ktr_room); (case k9 => exact BindsTo.of_eq rfl); (case kB => exact rfl); (case kD => decide +kernel); (case c2 => exact rfl); (case c3 => exact rfl); (case c4 => exact rfl); k_whole; intro g' L' h' tk' cells' F' N' Y' B' X' T' hbase; k_cells Y'; (try simp only [List.cons_append, List.nil_append] at N'); (try dsimp only); (try k_fold))))
local macro_rules | `(tactic| walk_at "mine ints") => `(tactic| first | assumption | exact IntsAre.nil | exact IntsAre.cons _ _ (by walk_at "mine ints"))
local macro_rules | `(tactic| walk_at "compareOp NotIn int ref") => `(tactic| (k_here; k_dflt (refine' notin_tuple_ints ?t ?i ?_; (case t => exact News.isTup (by k_asm) (by k_mem)); (case i => walk_at "mine ints"); k_whole)))
local macro_rules | `(tactic| walk_at "mine cut") => `(tactic| first | (refine' Cut.here ?_; k_all) | (refine' Cut.there ?a ?b; (case a => k_ne); (case b => walk_at "mine cut")))
local macro_rules | `(tactic| walk_at "UnrEnd") => `(tactic| (refine' unrEnd_cut (by assumption) (by assumption) ?c ?_; (case c => walk_at "mine cut"); first | (k_dflt (refine ⟨by k_mem, ?_⟩)) | skip))
local macro_rules | `(tactic| walk_at "mine enter") => `(tactic| (refine wpAny_call ?_; k_dflt cell_enter))
local macro_rules | `(tactic| walk_at "call builtin:len") => `(tactic| (k_here; (with_reducible show wpAny _ _ (call (Value.builtin "len") [Value.ref _]) _ _ _); k_dflt (refine' r_len ?t ?e ?k ?_; (case t => exact News.isTup (by k_asm) (by k_mem)); (case e => assumption); (case k => omega))))

section
local macro_rules | `(tactic| k_all) => `(tactic| assumption)
def handO (cl : Addr) (i b c : Int) (ti tb tc : Tok) (n : Nat) : Obj := listOf #[.ref cl, .int i ti, .int b tb, .int c tc] n
section
variable {prog : Program} {w : World} {A : Around} {E : Value → Shared → Prop} {s : Shared} {Q : Value → Shared → Prop}
theorem r_lenL {l : Addr} {vs : List Value} {K : Nat} (hl : s.heap.IsList l vs.toArray) (hv : vs.length = K) (hK : K ≤ 64) (h : Q (.int (K : Int) (s.toks + 1)) { s with toks := s.toks + 1 + 1 }) : wpAny (model prog w) A (call (.builtin "len") [.ref l]) Q E s := by
  have e : vs.toArray.size = K := by rw [List.size_toArray, hv]
  exact PyProof.Rows.len_list hl (by rw [e]; omega) (by rw [e]; exact h)
end
local macro_rules | `(tactic| walk_at "call builtin:len") => `(tactic| (k_here; (with_reducible show wpAny _ _ (call (Value.builtin "len") [Value.ref _]) _ _ _); k_dflt (refine' r_lenL ?t ?e ?k ?_; (case t => exact News.isList (by k_asm) (List.mem_cons_of_mem _ (by assumption))); (case e => assumption); (case k => omega))))
local macro_rules | `(tactic| walk_at "subscriptTail") => `(tactic| (k_here; (with_reducible show wpAny _ _ (subscriptTail _ _ (Value.ref _) (Value.int _ _)) _ _ _); k_dflt (refine' item_list_ints ?t ?i ?a ?b ?c ?_; (case t => exact News.isList (by k_asm) (List.mem_cons_of_mem _ (by assumption))); (case i => assumption); (case a => omega); (case b => omega); (case c => omega); intro _)))
theorem pick_end {h₀ : Heap} {L : Addr} {m : Str → Option Value} {s : Shared} {Q : Value → Shared → Prop} {hl cl : Addr} {R : List (Addr × Obj)} {lim : Int} {N9 : Nat}
    (hret : ∀ (d : Int) (t : Tok) (i' b' c' : Int) (ti' tb' tc' : Tok) (n' : Nat) (h' : Heap) (tk' : Nat), 0 ≤ d → d < lim → (0 ≤ i' ∧ i' ≤ (N9 : Int)) → 0 ≤ b' → (0 ≤ c' ∧ c' < 2147483647) → Fr h₀ L h' m → News h₀ L h' ((hl, listOf #[.ref cl, .int i' ti', .int b' tb', .int c' tc'] n') :: R) → Q (.int d t) { s with heap := h', toks := tk' })
    {d : Int} {t : Tok} {i' b' c' : Int} {ti' tb' tc' : Tok} {n' : Nat} {h' : Heap} {tk' : Nat} (F : Fr h₀ L h' m) (N : News h₀ L h' ((hl, listOf #[.ref cl, .int i' ti', .int b' tb', .int c' tc'] n') :: R))
    (h0 : 0 ≤ d) (h1 : d < lim) (hi : 0 ≤ i' ∧ i' ≤ (N9 : Int)) (hb : 0 ≤ b') (hc : 0 ≤ c' ∧ c' < 2147483647) : Q (.int d t) { s with heap := h', toks := tk' } := hret d t i' b' c' ti' tb' tc' n' h' tk' h0 h1 hi hb hc F N
theorem pick_C (w : World) (R : List (Addr × Obj)) (hl cl : Addr) (vs : List Value) (ns : List Int) (nn n : Nat) (i b c lim : Int) (ti tb tc tl : Tok)
    (hcl : (cl, listOf vs.toArray nn) ∈ R) (hx : ∀ p ∈ R, p.1 ≠ hl) (hI : IntsAre vs ns) (hn : ns.length ≤ 63) (hi : 0 ≤ i ∧ i ≤ ns.length) (hb : 0 ≤ b) (hc : 0 ≤ c ∧ c < 2147483647) (hlim : 1 ≤ lim ∧ lim ≤ 256)
    (p : Program) (loose : List Str) (mean : ExcName → Option Value) (mg mb : Str → Option Value)
    (dp un : Nat) (gd : Option (List Code)) (cn : Str) (cs : Scope) (a : Addr) (ccd : Value) (cl2 : List (Str × Addr)) (outer : List Env) (A₀ : Around) (base h₀ : Heap) (L : Addr) (m : Str → Option Value) (s : Shared) (Q E : Value → Shared → Prop)
    (B : Below A₀ base outer h₀) (F : Fr h₀ L s.heap m) (X : (hd.heap_39 w.params).In h₀) (N : News h₀ L s.heap ((hl, listOf #[.ref cl, .int i ti, .int b tb, .int c tc] n) :: R)) (T : Top p loose mean mg mb h₀) (hk : cs.kind = .function) (hdp : dp + 1 < recursionLimit) (hun : un + 8 * 1 < cLine)
    (hret : ∀ (d : Int) (t : Tok) (i' b' c' : Int) (ti' tb' tc' : Tok) (n' : Nat) (h' : Heap) (tk' : Nat), 0 ≤ d → d < lim → (0 ≤ i' ∧ i' ≤ ns.length) → 0 ≤ b' → (0 ≤ c' ∧ c' < 2147483647) → Fr h₀ L h' m → News h₀ L h' ((hl, listOf #[.ref cl, .int i' ti', .int b' tb', .int c' tc'] n') :: R) → Q (.int d t) { s with heap := h', toks := tk' }) :
    wpAny (model PySem.Challenge.rw_nn0293_01.row.prog w) (ktrTop dp un gd cn cs L a ccd cl2 outer) (call (.ref 91) [.ref hl, .int lim tl]) Q E s := by
  revert hret hun hdp hk T N X F B E Q s m L h₀ base A₀ outer cl2 ccd a cs cn gd un dp mb mg mean loose p
  w_top off
  k_with_none
  k_fill
  intro p loose mean mg mb dp un gd cn cs a ccd cl2 outer A₀ base h₀ L m s Q E B F X N T hk hdp hun hret
  have hvl : vs.length ≤ 63 := by rw [hI.length]; exact hn
  have hvn : vs.length = ns.length := hI.length
  walk_at "mine enter"
  k_steps
  all_goals
    refine pick_end hret (by k_asm) (by k_asm) (Int.emod_nonneg _ (by omega)) (Int.emod_lt_of_pos _ (by omega)) (by omega) ?hb9 (by omega)
    case hb9 => first | omega | (exact Int.ediv_nonneg (by omega) (by omega))
end
end PickT
end Mine
namespace Mine
section CanT
local macro_rules | `(tactic| walk_at "execs cons") => `(tactic| ((with_reducible show wpAny _ _ (execs _ _) _ _ ⟨_, _, _, _ + 1, _⟩); refine gentok ?_; intro tk))
local macro_rules | `(tactic| walk_at "execs nil") => `(tactic| ((with_reducible show wpAny _ _ (execs _ _) _ _ ⟨_, _, _, _ + 1, _⟩); refine gentok ?_; intro tk))
local macro_rules | `(tactic| k_mem) => `(tactic| assumption)
local macro_rules | `(tactic| walk_at "binaryOp Pow int int") => `(tactic| ((with_reducible show wpAny _ _ (binaryOp _ (Value.int 2 _) (Value.int _ _)) _ _ _); refine r_pow2 (by omega) (by omega) ?_))
local macro_rules | `(tactic| walk_at "binaryOp Mult int int") => `(tactic| (refine r_mul ?a ?b ?_; (case a => omega); (case b => omega)))
local macro_rules | `(tactic| walk_at "binaryOp FloorDiv int int") => `(tactic| first | (refine r_divp ?a ?_; (case a => omega)) | (refine r_div ?a ?b ?_; (case a => omega); (case b => omega)))
local macro_rules | `(tactic| walk_at "binaryOp Mod int int") => `(tactic| (refine r_mod ?a ?_; (case a => first | exact pow_pos2 _ | omega)))
local macro_rules | `(tactic| walk_at "binaryOp RShift int int") => `(tactic| (refine r_shr ?a ?_; (case a => omega)))
local macro_rules | `(tactic| walk_at "binaryOp LShift int int") => `(tactic| (refine r_shl ?a ?b ?c ?d ?_; (case a => omega); (case b => omega); (case c => omega); (case d => omega)))
local macro_rules | `(tactic| walk_at "binaryOp BitAnd int int") => `(tactic| ((with_reducible show wpAny _ _ (binaryOp _ (Value.int _ _) (Value.int 1 _)) _ _ _); refine r_and1 ?_))
local macro_rules | `(tactic| walk_at "subscriptTail") => `(tactic| (k_here; (with_reducible show wpAny _ _ (subscriptTail _ _ (Value.ref _) (Value.int _ _)) _ _ _); k_dflt (refine' r_item ?t ?i ?o ?a ?b ?c ?_; (case t => exact News.isTup (by k_asm) (by k_mem)); (case i => assumption); (case o => assumption); (case a => omega); (case b => omega); (case c => omega); intro _ _ _)))
local macro_rules | `(tactic| walk_at "mine enterB") => `(tactic| (k_dflt (refine' code_defB ?k1 ?k2 ?k3 ?k4 ?k5 ?kA ?kF ?kK ?k6 ?k7 ?k8 ?k9 ?kB ?_ ?c2 ?c3 ?c4 ?c5; (case kA => exact rfl); (case kF => exact rfl); (case kK => assumption); (case k1 => k_asm); (case k2 => k_asm); (case k3 => k_asm); (case k4 => k_asm); (case k5 => k_asm); (case k6 => k_is); (case k7 => k_is); (case k8 => ktr_room); (case k9 => exact BindsTo.of_eq rfl); (case c5 => decide); (case kB => exact locs rfl); (case c2 => exact rfl); (case c3 => exact rfl); (case c4 => exact rfl); k_whole; intro g' L' h' F' N' B' X' T' hbase; (try dsimp only); (try k_fold))))
local macro_rules | `(tactic| walk_at "mine enterCB") => `(tactic| (k_dflt (refine' code_defCB ?k1 ?k2 ?k3 ?k4 ?k5 ?kA ?kF ?kK ?k6 ?k7 ?k8 ?k9 ?kB ?kD ?_ ?c2 ?c3 ?c4; (case kA => exact rfl); (case kF => exact rfl); (case kK => assumption); (case k1 => k_asm); (case k2 => k_asm); (case k3 => k_asm); (case k4 => k_asm); (case k5 => k_asm); (case k6 => k_is); (case k7 => k_is); (case k8 => ktr_room); (case k9 => exact BindsTo.of_eq rfl); (case kB => exact rfl); (case kD => decide +kernel); (case c2 => exact rfl); (case c3 => exact rfl); (case c4 => exact rfl); k_whole; intro g' L' h' tk' cells' F' N' Y' B' X' T' hbase; k_cells Y'; (try simp only [List.cons_append, List.nil_append] at N'); (try dsimp only); (try k_fold))))
local macro_rules | `(tactic| walk_at "mine ints") => `(tactic| first | assumption | exact IntsAre.nil | exact IntsAre.cons _ _ (by walk_at "mine ints"))
local macro_rules | `(tactic| walk_at "compareOp NotIn int ref") => `(tactic| (k_here; k_dflt (refine' notin_tuple_ints ?t ?i ?_; (case t => exact News.isTup (by k_asm) (by k_mem)); (case i => walk_at "mine ints"); k_whole)))
local macro_rules | `(tactic| walk_at "mine cut") => `(tactic| first | (refine' Cut.here ?_; k_all) | (refine' Cut.there ?a ?b; (case a => k_ne); (case b => walk_at "mine cut")))
local macro_rules | `(tactic| walk_at "UnrEnd") => `(tactic| (refine' unrEnd_cut (by assumption) (by assumption) ?c ?_; (case c => walk_at "mine cut"); first | (k_dflt (refine ⟨by k_mem, ?_⟩)) | skip))
local macro_rules | `(tactic| walk_at "mine enter") => `(tactic| (refine wpAny_call ?_; k_dflt cell_enter))
local macro_rules | `(tactic| walk_at "call builtin:len") => `(tactic| (k_here; (with_reducible show wpAny _ _ (call (Value.builtin "len") [Value.ref _]) _ _ _); k_dflt (refine' r_len ?t ?e ?k ?_; (case t => exact News.isTup (by k_asm) (by k_mem)); (case e => assumption); (case k => omega))))

def frmD (f : List Int × Int × Int) : Dat := Dat.tuple [tupD f.1, Dat.int f.2.1, Dat.int f.2.2]
def cFound (t : Int) (o : List Int) (K : Nat) : Nat → Int
  | 0 => permI t o K (2 ^ K)
  | n + 1 => flI (cFound t o K n) (lowI (n + 1)) K
def cInp : Nat → Int
  | 0 => 0
  | n + 1 => Builtin.bitXor (cInp n) (1 * 2 ^ lowI (n + 1))
def cStep (K : Nat) (f : Int) (o : List Int) (i : Int) (b : Int × List Int × Int × Int) : Int × List Int × Int × Int :=
  let b1 := if f < b.1 then (f, (o, i, 0)) else b
  if Builtin.bitXor (fullI K) f < b1.1 then (Builtin.bitXor (fullI K) f, (o, i, 1)) else b1
def cBest (t : Int) (o : List Int) (K : Nat) (b : Int × List Int × Int × Int) : Nat → Int × List Int × Int × Int
  | 0 => b
  | n + 1 => cStep K (cFound t o K n) o (cInp n) (cBest t o K b n)
def canAll (t : Int) (K : Nat) (rows : List (List Int)) (b : Int × List Int × Int × Int) : Int × List Int × Int × Int := rows.foldl (fun b o => cBest t o K b (2 ^ K)) b
def canI (t : Int) (K : Nat) : Int × List Int × Int × Int := canAll t K (ordsL K K) (t, (rangeKs 0 K, 0, 0))
theorem ordsL_row3 {K : Nat} (hK : K ≤ 3) {row : List Int} (h : row ∈ ordsL K K) : row.length = K ∧ ∀ x ∈ row, 0 ≤ x ∧ x < 3 := by
  have h1 : K = 0 ∨ K = 1 ∨ K = 2 ∨ K = 3 := by omega
  have key : ∀ (rs : List (List Int)) (K : Nat), (rs.all fun r => decide (r.length = K) && r.all fun x => decide (0 ≤ x) && decide (x < 3)) = true → row ∈ rs → row.length = K ∧ ∀ x ∈ row, 0 ≤ x ∧ x < 3 := fun rs K ha hm => by
    have := (List.all_eq_true.mp ha) row hm
    simpa using this
  refine key _ _ ?_ h
  rcases h1 with rfl | rfl | rfl | rfl <;> decide
theorem lowI_lt {K i : Nat} (hK : K ≤ 3) (h : 0 < i) (hi : i < 2 ^ K) : lowI i < K := by
  have hc : K = 0 ∨ K = 1 ∨ K = 2 ∨ K = 3 := by omega
  rcases hc with rfl | rfl | rfl | rfl
  · have : i < 1 := hi
    omega
  · have : i < 2 := hi
    have e : i = 1 := by omega
    subst e; decide
  · have : i < 4 := hi
    have e : i = 1 ∨ i = 2 ∨ i = 3 := by omega
    rcases e with rfl | rfl | rfl <;> decide
  · have : i < 8 := hi
    have e : i = 1 ∨ i = 2 ∨ i = 3 ∨ i = 4 ∨ i = 5 ∨ i = 6 ∨ i = 7 := by omega
    rcases e with rfl | rfl | rfl | rfl | rfl | rfl | rfl <;> decide
theorem cFound_rng {t : Int} {o : List Int} {K : Nat} (hK : K ≤ 3) : ∀ n, n < 2 ^ K → 0 ≤ cFound t o K n ∧ cFound t o K n < 2 ^ (2 ^ K)
  | 0, _ => ⟨permI_nonneg _ _ _ _, permI_lt _ _ _ _⟩
  | n + 1, h => by
    have ih := cFound_rng (t := t) (o := o) hK n (by omega)
    rw [cFound]
    exact fl_rng (lowI_lt hK (by omega) h) hK ih.1 ih.2
theorem can_c00 {K : Nat} {f l : Int} {o : List Int} {i : Int} {ff : List Int × Int × Int} (h1 : ¬ f < l) (h2 : ¬ Builtin.bitXor (fullI K) f < l) : (l, ff) = cStep K f o i (l, ff) := by
  unfold cStep; simp only [if_neg h1, if_neg h2]
theorem can_c10 {K : Nat} {f l : Int} {o : List Int} {i : Int} {ff : List Int × Int × Int} (h1 : f < l) (h2 : ¬ Builtin.bitXor (fullI K) f < f) : (f, (o, i, 0)) = cStep K f o i (l, ff) := by
  unfold cStep; simp only [if_pos h1, if_neg h2]
theorem can_c01 {K : Nat} {f l : Int} {o : List Int} {i : Int} {ff : List Int × Int × Int} (h1 : ¬ f < l) (h2 : Builtin.bitXor (fullI K) f < l) : (Builtin.bitXor (fullI K) f, (o, i, 1)) = cStep K f o i (l, ff) := by
  unfold cStep; simp only [if_neg h1, if_pos h2]
theorem can_c11 {K : Nat} {f l : Int} {o : List Int} {i : Int} {ff : List Int × Int × Int} (h1 : f < l) (h2 : Builtin.bitXor (fullI K) f < f) : (Builtin.bitXor (fullI K) f, (o, i, 1)) = cStep K f o i (l, ff) := by
  unfold cStep; simp only [if_pos h1, if_pos h2]
theorem can_end0 {t : Int} {row : List Int} {K i : Nat} {fo inp : Int} {l : Int} {ff : List Int × Int × Int} {b : Int × List Int × Int × Int} {l' : Int} {ff' : List Int × Int × Int} (h : ¬ (0 : Int) < i) (hf : fo = cFound t row K (i - 1)) (hi : inp = cInp (i - 1)) (hb : (l, ff) = cBest t row K b i) (hs : (l', ff') = cStep K fo row inp (l, ff)) :
    fo = cFound t row K (i + 1 - 1) ∧ inp = cInp (i + 1 - 1) ∧ (l', ff') = cBest t row K b (i + 1) := by
  have e : i = 0 := by omega
  subst e
  refine ⟨hf, hi, ?_⟩
  rw [hs, hb, hf, hi]; rfl
theorem can_end1 {t : Int} {row : List Int} {K i : Nat} {fo inp : Int} {l : Int} {ff : List Int × Int × Int} {b : Int × List Int × Int × Int} {l' : Int} {ff' : List Int × Int × Int} (h : (0 : Int) < i) (hf : fo = cFound t row K (i - 1)) (hi : inp = cInp (i - 1)) (hb : (l, ff) = cBest t row K b i) (hs : (l', ff') = cStep K (flI fo (lowI i) K) row (Builtin.bitXor inp (1 * 2 ^ (lowI i : Int).toNat)) (l, ff)) :
    flI fo (lowI i) K = cFound t row K (i + 1 - 1) ∧ Builtin.bitXor inp (1 * 2 ^ (lowI i : Int).toNat) = cInp (i + 1 - 1) ∧ (l', ff') = cBest t row K b (i + 1) := by
  obtain ⟨j, rfl⟩ : ∃ j, i = j + 1 := ⟨i - 1, by omega⟩
  have e : j + 1 - 1 = j := by omega
  rw [e] at hf hi
  have e1 : flI fo (lowI (j + 1)) K = cFound t row K (j + 1) := by rw [cFound, hf]
  have e2 : Builtin.bitXor inp (1 * 2 ^ (lowI (j + 1) : Int).toNat) = cInp (j + 1) := by rw [cInp, hi]; rfl
  refine ⟨e1, e2, ?_⟩
  rw [hs, e1, e2, hb]; rfl
theorem canAll_take {t : Int} {K : Nat} {rows : List (List Int)} {b : Int × List Int × Int × Int} {i : Nat} {row : List Int} (h : rows[i]? = some row) : canAll t K (rows.take (i + 1)) b = cBest t row K (canAll t K (rows.take i) b) (2 ^ K) := by
  unfold canAll
  rw [List.take_add_one, h]
  simp

section
local macro_rules | `(tactic| walk_at "pyIter ref") => `(tactic| ((with_reducible show wpAny _ _ (pyIter (Value.ref _)) (fun it s₂ => LoopAtV _ _ _ _ _ _ _ _ _ it s₂) _ _); refine Stop.mk ?_))
local macro_rules | `(tactic| walk_at "InvEndN") => `(tactic| refine Stop.mk ?_)
local macro_rules | `(tactic| walk_at "call type:range") => `(tactic| ((rename Fr _ _ _ _ => F'); (rename News _ _ _ _ => N'); (with_unfolding_all refine range1_rows F' N' ?_); intro _ _ _ _ _ _ _ _ _))
local macro_rules | `(tactic| walk_at "InvEndG") => `(tactic| refine Stop.mk ?_)
local macro_rules | `(tactic| walk_at "binaryOp Add ref ref") => `(tactic| k_extra "binaryOp Add ref ref")
local macro_rules | `(tactic| size_fits) => `(tactic| (simp only [List.size_toArray, sizeLine_eq]; omega))
local macro_rules | `(tactic| k_all) => `(tactic| assumption)
local macro_rules | `(tactic| walk_at "newList") => `(tactic| k_extra "newList")
local macro_rules | `(tactic| walk_at "InvPostG") => `(tactic| dsimp only [InvPostG])
local macro_rules | `(tactic| walk_at "exec For Name Name cons nil") => `(tactic| (k_here; (rename Fr _ _ _ _ => lF'); (with_unfolding_all refine' For_invVF lF' ?k1 ?k2 ?_; (case k1 => exact rfl); (case k2 => exact rfl); k_whole)))
local macro_rules | `(tactic| walk_at "newTuple") => `(tactic| k_extra "newTuple")
local macro_rules | `(tactic| walk_at "call ref") => `(tactic| ((with_reducible show wpAny _ _ (call (Value.ref 21) _) _ _ _); k_dflt (refine' ctrI_use (full_C _ _ ?e ?h _ _ _) ?k1 ?k2 ?k3 ?k4 ?k5 ?kK ?kd ?ku ?_; (case k1 => k_asm); (case k2 => k_asm); (case k3 => k_asm); (case k4 => k_asm); (case k5 => k_asm); (case kK => first | exact rfl | assumption); (case kd => ktr_room); (case ku => ktr_units); (case e => first | rfl | omega); (case h => omega); intro t9 h9 tk9 F9 N9; (try dsimp only); (try k_fold))))
local macro_rules | `(tactic| walk_at "call ref") => `(tactic| ((with_reducible show wpAny _ _ (call (Value.ref 49) _) _ _ _); k_dflt (refine' ctrI_use (flip_C _ _ _ _ _ ?e1 ?e2 ?h1 ?h2 ?h3 ?h4 _ _ _ _ _) ?k1 ?k2 ?k3 ?k4 ?k5 ?kK ?kd ?ku ?_; (case k1 => k_asm); (case k2 => k_asm); (case k3 => k_asm); (case k4 => k_asm); (case k5 => k_asm); (case kK => first | exact rfl | assumption); (case kd => ktr_room); (case ku => ktr_units); (case e1 => first | rfl | omega); (case e2 => first | rfl | omega); (case h1 => omega); (case h2 => omega); (case h3 => omega); (case h4 => omega); intro t9 h9 tk9 F9 N9; (try dsimp only); (try k_fold))))
local macro_rules | `(tactic| walk_at "call ref") => `(tactic| ((with_reducible show wpAny _ _ (call (Value.ref 70) _) _ _ _); k_dflt (refine' ctrI_use (low_C _ _ ?e1 ?h1 ?h2 _ _ _) ?k1 ?k2 ?k3 ?k4 ?k5 ?kK ?kd ?ku ?_; (case k1 => k_asm); (case k2 => k_asm); (case k3 => k_asm); (case k4 => k_asm); (case k5 => k_asm); (case kK => first | exact rfl | assumption); (case kd => ktr_room); (case ku => ktr_units); (case e1 => first | rfl | omega); (case h1 => omega); (case h2 => omega); intro t9 h9 tk9 F9 N9; (try dsimp only); (try k_fold))))
local macro_rules | `(tactic| walk_at "call ref") => `(tactic| ((with_reducible show wpAny _ _ (call (Value.ref 42) _) _ _ _); k_dflt (refine' ctrI_use (perm_C _ _ _ _ _ _ ?e ?h1 ?h2 ?h3 _ _ _ _ _ ?h4) ?k1 ?k2 ?k3 ?k4 ?k5 ?kK ?kd ?ku ?_; (case k1 => k_asm); (case k2 => k_asm); (case k3 => k_asm); (case k4 => k_asm); (case k5 => k_asm); (case kK => first | exact rfl | assumption); (case kd => ktr_room); (case ku => ktr_units); (case e => first | rfl | omega); (case h4 => k_mem); (case h2 => assumption); (case h3 => assumption); (case h1 => assumption); intro t9 h9 tk9 F9 N9; (try dsimp only); (try k_fold))))
local macro_rules | `(tactic| walk_at "call ref") => `(tactic| ((with_reducible show wpAny _ _ (call (Value.ref 56) _) _ _ _); k_dflt (refine' ctr_use (orders_C _ _ ?e ?h _ _ _) ?k1 ?k2 ?k3 ?k4 ?k5 ?kK ?kd ?ku ?_; (case k1 => k_asm); (case k2 => k_asm); (case k3 => k_asm); (case k4 => k_asm); (case k5 => k_asm); (case kK => first | exact rfl | assumption); (case kd => ktr_room); (case ku => ktr_units); (case e => first | rfl | omega); (case h => omega); refine Stop.mk ?_)))

theorem canon_C (t k : Int) (K : Nat) (hk : k = K) (hK : K ≤ 3) (w : World) (news : List (Addr × Obj)) (tt tk : Tok) :
    Ctr PySem.Challenge.rw_nn0293_01.row.prog w (hd.heap_39 w.params) 4 63 news [.int t tt, .int k tk] (fun tl r => DatIn tl r (Dat.tuple [Dat.int (canI t K).1, frmD (canI t K).2])) := by
  subst hk
  w_top off
  k_with_none
  k_fill
  unfold Ctr
  intro p loose mean mg mb dp un gd cn cs a ccd cl outer A₀ base h₀ L m s Q E B F X N T hk hdp hun hret
  refine wpAny_call ?_
  k_with "newTuple" => (k_here; k_dflt (refine' kup_newTuple ?F ?N ?_ ?z; (case F => k_asm); (case N => k_asm); (case z => kmk_size)); intro tD h9 F9 N9 tLt)
  k_with "call type:tuple" => (k_here; k_dflt (refine' r_tupleRange ?H ?F ?N ?R ?S ?n ?l ?_; (case F => k_asm); (case N => k_asm); (case R => assumption); (case H => rfl); (case S => exact smK (by assumption)); (case n => exact rsK (by assumption)); (case l => omega)); intro rD h9 tk9 rvs F9 N9 rLt rInts)
  walk_at "mine enterB"
  k_steps
  unfold Stop
  intro r9 tl9 h9 tk9 F9 N9 _ hP9
  obtain ⟨a1, vs1, nn1, ha1, hm1, hall1⟩ := list_inv hP9
  subst ha1
  (rename Fr _ _ _ _ => lF'); (rename News _ _ _ _ => lN')
  with_unfolding_all refine' lsD (σ := (Int × Tok) × Value × (List Int × Int × Int)) (ds := (ordsL K K).map tupD) (fun _ => []) (fun c => [(Str.ofString "least", .int c.1.1 c.1.2), (Str.ofString "form", c.2.1)]) (fun W c => DatIn W c.2.1 (frmD c.2.2)) ["found", "inputs", "step", "i"] (fun i c => (c.1.1, c.2.2) = canAll t K ((ordsL K K).take i) (t, (rangeKs 0 K, 0, 0))) ((_, _), _, (rangeKs 0 K, 0, 0)) (by rfl) (List.mem_append.mpr (.inl hm1)) (DatAll.mono (fun p hp => List.mem_append.mpr (.inl hp)) hall1) lF' lN' (fun _ => rfl) (fun _ _ _ h => nomatch h) ?kf ?kk rfl ?turn ?done
  case kk => kst_all
  case kf => exact DatIn.tuple (List.mem_append.mpr (.inr (.head _))) (.cons (tup_mk (List.mem_append.mpr (.inr (.tail _ (.head _)))) rInts) (.cons (.int _ _) (.cons (.int _ _) .nil)))
  case turn =>
    rintro ⟨⟨le, let_⟩, fv, ff⟩ W own i d v u h tk J hd hD hsub hF hP F1 N1 hsep hWO fin
    (dsimp only [kstB] at F1 hF hP)
    clear lF' lN'
    obtain ⟨row, hrow, hdr⟩ : ∃ row, (ordsL K K)[i]? = some row ∧ d = tupD row := by
        rw [List.getElem?_map] at hd
        cases hr : (ordsL K K)[i]? with
        | none => rw [hr] at hd; cases hd
        | some row => rw [hr] at hd; exact ⟨row, rfl, (Option.some.inj hd).symm⟩
    subst hdr
    obtain ⟨ra, rvs2, rn, hra, hrm, hri⟩ := tup_inv hD
    subst hra
    rw [List.nil_append] at N1
    have hrow3 := ordsL_row3 hK (List.mem_of_getElem? hrow)
    obtain ⟨R, hR⟩ : ∃ R, R = W ++ own := ⟨_, rfl⟩
    rw [← hR] at N1
    have hmR : (ra, ({ cls := .type "tuple", data := .seq rvs2.toArray rn } : Obj)) ∈ R := by rw [hR]; exact List.mem_append.mpr (.inl hrm)
    try k_fold
    k_steps
    unfold Stop
    have h8 := p8 hK
    (rename Fr _ _ _ _ => lF'); (rename News _ _ _ _ => lN'); (rename IsRange _ _ _ _ _ _ _ _ => rgX)
    with_unfolding_all refine' rgD (σ := (Int × Tok) × (Int × Tok) × (Int × Tok) × Value × (List Int × Int × Int)) (n := 2 ^ K) (cst := W) (fun _ => own) (fun c => [(Str.ofString "found", .int c.1.1 c.1.2), (Str.ofString "inputs", .int c.2.1.1 c.2.1.2), (Str.ofString "least", .int c.2.2.1.1 c.2.2.1.2), (Str.ofString "form", c.2.2.2.1)]) (fun W c => DatIn W c.2.2.2.1 (frmD c.2.2.2.2)) ["i"] (fun i c => c.1.1 = cFound t row K (i - 1) ∧ c.2.1.1 = cInp (i - 1) ∧ (c.2.2.1.1, c.2.2.2.2) = cBest t row K (le, ff) i) ((_, _), (_, _), (_, _), _, ff) (by rfl) rgX (smP hK) (rsP hK) lF' ?kN2 (fun _ => rfl) hWO hF ?kk2 ⟨rfl, rfl, rfl⟩ ?turn2 ?done2
    case kN2 => exact fun p hp => lN' p (by rw [hR]; exact (List.mem_append.mp hp).elim (fun h => List.mem_append.mpr (.inr h)) (fun h => List.mem_append.mpr (.inl h)))
    case kk2 => kst_all
    case turn2 =>
      rintro ⟨⟨fo, fot⟩, ⟨inp, inpt⟩, ⟨le2, le2t⟩, fv2, ff2⟩ W2 own2 i2 t2 u2 h2 tk2 J2 hi2 hsub2 hF2 hP2 F2 N2 hsep2 hWO2 fin2
      (dsimp only [kstB] at F2 hF2 hP2)
      simp only [Int.zero_add] at F2
      clear lF' lN' rgX
      obtain ⟨hP2f, hP2i, hP2b⟩ := hP2
      have hfr := cFound_rng (t := t) (o := row) hK (i2 - 1) (by omega)
      rw [← hP2f] at hfr
      have h28 := two8 hK
      have hfr2 : 0 ≤ fo ∧ fo < 2 ^ 8 := ⟨hfr.1, by omega⟩
      have hlw : 0 < i2 → lowI i2 < K := fun h => lowI_lt hK h hi2
      obtain ⟨R2, hR2⟩ : ∃ R2, R2 = own ++ (W2 ++ own2) := ⟨_, rfl⟩
      rw [← hR2] at N2
      try k_fold
      k_steps
      all_goals
        unfold Stop
        first
        | ((have q7 : (0 : Int) < (i2 : Int) := by with_reducible assumption); (have q8 : ¬ (flI fo (lowI i2) K) < le2 := by with_reducible assumption); (have q9 : ¬ Builtin.bitXor (fullI K) (flI fo (lowI i2) K) < le2 := by with_reducible assumption);
           (refine' fin2 ((_, _), (_, _), (_, _), _, ff2) [] _ _ _ _ (by assumption) (by assumption) ?b1 ?b2 ?b3 ?b4 ?hk ?b6 ?b7);
           (case hk => kst_all);
           (case b1 => exact (fun p hp => by rw [← hR2] at hp; first | exact hp | exact .tail _ hp | exact .tail _ (.tail _ hp)));
           (case b2 => exact (fun _ h => nomatch h));
           (case b3 => exact (fun _ h => nomatch h));
           (case b4 => exact DatIn.mono (fun p hp => List.mem_append.mpr (.inl hp)) hF2);
           (case b6 => kst_same);
           (case b7 => exact can_end1 q7 hP2f hP2i hP2b (can_c00 q8 q9)))
        | ((have q7 : (0 : Int) < (i2 : Int) := by with_reducible assumption); (have q8 : ¬ (flI fo (lowI i2) K) < le2 := by with_reducible assumption); (have q9 : Builtin.bitXor (fullI K) (flI fo (lowI i2) K) < le2 := by with_reducible assumption);
           (refine' fin2 ((_, _), (_, _), (_, _), _, (row, (Builtin.bitXor inp (1 * 2 ^ (lowI i2 : Int).toNat)), 1)) [(tD, _)] _ _ _ _ (by assumption) (by assumption) ?b1 ?b2 ?b3 ?b4 ?hk ?b6 ?b7);
           (case hk => kst_all);
           (case b1 => exact (fun p hp => by rw [← hR2] at hp; first | exact hp | exact .tail _ hp | exact .tail _ (.tail _ hp)));
           (case b2 => exact (fun p hp => by rw [List.mem_singleton.mp hp]; exact .head _));
           (case b3 => exact (fun q hq p hp => by rw [List.mem_singleton.mp hq]; first | exact tLt p (by rw [hR2]; exact hp) | exact tLt p (.tail _ (by rw [hR2]; exact hp))));
           (case b4 => exact DatIn.tuple (List.mem_append.mpr (.inr (.head _))) (.cons (DatIn.mono (fun p hp => List.mem_append.mpr (.inl (hsub2 p hp))) hD) (.cons (.int _ _) (.cons (.int _ _) .nil))));
           (case b6 => kst_same);
           (case b7 => exact can_end1 q7 hP2f hP2i hP2b (can_c01 q8 q9)))
        | ((have q7 : (0 : Int) < (i2 : Int) := by with_reducible assumption); (have q8 : (flI fo (lowI i2) K) < le2 := by with_reducible assumption); (have q9 : ¬ Builtin.bitXor (fullI K) (flI fo (lowI i2) K) < (flI fo (lowI i2) K) := by with_reducible assumption);
           (refine' fin2 ((_, _), (_, _), (_, _), _, (row, (Builtin.bitXor inp (1 * 2 ^ (lowI i2 : Int).toNat)), 0)) [(tD, _)] _ _ _ _ (by assumption) (by assumption) ?b1 ?b2 ?b3 ?b4 ?hk ?b6 ?b7);
           (case hk => kst_all);
           (case b1 => exact (fun p hp => by rw [← hR2] at hp; first | exact hp | exact .tail _ hp | exact .tail _ (.tail _ hp)));
           (case b2 => exact (fun p hp => by rw [List.mem_singleton.mp hp]; exact .head _));
           (case b3 => exact (fun q hq p hp => by rw [List.mem_singleton.mp hq]; first | exact tLt p (by rw [hR2]; exact hp) | exact tLt p (.tail _ (by rw [hR2]; exact hp))));
           (case b4 => exact DatIn.tuple (List.mem_append.mpr (.inr (.head _))) (.cons (DatIn.mono (fun p hp => List.mem_append.mpr (.inl (hsub2 p hp))) hD) (.cons (.int _ _) (.cons (.int _ _) .nil))));
           (case b6 => kst_same);
           (case b7 => exact can_end1 q7 hP2f hP2i hP2b (can_c10 q8 q9)))
        | ((have q7 : (0 : Int) < (i2 : Int) := by with_reducible assumption); (have q8 : (flI fo (lowI i2) K) < le2 := by with_reducible assumption); (have q9 : Builtin.bitXor (fullI K) (flI fo (lowI i2) K) < (flI fo (lowI i2) K) := by with_reducible assumption);
           (refine' fin2 ((_, _), (_, _), (_, _), _, (row, (Builtin.bitXor inp (1 * 2 ^ (lowI i2 : Int).toNat)), 1)) [(tD, _)] _ _ _ _ (by assumption) (by assumption) ?b1 ?b2 ?b3 ?b4 ?hk ?b6 ?b7);
           (case hk => kst_all);
           (case b1 => exact (fun p hp => by rw [← hR2] at hp; first | exact hp | exact .tail _ hp | exact .tail _ (.tail _ hp)));
           (case b2 => exact (fun p hp => by rw [List.mem_singleton.mp hp]; exact .head _));
           (case b3 => exact (fun q hq p hp => by rw [List.mem_singleton.mp hq]; first | exact tLt p (by rw [hR2]; exact hp) | exact tLt p (.tail _ (by rw [hR2]; exact hp))));
           (case b4 => exact DatIn.tuple (List.mem_append.mpr (.inr (.head _))) (.cons (DatIn.mono (fun p hp => List.mem_append.mpr (.inl (hsub2 p hp))) hD) (.cons (.int _ _) (.cons (.int _ _) .nil))));
           (case b6 => kst_same);
           (case b7 => exact can_end1 q7 hP2f hP2i hP2b (can_c11 q8 q9)))
        | ((have q7 : ¬ (0 : Int) < (i2 : Int) := by with_reducible assumption); (have q8 : ¬ fo < le2 := by with_reducible assumption); (have q9 : ¬ Builtin.bitXor (fullI K) fo < le2 := by with_reducible assumption);
           (refine' fin2 ((_, _), (_, _), (_, _), _, ff2) [] _ _ _ _ (by assumption) (by assumption) ?b1 ?b2 ?b3 ?b4 ?hk ?b6 ?b7);
           (case hk => kst_all);
           (case b1 => exact (fun p hp => by rw [← hR2] at hp; first | exact hp | exact .tail _ hp | exact .tail _ (.tail _ hp)));
           (case b2 => exact (fun _ h => nomatch h));
           (case b3 => exact (fun _ h => nomatch h));
           (case b4 => exact DatIn.mono (fun p hp => List.mem_append.mpr (.inl hp)) hF2);
           (case b6 => kst_same);
           (case b7 => exact can_end0 q7 hP2f hP2i hP2b (can_c00 q8 q9)))
        | ((have q7 : ¬ (0 : Int) < (i2 : Int) := by with_reducible assumption); (have q8 : ¬ fo < le2 := by with_reducible assumption); (have q9 : Builtin.bitXor (fullI K) fo < le2 := by with_reducible assumption);
           (refine' fin2 ((_, _), (_, _), (_, _), _, (row, inp, 1)) [(tD, _)] _ _ _ _ (by assumption) (by assumption) ?b1 ?b2 ?b3 ?b4 ?hk ?b6 ?b7);
           (case hk => kst_all);
           (case b1 => exact (fun p hp => by rw [← hR2] at hp; first | exact hp | exact .tail _ hp | exact .tail _ (.tail _ hp)));
           (case b2 => exact (fun p hp => by rw [List.mem_singleton.mp hp]; exact .head _));
           (case b3 => exact (fun q hq p hp => by rw [List.mem_singleton.mp hq]; first | exact tLt p (by rw [hR2]; exact hp) | exact tLt p (.tail _ (by rw [hR2]; exact hp))));
           (case b4 => exact DatIn.tuple (List.mem_append.mpr (.inr (.head _))) (.cons (DatIn.mono (fun p hp => List.mem_append.mpr (.inl (hsub2 p hp))) hD) (.cons (.int _ _) (.cons (.int _ _) .nil))));
           (case b6 => kst_same);
           (case b7 => exact can_end0 q7 hP2f hP2i hP2b (can_c01 q8 q9)))
        | ((have q7 : ¬ (0 : Int) < (i2 : Int) := by with_reducible assumption); (have q8 : fo < le2 := by with_reducible assumption); (have q9 : ¬ Builtin.bitXor (fullI K) fo < fo := by with_reducible assumption);
           (refine' fin2 ((_, _), (_, _), (_, _), _, (row, inp, 0)) [(tD, _)] _ _ _ _ (by assumption) (by assumption) ?b1 ?b2 ?b3 ?b4 ?hk ?b6 ?b7);
           (case hk => kst_all);
           (case b1 => exact (fun p hp => by rw [← hR2] at hp; first | exact hp | exact .tail _ hp | exact .tail _ (.tail _ hp)));
           (case b2 => exact (fun p hp => by rw [List.mem_singleton.mp hp]; exact .head _));
           (case b3 => exact (fun q hq p hp => by rw [List.mem_singleton.mp hq]; first | exact tLt p (by rw [hR2]; exact hp) | exact tLt p (.tail _ (by rw [hR2]; exact hp))));
           (case b4 => exact DatIn.tuple (List.mem_append.mpr (.inr (.head _))) (.cons (DatIn.mono (fun p hp => List.mem_append.mpr (.inl (hsub2 p hp))) hD) (.cons (.int _ _) (.cons (.int _ _) .nil))));
           (case b6 => kst_same);
           (case b7 => exact can_end0 q7 hP2f hP2i hP2b (can_c10 q8 q9)))
        | ((have q7 : ¬ (0 : Int) < (i2 : Int) := by with_reducible assumption); (have q8 : fo < le2 := by with_reducible assumption); (have q9 : Builtin.bitXor (fullI K) fo < fo := by with_reducible assumption);
           (refine' fin2 ((_, _), (_, _), (_, _), _, (row, inp, 1)) [(tD, _)] _ _ _ _ (by assumption) (by assumption) ?b1 ?b2 ?b3 ?b4 ?hk ?b6 ?b7);
           (case hk => kst_all);
           (case b1 => exact (fun p hp => by rw [← hR2] at hp; first | exact hp | exact .tail _ hp | exact .tail _ (.tail _ hp)));
           (case b2 => exact (fun p hp => by rw [List.mem_singleton.mp hp]; exact .head _));
           (case b3 => exact (fun q hq p hp => by rw [List.mem_singleton.mp hq]; first | exact tLt p (by rw [hR2]; exact hp) | exact tLt p (.tail _ (by rw [hR2]; exact hp))));
           (case b4 => exact DatIn.tuple (List.mem_append.mpr (.inr (.head _))) (.cons (DatIn.mono (fun p hp => List.mem_append.mpr (.inl (hsub2 p hp))) hD) (.cons (.int _ _) (.cons (.int _ _) .nil))));
           (case b6 => kst_same);
           (case b7 => exact can_end0 q7 hP2f hP2i hP2b (can_c11 q8 q9)))
    case done2 => 
      rintro ⟨⟨fo, fot⟩, ⟨inp, inpt⟩, ⟨le2, le2t⟩, fv2, ff2⟩ add2 u2 h2 tk2 hlt2 hF2 hP2 F2 N2 hsep2
      (dsimp only [kstB] at F2 hF2 hP2)
      clear lF' lN' rgX
      try k_fold
      k_steps
      unfold Stop
      have e2 : 2 ^ K - 0 = 2 ^ K := rfl
      refine' fin ((_, _), _, ff2) add2 _ _ _ _ (by assumption) (by assumption) ?c1 ?c2 ?c3 ?c4 ?ck ?c6 ?c7
      case ck => kst_all
      case c1 =>
        intro p hp
        rcases List.mem_append.mp (show p ∈ W ++ own from hp) with h | h
        · exact List.mem_append.mpr (.inr (List.mem_append.mpr (.inl h)))
        · exact List.mem_append.mpr (.inl h)
      case c2 => exact fun p hp => List.mem_append.mpr (.inr (List.mem_append.mpr (.inr hp)))
      case c3 =>
        intro q hq p hp
        refine hlt2 q hq p ?_
        rcases List.mem_append.mp (show p ∈ W ++ own from hp) with h | h
        · exact List.mem_append.mpr (.inr h)
        · exact List.mem_append.mpr (.inl h)
      case c4 => exact hF2
      case c6 => kst_same
      case c7 =>
        show (le2, ff2) = canAll t K (List.take (i + 1) (ordsL K K)) _
        rw [canAll_take hrow, ← hP]
        exact hP2.2.2
  case done =>
    rintro ⟨⟨le, let_⟩, fv, ff⟩ add u h tk hlt hF hP F1 N1 hsep
    (dsimp only [kstB] at F1 hF hP)
    clear lF' lN'
    rw [List.nil_append] at N1
    try k_fold
    k_steps
    rw [List.take_of_length_le (by rw [List.length_map]; exact Nat.le_refl _)] at hP
    refine hret _ ((tD, _) :: _) _ _ (by k_asm) (news_app (a := (tD, _) :: _) (by assumption) (by assumption)) (fresh_of N9 (by assumption : ∀ p ∈ news, _ = some p.2)) ?_
    show DatIn _ _ (Dat.tuple [Dat.int (canI t K).1, frmD (canI t K).2])
    have hP' : canI t K = (le, ff) := hP.symm
    rw [hP']
    exact DatIn.tuple (.head _) (.cons (.int _ _) (.cons (DatIn.mono (fun p hp => .tail _ hp) hF) .nil))
end
end CanT
end Mine
namespace Mine
section InvT
local macro_rules | `(tactic| walk_at "execs cons") => `(tactic| ((with_reducible show wpAny _ _ (execs _ _) _ _ ⟨_, _, _, _ + 1, _⟩); refine gentok ?_; intro tk))
local macro_rules | `(tactic| walk_at "execs nil") => `(tactic| ((with_reducible show wpAny _ _ (execs _ _) _ _ ⟨_, _, _, _ + 1, _⟩); refine gentok ?_; intro tk))
local macro_rules | `(tactic| k_mem) => `(tactic| assumption)
local macro_rules | `(tactic| walk_at "binaryOp Pow int int") => `(tactic| ((with_reducible show wpAny _ _ (binaryOp _ (Value.int 2 _) (Value.int _ _)) _ _ _); refine r_pow2 (by omega) (by omega) ?_))
local macro_rules | `(tactic| walk_at "binaryOp Mult int int") => `(tactic| (refine r_mul ?a ?b ?_; (case a => omega); (case b => omega)))
local macro_rules | `(tactic| walk_at "binaryOp FloorDiv int int") => `(tactic| first | (refine r_divp ?a ?_; (case a => omega)) | (refine r_div ?a ?b ?_; (case a => omega); (case b => omega)))
local macro_rules | `(tactic| walk_at "binaryOp Mod int int") => `(tactic| (refine r_mod ?a ?_; (case a => first | exact pow_pos2 _ | omega)))
local macro_rules | `(tactic| walk_at "binaryOp RShift int int") => `(tactic| (refine r_shr ?a ?_; (case a => omega)))
local macro_rules | `(tactic| walk_at "binaryOp LShift int int") => `(tactic| (refine r_shl ?a ?b ?c ?d ?_; (case a => omega); (case b => omega); (case c => omega); (case d => omega)))
local macro_rules | `(tactic| walk_at "binaryOp BitAnd int int") => `(tactic| ((with_reducible show wpAny _ _ (binaryOp _ (Value.int _ _) (Value.int 1 _)) _ _ _); refine r_and1 ?_))
local macro_rules | `(tactic| walk_at "subscriptTail") => `(tactic| (k_here; (with_reducible show wpAny _ _ (subscriptTail _ _ (Value.ref _) (Value.int _ _)) _ _ _); k_dflt (refine' r_item ?t ?i ?o ?a ?b ?c ?_; (case t => exact News.isTup (by k_asm) (by k_mem)); (case i => assumption); (case o => assumption); (case a => omega); (case b => omega); (case c => omega); intro _ _ _)))
local macro_rules | `(tactic| walk_at "mine enterB") => `(tactic| (k_dflt (refine' code_defB ?k1 ?k2 ?k3 ?k4 ?k5 ?kA ?kF ?kK ?k6 ?k7 ?k8 ?k9 ?kB ?_ ?c2 ?c3 ?c4 ?c5; (case kA => exact rfl); (case kF => exact rfl); (case kK => assumption); (case k1 => k_asm); (case k2 => k_asm); (case k3 => k_asm); (case k4 => k_asm); (case k5 => k_asm); (case k6 => k_is); (case k7 => k_is); (case k8 => ktr_room); (case k9 => exact BindsTo.of_eq rfl); (case c5 => decide); (case kB => exact locs rfl); (case c2 => exact rfl); (case c3 => exact rfl); (case c4 => exact rfl); k_whole; intro g' L' h' F' N' B' X' T' hbase; (try dsimp only); (try k_fold))))
local macro_rules | `(tactic| walk_at "mine enterCB") => `(tactic| (k_dflt (refine' code_defCB ?k1 ?k2 ?k3 ?k4 ?k5 ?kA ?kF ?kK ?k6 ?k7 ?k8 ?k9 ?kB ?kD ?_ ?c2 ?c3 ?c4; (case kA => exact rfl); (case kF => exact rfl); (case kK => assumption); (case k1 => k_asm); (case k2 => k_asm); (case k3 => k_asm); (case k4 => k_asm); (case k5 => k_asm); (case k6 => k_is); (case k7 => k_is); (case k8 => ktr_room); (case k9 => exact BindsTo.of_eq rfl); (case kB => exact rfl); (case kD => decide +kernel); (case c2 => exact rfl); (case c3 => exact rfl); (case c4 => exact rfl); k_whole; intro g' L' h' tk' cells' F' N' Y' B' X' T' hbase; k_cells Y'; (try simp only [List.cons_append, List.nil_append] at N'); (try dsimp only); (try k_fold))))
local macro_rules | `(tactic| walk_at "mine ints") => `(tactic| first | assumption | exact IntsAre.nil | exact IntsAre.cons _ _ (by walk_at "mine ints"))
local macro_rules | `(tactic| walk_at "compareOp NotIn int ref") => `(tactic| (k_here; k_dflt (refine' notin_tuple_ints ?t ?i ?_; (case t => exact News.isTup (by k_asm) (by k_mem)); (case i => walk_at "mine ints"); k_whole)))
local macro_rules | `(tactic| walk_at "mine cut") => `(tactic| first | (refine' Cut.here ?_; k_all) | (refine' Cut.there ?a ?b; (case a => k_ne); (case b => walk_at "mine cut")))
local macro_rules | `(tactic| walk_at "UnrEnd") => `(tactic| (refine' unrEnd_cut (by assumption) (by assumption) ?c ?_; (case c => walk_at "mine cut"); first | (k_dflt (refine ⟨by k_mem, ?_⟩)) | skip))
local macro_rules | `(tactic| walk_at "mine enter") => `(tactic| (refine wpAny_call ?_; k_dflt cell_enter))
local macro_rules | `(tactic| walk_at "call builtin:len") => `(tactic| (k_here; (with_reducible show wpAny _ _ (call (Value.builtin "len") [Value.ref _]) _ _ _); k_dflt (refine' r_len ?t ?e ?k ?_; (case t => exact News.isTup (by k_asm) (by k_mem)); (case e => assumption); (case k => omega))))

def backI (o : List Int) (K : Nat) : Nat → List Int
  | 0 => List.replicate K 0
  | n + 1 => (backI o K n).set (o.getD n 0).toNat n
def negI (f : Int) (b : List Int) : Nat → Int
  | 0 => 0
  | n + 1 => Builtin.bitOr (negI f b n) ((f / 2 ^ (b.getD n 0).toNat) % 2 * 2 ^ n)
theorem backI_len (o : List Int) (K : Nat) : ∀ n, (backI o K n).length = K
  | 0 => List.length_replicate
  | n + 1 => by rw [backI, List.length_set]; exact backI_len o K n
theorem getD_set {l : List Int} {i j : Nat} {v : Int} : (l.set i v).getD j 0 = if i = j ∧ j < l.length then v else l.getD j 0 := by
  rw [List.getD_eq_getElem?_getD, List.getD_eq_getElem?_getD, List.getElem?_set]
  by_cases h : i = j
  · subst h
    by_cases h2 : i < l.length
    · simp [h2]
    · simp [h2]
  · simp [h]
theorem backI_rng (o : List Int) (K : Nat) : ∀ n, n ≤ K → ∀ x ∈ backI o K n, 0 ≤ x ∧ x < K
  | 0, _, x, h => by
    rw [backI, List.mem_replicate] at h
    omega
  | n + 1, hn, x, h => by
    rw [backI] at h
    rcases List.mem_or_eq_of_mem_set h with h | h
    · exact backI_rng o K n (by omega) x h
    · subst h; omega
theorem news_two {h₀ h : Heap} {L : Addr} {a b : Addr × Obj} {R news : List (Addr × Obj)} (N : News h₀ L h (a :: b :: R)) (hs : ∀ p ∈ news, p ∈ R) : News h₀ L h ([a, b] ++ news) := fun p hp => N p (by
  rcases List.mem_cons.mp hp with h | hp
  · rw [h]; exact .head _
  · rcases List.mem_cons.mp hp with h | hp
    · rw [h]; exact .tail _ (.head _)
    · exact .tail _ (.tail _ (hs p hp)))
theorem fresh_two {rD tD : Addr} {oR oT : Obj} {R news : List (Addr × Obj)} (h1 : ∀ p ∈ R, p.1 < rD) (h2 : ∀ p ∈ (rD, oR) :: R, p.1 < tD) (hs : ∀ p ∈ news, p ∈ R) : ∀ q ∈ [(tD, oT), (rD, oR)], ∀ p ∈ news, p.1 ≠ q.1 := by
  intro q hq p hp
  rcases List.mem_cons.mp hq with rfl | hq
  · exact Nat.ne_of_lt (h2 p (.tail _ (hs p hp)))
  · rw [List.mem_singleton.mp hq]; exact Nat.ne_of_lt (h1 p (hs p hp))
theorem backI_rng3 {o : List Int} {K : Nat} (hK : K ≤ 3) : ∀ x ∈ backI o K K, 0 ≤ x ∧ x < 3 := fun x h => by
  have := backI_rng o K K (Nat.le_refl _) x h
  omega

section
local macro_rules | `(tactic| walk_at "pyIter ref") => `(tactic| ((with_reducible show wpAny _ _ (pyIter (Value.ref _)) (fun it s₂ => LoopAtV _ _ _ _ _ _ _ _ _ it s₂) _ _); refine Stop.mk ?_))
local macro_rules | `(tactic| walk_at "InvEndN") => `(tactic| refine Stop.mk ?_)
local macro_rules | `(tactic| walk_at "call type:range") => `(tactic| ((rename Fr _ _ _ _ => F'); (rename News _ _ _ _ => N'); (with_unfolding_all refine range1_rows F' N' ?_); intro _ _ _ _ _ _ _ _ _))
local macro_rules | `(tactic| walk_at "InvEndG") => `(tactic| refine Stop.mk ?_)
local macro_rules | `(tactic| walk_at "binaryOp Add ref ref") => `(tactic| k_extra "binaryOp Add ref ref")
local macro_rules | `(tactic| size_fits) => `(tactic| (simp only [List.size_toArray, sizeLine_eq]; omega))
local macro_rules | `(tactic| k_all) => `(tactic| assumption)
local macro_rules | `(tactic| walk_at "newList") => `(tactic| k_extra "newList")
local macro_rules | `(tactic| walk_at "InvPostG") => `(tactic| dsimp only [InvPostG])
local macro_rules | `(tactic| walk_at "exec For Name Name cons nil") => `(tactic| (k_here; (rename Fr _ _ _ _ => lF'); (with_unfolding_all refine' For_invVF lF' ?k1 ?k2 ?_; (case k1 => exact rfl); (case k2 => exact rfl); k_whole)))
local macro_rules | `(tactic| walk_at "newTuple") => `(tactic| k_extra "newTuple")
local macro_rules | `(tactic| walk_at "binaryOp Mult ref int") => `(tactic| k_extra "binaryOp Mult ref int")
theorem inv_C (ord : List Int) (vs : List Value) (K : Nat) (ob fo : Addr) (k f b : Int) (hk : k = K) (hK : K ≤ 3) (hi : IntsAre vs ord) (hlo : ord.length = K ∧ ∀ x ∈ ord, 0 ≤ x ∧ x < 3) (hox : ∀ x ∈ ord, x < K) (w : World) (news : List (Addr × Obj)) (tk tf tb : Tok) (n n2 : Nat)
    (hb : (ob, ({ cls := .type "tuple", data := .seq vs.toArray n } : Obj)) ∈ news) (hfo : (fo, ({ cls := .type "tuple", data := .seq [Value.ref ob, Value.int f tf, Value.int b tb].toArray n2 } : Obj)) ∈ news) :
    Ctr PySem.Challenge.rw_nn0293_01.row.prog w (hd.heap_39 w.params) 1 84 news [.ref fo, .int k tk] (fun tl r => DatIn tl r (Dat.tuple [tupD (backI ord K K), Dat.int (negI f (backI ord K K) K), Dat.int b])) := by
  subst hk
  w_top off
  k_with_none
  k_fill
  unfold Ctr
  intro p loose mean mg mb dp un gd cn cs a ccd cl outer A₀ base h₀ L m s Q E B F X N T hk hdp hun hret
  k_with "newTuple" => (k_here; k_dflt (refine' kup_newTuple ?F ?N ?_ ?z; (case F => k_asm); (case N => k_asm); (case z => kmk_size)); intro tD h9 F9 N9 tLt)
  k_with "newList" => (k_here; k_dflt (refine' newList_K ?k1 ?k2 ?_; (case k1 => k_asm); (case k2 => k_asm); k_whole); intro xl h9 F9 N9 hxl)
  k_with "binaryOp Mult ref int" => (k_here; (refine KM.mul (by k_asm) (by k_asm) (News.isList (by k_asm) (.head _)) (IntsAre.cons _ _ .nil) (by omega) (by omega) (by simp only [List.length_cons, List.length_nil]; omega) ?_); (intro bl h9 F9 N9 bLt bInts nn9 s91 e91 e92 e93))
  walk_at "mine enter"
  k_steps
  unfold Stop
  (rename Fr _ _ _ _ => lF'); (rename News _ _ _ _ => lN'); (rename IsRange _ _ _ _ _ _ _ _ => rgX)
  have e0 : (List.replicate (K : Int).toNat [(0 : Int)]).flatten = backI ord K 0 := by
    rw [show (K : Int).toNat = K from by omega, krep_flat]; rfl
  rw [e0] at bInts
  clear e91 s91 e92 e93 nn9
  generalize (List.replicate (K : Int).toNat [Value.int 0 _]).flatten = us0 at bInts lN'
  generalize hR0 : (xl, W.listOf #[Value.int 0 _] 0) :: news = R0 at lN' bLt
  have hnR0 : ∀ p ∈ news, p ∈ R0 := fun p hp => by rw [← hR0]; exact .tail _ hp
  have hbx0 : ∀ p ∈ R0, p.1 ≠ bl := fun p hp => Nat.ne_of_lt (bLt p hp)
  with_unfolding_all refine' rgD (σ := List Value × List Int) (n := K) (cst := R0) (fun c => [(bl, listOf c.1.toArray 0)]) (fun c => []) (fun W c => IntsAre c.1 c.2) [] (fun i c => c.2 = backI ord K i) (us0, backI ord K 0) (by rfl) rgX (smK hK) (rsK hK) lF' lN' (fun _ => rfl) (by intro p hp q hq; rw [List.mem_singleton.mp hq]; exact hbx0 p hp) bInts (fun _ h => nomatch h) rfl ?turn ?done
  case turn =>
    rintro ⟨us, bs⟩ W own i t u h tk J hi2 hsub hF hP F1 N1 hsep hWO fin
    (dsimp only [kstB] at F1 hF hP)
    simp only [Int.zero_add] at F1
    clear lF' lN' rgX
    obtain ⟨R, hR⟩ : ∃ R, R = W ++ own := ⟨_, rfl⟩
    rw [← hR] at N1 hsep
    replace N1 : News _ _ _ ((bl, listOf us.toArray 0) :: R) := N1
    have hob : (ob, ({ cls := .type "tuple", data := .seq vs.toArray n } : Obj)) ∈ (bl, listOf us.toArray 0) :: R := by rw [hR]; exact .tail _ (List.mem_append.mpr (.inl (hsub _ (hnR0 _ hb))))
    have hxR : ∀ p ∈ R, p.1 ≠ bl := fun p hp => hsep p hp _ (.head _)
    have hbl : bs.length = K := by rw [hP]; exact backI_len _ _ _
    have hol : ord.length = K := hlo.1
    have hoi : ord.getD ((i : Nat) : Int).toNat 0 < K := by
      have hk9 : ((i : Nat) : Int).toNat < ord.length := by omega
      refine hox _ ?_
      rw [List.getD_eq_getElem?_getD, List.getElem?_eq_getElem hk9]
      exact List.getElem_mem hk9
    have hlo2 := hlo.2
    try k_fold
    k_steps
    unfold Stop
    (rename IntsAre _ (List.set _ _ _) => hIn)
    refine fin (us.set _ _, bs.set _ _) [] _ _ _ _ (by assumption) (by assumption) ?b1 (fun _ h => nomatch h) (fun _ h => nomatch h) hIn (fun _ h => nomatch h) ?b6 ?b7
    case b1 => exact fun p hp => by rw [← hR] at hp; exact hp
    case b6 => kst_same
    case b7 =>
      show bs.set _ _ = backI ord K (i + 1)
      rw [backI, hP]; rfl
  case done =>
    rintro ⟨us, bs⟩ add u h tk hlt hF hP F1 N1 hsep
    (dsimp only [kstB] at F1 hF hP)
    clear lF' lN' rgX
    obtain ⟨R, hR⟩ : ∃ R, R = R0 ++ add := ⟨_, rfl⟩
    rw [← hR] at N1 hsep
    replace N1 : News _ _ _ ((bl, listOf us.toArray 0) :: R) := N1
    have hnR : ∀ p ∈ news, p ∈ (bl, listOf us.toArray 0) :: R := fun p hp => by rw [hR]; exact .tail _ (List.mem_append.mpr (.inl (hnR0 p hp)))
    obtain ⟨R2, hR2⟩ : ∃ R2, R2 = (bl, listOf us.toArray 0) :: R := ⟨_, rfl⟩
    have hblm : (bl, listOf us.toArray 0) ∈ R2 := by rw [hR2]; exact .head _
    rw [← hR2] at N1 hnR
    have hbl : bs.length = K := by rw [hP]; exact backI_len _ _ _
    have hul : us.length = K := by rw [hF.length]; exact hbl
    try k_fold
    k_steps
    unfold Stop
    (rename Fr _ _ _ _ => lF'); (rename News _ _ _ _ => lN'); (rename IsRange _ _ _ _ _ _ _ _ => rgX)
    with_unfolding_all refine' kst_range (σ := Int × Tok) (n := K) (fun _ => R2) (fun c => [(Str.ofString "negated", .int c.1 c.2)]) (fun _ => True) [] (fun pre c => c.1 = negI f bs pre.length) (0, _) (by rfl) rgX (smK hK) (rsK hK) lF' lN' trivial ?kk rfl ?turn ?done
    case kk => kst_all
    case turn =>
      intro c pre j t u h tk own hk1 hlt hoff _ hc F1 N1
      (dsimp only [kstB] at F1)
      clear lF' lN' rgX
      have hk2' : j.toNat = pre.length := by omega
      have hj0 : 0 ≤ j ∧ j < K := by omega
      have hbr : ∀ x ∈ bs, 0 ≤ x ∧ x < K := by rw [hP]; exact backI_rng _ _ _ (Nat.le_refl _)
      have hbj : 0 ≤ bs.getD j.toNat 0 ∧ bs.getD j.toNat 0 < K := by
        have hk9 : j.toNat < bs.length := by omega
        refine hbr _ ?_
        rw [List.getD_eq_getElem?_getD, List.getElem?_eq_getElem hk9]
        exact List.getElem_mem hk9
      have hbit : 0 ≤ f / 2 ^ (bs.getD j.toNat 0).toNat % 2 ∧ f / 2 ^ (bs.getD j.toNat 0).toNat % 2 < 2 := by omega
      try k_fold
      k_steps
      all_goals
        unfold Stop
        refine' kst_end (⟨?_, ?_⟩ : Int × Tok) (by assumption) (by assumption) ?hn ?ho rfl trivial ?hk ?hr ?hp
        case hk => kst_all
        case hn => intro p hp; exact List.mem_append.mpr (.inl hp)
        case ho => intro p hp; exact List.mem_append.mpr (.inr hp)
        case hr => kst_same
        case hp =>
          show Builtin.bitOr c.1 _ = negI f bs (pre ++ [j]).length
          rw [List.length_append, List.length_singleton, negI, ← hc, hk2']
    case done =>
      intro c2 u2 h2 tk2 _ hc2 F2 N2
      (dsimp only [kstB] at F2)
      clear lF' lN' rgX
      rw [rangeKs_length] at hc2
      k_with "call type:tuple" => (k_here; k_dflt (refine' kde_tupleOf ?k1 ?k2 ?k3 ?k4 ?k5 ?_; (case k1 => k_asm); (case k2 => k_asm); (case k3 => exact News.isList (by k_asm) hblm); (case k4 => rw [List.size_toArray]; omega); (case k5 => exact List.toList_toArray); k_whole); intro rD h9 F9 N9 rLt)
      try k_fold
      k_steps
      (rename News h₀ L _ _ => nE)
      refine hret _ _ _ _ (by k_asm) (news_two nE hnR) (fresh_two rLt tLt hnR) ?_
      show DatIn _ _ (Dat.tuple [tupD (backI ord K K), Dat.int (negI f (backI ord K K) K), Dat.int b])
      rw [← hP, ← hc2]
      exact DatIn.tuple (.head _) (.cons (tup_mk (.tail _ (.head _)) hF) (.cons (.int _ _) (.cons (.int _ _) .nil)))
end
end InvT
end Mine
namespace Mine
section CompRT
open PyProof.Rows.LCg
section
variable {prog : Program} {w : World} {A : Around} {E : Value → Shared → Prop} {s : Shared} {h₀ : Heap} {L : Addr} {m : Str → Option Value} {env : Env}

/-- the end of a turn of a for whose own name is a cell -/
def CForEnd (h₀ : Heap) (L c I : Addr) (o oI : Obj) (Nx : (Str → Option Value) → List (Addr × Obj) → Prop) (s : Shared) (f : Flow) (s' : Shared) : Prop :=
  f = .next ∧ ∃ h' tk' m' W', s' = { s with heap := h', toks := tk' } ∧ Fr h₀ L h' m' ∧ News h₀ L h' ((c, o) :: (I, oI) :: W') ∧ (∀ p ∈ W', p.1 ≠ c ∧ p.1 ≠ I) ∧ Nx m' W'

theorem off2 {a b : Addr} {oa ob : Obj} {W : List (Addr × Obj)} {h₀ h : Heap} {L : Addr} (N : News h₀ L h W) (ha : h.get? a = some oa ∧ a ≠ L ∧ h₀.get? a = none) (hb : h.get? b = some ob ∧ b ≠ L ∧ h₀.get? b = none) : News h₀ L h ((a, oa) :: (b, ob) :: W) := by
  intro p hp
  rcases List.mem_cons.mp hp with rfl | hp
  · exact ha
  · rcases List.mem_cons.mp hp with rfl | hp
    · exact hb
    · exact N p hp

theorem for_cellIter {Q : Flow → Shared → Prop} {x : Str} {px : Pos} {body : List Stmt} {r c : Addr} {b : Int} {t u v : Tok} {n : Nat} {m₀ : Str → Option Value} {o₀ : Obj} {v₀ : Option Value} {W₀ : List (Addr × Obj)}
    (Inv : Nat → (Str → Option Value) → List (Addr × Obj) → Prop)
    (hh : A.handled = none) (hk : env.scope.kind = .function) (hx : env.kindOf x = some .cell) (hcl : env.cells.lookup x = some c)
    (hr : IsRange s.heap r 0 b 1 t u v) (hsm : Builtin.Range.small 0 b 1 = true) (hsz : Builtin.Range.rangeSize 0 b 1 = (n : Int))
    (F : Fr h₀ L s.heap m₀) (N : News h₀ L s.heap ((c, o₀) :: W₀)) (hd : o₀.data = .cell v₀) (hc : ∀ p ∈ W₀, p.1 ≠ c) (h0 : Inv 0 m₀ W₀)
    (turn : ∀ i m W o I oI h tk (t : Tok) (E' : Value → Shared → Prop), i < n → Inv i m W → Fr h₀ L h m → News h₀ L h ((c, o) :: (I, oI) :: W) → o.data = .cell (some (.int i t)) → (∀ p ∈ W, p.1 ≠ c ∧ p.1 ≠ I) → c ≠ I →
      wpAny (model prog w) A (execs body env) (CForEnd h₀ L c I o oI (Inv (i + 1)) { s with heap := h, toks := tk }) E' { s with heap := h, toks := tk })
    (done : ∀ m W o h tk, Inv n m W → Fr h₀ L h m → News h₀ L h ((c, o) :: W) → (∀ p ∈ W, p.1 ≠ c) → wpAny (model prog w) A (execs [] env) (fun f s' => Q f s') (notedBy (model prog w) A env fun e s' => cameBackBy (model prog w) A env E e s') { s with heap := h, toks := tk }) :
    wpAny (model prog w) A (pyIter (.ref r)) (fun it s₂ => codeAny (model prog w) A (.forLoop (.Name x px) it body [] env) (fun r s' => match r with | .ok f => Q f s' | .error e => cameBackBy (model prog w) A env E e s') s₂) E s := by
  refine wpAny_pyIter_range hr hsm ?_
  have Wk := range_walks (prog := prog) (w := w) (I := s.heap.objs.size) hh 0 n
  have up : ∀ b o, s.heap.get? b = some o → (s.heap.push { cls := .type "range_iterator", data := .fields #[rawInt 0, rawInt (Builtin.Range.rangeSize 0 b 1), rawInt 1] }).get? b = some o := fun b o e => Heap.get?_push_of_some _ e
  have hcI : c ≠ s.heap.objs.size := Nat.ne_of_lt (Heap.lt_size (N (c, o₀) (.head _)).1)
  have hI0 : h₀.get? s.heap.objs.size = none := next_is_new F
  have hIL : s.heap.objs.size ≠ L := (Nat.ne_of_lt F.ns.lt).symm
  have hcL : c ≠ L := (N (c, o₀) (.head _)).2.1
  have hc0 : h₀.get? c = none := (N (c, o₀) (.head _)).2.2
  refine codeAny_forLoop (fun k s' => ∃ i h' tk m' W' o, s' = { s with heap := h', toks := tk } ∧ i ≤ n ∧ k = n + 1 - i ∧ IsRangeIter h' s.heap.objs.size (0 + (i : Nat) * 1) ((n : Int) - (i : Nat)) 1 ∧ Fr h₀ L h' m' ∧ News h₀ L h' ((c, o) :: W') ∧ (∃ v₀, o.data = .cell v₀) ∧
      (∀ p ∈ W', p.1 ≠ c ∧ p.1 ≠ s.heap.objs.size) ∧ Inv i m' W') ?_ (n + 1)
    ⟨0, _, s.toks, m₀, W₀, o₀, rfl, Nat.zero_le _, rfl, by show IsRangeIter _ _ _ _ _; rw [hsz]; simpa using Heap.get?_push_size _ rfl, F.keeps fun _ _ e => Heap.get?_push_of_some _ e, N.grown fun _ _ e => Heap.get?_push_of_some _ e, ⟨_, hd⟩,
      fun p hp => ⟨hc p hp, Nat.ne_of_lt (Heap.lt_size (N p (.tail _ hp)).1)⟩, h0⟩
  rintro k s' ⟨i, h', tk, m', W', o, rfl, hi, rfl, hst, F', N', ⟨v₁, hd'⟩, off, inv⟩
  have offI : ∀ p ∈ (c, o) :: W', p.1 ≠ s.heap.objs.size := fun p hp => by
    rcases List.mem_cons.mp hp with rfl | hp
    · exact hcI
    · exact (off p hp).2
  by_cases hlt : i < n
  · refine Wk.item i _ _ _ hlt hst fun v h₂ tk₂ hPv hst₂ hk₂ => ?_
    obtain ⟨tv, rfl⟩ := hPv
    have F₂ := fr_but F' hk₂ hIL.symm hI0
    have N₂ := news_but N' hk₂ offI
    refine wpAny_assign_Name (wpAny_storeName_cell hk hx hcl ⟨o, (N₂ (c, o) (.head _)).1, hd'⟩ fun h₃ hcell hs => ?_)
    obtain ⟨oc, hoc, hocd⟩ := hcell
    have F₃ : Fr h₀ L h₃ m' := F₂.change hs hcL hc0
    have heI : h₃.get? s.heap.objs.size = some _ := hs.extBut _ _ hcI.symm hst₂
    have N₃ : News h₀ L h₃ ((c, oc) :: (s.heap.objs.size, _) :: W') := off2 (fun p hp => ⟨hs.extBut _ _ (off p hp).1 (N₂ p (.tail _ hp)).1, (N₂ p (.tail _ hp)).2⟩) ⟨hoc, hcL, hc0⟩ ⟨heI, hIL, hI0⟩
    have hocd' : oc.data = .cell (some (.int (i : Int) tv)) := by rw [hocd]; simp
    refine wpAny_mono (turn i m' W' oc s.heap.objs.size _ h₃ tk₂ tv _ hlt inv F₃ N₃ hocd' off hcI) (fun f s₃ q => ?_) fun _ _ e => e
    obtain ⟨rfl, h₄, tk₄, m₄, W₄, rfl, F₄, N₄, off₄, inv₄⟩ := q
    refine ⟨n + 1 - (i + 1), by omega, i + 1, h₄, tk₄, m₄, W₄, oc, rfl, hlt, rfl, (N₄ (s.heap.objs.size, _) (.tail _ (.head _))).1, F₄, ?_, ⟨_, hocd'⟩, off₄, inv₄⟩
    intro p hp
    rcases List.mem_cons.mp hp with rfl | hp
    · exact N₄ _ (.head _)
    · exact N₄ _ (.tail _ (.tail _ hp))
  · obtain rfl : i = n := Nat.le_antisymm hi (Nat.not_lt.mp hlt)
    refine Wk.done _ _ _ hst fun h₂ tk₂ hk₂ => ?_
    exact done m' W' o h₂ tk₂ inv (fr_but F' hk₂ hIL.symm hI0) (news_but N' hk₂ offI) (fun p hp => (off p hp).1)
end
section
variable {prog : Program} {w : World} {A : Around} {E : Value → Shared → Prop} {R : Result → Shared → Prop} {s : Shared} {h₀ : Heap} {L : Addr} {m : Str → Option Value} {env : Env}

abbrev lc2 (elt : PySem.Expr) (x : Str) (px : Pos) (iter : PySem.Expr) (y : Str) (py : Pos) (iter2 : PySem.Expr) (scope : Scope) (pos : Pos) : PySem.Expr := .ListComp elt [⟨.Name x px, iter, [], 0⟩, ⟨.Name y py, iter2, [], 0⟩] scope pos

theorem turn2_0 (elt : PySem.Expr) (x : Str) (px : Pos) (iter : PySem.Expr) (y : Str) (py : Pos) (iter2 : PySem.Expr) (scope : Scope) (pos : Pos) (it acc : Value) (env : Env) :
    compTurn (lc2 elt x px iter y py iter2 scope pos) 0 it acc env = (do
      standAt iter.pos
      match ← pyNext it with
      | none => pure (.done .next)
      | some v =>
        letOwnedTupleGo (.Name x px) it v
        assign (.Name x px) env v
        let z ← eval iter2 env
        standAt iter2.pos
        let z ← foldedSetIterable iter2 env z
        let _ ← runOwn (.compStart (lc2 elt x px iter y py iter2 scope pos) 1 (← holding [z] (pyIter z)) acc env) env
        again (.compLoop (lc2 elt x px iter y py iter2 scope pos) 0 it acc env)) := by rfl
theorem turn2_1 (elt : PySem.Expr) (x : Str) (px : Pos) (iter : PySem.Expr) (y : Str) (py : Pos) (iter2 : PySem.Expr) (scope : Scope) (pos : Pos) (it acc : Value) (env : Env) :
    compTurn (lc2 elt x px iter y py iter2 scope pos) 1 it acc env = (do
      standAt iter2.pos
      match ← pyNext it with
      | none => pure (.done .next)
      | some v =>
        letOwnedTupleGo (.Name y py) it v
        assign (.Name y py) env v
        (do let _ ← call (.builtin "list.append") [acc, ← eval elt env])
        again (.compLoop (lc2 elt x px iter y py iter2 scope pos) 1 it acc env)) := by rfl

theorem start2 {elt : PySem.Expr} {x : Str} {px : Pos} {iter : PySem.Expr} {y : Str} {py : Pos} {iter2 : PySem.Expr} {scope : Scope} {pos : Pos} {it acc : Value} {env : Env} {d : Nat} (hd : d = 0 ∨ d = 1)
    (h0 : codeAny (model prog w) A (.compLoop (lc2 elt x px iter y py iter2 scope pos) d it acc env) R s)
    (h : wpAny (model prog w) A (pyIter it) (fun it' s' => codeAny (model prog w) A (.compLoop (lc2 elt x px iter y py iter2 scope pos) d it' acc env) R s')
      (notedBy (model prog w) A env fun x s' => R (.error x) s') s) :
    codeAny (model prog w) A (.compStart (lc2 elt x px iter y py iter2 scope pos) d it acc env) R s := by
  refine codeAny_of_tree ?_
  show wpAny _ _ ((compStart (lc2 elt x px iter y py iter2 scope pos) d it acc env).onRaise (fun x => do noteFrame x env; standAt theWindowsPlace)) _ _ s
  refine wpAny_notedAt ?_
  unfold compStart
  rcases hd with rfl | rfl
  all_goals
    show wpAny _ _ (ask >>= _) _ _ s
    refine wpAny_bind (wpAny_askSetting (wpAny_ite ?_))
    split
    · exact wpAny_bind (wpAny_pure (wpAny_pure (And.intro rfl h0)))
    · exact wpAny_bind (wpAny_rule (wpAny_bind (wpAny_standAt (wpAny_bind (wpAny_mono h (fun it' s' h' => wpAny_pure (And.intro rfl h')) fun _ _ x => x)))))

theorem loop2_1 {elt : PySem.Expr} {x : Str} {px : Pos} {iter : PySem.Expr} {y : Str} {py : Pos} {iter2 : PySem.Expr} {scope : Scope} {pos : Pos} {it acc : Value} {env : Env} (I : Nat → Shared → Prop)
    (turn : ∀ n s, I n s → wpAny (model prog w) A (pyNext it) (fun r s₁ => match r with
      | none => R (.ok .next) s₁
      | some v => wpAny (model prog w) A (assign (.Name y py) env v) (fun _ s₂ => wpAny (model prog w) A (eval elt env) (fun z s₃ =>
          wpAny (model prog w) A (call (.builtin "list.append") [acc, z]) (fun _ s₄ => ∃ k, k < n ∧ I k s₄) (notedBy (model prog w) A env fun e s' => R (.error e) s') s₃)
          (notedBy (model prog w) A env fun e s' => R (.error e) s') s₂) (notedBy (model prog w) A env fun e s' => R (.error e) s') s₁) (notedBy (model prog w) A env fun e s' => R (.error e) s') s)
    (n : Nat) (h : I n s) : codeAny (model prog w) A (.compLoop (lc2 elt x px iter y py iter2 scope pos) 1 it acc env) R s := by
  refine codeAny_loop rfl I (fun n s hI => ?_) n h
  show wpAny _ A ((compTurn (lc2 elt x px iter y py iter2 scope pos) 1 it acc env).onRaise (fun x => do noteFrame x env; theTreesLotGoes x)) _ _ s
  refine wpAny_noted ?_
  rw [turn2_1]
  refine wpAny_bind (wpAny_standAt (wpAny_bind (wpAny_mono (turn n s hI) (fun r s₁ h₁ => ?_) fun _ _ h' => h')))
  cases r with
  | none => exact wpAny_pure h₁
  | some v =>
    refine wpAny_bind (wpAny_of_eq (show letOwnedTupleGo (.Name y py) it v = pure () from rfl) ?_)
    exact wpAny_bind (wpAny_mono h₁ (fun _ s₂ h₂ => wpAny_bind (wpAny_bind (wpAny_mono h₂ (fun z s₃ h₃ => wpAny_bind (wpAny_mono h₃
      (fun _ s₄ h₄ => wpAny_pure (wpAny_pure ⟨rfl, h₄⟩)) fun _ _ h' => h')) fun _ _ h' => h'))) fun _ _ h' => h')

theorem loop2_0 {elt : PySem.Expr} {x : Str} {px : Pos} {iter : PySem.Expr} {y : Str} {py : Pos} {iter2 : PySem.Expr} {scope : Scope} {pos : Pos} {it acc : Value} {env : Env} (I : Nat → Shared → Prop)
    (turn : ∀ n s, I n s → wpAny (model prog w) A (pyNext it) (fun r s₁ => match r with
      | none => R (.ok .next) s₁
      | some v => wpAny (model prog w) A (assign (.Name x px) env v) (fun _ s₂ => wpAny (model prog w) A (eval iter2 env) (fun z s₃ =>
          wpAny (model prog w) A (pyIter z) (fun it2 s₄ => codeAny (model prog w) A (.compStart (lc2 elt x px iter y py iter2 scope pos) 1 it2 acc env) (fun r s' => match r with | .ok _ => ∃ k, k < n ∧ I k s' | .error e => cameBackBy (model prog w) A env (notedBy (model prog w) A env fun e s' => R (.error e) s') e s') s₄) (notedBy (model prog w) A env fun e s' => R (.error e) s') s₃)
          (notedBy (model prog w) A env fun e s' => R (.error e) s') s₂) (notedBy (model prog w) A env fun e s' => R (.error e) s') s₁) (notedBy (model prog w) A env fun e s' => R (.error e) s') s)
    (n : Nat) (h : I n s) (hs : ∀ z, foldedSetIterable iter2 env z = pure z := by intro _; rfl) : codeAny (model prog w) A (.compLoop (lc2 elt x px iter y py iter2 scope pos) 0 it acc env) R s := by
  refine codeAny_loop rfl I (fun n s hI => ?_) n h
  show wpAny _ A ((compTurn (lc2 elt x px iter y py iter2 scope pos) 0 it acc env).onRaise (fun x => do noteFrame x env; theTreesLotGoes x)) _ _ s
  refine wpAny_noted ?_
  rw [turn2_0]
  refine wpAny_bind (wpAny_standAt (wpAny_bind (wpAny_mono (turn n s hI) (fun r s₁ h₁ => ?_) fun _ _ h' => h')))
  cases r with
  | none => exact wpAny_pure h₁
  | some v =>
    refine wpAny_bind (wpAny_of_eq (show letOwnedTupleGo (.Name x px) it v = pure () from rfl) ?_)
    refine wpAny_bind (wpAny_mono h₁ (fun _ s₂ h₂ => wpAny_bind (wpAny_mono h₂ (fun z s₃ h₃ => wpAny_bind (wpAny_standAt (wpAny_bind (wpAny_of_eq (hs z) (wpAny_bind (wpAny_holding (wpAny_mono h₃ (fun it2 s₄ h₄ => ?_) fun _ _ h' => h'))))))) fun _ _ h' => h')) fun _ _ h' => h')
    exact wpAny_bind (wpAny_runOwn (codeAny_mono h₄ fun r s' q => by
      cases r with
      | ok f => exact wpAny_pure ⟨rfl, q⟩
      | error e => exact q))

/-- the end of an element of the inner clause -/
def CElEnd (h₀ : Heap) (L : Addr) (m : Str → Option Value) (s₁ : Shared) (I2 : Addr) (o2 : Obj) (C : Addr) (oC : Obj) (D : Addr) (ys : List Value) (Nx : List Value → List (Addr × Obj) → Prop) (y : Value) (s₂ : Shared) : Prop :=
  ∃ h' tk W', s₂ = { s₁ with heap := h', toks := tk } ∧ Fr h₀ L h' m ∧ News h₀ L h' ((I2, o2) :: (C, oC) :: (D, lst ys) :: W') ∧ (∀ p ∈ W', p.1 ≠ I2 ∧ p.1 ≠ C ∧ p.1 ≠ D) ∧ Nx (ys ++ [y]) W'

theorem inner2 {elt : PySem.Expr} {x : Str} {px : Pos} {iter : PySem.Expr} {y : Str} {py : Pos} {iter2 : PySem.Expr} {scope : Scope} {pos : Pos} {cenv : Env} {I2 C D : Addr} {n : Nat} {o2 oC : Obj} {ys : List Value} {W : List (Addr × Obj)} {m₂ : Str → Option Value}
    (Inv : Nat → List Value → List (Addr × Obj) → Prop) (hh : A.handled = none) (hC : cenv.locals = C) (hy : cenv.kindOf y = some .local) (hp : (cenv.scope.kind == .class || (cenv.scope.kind == .module && cenv.locals != cenv.globals)) = false)
    (F : Fr h₀ L s.heap m) (N : News h₀ L s.heap ((I2, o2) :: (C, oC) :: (D, lst ys) :: W)) (hst : IsRangeIter s.heap I2 0 (n : Int) 1) (hne : I2 ≠ C ∧ I2 ≠ D ∧ C ≠ D) (off : ∀ p ∈ W, p.1 ≠ I2 ∧ p.1 ≠ C ∧ p.1 ≠ D)
    (hoC : NsObj oC m₂) (h0 : Inv 0 ys W) (hsz : ∀ j ys W, Inv j ys W → ys.length ≤ sizeLine)
    (turn : ∀ j ys W o2 oC m₃ h tk (t : Tok) (E' : Value → Shared → Prop), j < n → Inv j ys W → NsObj oC m₃ → (∀ z, z ≠ y → m₃ z = m₂ z) → m₃ y = some (.int j t) → Fr h₀ L h m → News h₀ L h ((I2, o2) :: (C, oC) :: (D, lst ys) :: W) → (∀ p ∈ W, p.1 ≠ I2 ∧ p.1 ≠ C ∧ p.1 ≠ D) →
      wpAny (model prog w) A (eval elt cenv) (CElEnd h₀ L m { s with heap := h, toks := tk } I2 o2 C oC D ys (Inv (j + 1))) E' { s with heap := h, toks := tk })
    (done : ∀ ys W oC m₃ h tk, Inv n ys W → NsObj oC m₃ → Fr h₀ L h m → News h₀ L h ((C, oC) :: (D, lst ys) :: W) → (∀ p ∈ W, p.1 ≠ C ∧ p.1 ≠ D) → R (.ok .next) { s with heap := h, toks := tk }) :
    codeAny (model prog w) A (.compLoop (lc2 elt x px iter y py iter2 scope pos) 1 (.ref I2) (.ref D) cenv) R s := by
  have Wk := range_walks (prog := prog) (w := w) (I := I2) hh 0 n
  have q2 := N (I2, o2) (.head _)
  have qC := N (C, oC) (.tail _ (.head _))
  have qD := N (D, lst ys) (.tail _ (.tail _ (.head _)))
  refine loop2_1 (fun k s' => ∃ j h' tk ys W oC m₃, s' = { s with heap := h', toks := tk } ∧ j ≤ n ∧ k = n + 1 - j ∧ IsRangeIter h' I2 (0 + (j : Nat) * 1) ((n : Int) - (j : Nat)) 1 ∧ Fr h₀ L h' m ∧ News h₀ L h' ((C, oC) :: (D, lst ys) :: W) ∧ NsObj oC m₃ ∧ (∀ z, z ≠ y → m₃ z = m₂ z) ∧
      (∀ p ∈ W, p.1 ≠ I2 ∧ p.1 ≠ C ∧ p.1 ≠ D) ∧ Inv j ys W) ?_ (n + 1)
    ⟨0, s.heap, s.toks, ys, W, oC, m₂, rfl, Nat.zero_le _, rfl, by simpa using hst, F, fun p hp => N p (.tail _ hp), hoC, fun _ _ => rfl, off, h0⟩
  rintro k s' ⟨j, h', tk, ys, W, oC, m₃, rfl, hj, rfl, hst', F', N', hoC', hm, off', inv⟩
  have off2' : ∀ p ∈ (C, oC) :: (D, lst ys) :: W, p.1 ≠ I2 := fun p hp => by
    rcases List.mem_cons.mp hp with rfl | hp
    · exact hne.1.symm
    · rcases List.mem_cons.mp hp with rfl | hp
      · exact hne.2.1.symm
      · exact (off' p hp).1
  by_cases hlt : j < n
  · refine Wk.item j _ _ _ hlt hst' fun v h₂ tk₂ hPv hst₂ hk₂ => ?_
    obtain ⟨tv, rfl⟩ := hPv
    have F₂ := fr_but F' hk₂ q2.2.1.symm q2.2.2
    have N₂ := news_but N' hk₂ off2'
    have hn₂ : h₂.Ns cenv.locals m₃ := by rw [hC]; exact hoC'.ns (N₂ (C, oC) (.head _)).1
    refine wpAny_assign_Name (wpAny_storeName_local hy hn₂ (fun h₃ hn₃ hs => ?_) hp)
    rw [hC] at hn₃ hs
    obtain ⟨oC', heC, hoC3⟩ := ns_obj hn₃
    have F₃ : Fr h₀ L h₃ m := F₂.change hs qC.2.1 qC.2.2
    have he2 : h₃.get? I2 = some _ := hs.extBut _ _ hne.1 hst₂
    have N₃ : News h₀ L h₃ ((I2, _) :: (C, oC') :: (D, lst ys) :: W) := off2 (fun p hp => ⟨hs.extBut _ _ (by
      rcases List.mem_cons.mp hp with rfl | hp
      · exact hne.2.2.symm
      · exact (off' p hp).2.1) (N₂ p (.tail _ hp)).1, (N₂ p (.tail _ hp)).2⟩) ⟨he2, q2.2⟩ ⟨heC, qC.2⟩
    refine wpAny_mono (turn j ys W _ oC' _ h₃ _ tv _ hlt inv hoC3 (fun z hz => by simp [hz, hm z hz]) (by simp) F₃ N₃ off') (fun z s₃ q => ?_) fun _ _ e => e
    obtain ⟨h₄, tk₄, W₄, rfl, F₄, N₄, off₄, inv₄⟩ := q
    have zD := N₄ (D, lst ys) (.tail _ (.tail _ (.head _)))
    refine append_at (hsz := by show ys.toArray.size ≤ sizeLine; rw [List.size_toArray]; exact hsz _ _ _ inv) zD.1 fun h₅ hs₅ hD₅ => ?_
    refine ⟨n + 1 - (j + 1), by omega, j + 1, h₅, tk₄, ys ++ [z], W₄, oC', _, rfl, hlt, rfl, hs₅.extBut _ _ hne.2.1 (N₄ (I2, _) (.head _)).1, F₄.change hs₅ qD.2.1 qD.2.2, ?_, hoC3, fun z hz => by simp [hz, hm z hz], off₄, inv₄⟩
    refine off2 (fun p hp => ⟨hs₅.extBut _ _ (off₄ p hp).2.2 (N₄ p (.tail _ (.tail _ (.tail _ hp)))).1, (N₄ p (.tail _ (.tail _ (.tail _ hp)))).2⟩) ⟨hs₅.extBut _ _ hne.2.2 (N₄ (C, oC') (.tail _ (.head _))).1, qC.2⟩ ⟨hD₅.trans (congrArg some (lst_snoc ys z)), qD.2⟩
  · obtain rfl : j = n := Nat.le_antisymm hj (Nat.not_lt.mp hlt)
    refine Wk.done _ _ _ hst' fun h₂ tk₂ hk₂ => ?_
    exact done ys W oC m₃ h₂ tk₂ inv hoC' (fr_but F' hk₂ q2.2.1.symm q2.2.2) (news_but N' hk₂ off2') (fun p hp => (off' p hp).2)

theorem assign2 {elt : PySem.Expr} {x : Str} {px : Pos} {iter : PySem.Expr} {y : Str} {py : Pos} {iter2 : PySem.Expr} {scope : Scope} {pos : Pos} {z : Str} {pz spos : Pos} {cl : List (Str × Addr)} {Q : Flow → Shared → Prop} {ax : Addr} {its : Array Value} {kk : Nat} {W₀ : List (Addr × Obj)}
    (Inv : Nat → Nat → List Value → List (Addr × Obj) → Prop) (cnt : Nat → Nat) (hh : A.handled = none) (hLe : env.locals = L) (F : Fr h₀ L s.heap m) (N : News h₀ L s.heap W₀)
    (hsw : swapsWith (lc2 elt x px iter y py iter2 scope pos) (some (.Name z pz)) spos.line env = pure true)
    (hclos : closureFor scope env = pure cl) (hcell : ∀ q ∈ scope.names, q.2 ≠ .cell) (hkind : scope.kind = .function)
    (hnames : ∀ q ∈ scope.names, q.2 = .local → scope.names.lookup q.1 = some .local) (hx : scope.names.lookup x = some .local) (hy : scope.names.lookup y = some .local) (hxy : x ≠ y)
    (hz : env.kindOf z = some .local) (hp : (env.scope.kind == .class || (env.scope.kind == .module && env.locals != env.globals)) = false)
    (h : wpAny (model prog w) A (eval iter env) (fun xv s₁ => xv = .ref ax ∧ s₁ = s) E s)
    (hax : ∀ i j ys W, Inv i j ys W → (ax, listOf its kk) ∈ W) (h00 : Inv 0 0 [] W₀) (hlen : ∀ i j ys W, Inv i j ys W → ys.length ≤ sizeLine)
    (hnext : ∀ i ys W, i < its.size → Inv i (cnt i) ys W → Inv (i + 1) 0 ys W)
    (hiter : ∀ i v ys W I oI C oC D m₂ h tk (E' : Value → Shared → Prop), i < its.size → its[i]? = some v → Inv i 0 ys W → NsObj oC m₂ → m₂ x = some v → Fr h₀ L h m → News h₀ L h ((C, oC) :: (I, oI) :: (D, lst ys) :: W) → C ≠ I ∧ C ≠ D ∧ I ≠ D → (∀ p ∈ W, p.1 ≠ C ∧ p.1 ≠ I ∧ p.1 ≠ D) →
      wpAny (model prog w) A (eval iter2 (compEnvC scope cl C env)) (fun xv s₃ => ∃ r b t u v h' tk', xv = .ref r ∧ s₃ = { s with heap := h', toks := tk' } ∧ Fr h₀ L h' m ∧ News h₀ L h' ((C, oC) :: (I, oI) :: (D, lst ys) :: W) ∧ IsRange h' r 0 b 1 t u v ∧ Builtin.Range.small 0 b 1 = true ∧ Builtin.Range.rangeSize 0 b 1 = (cnt i : Int)) E' { s with heap := h, toks := tk })
    (helt : ∀ i j v ys W I oI I2 o2 C oC D m₃ h tk (t : Tok) (E' : Value → Shared → Prop), i < its.size → its[i]? = some v → j < cnt i → Inv i j ys W → NsObj oC m₃ → m₃ x = some v → m₃ y = some (.int j t) → Fr h₀ L h m → News h₀ L h ((I2, o2) :: (C, oC) :: (D, lst ys) :: (I, oI) :: W) →
      I2 ≠ C ∧ I2 ≠ D ∧ C ≠ D → I ≠ I2 ∧ I ≠ C ∧ I ≠ D → (∀ p ∈ W, p.1 ≠ I2 ∧ p.1 ≠ C ∧ p.1 ≠ D ∧ p.1 ≠ I) →
      wpAny (model prog w) A (eval elt (compEnvC scope cl C env)) (CElEnd h₀ L m { s with heap := h, toks := tk } I2 o2 C oC D ys (fun ys Wi => ∃ W, Wi = (I, oI) :: W ∧ (∀ p ∈ W, p.1 ≠ I) ∧ Inv i (j + 1) ys W)) E' { s with heap := h, toks := tk })
    (done : ∀ D ys W h tk, Inv its.size 0 ys W → Fr h₀ L h (fun q => if q = z then some (.ref D) else m q) → News h₀ L h ((D, lst ys) :: W) → (∀ p ∈ W, p.1 ≠ D) → Q .next { s with heap := h, toks := tk })
    (hs : ∀ x, foldedSetIterable iter env x = pure x := by intro _; rfl) (hs2 : ∀ C q, foldedSetIterable iter2 (compEnvC scope cl C env) q = pure q := by intro _ _; rfl) :
    wpAny (model prog w) A (exec (.Assign [.Name z pz] (lc2 elt x px iter y py iter2 scope pos) spos) env) Q E s := by
  subst hLe
  rw [exec_Assign_Name_used _ _ _ _ hsw]
  refine wpAny_bind (wpAny_standAt (wpAny_bind ?_))
  show wpAny _ A (do let _ ← comprehension (lc2 elt x px iter y py iter2 scope pos) scope env _ (newList []) false (eval iter env) (some (assign (.Name z pz) env))) _ _ s
  refine wpAny_bind (wpAny_mono (wpAny_comprehension_free (use := some (assign (.Name z pz) env)) (Q := fun _ s' => Q .next s') rfl hs hclos hkind hnames
    (wpAny_mono h (fun xv s₁ h₁ => ?_) fun _ _ e => e)) (fun _ s' hq => wpAny_pure (wpAny_pure hq)) fun _ _ e => e)
  obtain ⟨rfl, rfl⟩ := h₁
  have hl : s₁.heap.IsList ax its := News.isList N (hax _ _ _ _ h00)
  refine wpAny_pyIter_list hl ?_
  have axlt : ax < s₁.heap.objs.size := by obtain ⟨_, e, _⟩ := hl; exact Heap.lt_size e
  generalize hI : s₁.heap.objs.size = I at axlt ⊢
  have hgI : s₁.heap.get? I = none := by
    cases e : s₁.heap.get? I with
    | none => rfl
    | some o => exact absurd (Heap.lt_size e) (by rw [hI]; exact Nat.lt_irrefl _)
  generalize hH1 : s₁.heap.push { cls := .type "list_iterator", data := .fields #[.ref ax, .int 0 0] } = H1
  have e1 : H1.objs.size = I + 1 := by rw [← hH1, Heap.size_push, hI]
  have up1 : ∀ b o, s₁.heap.get? b = some o → H1.get? b = some o := fun b o e => hH1 ▸ Heap.get?_push_of_some _ e
  have hgI1 : H1.get? I = some { cls := .type "list_iterator", data := .fields #[.ref ax, .int 0 0] } := by rw [← hH1, ← hI]; exact Heap.get?_push_size _ rfl
  refine wpAny_newObj_type (wpAny_newFunctionEnv hcell (by intro q hq; simp at hq) (fun h₁ hns₁ hsb₁ => ?_) hkind)
  dsimp only at hns₁ hsb₁ ⊢
  generalize hD : H1.objs.size = D at hns₁ hsb₁ ⊢
  generalize hH2 : H1.push { cls := .type "list", dict := none, data := .seq ([] : List Value).toArray } = H2 at hns₁ hsb₁ ⊢
  have e2 : H2.objs.size = D + 1 := by rw [← hH2, Heap.size_push, hD]
  have up2 : ∀ b o, H1.get? b = some o → H2.get? b = some o := fun b o e => hH2 ▸ Heap.get?_push_of_some _ e
  have hgD2 : H2.get? D = some (lst []) := by rw [← hH2, ← hD]; exact Heap.get?_push_size _ rfl
  generalize hC : H2.objs.size = C at hns₁ hsb₁ ⊢
  have up3 : ∀ b o, H2.get? b = some o → h₁.get? b = some o := fun b o e => hsb₁.extBut b o (by rintro rfl; exact absurd (Heap.lt_size e) (by rw [hC]; exact Nat.lt_irrefl _)) (Heap.get?_push_of_some _ e)
  have ID : I ≠ D := by rw [← hD, e1]; exact (Nat.ne_of_lt (Nat.lt_succ_self _))
  have DC : D ≠ C := by rw [← hC, e2]; exact (Nat.ne_of_lt (Nat.lt_succ_self _))
  have IC : I ≠ C := by rw [← hC, e2, ← hD, e1]; exact Nat.ne_of_lt (Nat.lt_succ_of_lt (Nat.lt_succ_self _))
  have lI : ∀ b, b < I → b ≠ I ∧ b ≠ D ∧ b ≠ C := fun b hb => by
    refine ⟨Nat.ne_of_lt hb, ?_, ?_⟩
    · rw [← hD, e1]; exact Nat.ne_of_lt (Nat.lt_succ_of_lt hb)
    · rw [← hC, e2, ← hD, e1]; exact Nat.ne_of_lt (Nat.lt_succ_of_lt (Nat.lt_succ_of_lt hb))
  have I0 : h₀.get? I = none := by rw [← hI]; exact next_is_new F
  have up : ∀ b o, s₁.heap.get? b = some o → h₁.get? b = some o := fun b o e => up3 b o (up2 b o (up1 b o e))
  have above0 : ∀ b, I ≤ b → h₀.get? b = none := fun b hb => Heap.get?_none_of_le (Nat.le_trans (Nat.le_of_lt (Nat.lt_of_le_of_lt F.above F.ns.lt)) (hI ▸ hb))
  have LI : env.locals < I := hI ▸ F.ns.lt
  have L3 := lI _ LI
  have D0 : h₀.get? D = none := above0 _ (by rw [← hD, e1]; exact Nat.le_succ _)
  have C0 : h₀.get? C = none := above0 _ (by rw [← hC, e2, ← hD, e1]; exact Nat.le_succ_of_le (Nat.le_succ _))
  have offW : ∀ p ∈ W₀, p.1 ≠ I ∧ p.1 ≠ D ∧ p.1 ≠ C := fun p hp => lI _ (hI ▸ Heap.lt_size (N p hp).1)
  obtain ⟨oC₀, heC₀, hoC₀⟩ := ns_obj hns₁
  have hes : ∀ v, wpAny (model prog w) A (assign (.Name z pz) env v) (fun _ _ => True) (fun _ _ => True) s₁ := fun v => wpAny_assign_Name (wpAny_storeName_local hz F.ns (fun _ _ _ => trivial) hp)
  have loop : ∀ s₃ : Shared, s₃ = { s₁ with heap := h₁, toks := s₁.toks + ([] : List (Str × Value)).length } →
      codeAny (model prog w) A (.compLoop (lc2 elt x px iter y py iter2 scope pos) 0 (.ref I) (.ref D) (compEnvC scope cl C env))
        (compPost (model prog w) A E (some (assign (.Name z pz) env)) (fun _ s' => Q .next s') (.ref D) C) s₃ := by
    rintro s₃ rfl
    have Wk := Walks.list (prog := prog) (w := w) hh I ax (Nat.ne_of_lt axlt) its
    refine loop2_0 (hs := hs2 C) (fun k s' => ∃ i h' tk ys W oC m₂, s' = { s₁ with heap := h', toks := tk } ∧ i ≤ its.size ∧ k = its.size + 1 - i ∧ (h'.IsListIter I ax i ∧ h'.IsList ax its) ∧ Fr h₀ env.locals h' m ∧ News h₀ env.locals h' ((C, oC) :: (D, lst ys) :: W) ∧ NsObj oC m₂ ∧
      (∀ p ∈ W, p.1 ≠ I ∧ p.1 ≠ D ∧ p.1 ≠ C) ∧ Inv i 0 ys W) ?_ (its.size + 1)
      ⟨0, h₁, _, [], W₀, oC₀, _, rfl, Nat.zero_le _, rfl, ⟨⟨_, up3 _ _ (up2 _ _ hgI1), rfl, rfl⟩, ?_⟩, F.keeps up, off2 (N.grown up) ⟨heC₀, L3.2.2.symm, C0⟩ ⟨up3 _ _ hgD2, L3.2.1.symm, D0⟩, hoC₀, offW, h00⟩
    · rintro k s' ⟨i, h', tk, ys, W, oC, m₂, rfl, hi, rfl, hst, F', N', hoC, off, inv⟩
      have offI : ∀ p ∈ (C, oC) :: (D, lst ys) :: W, p.1 ≠ I := fun p hp => by
        rcases List.mem_cons.mp hp with rfl | hp
        · exact IC.symm
        · rcases List.mem_cons.mp hp with rfl | hp
          · exact ID.symm
          · exact (off p hp).1
      by_cases hlt : i < its.size
      · refine Wk.item i _ _ _ hlt hst fun v h₂ tk₂ hPv hst₂ hk₂ => ?_
        have F₂ := fr_but F' hk₂ L3.1 I0
        have N₂ := news_but N' hk₂ offI
        have hn₂ : h₂.Ns (compEnvC scope cl C env).locals m₂ := hoC.ns (N₂ (C, oC) (.head _)).1
        refine wpAny_assign_Name (wpAny_storeName_local (lookup_relabel_local hx) hn₂ (fun h₃ hn₃ hs₃ => ?_) (by simp [compEnvC, relabel, hkind]))
        have hs₃ : Heap.SameBut C h₂ h₃ := hs₃
        have hn₃ : h₃.Ns C (fun q => if q = x then some v else m₂ q) := hn₃
        obtain ⟨oC', heC, hoC3⟩ := ns_obj hn₃
        have F₃ : Fr h₀ env.locals h₃ m := F₂.change hs₃ L3.2.2.symm C0
        obtain ⟨⟨oI, heI₂, hoI⟩, hl₂⟩ := hst₂
        have heI : h₃.get? I = some oI := hs₃.extBut _ _ IC heI₂
        have N₃ : News h₀ env.locals h₃ ((C, oC') :: (I, oI) :: (D, lst ys) :: W) := off2 (fun p hp => ⟨hs₃.extBut _ _ (by
          rcases List.mem_cons.mp hp with rfl | hp
          · exact DC
          · exact (off p hp).2.2) (N₂ p (.tail _ hp)).1, (N₂ p (.tail _ hp)).2⟩) ⟨heC, L3.2.2.symm, C0⟩ ⟨heI, L3.1.symm, I0⟩
        refine wpAny_mono (hiter i v ys W I oI C oC' D _ h₃ _ _ hlt hPv inv hoC3 (by simp) F₃ N₃ ⟨IC.symm, DC.symm, ID⟩ (fun p hp => ⟨(off p hp).2.2, (off p hp).1, (off p hp).2.1⟩)) (fun xv s₃ q => ?_) fun _ _ e => e
        obtain ⟨r, b, t, u, v', h₄, tk₄, rfl, rfl, F₄, N₄, hr, hsm, hsz⟩ := q
        refine wpAny_pyIter_range hr hsm ?_
        generalize hI2 : h₄.objs.size = I2
        generalize hH5 : h₄.push { cls := .type "range_iterator", data := .fields #[rawInt 0, rawInt (Builtin.Range.rangeSize 0 b 1), rawInt 1] } = h₅
        have up5 : ∀ b o, h₄.get? b = some o → h₅.get? b = some o := fun b o e => hH5 ▸ Heap.get?_push_of_some _ e
        have he2 : IsRangeIter h₅ I2 0 (cnt i : Int) 1 := by rw [← hH5, ← hI2, ← hsz]; exact Heap.get?_push_size _ rfl
        have ltI2 : ∀ p ∈ (C, oC') :: (I, oI) :: (D, lst ys) :: W, p.1 ≠ I2 := fun p hp => Nat.ne_of_lt (hI2 ▸ Heap.lt_size (N₄ p hp).1)
        have I20 : h₀.get? I2 = none := by rw [← hI2]; exact next_is_new F₄
        have LI2 : I2 ≠ env.locals := (Nat.ne_of_lt (hI2 ▸ F₄.ns.lt)).symm
        have F₅ : Fr h₀ env.locals h₅ m := F₄.keeps up5
        have N₅ := N₄.grown up5
        have inner : ∀ s₆ : Shared, s₆ = { s₁ with heap := h₅, toks := tk₄ } → codeAny (model prog w) A (.compLoop (lc2 elt x px iter y py iter2 scope pos) 1 (.ref I2) (.ref D) (compEnvC scope cl C env)) (fun r s' => match r with | .ok _ => ∃ k, k < its.size + 1 - i ∧ (∃ i h' tk ys W oC m₂, s' = { s₁ with heap := h', toks := tk } ∧ i ≤ its.size ∧ k = its.size + 1 - i ∧ (h'.IsListIter I ax i ∧ h'.IsList ax its) ∧ Fr h₀ env.locals h' m ∧ News h₀ env.locals h' ((C, oC) :: (D, lst ys) :: W) ∧ NsObj oC m₂ ∧ (∀ p ∈ W, p.1 ≠ I ∧ p.1 ≠ D ∧ p.1 ≠ C) ∧ Inv i 0 ys W) | .error e => cameBackBy (model prog w) A (compEnvC scope cl C env) (notedBy (model prog w) A (compEnvC scope cl C env) fun e s' => compPost (model prog w) A E (some (assign (.Name z pz) env)) (fun _ s' => Q .next s') (.ref D) C (.error e) s') e s') s₆ := by
          rintro s₆ rfl
          refine inner2 (o2 := { cls := .type "range_iterator", dict := none, data := .fields #[rawInt 0, rawInt (cnt i : Int), rawInt 1], slots := #[] }) (oC := oC') (W := (I, oI) :: W) (fun j ys Wi => ∃ W, Wi = (I, oI) :: W ∧ (∀ p ∈ W, p.1 ≠ I) ∧ Inv i j ys W) hh rfl (lookup_relabel_local hy) (by simp [compEnvC, relabel, hkind]) F₅ ?_ he2 ⟨(ltI2 (C, oC') (.head _)).symm, (ltI2 (D, lst ys) (.tail _ (.tail _ (.head _)))).symm, DC.symm⟩ ?_ hoC3 ⟨W, rfl, fun p hp => (off p hp).1, inv⟩ ?_ ?_ ?_
          · refine off2 ?_ ⟨he2, LI2, I20⟩ (N₅ _ (.head _))
            intro p hp
            rcases List.mem_cons.mp hp with rfl | hp
            · exact N₅ _ (.tail _ (.tail _ (.head _)))
            · rcases List.mem_cons.mp hp with rfl | hp
              · exact N₅ _ (.tail _ (.head _))
              · exact N₅ _ (.tail _ (.tail _ (.tail _ hp)))
          · intro p hp
            rcases List.mem_cons.mp hp with rfl | hp
            · exact ⟨ltI2 _ (.tail _ (.head _)), IC, ID⟩
            · exact ⟨ltI2 _ (.tail _ (.tail _ (.tail _ hp))), (off p hp).2.2, (off p hp).2.1⟩
          · rintro j ys Wi ⟨W, rfl, _, inv⟩
            exact hlen _ _ _ _ inv
          · rintro j ys Wi o2 oC m₃ h tk t E' hj ⟨W, rfl, hWI, inv⟩ hoC hm3 hm3y F N off'
            refine helt i j v ys W I oI I2 o2 C oC D m₃ h tk t E' hlt hPv hj inv hoC (by rw [hm3 x hxy]; simp) hm3y F N ⟨(ltI2 (C, oC') (.head _)).symm, (ltI2 (D, lst _) (.tail _ (.tail _ (.head _)))).symm, DC.symm⟩ ⟨ltI2 _ (.tail _ (.head _)), IC, ID⟩ (fun p hp => ⟨(off' p (.tail _ hp)).1, (off' p (.tail _ hp)).2.1, (off' p (.tail _ hp)).2.2, hWI p hp⟩)
          · rintro ys Wi oC m₃ h tk ⟨W, rfl, hWI, inv⟩ hoC F N off'
            have inv2 := hnext i ys W hlt inv
            refine ⟨its.size + 1 - (i + 1), by omega, i + 1, h, tk, ys, W, oC, m₃, rfl, hlt, rfl, ⟨⟨oI, (N _ (.tail _ (.tail _ (.head _)))).1, hoI⟩, News.isList N (.tail _ (.tail _ (.tail _ (hax _ _ _ _ inv2))))⟩, F, ?_, hoC, fun p hp => ⟨hWI p hp, (off' p (.tail _ hp)).2, (off' p (.tail _ hp)).1⟩, inv2⟩
            intro p hp
            rcases List.mem_cons.mp hp with rfl | hp
            · exact N _ (.head _)
            · rcases List.mem_cons.mp hp with rfl | hp
              · exact N _ (.tail _ (.head _))
              · exact N _ (.tail _ (.tail _ (.tail _ hp)))
        exact start2 (.inr rfl) (inner _ rfl) ((range_walks (prog := prog) (w := w) (I := I2) hh 0 (cnt i)).self 0 _ _ _ (by simpa using he2) (inner _ rfl))
      · obtain rfl : i = its.size := Nat.le_antisymm hi (Nat.not_lt.mp hlt)
        refine Wk.done _ _ _ hst fun h₂ tk₂ hk₂ => ?_
        have F₂ := fr_but F' hk₂ L3.1 I0
        have N₂ := news_but N' hk₂ offI
        show wpAny _ A (assign (.Name z pz) env (.ref D)) _ _ _
        refine wpAny_assign_Name (wpAny_storeName_local hz F₂.ns (fun h₃ hn₃ hs₃ => ?_) hp)
        have hL₀ : h₀.get? env.locals = none := Heap.get?_none_of_le F₂.above
        have F₃ : Fr h₀ env.locals h₃ (fun q => if q = z then some (.ref D) else m q) := ⟨hn₃, fun b o e => hs₃.extBut b o (fun q => by rw [q, hL₀] at e; cases e) (F₂.keep b o e), F₂.above⟩
        have N₃ : News h₀ env.locals h₃ ((C, oC) :: (D, lst ys) :: W) := fun p hp => ⟨hs₃.extBut _ _ (N₂ p hp).2.1 (N₂ p hp).1, (N₂ p hp).2⟩
        refine ⟨_, hoC.ns (N₃ (C, oC) (.head _)).1, fun h₄ hs₄ => done D ys W h₄ _ inv (F₃.change hs₄ L3.2.2.symm C0) (fun p hp => ⟨hs₄.extBut _ _ ?_ (N₃ p (.tail _ hp)).1, (N₃ p (.tail _ hp)).2⟩) (fun p hp => (off p hp).2.1)⟩
        rcases List.mem_cons.mp hp with rfl | hp
        · exact DC
        · exact (off p hp).2.2
    · exact News.isList (N.grown up) (hax _ _ _ _ h00)
  exact start2 (.inl rfl) (loop _ rfl) ((Walks.list (prog := prog) (w := w) hh I ax (Nat.ne_of_lt axlt) its).self 0 _ _ _ ⟨⟨_, up3 _ _ (up2 _ _ hgI1), rfl, rfl⟩, News.isList (N.grown up) (hax _ _ _ _ h00)⟩ (loop _ rfl))

theorem rest_inv {elt : PySem.Expr} {x : Str} {scope : Scope} {cl : List (Str × Addr)} {S : List (Addr × Obj) → Prop} {P : Nat → Value → Prop} {Fin : List Value → List (Addr × Obj) → Prop} {n : Nat} (Inv : Nat → List Value → List (Addr × Obj) → Prop)
    (turn : ∀ i ys news v I oI C oC D m₂ h tk (E' : Value → Shared → Prop), i < n → Inv i ys news → P i v → NsObj oC m₂ → m₂ x = some v → Fr h₀ L h m → News h₀ L h ((I, oI) :: (C, oC) :: (D, lst ys) :: news) → (∀ p ∈ news, p.1 ≠ I ∧ p.1 ≠ C ∧ p.1 ≠ D) → (I ≠ C ∧ I ≠ D ∧ C ≠ D) →
      wpAny (model prog w) A (eval elt (compEnvC scope cl C env)) (CompEnd h₀ L m { s with heap := h, toks := tk } I oI C oC D (lst ys) S (fun y news' => Inv (i + 1) (ys ++ [y]) news')) E' { s with heap := h, toks := tk })
    (fin : ∀ ys news, Inv n ys news → Fin ys news) :
    ∀ k i ys news, i + k = n → Inv i ys news → CompRest prog w A h₀ L m env elt x scope cl s S P Fin k i ys news
  | 0, i, ys, news, hk, hI => by
    have e : i = n := by omega
    subst e
    exact CompRest.zero (fin ys news hI)
  | k + 1, i, ys, news, hk, hI => CompRest.succ fun v I oI C oC D m₂ h tk E' hP hoC hx F N off ne => by
    refine wpAny_mono (turn i ys news v I oI C oC D m₂ h tk E' (by omega) hI hP hoC hx F N off.mem ne) (fun y s₂ q => ?_) fun _ _ e => e
    obtain ⟨h', tk', news', e, F', N', off', hS, inv⟩ := q
    exact ⟨h', tk', news', e, F', N', off', hS, rest_inv Inv turn fin k (i + 1) _ _ (by omega) inv⟩
end
end CompRT
end Mine
namespace Mine
section LOrdT
open PyProof.Rows.LCg
local macro_rules | `(tactic| walk_at "execs cons") => `(tactic| ((with_reducible show wpAny _ _ (execs _ _) _ _ ⟨_, _, _, _ + 1, _⟩); refine gentok ?_; intro tk))
local macro_rules | `(tactic| walk_at "execs nil") => `(tactic| ((with_reducible show wpAny _ _ (execs _ _) _ _ ⟨_, _, _, _ + 1, _⟩); refine gentok ?_; intro tk))
local macro_rules | `(tactic| k_mem) => `(tactic| assumption)
local macro_rules | `(tactic| walk_at "binaryOp Pow int int") => `(tactic| ((with_reducible show wpAny _ _ (binaryOp _ (Value.int 2 _) (Value.int _ _)) _ _ _); refine r_pow2 (by omega) (by omega) ?_))
local macro_rules | `(tactic| walk_at "binaryOp Mult int int") => `(tactic| (refine r_mul ?a ?b ?_; (case a => omega); (case b => omega)))
local macro_rules | `(tactic| walk_at "binaryOp FloorDiv int int") => `(tactic| first | (refine r_divp ?a ?_; (case a => omega)) | (refine r_div ?a ?b ?_; (case a => omega); (case b => omega)))
local macro_rules | `(tactic| walk_at "binaryOp Mod int int") => `(tactic| (refine r_mod ?a ?_; (case a => first | exact pow_pos2 _ | omega)))
local macro_rules | `(tactic| walk_at "binaryOp RShift int int") => `(tactic| (refine r_shr ?a ?_; (case a => omega)))
local macro_rules | `(tactic| walk_at "binaryOp LShift int int") => `(tactic| (refine r_shl ?a ?b ?c ?d ?_; (case a => omega); (case b => omega); (case c => omega); (case d => omega)))
local macro_rules | `(tactic| walk_at "binaryOp BitAnd int int") => `(tactic| ((with_reducible show wpAny _ _ (binaryOp _ (Value.int _ _) (Value.int 1 _)) _ _ _); refine r_and1 ?_))
local macro_rules | `(tactic| walk_at "subscriptTail") => `(tactic| (k_here; (with_reducible show wpAny _ _ (subscriptTail _ _ (Value.ref _) (Value.int _ _)) _ _ _); k_dflt (refine' r_item ?t ?i ?o ?a ?b ?c ?_; (case t => exact News.isTup (by k_asm) (by k_mem)); (case i => assumption); (case o => assumption); (case a => omega); (case b => omega); (case c => omega); intro _ _ _)))
local macro_rules | `(tactic| walk_at "mine enterB") => `(tactic| (k_dflt (refine' code_defB ?k1 ?k2 ?k3 ?k4 ?k5 ?kA ?kF ?kK ?k6 ?k7 ?k8 ?k9 ?kB ?_ ?c2 ?c3 ?c4 ?c5; (case kA => exact rfl); (case kF => exact rfl); (case kK => assumption); (case k1 => k_asm); (case k2 => k_asm); (case k3 => k_asm); (case k4 => k_asm); (case k5 => k_asm); (case k6 => k_is); (case k7 => k_is); (case k8 => ktr_room); (case k9 => exact BindsTo.of_eq rfl); (case c5 => decide); (case kB => exact locs rfl); (case c2 => exact rfl); (case c3 => exact rfl); (case c4 => exact rfl); k_whole; intro g' L' h' F' N' B' X' T' hbase; (try dsimp only); (try k_fold))))
local macro_rules | `(tactic| walk_at "mine enterCB") => `(tactic| (k_dflt (refine' code_defCB ?k1 ?k2 ?k3 ?k4 ?k5 ?kA ?kF ?kK ?k6 ?k7 ?k8 ?k9 ?kB ?kD ?_ ?c2 ?c3 ?c4; (case kA => exact rfl); (case kF => exact rfl); (case kK => assumption); (case k1 => k_asm); (case k2 => k_asm); (case k3 => k_asm); (case k4 => k_asm); (case k5 => k_asm); (case k6 => k_is); (case k7 => k_is); (case k8 => ktr_room); (case k9 => exact BindsTo.of_eq rfl); (case kB => exact rfl); (case kD => decide +kernel); (case c2 => exact rfl); (case c3 => exact rfl); (case c4 => exact rfl); k_whole; intro g' L' h' tk' cells' F' N' Y' B' X' T' hbase; k_cells Y'; (try simp only [List.cons_append, List.nil_append] at N'); (try dsimp only); (try k_fold))))
local macro_rules | `(tactic| walk_at "mine ints") => `(tactic| first | assumption | exact IntsAre.nil | exact IntsAre.cons _ _ (by walk_at "mine ints"))
local macro_rules | `(tactic| walk_at "compareOp NotIn int ref") => `(tactic| (k_here; k_dflt (refine' notin_tuple_ints ?t ?i ?_; (case t => exact News.isTup (by k_asm) (by k_mem)); (case i => walk_at "mine ints"); k_whole)))
local macro_rules | `(tactic| walk_at "mine cut") => `(tactic| first | (refine' Cut.here ?_; k_all) | (refine' Cut.there ?a ?b; (case a => k_ne); (case b => walk_at "mine cut")))
local macro_rules | `(tactic| walk_at "UnrEnd") => `(tactic| (refine' unrEnd_cut (by assumption) (by assumption) ?c ?_; (case c => walk_at "mine cut"); first | (k_dflt (refine ⟨by k_mem, ?_⟩)) | skip))
local macro_rules | `(tactic| walk_at "mine enter") => `(tactic| (refine wpAny_call ?_; k_dflt cell_enter))
local macro_rules | `(tactic| walk_at "call builtin:len") => `(tactic| (k_here; (with_reducible show wpAny _ _ (call (Value.builtin "len") [Value.ref _]) _ _ _); k_dflt (refine' r_len ?t ?e ?k ?_; (case t => exact News.isTup (by k_asm) (by k_mem)); (case e => assumption); (case k => omega))))

def listD (o : List Int) : Dat := Dat.list (o.map Dat.int)
theorem listD_inv {W : List (Addr × Obj)} {v : Value} {o : List Int} (h : DatIn W v (listD o)) : ∃ a vs n, v = .ref a ∧ (a, listOf vs.toArray n) ∈ W ∧ IntsAre vs o := by
  obtain ⟨a, vs, n, e, hm, hr⟩ := list_inv h
  exact ⟨a, vs, n, e, hm, ints_inv hr⟩
def lawF (st : Int) (row : List Int) : List (List Int) := (List.range (row.length + 1)).map fun j => row.take j ++ [st] ++ row.drop j
def lawStep (st : Int) (rows : List (List Int)) : List (List Int) := rows.flatMap (lawF st)
def lawRows : Nat → List (List Int)
  | 0 => [[]]
  | n + 1 => lawStep n (lawRows n)
def lawPart (st : Int) (rows : List (List Int)) (i j : Nat) : List (List Int) := (rows.take i).flatMap (lawF st) ++ (lawF st (rows.getD i [])).take j
theorem lawF_len (st : Int) (row : List Int) : (lawF st row).length = row.length + 1 := by unfold lawF; simp
theorem lawPart_next {st : Int} {rows : List (List Int)} {i : Nat} (h : i < rows.length) : lawPart st rows i ((rows.getD i []).length + 1) = lawPart st rows (i + 1) 0 := by
  unfold lawPart
  have e : (lawF st (rows.getD i [])).take ((rows.getD i []).length + 1) = lawF st (rows.getD i []) := List.take_of_length_le (by rw [lawF_len]; exact Nat.le_refl _)
  rw [e, List.take_zero, List.append_nil, List.take_add_one, List.getD_eq_getElem?_getD, List.getElem?_eq_getElem h, List.flatMap_append]
  simp
theorem lawPart_all {st : Int} {rows : List (List Int)} : lawPart st rows rows.length 0 = lawStep st rows := by
  unfold lawPart lawStep
  rw [List.take_length]; simp
theorem lawPart_succ {st : Int} {rows : List (List Int)} {i j : Nat} {row : List Int} (h : rows[i]? = some row) (hj : j < row.length + 1) : lawPart st rows i (j + 1) = lawPart st rows i j ++ [row.take j ++ [st] ++ row.drop j] := by
  have e : rows.getD i [] = row := by rw [List.getD_eq_getElem?_getD, h]; rfl
  unfold lawPart
  rw [e, List.take_add_one, ← List.append_assoc]
  congr 1
  unfold lawF
  rw [List.getElem?_map, List.getElem?_range hj]
  rfl
theorem lawRows_len : ∀ i, i ≤ 3 → (lawRows i).length ≤ 6 := by decide
theorem lawRows_row : ∀ i, i ≤ 3 → ∀ r ∈ lawRows i, r.length ≤ 3 := by decide
theorem lawPart_len {st : Int} {rows : List (List Int)} {i j : Nat} (h : ∀ r ∈ rows, r.length ≤ 3) (hj : j ≤ 4) (hl : rows.length ≤ 6) : (lawPart st rows i j).length ≤ 28 := by
  unfold lawPart
  rw [List.length_append]
  have h2 : ((lawF st (rows.getD i [])).take j).length ≤ 4 := by rw [List.length_take]; omega
  have key : ∀ l : List (List Int), (∀ r ∈ l, r.length ≤ 3) → (l.flatMap (lawF st)).length ≤ 4 * l.length := by
    intro l
    induction l with
    | nil => intro _; simp
    | cons r l ih =>
      intro h
      have h1 := h r (.head _)
      have h3 := ih fun q hq => h q (.tail _ hq)
      rw [List.flatMap_cons, List.length_append, lawF_len, List.length_cons]
      omega
  have h1 := key (rows.take i) fun r hr => h r (List.mem_of_mem_take hr)
  have h3 : (rows.take i).length ≤ 6 := by rw [List.length_take]; omega
  omega
theorem news_rot2 {h₀ h : Heap} {L : Addr} {a b c : Addr × Obj} (N : News h₀ L h [a, b, c]) : News h₀ L h (c :: [a, b]) := fun p hp => N p (by
  rcases List.mem_cons.mp hp with h | hp
  · rw [h]; exact .tail _ (.tail _ (.head _))
  · rcases List.mem_cons.mp hp with h | hp
    · rw [h]; exact .head _
    · exact .tail _ (by rw [List.mem_singleton.mp hp]; exact .head _))
theorem rsL {n : Nat} (h : n ≤ 3) : Builtin.Range.small 0 ((n : Int) + 1) 1 = true ∧ Builtin.Range.rangeSize 0 ((n : Int) + 1) 1 = ((n + 1 : Nat) : Int) := by
  have : n = 0 ∨ n = 1 ∨ n = 2 ∨ n = 3 := by omega
  rcases this with rfl | rfl | rfl | rfl <;> exact ⟨by decide, rfl⟩
theorem lo_end {g h hA : Heap} {L c I I2 C D I3 a : Addr} {m : Str → Option Value} {s : Shared} {o oI o2 oC oI3 : Obj} {b1 b2 b3 b4 : Addr × Obj} {ys us : List Value} {W W2 : List (Addr × Obj)} {st : Int} {rows : List (List Int)} {i j : Nat} {row : List Int} {tk tkA : Nat}
    (F : Fr g L h m) (N : News g L h ((a, listOf us.toArray 0) :: b1 :: b2 :: b3 :: b4 :: (I2, o2) :: (C, oC) :: (D, lst ys) :: (I3, oI3) :: (c, o) :: (I, oI) :: W2))
    (lt : b1.1 < a ∧ b2.1 < a ∧ b3.1 < a ∧ b4.1 < a ∧ I2 < a ∧ C < a ∧ D < a ∧ I3 < a ∧ c < a ∧ I < a ∧ AllLt a W2)
    (hne : I2 ≠ C ∧ I2 ≠ D ∧ C ≠ D) (hne2 : I3 ≠ I2 ∧ I3 ≠ C ∧ I3 ≠ D) (hoff2 : ∀ p ∈ (c, o) :: (I, oI) :: W2, p.1 ≠ I2 ∧ p.1 ≠ C ∧ p.1 ≠ D ∧ p.1 ≠ I3)
    (h1 : ∀ p ∈ W2, p.1 ≠ c ∧ p.1 ≠ I) (h2 : ∀ p ∈ W, p ∈ W2) (h3 : DatAll W2 ys ((lawPart st rows i j).map listD)) (h4 : i ≤ rows.length) (h5 : j + 1 ≤ 4)
    (hrw : rows[i]? = some row) (hj : j < row.length + 1) (_hr : row.length ≤ 3) (hu : IntsAre us (row.take ((j : Int)).toNat ++ [st] ++ row.drop ((j : Int)).toNat)) :
    CElEnd g L m ⟨hA, s.gens, s.drawn, tkA, s.os⟩ I2 o2 C oC D ys (fun ys Wi => ∃ W1, Wi = (I3, oI3) :: W1 ∧ (∀ p ∈ W1, p.1 ≠ I3) ∧ ∃ W2, W1 = (c, o) :: (I, oI) :: W2 ∧ (∀ p ∈ W2, p.1 ≠ c ∧ p.1 ≠ I) ∧ (∀ p ∈ W, p ∈ W2) ∧ DatAll W2 ys ((lawPart st rows i (j + 1)).map listD) ∧ i ≤ rows.length ∧ j + 1 ≤ 4)
      (.ref a) ⟨h, s.gens, s.drawn, tk, s.os⟩ := by
  obtain ⟨_, _, _, _, l1, l2, l3, l4, l5, l6, _⟩ := lt
  have n1 := (Nat.ne_of_lt l1).symm
  have n2 := (Nat.ne_of_lt l2).symm
  have n3 := (Nat.ne_of_lt l3).symm
  have n4 := (Nat.ne_of_lt l4).symm
  have n5 := (Nat.ne_of_lt l5).symm
  have n6 := (Nat.ne_of_lt l6).symm
  refine ⟨h, tk, (I3, oI3) :: (c, o) :: (I, oI) :: (a, listOf us.toArray 0) :: W2, rfl, F, ?_, ?_, _, rfl, ?_, (a, listOf us.toArray 0) :: W2, rfl, ?_, fun p hp => .tail _ (h2 p hp), ?_, h4, h5⟩
  · intro p hp
    simp only [List.mem_cons] at hp
    refine N p ?_
    simp only [List.mem_cons]
    rcases hp with h | h | h | h | h | h | h | h
    · exact .inr (.inr (.inr (.inr (.inr (.inl h)))))
    · exact .inr (.inr (.inr (.inr (.inr (.inr (.inl h))))))
    · exact .inr (.inr (.inr (.inr (.inr (.inr (.inr (.inl h)))))))
    · exact .inr (.inr (.inr (.inr (.inr (.inr (.inr (.inr (.inl h))))))))
    · exact .inr (.inr (.inr (.inr (.inr (.inr (.inr (.inr (.inr (.inl h)))))))))
    · exact .inr (.inr (.inr (.inr (.inr (.inr (.inr (.inr (.inr (.inr (.inl h))))))))))
    · exact .inl h
    · exact .inr (.inr (.inr (.inr (.inr (.inr (.inr (.inr (.inr (.inr (.inr h))))))))))
  · intro p hp
    simp only [List.mem_cons] at hp
    rcases hp with rfl | rfl | rfl | rfl | hp
    · exact hne2
    · have := hoff2 (c, o) (.head _); exact ⟨this.1, this.2.1, this.2.2.1⟩
    · have := hoff2 (I, oI) (.tail _ (.head _)); exact ⟨this.1, this.2.1, this.2.2.1⟩
    · exact ⟨n1, n2, n3⟩
    · have := hoff2 p (.tail _ (.tail _ hp)); exact ⟨this.1, this.2.1, this.2.2.1⟩
  · intro p hp
    simp only [List.mem_cons] at hp
    rcases hp with rfl | rfl | rfl | hp
    · exact (hoff2 (c, o) (.head _)).2.2.2
    · exact (hoff2 (I, oI) (.tail _ (.head _))).2.2.2
    · exact n4
    · exact (hoff2 p (.tail _ (.tail _ hp))).2.2.2
  · intro p hp
    rcases List.mem_cons.mp hp with rfl | hp
    · exact ⟨n5, n6⟩
    · exact h1 p hp
  · rw [lawPart_succ hrw hj, List.map_append]
    refine (DatAll.mono (fun p hp => .tail _ hp) h3).append (DatAll.one ?_)
    exact DatIn.list (.head _) (ints_mk hu)
theorem lo_turn {g h hA : Heap} {L c I D : Addr} {m : Str → Option Value} {s : Shared} {o oI : Obj} {ys : List Value} {W2 : List (Addr × Obj)} {i tk tkA : Nat}
    (F : Fr g L h (fun q => if q = Str.ofString "rows" then some (.ref D) else m q)) (N : News g L h ((D, lst ys) :: (c, o) :: (I, oI) :: W2)) (h1 : ∀ p ∈ W2, p.1 ≠ c ∧ p.1 ≠ I) (hD : ∀ p ∈ (c, o) :: (I, oI) :: W2, p.1 ≠ D)
    (h3 : DatAll W2 ys ((lawStep i (lawRows i)).map listD)) :
    CForEnd g L c I o oI (fun mm W => ∃ v, mm (Str.ofString "rows") = some v ∧ DatIn W v (Dat.list ((lawRows (i + 1)).map listD))) ⟨hA, s.gens, s.drawn, tkA, s.os⟩ .next ⟨h, s.gens, s.drawn, tk, s.os⟩ := by
  refine ⟨rfl, h, tk, _, (D, lst ys) :: W2, rfl, F, ?_, ?_, .ref D, by simp, DatIn.list (.head _) (DatAll.mono (fun p hp => .tail _ hp) h3)⟩
  · intro p hp
    simp only [List.mem_cons] at hp
    refine N p ?_
    simp only [List.mem_cons]
    rcases hp with h | h | h | h
    · exact .inr (.inl h)
    · exact .inr (.inr (.inl h))
    · exact .inl h
    · exact .inr (.inr (.inr h))
  · intro p hp
    rcases List.mem_cons.mp hp with rfl | hp
    · exact ⟨(hD (c, o) (.head _)).symm, (hD (I, oI) (.tail _ (.head _))).symm⟩
    · exact h1 p hp
theorem lo_tup {g h hA : Heap} {L I C D T ra : Addr} {m : Str → Option Value} {s : Shared} {oI oC : Obj} {ys rvs lvs : List Value} {W nw : List (Addr × Obj)} {rows : List (List Int)} {row : List Int} {i tk tkA rn : Nat}
    (F : Fr g L h m) (N : News g L h ((T, ({ cls := .type "tuple", data := .seq lvs.toArray } : Obj)) :: (I, oI) :: (C, oC) :: (D, lst ys) :: nw)) (lt : ∀ p ∈ (I, oI) :: (C, oC) :: (D, lst ys) :: nw, p.1 < T)
    (off : ∀ p ∈ nw, p.1 ≠ I ∧ p.1 ≠ C ∧ p.1 ≠ D) (h1 : ∀ p ∈ W, p ∈ nw) (hrm : (ra, listOf rvs.toArray rn) ∈ W) (hrw : rows[i]? = some row) (h2 : DatAll nw ys ((rows.take i).map tupD)) (hli : IntsAre lvs row) :
    CompEnd g L m ⟨hA, s.gens, s.drawn, tkA, s.os⟩ I oI C oC D (lst ys) (SrcAt g ra rvs.toArray) (fun y nw' => (∀ p ∈ W, p ∈ nw') ∧ DatAll nw' (ys ++ [y]) ((rows.take (i + 1)).map tupD)) (.ref T) ⟨h, s.gens, s.drawn, tk, s.os⟩ := by
  have n1 := (Nat.ne_of_lt (lt (I, oI) (.head _))).symm
  have n2 := (Nat.ne_of_lt (lt (C, oC) (.tail _ (.head _)))).symm
  have n3 := (Nat.ne_of_lt (lt (D, lst ys) (.tail _ (.tail _ (.head _))))).symm
  refine ⟨h, tk, (T, ({ cls := .type "tuple", data := .seq lvs.toArray } : Obj)) :: nw, rfl, F, ?_, Off3.of ?_, .inr ⟨_, .tail _ (h1 _ hrm), rfl, _, rfl⟩, fun p hp => .tail _ (h1 p hp), ?_⟩
  · intro p hp
    simp only [List.mem_cons] at hp
    refine N p ?_
    simp only [List.mem_cons]
    rcases hp with h | h | h | h | h
    · exact .inr (.inl h)
    · exact .inr (.inr (.inl h))
    · exact .inr (.inr (.inr (.inl h)))
    · exact .inl h
    · exact .inr (.inr (.inr (.inr h)))
  · intro p hp
    rcases List.mem_cons.mp hp with rfl | hp
    · exact ⟨n1, n2, n3⟩
    · exact off p hp
  · rw [List.take_add_one, hrw]
    show DatAll _ _ ((rows.take i ++ [row]).map tupD)
    rw [List.map_append]
    exact (DatAll.mono (fun p hp => .tail _ hp) h2).append (DatAll.one (tup_mk (.head _) hli))
theorem fr_name {h₀ h : Heap} {L : Addr} {m : Str → Option Value} {x : Str} {v : Value} (F : Fr h₀ L h m) (e : m x = some v) : Fr h₀ L h (fun y => if y = x then some v else m y) := by
  have : (fun y => if y = x then some v else m y) = m := by
    funext y
    by_cases h : y = x
    · subst h; rw [if_pos rfl, e]
    · rw [if_neg h]
  rw [this]; exact F

section
variable {prog : Program} {w : World} {A : Around} {E : Value → Shared → Prop} {s : Shared} {Q : Value → Shared → Prop}
end
section
local macro_rules | `(tactic| walk_at "pyIter ref") => `(tactic| ((with_reducible show wpAny _ _ (pyIter (Value.ref _)) (fun it s₂ => LoopAtV _ _ _ _ _ _ _ _ _ it s₂) _ _); refine Stop.mk ?_))
local macro_rules | `(tactic| walk_at "InvEndN") => `(tactic| refine Stop.mk ?_)
local macro_rules | `(tactic| walk_at "call type:range") => `(tactic| ((rename Fr _ _ _ _ => F'); (rename News _ _ _ _ => N'); (with_unfolding_all refine range1_rows F' N' ?_); intro _ _ _ _ _ _ _ _ _))
local macro_rules | `(tactic| walk_at "InvEndG") => `(tactic| refine Stop.mk ?_)
local macro_rules | `(tactic| walk_at "binaryOp Add ref ref") => `(tactic| k_extra "binaryOp Add ref ref")
local macro_rules | `(tactic| size_fits) => `(tactic| (simp only [List.size_toArray, sizeLine_eq]; omega))
local macro_rules | `(tactic| k_all) => `(tactic| assumption)
local macro_rules | `(tactic| walk_at "newList") => `(tactic| k_extra "newList")
local macro_rules | `(tactic| walk_at "InvPostG") => `(tactic| dsimp only [InvPostG])
local macro_rules | `(tactic| walk_at "exec For Name Name cons nil") => `(tactic| (k_here; (rename Fr _ _ _ _ => lF'); (with_unfolding_all refine' For_invVF lF' ?k1 ?k2 ?_; (case k1 => exact rfl); (case k2 => exact rfl); k_whole)))
local macro_rules | `(tactic| walk_at "CompEnd") => `(tactic| refine Stop.mk ?_)
local macro_rules | `(tactic| walk_at "call type:tuple") => `(tactic| k_extra "call type:tuple")
local macro_rules | `(tactic| walk_at "CompSrc") => `(tactic| refine Stop.mk ?_)
local macro_rules | `(tactic| walk_at "subscriptTail Name Slice ref ref") => `(tactic| k_extra "subscriptTail Name Slice ref ref")
local macro_rules | `(tactic| walk_at "call builtin:len") => `(tactic| k_extra "call builtin:len")
local macro_rules | `(tactic| walk_at "newTuple") => `(tactic| k_extra "newTuple")
theorem lord_C (k : Int) (K : Nat) (hk : k = K) (hK : K ≤ 3) (w : World) (news : List (Addr × Obj)) (tk : Tok) :
    Ctr PySem.Challenge.rw_nn0293_01.row.prog w (hd.heap_39 w.params) 1 96 news [.int k tk] (fun tl r => DatIn tl r (Dat.list ((lawRows K).map tupD))) := by
  subst hk
  w_top off
  k_with_none
  k_fill
  unfold Ctr
  intro p loose mean mg mb dp un gd cn cs a ccd cl outer A₀ base h₀ L m s Q E B F X N T hk hdp hun hret
  refine wpAny_call ?_
  (k_dflt (refine' code_defCB ?k1 ?k2 ?k3 ?k4 ?k5 ?kA ?kF ?kK ?k6 ?k7 ?k8 ?k9 ?kB ?kD ?_ ?c2 ?c3 ?c4; (case kA => exact rfl); (case kF => exact rfl); (case kK => assumption); (case k1 => k_asm); (case k2 => k_asm); (case k3 => k_asm); (case k4 => k_asm); (case k5 => k_asm); (case k6 => k_is); (case k7 => k_is); (case k8 => ktr_room); (case k9 => exact BindsTo.of_eq rfl); (case kB => exact rfl); (case kD => decide +kernel); (case c2 => exact rfl); (case c3 => exact rfl); (case c4 => exact rfl); k_whole; intro g' L' h' tk' cells' F' N' Y' B' X' T' hbase; k_cells Y'; (try simp only [List.cons_append, List.nil_append] at N'); (try dsimp only); (try k_fold)))
  k_with "newList" => (k_here; k_dflt (refine' newList_K ?k1 ?k2 ?_; (case k1 => k_asm); (case k2 => k_asm); k_whole); intro xl h9 F9 N9 hxl)
  k_steps
  refine wpAny_For ?_
  k_steps
  (rename Fr _ _ _ _ => lF'); (rename News _ _ _ _ => lN'); (rename IsRange _ _ _ _ _ _ _ _ => rgX)
  with_unfolding_all refine' for_cellIter (n := K) (x := Str.ofString "step") (fun i mm W => ∃ v, mm (Str.ofString "rows") = some v ∧ DatIn W v (Dat.list ((lawRows i).map listD))) (by rfl) (by rfl) (by rfl) (by rfl) rgX (smK hK) (rsK hK) lF' (news_rot2 lN') (by assumption) ?hc ⟨_, rfl, ?h0⟩ ?turn ?done
  case hc =>
    intro p hp
    rcases List.mem_cons.mp hp with rfl | hp
    · exact (Nat.ne_of_lt (hxl _ (.tail _ (.head _)))).symm
    · rw [List.mem_singleton.mp hp]; exact (Nat.ne_of_lt (by (rename ∀ p ∈ [(L' + 1, _)], p.1 < _ => hxl0); exact hxl0 _ (.head _))).symm
  case h0 => exact DatIn.list (.head _) (.cons (DatIn.list (.tail _ (.head _)) .nil) .nil)
  case turn =>
    rintro i mm W o I oI h t9 tt E' hi ⟨v, hmv, hW⟩ F1 N1 hod hoff hcI
    replace F1 := fr_name F1 hmv
    obtain ⟨ra, rvs, rn, hra, hrm, hrall⟩ := list_inv hW
    subst hra
    clear lF' lN' rgX
    try k_fold
    k_steps
    (rename Fr _ _ _ _ => lF'); (rename News _ _ _ _ => lN')
    have hi3 : i ≤ 3 := by omega
    have hrl : rvs.length = (lawRows i).length := by rw [hrall.length, List.length_map]
    have hr6 := lawRows_len i hi3
    have hr3 := lawRows_row i hi3
    have hrow : ∀ (i2 : Nat) (v : Value), rvs.toArray[i2]? = some v → ∃ row la lvs ln, (lawRows i)[i2]? = some row ∧ v = .ref la ∧ (la, listOf lvs.toArray ln) ∈ W ∧ IntsAre lvs row := by
      intro i2 v hv
      have hv' : rvs[i2]? = some v := by simpa using hv
      have hlt : i2 < (lawRows i).length := by rw [← hrl]; exact (List.getElem?_eq_some_iff.mp hv').1
      have hlt2 : i2 < ((lawRows i).map listD).length := by rw [List.length_map]; exact hlt
      obtain ⟨v', hv2, hD⟩ := hrall.get hlt2
      rw [hv'] at hv2
      obtain rfl := Option.some.inj hv2
      rw [List.getElem_map] at hD
      obtain ⟨la, lvs, ln, e, hm, hi⟩ := listD_inv hD
      exact ⟨_, la, lvs, ln, List.getElem?_eq_getElem hlt, e, hm, hi⟩
    with_unfolding_all refine' assign2 (x := Str.ofString "row") (y := Str.ofString "spot") (z := Str.ofString "rows") (ax := ra) (its := rvs.toArray) (kk := rn) (cl := [(Str.ofString "step", L' + 1)]) (fun i2 j ys Wc => ∃ W2, Wc = (L' + 1, o) :: (I, oI) :: W2 ∧ (∀ p ∈ W2, p.1 ≠ L' + 1 ∧ p.1 ≠ I) ∧ (∀ p ∈ W, p ∈ W2) ∧ DatAll W2 ys ((lawPart i (lawRows i) i2 j).map listD) ∧ i2 ≤ (lawRows i).length ∧ j ≤ 4) (fun i2 => ((lawRows i).getD i2 []).length + 1) (by rfl) (by rfl) lF' lN' (by rfl) (by rfl) (by decide) (by rfl) (by decide) (by rfl) (by rfl) (by decide) (by rfl) (by rfl) ?hq ?hax ?h00q ?hlen ?hnext ?hiter ?helt ?dn2
    case hq =>
      k_steps
    case hax =>
      rintro i2 j ys Wc ⟨W2, rfl, h1, h2, h3, h4⟩
      exact .tail _ (.tail _ (h2 _ hrm))
    case h00q =>
      refine ⟨W, rfl, hoff, fun _ h => h, ?_, Nat.zero_le _, Nat.zero_le _⟩
      have : lawPart i (lawRows i) 0 0 = [] := rfl
      rw [this]; exact DatAll.nil
    case hlen =>
      rintro i2 j ys Wc ⟨W2, rfl, h1, h2, h3, h4, h5⟩
      have := lawPart_len (st := i) (i := i2) hr3 h5 hr6
      have h6 := h3.length
      rw [List.length_map] at h6
      rw [sizeLine_eq]; omega
    case hnext =>
      rintro i2 ys Wc hi2 ⟨W2, rfl, h1, h2, h3, h4, h5⟩
      have hi2' : i2 < (lawRows i).length := by rw [← hrl]; simpa using hi2
      rw [lawPart_next hi2'] at h3
      exact ⟨W2, rfl, h1, h2, h3, hi2', Nat.zero_le _⟩
    case hiter =>
      rintro i2 v ys Wc I3 oI3 C oC D m₂ h t8 E' hi2 hv ⟨W2, rfl, h1, h2, h3, h4, h5⟩ hoC hmx F2 N2 hne hoff2
      obtain ⟨row, la, lvs, ln, hrw, rfl, hlm, hli⟩ := hrow i2 v hv
      have hlm' : (la, listOf lvs.toArray ln) ∈ (C, oC) :: (I3, oI3) :: (D, lst ys) :: (L' + 1, o) :: (I, oI) :: W2 := .tail _ (.tail _ (.tail _ (.tail _ (.tail _ (h2 _ hlm)))))
      have hrl3 : lvs.length ≤ 3 := by rw [hli.length]; exact hr3 _ (List.mem_of_getElem? hrw)
      have hll : lvs.length = row.length := hli.length
      k_with "call builtin:len" => (k_here; k_dflt (refine' r_lenL ?t ?e ?k ?_; (case t => exact News.isList (by k_asm) hlm'); (case e => exact hll); (case k => omega)))
      have hge : (lawRows i).getD i2 [] = row := by rw [List.getD_eq_getElem?_getD, hrw]; rfl
      clear lF' lN'
      k_steps
      · assumption
      · assumption
      · exact (rsL (by omega)).1
      · rw [hge]; exact (rsL (by omega)).2
    case helt =>
      rintro i2 j v ys Wc I3 oI3 I2 o2 C oC D m₃ h t8 tj E' hi2 hv hj ⟨W2, rfl, h1, h2, h3, h4, h5⟩ hoC hmx hmy F2 N2 hne hne2 hoff2
      obtain ⟨row, la, lvs, ln, hrw, rfl, hlm, hli⟩ := hrow i2 v hv
      have hlm' : (la, listOf lvs.toArray ln) ∈ (I2, o2) :: (C, oC) :: (D, lst ys) :: (I3, oI3) :: (L' + 1, o) :: (I, oI) :: W2 := .tail _ (.tail _ (.tail _ (.tail _ (.tail _ (.tail _ (h2 _ hlm))))))
      have hrl3 : lvs.length ≤ 3 := by rw [hli.length]; exact hr3 _ (List.mem_of_getElem? hrw)
      have hll : lvs.length = row.length := hli.length
      have hge : (lawRows i).getD i2 [] = row := by rw [List.getD_eq_getElem?_getD, hrw]; rfl
      rw [hge] at hj
      have hj0 : (0 : Int) ≤ (j : Int) := by omega
      clear lF' lN'
      k_with "subscriptTail Name Slice ref ref" => (k_here; k_dflt (refine' kmk_slice_ints ?F ?N ?l ?p ?q ?i ?m ?c ?_ ?s ?t ?z; (case F => k_asm); (case N => k_asm); (case l => exact News.isList (by k_asm) (by repeat (first | exact hlm' | apply List.mem_cons_of_mem))); (case p => kmk_part); (case q => kmk_part); (case i => exact hli); (case m => first | exact kmk_from hli hj0 | exact kmk_upto hli hj0); (case c => exact rfl); (case s => with_unfolding_all rfl); (case t => kmk_pure); (case z => rw [List.size_toArray, sizeLine_eq]; omega)); intro sD sws h9 F9 N9 sLt sInts sC sL)
      k_with "binaryOp Add ref ref" => (k_here; k_dflt (refine' kmk_add_ints ?F ?N ?a ?b ?i ?j ?_ ?z; (case F => k_asm); (case N => k_asm); (case a => exact News.isList (by k_asm) (by k_mem)); (case b => exact News.isList (by k_asm) (by k_mem)); (case i => first | with_reducible assumption | exact IntsAre.cons _ _ .nil); (case j => first | with_reducible assumption | exact IntsAre.cons _ _ .nil); (case z => simp only [List.length_append, List.length_take, List.length_drop, List.length_cons, List.length_nil, sizeLine_eq]; omega)); intro aD aws h9 F9 N9 aLt aInts)
      k_steps
      exact lo_end (by k_asm) (by k_asm) (by assumption) hne hne2 hoff2 h1 h2 h3 h4 (by omega) hrw hj (by omega) (by assumption)
    case dn2 =>
      rintro D ys Wc h t8 ⟨W2, rfl, h1, h2, h3, h4, h5⟩ F2 N2 hD
      clear lF' lN'
      have hsz9 : rvs.toArray.size = (lawRows i).length := by rw [List.size_toArray]; exact hrl
      rw [hsz9, lawPart_all] at h3
      k_steps
      exact lo_turn (by k_asm) (by k_asm) h1 hD h3
  case done =>
    rintro mm W o h t9 ⟨v, hmv, hW⟩ F1 N1 hoff
    replace F1 := fr_name F1 hmv
    obtain ⟨ra, rvs, rn, hra, hrm, hrall⟩ := list_inv hW
    subst hra
    clear lF' lN' rgX
    try k_fold
    k_steps
    unfold Stop
    have hrl : rvs.length = (lawRows K).length := by rw [hrall.length, List.length_map]
    have hr6 := lawRows_len K hK
    have hr3 := lawRows_row K hK
    refine CompSrc.ledger (by rfl) (by k_asm) (by k_asm) (.tail _ hrm) (by rw [List.size_toArray, sizeLine_eq]; omega) ?_
    intro g9
    refine rest_inv (n := rvs.toArray.size) (fun i ys nw => (∀ p ∈ W, p ∈ nw) ∧ DatAll nw ys (((lawRows K).take i).map tupD)) ?tn ?fn rvs.toArray.size 0 [] _ (Nat.zero_add _) ⟨fun p hp => .tail _ hp, DatAll.nil⟩
    case tn =>
      rintro i ys nw v I oI C oC D m₂ h t8 E' hi ⟨h1, h2⟩ hv hoC hmx F2 N2 hoff2 hne
      have hv' : rvs[i]? = some v := by simpa using hv
      have hlt : i < (lawRows K).length := by rw [← hrl]; exact (List.getElem?_eq_some_iff.mp hv').1
      have hlt2 : i < ((lawRows K).map listD).length := by rw [List.length_map]; exact hlt
      obtain ⟨v', hv2, hD⟩ := hrall.get hlt2
      rw [hv'] at hv2
      obtain rfl := Option.some.inj hv2
      rw [List.getElem_map] at hD
      obtain ⟨la, lvs, ln, e, hm, hli⟩ := listD_inv hD
      subst e
      have hlm' : (la, listOf lvs.toArray ln) ∈ (I, oI) :: (C, oC) :: (D, lst ys) :: nw := .tail _ (.tail _ (.tail _ (h1 _ hm)))
      have hl3 : lvs.length ≤ 3 := by rw [hli.length]; exact hr3 _ (List.getElem_mem hlt)
      k_with "call type:tuple" => (k_here; k_dflt (refine' kde_tupleOf ?k1 ?k2 ?k3 ?k4 ?k5 ?_; (case k1 => k_asm); (case k2 => k_asm); (case k3 => exact News.isList (by k_asm) hlm'); (case k4 => rw [List.size_toArray]; omega); (case k5 => exact List.toList_toArray); k_whole); intro rD h9 F9 N9 rLt)
      k_with "CompEnd" => skip
      k_steps
      exact lo_tup (by k_asm) (by k_asm) (by assumption) hoff2 h1 hrm (List.getElem?_eq_getElem hlt) h2 hli
    case fn =>
      rintro ys nw ⟨h1, h2⟩
      unfold FinE
      intro D h t8 F2 N2 o1
      dsimp only
      have hfresh := fresh_of N2 hbase
      k_steps
      rw [List.take_of_length_le (by rw [List.size_toArray, hrl]; exact Nat.le_refl _)] at h2
      refine hret _ ((D, lst ys) :: nw) _ _ (by k_asm) (news_app (a := (D, lst ys) :: nw) (by assumption) (by assumption)) hfresh ?_
      show DatIn _ _ (Dat.list ((lawRows K).map tupD))
      exact DatIn.list (.head _) (DatAll.mono (fun p hp => .tail _ hp) h2)
end
end LOrdT
end Mine
namespace Mine
section LawDefsT
def tnI (f : Int) (K n : Nat) : Int := madeI f (rangeKs 0 K) n 0 K (2 ^ K)
def lInner (f : Int) (K : Nat) (b : Int) : Nat → Int
  | 0 => b
  | n + 1 => min (min (lInner f K b n) (tnI f K n)) (fullI K - tnI f K n)
def lAll (K : Nat) (rows : List Int) (b : Int) : Int := rows.foldl (fun b f => lInner f K b (2 ^ K)) b
def leastI (t : Int) (K : Nat) : Int := lAll K ((lawRows K).map fun o => madeI t o 0 0 K (2 ^ K)) (fullI K)
theorem lAll_take {K : Nat} {rows : List Int} {b : Int} {i : Nat} {f : Int} (h : rows[i]? = some f) : lAll K (rows.take (i + 1)) b = lInner f K (lAll K (rows.take i) b) (2 ^ K) := by
  unfold lAll
  rw [List.take_add_one, h]
  simp
theorem lawRows_row3 {K : Nat} (hK : K ≤ 3) {row : List Int} (h : row ∈ lawRows K) : row.length = K ∧ ∀ x ∈ row, 0 ≤ x ∧ x < 3 := by
  have key : ∀ (rs : List (List Int)) (K : Nat), (rs.all fun r => decide (r.length = K) && r.all fun x => decide (0 ≤ x) && decide (x < 3)) = true → row ∈ rs → row.length = K ∧ ∀ x ∈ row, 0 ≤ x ∧ x < 3 := fun rs K ha hm => by
    have := (List.all_eq_true.mp ha) row hm
    simpa using this
  refine key _ _ ?_ h
  rcases nn4 hK with rfl | rfl | rfl | rfl <;> decide
theorem lawRows_rowK {K : Nat} (hK : K ≤ 3) {row : List Int} (h : row ∈ lawRows K) : ∀ x ∈ row, x < K := by
  have key : ∀ (rs : List (List Int)) (K : Nat), (rs.all fun r => r.all fun x => decide (x < (K : Int))) = true → row ∈ rs → ∀ x ∈ row, x < K := fun rs K ha hm => by
    have := (List.all_eq_true.mp ha) row hm
    simpa using this
  refine key _ _ ?_ h
  rcases nn4 hK with rfl | rfl | rfl | rfl <;> decide
end LawDefsT
end Mine
namespace Mine
section PlainAT
def bt (t : Int) (j : Nat) : Int := t / 2 ^ j % 2
def ofB (β : Nat → Int) : Nat → Int
  | 0 => 0
  | n + 1 => ofB β n + β n * 2 ^ n
theorem bt_01 (t : Int) (j : Nat) : bt t j = 0 ∨ bt t j = 1 := by unfold bt; omega
theorem ofB_congr {β γ : Nat → Int} : ∀ {n : Nat}, (∀ j, j < n → β j = γ j) → ofB β n = ofB γ n
  | 0, _ => rfl
  | n + 1, h => by rw [ofB, ofB, ofB_congr fun j hj => h j (by omega), h n (by omega)]
theorem ofB_rng {β : Nat → Int} : ∀ {n : Nat}, (∀ j, j < n → β j = 0 ∨ β j = 1) → 0 ≤ ofB β n ∧ ofB β n < 2 ^ n
  | 0, _ => ⟨Int.le_refl 0, (by decide : (0 : Int) < 2 ^ 0)⟩
  | n + 1, h => by
    have ih := ofB_rng (β := β) (n := n) fun j hj => h j (by omega)
    have hp := kbt_pos n
    have h2 : (2 : Int) ^ (n + 1) = 2 * 2 ^ n := by rw [Int.pow_succ]; omega
    rw [ofB]
    rcases h n (by omega) with e | e <;> rw [e] <;> omega
theorem ofB_bt {β : Nat → Int} : ∀ {n : Nat}, (∀ j, j < n → β j = 0 ∨ β j = 1) → ∀ j, j < n → bt (ofB β n) j = β j
  | 0, _, j, hj => absurd hj (Nat.not_lt_zero _)
  | n + 1, h, j, hj => by
    have hr := ofB_rng (β := β) (n := n) fun j hj => h j (by omega)
    rw [ofB]
    unfold bt
    rcases Nat.lt_or_ge j n with hl | hl
    · have ih := ofB_bt (β := β) (n := n) (fun j hj => h j (by omega)) j hl
      unfold bt at ih
      obtain ⟨d, rfl⟩ : ∃ d, n = j + 1 + d := ⟨n - (j + 1), by omega⟩
      have e : β (j + 1 + d) * (2 : Int) ^ (j + 1 + d) = 2 ^ j * (2 * (β (j + 1 + d) * 2 ^ d)) := by
        rw [Int.pow_add, Int.pow_succ]; simp only [Int.mul_assoc, Int.mul_comm, Int.mul_left_comm]
      rw [e, Int.add_mul_ediv_left _ _ (Int.ne_of_gt (kbt_pos j))]
      omega
    · have e : j = n := by omega
      subst e
      rw [Int.add_mul_ediv_right _ _ (Int.ne_of_gt (kbt_pos j)), Int.ediv_eq_zero_of_lt hr.1 hr.2]
      rcases h j (by omega) with e | e <;> rw [e] <;> rfl
theorem ofB_self : ∀ {n : Nat} {t : Int}, 0 ≤ t → ofB (bt t) n = t % 2 ^ n
  | 0, t, _ => by rw [ofB, Int.pow_zero, Int.emod_one]
  | n + 1, t, h => by
    rw [ofB, ofB_self h]
    unfold bt
    have h2 : (2 : Int) ^ (n + 1) = 2 ^ n * 2 := Int.pow_succ ..
    have h3 : t / (2 ^ n * 2) = t / 2 ^ n / 2 := (Int.ediv_ediv_of_nonneg (Int.le_of_lt (kbt_pos n))).symm
    rw [h2, Int.emod_def t (2 ^ n), Int.emod_def t (2 ^ n * 2), Int.emod_def (t / 2 ^ n) 2, h3]
    generalize t / 2 ^ n = q
    generalize (2 : Int) ^ n = p
    rw [Int.sub_mul, Int.mul_comm q p, Int.mul_comm p 2, Int.mul_assoc 2 p, Int.mul_assoc 2 (q / 2) p, Int.mul_comm (q / 2) p]
    omega
theorem ofB_compl {β : Nat → Int} : ∀ n : Nat, (2 : Int) ^ n - 1 - ofB β n = ofB (fun r => 1 - β r) n
  | 0 => by rw [ofB, ofB]; decide
  | n + 1 => by
    have ih := ofB_compl (β := β) n
    have h2 : (2 : Int) ^ (n + 1) = 2 ^ n + 2 ^ n := by rw [Int.pow_succ]; omega
    rw [ofB, ofB, ← ih, h2, Int.sub_mul]
    omega
def xo (u x : Int) : Int := if u = 1 then 1 - x else x
theorem madeI_ofB (t : Int) (o : List Int) (f u : Int) (K : Nat) : ∀ n, madeI t o f u K n = ofB (fun r => xo u (bt t (oldI o f r K).toNat)) n
  | 0 => rfl
  | n + 1 => by rw [madeI, ofB, madeI_ofB t o f u K n]; rfl
theorem bOr_add {a x : Int} {n : Nat} (h0 : 0 ≤ a) (h1 : a < 2 ^ n) (hx : x = 0 ∨ x = 1) : Builtin.bitOr a (x * 2 ^ n) = a + x * 2 ^ n := by
  have hp := kbt_pos n
  have hc := kbt_cast n
  have hb : 0 ≤ x * 2 ^ n := by rcases hx with rfl | rfl <;> omega
  rw [bOr_pp h0 hb]
  have e : (x * 2 ^ n).toNat = 2 ^ n * x.toNat := by rcases hx with rfl | rfl <;> simp <;> omega
  rw [e, Nat.or_comm, ← Nat.two_pow_add_eq_or_of_lt (show a.toNat < 2 ^ n by omega)]
  rcases hx with rfl | rfl <;> simp <;> omega
theorem permI_ofB (t : Int) (o : List Int) (K : Nat) : ∀ n, permI t o K n = ofB (fun r => bt t (spreadI r o K).toNat) n
  | 0 => rfl
  | n + 1 => by
    have h0 := permI_nonneg t o K n
    have h1 := permI_lt t o K n
    rw [permI, ofB, bOr_add h0 h1 (by omega), permI_ofB t o K n]
    rfl
end PlainAT
end Mine
namespace Mine
section PlainBT
def sp (K : Nat) (o : List Int) (r : Nat) : Nat := (oldI o 0 r K).toNat
theorem sp_lt {K : Nat} (hK : K ≤ 3) : ∀ o ∈ lawRows K, ∀ r : Nat, r < 2 ^ K → sp K o r < 2 ^ K := by
  rcases nn4 hK with rfl | rfl | rfl | rfl <;> decide +kernel
theorem idx_eq {K : Nat} (hK : K ≤ 3) : ∀ o ∈ lawRows K, ∀ f : Nat, f < 2 ^ K → ∀ r : Nat, r < 2 ^ K → (oldI o (f : Int) (r : Int) K).toNat = sp K o (r ^^^ f) := by
  rcases nn4 hK with rfl | rfl | rfl | rfl <;> decide +kernel
theorem sp_xor {K : Nat} (hK : K ≤ 3) : ∀ o ∈ lawRows K, ∀ a : Nat, a < 2 ^ K → ∀ b : Nat, b < 2 ^ K → sp K o (a ^^^ b) = sp K o a ^^^ sp K o b := by
  rcases nn4 hK with rfl | rfl | rfl | rfl <;> decide +kernel
theorem sp_comp {K : Nat} (hK : K ≤ 3) : ∀ o₁ ∈ lawRows K, ∀ o₂ ∈ lawRows K, ∃ o₃ ∈ lawRows K, ∀ r : Nat, r < 2 ^ K → sp K o₁ (sp K o₂ r) = sp K o₃ r := by
  rcases nn4 hK with rfl | rfl | rfl | rfl <;> decide +kernel
theorem sp_surj {K : Nat} (hK : K ≤ 3) : ∀ o ∈ lawRows K, ∀ x : Nat, x < 2 ^ K → ∃ y : Nat, y < 2 ^ K ∧ sp K o y = x := by
  rcases nn4 hK with rfl | rfl | rfl | rfl <;> decide +kernel
theorem spread_sp {K : Nat} (hK : K ≤ 3) : ∀ o ∈ lawRows K, ∀ r : Nat, r < 2 ^ K → (spreadI (r : Int) o K).toNat = sp K o r := by
  rcases nn4 hK with rfl | rfl | rfl | rfl <;> decide +kernel
theorem fl3 : ∀ t : Nat, t < 256 → ∀ i : Nat, i < 3 → flI (t : Int) i 3 = ofB (fun r => bt (t : Int) (r ^^^ 2 ^ i)) 8 := by decide +kernel
theorem fl2 : ∀ t : Nat, t < 16 → ∀ i : Nat, i < 2 → flI (t : Int) i 2 = ofB (fun r => bt (t : Int) (r ^^^ 2 ^ i)) 4 := by decide +kernel
theorem fl1 : ∀ t : Nat, t < 4 → ∀ i : Nat, i < 1 → flI (t : Int) i 1 = ofB (fun r => bt (t : Int) (r ^^^ 2 ^ i)) 2 := by decide +kernel
theorem cp3 : ∀ t : Nat, t < 256 → Builtin.bitXor (fullI 3) (t : Int) = fullI 3 - t ∧ Builtin.bitXor (t : Int) (fullI 3) = fullI 3 - t := by decide +kernel
theorem cp2 : ∀ t : Nat, t < 16 → Builtin.bitXor (fullI 2) (t : Int) = fullI 2 - t ∧ Builtin.bitXor (t : Int) (fullI 2) = fullI 2 - t := by decide +kernel
theorem cp1 : ∀ t : Nat, t < 4 → Builtin.bitXor (fullI 1) (t : Int) = fullI 1 - t ∧ Builtin.bitXor (t : Int) (fullI 1) = fullI 1 - t := by decide +kernel
theorem cp0 : ∀ t : Nat, t < 2 → Builtin.bitXor (fullI 0) (t : Int) = fullI 0 - t ∧ Builtin.bitXor (t : Int) (fullI 0) = fullI 0 - t := by decide +kernel
theorem ords_law {K : Nat} (hK : K ≤ 3) : (∀ o ∈ ordsL K K, o ∈ lawRows K) ∧ ∀ o ∈ lawRows K, o ∈ ordsL K K := by
  rcases nn4 hK with rfl | rfl | rfl | rfl <;> decide +kernel
theorem cInp_rng {K : Nat} (hK : K ≤ 3) : ∀ n : Nat, n < 2 ^ K → 0 ≤ cInp n ∧ cInp n < 2 ^ K := by
  rcases nn4 hK with rfl | rfl | rfl | rfl <;> decide +kernel
theorem cInp_surj {K : Nat} (hK : K ≤ 3) : ∀ f : Nat, f < 2 ^ K → ∃ n : Nat, n < 2 ^ K ∧ cInp n = (f : Int) := by
  rcases nn4 hK with rfl | rfl | rfl | rfl <;> decide +kernel
theorem cInp_next : ∀ n : Nat, n < 7 → (cInp (n + 1)).toNat = (cInp n).toNat ^^^ 2 ^ lowI (n + 1) := by decide +kernel
theorem id_law {K : Nat} (hK : K ≤ 3) : rangeKs 0 K ∈ lawRows K ∧ ∀ r : Nat, r < 2 ^ K → sp K (rangeKs 0 K) r = r := by
  rcases nn4 hK with rfl | rfl | rfl | rfl <;> decide +kernel
theorem back_law {K : Nat} (hK : K ≤ 3) : ∀ o ∈ lawRows K, backI o K K ∈ lawRows K ∧ ∀ f : Nat, f < 2 ^ K → (0 ≤ negI (f : Int) (backI o K K) K ∧ negI (f : Int) (backI o K K) K < 2 ^ K) ∧
    ∀ r : Nat, r < 2 ^ K → sp K o (sp K (backI o K K) (r ^^^ (negI (f : Int) (backI o K K) K).toNat) ^^^ f) = r := by
  rcases nn4 hK with rfl | rfl | rfl | rfl <;> decide +kernel
end PlainBT
end Mine
namespace Mine
section PlainCT
theorem fl_ofB {K : Nat} (hK : K ≤ 3) {t : Int} {i : Nat} (hi : i < K) (h0 : 0 ≤ t) (h1 : t < 2 ^ (2 ^ K)) : flI t i K = ofB (fun r => bt t (r ^^^ 2 ^ i)) (2 ^ K) := by
  obtain ⟨n, rfl⟩ : ∃ n : Nat, t = n := ⟨t.toNat, by omega⟩
  rcases nn4 hK with rfl | rfl | rfl | rfl
  · omega
  · have h1 : (n : Int) < 4 := h1
    exact fl1 n (by omega) i hi
  · have h1 : (n : Int) < 16 := h1
    exact fl2 n (by omega) i hi
  · have h1 : (n : Int) < 256 := h1
    exact fl3 n (by omega) i hi
theorem cp_both {K : Nat} (hK : K ≤ 3) {t : Int} (h0 : 0 ≤ t) (h1 : t < 2 ^ (2 ^ K)) : Builtin.bitXor (fullI K) t = fullI K - t ∧ Builtin.bitXor t (fullI K) = fullI K - t := by
  obtain ⟨n, rfl⟩ : ∃ n : Nat, t = n := ⟨t.toNat, by omega⟩
  rcases nn4 hK with rfl | rfl | rfl | rfl
  · have h1 : (n : Int) < 2 := h1
    exact cp0 n (by omega)
  · have h1 : (n : Int) < 4 := h1
    exact cp1 n (by omega)
  · have h1 : (n : Int) < 16 := h1
    exact cp2 n (by omega)
  · have h1 : (n : Int) < 256 := h1
    exact cp3 n (by omega)
theorem xor_lt {K a b : Nat} (ha : a < 2 ^ K) (hb : b < 2 ^ K) : a ^^^ b < 2 ^ K := Nat.xor_lt_two_pow ha hb
theorem pow_lt {K i : Nat} (hi : i < K) : 2 ^ i < 2 ^ K := Nat.pow_lt_pow_right (by decide) hi
/-- a table read through an order and a mask -/
def rd (K : Nat) (t : Int) (o : List Int) (f : Nat) : Int := ofB (fun r => bt t (sp K o (r ^^^ f))) (2 ^ K)
def rdC (K : Nat) (t : Int) (o : List Int) (f : Nat) : Int := ofB (fun r => 1 - bt t (sp K o (r ^^^ f))) (2 ^ K)
theorem one_sub01 {x : Int} (h : x = 0 ∨ x = 1) : 1 - x = 0 ∨ 1 - x = 1 := by omega
theorem rd_rng (K : Nat) (t : Int) (o : List Int) (f : Nat) : 0 ≤ rd K t o f ∧ rd K t o f < 2 ^ (2 ^ K) := ofB_rng fun _ _ => bt_01 _ _
theorem rd_compl (K : Nat) (t : Int) (o : List Int) (f : Nat) : fullI K - rd K t o f = rdC K t o f := ofB_compl _
theorem made_rd {K : Nat} (hK : K ≤ 3) {t : Int} {o : List Int} (ho : o ∈ lawRows K) {f : Nat} (hf : f < 2 ^ K) : madeI t o f 0 K (2 ^ K) = rd K t o f := by
  rw [madeI_ofB]
  exact ofB_congr fun r hr => by rw [idx_eq hK o ho f hf r hr]; rfl
theorem made_rdC {K : Nat} (hK : K ≤ 3) {t : Int} {o : List Int} (ho : o ∈ lawRows K) {f : Nat} (hf : f < 2 ^ K) : madeI t o f 1 K (2 ^ K) = fullI K - rd K t o f := by
  rw [madeI_ofB, rd_compl]
  exact ofB_congr fun r hr => by rw [idx_eq hK o ho f hf r hr]; rfl
theorem rd_bt {K : Nat} {t : Int} {o : List Int} {f j : Nat} (hj : j < 2 ^ K) : bt (rd K t o f) j = bt t (sp K o (j ^^^ f)) := ofB_bt (fun _ _ => bt_01 _ _) j hj
theorem full_bt {K : Nat} {t : Int} {o : List Int} {f j : Nat} (hj : j < 2 ^ K) : bt (fullI K - rd K t o f) j = 1 - bt t (sp K o (j ^^^ f)) := by
  rw [rd_compl]
  exact ofB_bt (fun _ _ => one_sub01 (bt_01 _ _)) j hj
/-- the law's turned table -/
theorem tn_rd {K : Nat} (hK : K ≤ 3) {t : Int} {o : List Int} (ho : o ∈ lawRows K) {n : Nat} (hn : n < 2 ^ K) : tnI (madeI t o 0 0 K (2 ^ K)) K n = rd K t o n := by
  have h00 : (0 : Nat) < 2 ^ K := Nat.two_pow_pos K
  have e0 : madeI t o 0 0 K (2 ^ K) = rd K t o 0 := made_rd hK ho h00
  have hid := id_law hK
  unfold tnI
  rw [made_rd hK hid.1 hn, e0]
  refine ofB_congr fun r hr => ?_
  have hx := xor_lt hr hn
  rw [hid.2 _ hx, rd_bt hx, Nat.xor_zero]
theorem perm_rd {K : Nat} (hK : K ≤ 3) {t : Int} {o : List Int} (ho : o ∈ lawRows K) : permI t o K (2 ^ K) = rd K t o 0 := by
  rw [permI_ofB]
  exact ofB_congr fun r hr => by rw [spread_sp hK o ho r hr, Nat.xor_zero]
theorem fl_rd {K : Nat} (hK : K ≤ 3) {t : Int} {o : List Int} {f i : Nat} (hi : i < K) : flI (rd K t o f) i K = rd K t o (f ^^^ 2 ^ i) := by
  have hr := rd_rng K t o f
  rw [fl_ofB hK hi hr.1 hr.2]
  refine ofB_congr fun r hr => ?_
  rw [rd_bt (xor_lt hr (pow_lt hi))]
  congr 2
  rw [Nat.xor_assoc, Nat.xor_comm (2 ^ i) f]
theorem cFound_rd {K : Nat} (hK : K ≤ 3) {t : Int} {o : List Int} (ho : o ∈ lawRows K) : ∀ n, n < 2 ^ K → cFound t o K n = rd K t o (cInp n).toNat
  | 0, _ => perm_rd hK ho
  | n + 1, h => by
    have h8 := p8 hK
    rw [cFound, cFound_rd hK ho n (by omega), fl_rd hK (lowI_lt hK (by omega) h), cInp_next n (by omega)]
/-- apply_form's run -/
def mask (f : Int) : Nat → Nat
  | 0 => 0
  | n + 1 => if f / 2 ^ n % 2 = 1 then mask f n ^^^ 2 ^ n else mask f n
theorem mask_all {K : Nat} (hK : K ≤ 3) : ∀ f : Nat, f < 2 ^ K → mask (f : Int) K = f := by
  rcases nn4 hK with rfl | rfl | rfl | rfl <;> decide +kernel
theorem appL_rd {K : Nat} (hK : K ≤ 3) {t f : Int} {o : List Int} (ho : o ∈ lawRows K) : ∀ n, n ≤ K → appL t o f K n = rd K t o (mask f n)
  | 0, _ => perm_rd hK ho
  | n + 1, h => by
    rw [appL, mask, appL_rd hK ho n (by omega)]
    by_cases hb : f / 2 ^ n % 2 = 1
    · rw [if_pos hb, if_pos hb, fl_rd hK (by omega)]
    · rw [if_neg hb, if_neg hb]
theorem app_made {K : Nat} (hK : K ≤ 3) {t u : Int} {o : List Int} {f : Nat} (ho : o ∈ lawRows K) (hf : f < 2 ^ K) (hu : u = 0 ∨ u = 1) : appI t o f u K = madeI t o f u K (2 ^ K) := by
  have e : appL t o f K K = rd K t o f := by rw [appL_rd hK ho K (Nat.le_refl _), mask_all hK f hf]
  have hr := rd_rng K t o f
  unfold appI
  rcases hu with rfl | rfl
  · rw [if_neg (by decide), e, made_rd hK ho hf]
  · rw [if_pos rfl, e, (cp_both hK hr.1 hr.2).2, made_rdC hK ho hf]
end PlainCT
end Mine
namespace Mine
section PlainDT
def IsF (K : Nat) (g : List Int × Int × Int) : Prop := g.1 ∈ lawRows K ∧ (0 ≤ g.2.1 ∧ g.2.1 < 2 ^ K) ∧ (g.2.2 = 0 ∨ g.2.2 = 1)
def val (t : Int) (K : Nat) (g : List Int × Int × Int) : Int := madeI t g.1 g.2.1 g.2.2 K (2 ^ K)
theorem natOf {K : Nat} {f : Int} (h : 0 ≤ f ∧ f < 2 ^ K) : f = (f.toNat : Int) ∧ f.toNat < 2 ^ K := by
  have := kbt_cast K
  omega
theorem val0 {K : Nat} (hK : K ≤ 3) {t f : Int} {o : List Int} (ho : o ∈ lawRows K) (hf : 0 ≤ f ∧ f < 2 ^ K) : val t K (o, f, 0) = rd K t o f.toNat := by
  have h := natOf hf
  have e := made_rd hK (t := t) ho h.2
  rw [← h.1] at e
  exact e
theorem val1 {K : Nat} (hK : K ≤ 3) {t f : Int} {o : List Int} (ho : o ∈ lawRows K) (hf : 0 ≤ f ∧ f < 2 ^ K) : val t K (o, f, 1) = fullI K - rd K t o f.toNat := by
  have h := natOf hf
  have e := made_rdC hK (t := t) ho h.2
  rw [← h.1] at e
  exact e
def Good (t : Int) (K : Nat) (b : Int × List Int × Int × Int) : Prop := IsF K b.2 ∧ b.1 = val t K b.2
theorem cStep_spec {K : Nat} (hK : K ≤ 3) {t : Int} {o : List Int} (ho : o ∈ lawRows K) {n : Nat} (hn : n < 2 ^ K) {b : Int × List Int × Int × Int} (hb : Good t K b) :
    Good t K (cStep K (rd K t o (cInp n).toNat) o (cInp n) b) ∧ (cStep K (rd K t o (cInp n).toNat) o (cInp n) b).1 ≤ b.1 ∧
      (cStep K (rd K t o (cInp n).toNat) o (cInp n) b).1 ≤ rd K t o (cInp n).toNat ∧ (cStep K (rd K t o (cInp n).toNat) o (cInp n) b).1 ≤ fullI K - rd K t o (cInp n).toNat := by
  have hc := cInp_rng hK n hn
  have hr := rd_rng K t o (cInp n).toNat
  have hx := (cp_both hK hr.1 hr.2).1
  have g0 : Good t K (rd K t o (cInp n).toNat, (o, cInp n, 0)) := ⟨⟨ho, hc, .inl rfl⟩, (val0 hK ho hc).symm⟩
  have g1 : Good t K (fullI K - rd K t o (cInp n).toNat, (o, cInp n, 1)) := ⟨⟨ho, hc, .inr rfl⟩, (val1 hK ho hc).symm⟩
  unfold cStep
  rw [hx]
  generalize rd K t o (cInp n).toNat = f at *
  by_cases h1 : f < b.1
  · simp only [if_pos h1]
    by_cases h2 : fullI K - f < f
    · simp only [if_pos h2]
      exact ⟨g1, by omega, by omega, by omega⟩
    · simp only [if_neg h2]
      exact ⟨g0, by omega, by omega, by omega⟩
  · simp only [if_neg h1]
    by_cases h2 : fullI K - f < b.1
    · simp only [if_pos h2]
      exact ⟨g1, by omega, by omega, by omega⟩
    · simp only [if_neg h2]
      exact ⟨hb, by omega, by omega, by omega⟩
theorem cBest_spec {K : Nat} (hK : K ≤ 3) {t : Int} {o : List Int} (ho : o ∈ lawRows K) {b : Int × List Int × Int × Int} (hb : Good t K b) : ∀ n, n ≤ 2 ^ K →
    Good t K (cBest t o K b n) ∧ (cBest t o K b n).1 ≤ b.1 ∧ ∀ j, j < n → (cBest t o K b n).1 ≤ rd K t o (cInp j).toNat ∧ (cBest t o K b n).1 ≤ fullI K - rd K t o (cInp j).toNat
  | 0, _ => ⟨hb, Int.le_refl _, fun j hj => absurd hj (Nat.not_lt_zero _)⟩
  | n + 1, hn => by
    obtain ⟨h1, h2, h3⟩ := cBest_spec hK (t := t) ho hb n (by omega)
    have hs := cStep_spec hK (t := t) ho (show n < 2 ^ K by omega) h1
    rw [cBest, cFound_rd hK ho n (by omega)]
    refine ⟨hs.1, by omega, fun j hj => ?_⟩
    rcases Nat.lt_or_ge j n with hl | hl
    · have := h3 j hl
      omega
    · have e : j = n := by omega
      subst e
      omega
theorem canAll_spec {K : Nat} (hK : K ≤ 3) {t : Int} : ∀ (rows : List (List Int)) (b : Int × List Int × Int × Int), (∀ o ∈ rows, o ∈ lawRows K) → Good t K b →
    Good t K (canAll t K rows b) ∧ (canAll t K rows b).1 ≤ b.1 ∧ ∀ o ∈ rows, ∀ j, j < 2 ^ K → (canAll t K rows b).1 ≤ rd K t o (cInp j).toNat ∧ (canAll t K rows b).1 ≤ fullI K - rd K t o (cInp j).toNat
  | [], b, _, hb => ⟨hb, Int.le_refl _, fun o ho => nomatch ho⟩
  | o :: rows, b, hs, hb => by
    obtain ⟨h1, h2, h3⟩ := cBest_spec hK (t := t) (hs o (.head _)) hb (2 ^ K) (Nat.le_refl _)
    obtain ⟨k1, k2, k3⟩ := canAll_spec hK (t := t) rows (cBest t o K b (2 ^ K)) (fun q hq => hs q (.tail _ hq)) h1
    have e : canAll t K (o :: rows) b = canAll t K rows (cBest t o K b (2 ^ K)) := rfl
    rw [e]
    refine ⟨k1, by omega, fun q hq j hj => ?_⟩
    rcases List.mem_cons.mp hq with rfl | hq
    · have := h3 j hj
      omega
    · exact k3 q hq j hj
theorem self_ofB {K : Nat} {t : Int} (h0 : 0 ≤ t) (h1 : t < 2 ^ (2 ^ K)) : ofB (bt t) (2 ^ K) = t := by rw [ofB_self h0, Int.emod_eq_of_lt h0 h1]
theorem id_val {K : Nat} (hK : K ≤ 3) {t : Int} (h0 : 0 ≤ t) (h1 : t < 2 ^ (2 ^ K)) : val t K (rangeKs 0 K, 0, 0) = t := by
  have hid := id_law hK
  rw [val0 hK hid.1 ⟨Int.le_refl 0, kbt_pos K⟩]
  refine Eq.trans (ofB_congr fun r hr => ?_) (self_ofB h0 h1)
  show bt t (sp K (rangeKs 0 K) (r ^^^ 0)) = bt t r
  rw [Nat.xor_zero, hid.2 r hr]
theorem can_final {K : Nat} (hK : K ≤ 3) {t : Int} (h0 : 0 ≤ t) (h1 : t < 2 ^ (2 ^ K)) : Good t K (canI t K) ∧ ∀ g, IsF K g → (canI t K).1 ≤ val t K g := by
  have hid := id_law hK
  have hol := ords_law hK
  obtain ⟨a, _, c⟩ := canAll_spec hK (t := t) (ordsL K K) (t, (rangeKs 0 K, 0, 0)) hol.1 ⟨⟨hid.1, ⟨Int.le_refl 0, kbt_pos K⟩, .inl rfl⟩, (id_val hK h0 h1).symm⟩
  refine ⟨a, ?_⟩
  rintro ⟨o, f, u⟩ ⟨ho, hf, hu⟩
  dsimp only at ho hf hu
  have hn := natOf hf
  obtain ⟨n, hn2, hc⟩ := cInp_surj hK f.toNat hn.2
  have := c o (hol.2 o ho) n hn2
  have e : (cInp n).toNat = f.toNat := by rw [hc]; rfl
  rw [e] at this
  rcases hu with rfl | rfl
  · rw [val0 hK ho hf]; exact this.1
  · rw [val1 hK ho hf]; exact this.2
theorem lInner_spec (f : Int) (K : Nat) (b : Int) : ∀ n, lInner f K b n ≤ b ∧ (∀ j, j < n → lInner f K b n ≤ tnI f K j ∧ lInner f K b n ≤ fullI K - tnI f K j) ∧
    (lInner f K b n = b ∨ ∃ j, j < n ∧ (lInner f K b n = tnI f K j ∨ lInner f K b n = fullI K - tnI f K j))
  | 0 => ⟨Int.le_refl _, fun j hj => absurd hj (Nat.not_lt_zero _), .inl rfl⟩
  | n + 1 => by
    obtain ⟨h1, h2, h3⟩ := lInner_spec f K b n
    rw [lInner]
    refine ⟨by omega, fun j hj => ?_, ?_⟩
    · rcases Nat.lt_or_ge j n with hl | hl
      · have := h2 j hl
        omega
      · have e : j = n := by omega
        subst e
        omega
    · have hm : min (min (lInner f K b n) (tnI f K n)) (fullI K - tnI f K n) = lInner f K b n ∨ min (min (lInner f K b n) (tnI f K n)) (fullI K - tnI f K n) = tnI f K n ∨ min (min (lInner f K b n) (tnI f K n)) (fullI K - tnI f K n) = fullI K - tnI f K n := by omega
      rcases hm with e | e | e
      · rw [e]
        rcases h3 with h3 | ⟨j, hj, h3⟩
        · exact .inl h3
        · exact .inr ⟨j, by omega, h3⟩
      · exact .inr ⟨n, by omega, .inl e⟩
      · exact .inr ⟨n, by omega, .inr e⟩
theorem lAll_spec (K : Nat) : ∀ (l : List Int) (b : Int), lAll K l b ≤ b ∧ (∀ f ∈ l, ∀ j, j < 2 ^ K → lAll K l b ≤ tnI f K j ∧ lAll K l b ≤ fullI K - tnI f K j) ∧
    (lAll K l b = b ∨ ∃ f ∈ l, ∃ j, j < 2 ^ K ∧ (lAll K l b = tnI f K j ∨ lAll K l b = fullI K - tnI f K j))
  | [], b => ⟨Int.le_refl _, fun f hf => (nomatch hf), .inl rfl⟩
  | f :: l, b => by
    obtain ⟨h1, h2, h3⟩ := lInner_spec f K b (2 ^ K)
    obtain ⟨k1, k2, k3⟩ := lAll_spec K l (lInner f K b (2 ^ K))
    have e : lAll K (f :: l) b = lAll K l (lInner f K b (2 ^ K)) := rfl
    rw [e]
    refine ⟨by omega, fun q hq j hj => ?_, ?_⟩
    · rcases List.mem_cons.mp hq with rfl | hq
      · have := h2 j hj
        omega
      · exact k2 q hq j hj
    · rcases k3 with k3 | ⟨q, hq, j, hj, k3⟩
      · rw [k3]
        rcases h3 with h3 | ⟨j, hj, h3⟩
        · exact .inl h3
        · exact .inr ⟨f, .head _, j, hj, h3⟩
      · exact .inr ⟨q, .tail _ hq, j, hj, k3⟩
theorem val_rng {K : Nat} (hK : K ≤ 3) {t : Int} {g : List Int × Int × Int} (hg : IsF K g) : 0 ≤ val t K g ∧ val t K g < 2 ^ (2 ^ K) := by
  obtain ⟨o, f, u⟩ := g
  obtain ⟨ho, hf, hu⟩ := hg
  dsimp only at ho hf hu
  have hr := rd_rng K t o f.toNat
  rcases hu with rfl | rfl
  · rw [val0 hK ho hf]; exact hr
  · rw [val1 hK ho hf]; unfold fullI; omega
theorem least_final {K : Nat} (hK : K ≤ 3) {t : Int} : (∀ g, IsF K g → leastI t K ≤ val t K g) ∧ ∃ g, IsF K g ∧ leastI t K = val t K g := by
  obtain ⟨_, a2, a3⟩ := lAll_spec K ((lawRows K).map fun o => madeI t o 0 0 K (2 ^ K)) (fullI K)
  have low : ∀ g, IsF K g → leastI t K ≤ val t K g := by
    rintro ⟨o, f, u⟩ ⟨ho, hf, hu⟩
    dsimp only at ho hf hu
    have hn := natOf hf
    have := a2 _ (List.mem_map.mpr ⟨o, ho, rfl⟩) f.toNat hn.2
    rw [tn_rd hK ho hn.2] at this
    rcases hu with rfl | rfl
    · rw [val0 hK ho hf]; exact this.1
    · rw [val1 hK ho hf]; exact this.2
  refine ⟨low, ?_⟩
  rcases a3 with a3 | ⟨q, hq, j, hj, a3⟩
  · have hid := id_law hK
    have hg : IsF K (rangeKs 0 K, 0, 0) := ⟨hid.1, ⟨Int.le_refl 0, kbt_pos K⟩, .inl rfl⟩
    have h1 := low _ hg
    have h2 := val_rng hK (t := t) hg
    have e : leastI t K = fullI K := a3
    have e2 : fullI K = 2 ^ (2 ^ K) - 1 := rfl
    exact ⟨_, hg, by omega⟩
  · obtain ⟨o, ho, rfl⟩ := List.mem_map.mp hq
    rw [tn_rd hK ho hj] at a3
    have hj2 : 0 ≤ (j : Int) ∧ (j : Int) < 2 ^ K := by have := kbt_cast K; omega
    rcases a3 with a3 | a3
    · exact ⟨(o, (j : Int), 0), ⟨ho, hj2, .inl rfl⟩, by rw [val0 hK ho hj2]; exact a3⟩
    · exact ⟨(o, (j : Int), 1), ⟨ho, hj2, .inr rfl⟩, by rw [val1 hK ho hj2]; exact a3⟩
theorem can_least {K : Nat} (hK : K ≤ 3) {t : Int} (h0 : 0 ≤ t) (h1 : t < 2 ^ (2 ^ K)) : (canI t K).1 = leastI t K := by
  obtain ⟨⟨g1, g2⟩, c⟩ := can_final hK h0 h1
  obtain ⟨l, g, hg, e⟩ := least_final hK (t := t)
  have h2 := c g hg
  have h3 := l _ g1
  omega
theorem plain1 {K : Nat} (hK : K ≤ 3) {t : Int} (h0 : 0 ≤ t) (h1 : t < 2 ^ (2 ^ K)) :
    (canI t K).1 = leastI t K ∧ (canI t K).2.1 ∈ lawRows K ∧ madeI t (canI t K).2.1 (canI t K).2.2.1 (canI t K).2.2.2 K (2 ^ K) = leastI t K := by
  obtain ⟨⟨g1, g2⟩, c⟩ := can_final hK h0 h1
  have e := can_least hK h0 h1
  exact ⟨e, g1.1, g2.symm.trans e⟩
/-- the bits of a made table -/
theorem val_ofB {K : Nat} (hK : K ≤ 3) {t f u : Int} {o : List Int} (ho : o ∈ lawRows K) (hf : 0 ≤ f ∧ f < 2 ^ K) (hu : u = 0 ∨ u = 1) : val t K (o, f, u) = ofB (fun r => xo u (bt t (sp K o (r ^^^ f.toNat)))) (2 ^ K) := by
  rcases hu with rfl | rfl
  · rw [val0 hK ho hf]; rfl
  · rw [val1 hK ho hf, rd_compl]; rfl
theorem xo_01 {u x : Int} (h : x = 0 ∨ x = 1) : xo u x = 0 ∨ xo u x = 1 := by unfold xo; split <;> omega
theorem val_bt {K : Nat} (hK : K ≤ 3) {t f u : Int} {o : List Int} (ho : o ∈ lawRows K) (hf : 0 ≤ f ∧ f < 2 ^ K) (hu : u = 0 ∨ u = 1) {j : Nat} (hj : j < 2 ^ K) : bt (val t K (o, f, u)) j = xo u (bt t (sp K o (j ^^^ f.toNat))) := by
  rw [val_ofB hK ho hf hu]
  exact ofB_bt (fun _ _ => xo_01 (bt_01 _ _)) j hj
theorem val_val {K : Nat} (hK : K ≤ 3) {t f u f' u' : Int} {o o' : List Int} (ho : o ∈ lawRows K) (hf : 0 ≤ f ∧ f < 2 ^ K) (hu : u = 0 ∨ u = 1) (ho' : o' ∈ lawRows K) (hf' : 0 ≤ f' ∧ f' < 2 ^ K) (hu' : u' = 0 ∨ u' = 1) :
    val (val t K (o, f, u)) K (o', f', u') = ofB (fun r => xo u' (xo u (bt t (sp K o (sp K o' (r ^^^ f'.toNat) ^^^ f.toNat))))) (2 ^ K) := by
  rw [val_ofB hK ho' hf' hu']
  refine ofB_congr fun r hr => ?_
  have hn := natOf hf'
  rw [val_bt hK ho hf hu (sp_lt hK o' ho' _ (xor_lt hr hn.2))]
theorem comp_form {K : Nat} (hK : K ≤ 3) {g h : List Int × Int × Int} (hg : IsF K g) (hh : IsF K h) : ∃ k, IsF K k ∧ ∀ t, val (val t K g) K h = val t K k := by
  obtain ⟨o, f, u⟩ := g
  obtain ⟨o', f', u'⟩ := h
  obtain ⟨ho, hf, hu⟩ := hg
  obtain ⟨ho', hf', hu'⟩ := hh
  dsimp only at ho hf hu ho' hf' hu'
  have hn := natOf hf
  have hn' := natOf hf'
  obtain ⟨y, hy, ey⟩ := sp_surj hK o' ho' f.toNat hn.2
  obtain ⟨o₃, ho₃, e₃⟩ := sp_comp hK o ho o' ho'
  have hxy := xor_lt hn'.2 hy
  have hb : 0 ≤ ((f'.toNat ^^^ y : Nat) : Int) ∧ ((f'.toNat ^^^ y : Nat) : Int) < 2 ^ K := by have := kbt_cast K; omega
  have hw : (if u = u' then (0 : Int) else 1) = 0 ∨ (if u = u' then (0 : Int) else 1) = 1 := by split <;> omega
  refine ⟨(o₃, ((f'.toNat ^^^ y : Nat) : Int), if u = u' then 0 else 1), ⟨ho₃, hb, hw⟩, fun t => ?_⟩
  rw [val_val hK ho hf hu ho' hf' hu', val_ofB hK ho₃ hb hw]
  refine ofB_congr fun r hr => ?_
  have hrf := xor_lt hr hn'.2
  have e1 : sp K o (sp K o' (r ^^^ f'.toNat) ^^^ f.toNat) = sp K o₃ (r ^^^ (f'.toNat ^^^ y)) := by
    rw [← ey, ← sp_xor hK o' ho' _ hrf y hy, Nat.xor_assoc]
    exact e₃ _ (xor_lt hr hxy)
  rw [e1]
  show _ = xo (if u = u' then 0 else 1) (bt t (sp K o₃ (r ^^^ (((f'.toNat ^^^ y : Nat) : Int)).toNat)))
  rw [Int.toNat_natCast]
  generalize bt t (sp K o₃ (r ^^^ (f'.toNat ^^^ y))) = x
  unfold xo
  rcases hu with rfl | rfl <;> rcases hu' with rfl | rfl <;> simp <;> omega
theorem inv_form {K : Nat} (hK : K ≤ 3) {t f u : Int} {o : List Int} (ho : o ∈ lawRows K) (hf : 0 ≤ f ∧ f < 2 ^ K) (hu : u = 0 ∨ u = 1) (h0 : 0 ≤ t) (h1 : t < 2 ^ (2 ^ K)) :
    IsF K (backI o K K, negI f (backI o K K) K, u) ∧ val (val t K (o, f, u)) K (backI o K K, negI f (backI o K K) K, u) = t := by
  have hn := natOf hf
  obtain ⟨hb, hb2⟩ := back_law hK o ho
  obtain ⟨hr, hs⟩ := hb2 f.toNat hn.2
  rw [← hn.1] at hr hs
  refine ⟨⟨hb, hr, hu⟩, ?_⟩
  rw [val_val hK ho hf hu hb hr hu]
  refine Eq.trans (ofB_congr fun r hr9 => ?_) (self_ofB h0 h1)
  rw [hs r hr9]
  unfold xo
  rcases hu with rfl | rfl
  · rfl
  · simp only [if_true]; omega
theorem least_same {K : Nat} (hK : K ≤ 3) {t : Int} {g : List Int × Int × Int} (hg : IsF K g) (h0 : 0 ≤ t) (h1 : t < 2 ^ (2 ^ K)) : leastI (val t K g) K = leastI t K := by
  have up : ∀ (t : Int) (g : List Int × Int × Int), IsF K g → leastI t K ≤ leastI (val t K g) K := by
    intro t g hg
    obtain ⟨_, h, hh, e⟩ := least_final hK (t := val t K g)
    obtain ⟨k, hk, ek⟩ := comp_form hK hg hh
    rw [e, ek t]
    exact (least_final hK).1 k hk
  obtain ⟨o, f, u⟩ := g
  have hg' := hg
  obtain ⟨ho, hf, hu⟩ := hg'
  dsimp only at ho hf hu
  obtain ⟨i1, i2⟩ := inv_form hK (t := t) ho hf hu h0 h1
  have a := up t _ hg
  have b := up (val t K (o, f, u)) _ i1
  rw [i2] at b
  omega
theorem plain2 {K : Nat} (hK : K ≤ 3) {t fl ou : Int} {ord : List Int} (h0 : 0 ≤ t) (h1 : t < 2 ^ (2 ^ K)) (ho : ord ∈ lawRows K) (hf0 : 0 ≤ fl) (hf1 : fl < 2 ^ K) (hu0 : 0 ≤ ou) (hu1 : ou < 2) :
    madeI t ord fl ou K (2 ^ K) = appI t ord fl ou K ∧ (0 ≤ appI t ord fl ou K ∧ appI t ord fl ou K < 2 ^ (2 ^ K)) ∧ (canI (appI t ord fl ou K) K).1 = leastI t K ∧
      appI (appI t ord fl ou K) (backI ord K K) (negI fl (backI ord K K) K) ou K = t := by
  have hu : ou = 0 ∨ ou = 1 := by omega
  have hn := natOf ⟨hf0, hf1⟩
  have e : appI t ord fl ou K = val t K (ord, fl, ou) := by
    have := app_made hK (t := t) ho hn.2 hu
    rw [← hn.1] at this
    exact this
  have hg : IsF K (ord, fl, ou) := ⟨ho, ⟨hf0, hf1⟩, hu⟩
  have hr := val_rng hK (t := t) hg
  obtain ⟨i1, i2⟩ := inv_form hK (t := t) ho ⟨hf0, hf1⟩ hu h0 h1
  rw [e]
  refine ⟨rfl, hr, ?_, ?_⟩
  · rw [can_least hK hr.1 hr.2, least_same hK hg h0 h1]
  · have hm := natOf i1.2.1
    dsimp only at hm
    have := app_made hK (t := val t K (ord, fl, ou)) i1.1 hm.2 hu
    rw [← hm.1] at this
    exact this.trans i2
end PlainDT
end Mine
namespace Mine
section LawT
open PyProof.Rows.LCg
local macro_rules | `(tactic| walk_at "execs cons") => `(tactic| ((with_reducible show wpAny _ _ (execs _ _) _ _ ⟨_, _, _, _ + 1, _⟩); refine gentok ?_; intro tk))
local macro_rules | `(tactic| walk_at "execs nil") => `(tactic| ((with_reducible show wpAny _ _ (execs _ _) _ _ ⟨_, _, _, _ + 1, _⟩); refine gentok ?_; intro tk))
local macro_rules | `(tactic| k_mem) => `(tactic| assumption)
local macro_rules | `(tactic| walk_at "binaryOp Pow int int") => `(tactic| ((with_reducible show wpAny _ _ (binaryOp _ (Value.int 2 _) (Value.int _ _)) _ _ _); refine r_pow2 (by omega) (by omega) ?_))
local macro_rules | `(tactic| walk_at "binaryOp Mult int int") => `(tactic| (refine r_mul ?a ?b ?_; (case a => omega); (case b => omega)))
local macro_rules | `(tactic| walk_at "binaryOp FloorDiv int int") => `(tactic| first | (refine r_divp ?a ?_; (case a => omega)) | (refine r_div ?a ?b ?_; (case a => omega); (case b => omega)))
local macro_rules | `(tactic| walk_at "binaryOp Mod int int") => `(tactic| (refine r_mod ?a ?_; (case a => first | exact pow_pos2 _ | omega)))
local macro_rules | `(tactic| walk_at "binaryOp RShift int int") => `(tactic| (refine r_shr ?a ?_; (case a => omega)))
local macro_rules | `(tactic| walk_at "binaryOp LShift int int") => `(tactic| (refine r_shl ?a ?b ?c ?d ?_; (case a => omega); (case b => omega); (case c => omega); (case d => omega)))
local macro_rules | `(tactic| walk_at "binaryOp BitAnd int int") => `(tactic| ((with_reducible show wpAny _ _ (binaryOp _ (Value.int _ _) (Value.int 1 _)) _ _ _); refine r_and1 ?_))
local macro_rules | `(tactic| walk_at "subscriptTail") => `(tactic| (k_here; (with_reducible show wpAny _ _ (subscriptTail _ _ (Value.ref _) (Value.int _ _)) _ _ _); k_dflt (refine' r_item ?t ?i ?o ?a ?b ?c ?_; (case t => exact News.isTup (by k_asm) (by k_mem)); (case i => assumption); (case o => assumption); (case a => omega); (case b => omega); (case c => omega); intro _ _ _)))
local macro_rules | `(tactic| walk_at "mine enterB") => `(tactic| (k_dflt (refine' code_defB ?k1 ?k2 ?k3 ?k4 ?k5 ?kA ?kF ?kK ?k6 ?k7 ?k8 ?k9 ?kB ?_ ?c2 ?c3 ?c4 ?c5; (case kA => exact rfl); (case kF => exact rfl); (case kK => assumption); (case k1 => k_asm); (case k2 => k_asm); (case k3 => k_asm); (case k4 => k_asm); (case k5 => k_asm); (case k6 => k_is); (case k7 => k_is); (case k8 => ktr_room); (case k9 => exact BindsTo.of_eq rfl); (case c5 => decide); (case kB => exact locs rfl); (case c2 => exact rfl); (case c3 => exact rfl); (case c4 => exact rfl); k_whole; intro g' L' h' F' N' B' X' T' hbase; (try dsimp only); (try k_fold))))
local macro_rules | `(tactic| walk_at "mine enterCB") => `(tactic| (k_dflt (refine' code_defCB ?k1 ?k2 ?k3 ?k4 ?k5 ?kA ?kF ?kK ?k6 ?k7 ?k8 ?k9 ?kB ?kD ?_ ?c2 ?c3 ?c4; (case kA => exact rfl); (case kF => exact rfl); (case kK => assumption); (case k1 => k_asm); (case k2 => k_asm); (case k3 => k_asm); (case k4 => k_asm); (case k5 => k_asm); (case k6 => k_is); (case k7 => k_is); (case k8 => ktr_room); (case k9 => exact BindsTo.of_eq rfl); (case kB => exact rfl); (case kD => decide +kernel); (case c2 => exact rfl); (case c3 => exact rfl); (case c4 => exact rfl); k_whole; intro g' L' h' tk' cells' F' N' Y' B' X' T' hbase; k_cells Y'; (try simp only [List.cons_append, List.nil_append] at N'); (try dsimp only); (try k_fold))))
local macro_rules | `(tactic| walk_at "mine ints") => `(tactic| first | assumption | exact IntsAre.nil | exact IntsAre.cons _ _ (by walk_at "mine ints"))
local macro_rules | `(tactic| walk_at "compareOp NotIn int ref") => `(tactic| (k_here; k_dflt (refine' notin_tuple_ints ?t ?i ?_; (case t => exact News.isTup (by k_asm) (by k_mem)); (case i => walk_at "mine ints"); k_whole)))
local macro_rules | `(tactic| walk_at "mine cut") => `(tactic| first | (refine' Cut.here ?_; k_all) | (refine' Cut.there ?a ?b; (case a => k_ne); (case b => walk_at "mine cut")))
local macro_rules | `(tactic| walk_at "UnrEnd") => `(tactic| (refine' unrEnd_cut (by assumption) (by assumption) ?c ?_; (case c => walk_at "mine cut"); first | (k_dflt (refine ⟨by k_mem, ?_⟩)) | skip))
local macro_rules | `(tactic| walk_at "mine enter") => `(tactic| (refine wpAny_call ?_; k_dflt cell_enter))
local macro_rules | `(tactic| walk_at "call builtin:len") => `(tactic| (k_here; (with_reducible show wpAny _ _ (call (Value.builtin "len") [Value.ref _]) _ _ _); k_dflt (refine' r_len ?t ?e ?k ?_; (case t => exact News.isTup (by k_asm) (by k_mem)); (case e => assumption); (case k => omega))))

section
local macro_rules | `(tactic| walk_at "pyIter ref") => `(tactic| ((with_reducible show wpAny _ _ (pyIter (Value.ref _)) (fun it s₂ => LoopAtV _ _ _ _ _ _ _ _ _ it s₂) _ _); refine Stop.mk ?_))
local macro_rules | `(tactic| walk_at "InvEndN") => `(tactic| refine Stop.mk ?_)
local macro_rules | `(tactic| walk_at "InvEndG") => `(tactic| refine Stop.mk ?_)
local macro_rules | `(tactic| walk_at "call builtin:len") => `(tactic| k_extra "call builtin:len")
local macro_rules | `(tactic| walk_at "subscriptTail") => `(tactic| k_extra "subscriptTail")
local macro_rules | `(tactic| k_mem) => `(tactic| first | assumption | exact List.mem_cons_of_mem _ (by assumption))
local macro_rules | `(tactic| walk_at "newTuple") => `(tactic| k_extra "newTuple")
local macro_rules | `(tactic| walk_at "call ref") => `(tactic| ((with_reducible show wpAny _ _ (call (Value.ref 103) _) _ _ _); k_dflt (refine' ctrI_use (made_C _ ?q1 _ _ _ _ _ _ _ _ _ _ _ _ _ ?q2 ?q3 ?q4 ?q5) ?k1 ?k2 ?k3 ?k4 ?k5 ?kK ?kd ?ku ?_; (case k1 => k_asm); (case k2 => k_asm); (case k3 => k_asm); (case k4 => k_asm); (case k5 => k_asm); (case kK => first | exact rfl | assumption); (case kd => ktr_room); (case ku => ktr_units); (case q1 => assumption); (case q5 => k_mem); (case q2 => assumption); (case q3 => assumption); (case q4 => assumption); intro t9 h9 tk9 F9 N9; (try dsimp only); (try k_fold))))
local macro_rules | `(tactic| walk_at "CompEnd") => `(tactic| refine Stop.mk ?_)
local macro_rules | `(tactic| walk_at "call type:tuple") => `(tactic| k_extra "call type:tuple")
local macro_rules | `(tactic| walk_at "call type:range") => `(tactic| ((rename Fr _ _ _ _ => F'); (rename News _ _ _ _ => N'); (with_unfolding_all refine range1_rows F' N' ?_); intro _ _ _ _ _ _ _ _ _))
local macro_rules | `(tactic| walk_at "call builtin:min") => `(tactic| k_extra "call builtin:min")
local macro_rules | `(tactic| walk_at "compareOp NotIn ref ref") => `(tactic| k_extra "compareOp NotIn ref ref")
local macro_rules | `(tactic| walk_at "CompSrc") => `(tactic| refine Stop.mk ?_)
local macro_rules | `(tactic| walk_at "call ref") => `(tactic| ((with_reducible show wpAny _ _ (call (Value.ref 91) _) _ _ _); refine Stop.mk ?_))
local macro_rules | `(tactic| walk_at "call ref") => `(tactic| ((with_reducible show wpAny _ _ (call (Value.ref 96) _) _ _ _); refine Stop.mk ?_))
local macro_rules | `(tactic| walk_at "call ref") => `(tactic| ((with_reducible show wpAny _ _ (call (Value.ref 63) _) _ _ _); refine Stop.mk ?_))
local macro_rules | `(tactic| walk_at "call ref") => `(tactic| ((with_reducible show wpAny _ _ (call (Value.ref 77) _) _ _ _); refine Stop.mk ?_))
local macro_rules | `(tactic| walk_at "call ref") => `(tactic| ((with_reducible show wpAny _ _ (call (Value.ref 84) _) _ _ _); refine Stop.mk ?_))

theorem pw2a {K : Nat} (hK : K ≤ 3) : 0 ≤ (2 : Int) ^ (K : Int).toNat ∧ (2 : Int) ^ (K : Int).toNat ≤ 8 := by
  rcases nn4 hK with rfl | rfl | rfl | rfl <;> decide
theorem pw2b {K : Nat} (hK : K ≤ 3) : (2 : Int) ^ ((2 : Int) ^ (K : Int).toNat).toNat = 2 ^ (2 ^ K) := by
  rcases nn4 hK with rfl | rfl | rfl | rfl <;> decide
theorem pw2c {K : Nat} (hK : K ≤ 3) : 1 ≤ (2 : Int) ^ (2 ^ K) ∧ (2 : Int) ^ (2 ^ K) ≤ 256 := by
  rcases nn4 hK with rfl | rfl | rfl | rfl <;> decide
theorem pack4 {h₀ h : Heap} {L : Addr} {tl : List (Addr × Obj)} {a b c d : Addr × Obj} (N : News h₀ L h (tl ++ [a, b, c, d])) (hf : ∀ q ∈ tl, ∀ p ∈ [a, b, c, d], p.1 ≠ q.1) (hbcd : ∀ p ∈ [b, c, d], p.1 ≠ a.1) :
    ∃ R, News h₀ L h (a :: R) ∧ b ∈ R ∧ c ∈ R ∧ d ∈ R ∧ (∀ p ∈ tl, p ∈ R) ∧ (∀ p ∈ R, p.1 ≠ a.1) := by
  refine ⟨[b, c, d] ++ tl, ?_, .head _, .tail _ (.head _), .tail _ (.tail _ (.head _)), fun p hp => List.mem_append.mpr (.inr hp), ?_⟩
  · intro p hp
    refine N p ?_
    rcases List.mem_cons.mp hp with h | hp
    · rw [h]; exact List.mem_append.mpr (.inr (.head _))
    · rcases List.mem_append.mp hp with h | h
      · exact List.mem_append.mpr (.inr (.tail _ h))
      · exact List.mem_append.mpr (.inl h)
  · intro p hp
    exact (List.mem_append.mp hp).elim (hbcd p) fun hp => (hf p hp a (.head _)).symm
theorem pack2 {h₀ h : Heap} {L : Addr} {R : List (Addr × Obj)} {a b : Addr × Obj} (N : News h₀ L h (a :: b :: R)) : ∃ R2, News h₀ L h R2 ∧ a ∈ R2 ∧ ∀ p ∈ R, p ∈ R2 := ⟨_, N, .head _, fun _ hp => .tail _ (.tail _ hp)⟩
theorem mem3 {R : List (Addr × Obj)} {a b c p : Addr × Obj} (h : p ∈ R) : p ∈ a :: b :: c :: R := .tail _ (.tail _ (.tail _ h))
theorem ce_end {g h hA : Heap} {L I C D eA : Addr} {m : Str → Option Value} {s : Shared} {oI oC : Obj} {ys eVs : List Value} {nw : List (Addr × Obj)} {rows : List (List Int)} {row : List Int} {f : List Int → Int} {i tk tkA en : Nat} {t : Tok}
    (F : Fr g L h m) (N : News g L h ((I, oI) :: (C, oC) :: (D, lst ys) :: nw)) (off : ∀ p ∈ nw, p.1 ≠ I ∧ p.1 ≠ C ∧ p.1 ≠ D) (hem : (eA, listOf eVs.toArray en) ∈ nw) (hrw : rows[i]? = some row) (hys : IntsAre ys ((rows.take i).map f)) :
    CompEnd g L m ⟨hA, s.gens, s.drawn, tkA, s.os⟩ I oI C oC D (lst ys) (SrcAt g eA eVs.toArray) (fun y nw' => nw' = nw ∧ IntsAre (ys ++ [y]) ((rows.take (i + 1)).map f)) (.int (f row) t) ⟨h, s.gens, s.drawn, tk, s.os⟩ := by
  refine ⟨h, tk, nw, rfl, F, N, Off3.of off, .inr ⟨_, hem, rfl, _, rfl⟩, rfl, ?_⟩
  rw [List.take_add_one, hrw]
  show IntsAre _ ((rows.take i ++ [row]).map f)
  rw [List.map_append]
  exact IntsAre.snoc hys _ _
theorem pack1 {h₀ h : Heap} {L : Addr} {R : List (Addr × Obj)} {a : Addr × Obj} (N : News h₀ L h (a :: R)) : ∃ R2, News h₀ L h R2 ∧ a ∈ R2 ∧ ∀ p ∈ R, p ∈ R2 := ⟨_, N, .head _, fun _ hp => .tail _ hp⟩
theorem smQ {K : Nat} (hK : K ≤ 3) : Builtin.Range.small 0 (2 ^ (K : Int).toNat) 1 = true := by
  rcases nn4 hK with rfl | rfl | rfl | rfl <;> decide
theorem rsQ {K : Nat} (hK : K ≤ 3) : Builtin.Range.rangeSize 0 (2 ^ (K : Int).toNat) 1 = ((2 ^ K : Nat) : Int) := by
  rcases nn4 hK with rfl | rfl | rfl | rfl <;> rfl
theorem memR {R W own : List (Addr × Obj)} {p : Addr × Obj} (hR : R = W ++ own) (h : p ∈ W) : p ∈ R := by rw [hR]; exact List.mem_append.mpr (.inl h)
theorem rangeKs3 {K : Nat} (hK : K ≤ 3) : ∀ x ∈ rangeKs 0 K, 0 ≤ x ∧ x < 3 := by
  rcases nn4 hK with rfl | rfl | rfl | rfl <;> decide
section
variable {prog : Program} {w : World} {A : Around} {E : Value → Shared → Prop} {s : Shared} {h₀ : Heap} {L : Addr} {m : Str → Option Value} {news : List (Addr × Obj)} {Q : Value → Shared → Prop}
theorem min3_N {a b c : Int} {t u x : Tok} (hh : A.handled = none) (F : Fr h₀ L s.heap m) (N : News h₀ L s.heap news)
    (h : ∀ h' tk tok, Fr h₀ L h' m → News h₀ L h' news → Q (.int (if b < a then (if c < b then c else b) else (if c < a then c else a)) tok) { s with heap := h', toks := tk }) :
    wpAny (model prog w) A (call (.builtin "min") [.int a t, .int b u, .int c x]) Q E s := by
  refine min_three_ints hh fun h' tk hk => ?_
  have key := fun tok => h h' tk tok (F.grownK hk) (N.grown hk)
  by_cases hba : b < a <;> by_cases hc1 : c < b <;> by_cases hc2 : c < a <;> simp only [hba, hc1, hc2, if_true, if_false] at key ⊢ <;> exact key _
end
theorem l_turn {f : Int} {K i : Nat} {le l2 : Int} (h : l2 = lInner f K le i) :
    (if madeI f (rangeKs 0 K) i 0 K (2 ^ K) < l2 then (if fullI K - madeI f (rangeKs 0 K) i 0 K (2 ^ K) < madeI f (rangeKs 0 K) i 0 K (2 ^ K) then fullI K - madeI f (rangeKs 0 K) i 0 K (2 ^ K) else madeI f (rangeKs 0 K) i 0 K (2 ^ K))
      else (if fullI K - madeI f (rangeKs 0 K) i 0 K (2 ^ K) < l2 then fullI K - madeI f (rangeKs 0 K) i 0 K (2 ^ K) else l2)) = lInner f K le (i + 1) := by
  rw [lInner, ← h]
  show _ = min (min l2 (madeI f (rangeKs 0 K) i 0 K (2 ^ K))) (fullI K - madeI f (rangeKs 0 K) i 0 K (2 ^ K))
  generalize madeI f (rangeKs 0 K) i 0 K (2 ^ K) = x
  generalize fullI K = y
  omega
theorem packA {h₀ h : Heap} {L : Addr} {R tl : List (Addr × Obj)} (N : News h₀ L h (tl ++ R)) : ∃ R2, News h₀ L h R2 ∧ (∀ p ∈ tl, p ∈ R2) ∧ ∀ p ∈ R, p ∈ R2 := ⟨_, N, fun _ hp => List.mem_append.mpr (.inl hp), fun _ hp => List.mem_append.mpr (.inr hp)⟩
theorem can_inv {W : List (Addr × Obj)} {r : Value} {x : Int} {f : List Int × Int × Int} (h : DatIn W r (Dat.tuple [Dat.int x, frmD f])) :
    ∃ a fa oa ovs t1 t2 t3 n1 n2 n3, r = .ref a ∧ (a, ({ cls := .type "tuple", data := .seq [Value.int x t1, Value.ref fa].toArray n1 } : Obj)) ∈ W ∧ (fa, ({ cls := .type "tuple", data := .seq [Value.ref oa, Value.int f.2.1 t2, Value.int f.2.2 t3].toArray n2 } : Obj)) ∈ W ∧ (oa, ({ cls := .type "tuple", data := .seq ovs.toArray n3 } : Obj)) ∈ W ∧ IntsAre ovs f.1 := by
  cases h with
  | tuple hm hr =>
    cases hr with
    | cons h1 hr =>
      cases h1
      cases hr with
      | cons h2 hr =>
        cases hr
        unfold frmD at h2
        cases h2 with
        | tuple hm2 hr2 =>
          cases hr2 with
          | cons h3 hr2 =>
            obtain ⟨oa, ovs, n3, rfl, hm3, hi⟩ := tup_inv h3
            cases hr2 with
            | cons h4 hr2 =>
              cases h4
              cases hr2 with
              | cons h5 hr2 =>
                cases h5
                cases hr2
                exact ⟨_, _, oa, ovs, _, _, _, _, _, n3, rfl, hm, hm2, hm3, hi⟩
theorem frm_inv {W : List (Addr × Obj)} {r : Value} {f : List Int × Int × Int} (h : DatIn W r (Dat.tuple [tupD f.1, Dat.int f.2.1, Dat.int f.2.2])) :
    ∃ fa oa ovs t2 t3 n2 n3, r = .ref fa ∧ (fa, ({ cls := .type "tuple", data := .seq [Value.ref oa, Value.int f.2.1 t2, Value.int f.2.2 t3].toArray n2 } : Obj)) ∈ W ∧ (oa, ({ cls := .type "tuple", data := .seq ovs.toArray n3 } : Obj)) ∈ W ∧ IntsAre ovs f.1 := by
  cases h with
  | tuple hm2 hr2 =>
    cases hr2 with
    | cons h3 hr2 =>
      obtain ⟨oa, ovs, n3, rfl, hm3, hi⟩ := tup_inv h3
      cases hr2 with
      | cons h4 hr2 =>
        cases h4
        cases hr2 with
        | cons h5 hr2 =>
          cases h5
          cases hr2
          exact ⟨_, oa, ovs, _, _, _, n3, rfl, hm2, hm3, hi⟩
theorem tupD_ok (o : List Int) : kqdOk 8 (tupD o) = true := by
  unfold tupD
  rw [kqdOk, List.all_eq_true]
  intro d hd
  obtain ⟨x, _, rfl⟩ := List.mem_map.mp hd
  rfl
theorem tupD_okL {rows : List (List Int)} : ∀ d ∈ rows.map tupD, kqdOk 8 d = true := fun d hd => by
  obtain ⟨x, _, rfl⟩ := List.mem_map.mp hd
  exact tupD_ok x
section
variable {prog : Program} {w : World} {A : Around} {E : Value → Shared → Prop} {s : Shared} {h₀ : Heap} {L a : Addr} {m : Str → Option Value} {news : List (Addr × Obj)} {Q : Value → Shared → Prop} {vs : List Value} {n : Nat} {ds : List Dat} {x : Value} {d : Dat}
theorem r_notIn (N : News h₀ L s.heap news) (ma : (a, listOf vs.toArray n) ∈ news) (Da : DatAll news vs ds) (Dx : DatIn news x d) (hd : d ∈ ds) (ha : ∀ d ∈ ds, kqdOk 8 d = true) (hk : kqdOk 8 d = true) (hu : A.units + 64 < cLine) (h : Q (.bool false) s) :
    wpAny (model prog w) A (compareOp .NotIn x (.ref a)) Q E s := by
  refine kqd_notIn N ma rfl rfl Da (fun _ h => h) Dx (fun _ h => h) ha hk hu ?_
  have e : ∀ inst : Decidable (d ∈ ds), @decide (d ∈ ds) inst = true := fun _ => decide_eq_true hd
  rw [e]
  exact h
end
theorem off_lt3 {a b c d : Addr} {ob oc od : Obj} (h : b < a ∧ c < a ∧ d < a) : ∀ p ∈ [(b, ob), (c, oc), (d, od)], p.1 ≠ a := fun p hp => by
  rcases List.mem_cons.mp hp with rfl | hp
  · exact Nat.ne_of_lt h.1
  · rcases List.mem_cons.mp hp with rfl | hp
    · exact Nat.ne_of_lt h.2.1
    · rw [List.mem_singleton.mp hp]; exact Nat.ne_of_lt h.2.2
theorem pick_use {w : World} {R : List (Addr × Obj)} {hl cl : Addr} {vs : List Value} {ns : List Int} {nn n : Nat} {i b c lim : Int} {ti tb tc tl : Tok}
    {p : Program} {loose : List Str} {mean : ExcName → Option Value} {mg mb : Str → Option Value}
    {dp un : Nat} {gd : Option (List Code)} {cn : Str} {cs : Scope} {a : Addr} {ccd : Value} {cl2 : List (Str × Addr)} {outer : List Env} {A₀ : Around} {base h₀ : Heap} {L : Addr} {m : Str → Option Value} {s : Shared} {Q E : Value → Shared → Prop}
    (N : News h₀ L s.heap ((hl, listOf #[.ref cl, .int i ti, .int b tb, .int c tc] n) :: R))
    (hcl : (cl, listOf vs.toArray nn) ∈ R) (hx : ∀ p ∈ R, p.1 ≠ hl) (hI : IntsAre vs ns) (hn : ns.length ≤ 63) (hi : 0 ≤ i ∧ i ≤ ns.length) (hb : 0 ≤ b) (hc : 0 ≤ c ∧ c < 2147483647) (hlim : 1 ≤ lim ∧ lim ≤ 256)
    (B : Below A₀ base outer h₀) (F : Fr h₀ L s.heap m) (X : (hd.heap_39 w.params).In h₀) (T : Top p loose mean mg mb h₀) (hk : cs.kind = .function) (hdp : dp + 1 < recursionLimit) (hun : un + 8 * 1 < cLine)
    (hret : ∀ (d : Int) (t : Tok) (i' b' c' : Int) (ti' tb' tc' : Tok) (n' : Nat) (h' : Heap) (tk' : Nat), 0 ≤ d → d < lim → (0 ≤ i' ∧ i' ≤ ns.length) → 0 ≤ b' → (0 ≤ c' ∧ c' < 2147483647) → Fr h₀ L h' m → News h₀ L h' ((hl, listOf #[.ref cl, .int i' ti', .int b' tb', .int c' tc'] n') :: R) → Q (.int d t) { s with heap := h', toks := tk' }) :
    wpAny (model PySem.Challenge.rw_nn0293_01.row.prog w) (ktrTop dp un gd cn cs L a ccd cl2 outer) (call (.ref 91) [.ref hl, .int lim tl]) Q E s :=
  pick_C w R hl cl vs ns nn n i b c lim ti tb tc tl hcl hx hI hn hi hb hc hlim p loose mean mg mb dp un gd cn cs a ccd cl2 outer A₀ base h₀ L m s Q E B F X N T hk hdp hun hret
theorem cwT : PySem.Challenge.rw_nn0293_01.Holds := hd (by
  k_with_none
  k_go0
  (all_goals try k_fold)
  k_steps
  unfold Stop
  (rename IntsAre _ (List.take _ _) => iC); (rename News _ _ _ _ => N0)
  have hl63 : ∀ ns : List Int, (List.take 63 ns).length ≤ 63 := fun ns => by rw [List.length_take]; omega
  refine pick_use (nn := 0) N0 (.head _) ?x1 iC (hl63 _) ⟨Int.le_refl 0, Int.natCast_nonneg _⟩ (Int.le_refl 0) ?c1 (by decide) (by k_asm) (by k_asm) (by k_asm) (by k_asm) (by first | exact rfl | assumption) (by ktr_room) (by ktr_units) ?r1
  case x1 => exact off_lt3 (by assumption)
  case c1 => omega
  case r1 =>
    intro wd t1 i1 b1 c1 ti1 tb1 tc1 n1 h1 tk1 hd0 hd1 hi1 hb1 hc1 F1 N1
    obtain ⟨K, rfl⟩ : ∃ K : Nat, wd = K := ⟨wd.toNat, by omega⟩
    have hK : K ≤ 3 := by omega
    have hpa := pw2a hK
    clear N0
    k_steps
    unfold Stop
    (rename News _ _ _ [_, _, _, _] => N2)
    rw [pw2b hK]
    have hpc := pw2c hK
    refine pick_use (nn := 0) N2 (.head _) ?x2 iC (hl63 _) hi1 hb1 hc1 hpc (by k_asm) (by k_asm) (by k_asm) (by k_asm) (by first | exact rfl | assumption) (by ktr_room) (by ktr_units) ?r2
    case x2 => exact off_lt3 (by assumption)
    case r2 =>
      intro tb t2 i2 b2 c2 ti2 tb2 tc2 n2 h2 tk2 ht0 ht1 hi2 hb2 hc2 F2 N2'
      clear N2
      k_steps
      unfold Stop
      (rename News _ _ _ [_, _, _, _] => N3)
      refine ctr_use (lord_C _ K rfl hK _ _ _) (by k_asm) (by k_asm) (by k_asm) N3 (by k_asm) (by first | exact rfl | assumption) (by ktr_room) (by ktr_units) ?_
      intro rE tlE h3 tk3 F3 N3' hfrE hE
      obtain ⟨eA, eVs, en, rfl, hem, heall⟩ := list_inv hE
      have heL : eVs.length = (lawRows K).length := by rw [heall.length, List.length_map]
      k_with "call builtin:len" => (k_here; k_dflt (refine' r_lenL ?lt9 ?le9 ?lk9 ?_; (case lt9 => exact News.isList (by k_asm) (List.mem_append.mpr (.inl hem))); (case le9 => exact heL); (case lk9 => have := lawRows_len K hK; omega)))

      k_steps
      unfold Stop
      (rename News _ _ _ (tlE ++ _) => N4)
      have hlen6 : 1 ≤ ((lawRows K).length : Int) ∧ ((lawRows K).length : Int) ≤ 256 := by rcases nn4 hK with rfl | rfl | rfl | rfl <;> decide
      obtain ⟨R, N5, hbR, hcR, hdR, htlR, hxR⟩ := pack4 N4 hfrE (off_lt3 (by assumption))
      replace hem := htlR _ hem
      replace heall := DatAll.mono htlR heall
      clear N4 hfrE hE htlR
      refine pick_use (nn := 0) N5 hbR hxR iC (hl63 _) hi2 hb2 hc2 hlen6 (by k_asm) (by k_asm) (by k_asm) (by k_asm) (by first | exact rfl | assumption) (by ktr_room) (by ktr_units) ?r4
      case r4 =>
        intro pi t5 i5 b5 c5 ti5 tb5 tc5 n5 h5 tk5 hp0 hp1 hi5 hb5 hc5 F5 N6
        obtain ⟨PI, rfl⟩ : ∃ PI : Nat, pi = PI := ⟨pi.toNat, by omega⟩
        have hPI : PI < (lawRows K).length := by omega
        obtain ⟨ev, hev, hevD⟩ := heall.get (k := PI) (by rw [List.length_map]; exact hPI)
        rw [List.getElem_map] at hevD
        obtain ⟨oA, ovs, on, rfl, hoA, hoI⟩ := tup_inv hevD
        obtain ⟨ord, hord⟩ : ∃ ord, ord = (lawRows K)[PI] := ⟨_, rfl⟩
        rw [← hord] at hoI
        have hordm : ord ∈ lawRows K := by rw [hord]; exact List.getElem_mem hPI
        clear N5
        k_with "subscriptTail" => (k_here; k_dflt (refine' PyProof.Rows.item_listL ?lt9 ?le9 ?lf9 ?lk9 ?_; (case lt9 => exact News.isList (by k_asm) (List.mem_cons_of_mem _ hem)); (case le9 => exact Int.natCast_nonneg _); (case lf9 => omega); (case lk9 => exact hev)))
        k_steps
        unfold Stop
        have hpK : 1 ≤ (2 : Int) ^ (K : Int).toNat ∧ (2 : Int) ^ (K : Int).toNat ≤ 256 := by rcases nn4 hK with rfl | rfl | rfl | rfl <;> decide
        refine pick_use (nn := 0) N6 hbR hxR iC (hl63 _) hi5 hb5 hc5 hpK (by k_asm) (by k_asm) (by k_asm) (by k_asm) (by first | exact rfl | assumption) (by ktr_room) (by ktr_units) ?r6
        case r6 =>
          intro fl t7 i7 b7 c7 ti7 tb7 tc7 n7 h7 tk7 hf0 hf1 hi7 hb7 hc7 F7 N7
          clear N6
          k_steps
          unfold Stop
          refine pick_use (nn := 0) N7 hbR hxR iC (hl63 _) hi7 hb7 hc7 (by decide) (by k_asm) (by k_asm) (by k_asm) (by k_asm) (by first | exact rfl | assumption) (by ktr_room) (by ktr_units) ?r8
          case r8 =>
            intro ou t9 i9 b9 c9 ti9 tb9 tc9 n9 h9 tk9 ho0 ho1 hi9 hb9 hc9 F9 N9
            clear N7
            k_with "newTuple" => (k_here; k_dflt (refine' kup_newTuple ?lF9 ?lN9 ?_ ?lz9; (case lF9 => k_asm); (case lN9 => k_asm); (case lz9 => kmk_size)); intro chA h9 F9 N9 chLt)
            k_steps
            unfold Stop
            (rename News _ _ _ (_ :: _ :: R) => N9)
            obtain ⟨R2, N10, hch, hR2⟩ := pack2 N9
            have hbR2 := hR2 _ hbR
            have hcR2 := hR2 _ hcR
            have hdR2 := hR2 _ hdR
            have hem2 := hR2 _ hem
            have heall2 := DatAll.mono hR2 heall
            have hoA2 := hR2 _ hoA
            clear N9 hR2 hbR hcR hdR hem heall hoA hxR chLt hevD hev iC
            have hr6 := lawRows_len K hK
            refine CompSrc.ledger (by rfl) (by k_asm) N10 hem2 (by rw [List.size_toArray, sizeLine_eq]; omega) ?_
            intro g10
            clear N10
            refine rest_inv (n := eVs.toArray.size) (fun i ys nw => nw = R2 ∧ IntsAre ys (((lawRows K).take i).map fun o => madeI tb o 0 0 K (2 ^ K))) ?tn ?fn eVs.toArray.size 0 [] _ (Nat.zero_add _) ⟨rfl, IntsAre.nil⟩
            case tn =>
              rintro i ys nw v I oI C oC D m₂ h t11 E' hi ⟨rfl, hys⟩ hv hoC hmx F11 N11 hoff11 hne11
              have hv' : eVs[i]? = some v := by simpa using hv
              have hlt : i < (lawRows K).length := by rw [← heL]; exact (List.getElem?_eq_some_iff.mp hv').1
              obtain ⟨v', hv2, hD⟩ := heall2.get (k := i) (by rw [List.length_map]; exact hlt)
              rw [hv'] at hv2
              obtain rfl := Option.some.inj hv2
              rw [List.getElem_map] at hD
              obtain ⟨la, lvs, ln, e9, hlm, hli⟩ := tup_inv hD
              subst e9
              obtain ⟨row, hrow⟩ : ∃ row, row = (lawRows K)[i] := ⟨_, rfl⟩
              rw [← hrow] at hli
              have hrow3 := lawRows_row3 hK (show row ∈ lawRows K by rw [hrow]; exact List.getElem_mem hlt)
              obtain ⟨hro1, hro2⟩ := hrow3
              have hc3 := mem3 (a := (I, oI)) (b := (C, oC)) (c := (D, lst ys)) hcR2
              have hd3 := mem3 (a := (I, oI)) (b := (C, oC)) (c := (D, lst ys)) hdR2
              have hl3 := mem3 (a := (I, oI)) (b := (C, oC)) (c := (D, lst ys)) hlm
              k_steps
              unfold Stop
              exact ce_end (f := fun o => madeI tb o 0 0 K (2 ^ K)) (by k_asm) (by k_asm) hoff11 hem2 (show (lawRows K)[i]? = some row by rw [hrow]; exact List.getElem?_eq_getElem hlt) hys
            case fn =>
              rintro ys nw ⟨rfl, hys⟩
              unfold FinA
              intro mD h11 t11 F11 N11 o11
              dsimp only
              have hysD : ∀ W, DatAll W ys ((((lawRows K).map fun o => madeI tb o 0 0 K (2 ^ K))).map Dat.int) := fun W => by
                rw [List.take_of_length_le (by rw [List.size_toArray, heL]; exact Nat.le_refl _)] at hys
                exact ints_mk hys
              k_steps
              unfold Stop
              (rename Fr _ _ _ _ => lF'); (rename News _ _ _ _ => lN')
              have hful : (2 : Int) ^ ((2 : Int) ^ (K : Int).toNat).toNat - 1 = fullI K := by rw [pw2b hK]; rfl
              rw [hful] at lF'
              obtain ⟨R3, lN2, hmD, hR3⟩ := pack1 lN'
              clear lN'
              replace hch := hR3 _ hch
              have hbR3 := hR3 _ hbR2
              replace hcR2 := hR3 _ hcR2
              replace hdR2 := hR3 _ hdR2
              replace hem2 := hR3 _ hem2
              replace heall2 := DatAll.mono hR3 heall2
              replace hoA2 := hR3 _ hoA2
              clear hR3 o11 hbR2
              with_unfolding_all refine' lsD (σ := Int × Tok) (fun _ => []) (fun c => [(Str.ofString "least", .int c.1 c.2)]) (fun _ _ => True) ["flipped", "turned"] (fun i c => c.1 = lAll K ((((lawRows K).map fun o => madeI tb o 0 0 K (2 ^ K))).take i) (fullI K)) (fullI K, _) (by rfl) hmD (hysD _) lF' lN2 (fun _ => rfl) (fun _ _ _ h => nomatch h) trivial ?lkk ?lp0 ?lturn ?ldone
              case lp0 => exact rfl
              case lkk => kst_all
              case lturn =>
                rintro ⟨le, let_⟩ W own i d v u h tk J hd hD hsub _ hP F12 N12 hsep hWO fin
                (dsimp only [kstB] at F12 hP)
                clear lF' lN2
                obtain ⟨fo, hfo, hdf⟩ : ∃ fo, ((lawRows K).map fun o => madeI tb o 0 0 K (2 ^ K))[i]? = some fo ∧ d = Dat.int fo := by
                  rw [List.getElem?_map] at hd
                  cases hr : ((lawRows K).map fun o => madeI tb o 0 0 K (2 ^ K))[i]? with
                  | none => rw [hr] at hd; cases hd
                  | some fo => rw [hr] at hd; exact ⟨fo, rfl, (Option.some.inj hd).symm⟩
                subst hdf
                obtain ⟨tf, rfl⟩ : ∃ t, v = .int fo t := by cases hD; exact ⟨_, rfl⟩
                rw [List.nil_append] at N12
                obtain ⟨R, hR⟩ : ∃ R, R = W ++ own := ⟨_, rfl⟩
                rw [← hR] at N12
                have hcW := memR hR (hsub _ hcR2)
                have hdW := memR hR (hsub _ hdR2)
                k_steps
                unfold Stop
                (rename Fr _ _ _ _ => lF'); (rename News _ _ _ _ => lN'); (rename IsRange _ _ _ _ _ _ _ _ => rgX)
                with_unfolding_all refine' rgD (σ := Int × Tok) (n := 2 ^ K) (cst := R) (fun _ => []) (fun c => [(Str.ofString "least", .int c.1 c.2)]) (fun _ _ => True) ["turned"] (fun i c => c.1 = lInner fo K le i) (le, let_) (by rfl) rgX (smQ hK) (rsQ hK) lF' lN' (fun _ => rfl) (fun _ _ _ h => nomatch h) trivial ?ikk ?ip0 ?iturn ?idone
                case ikk => kst_all
                case ip0 => exact rfl
                case iturn =>
                  rintro ⟨le2, le2t⟩ W2 own2 i2 t2 u2 h2 tk2 J2 hi2 hsub2 _ hP2 F2 N2 hsep2 hWO2 fin2
                  (dsimp only [kstB] at F2 hP2)
                  simp only [Int.zero_add] at F2
                  clear lF' lN' rgX
                  rw [List.nil_append] at N2
                  obtain ⟨R4, hR4⟩ : ∃ R, R = W2 ++ own2 := ⟨_, rfl⟩
                  rw [← hR4] at N2
                  have hcW2 := memR hR4 (hsub2 _ hcW)
                  have hdW2 := memR hR4 (hsub2 _ hdW)
                  have hrk1 : (rangeKs 0 K).length = K := rangeKs_length _ _
                  have hrk2 : ∀ x ∈ rangeKs 0 K, 0 ≤ x ∧ x < 3 := rangeKs3 hK
                  k_with "call type:tuple" => (k_here; k_dflt (refine' r_tupleRange ?lH ?lF ?lN ?lR ?lS ?ln ?ll ?_; (case lF => k_asm); (case lN => k_asm); (case lR => assumption); (case lH => rfl); (case lS => exact smK hK); (case ln => exact rsK hK); (case ll => omega)); intro rD h9 tk9 rvs F9 N9 rLt rInts)
                  k_with "call builtin:min" => (k_here; k_dflt (refine' min3_N ?mh ?mF ?mN ?_; (case mh => rfl); (case mF => k_asm); (case mN => k_asm)); intro h9 tk9 tt9 F9 N9)
                  k_steps
                  unfold Stop
                  refine' fin2 (_, _) [] _ _ _ _ (by assumption) (by assumption) ?fb1 (fun _ h => nomatch h) (fun _ h => nomatch h) trivial ?fk ?fr ?fp
                  case fk => kst_all
                  case fb1 => exact fun p hp => .tail _ (by rw [← hR4] at hp; exact hp)
                  case fr => kst_same
                  case fp => exact l_turn hP2
                case idone =>
                  rintro ⟨le2, le2t⟩ add2 u2 h2 tk2 hlt2 _ hP2 F2 N2 hsep2
                  (dsimp only [kstB] at F2 hP2)
                  clear lF' lN' rgX
                  rw [List.nil_append] at N2
                  k_steps
                  unfold Stop
                  refine' fin (_, _) [] _ _ _ _ (by assumption) (by assumption) ?gb1 (fun _ h => nomatch h) (fun _ h => nomatch h) trivial ?gk ?gr ?gp
                  case gk => kst_all
                  case gb1 => exact fun p hp => List.mem_append.mpr (.inl (by rw [hR]; exact hp))
                  case gr => kst_same
                  case gp =>
                    show le2 = lAll K (List.take (i + 1) _) _
                    rw [lAll_take hfo, ← hP]
                    exact hP2
              case ldone =>
                rintro ⟨le, let_⟩ add u h tk hlt _ hP F12 N12 hsep
                (dsimp only [kstB] at F12 hP)
                clear lF' lN2
                rw [List.nil_append] at N12
                rw [List.take_of_length_le (by simp)] at hP
                k_steps
                unfold Stop
                have htb1 : tb < 2 ^ (2 ^ K) := ht1
                obtain ⟨hp1, hp2, hp3⟩ := plain1 hK ht0 htb1
                have hple : le = leastI tb K := hP
                rw [← hple] at hp1 hp3
                refine ctr_use (canon_C _ _ K rfl hK _ _ _ _) (by k_asm) (by k_asm) (by k_asm) N12 (by k_asm) (by first | exact rfl | assumption) (by ktr_room) (by ktr_units) ?_
                intro rC tlC h13 tk13 F13 N13 hfrC hC
                obtain ⟨cA, fA, foA, fovs, ct1, ct2, ct3, cn1, cn2, cn3, rfl, hcA, hfA, hfoA, hfoI⟩ := can_inv hC
                rw [hp1] at hcA
                obtain ⟨R6, N14, hR6a, hR6b⟩ := packA N13
                replace hcA := hR6a _ hcA
                replace hfA := hR6a _ hfA
                replace hfoA := hR6a _ hfoA
                have hR6c : ∀ p ∈ R3, p ∈ R6 := fun p hp => hR6b p (List.mem_append.mpr (.inl hp))
                replace hch := hR6c _ hch
                replace hcR2 := hR6c _ hcR2
                replace hdR2 := hR6c _ hdR2
                replace hem2 := hR6c _ hem2
                replace heall2 := DatAll.mono hR6c heall2
                replace hoA2 := hR6c _ hoA2
                clear hR6a hR6b hR6c N13 hfrC hC N12 hsep hlt hmD hbR3
                have hford := lawRows_row3 hK hp2
                obtain ⟨hfo1, hfo2⟩ := hford
                k_with "call type:tuple" => (k_here; k_dflt (refine' call_tuple_same ?ct ?_; (case ct => exact News.isTup (by k_asm) hfoA)))
                k_with "compareOp NotIn ref ref" => (k_here; k_dflt (refine' r_notIn ?nN hem2 heall2 (tup_mk hfoA hfoI) ?nm ?nk ?nd ?nu ?_; (case nN => k_asm); (case nm => exact List.mem_map.mpr ⟨_, hp2, rfl⟩); (case nk => exact tupD_okL); (case nd => exact tupD_ok _); (case nu => ktr_units)))
                k_steps
                unfold Stop
                have hord3 := lawRows_row3 hK hordm
                obtain ⟨hor1, hor2⟩ := hord3
                have hfl1 : fl < 2 ^ K := by rw [show (K : Int).toNat = K from Int.toNat_natCast K] at hf1; exact hf1
                obtain ⟨hq1, hq2, hq3, hq4⟩ := plain2 hK ht0 htb1 hordm hf0 hfl1 ho0 ho1
                rw [← hple] at hq3
                refine ctrI_use (apply_C _ _ _ _ ord ovs K _ _ rfl hK ht0 htb1 hoI ⟨hor1, hor2⟩ _ _ _ _ _ _ _ _ hoA2 hch) (by k_asm) (by k_asm) (by k_asm) (by k_asm) (by k_asm) (by first | exact rfl | assumption) (by ktr_room) (by ktr_units) ?_
                intro t15 h15 tk15 F15 N15
                generalize hch9 : appI tb ord fl ou K = ch9 at hq1 hq2 hq3 hq4 ⊢
                k_steps
                unfold Stop
                (rename News _ _ _ R6 => N16)
                refine ctr_use (canon_C _ _ K rfl hK _ _ _ _) (by k_asm) (by k_asm) (by k_asm) N16 (by k_asm) (by first | exact rfl | assumption) (by ktr_room) (by ktr_units) ?_
                intro rC2 tlC2 h17 tk17 F17 N17 hfrC2 hC2
                obtain ⟨cB, fB, foB, fovsB, cu1, cu2, cu3, cm1, cm2, cm3, rfl, hcB, hfB, hfoB, hfoJ⟩ := can_inv hC2
                rw [hq3] at hcB
                obtain ⟨R7, N18, hR7a, hR7b⟩ := packA N17
                replace hcB := hR7a _ hcB
                replace hch := hR7b _ hch
                replace hcR2 := hR7b _ hcR2
                replace hdR2 := hR7b _ hdR2
                replace hoA2 := hR7b _ hoA2
                clear hR7a hR7b N17 hfrC2 hC2 N16 hem2 heall2 hcA hfA hfoA hfB hfoB hfoJ
                k_steps
                unfold Stop
                (rename News _ _ _ R7 => N19)
                refine ctr_use (inv_C ord ovs K _ _ _ _ _ rfl hK hoI ⟨hor1, hor2⟩ (lawRows_rowK hK hordm) _ _ _ _ _ _ _ hoA2 hch) (by k_asm) (by k_asm) (by k_asm) N19 (by k_asm) (by first | exact rfl | assumption) (by ktr_room) (by ktr_units) ?_
                intro rI tlI h20 tk20 F20 N20 hfrI hI
                obtain ⟨iA, ioA, iovs, iu2, iu3, im2, im3, rfl, hiA, hioA, hioJ⟩ := frm_inv (f := (backI ord K K, negI fl (backI ord K K) K, ou)) hI
                dsimp only at hiA hioJ
                obtain ⟨R8, N21, hR8a, hR8b⟩ := packA N20
                replace hiA := hR8a _ hiA
                replace hioA := hR8a _ hioA
                replace hcR2 := hR8b _ hcR2
                replace hdR2 := hR8b _ hdR2
                clear hR8a hR8b N20 hfrI hI N19 hcB hch hoA2
                k_steps
                unfold Stop
                refine ctrI_use (apply_C _ _ _ _ _ iovs K _ _ rfl hK hq2.1 hq2.2 hioJ ⟨backI_len _ _ _, backI_rng3 hK⟩ _ _ _ _ _ _ _ _ hioA hiA) (by k_asm) (by k_asm) (by k_asm) (by k_asm) (by k_asm) (by first | exact rfl | assumption) (by ktr_room) (by ktr_units) ?_
                intro t22 h22 tk22 F22 N22
                rw [hq4]
                k_steps

                done)
end
end LawT
end Mine
theorem PySem.Challenge.cw_nn0293_01_holds : PySem.Challenge.rw_nn0293_01.Holds :=
  Mine.cwT
