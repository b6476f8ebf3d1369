import PyProof.Rows.All
import Wide.All
import OpenK.AllK
import Wide.FinOn
import PySem.Challenge.RW_rh0159_01
open PySem PySem.W PyProof.Rows
set_option Elab.async false
set_option maxRecDepth 100000
set_option maxHeartbeats 40000000
set_option genInjectivity false
set_option genSizeOf false
set_option linter.all false
set_option compiler.extract_closed false
namespace Mine
open_top hd for PySem.Challenge.rw_rh0159_01
local macro_rules | `(tactic| walk_at $s:str) => `(tactic| k_extra $(Lean.quote ("my " ++ s.getString)))
local macro_rules | `(tactic| omega) => `(tactic| k_extra "my omega")
local macro_rules | `(tactic| k_enter) => `(tactic| k_extra "my k_enter")
local macro_rules | `(tactic| k_mem) => `(tactic| k_extra "my k_mem")
local macro_rules | `(tactic| news_mem) => `(tactic| k_extra "my news_mem")
local macro_rules | `(tactic| k_all) => `(tactic| k_extra "my k_all")
local macro_rules | `(tactic| k_upd) => `(tactic| k_extra "my k_upd")
local macro_rules | `(tactic| k_ne) => `(tactic| k_extra "my k_ne")
/-! Base1 -/
/-- what a call hands back, and what it leaves of the made objects -/
noncomputable def Calls (w : World) (loose : List Str) (mean : ExcName → Option Value) (mg mb : Str → Option Value) (f : Addr) (news : List (Addr × Obj)) (vs : List Value) (dd uu : Nat)
    (R : Value → List (Addr × Obj) → Prop) : Prop :=
  ∀ (dp un : Nat) (gd : Option (List Code)) (cn : Str) (cs : Scope) (a : Addr) (ccd : Value) (cl : List (Str × Addr)) (outer : List Env) (A₀ : Around) (base h₀ : Heap) (L : Addr) (m : Str → Option Value) (s : Shared) (Q E : Value → Shared → Prop),
    Below A₀ base outer h₀ → Fr h₀ L s.heap m → (hd.heap_39 w.params).In h₀ → News h₀ L s.heap news → Top hd.view_39 loose mean mg mb h₀ → cs.kind = .function → dp + dd < recursionLimit → un + uu < cLine →
    (∀ v news' h' tk', Fr h₀ L h' m → News h₀ L h' news' → R v news' → Q v { s with heap := h', toks := tk' }) →
    wpAny (model (RowW.prog (OpenRow.toRowW (OpenLaw.row PySem.Challenge.rw_rh0159_01))) w) (ktrTop dp un gd cn cs L a ccd cl outer) (call (.ref f) vs) Q E s
theorem Calls.use {w : World} {loose : List Str} {mean : ExcName → Option Value} {mg mb : Str → Option Value} {f : Addr} {news : List (Addr × Obj)} {vs : List Value} {dd uu : Nat} {R : Value → List (Addr × Obj) → Prop}
    {dp un : Nat} {gd : Option (List Code)} {cn : Str} {cs : Scope} {a : Addr} {ccd : Value} {cl : List (Str × Addr)} {outer : List Env} {A₀ : Around} {base h₀ : Heap} {L : Addr} {m : Str → Option Value} {s : Shared} {Q E : Value → Shared → Prop}
    (C : Calls w loose mean mg mb f news vs dd uu R) (B : Below A₀ base outer h₀) (F : Fr h₀ L s.heap m) (X : (hd.heap_39 w.params).In h₀) (N : News h₀ L s.heap news) (T : Top hd.view_39 loose mean mg mb h₀) (hk : cs.kind = .function) (hdp : dp + dd < recursionLimit) (hun : un + uu < cLine)
    (ret : ∀ v news' h' tk', Fr h₀ L h' m → News h₀ L h' news' → R v news' → Q v { s with heap := h', toks := tk' }) :
    wpAny (model (RowW.prog (OpenRow.toRowW (OpenLaw.row PySem.Challenge.rw_rh0159_01))) w) (ktrTop dp un gd cn cs L a ccd cl outer) (call (.ref f) vs) Q E s :=
  C dp un gd cn cs a ccd cl outer A₀ base h₀ L m s Q E B F X N T hk hdp hun ret


/-! Base2 -/
/-- what a Proto's dict holds beside its six lists: the keys' and the values' tokens, the ints, the source -/
structure PZ where
  (k0 k1 k2 k3 k4 k5 k6 k7 k8 k9 k10 k11 k12 k13 k14 k15 : Nat)
  (n0 n1 n2 n3 n4 n5 n6 n7 n8 : Int)
  (t0 t1 t2 t3 t4 t5 t6 t7 t8 ts : Nat)
  (sb : Array UInt8)
/-- a Proto's dict: its lists stand at c (code), k (constants), p (protos), l (line_info), o (locals), u (upvalue_names) -/
noncomputable abbrev protoEnts (P : Params) (z : PZ) (c k p l o u : Addr) : List DictEntry := [
  DictEntry.mk (PyData.keyHash P (Str.ofString "number")) (Value.str (Str.ofString "number") z.k0) (Value.int z.n0 z.t0),
  DictEntry.mk (PyData.keyHash P (Str.ofString "mark")) (Value.str (Str.ofString "mark") z.k1) (Value.int z.n1 z.t1),
  DictEntry.mk (PyData.keyHash P (Str.ofString "size")) (Value.str (Str.ofString "size") z.k2) (Value.int z.n2 z.t2),
  DictEntry.mk (PyData.keyHash P (Str.ofString "code")) (Value.str (Str.ofString "code") z.k3) (Value.ref c),
  DictEntry.mk (PyData.keyHash P (Str.ofString "constants")) (Value.str (Str.ofString "constants") z.k4) (Value.ref k),
  DictEntry.mk (PyData.keyHash P (Str.ofString "protos")) (Value.str (Str.ofString "protos") z.k5) (Value.ref p),
  DictEntry.mk (PyData.keyHash P (Str.ofString "line_info")) (Value.str (Str.ofString "line_info") z.k6) (Value.ref l),
  DictEntry.mk (PyData.keyHash P (Str.ofString "locals")) (Value.str (Str.ofString "locals") z.k7) (Value.ref o),
  DictEntry.mk (PyData.keyHash P (Str.ofString "upvalue_names")) (Value.str (Str.ofString "upvalue_names") z.k8) (Value.ref u),
  DictEntry.mk (PyData.keyHash P (Str.ofString "source")) (Value.str (Str.ofString "source") z.k9) (Value.bytes z.sb z.ts),
  DictEntry.mk (PyData.keyHash P (Str.ofString "line_defined")) (Value.str (Str.ofString "line_defined") z.k10) (Value.int z.n3 z.t3),
  DictEntry.mk (PyData.keyHash P (Str.ofString "last_line")) (Value.str (Str.ofString "last_line") z.k11) (Value.int z.n4 z.t4),
  DictEntry.mk (PyData.keyHash P (Str.ofString "upvalue_count")) (Value.str (Str.ofString "upvalue_count") z.k12) (Value.int z.n5 z.t5),
  DictEntry.mk (PyData.keyHash P (Str.ofString "param_count")) (Value.str (Str.ofString "param_count") z.k13) (Value.int z.n6 z.t6),
  DictEntry.mk (PyData.keyHash P (Str.ofString "is_vararg")) (Value.str (Str.ofString "is_vararg") z.k14) (Value.int z.n7 z.t7),
  DictEntry.mk (PyData.keyHash P (Str.ofString "max_stack")) (Value.str (Str.ofString "max_stack") z.k15) (Value.int z.n8 z.t8)]
/-- the dict itself -/
noncomputable abbrev protoDict (P : Params) (z : PZ) (c k p l o u : Addr) : Obj := dictOf (protoEnts P z c k p l o u) 16
theorem all_ne_of_lt {l : List (Addr × Obj)} {d : Addr} (h : ∀ p ∈ l, @LT.lt Nat _ p.1 d) : ∀ p ∈ l, p.1 ≠ d := fun p hp => Nat.ne_of_lt (h p hp)
theorem allLt_lt : ∀ {l : List (Addr × Obj)} {d : Addr}, AllLt d l → ∀ p ∈ l, @LT.lt Nat _ p.1 d
  | [], _, _, _, hp => nomatch hp
  | _ :: _, _, h, p, hp => by
    rcases List.mem_cons.mp hp with rfl | hp
    · exact h.1
    · exact allLt_lt h.2 p hp
theorem allLt_mono : ∀ {l : List (Addr × Obj)} {d e : Addr}, AllLt d l → @LT.lt Nat _ d e → AllLt e l
  | [], _, _, _, _ => trivial
  | _ :: _, _, _, h, he => ⟨Nat.lt_trans h.1 he, allLt_mono h.2 he⟩
theorem all_ne_of_allLt {l : List (Addr × Obj)} {d : Addr} (h : AllLt d l) : ∀ p ∈ l, p.1 ≠ d := all_ne_of_lt (allLt_lt h)


/-! Om -/
theorem om_r0 {dp m N : Nat} (h : dp + m < N) : dp < N := Nat.lt_of_le_of_lt (Nat.le_add_right _ _) h
theorem om_r1 {dp m N j : Nat} (h : dp + m < N) (k : Nat.ble j m = true) : dp + j < N := Nat.lt_of_le_of_lt (Nat.add_le_add_left (Nat.le_of_ble_eq_true k) _) h
theorem om_r2 {dp m N i j : Nat} (h : dp + m < N) (k : Nat.ble (i + j) m = true) : dp + i + j < N := by rw [Nat.add_assoc]; exact om_r1 h k
theorem om_d1 {dp dd m N j : Nat} (h : dp + dd < N) (h' : m ≤ dd) (k : Nat.ble j m = true) : dp + j < N := Nat.lt_of_le_of_lt (Nat.add_le_add_left (Nat.le_trans (Nat.le_of_ble_eq_true k) h') _) h
theorem om_d2 {dp dd m N i j : Nat} (h : dp + dd < N) (h' : m ≤ dd) (k : Nat.ble (i + j) m = true) : dp + i + j < N := by rw [Nat.add_assoc]; exact om_d1 h h' k
theorem om_le {a b c : Nat} (h : a ≤ b) (k : Nat.ble b c = true) : a ≤ c := Nat.le_trans h (Nat.le_of_ble_eq_true k)
theorem om_ge {a b c : Nat} (h : b ≤ a) (k : Nat.ble c b = true) : c ≤ a := Nat.le_trans (Nat.le_of_ble_eq_true k) h
theorem om_len {a b c d : Nat} (e : a = b) (h : b ≤ c) (k : Nat.ble c d = true) : a ≤ d := e ▸ om_le h k
theorem om_cast {n m : Nat} (h : n < m) : (n : Int) < (m : Int) := Int.ofNat_lt.mpr h
theorem om_caste {i n m : Nat} (h : i < n) (e : m = n) : (i : Int) < (m : Int) := e ▸ om_cast h
theorem om_eqlt {x : Int} {n m : Nat} (h : x < (n : Int)) (e : m = n) : x < (m : Int) := e ▸ h
theorem om_ilt {x b N : Int} (h : x < b) (k : b ≤ N) : x < N := Int.lt_of_lt_of_le h k
theorem om_ile {x b N : Int} (h : x ≤ b) (k : b < N) : x < N := Int.lt_of_le_of_lt h k
theorem om_igt {x a N : Int} (h : a ≤ x) (k : N < a) : N < x := Int.lt_of_lt_of_le k h
theorem om_ige {x a N : Int} (h : a ≤ x) (k : N ≤ a) : N ≤ x := Int.le_trans k h
theorem om_ilen {x N : Int} {n m : Nat} (h : x < (n : Int)) (h' : n ≤ m) (k : (m : Int) ≤ N) : x < N := Int.lt_of_lt_of_le h (Int.le_trans (Int.ofNat_le.mpr h') k)
theorem om_clen {i n m : Nat} {N : Int} (h : i < n) (h' : n ≤ m) (k : (m : Int) ≤ N) : (i : Int) < N := om_ilen (om_cast h) h' k
theorem om_cle {n m : Nat} {N : Int} (h : n ≤ m) (k : (m : Int) < N) : (n : Int) < N := Int.lt_of_le_of_lt (Int.ofNat_le.mpr h) k
theorem om_nz {x : Int} (h : 0 < x) : ¬ x = 0 := fun e => absurd (e ▸ h) (Int.lt_irrefl 0)
theorem om_gt1 {a b : Nat} {p : Prop} (h : a < b ∧ p) : b ≠ a := Nat.ne_of_gt h.1
theorem om_lt1 {a b : Nat} {p : Prop} (h : a < b ∧ p) : a ≠ b := Nat.ne_of_lt h.1
theorem om_gt2 {a b : Nat} {p q : Prop} (h : p ∧ a < b ∧ q) : b ≠ a := Nat.ne_of_gt h.2.1
theorem om_lt2 {a b : Nat} {p q : Prop} (h : p ∧ a < b ∧ q) : a ≠ b := Nat.ne_of_lt h.2.1
theorem om_gt3 {a b : Nat} {p q : Prop} (h : p ∧ q ∧ a < b) : b ≠ a := Nat.ne_of_gt h.2.2
theorem om_lt3 {a b : Nat} {p q : Prop} (h : p ∧ q ∧ a < b) : a ≠ b := Nat.ne_of_lt h.2.2
theorem om_c2 {a b c : Nat} {p : Prop} (h : a < b ∧ b < c ∧ p) : a ≠ c := Nat.ne_of_lt (Nat.lt_trans h.1 h.2.1)
theorem om_c2' {a b c : Nat} {p : Prop} (h : a < b ∧ b < c ∧ p) : c ≠ a := Nat.ne_of_gt (Nat.lt_trans h.1 h.2.1)
theorem om_c3 {a b c d : Nat} (h : a < b ∧ b < c ∧ c < d) : a ≠ d := Nat.ne_of_lt (Nat.lt_trans h.1 (Nat.lt_trans h.2.1 h.2.2))
theorem om_c3' {a b c d : Nat} (h : a < b ∧ b < c ∧ c < d) : d ≠ a := Nat.ne_of_gt (Nat.lt_trans h.1 (Nat.lt_trans h.2.1 h.2.2))
theorem om_c4 {a b c : Nat} {p : Prop} (h : p ∧ a < b ∧ b < c) : a ≠ c := Nat.ne_of_lt (Nat.lt_trans h.2.1 h.2.2)
theorem om_c4' {a b c : Nat} {p : Prop} (h : p ∧ a < b ∧ b < c) : c ≠ a := Nat.ne_of_gt (Nat.lt_trans h.2.1 h.2.2)
theorem om_s1 (a : Nat) : a + 1 ≠ a := Nat.succ_ne_self a
theorem om_s2 (a : Nat) : a + 1 + 1 ≠ a := Nat.ne_of_gt (Nat.lt_succ_of_lt (Nat.lt_succ_self a))
theorem om_s3 (a : Nat) : a + 1 + 1 + 1 ≠ a := Nat.ne_of_gt (Nat.lt_succ_of_lt (Nat.lt_succ_of_lt (Nat.lt_succ_self a)))
theorem om_k0 {k : Int} {p : Nat} (e : k = (p : Int)) : 0 ≤ k := e ▸ Int.natCast_nonneg p
theorem om_k1 {k : Int} {p n m : Nat} (e : k = (p : Int)) (h : p < n) (e' : m = n) : k < (m : Int) := e ▸ om_caste h e'
theorem om_k3 {k : Int} {p n : Nat} (e : k = (p : Int)) (h : p < n) : k < (n : Int) := e ▸ om_cast h
theorem om_k2 {k N : Int} {p n g m : Nat} (e : k = (p : Int)) (h : p < n) (e' : n = g) (h' : g ≤ m) (d : (m : Int) ≤ N) : k < N := e ▸ om_clen h (e' ▸ h') d
theorem om_k4 {k x : Int} {p n g : Nat} (h0 : 0 ≤ x) (e : k = (p : Int)) (h : p < n) (e' : n = g) (h' : g ≤ 10) : -131071 ≤ x - k - 1 := by omega
theorem om_nlt {a b c : Nat} (h : a ≤ b) (k : Nat.blt b c = true) : a < c := Nat.lt_of_le_of_lt h (Nat.le_of_ble_eq_true k)
theorem om_len3 {a b c d e : Nat} (h : a = b) (h' : b ≤ c) (h2 : c ≤ d) (k : Nat.ble d e = true) : a ≤ e := om_le (h ▸ Nat.le_trans h' h2) k
theorem om_meas {x : Int} {n : Nat} (h : x < (n : Int)) : ((n : Int) - (x + 1)).toNat < ((n : Int) - x).toNat := by omega
theorem om_tn {x : Int} {n : Nat} (h : x ≤ (n : Int)) (h' : ¬ x < (n : Int)) : x.toNat = n := by rw [Int.le_antisymm h (Int.not_lt.mp h')]; rfl
theorem om_l16 {x : Int} {a b n : Nat} (e : (b : Int) = x) (e' : a = b) (h : x < (n : Int)) (h' : n ≤ 100) : a ≤ 16777216 := by
  subst e e'
  exact Nat.le_trans (Nat.le_of_lt (Int.ofNat_lt.mp h)) (om_le h' rfl)
theorem om_sc {x : Int} {n : Nat} (e : (n : Int) = x) : ((n + (0 + 1) : Nat) : Int) = x + 1 := e ▸ rfl
theorem om_s {x y : Int} (h : x < y) : x + 1 ≤ y := h
theorem om_p1 {x : Int} (h : 0 ≤ x) : 0 ≤ x + 1 := Int.add_nonneg h (by decide)
theorem om_far1 {g : Int} {i n : Nat} (h : ¬ g < 0) (hi : i < n) (hn : n ≤ 10) : -131071 ≤ g - (i : Int) - 1 := by omega
theorem om_far2 {g : Int} {i n : Nat} (h : g < (n : Int)) (hn : n ≤ 10) : g - (i : Int) - 1 < 131072 := by omega
theorem lw1 {x : Int} (h : x < 9) : 2 + x - 1 < 2 ^ 62 := by omega
theorem lw2 {x : Int} (h : 0 ≤ x) : -2 ^ 62 ≤ 2 + x - 1 := by omega
theorem lw3 {x : Int} (h : x < 9) : (2 + x - 1 - 0).toNat ≤ 9 := by omega
theorem lw4 {x : Int} (h : x < 9) : (2 + x - 1 - 0).toNat ≤ 16777216 := om_le (lw3 h) rfl
theorem lw5 {x : Int} (h : 0 ≤ x) : 2 + x = ((2 + x - 1 - 0).toNat : Int) + 1 := by omega
theorem lw7 {a b n : Nat} (h : a = n) (h' : b = n) : a + (0 + 1) = b + (0 + 1) := by rw [h, h']
theorem lw8 {a n c : Nat} (e : a = n) (e' : c = n + 1) (h : c ≤ 10) : a + (0 + 1) ≤ 16777216 := by subst e; exact om_le (e' ▸ h) rfl
theorem lw9 {n c : Nat} (e : c = n + 1) (h : c ≤ 10) : n ≤ 9 := by subst e; exact Nat.le_of_succ_le_succ h
theorem lw9' {n c : Nat} (e : c = n + 1) (h : c ≤ 10) : n ≤ 16777216 := om_le (lw9 e h) rfl
theorem lw10 (i : Nat) : (0 + (i : Int)) % 5 < 256 := Int.lt_trans (Int.emod_lt_of_pos _ (by decide)) (by decide)
theorem lw11 (i : Nat) : 0 ≤ (0 + (i : Int)) % 5 := Int.emod_nonneg _ (by decide)
theorem lw12 (i : Nat) : 0 ≤ 0 + (i : Int) := by rw [Int.zero_add]; exact Int.natCast_nonneg _
theorem lw13 {i : Nat} {x : Int} (h : i < (2 + x - 1 - 0).toNat) (h' : x < 9) : 0 + (i : Int) < 262144 := by rw [Int.zero_add]; exact om_clen h (lw3 h') (by decide)


/-! A1 -/
theorem store_let {M : Model} {A : Around} {E : Value → Shared → Prop} {s : Shared} {h₀ : Heap} {L a : Addr} {m : Str → Option Value} {news : List (Addr × Obj)} {cn : Str} {cs : Scope} {ccd : Value} {cl : List (Str × Addr)} {x : Str} {v : Value} {Q : Unit → Shared → Prop}
    (F : Fr h₀ L s.heap m) (N : News h₀ L s.heap news)
    (h : ∀ h', let m' : Str → Option Value := fun y => if y = x then some v else m y; Fr h₀ L h' m' → News h₀ L h' news → Q () { s with heap := h', toks := s.toks + 1 })
    (hk : cs.kind = .function) (hx : (envX cn cs L a ccd cl).kindOf x = some .local) : wpAny M A (storeName (envX cn cs L a ccd cl) x v) Q E s :=
  storeX_L F N h hk hx

/-! S1 -/
noncomputable def PZ.set_source (z : PZ) (v : Array UInt8) (t : Nat) : PZ := { z with sb := v, ts := t }
noncomputable def PZ.set_line_defined (z : PZ) (v : Int) (t : Nat) : PZ := { z with n3 := v, t3 := t }
noncomputable def PZ.set_last_line (z : PZ) (v : Int) (t : Nat) : PZ := { z with n4 := v, t4 := t }
noncomputable def PZ.set_upvalue_count (z : PZ) (v : Int) (t : Nat) : PZ := { z with n5 := v, t5 := t }
noncomputable def PZ.set_param_count (z : PZ) (v : Int) (t : Nat) : PZ := { z with n6 := v, t6 := t }
noncomputable def PZ.set_is_vararg (z : PZ) (v : Int) (t : Nat) : PZ := { z with n7 := v, t7 := t }
noncomputable def PZ.set_max_stack (z : PZ) (v : Int) (t : Nat) : PZ := { z with n8 := v, t8 := t }
section
variable {w : World} {A : Around} {E : Value → Shared → Prop} {s : Shared} {h₀ : Heap} {L : Addr} {m : Str → Option Value} {news news' : List (Addr × Obj)} {P d : Addr} {z : PZ} {c k p l o u b : Addr} {Q : Value → Shared → Prop} {R : Unit → Shared → Prop} {e : Bool}
theorem get_code (F : Fr h₀ L s.heap m) (X₀ : (hd.heap_39 w.params).In h₀) (N : News h₀ L s.heap news) (hP : (P, instObj 178 d) ∈ news) (hD : (d, protoDict w.params z c k p l o u) ∈ news) (h : Q (.ref c) { s with toks := s.toks + 1 }) :
    wpAny (model (RowW.prog (OpenRow.toRowW (OpenLaw.row PySem.Challenge.rw_rh0159_01))) w) A (getAttr (.ref P) "code" e) Q E s := by
  revert X₀; k_fill; intro X₀
  refine' get_own F X₀ (InstAt.of_news N hP hD) ?k4 ?k5 ?k6 ?k7 ?k8 ?k9 h
  case k4 => k_is
  case k5 => k_is
  case k6 => k_is
  case k7 => k_is
  case k8 => k_get
  case k9 => k_handed
theorem set_code (F : Fr h₀ L s.heap m) (X₀ : (hd.heap_39 w.params).In h₀) (N : News h₀ L s.heap news) (hP : (P, instObj 178 d) ∈ news) (hD : (d, protoDict w.params z c k p l o u) ∈ news)
    (U : Upd d (protoDict w.params z c k p l o u) (protoDict w.params z b k p l o u) news news') (h : ∀ h', Fr h₀ L h' m → News h₀ L h' news' → R () { s with heap := h', toks := s.toks + 2 }) :
    wpAny (model (RowW.prog (OpenRow.toRowW (OpenLaw.row PySem.Challenge.rw_rh0159_01))) w) A (setAttr (.ref P) "code" (.ref b)) R E s := by
  revert X₀; k_fill; intro X₀
  refine' set_dict F X₀ N (InstAt.of_news N hP hD) rfl ?k6 ?k7 ?k8 ?k9 ?k10 ?k11 U ?k13 h
  case k6 => k_is
  case k7 => k_is
  case k8 => k_is
  case k9 => k_is
  case k10 => k_get
  case k11 => k_put
  case k13 => exact Nat.le_of_ble_eq_true rfl
theorem get_constants (F : Fr h₀ L s.heap m) (X₀ : (hd.heap_39 w.params).In h₀) (N : News h₀ L s.heap news) (hP : (P, instObj 178 d) ∈ news) (hD : (d, protoDict w.params z c k p l o u) ∈ news) (h : Q (.ref k) { s with toks := s.toks + 1 }) :
    wpAny (model (RowW.prog (OpenRow.toRowW (OpenLaw.row PySem.Challenge.rw_rh0159_01))) w) A (getAttr (.ref P) "constants" e) Q E s := by
  revert X₀; k_fill; intro X₀
  refine' get_own F X₀ (InstAt.of_news N hP hD) ?k4 ?k5 ?k6 ?k7 ?k8 ?k9 h
  case k4 => k_is
  case k5 => k_is
  case k6 => k_is
  case k7 => k_is
  case k8 => k_get
  case k9 => k_handed
theorem set_constants (F : Fr h₀ L s.heap m) (X₀ : (hd.heap_39 w.params).In h₀) (N : News h₀ L s.heap news) (hP : (P, instObj 178 d) ∈ news) (hD : (d, protoDict w.params z c k p l o u) ∈ news)
    (U : Upd d (protoDict w.params z c k p l o u) (protoDict w.params z c b p l o u) news news') (h : ∀ h', Fr h₀ L h' m → News h₀ L h' news' → R () { s with heap := h', toks := s.toks + 2 }) :
    wpAny (model (RowW.prog (OpenRow.toRowW (OpenLaw.row PySem.Challenge.rw_rh0159_01))) w) A (setAttr (.ref P) "constants" (.ref b)) R E s := by
  revert X₀; k_fill; intro X₀
  refine' set_dict F X₀ N (InstAt.of_news N hP hD) rfl ?k6 ?k7 ?k8 ?k9 ?k10 ?k11 U ?k13 h
  case k6 => k_is
  case k7 => k_is
  case k8 => k_is
  case k9 => k_is
  case k10 => k_get
  case k11 => k_put
  case k13 => exact Nat.le_of_ble_eq_true rfl
theorem get_protos (F : Fr h₀ L s.heap m) (X₀ : (hd.heap_39 w.params).In h₀) (N : News h₀ L s.heap news) (hP : (P, instObj 178 d) ∈ news) (hD : (d, protoDict w.params z c k p l o u) ∈ news) (h : Q (.ref p) { s with toks := s.toks + 1 }) :
    wpAny (model (RowW.prog (OpenRow.toRowW (OpenLaw.row PySem.Challenge.rw_rh0159_01))) w) A (getAttr (.ref P) "protos" e) Q E s := by
  revert X₀; k_fill; intro X₀
  refine' get_own F X₀ (InstAt.of_news N hP hD) ?k4 ?k5 ?k6 ?k7 ?k8 ?k9 h
  case k4 => k_is
  case k5 => k_is
  case k6 => k_is
  case k7 => k_is
  case k8 => k_get
  case k9 => k_handed
theorem set_protos (F : Fr h₀ L s.heap m) (X₀ : (hd.heap_39 w.params).In h₀) (N : News h₀ L s.heap news) (hP : (P, instObj 178 d) ∈ news) (hD : (d, protoDict w.params z c k p l o u) ∈ news)
    (U : Upd d (protoDict w.params z c k p l o u) (protoDict w.params z c k b l o u) news news') (h : ∀ h', Fr h₀ L h' m → News h₀ L h' news' → R () { s with heap := h', toks := s.toks + 2 }) :
    wpAny (model (RowW.prog (OpenRow.toRowW (OpenLaw.row PySem.Challenge.rw_rh0159_01))) w) A (setAttr (.ref P) "protos" (.ref b)) R E s := by
  revert X₀; k_fill; intro X₀
  refine' set_dict F X₀ N (InstAt.of_news N hP hD) rfl ?k6 ?k7 ?k8 ?k9 ?k10 ?k11 U ?k13 h
  case k6 => k_is
  case k7 => k_is
  case k8 => k_is
  case k9 => k_is
  case k10 => k_get
  case k11 => k_put
  case k13 => exact Nat.le_of_ble_eq_true rfl
theorem get_line_info (F : Fr h₀ L s.heap m) (X₀ : (hd.heap_39 w.params).In h₀) (N : News h₀ L s.heap news) (hP : (P, instObj 178 d) ∈ news) (hD : (d, protoDict w.params z c k p l o u) ∈ news) (h : Q (.ref l) { s with toks := s.toks + 1 }) :
    wpAny (model (RowW.prog (OpenRow.toRowW (OpenLaw.row PySem.Challenge.rw_rh0159_01))) w) A (getAttr (.ref P) "line_info" e) Q E s := by
  revert X₀; k_fill; intro X₀
  refine' get_own F X₀ (InstAt.of_news N hP hD) ?k4 ?k5 ?k6 ?k7 ?k8 ?k9 h
  case k4 => k_is
  case k5 => k_is
  case k6 => k_is
  case k7 => k_is
  case k8 => k_get
  case k9 => k_handed
theorem set_line_info (F : Fr h₀ L s.heap m) (X₀ : (hd.heap_39 w.params).In h₀) (N : News h₀ L s.heap news) (hP : (P, instObj 178 d) ∈ news) (hD : (d, protoDict w.params z c k p l o u) ∈ news)
    (U : Upd d (protoDict w.params z c k p l o u) (protoDict w.params z c k p b o u) news news') (h : ∀ h', Fr h₀ L h' m → News h₀ L h' news' → R () { s with heap := h', toks := s.toks + 2 }) :
    wpAny (model (RowW.prog (OpenRow.toRowW (OpenLaw.row PySem.Challenge.rw_rh0159_01))) w) A (setAttr (.ref P) "line_info" (.ref b)) R E s := by
  revert X₀; k_fill; intro X₀
  refine' set_dict F X₀ N (InstAt.of_news N hP hD) rfl ?k6 ?k7 ?k8 ?k9 ?k10 ?k11 U ?k13 h
  case k6 => k_is
  case k7 => k_is
  case k8 => k_is
  case k9 => k_is
  case k10 => k_get
  case k11 => k_put
  case k13 => exact Nat.le_of_ble_eq_true rfl
theorem get_locals (F : Fr h₀ L s.heap m) (X₀ : (hd.heap_39 w.params).In h₀) (N : News h₀ L s.heap news) (hP : (P, instObj 178 d) ∈ news) (hD : (d, protoDict w.params z c k p l o u) ∈ news) (h : Q (.ref o) { s with toks := s.toks + 1 }) :
    wpAny (model (RowW.prog (OpenRow.toRowW (OpenLaw.row PySem.Challenge.rw_rh0159_01))) w) A (getAttr (.ref P) "locals" e) Q E s := by
  revert X₀; k_fill; intro X₀
  refine' get_own F X₀ (InstAt.of_news N hP hD) ?k4 ?k5 ?k6 ?k7 ?k8 ?k9 h
  case k4 => k_is
  case k5 => k_is
  case k6 => k_is
  case k7 => k_is
  case k8 => k_get
  case k9 => k_handed
theorem set_locals (F : Fr h₀ L s.heap m) (X₀ : (hd.heap_39 w.params).In h₀) (N : News h₀ L s.heap news) (hP : (P, instObj 178 d) ∈ news) (hD : (d, protoDict w.params z c k p l o u) ∈ news)
    (U : Upd d (protoDict w.params z c k p l o u) (protoDict w.params z c k p l b u) news news') (h : ∀ h', Fr h₀ L h' m → News h₀ L h' news' → R () { s with heap := h', toks := s.toks + 2 }) :
    wpAny (model (RowW.prog (OpenRow.toRowW (OpenLaw.row PySem.Challenge.rw_rh0159_01))) w) A (setAttr (.ref P) "locals" (.ref b)) R E s := by
  revert X₀; k_fill; intro X₀
  refine' set_dict F X₀ N (InstAt.of_news N hP hD) rfl ?k6 ?k7 ?k8 ?k9 ?k10 ?k11 U ?k13 h
  case k6 => k_is
  case k7 => k_is
  case k8 => k_is
  case k9 => k_is
  case k10 => k_get
  case k11 => k_put
  case k13 => exact Nat.le_of_ble_eq_true rfl
theorem get_upvalue_names (F : Fr h₀ L s.heap m) (X₀ : (hd.heap_39 w.params).In h₀) (N : News h₀ L s.heap news) (hP : (P, instObj 178 d) ∈ news) (hD : (d, protoDict w.params z c k p l o u) ∈ news) (h : Q (.ref u) { s with toks := s.toks + 1 }) :
    wpAny (model (RowW.prog (OpenRow.toRowW (OpenLaw.row PySem.Challenge.rw_rh0159_01))) w) A (getAttr (.ref P) "upvalue_names" e) Q E s := by
  revert X₀; k_fill; intro X₀
  refine' get_own F X₀ (InstAt.of_news N hP hD) ?k4 ?k5 ?k6 ?k7 ?k8 ?k9 h
  case k4 => k_is
  case k5 => k_is
  case k6 => k_is
  case k7 => k_is
  case k8 => k_get
  case k9 => k_handed
theorem set_upvalue_names (F : Fr h₀ L s.heap m) (X₀ : (hd.heap_39 w.params).In h₀) (N : News h₀ L s.heap news) (hP : (P, instObj 178 d) ∈ news) (hD : (d, protoDict w.params z c k p l o u) ∈ news)
    (U : Upd d (protoDict w.params z c k p l o u) (protoDict w.params z c k p l o b) news news') (h : ∀ h', Fr h₀ L h' m → News h₀ L h' news' → R () { s with heap := h', toks := s.toks + 2 }) :
    wpAny (model (RowW.prog (OpenRow.toRowW (OpenLaw.row PySem.Challenge.rw_rh0159_01))) w) A (setAttr (.ref P) "upvalue_names" (.ref b)) R E s := by
  revert X₀; k_fill; intro X₀
  refine' set_dict F X₀ N (InstAt.of_news N hP hD) rfl ?k6 ?k7 ?k8 ?k9 ?k10 ?k11 U ?k13 h
  case k6 => k_is
  case k7 => k_is
  case k8 => k_is
  case k9 => k_is
  case k10 => k_get
  case k11 => k_put
  case k13 => exact Nat.le_of_ble_eq_true rfl
theorem get_source (F : Fr h₀ L s.heap m) (X₀ : (hd.heap_39 w.params).In h₀) (N : News h₀ L s.heap news) (hP : (P, instObj 178 d) ∈ news) (hD : (d, protoDict w.params z c k p l o u) ∈ news) (h : Q (.bytes z.sb z.ts) { s with toks := s.toks + 1 }) :
    wpAny (model (RowW.prog (OpenRow.toRowW (OpenLaw.row PySem.Challenge.rw_rh0159_01))) w) A (getAttr (.ref P) "source" e) Q E s := by
  revert X₀; k_fill; intro X₀
  refine' get_own F X₀ (InstAt.of_news N hP hD) ?k4 ?k5 ?k6 ?k7 ?k8 ?k9 h
  case k4 => k_is
  case k5 => k_is
  case k6 => k_is
  case k7 => k_is
  case k8 => k_get
  case k9 => k_handed
theorem set_source {v : Array UInt8} {t : Tok} (F : Fr h₀ L s.heap m) (X₀ : (hd.heap_39 w.params).In h₀) (N : News h₀ L s.heap news) (hP : (P, instObj 178 d) ∈ news) (hD : (d, protoDict w.params z c k p l o u) ∈ news)
    (U : Upd d (protoDict w.params z c k p l o u) (protoDict w.params (z.set_source v t) c k p l o u) news news') (h : ∀ h', Fr h₀ L h' m → News h₀ L h' news' → R () { s with heap := h', toks := s.toks + 2 }) :
    wpAny (model (RowW.prog (OpenRow.toRowW (OpenLaw.row PySem.Challenge.rw_rh0159_01))) w) A (setAttr (.ref P) "source" (.bytes v t)) R E s := by
  revert X₀; k_fill; intro X₀
  refine' set_dict F X₀ N (InstAt.of_news N hP hD) rfl ?k6 ?k7 ?k8 ?k9 ?k10 ?k11 U ?k13 h
  case k6 => k_is
  case k7 => k_is
  case k8 => k_is
  case k9 => k_is
  case k10 => k_get
  case k11 => k_put
  case k13 => exact Nat.le_of_ble_eq_true rfl
theorem get_line_defined (F : Fr h₀ L s.heap m) (X₀ : (hd.heap_39 w.params).In h₀) (N : News h₀ L s.heap news) (hP : (P, instObj 178 d) ∈ news) (hD : (d, protoDict w.params z c k p l o u) ∈ news) (h : Q (.int z.n3 z.t3) { s with toks := s.toks + 1 }) :
    wpAny (model (RowW.prog (OpenRow.toRowW (OpenLaw.row PySem.Challenge.rw_rh0159_01))) w) A (getAttr (.ref P) "line_defined" e) Q E s := by
  revert X₀; k_fill; intro X₀
  refine' get_own F X₀ (InstAt.of_news N hP hD) ?k4 ?k5 ?k6 ?k7 ?k8 ?k9 h
  case k4 => k_is
  case k5 => k_is
  case k6 => k_is
  case k7 => k_is
  case k8 => k_get
  case k9 => k_handed
theorem set_line_defined {v : Int} {t : Tok} (F : Fr h₀ L s.heap m) (X₀ : (hd.heap_39 w.params).In h₀) (N : News h₀ L s.heap news) (hP : (P, instObj 178 d) ∈ news) (hD : (d, protoDict w.params z c k p l o u) ∈ news)
    (U : Upd d (protoDict w.params z c k p l o u) (protoDict w.params (z.set_line_defined v t) c k p l o u) news news') (h : ∀ h', Fr h₀ L h' m → News h₀ L h' news' → R () { s with heap := h', toks := s.toks + 2 }) :
    wpAny (model (RowW.prog (OpenRow.toRowW (OpenLaw.row PySem.Challenge.rw_rh0159_01))) w) A (setAttr (.ref P) "line_defined" (.int v t)) R E s := by
  revert X₀; k_fill; intro X₀
  refine' set_dict F X₀ N (InstAt.of_news N hP hD) rfl ?k6 ?k7 ?k8 ?k9 ?k10 ?k11 U ?k13 h
  case k6 => k_is
  case k7 => k_is
  case k8 => k_is
  case k9 => k_is
  case k10 => k_get
  case k11 => k_put
  case k13 => exact Nat.le_of_ble_eq_true rfl
theorem get_last_line (F : Fr h₀ L s.heap m) (X₀ : (hd.heap_39 w.params).In h₀) (N : News h₀ L s.heap news) (hP : (P, instObj 178 d) ∈ news) (hD : (d, protoDict w.params z c k p l o u) ∈ news) (h : Q (.int z.n4 z.t4) { s with toks := s.toks + 1 }) :
    wpAny (model (RowW.prog (OpenRow.toRowW (OpenLaw.row PySem.Challenge.rw_rh0159_01))) w) A (getAttr (.ref P) "last_line" e) Q E s := by
  revert X₀; k_fill; intro X₀
  refine' get_own F X₀ (InstAt.of_news N hP hD) ?k4 ?k5 ?k6 ?k7 ?k8 ?k9 h
  case k4 => k_is
  case k5 => k_is
  case k6 => k_is
  case k7 => k_is
  case k8 => k_get
  case k9 => k_handed
theorem set_last_line {v : Int} {t : Tok} (F : Fr h₀ L s.heap m) (X₀ : (hd.heap_39 w.params).In h₀) (N : News h₀ L s.heap news) (hP : (P, instObj 178 d) ∈ news) (hD : (d, protoDict w.params z c k p l o u) ∈ news)
    (U : Upd d (protoDict w.params z c k p l o u) (protoDict w.params (z.set_last_line v t) c k p l o u) news news') (h : ∀ h', Fr h₀ L h' m → News h₀ L h' news' → R () { s with heap := h', toks := s.toks + 2 }) :
    wpAny (model (RowW.prog (OpenRow.toRowW (OpenLaw.row PySem.Challenge.rw_rh0159_01))) w) A (setAttr (.ref P) "last_line" (.int v t)) R E s := by
  revert X₀; k_fill; intro X₀
  refine' set_dict F X₀ N (InstAt.of_news N hP hD) rfl ?k6 ?k7 ?k8 ?k9 ?k10 ?k11 U ?k13 h
  case k6 => k_is
  case k7 => k_is
  case k8 => k_is
  case k9 => k_is
  case k10 => k_get
  case k11 => k_put
  case k13 => exact Nat.le_of_ble_eq_true rfl
theorem get_upvalue_count (F : Fr h₀ L s.heap m) (X₀ : (hd.heap_39 w.params).In h₀) (N : News h₀ L s.heap news) (hP : (P, instObj 178 d) ∈ news) (hD : (d, protoDict w.params z c k p l o u) ∈ news) (h : Q (.int z.n5 z.t5) { s with toks := s.toks + 1 }) :
    wpAny (model (RowW.prog (OpenRow.toRowW (OpenLaw.row PySem.Challenge.rw_rh0159_01))) w) A (getAttr (.ref P) "upvalue_count" e) Q E s := by
  revert X₀; k_fill; intro X₀
  refine' get_own F X₀ (InstAt.of_news N hP hD) ?k4 ?k5 ?k6 ?k7 ?k8 ?k9 h
  case k4 => k_is
  case k5 => k_is
  case k6 => k_is
  case k7 => k_is
  case k8 => k_get
  case k9 => k_handed
theorem set_upvalue_count {v : Int} {t : Tok} (F : Fr h₀ L s.heap m) (X₀ : (hd.heap_39 w.params).In h₀) (N : News h₀ L s.heap news) (hP : (P, instObj 178 d) ∈ news) (hD : (d, protoDict w.params z c k p l o u) ∈ news)
    (U : Upd d (protoDict w.params z c k p l o u) (protoDict w.params (z.set_upvalue_count v t) c k p l o u) news news') (h : ∀ h', Fr h₀ L h' m → News h₀ L h' news' → R () { s with heap := h', toks := s.toks + 2 }) :
    wpAny (model (RowW.prog (OpenRow.toRowW (OpenLaw.row PySem.Challenge.rw_rh0159_01))) w) A (setAttr (.ref P) "upvalue_count" (.int v t)) R E s := by
  revert X₀; k_fill; intro X₀
  refine' set_dict F X₀ N (InstAt.of_news N hP hD) rfl ?k6 ?k7 ?k8 ?k9 ?k10 ?k11 U ?k13 h
  case k6 => k_is
  case k7 => k_is
  case k8 => k_is
  case k9 => k_is
  case k10 => k_get
  case k11 => k_put
  case k13 => exact Nat.le_of_ble_eq_true rfl
theorem get_param_count (F : Fr h₀ L s.heap m) (X₀ : (hd.heap_39 w.params).In h₀) (N : News h₀ L s.heap news) (hP : (P, instObj 178 d) ∈ news) (hD : (d, protoDict w.params z c k p l o u) ∈ news) (h : Q (.int z.n6 z.t6) { s with toks := s.toks + 1 }) :
    wpAny (model (RowW.prog (OpenRow.toRowW (OpenLaw.row PySem.Challenge.rw_rh0159_01))) w) A (getAttr (.ref P) "param_count" e) Q E s := by
  revert X₀; k_fill; intro X₀
  refine' get_own F X₀ (InstAt.of_news N hP hD) ?k4 ?k5 ?k6 ?k7 ?k8 ?k9 h
  case k4 => k_is
  case k5 => k_is
  case k6 => k_is
  case k7 => k_is
  case k8 => k_get
  case k9 => k_handed
theorem set_param_count {v : Int} {t : Tok} (F : Fr h₀ L s.heap m) (X₀ : (hd.heap_39 w.params).In h₀) (N : News h₀ L s.heap news) (hP : (P, instObj 178 d) ∈ news) (hD : (d, protoDict w.params z c k p l o u) ∈ news)
    (U : Upd d (protoDict w.params z c k p l o u) (protoDict w.params (z.set_param_count v t) c k p l o u) news news') (h : ∀ h', Fr h₀ L h' m → News h₀ L h' news' → R () { s with heap := h', toks := s.toks + 2 }) :
    wpAny (model (RowW.prog (OpenRow.toRowW (OpenLaw.row PySem.Challenge.rw_rh0159_01))) w) A (setAttr (.ref P) "param_count" (.int v t)) R E s := by
  revert X₀; k_fill; intro X₀
  refine' set_dict F X₀ N (InstAt.of_news N hP hD) rfl ?k6 ?k7 ?k8 ?k9 ?k10 ?k11 U ?k13 h
  case k6 => k_is
  case k7 => k_is
  case k8 => k_is
  case k9 => k_is
  case k10 => k_get
  case k11 => k_put
  case k13 => exact Nat.le_of_ble_eq_true rfl
theorem get_is_vararg (F : Fr h₀ L s.heap m) (X₀ : (hd.heap_39 w.params).In h₀) (N : News h₀ L s.heap news) (hP : (P, instObj 178 d) ∈ news) (hD : (d, protoDict w.params z c k p l o u) ∈ news) (h : Q (.int z.n7 z.t7) { s with toks := s.toks + 1 }) :
    wpAny (model (RowW.prog (OpenRow.toRowW (OpenLaw.row PySem.Challenge.rw_rh0159_01))) w) A (getAttr (.ref P) "is_vararg" e) Q E s := by
  revert X₀; k_fill; intro X₀
  refine' get_own F X₀ (InstAt.of_news N hP hD) ?k4 ?k5 ?k6 ?k7 ?k8 ?k9 h
  case k4 => k_is
  case k5 => k_is
  case k6 => k_is
  case k7 => k_is
  case k8 => k_get
  case k9 => k_handed
theorem set_is_vararg {v : Int} {t : Tok} (F : Fr h₀ L s.heap m) (X₀ : (hd.heap_39 w.params).In h₀) (N : News h₀ L s.heap news) (hP : (P, instObj 178 d) ∈ news) (hD : (d, protoDict w.params z c k p l o u) ∈ news)
    (U : Upd d (protoDict w.params z c k p l o u) (protoDict w.params (z.set_is_vararg v t) c k p l o u) news news') (h : ∀ h', Fr h₀ L h' m → News h₀ L h' news' → R () { s with heap := h', toks := s.toks + 2 }) :
    wpAny (model (RowW.prog (OpenRow.toRowW (OpenLaw.row PySem.Challenge.rw_rh0159_01))) w) A (setAttr (.ref P) "is_vararg" (.int v t)) R E s := by
  revert X₀; k_fill; intro X₀
  refine' set_dict F X₀ N (InstAt.of_news N hP hD) rfl ?k6 ?k7 ?k8 ?k9 ?k10 ?k11 U ?k13 h
  case k6 => k_is
  case k7 => k_is
  case k8 => k_is
  case k9 => k_is
  case k10 => k_get
  case k11 => k_put
  case k13 => exact Nat.le_of_ble_eq_true rfl
theorem get_max_stack (F : Fr h₀ L s.heap m) (X₀ : (hd.heap_39 w.params).In h₀) (N : News h₀ L s.heap news) (hP : (P, instObj 178 d) ∈ news) (hD : (d, protoDict w.params z c k p l o u) ∈ news) (h : Q (.int z.n8 z.t8) { s with toks := s.toks + 1 }) :
    wpAny (model (RowW.prog (OpenRow.toRowW (OpenLaw.row PySem.Challenge.rw_rh0159_01))) w) A (getAttr (.ref P) "max_stack" e) Q E s := by
  revert X₀; k_fill; intro X₀
  refine' get_own F X₀ (InstAt.of_news N hP hD) ?k4 ?k5 ?k6 ?k7 ?k8 ?k9 h
  case k4 => k_is
  case k5 => k_is
  case k6 => k_is
  case k7 => k_is
  case k8 => k_get
  case k9 => k_handed
theorem set_max_stack {v : Int} {t : Tok} (F : Fr h₀ L s.heap m) (X₀ : (hd.heap_39 w.params).In h₀) (N : News h₀ L s.heap news) (hP : (P, instObj 178 d) ∈ news) (hD : (d, protoDict w.params z c k p l o u) ∈ news)
    (U : Upd d (protoDict w.params z c k p l o u) (protoDict w.params (z.set_max_stack v t) c k p l o u) news news') (h : ∀ h', Fr h₀ L h' m → News h₀ L h' news' → R () { s with heap := h', toks := s.toks + 2 }) :
    wpAny (model (RowW.prog (OpenRow.toRowW (OpenLaw.row PySem.Challenge.rw_rh0159_01))) w) A (setAttr (.ref P) "max_stack" (.int v t)) R E s := by
  revert X₀; k_fill; intro X₀
  refine' set_dict F X₀ N (InstAt.of_news N hP hD) rfl ?k6 ?k7 ?k8 ?k9 ?k10 ?k11 U ?k13 h
  case k6 => k_is
  case k7 => k_is
  case k8 => k_is
  case k9 => k_is
  case k10 => k_get
  case k11 => k_put
  case k13 => exact Nat.le_of_ble_eq_true rfl
end
section
variable {w : World} {A : Around} {E : Value → Shared → Prop} {s : Shared} {h₀ : Heap} {L a : Addr} {m : Str → Option Value} {loose : List Str} {mean : ExcName → Option Value} {mg mb : Str → Option Value} {rest : List (Addr × Obj)} {P dP x d : Addr} {z z' : PZ} {c k p l o u c' k' p' l' o' u' : Addr} {its : Array Value} {n : Nat} {cn : Str} {cs : Scope} {ccd : Value} {cl : List (Str × Addr)} {Q : Flow → Shared → Prop} {p1 p2 p3 p4 p5 p6 p7 : Pos}
theorem copy_source (F : Fr h₀ L s.heap m) (X₀ : (hd.heap_39 w.params).In h₀) (N : News h₀ L s.heap ((d, protoDict w.params z' c' k' p' l' o' u') :: rest)) (hk : cs.kind = .function) (kf : (envX cn cs L a ccd cl).kindOf "found" = some .local) (kp : (envX cn cs L a ccd cl).kindOf "p" = some .local) (hf : m "found" = some (.ref x)) (hp : m "p" = some (.ref P))
    (hP : (P, instObj 178 dP) ∈ rest) (hD : (dP, protoDict w.params z c k p l o u) ∈ rest) (hx : (x, instObj 178 d) ∈ rest) (hne : ∀ q ∈ rest, q.1 ≠ d)
    (h : ∀ h' tk', Fr h₀ L h' m → News h₀ L h' ((d, protoDict w.params (z'.set_source z.sb z.ts) c' k' p' l' o' u') :: rest) → Q .next { s with heap := h', toks := tk' }) :
    wpAny (model (RowW.prog (OpenRow.toRowW (OpenLaw.row PySem.Challenge.rw_rh0159_01))) w) A (exec (.Assign [.Attribute (.Name "found" p1) "source" p2] (.Attribute (.Name "p" p3) "source" p4) p5) (envX cn cs L a ccd cl)) Q E s :=
  plainObj_wpAny_Assign_Attribute (Attribute_Name_ (nameX_L F hp (get_source F X₀ N (.tail _ hP) (.tail _ hD) (nameX_L (s := { s with toks := s.toks + 1 }) F hf (set_source (s := { s with toks := s.toks + 1 }) F X₀ N (.tail _ hx) (.head _) (.head hne) fun h' F' N' => h h' _ F' N') hk kf)) hk kp) (by with_unfolding_all rfl)) (by rfl)
theorem copy_line_defined (F : Fr h₀ L s.heap m) (X₀ : (hd.heap_39 w.params).In h₀) (N : News h₀ L s.heap ((d, protoDict w.params z' c' k' p' l' o' u') :: rest)) (hk : cs.kind = .function) (kf : (envX cn cs L a ccd cl).kindOf "found" = some .local) (kp : (envX cn cs L a ccd cl).kindOf "p" = some .local) (hf : m "found" = some (.ref x)) (hp : m "p" = some (.ref P))
    (hP : (P, instObj 178 dP) ∈ rest) (hD : (dP, protoDict w.params z c k p l o u) ∈ rest) (hx : (x, instObj 178 d) ∈ rest) (hne : ∀ q ∈ rest, q.1 ≠ d)
    (h : ∀ h' tk', Fr h₀ L h' m → News h₀ L h' ((d, protoDict w.params (z'.set_line_defined z.n3 z.t3) c' k' p' l' o' u') :: rest) → Q .next { s with heap := h', toks := tk' }) :
    wpAny (model (RowW.prog (OpenRow.toRowW (OpenLaw.row PySem.Challenge.rw_rh0159_01))) w) A (exec (.Assign [.Attribute (.Name "found" p1) "line_defined" p2] (.Attribute (.Name "p" p3) "line_defined" p4) p5) (envX cn cs L a ccd cl)) Q E s :=
  plainObj_wpAny_Assign_Attribute (Attribute_Name_ (nameX_L F hp (get_line_defined F X₀ N (.tail _ hP) (.tail _ hD) (nameX_L (s := { s with toks := s.toks + 1 }) F hf (set_line_defined (s := { s with toks := s.toks + 1 }) F X₀ N (.tail _ hx) (.head _) (.head hne) fun h' F' N' => h h' _ F' N') hk kf)) hk kp) (by with_unfolding_all rfl)) (by rfl)
theorem copy_last_line (F : Fr h₀ L s.heap m) (X₀ : (hd.heap_39 w.params).In h₀) (N : News h₀ L s.heap ((d, protoDict w.params z' c' k' p' l' o' u') :: rest)) (hk : cs.kind = .function) (kf : (envX cn cs L a ccd cl).kindOf "found" = some .local) (kp : (envX cn cs L a ccd cl).kindOf "p" = some .local) (hf : m "found" = some (.ref x)) (hp : m "p" = some (.ref P))
    (hP : (P, instObj 178 dP) ∈ rest) (hD : (dP, protoDict w.params z c k p l o u) ∈ rest) (hx : (x, instObj 178 d) ∈ rest) (hne : ∀ q ∈ rest, q.1 ≠ d)
    (h : ∀ h' tk', Fr h₀ L h' m → News h₀ L h' ((d, protoDict w.params (z'.set_last_line z.n4 z.t4) c' k' p' l' o' u') :: rest) → Q .next { s with heap := h', toks := tk' }) :
    wpAny (model (RowW.prog (OpenRow.toRowW (OpenLaw.row PySem.Challenge.rw_rh0159_01))) w) A (exec (.Assign [.Attribute (.Name "found" p1) "last_line" p2] (.Attribute (.Name "p" p3) "last_line" p4) p5) (envX cn cs L a ccd cl)) Q E s :=
  plainObj_wpAny_Assign_Attribute (Attribute_Name_ (nameX_L F hp (get_last_line F X₀ N (.tail _ hP) (.tail _ hD) (nameX_L (s := { s with toks := s.toks + 1 }) F hf (set_last_line (s := { s with toks := s.toks + 1 }) F X₀ N (.tail _ hx) (.head _) (.head hne) fun h' F' N' => h h' _ F' N') hk kf)) hk kp) (by with_unfolding_all rfl)) (by rfl)
theorem copy_upvalue_count (F : Fr h₀ L s.heap m) (X₀ : (hd.heap_39 w.params).In h₀) (N : News h₀ L s.heap ((d, protoDict w.params z' c' k' p' l' o' u') :: rest)) (hk : cs.kind = .function) (kf : (envX cn cs L a ccd cl).kindOf "found" = some .local) (kp : (envX cn cs L a ccd cl).kindOf "p" = some .local) (hf : m "found" = some (.ref x)) (hp : m "p" = some (.ref P))
    (hP : (P, instObj 178 dP) ∈ rest) (hD : (dP, protoDict w.params z c k p l o u) ∈ rest) (hx : (x, instObj 178 d) ∈ rest) (hne : ∀ q ∈ rest, q.1 ≠ d)
    (h : ∀ h' tk', Fr h₀ L h' m → News h₀ L h' ((d, protoDict w.params (z'.set_upvalue_count z.n5 z.t5) c' k' p' l' o' u') :: rest) → Q .next { s with heap := h', toks := tk' }) :
    wpAny (model (RowW.prog (OpenRow.toRowW (OpenLaw.row PySem.Challenge.rw_rh0159_01))) w) A (exec (.Assign [.Attribute (.Name "found" p1) "upvalue_count" p2] (.Attribute (.Name "p" p3) "upvalue_count" p4) p5) (envX cn cs L a ccd cl)) Q E s :=
  plainObj_wpAny_Assign_Attribute (Attribute_Name_ (nameX_L F hp (get_upvalue_count F X₀ N (.tail _ hP) (.tail _ hD) (nameX_L (s := { s with toks := s.toks + 1 }) F hf (set_upvalue_count (s := { s with toks := s.toks + 1 }) F X₀ N (.tail _ hx) (.head _) (.head hne) fun h' F' N' => h h' _ F' N') hk kf)) hk kp) (by with_unfolding_all rfl)) (by rfl)
theorem copy_param_count (F : Fr h₀ L s.heap m) (X₀ : (hd.heap_39 w.params).In h₀) (N : News h₀ L s.heap ((d, protoDict w.params z' c' k' p' l' o' u') :: rest)) (hk : cs.kind = .function) (kf : (envX cn cs L a ccd cl).kindOf "found" = some .local) (kp : (envX cn cs L a ccd cl).kindOf "p" = some .local) (hf : m "found" = some (.ref x)) (hp : m "p" = some (.ref P))
    (hP : (P, instObj 178 dP) ∈ rest) (hD : (dP, protoDict w.params z c k p l o u) ∈ rest) (hx : (x, instObj 178 d) ∈ rest) (hne : ∀ q ∈ rest, q.1 ≠ d)
    (h : ∀ h' tk', Fr h₀ L h' m → News h₀ L h' ((d, protoDict w.params (z'.set_param_count z.n6 z.t6) c' k' p' l' o' u') :: rest) → Q .next { s with heap := h', toks := tk' }) :
    wpAny (model (RowW.prog (OpenRow.toRowW (OpenLaw.row PySem.Challenge.rw_rh0159_01))) w) A (exec (.Assign [.Attribute (.Name "found" p1) "param_count" p2] (.Attribute (.Name "p" p3) "param_count" p4) p5) (envX cn cs L a ccd cl)) Q E s :=
  plainObj_wpAny_Assign_Attribute (Attribute_Name_ (nameX_L F hp (get_param_count F X₀ N (.tail _ hP) (.tail _ hD) (nameX_L (s := { s with toks := s.toks + 1 }) F hf (set_param_count (s := { s with toks := s.toks + 1 }) F X₀ N (.tail _ hx) (.head _) (.head hne) fun h' F' N' => h h' _ F' N') hk kf)) hk kp) (by with_unfolding_all rfl)) (by rfl)
theorem copy_is_vararg (F : Fr h₀ L s.heap m) (X₀ : (hd.heap_39 w.params).In h₀) (N : News h₀ L s.heap ((d, protoDict w.params z' c' k' p' l' o' u') :: rest)) (hk : cs.kind = .function) (kf : (envX cn cs L a ccd cl).kindOf "found" = some .local) (kp : (envX cn cs L a ccd cl).kindOf "p" = some .local) (hf : m "found" = some (.ref x)) (hp : m "p" = some (.ref P))
    (hP : (P, instObj 178 dP) ∈ rest) (hD : (dP, protoDict w.params z c k p l o u) ∈ rest) (hx : (x, instObj 178 d) ∈ rest) (hne : ∀ q ∈ rest, q.1 ≠ d)
    (h : ∀ h' tk', Fr h₀ L h' m → News h₀ L h' ((d, protoDict w.params (z'.set_is_vararg z.n7 z.t7) c' k' p' l' o' u') :: rest) → Q .next { s with heap := h', toks := tk' }) :
    wpAny (model (RowW.prog (OpenRow.toRowW (OpenLaw.row PySem.Challenge.rw_rh0159_01))) w) A (exec (.Assign [.Attribute (.Name "found" p1) "is_vararg" p2] (.Attribute (.Name "p" p3) "is_vararg" p4) p5) (envX cn cs L a ccd cl)) Q E s :=
  plainObj_wpAny_Assign_Attribute (Attribute_Name_ (nameX_L F hp (get_is_vararg F X₀ N (.tail _ hP) (.tail _ hD) (nameX_L (s := { s with toks := s.toks + 1 }) F hf (set_is_vararg (s := { s with toks := s.toks + 1 }) F X₀ N (.tail _ hx) (.head _) (.head hne) fun h' F' N' => h h' _ F' N') hk kf)) hk kp) (by with_unfolding_all rfl)) (by rfl)
theorem copy_max_stack (F : Fr h₀ L s.heap m) (X₀ : (hd.heap_39 w.params).In h₀) (N : News h₀ L s.heap ((d, protoDict w.params z' c' k' p' l' o' u') :: rest)) (hk : cs.kind = .function) (kf : (envX cn cs L a ccd cl).kindOf "found" = some .local) (kp : (envX cn cs L a ccd cl).kindOf "p" = some .local) (hf : m "found" = some (.ref x)) (hp : m "p" = some (.ref P))
    (hP : (P, instObj 178 dP) ∈ rest) (hD : (dP, protoDict w.params z c k p l o u) ∈ rest) (hx : (x, instObj 178 d) ∈ rest) (hne : ∀ q ∈ rest, q.1 ≠ d)
    (h : ∀ h' tk', Fr h₀ L h' m → News h₀ L h' ((d, protoDict w.params (z'.set_max_stack z.n8 z.t8) c' k' p' l' o' u') :: rest) → Q .next { s with heap := h', toks := tk' }) :
    wpAny (model (RowW.prog (OpenRow.toRowW (OpenLaw.row PySem.Challenge.rw_rh0159_01))) w) A (exec (.Assign [.Attribute (.Name "found" p1) "max_stack" p2] (.Attribute (.Name "p" p3) "max_stack" p4) p5) (envX cn cs L a ccd cl)) Q E s :=
  plainObj_wpAny_Assign_Attribute (Attribute_Name_ (nameX_L F hp (get_max_stack F X₀ N (.tail _ hP) (.tail _ hD) (nameX_L (s := { s with toks := s.toks + 1 }) F hf (set_max_stack (s := { s with toks := s.toks + 1 }) F X₀ N (.tail _ hx) (.head _) (.head hne) fun h' F' N' => h h' _ F' N') hk kf)) hk kp) (by with_unfolding_all rfl)) (by rfl)
theorem copylist_code (F : Fr h₀ L s.heap m) (X₀ : (hd.heap_39 w.params).In h₀) (N : News h₀ L s.heap ((d, protoDict w.params z' c' k' p' l' o' u') :: rest)) (hk : cs.kind = .function) (kf : (envX cn cs L a ccd cl).kindOf "found" = some .local) (kp : (envX cn cs L a ccd cl).kindOf "p" = some .local) (hf : m "found" = some (.ref x)) (hp : m "p" = some (.ref P))
    (hP : (P, instObj 178 dP) ∈ rest) (hD : (dP, protoDict w.params z c k p l o u) ∈ rest) (hx : (x, instObj 178 d) ∈ rest) (hne : ∀ q ∈ rest, q.1 ≠ d)
    (T : Top hd.view_39 loose mean mg mb h₀) (kl : (envX cn cs L a ccd cl).kindOf "list" = some .globalImplicit) (hl : (c, listOf its n) ∈ rest) (hsz : its.size ≤ sizeLine)
    (h : ∀ (D : Addr) (n' : Nat) (rest' : List (Addr × Obj)) (h' : Heap) (tk' : Nat), Fr h₀ L h' m → News h₀ L h' ((d, protoDict w.params z' D k' p' l' o' u') :: rest') → (∀ q ∈ rest, q ∈ rest') → (D, listOf its n') ∈ rest' → (∀ q ∈ rest', q.1 ≠ d) → (∀ q ∈ rest, q.1 < D) → Q .next { s with heap := h', toks := tk' }) :
    wpAny (model (RowW.prog (OpenRow.toRowW (OpenLaw.row PySem.Challenge.rw_rh0159_01))) w) A (exec (.Assign [.Attribute (.Name "found" p1) "code" p2] (.Call (.Name "list" p6) [.Attribute (.Name "p" p3) "code" p4] [] p7) p5) (envX cn cs L a ccd cl)) Q E s := by
  revert X₀; k_fill; intro X₀
  refine plainObj_wpAny_Assign_Attribute (Call_ ?_) (by rfl)
  refine nameX_B F X₀ (topRead_of T) ?e PyProof.Rows.boot_list (by decide) ?_ hk kl
  case e => k_is
  refine Pv.callWith_type1 ?_
  refine args_cons (Attribute_Name_ (nameX_L F hp (get_code F X₀ N (.tail _ hP) (.tail _ hD) ?_) hk kp) (by with_unfolding_all rfl)) (by rfl)
  refine args_nil ?_
  refine list_copyK (s := { s with toks := s.toks + 1 }) F N ⟨_, N.get (.tail _ hl), rfl, n, rfl⟩ (fun D n' h' F' N' hlt => ?_) hsz
  have hlt' : ∀ q ∈ rest, q.1 < D := fun q hq => hlt q (.tail _ hq)
  have hdD : d < D := hlt _ (.head _)
  have hne' : ∀ q ∈ (D, listOf its n') :: rest, q.1 ≠ d := fun q hq => by
    rcases List.mem_cons.mp hq with rfl | hq
    · exact Nat.ne_of_gt hdD
    · exact hne q hq
  have N2 : News h₀ L h' ((d, protoDict w.params z' c' k' p' l' o' u') :: (D, listOf its n') :: rest) := kst_newsOf N' fun q hq => by
    rcases List.mem_cons.mp hq with rfl | hq
    · exact .tail _ (.head _)
    · rcases List.mem_cons.mp hq with rfl | hq
      · exact .head _
      · exact .tail _ (.tail _ hq)
  refine nameX_L (s := { s with heap := h', toks := s.toks + 1 }) F' hf ?_ hk kf
  exact set_code (s := { s with heap := h', toks := s.toks + 1 }) F' X₀ N2 (.tail _ (.tail _ hx)) (.head _) (.head hne') fun h'' F'' N'' => h D n' _ h'' _ F'' N'' (fun q hq => .tail _ hq) (.head _) hne' hlt'
theorem copylist_constants (F : Fr h₀ L s.heap m) (X₀ : (hd.heap_39 w.params).In h₀) (N : News h₀ L s.heap ((d, protoDict w.params z' c' k' p' l' o' u') :: rest)) (hk : cs.kind = .function) (kf : (envX cn cs L a ccd cl).kindOf "found" = some .local) (kp : (envX cn cs L a ccd cl).kindOf "p" = some .local) (hf : m "found" = some (.ref x)) (hp : m "p" = some (.ref P))
    (hP : (P, instObj 178 dP) ∈ rest) (hD : (dP, protoDict w.params z c k p l o u) ∈ rest) (hx : (x, instObj 178 d) ∈ rest) (hne : ∀ q ∈ rest, q.1 ≠ d)
    (T : Top hd.view_39 loose mean mg mb h₀) (kl : (envX cn cs L a ccd cl).kindOf "list" = some .globalImplicit) (hl : (k, listOf its n) ∈ rest) (hsz : its.size ≤ sizeLine)
    (h : ∀ (D : Addr) (n' : Nat) (rest' : List (Addr × Obj)) (h' : Heap) (tk' : Nat), Fr h₀ L h' m → News h₀ L h' ((d, protoDict w.params z' c' D p' l' o' u') :: rest') → (∀ q ∈ rest, q ∈ rest') → (D, listOf its n') ∈ rest' → (∀ q ∈ rest', q.1 ≠ d) → (∀ q ∈ rest, q.1 < D) → Q .next { s with heap := h', toks := tk' }) :
    wpAny (model (RowW.prog (OpenRow.toRowW (OpenLaw.row PySem.Challenge.rw_rh0159_01))) w) A (exec (.Assign [.Attribute (.Name "found" p1) "constants" p2] (.Call (.Name "list" p6) [.Attribute (.Name "p" p3) "constants" p4] [] p7) p5) (envX cn cs L a ccd cl)) Q E s := by
  revert X₀; k_fill; intro X₀
  refine plainObj_wpAny_Assign_Attribute (Call_ ?_) (by rfl)
  refine nameX_B F X₀ (topRead_of T) ?e PyProof.Rows.boot_list (by decide) ?_ hk kl
  case e => k_is
  refine Pv.callWith_type1 ?_
  refine args_cons (Attribute_Name_ (nameX_L F hp (get_constants F X₀ N (.tail _ hP) (.tail _ hD) ?_) hk kp) (by with_unfolding_all rfl)) (by rfl)
  refine args_nil ?_
  refine list_copyK (s := { s with toks := s.toks + 1 }) F N ⟨_, N.get (.tail _ hl), rfl, n, rfl⟩ (fun D n' h' F' N' hlt => ?_) hsz
  have hlt' : ∀ q ∈ rest, q.1 < D := fun q hq => hlt q (.tail _ hq)
  have hdD : d < D := hlt _ (.head _)
  have hne' : ∀ q ∈ (D, listOf its n') :: rest, q.1 ≠ d := fun q hq => by
    rcases List.mem_cons.mp hq with rfl | hq
    · exact Nat.ne_of_gt hdD
    · exact hne q hq
  have N2 : News h₀ L h' ((d, protoDict w.params z' c' k' p' l' o' u') :: (D, listOf its n') :: rest) := kst_newsOf N' fun q hq => by
    rcases List.mem_cons.mp hq with rfl | hq
    · exact .tail _ (.head _)
    · rcases List.mem_cons.mp hq with rfl | hq
      · exact .head _
      · exact .tail _ (.tail _ hq)
  refine nameX_L (s := { s with heap := h', toks := s.toks + 1 }) F' hf ?_ hk kf
  exact set_constants (s := { s with heap := h', toks := s.toks + 1 }) F' X₀ N2 (.tail _ (.tail _ hx)) (.head _) (.head hne') fun h'' F'' N'' => h D n' _ h'' _ F'' N'' (fun q hq => .tail _ hq) (.head _) hne' hlt'
theorem copylist_protos (F : Fr h₀ L s.heap m) (X₀ : (hd.heap_39 w.params).In h₀) (N : News h₀ L s.heap ((d, protoDict w.params z' c' k' p' l' o' u') :: rest)) (hk : cs.kind = .function) (kf : (envX cn cs L a ccd cl).kindOf "found" = some .local) (kp : (envX cn cs L a ccd cl).kindOf "p" = some .local) (hf : m "found" = some (.ref x)) (hp : m "p" = some (.ref P))
    (hP : (P, instObj 178 dP) ∈ rest) (hD : (dP, protoDict w.params z c k p l o u) ∈ rest) (hx : (x, instObj 178 d) ∈ rest) (hne : ∀ q ∈ rest, q.1 ≠ d)
    (T : Top hd.view_39 loose mean mg mb h₀) (kl : (envX cn cs L a ccd cl).kindOf "list" = some .globalImplicit) (hl : (p, listOf its n) ∈ rest) (hsz : its.size ≤ sizeLine)
    (h : ∀ (D : Addr) (n' : Nat) (rest' : List (Addr × Obj)) (h' : Heap) (tk' : Nat), Fr h₀ L h' m → News h₀ L h' ((d, protoDict w.params z' c' k' D l' o' u') :: rest') → (∀ q ∈ rest, q ∈ rest') → (D, listOf its n') ∈ rest' → (∀ q ∈ rest', q.1 ≠ d) → (∀ q ∈ rest, q.1 < D) → Q .next { s with heap := h', toks := tk' }) :
    wpAny (model (RowW.prog (OpenRow.toRowW (OpenLaw.row PySem.Challenge.rw_rh0159_01))) w) A (exec (.Assign [.Attribute (.Name "found" p1) "protos" p2] (.Call (.Name "list" p6) [.Attribute (.Name "p" p3) "protos" p4] [] p7) p5) (envX cn cs L a ccd cl)) Q E s := by
  revert X₀; k_fill; intro X₀
  refine plainObj_wpAny_Assign_Attribute (Call_ ?_) (by rfl)
  refine nameX_B F X₀ (topRead_of T) ?e PyProof.Rows.boot_list (by decide) ?_ hk kl
  case e => k_is
  refine Pv.callWith_type1 ?_
  refine args_cons (Attribute_Name_ (nameX_L F hp (get_protos F X₀ N (.tail _ hP) (.tail _ hD) ?_) hk kp) (by with_unfolding_all rfl)) (by rfl)
  refine args_nil ?_
  refine list_copyK (s := { s with toks := s.toks + 1 }) F N ⟨_, N.get (.tail _ hl), rfl, n, rfl⟩ (fun D n' h' F' N' hlt => ?_) hsz
  have hlt' : ∀ q ∈ rest, q.1 < D := fun q hq => hlt q (.tail _ hq)
  have hdD : d < D := hlt _ (.head _)
  have hne' : ∀ q ∈ (D, listOf its n') :: rest, q.1 ≠ d := fun q hq => by
    rcases List.mem_cons.mp hq with rfl | hq
    · exact Nat.ne_of_gt hdD
    · exact hne q hq
  have N2 : News h₀ L h' ((d, protoDict w.params z' c' k' p' l' o' u') :: (D, listOf its n') :: rest) := kst_newsOf N' fun q hq => by
    rcases List.mem_cons.mp hq with rfl | hq
    · exact .tail _ (.head _)
    · rcases List.mem_cons.mp hq with rfl | hq
      · exact .head _
      · exact .tail _ (.tail _ hq)
  refine nameX_L (s := { s with heap := h', toks := s.toks + 1 }) F' hf ?_ hk kf
  exact set_protos (s := { s with heap := h', toks := s.toks + 1 }) F' X₀ N2 (.tail _ (.tail _ hx)) (.head _) (.head hne') fun h'' F'' N'' => h D n' _ h'' _ F'' N'' (fun q hq => .tail _ hq) (.head _) hne' hlt'
theorem copylist_line_info (F : Fr h₀ L s.heap m) (X₀ : (hd.heap_39 w.params).In h₀) (N : News h₀ L s.heap ((d, protoDict w.params z' c' k' p' l' o' u') :: rest)) (hk : cs.kind = .function) (kf : (envX cn cs L a ccd cl).kindOf "found" = some .local) (kp : (envX cn cs L a ccd cl).kindOf "p" = some .local) (hf : m "found" = some (.ref x)) (hp : m "p" = some (.ref P))
    (hP : (P, instObj 178 dP) ∈ rest) (hD : (dP, protoDict w.params z c k p l o u) ∈ rest) (hx : (x, instObj 178 d) ∈ rest) (hne : ∀ q ∈ rest, q.1 ≠ d)
    (T : Top hd.view_39 loose mean mg mb h₀) (kl : (envX cn cs L a ccd cl).kindOf "list" = some .globalImplicit) (hl : (l, listOf its n) ∈ rest) (hsz : its.size ≤ sizeLine)
    (h : ∀ (D : Addr) (n' : Nat) (rest' : List (Addr × Obj)) (h' : Heap) (tk' : Nat), Fr h₀ L h' m → News h₀ L h' ((d, protoDict w.params z' c' k' p' D o' u') :: rest') → (∀ q ∈ rest, q ∈ rest') → (D, listOf its n') ∈ rest' → (∀ q ∈ rest', q.1 ≠ d) → (∀ q ∈ rest, q.1 < D) → Q .next { s with heap := h', toks := tk' }) :
    wpAny (model (RowW.prog (OpenRow.toRowW (OpenLaw.row PySem.Challenge.rw_rh0159_01))) w) A (exec (.Assign [.Attribute (.Name "found" p1) "line_info" p2] (.Call (.Name "list" p6) [.Attribute (.Name "p" p3) "line_info" p4] [] p7) p5) (envX cn cs L a ccd cl)) Q E s := by
  revert X₀; k_fill; intro X₀
  refine plainObj_wpAny_Assign_Attribute (Call_ ?_) (by rfl)
  refine nameX_B F X₀ (topRead_of T) ?e PyProof.Rows.boot_list (by decide) ?_ hk kl
  case e => k_is
  refine Pv.callWith_type1 ?_
  refine args_cons (Attribute_Name_ (nameX_L F hp (get_line_info F X₀ N (.tail _ hP) (.tail _ hD) ?_) hk kp) (by with_unfolding_all rfl)) (by rfl)
  refine args_nil ?_
  refine list_copyK (s := { s with toks := s.toks + 1 }) F N ⟨_, N.get (.tail _ hl), rfl, n, rfl⟩ (fun D n' h' F' N' hlt => ?_) hsz
  have hlt' : ∀ q ∈ rest, q.1 < D := fun q hq => hlt q (.tail _ hq)
  have hdD : d < D := hlt _ (.head _)
  have hne' : ∀ q ∈ (D, listOf its n') :: rest, q.1 ≠ d := fun q hq => by
    rcases List.mem_cons.mp hq with rfl | hq
    · exact Nat.ne_of_gt hdD
    · exact hne q hq
  have N2 : News h₀ L h' ((d, protoDict w.params z' c' k' p' l' o' u') :: (D, listOf its n') :: rest) := kst_newsOf N' fun q hq => by
    rcases List.mem_cons.mp hq with rfl | hq
    · exact .tail _ (.head _)
    · rcases List.mem_cons.mp hq with rfl | hq
      · exact .head _
      · exact .tail _ (.tail _ hq)
  refine nameX_L (s := { s with heap := h', toks := s.toks + 1 }) F' hf ?_ hk kf
  exact set_line_info (s := { s with heap := h', toks := s.toks + 1 }) F' X₀ N2 (.tail _ (.tail _ hx)) (.head _) (.head hne') fun h'' F'' N'' => h D n' _ h'' _ F'' N'' (fun q hq => .tail _ hq) (.head _) hne' hlt'
theorem copylist_upvalue_names (F : Fr h₀ L s.heap m) (X₀ : (hd.heap_39 w.params).In h₀) (N : News h₀ L s.heap ((d, protoDict w.params z' c' k' p' l' o' u') :: rest)) (hk : cs.kind = .function) (kf : (envX cn cs L a ccd cl).kindOf "found" = some .local) (kp : (envX cn cs L a ccd cl).kindOf "p" = some .local) (hf : m "found" = some (.ref x)) (hp : m "p" = some (.ref P))
    (hP : (P, instObj 178 dP) ∈ rest) (hD : (dP, protoDict w.params z c k p l o u) ∈ rest) (hx : (x, instObj 178 d) ∈ rest) (hne : ∀ q ∈ rest, q.1 ≠ d)
    (T : Top hd.view_39 loose mean mg mb h₀) (kl : (envX cn cs L a ccd cl).kindOf "list" = some .globalImplicit) (hl : (u, listOf its n) ∈ rest) (hsz : its.size ≤ sizeLine)
    (h : ∀ (D : Addr) (n' : Nat) (rest' : List (Addr × Obj)) (h' : Heap) (tk' : Nat), Fr h₀ L h' m → News h₀ L h' ((d, protoDict w.params z' c' k' p' l' o' D) :: rest') → (∀ q ∈ rest, q ∈ rest') → (D, listOf its n') ∈ rest' → (∀ q ∈ rest', q.1 ≠ d) → (∀ q ∈ rest, q.1 < D) → Q .next { s with heap := h', toks := tk' }) :
    wpAny (model (RowW.prog (OpenRow.toRowW (OpenLaw.row PySem.Challenge.rw_rh0159_01))) w) A (exec (.Assign [.Attribute (.Name "found" p1) "upvalue_names" p2] (.Call (.Name "list" p6) [.Attribute (.Name "p" p3) "upvalue_names" p4] [] p7) p5) (envX cn cs L a ccd cl)) Q E s := by
  revert X₀; k_fill; intro X₀
  refine plainObj_wpAny_Assign_Attribute (Call_ ?_) (by rfl)
  refine nameX_B F X₀ (topRead_of T) ?e PyProof.Rows.boot_list (by decide) ?_ hk kl
  case e => k_is
  refine Pv.callWith_type1 ?_
  refine args_cons (Attribute_Name_ (nameX_L F hp (get_upvalue_names F X₀ N (.tail _ hP) (.tail _ hD) ?_) hk kp) (by with_unfolding_all rfl)) (by rfl)
  refine args_nil ?_
  refine list_copyK (s := { s with toks := s.toks + 1 }) F N ⟨_, N.get (.tail _ hl), rfl, n, rfl⟩ (fun D n' h' F' N' hlt => ?_) hsz
  have hlt' : ∀ q ∈ rest, q.1 < D := fun q hq => hlt q (.tail _ hq)
  have hdD : d < D := hlt _ (.head _)
  have hne' : ∀ q ∈ (D, listOf its n') :: rest, q.1 ≠ d := fun q hq => by
    rcases List.mem_cons.mp hq with rfl | hq
    · exact Nat.ne_of_gt hdD
    · exact hne q hq
  have N2 : News h₀ L h' ((d, protoDict w.params z' c' k' p' l' o' u') :: (D, listOf its n') :: rest) := kst_newsOf N' fun q hq => by
    rcases List.mem_cons.mp hq with rfl | hq
    · exact .tail _ (.head _)
    · rcases List.mem_cons.mp hq with rfl | hq
      · exact .head _
      · exact .tail _ (.tail _ hq)
  refine nameX_L (s := { s with heap := h', toks := s.toks + 1 }) F' hf ?_ hk kf
  exact set_upvalue_names (s := { s with heap := h', toks := s.toks + 1 }) F' X₀ N2 (.tail _ (.tail _ hx)) (.head _) (.head hne') fun h'' F'' N'' => h D n' _ h'' _ F'' N'' (fun q hq => .tail _ hq) (.head _) hne' hlt'
end


/-! P1 -/
noncomputable def opOf (x : Int) : Int := Builtin.bitAnd (Int.fdiv x (2 ^ Int.toNat 0)) (1 * 2 ^ Int.toNat 6 - 1)
noncomputable def sbxOf (x : Int) : Int := Builtin.bitAnd (Int.fdiv x (2 ^ Int.toNat 14)) (1 * 2 ^ Int.toNat 18 - 1) - 131071
noncomputable def setSbx (x k : Int) : Int := Builtin.bitOr (Builtin.bitAnd (Builtin.bitAnd x (Builtin.bitNot ((1 * 2 ^ Int.toNat 18 - 1) * 2 ^ Int.toNat 14))) 4294967295)
      (Builtin.bitAnd ((k + 131071) * 2 ^ Int.toNat 14) ((1 * 2 ^ Int.toNat 18 - 1) * 2 ^ Int.toNat 14))
noncomputable def mkJmp (k : Int) : Int := Builtin.bitOr (Builtin.bitOr (22 * 2 ^ Int.toNat 0) (0 * 2 ^ Int.toNat 6)) ((k + 131071) * 2 ^ Int.toNat 14)
noncomputable def mkLoad (a b : Int) : Int := Builtin.bitOr (Builtin.bitOr (1 * 2 ^ Int.toNat 0) (a * 2 ^ Int.toNat 6)) (b * 2 ^ Int.toNat 14)
noncomputable def mkRet : Int := Builtin.bitOr (Builtin.bitOr (Builtin.bitOr (30 * 2 ^ Int.toNat 0) (0 * 2 ^ Int.toNat 6)) (1 * 2 ^ Int.toNat 23)) (0 * 2 ^ Int.toNat 14)
theorem get_op_spec {w : World} {loose mean mg mb news} (x : Int) (t : Tok) (h0 : 0 ≤ x) (h1 : x < 4294967296) :
    Calls w loose mean mg mb 63 news [.int x t] 4 20 (fun v news' => (∃ t', v = .int (opOf x) t') ∧ news' = news) := by
  unfold Calls
  w_top off
  k_with_none
  (k_with "my k_enter" => first | ((refine' code_def ?k1 ?k2 ?k3 ?k4 ?k5 ?kA ?kF ?kK ?k6 ?k7 ?k8 ?k9 ?kB ?_ ?c2 ?c3 ?c4 ?c5; (case kA => exact rfl); (case kF => exact rfl); (case kK => first | exact rfl | assumption); (case k1 => k_asm); (case k2 => k_asm); (case k3 => k_asm); (case k4 => k_asm); (case k5 => k_asm); (case k6 => k_is); (case k7 => k_is); (case k8 => ktr_room); (case k9 => first | k_extra "bind" | exact BindsTo.of_eq rfl | exact binds_K (by k_in) rfl (by k_is) rfl rfl rfl | fail "k_enter: no rule for these arguments"); (case c5 => decide); (case kB => exact locs rfl); (case c2 => exact rfl); (case c3 => exact rfl); (case c4 => exact rfl); k_whole; intro g' L' h' FG' F' N' B' X' T'; (try dsimp only); (try k_lift B'); (try k_fold))))
  (k_with "bind" => first | exact BindsTo.of_eq (binds := [("word", _), ("pos", _), ("size", _)]) rfl | exact BindsTo.of_eq (binds := [("word", _), ("value", _), ("pos", _), ("size", _)]) rfl | exact BindsTo.of_eq (binds := [("op", _), ("a", _), ("b", _), ("c", _)]) rfl | exact BindsTo.of_eq (binds := [("op", _), ("a", _), ("bx", _)]) rfl | exact BindsTo.of_eq (binds := [("op", _), ("a", _), ("sbx", _)]) rfl | exact BindsTo.of_eq (binds := [("word", _)]) rfl | exact BindsTo.of_eq (binds := [("word", _), ("bx", _)]) rfl | exact BindsTo.of_eq (binds := [("word", _), ("sbx", _)]) rfl | exact BindsTo.of_eq (binds := [("p", _), ("pc", _)]) rfl | exact BindsTo.of_eq (binds := [("p", _)]) rfl | exact BindsTo.of_eq (binds := [("urn", _), ("many", _)]) rfl | exact BindsTo.of_eq (binds := [("goals", _), ("at", _), ("most", _)]) rfl | exact BindsTo.of_eq (binds := [("goals", _), ("others", _)]) rfl | exact BindsTo.of_eq (binds := [("script", _)]) rfl | exact BindsTo.of_eq (binds := [("self", _)]) rfl | exact BindsTo.of_eq (binds := [("self", _), ("number", _), ("size", _)]) rfl)
  (k_with "my storeName" => first | (k_here; k_dflt (refine' store_let ?F ?N ?_ ?a ?b; (case F => k_asm); (case N => k_asm); (case a => rfl); (case b => rfl); k_whole; intro h' m' F' N'; (try k_sweep))))
  (k_with "my omega" => (k_whole; first | with_reducible assumption | k_dflt decide | with_reducible (first | (show @LT.lt Nat _ _ _; first | exact om_r0 (by assumption) | exact om_r1 (by assumption) (by k_dflt (exact rfl)) | exact om_r2 (by assumption) (by k_dflt (exact rfl)) | exact om_d1 (by assumption) (by assumption) (by k_dflt (exact rfl)) | exact om_d2 (by assumption) (by assumption) (by k_dflt (exact rfl)) | exact om_nlt (by assumption) (by k_dflt (exact rfl)) | exact om_meas (by assumption)) | (show @LE.le Nat _ _ _; first | exact om_le (by assumption) (by k_dflt (exact rfl)) | exact om_len (by assumption) (by assumption) (by k_dflt (exact rfl)) | exact om_len3 (by assumption) (by assumption) (by assumption) (by k_dflt (exact rfl)) | exact om_l16 (by assumption) (by assumption) (by assumption) (by assumption)) | (show @LT.lt Int _ _ _; first | exact om_cast (by assumption) | exact om_caste (by assumption) (by assumption) | exact om_eqlt (by assumption) (by assumption) | exact om_clen (by assumption) (by assumption) (by k_dflt decide) | exact om_ilen (by assumption) (by assumption) (by k_dflt decide) | exact om_cle (by assumption) (by k_dflt decide) | exact om_ilt (by assumption) (by k_dflt decide) | exact om_ile (by assumption) (by k_dflt decide) | exact om_igt (by assumption) (by k_dflt decide) | exact om_k3 (by assumption) (by assumption) | exact om_k1 (by assumption) (by assumption) (by assumption) | exact om_k2 (by assumption) (by assumption) (by assumption) (by assumption) (by k_dflt decide) | exact om_far2 (by assumption) (by assumption)) | (show @LE.le Int _ _ _; first | exact Int.natCast_nonneg _ | exact om_ige (by assumption) (by k_dflt decide) | exact om_k0 (by assumption) | exact om_s (by assumption) | exact om_p1 (by assumption) | exact om_k4 (by assumption) (by assumption) (by assumption) (by assumption) (by assumption) | exact om_far1 (by assumption) (by assumption) (by assumption)) | (show @Ne Nat _ _; first | exact om_gt1 (by assumption) | exact om_lt1 (by assumption) | exact om_gt2 (by assumption) | exact om_lt2 (by assumption) | exact om_gt3 (by assumption) | exact om_lt3 (by assumption) | exact om_c2 (by assumption) | exact om_c2' (by assumption) | exact om_c3 (by assumption) | exact om_c3' (by assumption) | exact om_c4 (by assumption) | exact om_c4' (by assumption) | exact om_s1 _ | exact Ne.symm (om_s1 _) | exact om_s2 _ | exact Ne.symm (om_s2 _) | exact om_s3 _ | exact Ne.symm (om_s3 _)) | (show @Eq _ _ _; first | exact om_tn (by assumption) (by assumption) | exact om_sc (by assumption)) | (show Not _; first | exact om_nz (by assumption)))))
  k_fill
  intro dp un gd cn cs a ccd cl outer A₀ base h₀ L m s Q E B F X N T hk hdp hun hret
  k_steps
  exact hret _ _ _ _ (by k_asm) (by k_asm) ⟨⟨_, rfl⟩, rfl⟩
theorem get_sbx_spec {w : World} {loose mean mg mb news} (x : Int) (t : Tok) (h0 : 0 ≤ x) (h1 : x < 4294967296) :
    Calls w loose mean mg mb 84 news [.int x t] 4 20 (fun v news' => (∃ t', v = .int (sbxOf x) t') ∧ news' = news) := by
  unfold Calls
  w_top off
  k_with_none
  (k_with "my k_enter" => first | ((refine' code_def ?k1 ?k2 ?k3 ?k4 ?k5 ?kA ?kF ?kK ?k6 ?k7 ?k8 ?k9 ?kB ?_ ?c2 ?c3 ?c4 ?c5; (case kA => exact rfl); (case kF => exact rfl); (case kK => first | exact rfl | assumption); (case k1 => k_asm); (case k2 => k_asm); (case k3 => k_asm); (case k4 => k_asm); (case k5 => k_asm); (case k6 => k_is); (case k7 => k_is); (case k8 => ktr_room); (case k9 => first | k_extra "bind" | exact BindsTo.of_eq rfl | exact binds_K (by k_in) rfl (by k_is) rfl rfl rfl | fail "k_enter: no rule for these arguments"); (case c5 => decide); (case kB => exact locs rfl); (case c2 => exact rfl); (case c3 => exact rfl); (case c4 => exact rfl); k_whole; intro g' L' h' FG' F' N' B' X' T'; (try dsimp only); (try k_lift B'); (try k_fold))))
  (k_with "bind" => first | exact BindsTo.of_eq (binds := [("word", _), ("pos", _), ("size", _)]) rfl | exact BindsTo.of_eq (binds := [("word", _), ("value", _), ("pos", _), ("size", _)]) rfl | exact BindsTo.of_eq (binds := [("op", _), ("a", _), ("b", _), ("c", _)]) rfl | exact BindsTo.of_eq (binds := [("op", _), ("a", _), ("bx", _)]) rfl | exact BindsTo.of_eq (binds := [("op", _), ("a", _), ("sbx", _)]) rfl | exact BindsTo.of_eq (binds := [("word", _)]) rfl | exact BindsTo.of_eq (binds := [("word", _), ("bx", _)]) rfl | exact BindsTo.of_eq (binds := [("word", _), ("sbx", _)]) rfl | exact BindsTo.of_eq (binds := [("p", _), ("pc", _)]) rfl | exact BindsTo.of_eq (binds := [("p", _)]) rfl | exact BindsTo.of_eq (binds := [("urn", _), ("many", _)]) rfl | exact BindsTo.of_eq (binds := [("goals", _), ("at", _), ("most", _)]) rfl | exact BindsTo.of_eq (binds := [("goals", _), ("others", _)]) rfl | exact BindsTo.of_eq (binds := [("script", _)]) rfl | exact BindsTo.of_eq (binds := [("self", _)]) rfl | exact BindsTo.of_eq (binds := [("self", _), ("number", _), ("size", _)]) rfl)
  (k_with "my storeName" => first | (k_here; k_dflt (refine' store_let ?F ?N ?_ ?a ?b; (case F => k_asm); (case N => k_asm); (case a => rfl); (case b => rfl); k_whole; intro h' m' F' N'; (try k_sweep))))
  (k_with "my omega" => (k_whole; first | with_reducible assumption | k_dflt decide | with_reducible (first | (show @LT.lt Nat _ _ _; first | exact om_r0 (by assumption) | exact om_r1 (by assumption) (by k_dflt (exact rfl)) | exact om_r2 (by assumption) (by k_dflt (exact rfl)) | exact om_d1 (by assumption) (by assumption) (by k_dflt (exact rfl)) | exact om_d2 (by assumption) (by assumption) (by k_dflt (exact rfl)) | exact om_nlt (by assumption) (by k_dflt (exact rfl)) | exact om_meas (by assumption)) | (show @LE.le Nat _ _ _; first | exact om_le (by assumption) (by k_dflt (exact rfl)) | exact om_len (by assumption) (by assumption) (by k_dflt (exact rfl)) | exact om_len3 (by assumption) (by assumption) (by assumption) (by k_dflt (exact rfl)) | exact om_l16 (by assumption) (by assumption) (by assumption) (by assumption)) | (show @LT.lt Int _ _ _; first | exact om_cast (by assumption) | exact om_caste (by assumption) (by assumption) | exact om_eqlt (by assumption) (by assumption) | exact om_clen (by assumption) (by assumption) (by k_dflt decide) | exact om_ilen (by assumption) (by assumption) (by k_dflt decide) | exact om_cle (by assumption) (by k_dflt decide) | exact om_ilt (by assumption) (by k_dflt decide) | exact om_ile (by assumption) (by k_dflt decide) | exact om_igt (by assumption) (by k_dflt decide) | exact om_k3 (by assumption) (by assumption) | exact om_k1 (by assumption) (by assumption) (by assumption) | exact om_k2 (by assumption) (by assumption) (by assumption) (by assumption) (by k_dflt decide) | exact om_far2 (by assumption) (by assumption)) | (show @LE.le Int _ _ _; first | exact Int.natCast_nonneg _ | exact om_ige (by assumption) (by k_dflt decide) | exact om_k0 (by assumption) | exact om_s (by assumption) | exact om_p1 (by assumption) | exact om_k4 (by assumption) (by assumption) (by assumption) (by assumption) (by assumption) | exact om_far1 (by assumption) (by assumption) (by assumption)) | (show @Ne Nat _ _; first | exact om_gt1 (by assumption) | exact om_lt1 (by assumption) | exact om_gt2 (by assumption) | exact om_lt2 (by assumption) | exact om_gt3 (by assumption) | exact om_lt3 (by assumption) | exact om_c2 (by assumption) | exact om_c2' (by assumption) | exact om_c3 (by assumption) | exact om_c3' (by assumption) | exact om_c4 (by assumption) | exact om_c4' (by assumption) | exact om_s1 _ | exact Ne.symm (om_s1 _) | exact om_s2 _ | exact Ne.symm (om_s2 _) | exact om_s3 _ | exact Ne.symm (om_s3 _)) | (show @Eq _ _ _; first | exact om_tn (by assumption) (by assumption) | exact om_sc (by assumption)) | (show Not _; first | exact om_nz (by assumption)))))
  k_fill
  intro dp un gd cn cs a ccd cl outer A₀ base h₀ L m s Q E B F X N T hk hdp hun hret
  k_steps
  exact hret _ _ _ _ (by k_asm) (by k_asm) ⟨⟨_, rfl⟩, rfl⟩
theorem set_sbx_spec {w : World} {loose mean mg mb news} (x k : Int) (t t2 : Tok) (h0 : 0 ≤ x) (h1 : x < 4294967296) (h2 : -131071 ≤ k) (h3 : k < 131072) :
    Calls w loose mean mg mb 98 news [.int x t, .int k t2] 4 20 (fun v news' => (∃ t', v = .int (setSbx x k) t') ∧ news' = news) := by
  unfold Calls
  w_top off
  k_with_none
  (k_with "my k_enter" => first | ((refine' code_def ?k1 ?k2 ?k3 ?k4 ?k5 ?kA ?kF ?kK ?k6 ?k7 ?k8 ?k9 ?kB ?_ ?c2 ?c3 ?c4 ?c5; (case kA => exact rfl); (case kF => exact rfl); (case kK => first | exact rfl | assumption); (case k1 => k_asm); (case k2 => k_asm); (case k3 => k_asm); (case k4 => k_asm); (case k5 => k_asm); (case k6 => k_is); (case k7 => k_is); (case k8 => ktr_room); (case k9 => first | k_extra "bind" | exact BindsTo.of_eq rfl | exact binds_K (by k_in) rfl (by k_is) rfl rfl rfl | fail "k_enter: no rule for these arguments"); (case c5 => decide); (case kB => exact locs rfl); (case c2 => exact rfl); (case c3 => exact rfl); (case c4 => exact rfl); k_whole; intro g' L' h' FG' F' N' B' X' T'; (try dsimp only); (try k_lift B'); (try k_fold))))
  (k_with "bind" => first | exact BindsTo.of_eq (binds := [("word", _), ("pos", _), ("size", _)]) rfl | exact BindsTo.of_eq (binds := [("word", _), ("value", _), ("pos", _), ("size", _)]) rfl | exact BindsTo.of_eq (binds := [("op", _), ("a", _), ("b", _), ("c", _)]) rfl | exact BindsTo.of_eq (binds := [("op", _), ("a", _), ("bx", _)]) rfl | exact BindsTo.of_eq (binds := [("op", _), ("a", _), ("sbx", _)]) rfl | exact BindsTo.of_eq (binds := [("word", _)]) rfl | exact BindsTo.of_eq (binds := [("word", _), ("bx", _)]) rfl | exact BindsTo.of_eq (binds := [("word", _), ("sbx", _)]) rfl | exact BindsTo.of_eq (binds := [("p", _), ("pc", _)]) rfl | exact BindsTo.of_eq (binds := [("p", _)]) rfl | exact BindsTo.of_eq (binds := [("urn", _), ("many", _)]) rfl | exact BindsTo.of_eq (binds := [("goals", _), ("at", _), ("most", _)]) rfl | exact BindsTo.of_eq (binds := [("goals", _), ("others", _)]) rfl | exact BindsTo.of_eq (binds := [("script", _)]) rfl | exact BindsTo.of_eq (binds := [("self", _)]) rfl | exact BindsTo.of_eq (binds := [("self", _), ("number", _), ("size", _)]) rfl)
  (k_with "my storeName" => first | (k_here; k_dflt (refine' store_let ?F ?N ?_ ?a ?b; (case F => k_asm); (case N => k_asm); (case a => rfl); (case b => rfl); k_whole; intro h' m' F' N'; (try k_sweep))))
  (k_with "my omega" => (k_whole; first | with_reducible assumption | k_dflt decide | with_reducible (first | (show @LT.lt Nat _ _ _; first | exact om_r0 (by assumption) | exact om_r1 (by assumption) (by k_dflt (exact rfl)) | exact om_r2 (by assumption) (by k_dflt (exact rfl)) | exact om_d1 (by assumption) (by assumption) (by k_dflt (exact rfl)) | exact om_d2 (by assumption) (by assumption) (by k_dflt (exact rfl)) | exact om_nlt (by assumption) (by k_dflt (exact rfl)) | exact om_meas (by assumption)) | (show @LE.le Nat _ _ _; first | exact om_le (by assumption) (by k_dflt (exact rfl)) | exact om_len (by assumption) (by assumption) (by k_dflt (exact rfl)) | exact om_len3 (by assumption) (by assumption) (by assumption) (by k_dflt (exact rfl)) | exact om_l16 (by assumption) (by assumption) (by assumption) (by assumption)) | (show @LT.lt Int _ _ _; first | exact om_cast (by assumption) | exact om_caste (by assumption) (by assumption) | exact om_eqlt (by assumption) (by assumption) | exact om_clen (by assumption) (by assumption) (by k_dflt decide) | exact om_ilen (by assumption) (by assumption) (by k_dflt decide) | exact om_cle (by assumption) (by k_dflt decide) | exact om_ilt (by assumption) (by k_dflt decide) | exact om_ile (by assumption) (by k_dflt decide) | exact om_igt (by assumption) (by k_dflt decide) | exact om_k3 (by assumption) (by assumption) | exact om_k1 (by assumption) (by assumption) (by assumption) | exact om_k2 (by assumption) (by assumption) (by assumption) (by assumption) (by k_dflt decide) | exact om_far2 (by assumption) (by assumption)) | (show @LE.le Int _ _ _; first | exact Int.natCast_nonneg _ | exact om_ige (by assumption) (by k_dflt decide) | exact om_k0 (by assumption) | exact om_s (by assumption) | exact om_p1 (by assumption) | exact om_k4 (by assumption) (by assumption) (by assumption) (by assumption) (by assumption) | exact om_far1 (by assumption) (by assumption) (by assumption)) | (show @Ne Nat _ _; first | exact om_gt1 (by assumption) | exact om_lt1 (by assumption) | exact om_gt2 (by assumption) | exact om_lt2 (by assumption) | exact om_gt3 (by assumption) | exact om_lt3 (by assumption) | exact om_c2 (by assumption) | exact om_c2' (by assumption) | exact om_c3 (by assumption) | exact om_c3' (by assumption) | exact om_c4 (by assumption) | exact om_c4' (by assumption) | exact om_s1 _ | exact Ne.symm (om_s1 _) | exact om_s2 _ | exact Ne.symm (om_s2 _) | exact om_s3 _ | exact Ne.symm (om_s3 _)) | (show @Eq _ _ _; first | exact om_tn (by assumption) (by assumption) | exact om_sc (by assumption)) | (show Not _; first | exact om_nz (by assumption)))))
  k_fill
  intro dp un gd cn cs a ccd cl outer A₀ base h₀ L m s Q E B F X N T hk hdp hun hret
  k_steps
  exact hret _ _ _ _ (by k_asm) (by k_asm) ⟨⟨_, rfl⟩, rfl⟩
theorem create_asbx_spec {w : World} {loose mean mg mb news} (k : Int) (t t1 t2 : Tok) (h2 : -131071 ≤ k) (h3 : k < 131072) :
    Calls w loose mean mg mb 56 news [.int 22 t, .int 0 t1, .int k t2] 4 20 (fun v news' => (∃ t', v = .int (mkJmp k) t') ∧ news' = news) := by
  unfold Calls
  w_top off
  k_with_none
  (k_with "my k_enter" => first | ((refine' code_def ?k1 ?k2 ?k3 ?k4 ?k5 ?kA ?kF ?kK ?k6 ?k7 ?k8 ?k9 ?kB ?_ ?c2 ?c3 ?c4 ?c5; (case kA => exact rfl); (case kF => exact rfl); (case kK => first | exact rfl | assumption); (case k1 => k_asm); (case k2 => k_asm); (case k3 => k_asm); (case k4 => k_asm); (case k5 => k_asm); (case k6 => k_is); (case k7 => k_is); (case k8 => ktr_room); (case k9 => first | k_extra "bind" | exact BindsTo.of_eq rfl | exact binds_K (by k_in) rfl (by k_is) rfl rfl rfl | fail "k_enter: no rule for these arguments"); (case c5 => decide); (case kB => exact locs rfl); (case c2 => exact rfl); (case c3 => exact rfl); (case c4 => exact rfl); k_whole; intro g' L' h' FG' F' N' B' X' T'; (try dsimp only); (try k_lift B'); (try k_fold))))
  (k_with "bind" => first | exact BindsTo.of_eq (binds := [("word", _), ("pos", _), ("size", _)]) rfl | exact BindsTo.of_eq (binds := [("word", _), ("value", _), ("pos", _), ("size", _)]) rfl | exact BindsTo.of_eq (binds := [("op", _), ("a", _), ("b", _), ("c", _)]) rfl | exact BindsTo.of_eq (binds := [("op", _), ("a", _), ("bx", _)]) rfl | exact BindsTo.of_eq (binds := [("op", _), ("a", _), ("sbx", _)]) rfl | exact BindsTo.of_eq (binds := [("word", _)]) rfl | exact BindsTo.of_eq (binds := [("word", _), ("bx", _)]) rfl | exact BindsTo.of_eq (binds := [("word", _), ("sbx", _)]) rfl | exact BindsTo.of_eq (binds := [("p", _), ("pc", _)]) rfl | exact BindsTo.of_eq (binds := [("p", _)]) rfl | exact BindsTo.of_eq (binds := [("urn", _), ("many", _)]) rfl | exact BindsTo.of_eq (binds := [("goals", _), ("at", _), ("most", _)]) rfl | exact BindsTo.of_eq (binds := [("goals", _), ("others", _)]) rfl | exact BindsTo.of_eq (binds := [("script", _)]) rfl | exact BindsTo.of_eq (binds := [("self", _)]) rfl | exact BindsTo.of_eq (binds := [("self", _), ("number", _), ("size", _)]) rfl)
  (k_with "my storeName" => first | (k_here; k_dflt (refine' store_let ?F ?N ?_ ?a ?b; (case F => k_asm); (case N => k_asm); (case a => rfl); (case b => rfl); k_whole; intro h' m' F' N'; (try k_sweep))))
  (k_with "my omega" => (k_whole; first | with_reducible assumption | k_dflt decide | with_reducible (first | (show @LT.lt Nat _ _ _; first | exact om_r0 (by assumption) | exact om_r1 (by assumption) (by k_dflt (exact rfl)) | exact om_r2 (by assumption) (by k_dflt (exact rfl)) | exact om_d1 (by assumption) (by assumption) (by k_dflt (exact rfl)) | exact om_d2 (by assumption) (by assumption) (by k_dflt (exact rfl)) | exact om_nlt (by assumption) (by k_dflt (exact rfl)) | exact om_meas (by assumption)) | (show @LE.le Nat _ _ _; first | exact om_le (by assumption) (by k_dflt (exact rfl)) | exact om_len (by assumption) (by assumption) (by k_dflt (exact rfl)) | exact om_len3 (by assumption) (by assumption) (by assumption) (by k_dflt (exact rfl)) | exact om_l16 (by assumption) (by assumption) (by assumption) (by assumption)) | (show @LT.lt Int _ _ _; first | exact om_cast (by assumption) | exact om_caste (by assumption) (by assumption) | exact om_eqlt (by assumption) (by assumption) | exact om_clen (by assumption) (by assumption) (by k_dflt decide) | exact om_ilen (by assumption) (by assumption) (by k_dflt decide) | exact om_cle (by assumption) (by k_dflt decide) | exact om_ilt (by assumption) (by k_dflt decide) | exact om_ile (by assumption) (by k_dflt decide) | exact om_igt (by assumption) (by k_dflt decide) | exact om_k3 (by assumption) (by assumption) | exact om_k1 (by assumption) (by assumption) (by assumption) | exact om_k2 (by assumption) (by assumption) (by assumption) (by assumption) (by k_dflt decide) | exact om_far2 (by assumption) (by assumption)) | (show @LE.le Int _ _ _; first | exact Int.natCast_nonneg _ | exact om_ige (by assumption) (by k_dflt decide) | exact om_k0 (by assumption) | exact om_s (by assumption) | exact om_p1 (by assumption) | exact om_k4 (by assumption) (by assumption) (by assumption) (by assumption) (by assumption) | exact om_far1 (by assumption) (by assumption) (by assumption)) | (show @Ne Nat _ _; first | exact om_gt1 (by assumption) | exact om_lt1 (by assumption) | exact om_gt2 (by assumption) | exact om_lt2 (by assumption) | exact om_gt3 (by assumption) | exact om_lt3 (by assumption) | exact om_c2 (by assumption) | exact om_c2' (by assumption) | exact om_c3 (by assumption) | exact om_c3' (by assumption) | exact om_c4 (by assumption) | exact om_c4' (by assumption) | exact om_s1 _ | exact Ne.symm (om_s1 _) | exact om_s2 _ | exact Ne.symm (om_s2 _) | exact om_s3 _ | exact Ne.symm (om_s3 _)) | (show @Eq _ _ _; first | exact om_tn (by assumption) (by assumption) | exact om_sc (by assumption)) | (show Not _; first | exact om_nz (by assumption)))))
  k_fill
  intro dp un gd cn cs a ccd cl outer A₀ base h₀ L m s Q E B F X N T hk hdp hun hret
  k_steps
  exact hret _ _ _ _ (by k_asm) (by k_asm) ⟨⟨_, rfl⟩, rfl⟩
theorem create_abx_spec {w : World} {loose mean mg mb news} (a b : Int) (t t1 t2 : Tok) (h2 : 0 ≤ a) (h3 : a < 256) (h4 : 0 ≤ b) (h5 : b < 262144) :
    Calls w loose mean mg mb 49 news [.int 1 t, .int a t1, .int b t2] 4 20 (fun v news' => (∃ t', v = .int (mkLoad a b) t') ∧ news' = news) := by
  unfold Calls
  w_top off
  k_with_none
  (k_with "my k_enter" => first | ((refine' code_def ?k1 ?k2 ?k3 ?k4 ?k5 ?kA ?kF ?kK ?k6 ?k7 ?k8 ?k9 ?kB ?_ ?c2 ?c3 ?c4 ?c5; (case kA => exact rfl); (case kF => exact rfl); (case kK => first | exact rfl | assumption); (case k1 => k_asm); (case k2 => k_asm); (case k3 => k_asm); (case k4 => k_asm); (case k5 => k_asm); (case k6 => k_is); (case k7 => k_is); (case k8 => ktr_room); (case k9 => first | k_extra "bind" | exact BindsTo.of_eq rfl | exact binds_K (by k_in) rfl (by k_is) rfl rfl rfl | fail "k_enter: no rule for these arguments"); (case c5 => decide); (case kB => exact locs rfl); (case c2 => exact rfl); (case c3 => exact rfl); (case c4 => exact rfl); k_whole; intro g' L' h' FG' F' N' B' X' T'; (try dsimp only); (try k_lift B'); (try k_fold))))
  (k_with "bind" => first | exact BindsTo.of_eq (binds := [("word", _), ("pos", _), ("size", _)]) rfl | exact BindsTo.of_eq (binds := [("word", _), ("value", _), ("pos", _), ("size", _)]) rfl | exact BindsTo.of_eq (binds := [("op", _), ("a", _), ("b", _), ("c", _)]) rfl | exact BindsTo.of_eq (binds := [("op", _), ("a", _), ("bx", _)]) rfl | exact BindsTo.of_eq (binds := [("op", _), ("a", _), ("sbx", _)]) rfl | exact BindsTo.of_eq (binds := [("word", _)]) rfl | exact BindsTo.of_eq (binds := [("word", _), ("bx", _)]) rfl | exact BindsTo.of_eq (binds := [("word", _), ("sbx", _)]) rfl | exact BindsTo.of_eq (binds := [("p", _), ("pc", _)]) rfl | exact BindsTo.of_eq (binds := [("p", _)]) rfl | exact BindsTo.of_eq (binds := [("urn", _), ("many", _)]) rfl | exact BindsTo.of_eq (binds := [("goals", _), ("at", _), ("most", _)]) rfl | exact BindsTo.of_eq (binds := [("goals", _), ("others", _)]) rfl | exact BindsTo.of_eq (binds := [("script", _)]) rfl | exact BindsTo.of_eq (binds := [("self", _)]) rfl | exact BindsTo.of_eq (binds := [("self", _), ("number", _), ("size", _)]) rfl)
  (k_with "my storeName" => first | (k_here; k_dflt (refine' store_let ?F ?N ?_ ?a ?b; (case F => k_asm); (case N => k_asm); (case a => rfl); (case b => rfl); k_whole; intro h' m' F' N'; (try k_sweep))))
  (k_with "my omega" => (k_whole; first | with_reducible assumption | k_dflt decide | with_reducible (first | (show @LT.lt Nat _ _ _; first | exact om_r0 (by assumption) | exact om_r1 (by assumption) (by k_dflt (exact rfl)) | exact om_r2 (by assumption) (by k_dflt (exact rfl)) | exact om_d1 (by assumption) (by assumption) (by k_dflt (exact rfl)) | exact om_d2 (by assumption) (by assumption) (by k_dflt (exact rfl)) | exact om_nlt (by assumption) (by k_dflt (exact rfl)) | exact om_meas (by assumption)) | (show @LE.le Nat _ _ _; first | exact om_le (by assumption) (by k_dflt (exact rfl)) | exact om_len (by assumption) (by assumption) (by k_dflt (exact rfl)) | exact om_len3 (by assumption) (by assumption) (by assumption) (by k_dflt (exact rfl)) | exact om_l16 (by assumption) (by assumption) (by assumption) (by assumption)) | (show @LT.lt Int _ _ _; first | exact om_cast (by assumption) | exact om_caste (by assumption) (by assumption) | exact om_eqlt (by assumption) (by assumption) | exact om_clen (by assumption) (by assumption) (by k_dflt decide) | exact om_ilen (by assumption) (by assumption) (by k_dflt decide) | exact om_cle (by assumption) (by k_dflt decide) | exact om_ilt (by assumption) (by k_dflt decide) | exact om_ile (by assumption) (by k_dflt decide) | exact om_igt (by assumption) (by k_dflt decide) | exact om_k3 (by assumption) (by assumption) | exact om_k1 (by assumption) (by assumption) (by assumption) | exact om_k2 (by assumption) (by assumption) (by assumption) (by assumption) (by k_dflt decide) | exact om_far2 (by assumption) (by assumption)) | (show @LE.le Int _ _ _; first | exact Int.natCast_nonneg _ | exact om_ige (by assumption) (by k_dflt decide) | exact om_k0 (by assumption) | exact om_s (by assumption) | exact om_p1 (by assumption) | exact om_k4 (by assumption) (by assumption) (by assumption) (by assumption) (by assumption) | exact om_far1 (by assumption) (by assumption) (by assumption)) | (show @Ne Nat _ _; first | exact om_gt1 (by assumption) | exact om_lt1 (by assumption) | exact om_gt2 (by assumption) | exact om_lt2 (by assumption) | exact om_gt3 (by assumption) | exact om_lt3 (by assumption) | exact om_c2 (by assumption) | exact om_c2' (by assumption) | exact om_c3 (by assumption) | exact om_c3' (by assumption) | exact om_c4 (by assumption) | exact om_c4' (by assumption) | exact om_s1 _ | exact Ne.symm (om_s1 _) | exact om_s2 _ | exact Ne.symm (om_s2 _) | exact om_s3 _ | exact Ne.symm (om_s3 _)) | (show @Eq _ _ _; first | exact om_tn (by assumption) (by assumption) | exact om_sc (by assumption)) | (show Not _; first | exact om_nz (by assumption)))))
  k_fill
  intro dp un gd cn cs ad ccd cl outer A₀ base h₀ L m s Q E B F X N T hk hdp hun hret
  k_steps
  exact hret _ _ _ _ (by k_asm) (by k_asm) ⟨⟨_, rfl⟩, rfl⟩
theorem create_abc_spec {w : World} {loose mean mg mb news} (t t1 t2 t3 : Tok) :
    Calls w loose mean mg mb 42 news [.int 30 t, .int 0 t1, .int 1 t2, .int 0 t3] 4 20 (fun v news' => (∃ t', v = .int mkRet t') ∧ news' = news) := by
  unfold Calls
  w_top off
  k_with_none
  (k_with "my k_enter" => first | ((refine' code_def ?k1 ?k2 ?k3 ?k4 ?k5 ?kA ?kF ?kK ?k6 ?k7 ?k8 ?k9 ?kB ?_ ?c2 ?c3 ?c4 ?c5; (case kA => exact rfl); (case kF => exact rfl); (case kK => first | exact rfl | assumption); (case k1 => k_asm); (case k2 => k_asm); (case k3 => k_asm); (case k4 => k_asm); (case k5 => k_asm); (case k6 => k_is); (case k7 => k_is); (case k8 => ktr_room); (case k9 => first | k_extra "bind" | exact BindsTo.of_eq rfl | exact binds_K (by k_in) rfl (by k_is) rfl rfl rfl | fail "k_enter: no rule for these arguments"); (case c5 => decide); (case kB => exact locs rfl); (case c2 => exact rfl); (case c3 => exact rfl); (case c4 => exact rfl); k_whole; intro g' L' h' FG' F' N' B' X' T'; (try dsimp only); (try k_lift B'); (try k_fold))))
  (k_with "bind" => first | exact BindsTo.of_eq (binds := [("word", _), ("pos", _), ("size", _)]) rfl | exact BindsTo.of_eq (binds := [("word", _), ("value", _), ("pos", _), ("size", _)]) rfl | exact BindsTo.of_eq (binds := [("op", _), ("a", _), ("b", _), ("c", _)]) rfl | exact BindsTo.of_eq (binds := [("op", _), ("a", _), ("bx", _)]) rfl | exact BindsTo.of_eq (binds := [("op", _), ("a", _), ("sbx", _)]) rfl | exact BindsTo.of_eq (binds := [("word", _)]) rfl | exact BindsTo.of_eq (binds := [("word", _), ("bx", _)]) rfl | exact BindsTo.of_eq (binds := [("word", _), ("sbx", _)]) rfl | exact BindsTo.of_eq (binds := [("p", _), ("pc", _)]) rfl | exact BindsTo.of_eq (binds := [("p", _)]) rfl | exact BindsTo.of_eq (binds := [("urn", _), ("many", _)]) rfl | exact BindsTo.of_eq (binds := [("goals", _), ("at", _), ("most", _)]) rfl | exact BindsTo.of_eq (binds := [("goals", _), ("others", _)]) rfl | exact BindsTo.of_eq (binds := [("script", _)]) rfl | exact BindsTo.of_eq (binds := [("self", _)]) rfl | exact BindsTo.of_eq (binds := [("self", _), ("number", _), ("size", _)]) rfl)
  (k_with "my storeName" => first | (k_here; k_dflt (refine' store_let ?F ?N ?_ ?a ?b; (case F => k_asm); (case N => k_asm); (case a => rfl); (case b => rfl); k_whole; intro h' m' F' N'; (try k_sweep))))
  (k_with "my omega" => (k_whole; first | with_reducible assumption | k_dflt decide | with_reducible (first | (show @LT.lt Nat _ _ _; first | exact om_r0 (by assumption) | exact om_r1 (by assumption) (by k_dflt (exact rfl)) | exact om_r2 (by assumption) (by k_dflt (exact rfl)) | exact om_d1 (by assumption) (by assumption) (by k_dflt (exact rfl)) | exact om_d2 (by assumption) (by assumption) (by k_dflt (exact rfl)) | exact om_nlt (by assumption) (by k_dflt (exact rfl)) | exact om_meas (by assumption)) | (show @LE.le Nat _ _ _; first | exact om_le (by assumption) (by k_dflt (exact rfl)) | exact om_len (by assumption) (by assumption) (by k_dflt (exact rfl)) | exact om_len3 (by assumption) (by assumption) (by assumption) (by k_dflt (exact rfl)) | exact om_l16 (by assumption) (by assumption) (by assumption) (by assumption)) | (show @LT.lt Int _ _ _; first | exact om_cast (by assumption) | exact om_caste (by assumption) (by assumption) | exact om_eqlt (by assumption) (by assumption) | exact om_clen (by assumption) (by assumption) (by k_dflt decide) | exact om_ilen (by assumption) (by assumption) (by k_dflt decide) | exact om_cle (by assumption) (by k_dflt decide) | exact om_ilt (by assumption) (by k_dflt decide) | exact om_ile (by assumption) (by k_dflt decide) | exact om_igt (by assumption) (by k_dflt decide) | exact om_k3 (by assumption) (by assumption) | exact om_k1 (by assumption) (by assumption) (by assumption) | exact om_k2 (by assumption) (by assumption) (by assumption) (by assumption) (by k_dflt decide) | exact om_far2 (by assumption) (by assumption)) | (show @LE.le Int _ _ _; first | exact Int.natCast_nonneg _ | exact om_ige (by assumption) (by k_dflt decide) | exact om_k0 (by assumption) | exact om_s (by assumption) | exact om_p1 (by assumption) | exact om_k4 (by assumption) (by assumption) (by assumption) (by assumption) (by assumption) | exact om_far1 (by assumption) (by assumption) (by assumption)) | (show @Ne Nat _ _; first | exact om_gt1 (by assumption) | exact om_lt1 (by assumption) | exact om_gt2 (by assumption) | exact om_lt2 (by assumption) | exact om_gt3 (by assumption) | exact om_lt3 (by assumption) | exact om_c2 (by assumption) | exact om_c2' (by assumption) | exact om_c3 (by assumption) | exact om_c3' (by assumption) | exact om_c4 (by assumption) | exact om_c4' (by assumption) | exact om_s1 _ | exact Ne.symm (om_s1 _) | exact om_s2 _ | exact Ne.symm (om_s2 _) | exact om_s3 _ | exact Ne.symm (om_s3 _)) | (show @Eq _ _ _; first | exact om_tn (by assumption) (by assumption) | exact om_sc (by assumption)) | (show Not _; first | exact om_nz (by assumption)))))
  k_fill
  intro dp un gd cn cs ad ccd cl outer A₀ base h₀ L m s Q E B F X N T hk hdp hun hret
  k_steps
  exact hret _ _ _ _ (by k_asm) (by k_asm) ⟨⟨_, rfl⟩, rfl⟩


/-! R2 -/
theorem use_get_op {w : World} {loose : List Str} {mean : ExcName → Option Value} {mg mb : Str → Option Value} {news : List (Addr × Obj)} {dp un : Nat} {gd : Option (List Code)} {cn : Str} {cs : Scope} {a : Addr} {ccd : Value} {cl : List (Str × Addr)} {outer : List Env} {A₀ : Around} {base h₀ : Heap} {L : Addr} {m : Str → Option Value} {s : Shared} {Q E : Value → Shared → Prop} (x : Int) (t : Tok) (h0 : 0 ≤ x) (h1 : x < 4294967296)
    (F : Fr h₀ L s.heap m) (Bl : Below A₀ base outer h₀) (X : (hd.heap_39 w.params).In h₀) (N : News h₀ L s.heap news) (T : Top hd.view_39 loose mean mg mb h₀) (hk : cs.kind = .function) (hdp : dp + 4 < recursionLimit) (hun : un + 20 < cLine)
    (ret : ∀ t', ∀ h' tk', Fr h₀ L h' m → News h₀ L h' news → Q (.int (opOf x) t') { s with heap := h', toks := tk' }) :
    wpAny (model (RowW.prog (OpenRow.toRowW (OpenLaw.row PySem.Challenge.rw_rh0159_01))) w) (ktrTop dp un gd cn cs L a ccd cl outer) (call (.ref 63) [.int x t]) Q E s :=
  Calls.use (get_op_spec x t h0 h1 : Calls w loose mean mg mb 63 news _ 4 20 _) Bl F X N T hk hdp hun fun v n h' tk' F' N' r => by
    obtain ⟨⟨t', rfl⟩, rfl⟩ := r
    exact ret t' h' tk' F' N'

/-! S3 -/
/-- a Proto's dict, as far as j keys go -/
noncomputable abbrev protoPre (P : Params) (z : PZ) (c k p l o u : Addr) (j : Nat) : Obj := dictOf (List.take j [
  DictEntry.mk (PyData.keyHash P (Str.ofString "number")) (Value.str (Str.ofString "number") z.k0) (Value.int z.n0 z.t0),
  DictEntry.mk (PyData.keyHash P (Str.ofString "mark")) (Value.str (Str.ofString "mark") z.k1) (Value.int z.n1 z.t1),
  DictEntry.mk (PyData.keyHash P (Str.ofString "size")) (Value.str (Str.ofString "size") z.k2) (Value.int z.n2 z.t2),
  DictEntry.mk (PyData.keyHash P (Str.ofString "code")) (Value.str (Str.ofString "code") z.k3) (Value.ref c),
  DictEntry.mk (PyData.keyHash P (Str.ofString "constants")) (Value.str (Str.ofString "constants") z.k4) (Value.ref k),
  DictEntry.mk (PyData.keyHash P (Str.ofString "protos")) (Value.str (Str.ofString "protos") z.k5) (Value.ref p),
  DictEntry.mk (PyData.keyHash P (Str.ofString "line_info")) (Value.str (Str.ofString "line_info") z.k6) (Value.ref l),
  DictEntry.mk (PyData.keyHash P (Str.ofString "locals")) (Value.str (Str.ofString "locals") z.k7) (Value.ref o),
  DictEntry.mk (PyData.keyHash P (Str.ofString "upvalue_names")) (Value.str (Str.ofString "upvalue_names") z.k8) (Value.ref u),
  DictEntry.mk (PyData.keyHash P (Str.ofString "source")) (Value.str (Str.ofString "source") z.k9) (Value.bytes z.sb z.ts),
  DictEntry.mk (PyData.keyHash P (Str.ofString "line_defined")) (Value.str (Str.ofString "line_defined") z.k10) (Value.int z.n3 z.t3),
  DictEntry.mk (PyData.keyHash P (Str.ofString "last_line")) (Value.str (Str.ofString "last_line") z.k11) (Value.int z.n4 z.t4),
  DictEntry.mk (PyData.keyHash P (Str.ofString "upvalue_count")) (Value.str (Str.ofString "upvalue_count") z.k12) (Value.int z.n5 z.t5),
  DictEntry.mk (PyData.keyHash P (Str.ofString "param_count")) (Value.str (Str.ofString "param_count") z.k13) (Value.int z.n6 z.t6),
  DictEntry.mk (PyData.keyHash P (Str.ofString "is_vararg")) (Value.str (Str.ofString "is_vararg") z.k14) (Value.int z.n7 z.t7),
  DictEntry.mk (PyData.keyHash P (Str.ofString "max_stack")) (Value.str (Str.ofString "max_stack") z.k15) (Value.int z.n8 z.t8)]) j
noncomputable def PZ.put_number (z : PZ) (kt : Nat) (v : Int) (t : Nat) : PZ := { z with k0 := kt, n0 := v, t0 := t }
noncomputable def PZ.put_mark (z : PZ) (kt : Nat) (v : Int) (t : Nat) : PZ := { z with k1 := kt, n1 := v, t1 := t }
noncomputable def PZ.put_size (z : PZ) (kt : Nat) (v : Int) (t : Nat) : PZ := { z with k2 := kt, n2 := v, t2 := t }
noncomputable def PZ.put_code (z : PZ) (kt : Nat) : PZ := { z with k3 := kt }
noncomputable def PZ.put_constants (z : PZ) (kt : Nat) : PZ := { z with k4 := kt }
noncomputable def PZ.put_protos (z : PZ) (kt : Nat) : PZ := { z with k5 := kt }
noncomputable def PZ.put_line_info (z : PZ) (kt : Nat) : PZ := { z with k6 := kt }
noncomputable def PZ.put_locals (z : PZ) (kt : Nat) : PZ := { z with k7 := kt }
noncomputable def PZ.put_upvalue_names (z : PZ) (kt : Nat) : PZ := { z with k8 := kt }
noncomputable def PZ.put_source (z : PZ) (kt : Nat) (v : Array UInt8) (t : Nat) : PZ := { z with k9 := kt, sb := v, ts := t }
noncomputable def PZ.put_line_defined (z : PZ) (kt : Nat) (v : Int) (t : Nat) : PZ := { z with k10 := kt, n3 := v, t3 := t }
noncomputable def PZ.put_last_line (z : PZ) (kt : Nat) (v : Int) (t : Nat) : PZ := { z with k11 := kt, n4 := v, t4 := t }
noncomputable def PZ.put_upvalue_count (z : PZ) (kt : Nat) (v : Int) (t : Nat) : PZ := { z with k12 := kt, n5 := v, t5 := t }
noncomputable def PZ.put_param_count (z : PZ) (kt : Nat) (v : Int) (t : Nat) : PZ := { z with k13 := kt, n6 := v, t6 := t }
noncomputable def PZ.put_is_vararg (z : PZ) (kt : Nat) (v : Int) (t : Nat) : PZ := { z with k14 := kt, n7 := v, t7 := t }
noncomputable def PZ.put_max_stack (z : PZ) (kt : Nat) (v : Int) (t : Nat) : PZ := { z with k15 := kt, n8 := v, t8 := t }
section
variable {w : World} {A : Around} {E : Value → Shared → Prop} {s : Shared} {h₀ : Heap} {L : Addr} {m : Str → Option Value} {rest : List (Addr × Obj)} {x d b : Addr} {z : PZ} {c k p l o u : Addr} {R : Unit → Shared → Prop}
theorem init_number {v : Int} {t : Tok} (F : Fr h₀ L s.heap m) (X₀ : (hd.heap_39 w.params).In h₀) (N : News h₀ L s.heap ((d, protoPre w.params z c k p l o u 0) :: rest)) (hx : (x, instObj 178 d) ∈ rest) (hne : ∀ q ∈ rest, q.1 ≠ d)
    (h : ∀ h', Fr h₀ L h' m → News h₀ L h' ((d, protoPre w.params (z.put_number (s.toks + 1) v t) c k p l o u 1) :: rest) → R () { s with heap := h', toks := s.toks + 2 }) :
    wpAny (model (RowW.prog (OpenRow.toRowW (OpenLaw.row PySem.Challenge.rw_rh0159_01))) w) A (setAttr (.ref x) "number" (.int v t)) R E s := by
  revert X₀; k_fill; intro X₀
  refine' set_dict F X₀ N (InstAt.of_news N (.tail _ hx) (.head _)) rfl ?k6 ?k7 ?k8 ?k9 ?k10 ?k11 (.head hne) ?k13 h
  case k6 => k_is
  case k7 => k_is
  case k8 => k_is
  case k9 => k_is
  case k10 => k_get
  case k11 => k_put
  case k13 => exact Nat.le_of_ble_eq_true rfl
theorem init_mark {v : Int} {t : Tok} (F : Fr h₀ L s.heap m) (X₀ : (hd.heap_39 w.params).In h₀) (N : News h₀ L s.heap ((d, protoPre w.params z c k p l o u 1) :: rest)) (hx : (x, instObj 178 d) ∈ rest) (hne : ∀ q ∈ rest, q.1 ≠ d)
    (h : ∀ h', Fr h₀ L h' m → News h₀ L h' ((d, protoPre w.params (z.put_mark (s.toks + 1) v t) c k p l o u 2) :: rest) → R () { s with heap := h', toks := s.toks + 2 }) :
    wpAny (model (RowW.prog (OpenRow.toRowW (OpenLaw.row PySem.Challenge.rw_rh0159_01))) w) A (setAttr (.ref x) "mark" (.int v t)) R E s := by
  revert X₀; k_fill; intro X₀
  refine' set_dict F X₀ N (InstAt.of_news N (.tail _ hx) (.head _)) rfl ?k6 ?k7 ?k8 ?k9 ?k10 ?k11 (.head hne) ?k13 h
  case k6 => k_is
  case k7 => k_is
  case k8 => k_is
  case k9 => k_is
  case k10 => k_get
  case k11 => k_put
  case k13 => exact Nat.le_of_ble_eq_true rfl
theorem init_size {v : Int} {t : Tok} (F : Fr h₀ L s.heap m) (X₀ : (hd.heap_39 w.params).In h₀) (N : News h₀ L s.heap ((d, protoPre w.params z c k p l o u 2) :: rest)) (hx : (x, instObj 178 d) ∈ rest) (hne : ∀ q ∈ rest, q.1 ≠ d)
    (h : ∀ h', Fr h₀ L h' m → News h₀ L h' ((d, protoPre w.params (z.put_size (s.toks + 1) v t) c k p l o u 3) :: rest) → R () { s with heap := h', toks := s.toks + 2 }) :
    wpAny (model (RowW.prog (OpenRow.toRowW (OpenLaw.row PySem.Challenge.rw_rh0159_01))) w) A (setAttr (.ref x) "size" (.int v t)) R E s := by
  revert X₀; k_fill; intro X₀
  refine' set_dict F X₀ N (InstAt.of_news N (.tail _ hx) (.head _)) rfl ?k6 ?k7 ?k8 ?k9 ?k10 ?k11 (.head hne) ?k13 h
  case k6 => k_is
  case k7 => k_is
  case k8 => k_is
  case k9 => k_is
  case k10 => k_get
  case k11 => k_put
  case k13 => exact Nat.le_of_ble_eq_true rfl
theorem init_code (F : Fr h₀ L s.heap m) (X₀ : (hd.heap_39 w.params).In h₀) (N : News h₀ L s.heap ((d, protoPre w.params z c k p l o u 3) :: rest)) (hx : (x, instObj 178 d) ∈ rest) (hne : ∀ q ∈ rest, q.1 ≠ d)
    (h : ∀ h', Fr h₀ L h' m → News h₀ L h' ((d, protoPre w.params (z.put_code (s.toks + 1)) b k p l o u 4) :: rest) → R () { s with heap := h', toks := s.toks + 2 }) :
    wpAny (model (RowW.prog (OpenRow.toRowW (OpenLaw.row PySem.Challenge.rw_rh0159_01))) w) A (setAttr (.ref x) "code" (.ref b)) R E s := by
  revert X₀; k_fill; intro X₀
  refine' set_dict F X₀ N (InstAt.of_news N (.tail _ hx) (.head _)) rfl ?k6 ?k7 ?k8 ?k9 ?k10 ?k11 (.head hne) ?k13 h
  case k6 => k_is
  case k7 => k_is
  case k8 => k_is
  case k9 => k_is
  case k10 => k_get
  case k11 => k_put
  case k13 => exact Nat.le_of_ble_eq_true rfl
theorem init_constants (F : Fr h₀ L s.heap m) (X₀ : (hd.heap_39 w.params).In h₀) (N : News h₀ L s.heap ((d, protoPre w.params z c k p l o u 4) :: rest)) (hx : (x, instObj 178 d) ∈ rest) (hne : ∀ q ∈ rest, q.1 ≠ d)
    (h : ∀ h', Fr h₀ L h' m → News h₀ L h' ((d, protoPre w.params (z.put_constants (s.toks + 1)) c b p l o u 5) :: rest) → R () { s with heap := h', toks := s.toks + 2 }) :
    wpAny (model (RowW.prog (OpenRow.toRowW (OpenLaw.row PySem.Challenge.rw_rh0159_01))) w) A (setAttr (.ref x) "constants" (.ref b)) R E s := by
  revert X₀; k_fill; intro X₀
  refine' set_dict F X₀ N (InstAt.of_news N (.tail _ hx) (.head _)) rfl ?k6 ?k7 ?k8 ?k9 ?k10 ?k11 (.head hne) ?k13 h
  case k6 => k_is
  case k7 => k_is
  case k8 => k_is
  case k9 => k_is
  case k10 => k_get
  case k11 => k_put
  case k13 => exact Nat.le_of_ble_eq_true rfl
theorem init_protos (F : Fr h₀ L s.heap m) (X₀ : (hd.heap_39 w.params).In h₀) (N : News h₀ L s.heap ((d, protoPre w.params z c k p l o u 5) :: rest)) (hx : (x, instObj 178 d) ∈ rest) (hne : ∀ q ∈ rest, q.1 ≠ d)
    (h : ∀ h', Fr h₀ L h' m → News h₀ L h' ((d, protoPre w.params (z.put_protos (s.toks + 1)) c k b l o u 6) :: rest) → R () { s with heap := h', toks := s.toks + 2 }) :
    wpAny (model (RowW.prog (OpenRow.toRowW (OpenLaw.row PySem.Challenge.rw_rh0159_01))) w) A (setAttr (.ref x) "protos" (.ref b)) R E s := by
  revert X₀; k_fill; intro X₀
  refine' set_dict F X₀ N (InstAt.of_news N (.tail _ hx) (.head _)) rfl ?k6 ?k7 ?k8 ?k9 ?k10 ?k11 (.head hne) ?k13 h
  case k6 => k_is
  case k7 => k_is
  case k8 => k_is
  case k9 => k_is
  case k10 => k_get
  case k11 => k_put
  case k13 => exact Nat.le_of_ble_eq_true rfl
theorem init_line_info (F : Fr h₀ L s.heap m) (X₀ : (hd.heap_39 w.params).In h₀) (N : News h₀ L s.heap ((d, protoPre w.params z c k p l o u 6) :: rest)) (hx : (x, instObj 178 d) ∈ rest) (hne : ∀ q ∈ rest, q.1 ≠ d)
    (h : ∀ h', Fr h₀ L h' m → News h₀ L h' ((d, protoPre w.params (z.put_line_info (s.toks + 1)) c k p b o u 7) :: rest) → R () { s with heap := h', toks := s.toks + 2 }) :
    wpAny (model (RowW.prog (OpenRow.toRowW (OpenLaw.row PySem.Challenge.rw_rh0159_01))) w) A (setAttr (.ref x) "line_info" (.ref b)) R E s := by
  revert X₀; k_fill; intro X₀
  refine' set_dict F X₀ N (InstAt.of_news N (.tail _ hx) (.head _)) rfl ?k6 ?k7 ?k8 ?k9 ?k10 ?k11 (.head hne) ?k13 h
  case k6 => k_is
  case k7 => k_is
  case k8 => k_is
  case k9 => k_is
  case k10 => k_get
  case k11 => k_put
  case k13 => exact Nat.le_of_ble_eq_true rfl
theorem init_locals (F : Fr h₀ L s.heap m) (X₀ : (hd.heap_39 w.params).In h₀) (N : News h₀ L s.heap ((d, protoPre w.params z c k p l o u 7) :: rest)) (hx : (x, instObj 178 d) ∈ rest) (hne : ∀ q ∈ rest, q.1 ≠ d)
    (h : ∀ h', Fr h₀ L h' m → News h₀ L h' ((d, protoPre w.params (z.put_locals (s.toks + 1)) c k p l b u 8) :: rest) → R () { s with heap := h', toks := s.toks + 2 }) :
    wpAny (model (RowW.prog (OpenRow.toRowW (OpenLaw.row PySem.Challenge.rw_rh0159_01))) w) A (setAttr (.ref x) "locals" (.ref b)) R E s := by
  revert X₀; k_fill; intro X₀
  refine' set_dict F X₀ N (InstAt.of_news N (.tail _ hx) (.head _)) rfl ?k6 ?k7 ?k8 ?k9 ?k10 ?k11 (.head hne) ?k13 h
  case k6 => k_is
  case k7 => k_is
  case k8 => k_is
  case k9 => k_is
  case k10 => k_get
  case k11 => k_put
  case k13 => exact Nat.le_of_ble_eq_true rfl
theorem init_upvalue_names (F : Fr h₀ L s.heap m) (X₀ : (hd.heap_39 w.params).In h₀) (N : News h₀ L s.heap ((d, protoPre w.params z c k p l o u 8) :: rest)) (hx : (x, instObj 178 d) ∈ rest) (hne : ∀ q ∈ rest, q.1 ≠ d)
    (h : ∀ h', Fr h₀ L h' m → News h₀ L h' ((d, protoPre w.params (z.put_upvalue_names (s.toks + 1)) c k p l o b 9) :: rest) → R () { s with heap := h', toks := s.toks + 2 }) :
    wpAny (model (RowW.prog (OpenRow.toRowW (OpenLaw.row PySem.Challenge.rw_rh0159_01))) w) A (setAttr (.ref x) "upvalue_names" (.ref b)) R E s := by
  revert X₀; k_fill; intro X₀
  refine' set_dict F X₀ N (InstAt.of_news N (.tail _ hx) (.head _)) rfl ?k6 ?k7 ?k8 ?k9 ?k10 ?k11 (.head hne) ?k13 h
  case k6 => k_is
  case k7 => k_is
  case k8 => k_is
  case k9 => k_is
  case k10 => k_get
  case k11 => k_put
  case k13 => exact Nat.le_of_ble_eq_true rfl
theorem init_source {v : Array UInt8} {t : Tok} (F : Fr h₀ L s.heap m) (X₀ : (hd.heap_39 w.params).In h₀) (N : News h₀ L s.heap ((d, protoPre w.params z c k p l o u 9) :: rest)) (hx : (x, instObj 178 d) ∈ rest) (hne : ∀ q ∈ rest, q.1 ≠ d)
    (h : ∀ h', Fr h₀ L h' m → News h₀ L h' ((d, protoPre w.params (z.put_source (s.toks + 1) v t) c k p l o u 10) :: rest) → R () { s with heap := h', toks := s.toks + 2 }) :
    wpAny (model (RowW.prog (OpenRow.toRowW (OpenLaw.row PySem.Challenge.rw_rh0159_01))) w) A (setAttr (.ref x) "source" (.bytes v t)) R E s := by
  revert X₀; k_fill; intro X₀
  refine' set_dict F X₀ N (InstAt.of_news N (.tail _ hx) (.head _)) rfl ?k6 ?k7 ?k8 ?k9 ?k10 ?k11 (.head hne) ?k13 h
  case k6 => k_is
  case k7 => k_is
  case k8 => k_is
  case k9 => k_is
  case k10 => k_get
  case k11 => k_put
  case k13 => exact Nat.le_of_ble_eq_true rfl
theorem init_line_defined {v : Int} {t : Tok} (F : Fr h₀ L s.heap m) (X₀ : (hd.heap_39 w.params).In h₀) (N : News h₀ L s.heap ((d, protoPre w.params z c k p l o u 10) :: rest)) (hx : (x, instObj 178 d) ∈ rest) (hne : ∀ q ∈ rest, q.1 ≠ d)
    (h : ∀ h', Fr h₀ L h' m → News h₀ L h' ((d, protoPre w.params (z.put_line_defined (s.toks + 1) v t) c k p l o u 11) :: rest) → R () { s with heap := h', toks := s.toks + 2 }) :
    wpAny (model (RowW.prog (OpenRow.toRowW (OpenLaw.row PySem.Challenge.rw_rh0159_01))) w) A (setAttr (.ref x) "line_defined" (.int v t)) R E s := by
  revert X₀; k_fill; intro X₀
  refine' set_dict F X₀ N (InstAt.of_news N (.tail _ hx) (.head _)) rfl ?k6 ?k7 ?k8 ?k9 ?k10 ?k11 (.head hne) ?k13 h
  case k6 => k_is
  case k7 => k_is
  case k8 => k_is
  case k9 => k_is
  case k10 => k_get
  case k11 => k_put
  case k13 => exact Nat.le_of_ble_eq_true rfl
theorem init_last_line {v : Int} {t : Tok} (F : Fr h₀ L s.heap m) (X₀ : (hd.heap_39 w.params).In h₀) (N : News h₀ L s.heap ((d, protoPre w.params z c k p l o u 11) :: rest)) (hx : (x, instObj 178 d) ∈ rest) (hne : ∀ q ∈ rest, q.1 ≠ d)
    (h : ∀ h', Fr h₀ L h' m → News h₀ L h' ((d, protoPre w.params (z.put_last_line (s.toks + 1) v t) c k p l o u 12) :: rest) → R () { s with heap := h', toks := s.toks + 2 }) :
    wpAny (model (RowW.prog (OpenRow.toRowW (OpenLaw.row PySem.Challenge.rw_rh0159_01))) w) A (setAttr (.ref x) "last_line" (.int v t)) R E s := by
  revert X₀; k_fill; intro X₀
  refine' set_dict F X₀ N (InstAt.of_news N (.tail _ hx) (.head _)) rfl ?k6 ?k7 ?k8 ?k9 ?k10 ?k11 (.head hne) ?k13 h
  case k6 => k_is
  case k7 => k_is
  case k8 => k_is
  case k9 => k_is
  case k10 => k_get
  case k11 => k_put
  case k13 => exact Nat.le_of_ble_eq_true rfl
theorem init_upvalue_count {v : Int} {t : Tok} (F : Fr h₀ L s.heap m) (X₀ : (hd.heap_39 w.params).In h₀) (N : News h₀ L s.heap ((d, protoPre w.params z c k p l o u 12) :: rest)) (hx : (x, instObj 178 d) ∈ rest) (hne : ∀ q ∈ rest, q.1 ≠ d)
    (h : ∀ h', Fr h₀ L h' m → News h₀ L h' ((d, protoPre w.params (z.put_upvalue_count (s.toks + 1) v t) c k p l o u 13) :: rest) → R () { s with heap := h', toks := s.toks + 2 }) :
    wpAny (model (RowW.prog (OpenRow.toRowW (OpenLaw.row PySem.Challenge.rw_rh0159_01))) w) A (setAttr (.ref x) "upvalue_count" (.int v t)) R E s := by
  revert X₀; k_fill; intro X₀
  refine' set_dict F X₀ N (InstAt.of_news N (.tail _ hx) (.head _)) rfl ?k6 ?k7 ?k8 ?k9 ?k10 ?k11 (.head hne) ?k13 h
  case k6 => k_is
  case k7 => k_is
  case k8 => k_is
  case k9 => k_is
  case k10 => k_get
  case k11 => k_put
  case k13 => exact Nat.le_of_ble_eq_true rfl
theorem init_param_count {v : Int} {t : Tok} (F : Fr h₀ L s.heap m) (X₀ : (hd.heap_39 w.params).In h₀) (N : News h₀ L s.heap ((d, protoPre w.params z c k p l o u 13) :: rest)) (hx : (x, instObj 178 d) ∈ rest) (hne : ∀ q ∈ rest, q.1 ≠ d)
    (h : ∀ h', Fr h₀ L h' m → News h₀ L h' ((d, protoPre w.params (z.put_param_count (s.toks + 1) v t) c k p l o u 14) :: rest) → R () { s with heap := h', toks := s.toks + 2 }) :
    wpAny (model (RowW.prog (OpenRow.toRowW (OpenLaw.row PySem.Challenge.rw_rh0159_01))) w) A (setAttr (.ref x) "param_count" (.int v t)) R E s := by
  revert X₀; k_fill; intro X₀
  refine' set_dict F X₀ N (InstAt.of_news N (.tail _ hx) (.head _)) rfl ?k6 ?k7 ?k8 ?k9 ?k10 ?k11 (.head hne) ?k13 h
  case k6 => k_is
  case k7 => k_is
  case k8 => k_is
  case k9 => k_is
  case k10 => k_get
  case k11 => k_put
  case k13 => exact Nat.le_of_ble_eq_true rfl
theorem init_is_vararg {v : Int} {t : Tok} (F : Fr h₀ L s.heap m) (X₀ : (hd.heap_39 w.params).In h₀) (N : News h₀ L s.heap ((d, protoPre w.params z c k p l o u 14) :: rest)) (hx : (x, instObj 178 d) ∈ rest) (hne : ∀ q ∈ rest, q.1 ≠ d)
    (h : ∀ h', Fr h₀ L h' m → News h₀ L h' ((d, protoPre w.params (z.put_is_vararg (s.toks + 1) v t) c k p l o u 15) :: rest) → R () { s with heap := h', toks := s.toks + 2 }) :
    wpAny (model (RowW.prog (OpenRow.toRowW (OpenLaw.row PySem.Challenge.rw_rh0159_01))) w) A (setAttr (.ref x) "is_vararg" (.int v t)) R E s := by
  revert X₀; k_fill; intro X₀
  refine' set_dict F X₀ N (InstAt.of_news N (.tail _ hx) (.head _)) rfl ?k6 ?k7 ?k8 ?k9 ?k10 ?k11 (.head hne) ?k13 h
  case k6 => k_is
  case k7 => k_is
  case k8 => k_is
  case k9 => k_is
  case k10 => k_get
  case k11 => k_put
  case k13 => exact Nat.le_of_ble_eq_true rfl
theorem init_max_stack {v : Int} {t : Tok} (F : Fr h₀ L s.heap m) (X₀ : (hd.heap_39 w.params).In h₀) (N : News h₀ L s.heap ((d, protoPre w.params z c k p l o u 15) :: rest)) (hx : (x, instObj 178 d) ∈ rest) (hne : ∀ q ∈ rest, q.1 ≠ d)
    (h : ∀ h', Fr h₀ L h' m → News h₀ L h' ((d, protoPre w.params (z.put_max_stack (s.toks + 1) v t) c k p l o u 16) :: rest) → R () { s with heap := h', toks := s.toks + 2 }) :
    wpAny (model (RowW.prog (OpenRow.toRowW (OpenLaw.row PySem.Challenge.rw_rh0159_01))) w) A (setAttr (.ref x) "max_stack" (.int v t)) R E s := by
  revert X₀; k_fill; intro X₀
  refine' set_dict F X₀ N (InstAt.of_news N (.tail _ hx) (.head _)) rfl ?k6 ?k7 ?k8 ?k9 ?k10 ?k11 (.head hne) ?k13 h
  case k6 => k_is
  case k7 => k_is
  case k8 => k_is
  case k9 => k_is
  case k10 => k_get
  case k11 => k_put
  case k13 => exact Nat.le_of_ble_eq_true rfl
end


/-! S4 -/
theorem mem_first {α : Type} {e : α} {l1 l2 : List α} : ∀ q ∈ e :: (l1 ++ l2), q ∈ l1 ++ e :: l2 := fun q hq => by
  rcases List.mem_cons.mp hq with rfl | hq
  · exact List.mem_append_right _ (.head _)
  · exact (List.mem_append.mp hq).elim (fun h => List.mem_append_left _ h) (fun h => List.mem_append_right _ (.tail _ h))
section
variable {w : World} {A : Around} {E : Value → Shared → Prop} {s : Shared} {h₀ : Heap} {L a : Addr} {m : Str → Option Value} {rest : List (Addr × Obj)} {x d : Addr} {z : PZ} {c k p l o u : Addr} {cn : Str} {cs : Scope} {ccd : Value} {cl : List (Str × Addr)} {Q : Flow → Shared → Prop} {p1 p2 p3 p4 : Pos} {kk : Nat} {i : Int} {v : List UInt8}
theorem sti_number {y : Int} {ty : Tok} (F : Fr h₀ L s.heap m) (X₀ : (hd.heap_39 w.params).In h₀) (N : News h₀ L s.heap ((d, protoPre w.params z c k p l o u 0) :: rest)) (hk : cs.kind = .function) (ks : (envX cn cs L a ccd cl).kindOf "self" = some .local) (hs : m "self" = some (.ref x)) (hx : (x, instObj 178 d) ∈ rest) (hne : ∀ q ∈ rest, q.1 ≠ d) (ky : (envX cn cs L a ccd cl).kindOf "number" = some .local) (hy : m "number" = some (.int y ty))
    (h : ∀ (z' : PZ) (h' : Heap) (tk' : Nat), Fr h₀ L h' m → News h₀ L h' ((d, protoPre w.params z' c k p l o u 1) :: rest) → Q .next { s with heap := h', toks := tk' }) :
    wpAny (model (RowW.prog (OpenRow.toRowW (OpenLaw.row PySem.Challenge.rw_rh0159_01))) w) A (exec (.Assign [.Attribute (.Name "self" p1) "number" p2] (.Name "number" p3) p4) (envX cn cs L a ccd cl)) Q E s :=
  plainObj_wpAny_Assign_Attribute (nameX_L F hy (nameX_L F hs (init_number F X₀ N hx hne fun h' F' N' => h _ h' _ F' N') hk ks) hk ky) (by rfl)
theorem sti_mark (F : Fr h₀ L s.heap m) (X₀ : (hd.heap_39 w.params).In h₀) (N : News h₀ L s.heap ((d, protoPre w.params z c k p l o u 1) :: rest)) (hk : cs.kind = .function) (ks : (envX cn cs L a ccd cl).kindOf "self" = some .local) (hs : m "self" = some (.ref x)) (hx : (x, instObj 178 d) ∈ rest) (hne : ∀ q ∈ rest, q.1 ≠ d)
    (h : ∀ (z' : PZ) (h' : Heap) (tk' : Nat), Fr h₀ L h' m → News h₀ L h' ((d, protoPre w.params z' c k p l o u 2) :: rest) → Q .next { s with heap := h', toks := tk' }) :
    wpAny (model (RowW.prog (OpenRow.toRowW (OpenLaw.row PySem.Challenge.rw_rh0159_01))) w) A (exec (.Assign [.Attribute (.Name "self" p1) "mark" p2] (.Constant (.int i) kk p3) p4) (envX cn cs L a ccd cl)) Q E s :=
  plainObj_wpAny_Assign_Attribute (wpAny_Constant_int (nameX_L (s := { s with toks := s.toks + 1 }) F hs (init_mark (s := { s with toks := s.toks + 1 }) F X₀ N hx hne fun h' F' N' => h _ h' _ F' N') hk ks)) (by rfl)
theorem sti_size {y : Int} {ty : Tok} (F : Fr h₀ L s.heap m) (X₀ : (hd.heap_39 w.params).In h₀) (N : News h₀ L s.heap ((d, protoPre w.params z c k p l o u 2) :: rest)) (hk : cs.kind = .function) (ks : (envX cn cs L a ccd cl).kindOf "self" = some .local) (hs : m "self" = some (.ref x)) (hx : (x, instObj 178 d) ∈ rest) (hne : ∀ q ∈ rest, q.1 ≠ d) (ky : (envX cn cs L a ccd cl).kindOf "size" = some .local) (hy : m "size" = some (.int y ty))
    (h : ∀ (z' : PZ) (h' : Heap) (tk' : Nat), Fr h₀ L h' m → News h₀ L h' ((d, protoPre w.params z' c k p l o u 3) :: rest) → Q .next { s with heap := h', toks := tk' }) :
    wpAny (model (RowW.prog (OpenRow.toRowW (OpenLaw.row PySem.Challenge.rw_rh0159_01))) w) A (exec (.Assign [.Attribute (.Name "self" p1) "size" p2] (.Name "size" p3) p4) (envX cn cs L a ccd cl)) Q E s :=
  plainObj_wpAny_Assign_Attribute (nameX_L F hy (nameX_L F hs (init_size F X₀ N hx hne fun h' F' N' => h _ h' _ F' N') hk ks) hk ky) (by rfl)
theorem sti_code (F : Fr h₀ L s.heap m) (X₀ : (hd.heap_39 w.params).In h₀) (N : News h₀ L s.heap ((d, protoPre w.params z c k p l o u 3) :: rest)) (hk : cs.kind = .function) (ks : (envX cn cs L a ccd cl).kindOf "self" = some .local) (hs : m "self" = some (.ref x)) (hx : (x, instObj 178 d) ∈ rest) (hne : ∀ q ∈ rest, q.1 ≠ d)
    (h : ∀ (D : Addr) (rest' : List (Addr × Obj)) (z' : PZ) (h' : Heap) (tk' : Nat), Fr h₀ L h' m → News h₀ L h' ((d, protoPre w.params z' D k p l o u 4) :: rest') → (∀ q ∈ rest, q ∈ rest') → (D, listOf #[] 0) ∈ rest' → (∀ q ∈ rest', q.1 ≠ d) → (∀ q ∈ rest, q.1 < D) → Q .next { s with heap := h', toks := tk' }) :
    wpAny (model (RowW.prog (OpenRow.toRowW (OpenLaw.row PySem.Challenge.rw_rh0159_01))) w) A (exec (.Assign [.Attribute (.Name "self" p1) "code" p2] (.List [] p3) p4) (envX cn cs L a ccd cl)) Q E s := by
  refine plainObj_wpAny_Assign_Attribute (List_ (args_nil ?_)) (by rfl)
  refine newList_K F N (fun D h' F' N' hlt => ?_) (Nat.zero_le _)
  have hlt' : ∀ q ∈ rest, q.1 < D := fun q hq => hlt q (.tail _ hq)
  have hdD : d < D := hlt _ (.head _)
  have hne' : ∀ q ∈ (D, listOf #[] 0) :: rest, q.1 ≠ d := List.forall_mem_cons.mpr ⟨Nat.ne_of_gt hdD, hne⟩
  have N2 : News h₀ L h' ((d, protoPre w.params z c k p l o u 3) :: (D, listOf #[] 0) :: rest) := kst_newsOf N' (mem_first (l1 := [(D, listOf #[] 0)]))
  refine nameX_L (s := { s with heap := h' }) F' hs ?_ hk ks
  exact init_code (s := { s with heap := h' }) F' X₀ N2 (.tail _ hx) hne' fun h'' F'' N'' => h D _ _ h'' _ F'' N'' (fun q hq => .tail _ hq) (.head _) hne' hlt'
theorem sti_constants (F : Fr h₀ L s.heap m) (X₀ : (hd.heap_39 w.params).In h₀) (N : News h₀ L s.heap ((d, protoPre w.params z c k p l o u 4) :: rest)) (hk : cs.kind = .function) (ks : (envX cn cs L a ccd cl).kindOf "self" = some .local) (hs : m "self" = some (.ref x)) (hx : (x, instObj 178 d) ∈ rest) (hne : ∀ q ∈ rest, q.1 ≠ d)
    (h : ∀ (D : Addr) (rest' : List (Addr × Obj)) (z' : PZ) (h' : Heap) (tk' : Nat), Fr h₀ L h' m → News h₀ L h' ((d, protoPre w.params z' c D p l o u 5) :: rest') → (∀ q ∈ rest, q ∈ rest') → (D, listOf #[] 0) ∈ rest' → (∀ q ∈ rest', q.1 ≠ d) → (∀ q ∈ rest, q.1 < D) → Q .next { s with heap := h', toks := tk' }) :
    wpAny (model (RowW.prog (OpenRow.toRowW (OpenLaw.row PySem.Challenge.rw_rh0159_01))) w) A (exec (.Assign [.Attribute (.Name "self" p1) "constants" p2] (.List [] p3) p4) (envX cn cs L a ccd cl)) Q E s := by
  refine plainObj_wpAny_Assign_Attribute (List_ (args_nil ?_)) (by rfl)
  refine newList_K F N (fun D h' F' N' hlt => ?_) (Nat.zero_le _)
  have hlt' : ∀ q ∈ rest, q.1 < D := fun q hq => hlt q (.tail _ hq)
  have hdD : d < D := hlt _ (.head _)
  have hne' : ∀ q ∈ (D, listOf #[] 0) :: rest, q.1 ≠ d := List.forall_mem_cons.mpr ⟨Nat.ne_of_gt hdD, hne⟩
  have N2 : News h₀ L h' ((d, protoPre w.params z c k p l o u 4) :: (D, listOf #[] 0) :: rest) := kst_newsOf N' (mem_first (l1 := [(D, listOf #[] 0)]))
  refine nameX_L (s := { s with heap := h' }) F' hs ?_ hk ks
  exact init_constants (s := { s with heap := h' }) F' X₀ N2 (.tail _ hx) hne' fun h'' F'' N'' => h D _ _ h'' _ F'' N'' (fun q hq => .tail _ hq) (.head _) hne' hlt'
theorem sti_protos (F : Fr h₀ L s.heap m) (X₀ : (hd.heap_39 w.params).In h₀) (N : News h₀ L s.heap ((d, protoPre w.params z c k p l o u 5) :: rest)) (hk : cs.kind = .function) (ks : (envX cn cs L a ccd cl).kindOf "self" = some .local) (hs : m "self" = some (.ref x)) (hx : (x, instObj 178 d) ∈ rest) (hne : ∀ q ∈ rest, q.1 ≠ d)
    (h : ∀ (D : Addr) (rest' : List (Addr × Obj)) (z' : PZ) (h' : Heap) (tk' : Nat), Fr h₀ L h' m → News h₀ L h' ((d, protoPre w.params z' c k D l o u 6) :: rest') → (∀ q ∈ rest, q ∈ rest') → (D, listOf #[] 0) ∈ rest' → (∀ q ∈ rest', q.1 ≠ d) → (∀ q ∈ rest, q.1 < D) → Q .next { s with heap := h', toks := tk' }) :
    wpAny (model (RowW.prog (OpenRow.toRowW (OpenLaw.row PySem.Challenge.rw_rh0159_01))) w) A (exec (.Assign [.Attribute (.Name "self" p1) "protos" p2] (.List [] p3) p4) (envX cn cs L a ccd cl)) Q E s := by
  refine plainObj_wpAny_Assign_Attribute (List_ (args_nil ?_)) (by rfl)
  refine newList_K F N (fun D h' F' N' hlt => ?_) (Nat.zero_le _)
  have hlt' : ∀ q ∈ rest, q.1 < D := fun q hq => hlt q (.tail _ hq)
  have hdD : d < D := hlt _ (.head _)
  have hne' : ∀ q ∈ (D, listOf #[] 0) :: rest, q.1 ≠ d := List.forall_mem_cons.mpr ⟨Nat.ne_of_gt hdD, hne⟩
  have N2 : News h₀ L h' ((d, protoPre w.params z c k p l o u 5) :: (D, listOf #[] 0) :: rest) := kst_newsOf N' (mem_first (l1 := [(D, listOf #[] 0)]))
  refine nameX_L (s := { s with heap := h' }) F' hs ?_ hk ks
  exact init_protos (s := { s with heap := h' }) F' X₀ N2 (.tail _ hx) hne' fun h'' F'' N'' => h D _ _ h'' _ F'' N'' (fun q hq => .tail _ hq) (.head _) hne' hlt'
theorem sti_line_info (F : Fr h₀ L s.heap m) (X₀ : (hd.heap_39 w.params).In h₀) (N : News h₀ L s.heap ((d, protoPre w.params z c k p l o u 6) :: rest)) (hk : cs.kind = .function) (ks : (envX cn cs L a ccd cl).kindOf "self" = some .local) (hs : m "self" = some (.ref x)) (hx : (x, instObj 178 d) ∈ rest) (hne : ∀ q ∈ rest, q.1 ≠ d)
    (h : ∀ (D : Addr) (rest' : List (Addr × Obj)) (z' : PZ) (h' : Heap) (tk' : Nat), Fr h₀ L h' m → News h₀ L h' ((d, protoPre w.params z' c k p D o u 7) :: rest') → (∀ q ∈ rest, q ∈ rest') → (D, listOf #[] 0) ∈ rest' → (∀ q ∈ rest', q.1 ≠ d) → (∀ q ∈ rest, q.1 < D) → Q .next { s with heap := h', toks := tk' }) :
    wpAny (model (RowW.prog (OpenRow.toRowW (OpenLaw.row PySem.Challenge.rw_rh0159_01))) w) A (exec (.Assign [.Attribute (.Name "self" p1) "line_info" p2] (.List [] p3) p4) (envX cn cs L a ccd cl)) Q E s := by
  refine plainObj_wpAny_Assign_Attribute (List_ (args_nil ?_)) (by rfl)
  refine newList_K F N (fun D h' F' N' hlt => ?_) (Nat.zero_le _)
  have hlt' : ∀ q ∈ rest, q.1 < D := fun q hq => hlt q (.tail _ hq)
  have hdD : d < D := hlt _ (.head _)
  have hne' : ∀ q ∈ (D, listOf #[] 0) :: rest, q.1 ≠ d := List.forall_mem_cons.mpr ⟨Nat.ne_of_gt hdD, hne⟩
  have N2 : News h₀ L h' ((d, protoPre w.params z c k p l o u 6) :: (D, listOf #[] 0) :: rest) := kst_newsOf N' (mem_first (l1 := [(D, listOf #[] 0)]))
  refine nameX_L (s := { s with heap := h' }) F' hs ?_ hk ks
  exact init_line_info (s := { s with heap := h' }) F' X₀ N2 (.tail _ hx) hne' fun h'' F'' N'' => h D _ _ h'' _ F'' N'' (fun q hq => .tail _ hq) (.head _) hne' hlt'
theorem sti_locals (F : Fr h₀ L s.heap m) (X₀ : (hd.heap_39 w.params).In h₀) (N : News h₀ L s.heap ((d, protoPre w.params z c k p l o u 7) :: rest)) (hk : cs.kind = .function) (ks : (envX cn cs L a ccd cl).kindOf "self" = some .local) (hs : m "self" = some (.ref x)) (hx : (x, instObj 178 d) ∈ rest) (hne : ∀ q ∈ rest, q.1 ≠ d)
    (h : ∀ (D : Addr) (rest' : List (Addr × Obj)) (z' : PZ) (h' : Heap) (tk' : Nat), Fr h₀ L h' m → News h₀ L h' ((d, protoPre w.params z' c k p l D u 8) :: rest') → (∀ q ∈ rest, q ∈ rest') → (D, listOf #[] 0) ∈ rest' → (∀ q ∈ rest', q.1 ≠ d) → (∀ q ∈ rest, q.1 < D) → Q .next { s with heap := h', toks := tk' }) :
    wpAny (model (RowW.prog (OpenRow.toRowW (OpenLaw.row PySem.Challenge.rw_rh0159_01))) w) A (exec (.Assign [.Attribute (.Name "self" p1) "locals" p2] (.List [] p3) p4) (envX cn cs L a ccd cl)) Q E s := by
  refine plainObj_wpAny_Assign_Attribute (List_ (args_nil ?_)) (by rfl)
  refine newList_K F N (fun D h' F' N' hlt => ?_) (Nat.zero_le _)
  have hlt' : ∀ q ∈ rest, q.1 < D := fun q hq => hlt q (.tail _ hq)
  have hdD : d < D := hlt _ (.head _)
  have hne' : ∀ q ∈ (D, listOf #[] 0) :: rest, q.1 ≠ d := List.forall_mem_cons.mpr ⟨Nat.ne_of_gt hdD, hne⟩
  have N2 : News h₀ L h' ((d, protoPre w.params z c k p l o u 7) :: (D, listOf #[] 0) :: rest) := kst_newsOf N' (mem_first (l1 := [(D, listOf #[] 0)]))
  refine nameX_L (s := { s with heap := h' }) F' hs ?_ hk ks
  exact init_locals (s := { s with heap := h' }) F' X₀ N2 (.tail _ hx) hne' fun h'' F'' N'' => h D _ _ h'' _ F'' N'' (fun q hq => .tail _ hq) (.head _) hne' hlt'
theorem sti_upvalue_names (F : Fr h₀ L s.heap m) (X₀ : (hd.heap_39 w.params).In h₀) (N : News h₀ L s.heap ((d, protoPre w.params z c k p l o u 8) :: rest)) (hk : cs.kind = .function) (ks : (envX cn cs L a ccd cl).kindOf "self" = some .local) (hs : m "self" = some (.ref x)) (hx : (x, instObj 178 d) ∈ rest) (hne : ∀ q ∈ rest, q.1 ≠ d)
    (h : ∀ (D : Addr) (rest' : List (Addr × Obj)) (z' : PZ) (h' : Heap) (tk' : Nat), Fr h₀ L h' m → News h₀ L h' ((d, protoPre w.params z' c k p l o D 9) :: rest') → (∀ q ∈ rest, q ∈ rest') → (D, listOf #[] 0) ∈ rest' → (∀ q ∈ rest', q.1 ≠ d) → (∀ q ∈ rest, q.1 < D) → Q .next { s with heap := h', toks := tk' }) :
    wpAny (model (RowW.prog (OpenRow.toRowW (OpenLaw.row PySem.Challenge.rw_rh0159_01))) w) A (exec (.Assign [.Attribute (.Name "self" p1) "upvalue_names" p2] (.List [] p3) p4) (envX cn cs L a ccd cl)) Q E s := by
  refine plainObj_wpAny_Assign_Attribute (List_ (args_nil ?_)) (by rfl)
  refine newList_K F N (fun D h' F' N' hlt => ?_) (Nat.zero_le _)
  have hlt' : ∀ q ∈ rest, q.1 < D := fun q hq => hlt q (.tail _ hq)
  have hdD : d < D := hlt _ (.head _)
  have hne' : ∀ q ∈ (D, listOf #[] 0) :: rest, q.1 ≠ d := List.forall_mem_cons.mpr ⟨Nat.ne_of_gt hdD, hne⟩
  have N2 : News h₀ L h' ((d, protoPre w.params z c k p l o u 8) :: (D, listOf #[] 0) :: rest) := kst_newsOf N' (mem_first (l1 := [(D, listOf #[] 0)]))
  refine nameX_L (s := { s with heap := h' }) F' hs ?_ hk ks
  exact init_upvalue_names (s := { s with heap := h' }) F' X₀ N2 (.tail _ hx) hne' fun h'' F'' N'' => h D _ _ h'' _ F'' N'' (fun q hq => .tail _ hq) (.head _) hne' hlt'
theorem sti_source (F : Fr h₀ L s.heap m) (X₀ : (hd.heap_39 w.params).In h₀) (N : News h₀ L s.heap ((d, protoPre w.params z c k p l o u 9) :: rest)) (hk : cs.kind = .function) (ks : (envX cn cs L a ccd cl).kindOf "self" = some .local) (hs : m "self" = some (.ref x)) (hx : (x, instObj 178 d) ∈ rest) (hne : ∀ q ∈ rest, q.1 ≠ d)
    (h : ∀ (z' : PZ) (h' : Heap) (tk' : Nat), Fr h₀ L h' m → News h₀ L h' ((d, protoPre w.params z' c k p l o u 10) :: rest) → Q .next { s with heap := h', toks := tk' }) :
    wpAny (model (RowW.prog (OpenRow.toRowW (OpenLaw.row PySem.Challenge.rw_rh0159_01))) w) A (exec (.Assign [.Attribute (.Name "self" p1) "source" p2] (.Constant (.bytes v) kk p3) p4) (envX cn cs L a ccd cl)) Q E s :=
  plainObj_wpAny_Assign_Attribute (Constant_bytes (nameX_L (s := { s with toks := s.toks + 1 }) F hs (init_source (s := { s with toks := s.toks + 1 }) F X₀ N hx hne fun h' F' N' => h _ h' _ F' N') hk ks)) (by rfl)
theorem sti_line_defined (F : Fr h₀ L s.heap m) (X₀ : (hd.heap_39 w.params).In h₀) (N : News h₀ L s.heap ((d, protoPre w.params z c k p l o u 10) :: rest)) (hk : cs.kind = .function) (ks : (envX cn cs L a ccd cl).kindOf "self" = some .local) (hs : m "self" = some (.ref x)) (hx : (x, instObj 178 d) ∈ rest) (hne : ∀ q ∈ rest, q.1 ≠ d)
    (h : ∀ (z' : PZ) (h' : Heap) (tk' : Nat), Fr h₀ L h' m → News h₀ L h' ((d, protoPre w.params z' c k p l o u 11) :: rest) → Q .next { s with heap := h', toks := tk' }) :
    wpAny (model (RowW.prog (OpenRow.toRowW (OpenLaw.row PySem.Challenge.rw_rh0159_01))) w) A (exec (.Assign [.Attribute (.Name "self" p1) "line_defined" p2] (.Constant (.int i) kk p3) p4) (envX cn cs L a ccd cl)) Q E s :=
  plainObj_wpAny_Assign_Attribute (wpAny_Constant_int (nameX_L (s := { s with toks := s.toks + 1 }) F hs (init_line_defined (s := { s with toks := s.toks + 1 }) F X₀ N hx hne fun h' F' N' => h _ h' _ F' N') hk ks)) (by rfl)
theorem sti_last_line (F : Fr h₀ L s.heap m) (X₀ : (hd.heap_39 w.params).In h₀) (N : News h₀ L s.heap ((d, protoPre w.params z c k p l o u 11) :: rest)) (hk : cs.kind = .function) (ks : (envX cn cs L a ccd cl).kindOf "self" = some .local) (hs : m "self" = some (.ref x)) (hx : (x, instObj 178 d) ∈ rest) (hne : ∀ q ∈ rest, q.1 ≠ d)
    (h : ∀ (z' : PZ) (h' : Heap) (tk' : Nat), Fr h₀ L h' m → News h₀ L h' ((d, protoPre w.params z' c k p l o u 12) :: rest) → Q .next { s with heap := h', toks := tk' }) :
    wpAny (model (RowW.prog (OpenRow.toRowW (OpenLaw.row PySem.Challenge.rw_rh0159_01))) w) A (exec (.Assign [.Attribute (.Name "self" p1) "last_line" p2] (.Constant (.int i) kk p3) p4) (envX cn cs L a ccd cl)) Q E s :=
  plainObj_wpAny_Assign_Attribute (wpAny_Constant_int (nameX_L (s := { s with toks := s.toks + 1 }) F hs (init_last_line (s := { s with toks := s.toks + 1 }) F X₀ N hx hne fun h' F' N' => h _ h' _ F' N') hk ks)) (by rfl)
theorem sti_upvalue_count (F : Fr h₀ L s.heap m) (X₀ : (hd.heap_39 w.params).In h₀) (N : News h₀ L s.heap ((d, protoPre w.params z c k p l o u 12) :: rest)) (hk : cs.kind = .function) (ks : (envX cn cs L a ccd cl).kindOf "self" = some .local) (hs : m "self" = some (.ref x)) (hx : (x, instObj 178 d) ∈ rest) (hne : ∀ q ∈ rest, q.1 ≠ d)
    (h : ∀ (z' : PZ) (h' : Heap) (tk' : Nat), Fr h₀ L h' m → News h₀ L h' ((d, protoPre w.params z' c k p l o u 13) :: rest) → Q .next { s with heap := h', toks := tk' }) :
    wpAny (model (RowW.prog (OpenRow.toRowW (OpenLaw.row PySem.Challenge.rw_rh0159_01))) w) A (exec (.Assign [.Attribute (.Name "self" p1) "upvalue_count" p2] (.Constant (.int i) kk p3) p4) (envX cn cs L a ccd cl)) Q E s :=
  plainObj_wpAny_Assign_Attribute (wpAny_Constant_int (nameX_L (s := { s with toks := s.toks + 1 }) F hs (init_upvalue_count (s := { s with toks := s.toks + 1 }) F X₀ N hx hne fun h' F' N' => h _ h' _ F' N') hk ks)) (by rfl)
theorem sti_param_count (F : Fr h₀ L s.heap m) (X₀ : (hd.heap_39 w.params).In h₀) (N : News h₀ L s.heap ((d, protoPre w.params z c k p l o u 13) :: rest)) (hk : cs.kind = .function) (ks : (envX cn cs L a ccd cl).kindOf "self" = some .local) (hs : m "self" = some (.ref x)) (hx : (x, instObj 178 d) ∈ rest) (hne : ∀ q ∈ rest, q.1 ≠ d)
    (h : ∀ (z' : PZ) (h' : Heap) (tk' : Nat), Fr h₀ L h' m → News h₀ L h' ((d, protoPre w.params z' c k p l o u 14) :: rest) → Q .next { s with heap := h', toks := tk' }) :
    wpAny (model (RowW.prog (OpenRow.toRowW (OpenLaw.row PySem.Challenge.rw_rh0159_01))) w) A (exec (.Assign [.Attribute (.Name "self" p1) "param_count" p2] (.Constant (.int i) kk p3) p4) (envX cn cs L a ccd cl)) Q E s :=
  plainObj_wpAny_Assign_Attribute (wpAny_Constant_int (nameX_L (s := { s with toks := s.toks + 1 }) F hs (init_param_count (s := { s with toks := s.toks + 1 }) F X₀ N hx hne fun h' F' N' => h _ h' _ F' N') hk ks)) (by rfl)
theorem sti_is_vararg (F : Fr h₀ L s.heap m) (X₀ : (hd.heap_39 w.params).In h₀) (N : News h₀ L s.heap ((d, protoPre w.params z c k p l o u 14) :: rest)) (hk : cs.kind = .function) (ks : (envX cn cs L a ccd cl).kindOf "self" = some .local) (hs : m "self" = some (.ref x)) (hx : (x, instObj 178 d) ∈ rest) (hne : ∀ q ∈ rest, q.1 ≠ d)
    (h : ∀ (z' : PZ) (h' : Heap) (tk' : Nat), Fr h₀ L h' m → News h₀ L h' ((d, protoPre w.params z' c k p l o u 15) :: rest) → Q .next { s with heap := h', toks := tk' }) :
    wpAny (model (RowW.prog (OpenRow.toRowW (OpenLaw.row PySem.Challenge.rw_rh0159_01))) w) A (exec (.Assign [.Attribute (.Name "self" p1) "is_vararg" p2] (.Constant (.int i) kk p3) p4) (envX cn cs L a ccd cl)) Q E s :=
  plainObj_wpAny_Assign_Attribute (wpAny_Constant_int (nameX_L (s := { s with toks := s.toks + 1 }) F hs (init_is_vararg (s := { s with toks := s.toks + 1 }) F X₀ N hx hne fun h' F' N' => h _ h' _ F' N') hk ks)) (by rfl)
theorem sti_max_stack (F : Fr h₀ L s.heap m) (X₀ : (hd.heap_39 w.params).In h₀) (N : News h₀ L s.heap ((d, protoPre w.params z c k p l o u 15) :: rest)) (hk : cs.kind = .function) (ks : (envX cn cs L a ccd cl).kindOf "self" = some .local) (hs : m "self" = some (.ref x)) (hx : (x, instObj 178 d) ∈ rest) (hne : ∀ q ∈ rest, q.1 ≠ d)
    (h : ∀ (z' : PZ) (h' : Heap) (tk' : Nat), Fr h₀ L h' m → News h₀ L h' ((d, protoPre w.params z' c k p l o u 16) :: rest) → Q .next { s with heap := h', toks := tk' }) :
    wpAny (model (RowW.prog (OpenRow.toRowW (OpenLaw.row PySem.Challenge.rw_rh0159_01))) w) A (exec (.Assign [.Attribute (.Name "self" p1) "max_stack" p2] (.Constant (.int i) kk p3) p4) (envX cn cs L a ccd cl)) Q E s :=
  plainObj_wpAny_Assign_Attribute (wpAny_Constant_int (nameX_L (s := { s with toks := s.toks + 1 }) F hs (init_max_stack (s := { s with toks := s.toks + 1 }) F X₀ N hx hne fun h' F' N' => h _ h' _ F' N') hk ks)) (by rfl)
end


/-! S5 -/
noncomputable def PZ.zero : PZ := ⟨0, 0, 0, 0, 0, 0, 0, 0, 0, 0, 0, 0, 0, 0, 0, 0, 0, 0, 0, 0, 0, 0, 0, 0, 0, 0, 0, 0, 0, 0, 0, 0, 0, 0, 0, #[]⟩
theorem proto_spec {w : World} {loose mean mg mb news}  :
    Calls w loose mean mg mb 178 news [] 5 20 (fun v news' => ∃ (x d a1 a2 a3 a4 a5 a6 : Addr) (z : PZ), v = .ref x ∧
      news' = (a6, listOf #[] 0) :: (a5, listOf #[] 0) :: (a4, listOf #[] 0) :: (a3, listOf #[] 0) :: (a2, listOf #[] 0) :: (a1, listOf #[] 0) :: (x, instObj 178 d) :: (d, protoDict w.params z a1 a2 a3 a4 a5 a6) :: news ∧
      AllLt d news ∧ @LT.lt Nat _ d x ∧ @LT.lt Nat _ x a1 ∧ @LT.lt Nat _ a1 a2 ∧ @LT.lt Nat _ a2 a3 ∧ @LT.lt Nat _ a3 a4 ∧ @LT.lt Nat _ a4 a5 ∧ @LT.lt Nat _ a5 a6) := by
  unfold Calls
  w_top off
  k_with_none
  (k_with "my k_enter" => first | ((refine' code_def ?k1 ?k2 ?k3 ?k4 ?k5 ?kA ?kF ?kK ?k6 ?k7 ?k8 ?k9 ?kB ?_ ?c2 ?c3 ?c4 ?c5; (case kA => exact rfl); (case kF => exact rfl); (case kK => first | exact rfl | assumption); (case k1 => k_asm); (case k2 => k_asm); (case k3 => k_asm); (case k4 => k_asm); (case k5 => k_asm); (case k6 => k_is); (case k7 => k_is); (case k8 => ktr_room); (case k9 => first | k_extra "bind" | exact BindsTo.of_eq rfl | exact binds_K (by k_in) rfl (by k_is) rfl rfl rfl | fail "k_enter: no rule for these arguments"); (case c5 => decide); (case kB => exact locs rfl); (case c2 => exact rfl); (case c3 => exact rfl); (case c4 => exact rfl); k_whole; intro g' L' h' FG' F' N' B' X' T'; (try dsimp only); (try k_lift B'); (try k_fold))))
  (k_with "my omega" => (k_whole; first | with_reducible assumption | k_dflt decide | with_reducible (first | (show @LT.lt Nat _ _ _; first | exact om_r0 (by assumption) | exact om_r1 (by assumption) (by k_dflt (exact rfl)) | exact om_r2 (by assumption) (by k_dflt (exact rfl)) | exact om_d1 (by assumption) (by assumption) (by k_dflt (exact rfl)) | exact om_d2 (by assumption) (by assumption) (by k_dflt (exact rfl)) | exact om_nlt (by assumption) (by k_dflt (exact rfl)) | exact om_meas (by assumption)) | (show @LE.le Nat _ _ _; first | exact om_le (by assumption) (by k_dflt (exact rfl)) | exact om_len (by assumption) (by assumption) (by k_dflt (exact rfl)) | exact om_len3 (by assumption) (by assumption) (by assumption) (by k_dflt (exact rfl)) | exact om_l16 (by assumption) (by assumption) (by assumption) (by assumption)) | (show @LT.lt Int _ _ _; first | exact om_cast (by assumption) | exact om_caste (by assumption) (by assumption) | exact om_eqlt (by assumption) (by assumption) | exact om_clen (by assumption) (by assumption) (by k_dflt decide) | exact om_ilen (by assumption) (by assumption) (by k_dflt decide) | exact om_cle (by assumption) (by k_dflt decide) | exact om_ilt (by assumption) (by k_dflt decide) | exact om_ile (by assumption) (by k_dflt decide) | exact om_igt (by assumption) (by k_dflt decide) | exact om_k3 (by assumption) (by assumption) | exact om_k1 (by assumption) (by assumption) (by assumption) | exact om_k2 (by assumption) (by assumption) (by assumption) (by assumption) (by k_dflt decide) | exact om_far2 (by assumption) (by assumption)) | (show @LE.le Int _ _ _; first | exact Int.natCast_nonneg _ | exact om_ige (by assumption) (by k_dflt decide) | exact om_k0 (by assumption) | exact om_s (by assumption) | exact om_p1 (by assumption) | exact om_k4 (by assumption) (by assumption) (by assumption) (by assumption) (by assumption) | exact om_far1 (by assumption) (by assumption) (by assumption)) | (show @Ne Nat _ _; first | exact om_gt1 (by assumption) | exact om_lt1 (by assumption) | exact om_gt2 (by assumption) | exact om_lt2 (by assumption) | exact om_gt3 (by assumption) | exact om_lt3 (by assumption) | exact om_c2 (by assumption) | exact om_c2' (by assumption) | exact om_c3 (by assumption) | exact om_c3' (by assumption) | exact om_c4 (by assumption) | exact om_c4' (by assumption) | exact om_s1 _ | exact Ne.symm (om_s1 _) | exact om_s2 _ | exact Ne.symm (om_s2 _) | exact om_s3 _ | exact Ne.symm (om_s3 _)) | (show @Eq _ _ _; first | exact om_tn (by assumption) (by assumption) | exact om_sc (by assumption)) | (show Not _; first | exact om_nz (by assumption)))))
  k_fill
  intro dp un gd cn cs a ccd cl outer A₀ base h₀ L m s Q E B F X N T hk hdp hun hret
  k_with_none
  (k_with "my k_enter" => first | ((refine' code_def ?k1 ?k2 ?k3 ?k4 ?k5 ?kA ?kF ?kK ?k6 ?k7 ?k8 ?k9 ?kB ?_ ?c2 ?c3 ?c4 ?c5; (case kA => exact rfl); (case kF => exact rfl); (case kK => first | exact rfl | assumption); (case k1 => k_asm); (case k2 => k_asm); (case k3 => k_asm); (case k4 => k_asm); (case k5 => k_asm); (case k6 => k_is); (case k7 => k_is); (case k8 => ktr_room); (case k9 => first | k_extra "bind" | exact BindsTo.of_eq rfl | exact binds_K (by k_in) rfl (by k_is) rfl rfl rfl | fail "k_enter: no rule for these arguments"); (case c5 => decide); (case kB => exact locs rfl); (case c2 => exact rfl); (case c3 => exact rfl); (case c4 => exact rfl); k_whole; intro g' L' h' FG' F' N' B' X' T'; (try dsimp only); (try k_lift B'); (try k_fold))))
  (k_with "my omega" => (k_whole; first | with_reducible assumption | k_dflt decide | with_reducible (first | (show @LT.lt Nat _ _ _; first | exact om_r0 (by assumption) | exact om_r1 (by assumption) (by k_dflt (exact rfl)) | exact om_r2 (by assumption) (by k_dflt (exact rfl)) | exact om_d1 (by assumption) (by assumption) (by k_dflt (exact rfl)) | exact om_d2 (by assumption) (by assumption) (by k_dflt (exact rfl)) | exact om_nlt (by assumption) (by k_dflt (exact rfl)) | exact om_meas (by assumption)) | (show @LE.le Nat _ _ _; first | exact om_le (by assumption) (by k_dflt (exact rfl)) | exact om_len (by assumption) (by assumption) (by k_dflt (exact rfl)) | exact om_len3 (by assumption) (by assumption) (by assumption) (by k_dflt (exact rfl)) | exact om_l16 (by assumption) (by assumption) (by assumption) (by assumption)) | (show @LT.lt Int _ _ _; first | exact om_cast (by assumption) | exact om_caste (by assumption) (by assumption) | exact om_eqlt (by assumption) (by assumption) | exact om_clen (by assumption) (by assumption) (by k_dflt decide) | exact om_ilen (by assumption) (by assumption) (by k_dflt decide) | exact om_cle (by assumption) (by k_dflt decide) | exact om_ilt (by assumption) (by k_dflt decide) | exact om_ile (by assumption) (by k_dflt decide) | exact om_igt (by assumption) (by k_dflt decide) | exact om_k3 (by assumption) (by assumption) | exact om_k1 (by assumption) (by assumption) (by assumption) | exact om_k2 (by assumption) (by assumption) (by assumption) (by assumption) (by k_dflt decide) | exact om_far2 (by assumption) (by assumption)) | (show @LE.le Int _ _ _; first | exact Int.natCast_nonneg _ | exact om_ige (by assumption) (by k_dflt decide) | exact om_k0 (by assumption) | exact om_s (by assumption) | exact om_p1 (by assumption) | exact om_k4 (by assumption) (by assumption) (by assumption) (by assumption) (by assumption) | exact om_far1 (by assumption) (by assumption) (by assumption)) | (show @Ne Nat _ _; first | exact om_gt1 (by assumption) | exact om_lt1 (by assumption) | exact om_gt2 (by assumption) | exact om_lt2 (by assumption) | exact om_gt3 (by assumption) | exact om_lt3 (by assumption) | exact om_c2 (by assumption) | exact om_c2' (by assumption) | exact om_c3 (by assumption) | exact om_c3' (by assumption) | exact om_c4 (by assumption) | exact om_c4' (by assumption) | exact om_s1 _ | exact Ne.symm (om_s1 _) | exact om_s2 _ | exact Ne.symm (om_s2 _) | exact om_s3 _ | exact Ne.symm (om_s3 _)) | (show @Eq _ _ _; first | exact om_tn (by assumption) (by assumption) | exact om_sc (by assumption)) | (show Not _; first | exact om_nz (by assumption)))))
  (k_with "bind" => first | exact BindsTo.of_eq (binds := [("self", _)]) rfl | exact BindsTo.of_eq (binds := [("self", _), ("number", _), ("size", _)]) rfl)
  refine' call_cls ?k1 ?k2 ?k3 ?k4 ?k5 ?k6 ?_
  case k1 => exact F
  case k2 => exact X
  case k3 => exact N
  case k4 => k_is
  case k5 => k_is
  case k6 => k_is
  intro x d h1 F1 N1 lt1 lt2
  have hxd : ∀ q ∈ (x, instObj 178 d) :: news, q.1 ≠ d := List.forall_mem_cons.mpr ⟨Nat.ne_of_gt lt2, fun q hq => Nat.ne_of_lt (lt1 q hq)⟩
  have N0 : News h₀ L h1 ((d, protoPre w.params PZ.zero 0 0 0 0 0 0 0) :: (x, instObj 178 d) :: news) := kst_newsOf N1 (mem_first (l1 := [(x, instObj 178 d)]))
  clear N1
  k_dflt k_enter
  iterate 17 (first | (k_unfold; (try dsimp only)) | walk1 | (dsimp only; walk1))
  (rename Fr _ _ _ _ => Fa)
  (rename News _ _ _ _ => Na)
  (rename Frag.In _ _ => X0)
  have hxm : (x, instObj 178 d) ∈ (x, instObj 178 d) :: news := .head _
  refine wpAny_execs_cons (sti_number Fa X0 Na rfl rfl rfl hxm hxd rfl rfl fun z1 h2 t2 Fb Nb => ?_)
  clear Fa Na
  refine wpAny_execs_cons (sti_mark Fb X0 Nb rfl rfl rfl hxm hxd fun z2 h3 t3 Fc Nc => ?_)
  clear Fb Nb
  refine wpAny_execs_cons (sti_size Fc X0 Nc rfl rfl rfl hxm hxd rfl rfl fun z3 h4 t4 Fd Nd => ?_)
  clear Fc Nc
  iterate 3 (first | (k_unfold; (try dsimp only)) | walk1 | (dsimp only; walk1) | (leave1; (try dsimp only)))
  (rename Fr _ _ _ _ => G0)
  (rename News _ _ _ _ => M0)
  (rename Frag.In _ _ => X1)
  refine wpAny_execs_cons (sti_code G0 X1 M0 rfl rfl rfl hxm hxd fun D1 rest1 y1 g1 u1 G1 M1 hr1 hm1 hne1 hl1 => ?_)
  clear G0 M0
  have hx1 := hr1 _ hxm
  refine wpAny_execs_cons (sti_constants G1 X1 M1 rfl rfl rfl hx1 hne1 fun D2 rest2 y2 g2 u2 G2 M2 hr2 hm2 hne2 hl2 => ?_)
  clear G1 M1
  have hx2 := hr2 _ hx1
  refine wpAny_execs_cons (sti_protos G2 X1 M2 rfl rfl rfl hx2 hne2 fun D3 rest3 y3 g3 u3 G3 M3 hr3 hm3 hne3 hl3 => ?_)
  clear G2 M2
  have hx3 := hr3 _ hx2
  refine wpAny_execs_cons (sti_line_info G3 X1 M3 rfl rfl rfl hx3 hne3 fun D4 rest4 y4 g4 u4 G4 M4 hr4 hm4 hne4 hl4 => ?_)
  clear G3 M3
  have hx4 := hr4 _ hx3
  refine wpAny_execs_cons (sti_locals G4 X1 M4 rfl rfl rfl hx4 hne4 fun D5 rest5 y5 g5 u5 G5 M5 hr5 hm5 hne5 hl5 => ?_)
  clear G4 M4
  have hx5 := hr5 _ hx4
  refine wpAny_execs_cons (sti_upvalue_names G5 X1 M5 rfl rfl rfl hx5 hne5 fun D6 rest6 y6 g6 u6 G6 M6 hr6 hm6 hne6 hl6 => ?_)
  clear G5 M5
  have hx6 := hr6 _ hx5
  refine wpAny_execs_cons (sti_source G6 X1 M6 rfl rfl rfl hx6 hne6 fun y7 g7 u7 G7 M7 => ?_)
  clear G6 M6
  refine wpAny_execs_cons (sti_line_defined G7 X1 M7 rfl rfl rfl hx6 hne6 fun y8 g8 u8 G8 M8 => ?_)
  clear G7 M7
  refine wpAny_execs_cons (sti_last_line G8 X1 M8 rfl rfl rfl hx6 hne6 fun y9 g9 u9 G9 M9 => ?_)
  clear G8 M8
  refine wpAny_execs_cons (sti_upvalue_count G9 X1 M9 rfl rfl rfl hx6 hne6 fun y10 g10 u10 G10 M10 => ?_)
  clear G9 M9
  refine wpAny_execs_cons (sti_param_count G10 X1 M10 rfl rfl rfl hx6 hne6 fun y11 g11 u11 G11 M11 => ?_)
  clear G10 M10
  refine wpAny_execs_cons (sti_is_vararg G11 X1 M11 rfl rfl rfl hx6 hne6 fun y12 g12 u12 G12 M12 => ?_)
  clear G11 M11
  refine wpAny_execs_cons (sti_max_stack G12 X1 M12 rfl rfl rfl hx6 hne6 fun y13 g13 u13 G13 M13 => ?_)
  clear G12 M12
  (repeat' (first | (k_unfold; (try dsimp only)) | walk1 | (dsimp only; walk1) | (leave1; (try dsimp only))))
  k_with_none
  (k_with "my k_enter" => first | ((refine' code_def ?k1 ?k2 ?k3 ?k4 ?k5 ?kA ?kF ?kK ?k6 ?k7 ?k8 ?k9 ?kB ?_ ?c2 ?c3 ?c4 ?c5; (case kA => exact rfl); (case kF => exact rfl); (case kK => first | exact rfl | assumption); (case k1 => k_asm); (case k2 => k_asm); (case k3 => k_asm); (case k4 => k_asm); (case k5 => k_asm); (case k6 => k_is); (case k7 => k_is); (case k8 => ktr_room); (case k9 => first | k_extra "bind" | exact BindsTo.of_eq rfl | exact binds_K (by k_in) rfl (by k_is) rfl rfl rfl | fail "k_enter: no rule for these arguments"); (case c5 => decide); (case kB => exact locs rfl); (case c2 => exact rfl); (case c3 => exact rfl); (case c4 => exact rfl); k_whole; intro g' L' h' FG' F' N' B' X' T'; (try dsimp only); (try k_lift B'); (try k_fold))))
  (k_with "my omega" => (k_whole; first | with_reducible assumption | k_dflt decide | with_reducible (first | (show @LT.lt Nat _ _ _; first | exact om_r0 (by assumption) | exact om_r1 (by assumption) (by k_dflt (exact rfl)) | exact om_r2 (by assumption) (by k_dflt (exact rfl)) | exact om_d1 (by assumption) (by assumption) (by k_dflt (exact rfl)) | exact om_d2 (by assumption) (by assumption) (by k_dflt (exact rfl)) | exact om_nlt (by assumption) (by k_dflt (exact rfl)) | exact om_meas (by assumption)) | (show @LE.le Nat _ _ _; first | exact om_le (by assumption) (by k_dflt (exact rfl)) | exact om_len (by assumption) (by assumption) (by k_dflt (exact rfl)) | exact om_len3 (by assumption) (by assumption) (by assumption) (by k_dflt (exact rfl)) | exact om_l16 (by assumption) (by assumption) (by assumption) (by assumption)) | (show @LT.lt Int _ _ _; first | exact om_cast (by assumption) | exact om_caste (by assumption) (by assumption) | exact om_eqlt (by assumption) (by assumption) | exact om_clen (by assumption) (by assumption) (by k_dflt decide) | exact om_ilen (by assumption) (by assumption) (by k_dflt decide) | exact om_cle (by assumption) (by k_dflt decide) | exact om_ilt (by assumption) (by k_dflt decide) | exact om_ile (by assumption) (by k_dflt decide) | exact om_igt (by assumption) (by k_dflt decide) | exact om_k3 (by assumption) (by assumption) | exact om_k1 (by assumption) (by assumption) (by assumption) | exact om_k2 (by assumption) (by assumption) (by assumption) (by assumption) (by k_dflt decide) | exact om_far2 (by assumption) (by assumption)) | (show @LE.le Int _ _ _; first | exact Int.natCast_nonneg _ | exact om_ige (by assumption) (by k_dflt decide) | exact om_k0 (by assumption) | exact om_s (by assumption) | exact om_p1 (by assumption) | exact om_k4 (by assumption) (by assumption) (by assumption) (by assumption) (by assumption) | exact om_far1 (by assumption) (by assumption) (by assumption)) | (show @Ne Nat _ _; first | exact om_gt1 (by assumption) | exact om_lt1 (by assumption) | exact om_gt2 (by assumption) | exact om_lt2 (by assumption) | exact om_gt3 (by assumption) | exact om_lt3 (by assumption) | exact om_c2 (by assumption) | exact om_c2' (by assumption) | exact om_c3 (by assumption) | exact om_c3' (by assumption) | exact om_c4 (by assumption) | exact om_c4' (by assumption) | exact om_s1 _ | exact Ne.symm (om_s1 _) | exact om_s2 _ | exact Ne.symm (om_s2 _) | exact om_s3 _ | exact Ne.symm (om_s3 _)) | (show @Eq _ _ _; first | exact om_tn (by assumption) (by assumption) | exact om_sc (by assumption)) | (show Not _; first | exact om_nz (by assumption)))))
  refine' hret _ _ _ _ (by k_asm) ?N ⟨x, d, D1, D2, D3, D4, D5, D6, _, rfl, rfl, allLt_of lt1, lt2, hl1 _ hxm, hl2 _ hm1, hl3 _ hm2, hl4 _ hm3, hl5 _ hm4, hl6 _ hm5⟩
  case N => exact kst_newsOf (by k_asm) (List.forall_mem_cons.mpr ⟨.tail _ hm6, List.forall_mem_cons.mpr ⟨.tail _ (hr6 _ hm5), List.forall_mem_cons.mpr ⟨.tail _ (hr6 _ (hr5 _ hm4)), List.forall_mem_cons.mpr ⟨.tail _ (hr6 _ (hr5 _ (hr4 _ hm3))), List.forall_mem_cons.mpr ⟨.tail _ (hr6 _ (hr5 _ (hr4 _ (hr3 _ hm2)))), List.forall_mem_cons.mpr ⟨.tail _ (hr6 _ (hr5 _ (hr4 _ (hr3 _ (hr2 _ hm1))))), List.forall_mem_cons.mpr ⟨.tail _ hx6, List.forall_mem_cons.mpr ⟨.head _, fun q hq => .tail _ (hr6 _ (hr5 _ (hr4 _ (hr3 _ (hr2 _ (hr1 _ (List.Mem.tail _ hq)))))))⟩⟩⟩⟩⟩⟩⟩⟩)


/-! TP -/
theorem use_get_sbx {w : World} {loose : List Str} {mean : ExcName → Option Value} {mg mb : Str → Option Value} {news : List (Addr × Obj)} {dp un : Nat} {gd : Option (List Code)} {cn : Str} {cs : Scope} {a : Addr} {ccd : Value} {cl : List (Str × Addr)} {outer : List Env} {A₀ : Around} {base h₀ : Heap} {L : Addr} {m : Str → Option Value} {s : Shared} {Q E : Value → Shared → Prop} (x : Int) (t : Tok) (h0 : 0 ≤ x) (h1 : x < 4294967296)
    (F : Fr h₀ L s.heap m) (Bl : Below A₀ base outer h₀) (X : (hd.heap_39 w.params).In h₀) (N : News h₀ L s.heap news) (T : Top hd.view_39 loose mean mg mb h₀) (hk : cs.kind = .function) (hdp : dp + 4 < recursionLimit) (hun : un + 20 < cLine)
    (ret : ∀ t', ∀ h' tk', Fr h₀ L h' m → News h₀ L h' news → Q (.int (sbxOf x) t') { s with heap := h', toks := tk' }) :
    wpAny (model (RowW.prog (OpenRow.toRowW (OpenLaw.row PySem.Challenge.rw_rh0159_01))) w) (ktrTop dp un gd cn cs L a ccd cl outer) (call (.ref 84) [.int x t]) Q E s :=
  Calls.use (get_sbx_spec x t h0 h1 : Calls w loose mean mg mb 84 news _ 4 20 _) Bl F X N T hk hdp hun fun v n h' tk' F' N' r => by
    obtain ⟨⟨t', rfl⟩, rfl⟩ := r
    exact ret t' h' tk' F' N'
theorem target_spec {w : World} {loose mean mg mb news} {P dP c k p l o u : Addr} {z : PZ} {vs : List Value} {cs : List Int} {n : Nat} (pc : Int) (t : Tok)
    (hP : (P, instObj 178 dP) ∈ news) (hD : (dP, protoDict w.params z c k p l o u) ∈ news) (hC : (c, listOf vs.toArray n) ∈ news) (hI : IntsAre vs cs) (h0 : 0 ≤ pc) (h1 : pc < cs.length) (hlen : cs.length ≤ 100)
    (hx0 : 0 ≤ cs.getD pc.toNat 0) (hx1 : cs.getD pc.toNat 0 < 4294967296) :
    Calls w loose mean mg mb 201 news [.ref P, .int pc t] 8 40 (fun v news' => (∃ t', v = .int (pc + 1 + sbxOf (cs.getD pc.toNat 0)) t') ∧ news' = news) := by
  unfold Calls
  w_top off
  k_with_none
  (k_with "my k_enter" => first | ((refine' code_def ?k1 ?k2 ?k3 ?k4 ?k5 ?kA ?kF ?kK ?k6 ?k7 ?k8 ?k9 ?kB ?_ ?c2 ?c3 ?c4 ?c5; (case kA => exact rfl); (case kF => exact rfl); (case kK => first | exact rfl | assumption); (case k1 => k_asm); (case k2 => k_asm); (case k3 => k_asm); (case k4 => k_asm); (case k5 => k_asm); (case k6 => k_is); (case k7 => k_is); (case k8 => ktr_room); (case k9 => first | k_extra "bind" | exact BindsTo.of_eq rfl | exact binds_K (by k_in) rfl (by k_is) rfl rfl rfl | fail "k_enter: no rule for these arguments"); (case c5 => decide); (case kB => exact locs rfl); (case c2 => exact rfl); (case c3 => exact rfl); (case c4 => exact rfl); k_whole; intro g' L' h' FG' F' N' B' X' T'; (try dsimp only); (try k_lift B'); (try k_fold))))
  (k_with "my ite" => first | ((first | (refine ite_neg Bool.false_ne_true ?_) | (refine ite_pos rfl ?_) | (refine ite_neg (by (try simp only [beq_iff_eq, bne_iff_ne, ne_eq, decide_eq_true_eq, Bool.not_eq_true', decide_eq_false_iff_not, beq_eq_false_iff_ne, Bool.and_eq_true, Bool.or_eq_true]); first | assumption | omega) ?_) | (refine ite_pos (by (try simp only [beq_iff_eq, bne_iff_ne, ne_eq, decide_eq_true_eq, Bool.not_eq_true', decide_eq_false_iff_not, beq_eq_false_iff_ne, Bool.and_eq_true, Bool.or_eq_true]); first | assumption | omega) ?_))))
  (k_with "my storeName" => first | ((k_here; k_dflt (refine' store_let ?F ?N ?_ ?a ?b; (case F => k_asm); (case N => k_asm); (case a => rfl); (case b => rfl); k_whole; intro h' m' F' N'; (try k_sweep)))))
  (k_with "my k_mem" => first | (assumption))
  (k_with "my news_mem" => first | (k_mem))
  (k_with "my omega" => (k_whole; first | with_reducible assumption | k_dflt decide | with_reducible (first | (show @LT.lt Nat _ _ _; first | exact om_r0 (by assumption) | exact om_r1 (by assumption) (by k_dflt (exact rfl)) | exact om_r2 (by assumption) (by k_dflt (exact rfl)) | exact om_d1 (by assumption) (by assumption) (by k_dflt (exact rfl)) | exact om_d2 (by assumption) (by assumption) (by k_dflt (exact rfl)) | exact om_nlt (by assumption) (by k_dflt (exact rfl)) | exact om_meas (by assumption)) | (show @LE.le Nat _ _ _; first | exact om_le (by assumption) (by k_dflt (exact rfl)) | exact om_len (by assumption) (by assumption) (by k_dflt (exact rfl)) | exact om_len3 (by assumption) (by assumption) (by assumption) (by k_dflt (exact rfl)) | exact om_l16 (by assumption) (by assumption) (by assumption) (by assumption)) | (show @LT.lt Int _ _ _; first | exact om_cast (by assumption) | exact om_caste (by assumption) (by assumption) | exact om_eqlt (by assumption) (by assumption) | exact om_clen (by assumption) (by assumption) (by k_dflt decide) | exact om_ilen (by assumption) (by assumption) (by k_dflt decide) | exact om_cle (by assumption) (by k_dflt decide) | exact om_ilt (by assumption) (by k_dflt decide) | exact om_ile (by assumption) (by k_dflt decide) | exact om_igt (by assumption) (by k_dflt decide) | exact om_k3 (by assumption) (by assumption) | exact om_k1 (by assumption) (by assumption) (by assumption) | exact om_k2 (by assumption) (by assumption) (by assumption) (by assumption) (by k_dflt decide) | exact om_far2 (by assumption) (by assumption)) | (show @LE.le Int _ _ _; first | exact Int.natCast_nonneg _ | exact om_ige (by assumption) (by k_dflt decide) | exact om_k0 (by assumption) | exact om_s (by assumption) | exact om_p1 (by assumption) | exact om_k4 (by assumption) (by assumption) (by assumption) (by assumption) (by assumption) | exact om_far1 (by assumption) (by assumption) (by assumption)) | (show @Ne Nat _ _; first | exact om_gt1 (by assumption) | exact om_lt1 (by assumption) | exact om_gt2 (by assumption) | exact om_lt2 (by assumption) | exact om_gt3 (by assumption) | exact om_lt3 (by assumption) | exact om_c2 (by assumption) | exact om_c2' (by assumption) | exact om_c3 (by assumption) | exact om_c3' (by assumption) | exact om_c4 (by assumption) | exact om_c4' (by assumption) | exact om_s1 _ | exact Ne.symm (om_s1 _) | exact om_s2 _ | exact Ne.symm (om_s2 _) | exact om_s3 _ | exact Ne.symm (om_s3 _)) | (show @Eq _ _ _; first | exact om_tn (by assumption) (by assumption) | exact om_sc (by assumption)) | (show Not _; first | exact om_nz (by assumption)))))
  k_fill
  intro dp un gd cn cs a ccd cl outer A₀ base h₀ L m s Q E B F X N T hk hdp hun hret
  k_with_none
  (k_with "my k_enter" => first | ((refine' code_def ?k1 ?k2 ?k3 ?k4 ?k5 ?kA ?kF ?kK ?k6 ?k7 ?k8 ?k9 ?kB ?_ ?c2 ?c3 ?c4 ?c5; (case kA => exact rfl); (case kF => exact rfl); (case kK => first | exact rfl | assumption); (case k1 => k_asm); (case k2 => k_asm); (case k3 => k_asm); (case k4 => k_asm); (case k5 => k_asm); (case k6 => k_is); (case k7 => k_is); (case k8 => ktr_room); (case k9 => first | k_extra "bind" | exact BindsTo.of_eq rfl | exact binds_K (by k_in) rfl (by k_is) rfl rfl rfl | fail "k_enter: no rule for these arguments"); (case c5 => decide); (case kB => exact locs rfl); (case c2 => exact rfl); (case c3 => exact rfl); (case c4 => exact rfl); k_whole; intro g' L' h' FG' F' N' B' X' T'; (try dsimp only); (try k_lift B'); (try k_fold))))
  (k_with "my ite" => first | ((first | (refine ite_neg Bool.false_ne_true ?_) | (refine ite_pos rfl ?_) | (refine ite_neg (by (try simp only [beq_iff_eq, bne_iff_ne, ne_eq, decide_eq_true_eq, Bool.not_eq_true', decide_eq_false_iff_not, beq_eq_false_iff_ne, Bool.and_eq_true, Bool.or_eq_true]); first | assumption | omega) ?_) | (refine ite_pos (by (try simp only [beq_iff_eq, bne_iff_ne, ne_eq, decide_eq_true_eq, Bool.not_eq_true', decide_eq_false_iff_not, beq_eq_false_iff_ne, Bool.and_eq_true, Bool.or_eq_true]); first | assumption | omega) ?_))))
  (k_with "my storeName" => first | ((k_here; k_dflt (refine' store_let ?F ?N ?_ ?a ?b; (case F => k_asm); (case N => k_asm); (case a => rfl); (case b => rfl); k_whole; intro h' m' F' N'; (try k_sweep)))))
  (k_with "my k_mem" => first | (assumption))
  (k_with "my news_mem" => first | (k_mem))
  (k_with "my omega" => (k_whole; first | with_reducible assumption | k_dflt decide | with_reducible (first | (show @LT.lt Nat _ _ _; first | exact om_r0 (by assumption) | exact om_r1 (by assumption) (by k_dflt (exact rfl)) | exact om_r2 (by assumption) (by k_dflt (exact rfl)) | exact om_d1 (by assumption) (by assumption) (by k_dflt (exact rfl)) | exact om_d2 (by assumption) (by assumption) (by k_dflt (exact rfl)) | exact om_nlt (by assumption) (by k_dflt (exact rfl)) | exact om_meas (by assumption)) | (show @LE.le Nat _ _ _; first | exact om_le (by assumption) (by k_dflt (exact rfl)) | exact om_len (by assumption) (by assumption) (by k_dflt (exact rfl)) | exact om_len3 (by assumption) (by assumption) (by assumption) (by k_dflt (exact rfl)) | exact om_l16 (by assumption) (by assumption) (by assumption) (by assumption)) | (show @LT.lt Int _ _ _; first | exact om_cast (by assumption) | exact om_caste (by assumption) (by assumption) | exact om_eqlt (by assumption) (by assumption) | exact om_clen (by assumption) (by assumption) (by k_dflt decide) | exact om_ilen (by assumption) (by assumption) (by k_dflt decide) | exact om_cle (by assumption) (by k_dflt decide) | exact om_ilt (by assumption) (by k_dflt decide) | exact om_ile (by assumption) (by k_dflt decide) | exact om_igt (by assumption) (by k_dflt decide) | exact om_k3 (by assumption) (by assumption) | exact om_k1 (by assumption) (by assumption) (by assumption) | exact om_k2 (by assumption) (by assumption) (by assumption) (by assumption) (by k_dflt decide) | exact om_far2 (by assumption) (by assumption)) | (show @LE.le Int _ _ _; first | exact Int.natCast_nonneg _ | exact om_ige (by assumption) (by k_dflt decide) | exact om_k0 (by assumption) | exact om_s (by assumption) | exact om_p1 (by assumption) | exact om_k4 (by assumption) (by assumption) (by assumption) (by assumption) (by assumption) | exact om_far1 (by assumption) (by assumption) (by assumption)) | (show @Ne Nat _ _; first | exact om_gt1 (by assumption) | exact om_lt1 (by assumption) | exact om_gt2 (by assumption) | exact om_lt2 (by assumption) | exact om_gt3 (by assumption) | exact om_lt3 (by assumption) | exact om_c2 (by assumption) | exact om_c2' (by assumption) | exact om_c3 (by assumption) | exact om_c3' (by assumption) | exact om_c4 (by assumption) | exact om_c4' (by assumption) | exact om_s1 _ | exact Ne.symm (om_s1 _) | exact om_s2 _ | exact Ne.symm (om_s2 _) | exact om_s3 _ | exact Ne.symm (om_s3 _)) | (show @Eq _ _ _; first | exact om_tn (by assumption) (by assumption) | exact om_sc (by assumption)) | (show Not _; first | exact om_nz (by assumption)))))
  (k_with "bind" => first | exact BindsTo.of_eq (binds := [("p", _), ("pc", _)]) rfl | exact BindsTo.of_eq (binds := [("p", _)]) rfl)
  (k_with "getAttr ref" => first | (k_here; (with_reducible show wpAny _ _ (getAttr (Value.ref _) (PySem.Str.ofString "code") _) _ _ _); k_dflt (refine' get_code ?k1 ?k2 ?k3 ?k4 ?k5 ?_; (case k1 => k_asm); (case k2 => k_asm); (case k3 => k_asm); (case k4 => k_mem); (case k5 => k_mem); k_whole)))
  (k_with "call ref" => first | (k_here; (with_reducible show wpAny _ _ (call (Value.ref 84) _) _ _ _); k_dflt (refine' use_get_sbx _ _ ?p1 ?p2 ?k2 ?k1 ?k3 ?k4 ?k5 ?kK ?kd ?ku ?_; (case k1 => k_asm); (case k2 => k_asm); (case k3 => k_asm); (case k4 => k_asm); (case k5 => k_asm); (case kK => first | exact rfl | assumption); (case kd => ktr_room); (case ku => ktr_units); (case p1 => first | assumption | omega | exact (GoodWords.at (by assumption) (by omega) (by omega)).1); (case p2 => first | assumption | omega | exact (GoodWords.at (by assumption) (by omega) (by omega)).2.1); k_whole); intro t9 h9 tk9 F9 N9; (try dsimp only); (try k_sweep)))
  k_steps
  exact hret _ _ _ _ (by k_asm) (by k_asm) ⟨⟨_, rfl⟩, rfl⟩
theorem words_of_spec {w : World} {loose mean mg mb news} {P dP c k p l o u : Addr} {z : PZ} {vs : List Value} {cs : List Int} {n : Nat} (pc : Int) (t : Tok)
    (hP : (P, instObj 178 dP) ∈ news) (hD : (dP, protoDict w.params z c k p l o u) ∈ news) (hC : (c, listOf vs.toArray n) ∈ news) (hI : IntsAre vs cs) (h0 : 0 ≤ pc) (h1 : pc < cs.length) (hlen : cs.length ≤ 100)
    (hx0 : 0 ≤ cs.getD pc.toNat 0) (hx1 : cs.getD pc.toNat 0 < 4294967296) (ho36 : opOf (cs.getD pc.toNat 0) ≠ 36) (ho34 : opOf (cs.getD pc.toNat 0) ≠ 34) :
    Calls w loose mean mg mb 187 news [.ref P, .int pc t] 8 40 (fun v news' => (∃ t', v = .int 1 t') ∧ news' = news) := by
  unfold Calls
  w_top off
  k_with_none
  (k_with "my k_enter" => first | ((refine' code_def ?k1 ?k2 ?k3 ?k4 ?k5 ?kA ?kF ?kK ?k6 ?k7 ?k8 ?k9 ?kB ?_ ?c2 ?c3 ?c4 ?c5; (case kA => exact rfl); (case kF => exact rfl); (case kK => first | exact rfl | assumption); (case k1 => k_asm); (case k2 => k_asm); (case k3 => k_asm); (case k4 => k_asm); (case k5 => k_asm); (case k6 => k_is); (case k7 => k_is); (case k8 => ktr_room); (case k9 => first | k_extra "bind" | exact BindsTo.of_eq rfl | exact binds_K (by k_in) rfl (by k_is) rfl rfl rfl | fail "k_enter: no rule for these arguments"); (case c5 => decide); (case kB => exact locs rfl); (case c2 => exact rfl); (case c3 => exact rfl); (case c4 => exact rfl); k_whole; intro g' L' h' FG' F' N' B' X' T'; (try dsimp only); (try k_lift B'); (try k_fold))))
  (k_with "my ite" => first | ((first | (refine ite_neg Bool.false_ne_true ?_) | (refine ite_pos rfl ?_) | (refine ite_neg (by (try simp only [beq_iff_eq, bne_iff_ne, ne_eq, decide_eq_true_eq, Bool.not_eq_true', decide_eq_false_iff_not, beq_eq_false_iff_ne, Bool.and_eq_true, Bool.or_eq_true]); first | assumption | omega) ?_) | (refine ite_pos (by (try simp only [beq_iff_eq, bne_iff_ne, ne_eq, decide_eq_true_eq, Bool.not_eq_true', decide_eq_false_iff_not, beq_eq_false_iff_ne, Bool.and_eq_true, Bool.or_eq_true]); first | assumption | omega) ?_))))
  (k_with "my storeName" => first | ((k_here; k_dflt (refine' store_let ?F ?N ?_ ?a ?b; (case F => k_asm); (case N => k_asm); (case a => rfl); (case b => rfl); k_whole; intro h' m' F' N'; (try k_sweep)))))
  (k_with "my k_mem" => first | (assumption))
  (k_with "my news_mem" => first | (k_mem))
  (k_with "my omega" => (k_whole; first | with_reducible assumption | k_dflt decide | with_reducible (first | (show @LT.lt Nat _ _ _; first | exact om_r0 (by assumption) | exact om_r1 (by assumption) (by k_dflt (exact rfl)) | exact om_r2 (by assumption) (by k_dflt (exact rfl)) | exact om_d1 (by assumption) (by assumption) (by k_dflt (exact rfl)) | exact om_d2 (by assumption) (by assumption) (by k_dflt (exact rfl)) | exact om_nlt (by assumption) (by k_dflt (exact rfl)) | exact om_meas (by assumption)) | (show @LE.le Nat _ _ _; first | exact om_le (by assumption) (by k_dflt (exact rfl)) | exact om_len (by assumption) (by assumption) (by k_dflt (exact rfl)) | exact om_len3 (by assumption) (by assumption) (by assumption) (by k_dflt (exact rfl)) | exact om_l16 (by assumption) (by assumption) (by assumption) (by assumption)) | (show @LT.lt Int _ _ _; first | exact om_cast (by assumption) | exact om_caste (by assumption) (by assumption) | exact om_eqlt (by assumption) (by assumption) | exact om_clen (by assumption) (by assumption) (by k_dflt decide) | exact om_ilen (by assumption) (by assumption) (by k_dflt decide) | exact om_cle (by assumption) (by k_dflt decide) | exact om_ilt (by assumption) (by k_dflt decide) | exact om_ile (by assumption) (by k_dflt decide) | exact om_igt (by assumption) (by k_dflt decide) | exact om_k3 (by assumption) (by assumption) | exact om_k1 (by assumption) (by assumption) (by assumption) | exact om_k2 (by assumption) (by assumption) (by assumption) (by assumption) (by k_dflt decide) | exact om_far2 (by assumption) (by assumption)) | (show @LE.le Int _ _ _; first | exact Int.natCast_nonneg _ | exact om_ige (by assumption) (by k_dflt decide) | exact om_k0 (by assumption) | exact om_s (by assumption) | exact om_p1 (by assumption) | exact om_k4 (by assumption) (by assumption) (by assumption) (by assumption) (by assumption) | exact om_far1 (by assumption) (by assumption) (by assumption)) | (show @Ne Nat _ _; first | exact om_gt1 (by assumption) | exact om_lt1 (by assumption) | exact om_gt2 (by assumption) | exact om_lt2 (by assumption) | exact om_gt3 (by assumption) | exact om_lt3 (by assumption) | exact om_c2 (by assumption) | exact om_c2' (by assumption) | exact om_c3 (by assumption) | exact om_c3' (by assumption) | exact om_c4 (by assumption) | exact om_c4' (by assumption) | exact om_s1 _ | exact Ne.symm (om_s1 _) | exact om_s2 _ | exact Ne.symm (om_s2 _) | exact om_s3 _ | exact Ne.symm (om_s3 _)) | (show @Eq _ _ _; first | exact om_tn (by assumption) (by assumption) | exact om_sc (by assumption)) | (show Not _; first | exact om_nz (by assumption)))))
  k_fill
  intro dp un gd cn cs a ccd cl outer A₀ base h₀ L m s Q E B F X N T hk hdp hun hret
  k_with_none
  (k_with "my k_enter" => first | ((refine' code_def ?k1 ?k2 ?k3 ?k4 ?k5 ?kA ?kF ?kK ?k6 ?k7 ?k8 ?k9 ?kB ?_ ?c2 ?c3 ?c4 ?c5; (case kA => exact rfl); (case kF => exact rfl); (case kK => first | exact rfl | assumption); (case k1 => k_asm); (case k2 => k_asm); (case k3 => k_asm); (case k4 => k_asm); (case k5 => k_asm); (case k6 => k_is); (case k7 => k_is); (case k8 => ktr_room); (case k9 => first | k_extra "bind" | exact BindsTo.of_eq rfl | exact binds_K (by k_in) rfl (by k_is) rfl rfl rfl | fail "k_enter: no rule for these arguments"); (case c5 => decide); (case kB => exact locs rfl); (case c2 => exact rfl); (case c3 => exact rfl); (case c4 => exact rfl); k_whole; intro g' L' h' FG' F' N' B' X' T'; (try dsimp only); (try k_lift B'); (try k_fold))))
  (k_with "my ite" => first | ((first | (refine ite_neg Bool.false_ne_true ?_) | (refine ite_pos rfl ?_) | (refine ite_neg (by (try simp only [beq_iff_eq, bne_iff_ne, ne_eq, decide_eq_true_eq, Bool.not_eq_true', decide_eq_false_iff_not, beq_eq_false_iff_ne, Bool.and_eq_true, Bool.or_eq_true]); first | assumption | omega) ?_) | (refine ite_pos (by (try simp only [beq_iff_eq, bne_iff_ne, ne_eq, decide_eq_true_eq, Bool.not_eq_true', decide_eq_false_iff_not, beq_eq_false_iff_ne, Bool.and_eq_true, Bool.or_eq_true]); first | assumption | omega) ?_))))
  (k_with "my storeName" => first | ((k_here; k_dflt (refine' store_let ?F ?N ?_ ?a ?b; (case F => k_asm); (case N => k_asm); (case a => rfl); (case b => rfl); k_whole; intro h' m' F' N'; (try k_sweep)))))
  (k_with "my k_mem" => first | (assumption))
  (k_with "my news_mem" => first | (k_mem))
  (k_with "my omega" => (k_whole; first | with_reducible assumption | k_dflt decide | with_reducible (first | (show @LT.lt Nat _ _ _; first | exact om_r0 (by assumption) | exact om_r1 (by assumption) (by k_dflt (exact rfl)) | exact om_r2 (by assumption) (by k_dflt (exact rfl)) | exact om_d1 (by assumption) (by assumption) (by k_dflt (exact rfl)) | exact om_d2 (by assumption) (by assumption) (by k_dflt (exact rfl)) | exact om_nlt (by assumption) (by k_dflt (exact rfl)) | exact om_meas (by assumption)) | (show @LE.le Nat _ _ _; first | exact om_le (by assumption) (by k_dflt (exact rfl)) | exact om_len (by assumption) (by assumption) (by k_dflt (exact rfl)) | exact om_len3 (by assumption) (by assumption) (by assumption) (by k_dflt (exact rfl)) | exact om_l16 (by assumption) (by assumption) (by assumption) (by assumption)) | (show @LT.lt Int _ _ _; first | exact om_cast (by assumption) | exact om_caste (by assumption) (by assumption) | exact om_eqlt (by assumption) (by assumption) | exact om_clen (by assumption) (by assumption) (by k_dflt decide) | exact om_ilen (by assumption) (by assumption) (by k_dflt decide) | exact om_cle (by assumption) (by k_dflt decide) | exact om_ilt (by assumption) (by k_dflt decide) | exact om_ile (by assumption) (by k_dflt decide) | exact om_igt (by assumption) (by k_dflt decide) | exact om_k3 (by assumption) (by assumption) | exact om_k1 (by assumption) (by assumption) (by assumption) | exact om_k2 (by assumption) (by assumption) (by assumption) (by assumption) (by k_dflt decide) | exact om_far2 (by assumption) (by assumption)) | (show @LE.le Int _ _ _; first | exact Int.natCast_nonneg _ | exact om_ige (by assumption) (by k_dflt decide) | exact om_k0 (by assumption) | exact om_s (by assumption) | exact om_p1 (by assumption) | exact om_k4 (by assumption) (by assumption) (by assumption) (by assumption) (by assumption) | exact om_far1 (by assumption) (by assumption) (by assumption)) | (show @Ne Nat _ _; first | exact om_gt1 (by assumption) | exact om_lt1 (by assumption) | exact om_gt2 (by assumption) | exact om_lt2 (by assumption) | exact om_gt3 (by assumption) | exact om_lt3 (by assumption) | exact om_c2 (by assumption) | exact om_c2' (by assumption) | exact om_c3 (by assumption) | exact om_c3' (by assumption) | exact om_c4 (by assumption) | exact om_c4' (by assumption) | exact om_s1 _ | exact Ne.symm (om_s1 _) | exact om_s2 _ | exact Ne.symm (om_s2 _) | exact om_s3 _ | exact Ne.symm (om_s3 _)) | (show @Eq _ _ _; first | exact om_tn (by assumption) (by assumption) | exact om_sc (by assumption)) | (show Not _; first | exact om_nz (by assumption)))))
  (k_with "bind" => first | exact BindsTo.of_eq (binds := [("p", _), ("pc", _)]) rfl | exact BindsTo.of_eq (binds := [("p", _)]) rfl)
  (k_with "getAttr ref" => first | (k_here; (with_reducible show wpAny _ _ (getAttr (Value.ref _) (PySem.Str.ofString "code") _) _ _ _); k_dflt (refine' get_code ?k1 ?k2 ?k3 ?k4 ?k5 ?_; (case k1 => k_asm); (case k2 => k_asm); (case k3 => k_asm); (case k4 => k_mem); (case k5 => k_mem); k_whole)))
  (k_with "call ref" => first | (k_here; (with_reducible show wpAny _ _ (call (Value.ref 63) _) _ _ _); k_dflt (refine' use_get_op _ _ ?p1 ?p2 ?k2 ?k1 ?k3 ?k4 ?k5 ?kK ?kd ?ku ?_; (case k1 => k_asm); (case k2 => k_asm); (case k3 => k_asm); (case k4 => k_asm); (case k5 => k_asm); (case kK => first | exact rfl | assumption); (case kd => ktr_room); (case ku => ktr_units); (case p1 => first | assumption | omega | exact (GoodWords.at (by assumption) (by omega) (by omega)).1); (case p2 => first | assumption | omega | exact (GoodWords.at (by assumption) (by omega) (by omega)).2.1); k_whole); intro t9 h9 tk9 F9 N9; (try dsimp only); (try k_sweep)))
  k_steps
  exact hret _ _ _ _ (by k_asm) (by k_asm) ⟨⟨_, rfl⟩, rfl⟩


/-! P4n -/
noncomputable def GoodWords (cs : List Int) : Prop := ∀ x ∈ cs, 0 ≤ x ∧ x < 4294967296 ∧ opOf x ≠ 36 ∧ opOf x ≠ 34
theorem GoodWords.at {cs : List Int} (G : GoodWords cs) {i : Int} (h0 : 0 ≤ i) (h1 : i < cs.length) : 0 ≤ cs.getD i.toNat 0 ∧ cs.getD i.toNat 0 < 4294967296 ∧ opOf (cs.getD i.toNat 0) ≠ 36 ∧ opOf (cs.getD i.toNat 0) ≠ 34 := by
  have h : i.toNat < cs.length := by lia
  have e : cs.getD i.toNat 0 = cs[i.toNat] := by simp [List.getD, h]
  rw [e]
  exact G _ (List.getElem_mem h)
noncomputable def upTo (n : Nat) : List Int := (List.range n).map fun (i : Nat) => (i : Int)
theorem upTo_next {pc : Int} {xs : List Int} (h0 : 0 ≤ pc) (h : xs = upTo pc.toNat) : xs ++ [pc] = upTo (pc + 1).toNat := by
  subst h
  have e : (pc + 1).toNat = pc.toNat + 1 := by lia
  rw [e]
  unfold upTo
  rw [List.range_succ, List.map_append]
  simp
  lia
theorem upTo_done {pc : Int} {xs : List Int} {n : Nat} (h : xs = upTo pc.toNat) (e : pc.toNat = n) : xs = upTo n := e ▸ h
theorem ints_of_eq {vs : List Value} {xs ys : List Int} (h : IntsAre vs xs) (e : xs = ys) : IntsAre vs ys := e ▸ h
theorem starts_of_spec {w : World} {loose mean mg mb news} {P dP c k p l o u : Addr} {z : PZ} {vs : List Value} {cs : List Int} {n : Nat}
    (hP : (P, instObj 178 dP) ∈ news) (hD : (dP, protoDict w.params z c k p l o u) ∈ news) (hC : (c, listOf vs.toArray n) ∈ news) (hI : IntsAre vs cs) (hlen : cs.length ≤ 100) (hG : GoodWords cs) :
    Calls w loose mean mg mb 194 news [.ref P] 12 60 (fun v news' => ∃ (D : Addr) (vs' : List Value) (n' : Nat), v = .ref D ∧ news' = (D, listOf vs'.toArray n') :: news ∧ IntsAre vs' (upTo cs.length) ∧ AllLt D news) := by
  unfold Calls
  w_top off
  k_with_none
  (k_with "my k_enter" => first | ((refine' code_def ?k1 ?k2 ?k3 ?k4 ?k5 ?kA ?kF ?kK ?k6 ?k7 ?k8 ?k9 ?kB ?_ ?c2 ?c3 ?c4 ?c5; (case kA => exact rfl); (case kF => exact rfl); (case kK => first | exact rfl | assumption); (case k1 => k_asm); (case k2 => k_asm); (case k3 => k_asm); (case k4 => k_asm); (case k5 => k_asm); (case k6 => k_is); (case k7 => k_is); (case k8 => ktr_room); (case k9 => first | k_extra "bind" | exact BindsTo.of_eq rfl | exact binds_K (by k_in) rfl (by k_is) rfl rfl rfl | fail "k_enter: no rule for these arguments"); (case c5 => decide); (case kB => exact locs rfl); (case c2 => exact rfl); (case c3 => exact rfl); (case c4 => exact rfl); k_whole; intro g' L' h' FG' F' N' B' X' T'; (try dsimp only); (try k_lift B'); (try k_fold))))
  (k_with "my call ref" => first | ((k_here; (with_reducible show wpAny _ _ (call (Value.ref 187) _) _ _ _); k_dflt (refine' Calls.use (words_of_spec _ _ ?m1 ?m2 ?m3 ?m4 ?p0 ?p1 ?p2 ?p3 ?p4 ?p5 ?p6) ?k1 ?k2 ?k3 ?k4 ?k5 ?kK ?kd ?ku ?_; (case k1 => k_asm); (case k2 => k_asm); (case k3 => k_asm); (case k4 => k_asm); (case k5 => k_asm); (case kK => first | exact rfl | assumption); (case kd => ktr_room); (case ku => ktr_units); (case m1 => k_mem); (case m2 => k_mem); (case m3 => k_mem); (case m4 => assumption); (case p0 => omega); (case p1 => omega); (case p2 => omega); (case p3 => exact (GoodWords.at (by assumption) (by omega) (by omega)).1); (case p4 => exact (GoodWords.at (by assumption) (by omega) (by omega)).2.1); (case p5 => exact (GoodWords.at (by assumption) (by omega) (by omega)).2.2.1); (case p6 => exact (GoodWords.at (by assumption) (by omega) (by omega)).2.2.2); k_whole); intro v9 news9 h9 tk9 F9 N9 hR9; obtain ⟨⟨t9, hv9⟩, hn9⟩ := hR9; subst hv9; subst news9; (try dsimp only))) | ((k_here; (with_reducible show wpAny _ _ (call (Value.ref 84) _) _ _ _); k_dflt (refine' Calls.use (get_sbx_spec _ _ ?p1 ?p2) ?k1 ?k2 ?k3 ?k4 ?k5 ?kK ?kd ?ku ?_; (case p1 => first | assumption | omega | exact (GoodWords.at (by assumption) (by omega) (by omega)).1); (case p2 => first | assumption | omega | exact (GoodWords.at (by assumption) (by omega) (by omega)).2.1); (case k1 => k_asm); (case k2 => k_asm); (case k3 => k_asm); (case k4 => k_asm); (case k5 => k_asm); (case kK => first | exact rfl | assumption); (case kd => ktr_room); (case ku => ktr_units); k_whole); intro v9 news9 h9 tk9 F9 N9 hR9; obtain ⟨⟨t9, hv9⟩, hn9⟩ := hR9; subst hv9; subst news9; (try dsimp only))) | ((k_here; (with_reducible show wpAny _ _ (call (Value.ref 63) _) _ _ _); k_dflt (refine' Calls.use (get_op_spec _ _ ?p1 ?p2) ?k1 ?k2 ?k3 ?k4 ?k5 ?kK ?kd ?ku ?_; (case p1 => first | assumption | omega | exact (GoodWords.at (by assumption) (by omega) (by omega)).1); (case p2 => first | assumption | omega | exact (GoodWords.at (by assumption) (by omega) (by omega)).2.1); (case k1 => k_asm); (case k2 => k_asm); (case k3 => k_asm); (case k4 => k_asm); (case k5 => k_asm); (case kK => first | exact rfl | assumption); (case kd => ktr_room); (case ku => ktr_units); k_whole); intro v9 news9 h9 tk9 F9 N9 hR9; obtain ⟨⟨t9, hv9⟩, hn9⟩ := hR9; subst hv9; subst news9; (try dsimp only))))
  (k_with "my ite" => first | ((first | (refine ite_neg (by (try simp only [beq_iff_eq, bne_iff_ne, ne_eq, decide_eq_true_eq, Bool.not_eq_true', decide_eq_false_iff_not, beq_eq_false_iff_ne, Bool.and_eq_true, Bool.or_eq_true]); first | assumption | omega) ?_) | (refine ite_pos (by (try simp only [beq_iff_eq, bne_iff_ne, ne_eq, decide_eq_true_eq, Bool.not_eq_true', decide_eq_false_iff_not, beq_eq_false_iff_ne, Bool.and_eq_true, Bool.or_eq_true]); first | assumption | omega) ?_))))
  (k_with "my k_mem" => first | (assumption))
  (k_with "my news_mem" => first | (k_mem))
  (k_with "my k_all" => first | (first | exact all_ne_of_lt (by assumption) | exact all_ne_of_allLt (by assumption) | exact all_ne_of_allLt (And.right (by assumption)) | exact all_ne_of_allLt (And.right (And.right (by assumption))) | exact all_ne_of_allLt (And.right (And.right (And.right (by assumption)))) | exact all_ne_of_allLt (And.right (And.right (And.right (And.right (by assumption))))) | exact all_ne_of_allLt (And.right (And.right (And.right (And.right (And.right (by assumption)))))) | exact all_ne_of_allLt (And.right (And.right (And.right (And.right (And.right (And.right (by assumption))))))) | exact all_ne_of_allLt (And.right (And.right (And.right (And.right (And.right (And.right (And.right (by assumption)))))))) | exact all_ne_of_allLt (And.right (And.right (And.right (And.right (And.right (And.right (And.right (And.right (by assumption)))))))))))
  (k_with "my omega" => (k_whole; first | with_reducible assumption | k_dflt decide | with_reducible (first | (show @LT.lt Nat _ _ _; first | exact om_r0 (by assumption) | exact om_r1 (by assumption) (by k_dflt (exact rfl)) | exact om_r2 (by assumption) (by k_dflt (exact rfl)) | exact om_d1 (by assumption) (by assumption) (by k_dflt (exact rfl)) | exact om_d2 (by assumption) (by assumption) (by k_dflt (exact rfl)) | exact om_nlt (by assumption) (by k_dflt (exact rfl)) | exact om_meas (by assumption)) | (show @LE.le Nat _ _ _; first | exact om_le (by assumption) (by k_dflt (exact rfl)) | exact om_len (by assumption) (by assumption) (by k_dflt (exact rfl)) | exact om_len3 (by assumption) (by assumption) (by assumption) (by k_dflt (exact rfl)) | exact om_l16 (by assumption) (by assumption) (by assumption) (by assumption)) | (show @LT.lt Int _ _ _; first | exact om_cast (by assumption) | exact om_caste (by assumption) (by assumption) | exact om_eqlt (by assumption) (by assumption) | exact om_clen (by assumption) (by assumption) (by k_dflt decide) | exact om_ilen (by assumption) (by assumption) (by k_dflt decide) | exact om_cle (by assumption) (by k_dflt decide) | exact om_ilt (by assumption) (by k_dflt decide) | exact om_ile (by assumption) (by k_dflt decide) | exact om_igt (by assumption) (by k_dflt decide) | exact om_k3 (by assumption) (by assumption) | exact om_k1 (by assumption) (by assumption) (by assumption) | exact om_k2 (by assumption) (by assumption) (by assumption) (by assumption) (by k_dflt decide) | exact om_far2 (by assumption) (by assumption)) | (show @LE.le Int _ _ _; first | exact Int.natCast_nonneg _ | exact om_ige (by assumption) (by k_dflt decide) | exact om_k0 (by assumption) | exact om_s (by assumption) | exact om_p1 (by assumption) | exact om_k4 (by assumption) (by assumption) (by assumption) (by assumption) (by assumption) | exact om_far1 (by assumption) (by assumption) (by assumption)) | (show @Ne Nat _ _; first | exact om_gt1 (by assumption) | exact om_lt1 (by assumption) | exact om_gt2 (by assumption) | exact om_lt2 (by assumption) | exact om_gt3 (by assumption) | exact om_lt3 (by assumption) | exact om_c2 (by assumption) | exact om_c2' (by assumption) | exact om_c3 (by assumption) | exact om_c3' (by assumption) | exact om_c4 (by assumption) | exact om_c4' (by assumption) | exact om_s1 _ | exact Ne.symm (om_s1 _) | exact om_s2 _ | exact Ne.symm (om_s2 _) | exact om_s3 _ | exact Ne.symm (om_s3 _)) | (show @Eq _ _ _; first | exact om_tn (by assumption) (by assumption) | exact om_sc (by assumption)) | (show Not _; first | exact om_nz (by assumption)))))
  k_fill
  intro dp un gd cn cs a ccd cl outer A₀ base h₀ L m s Q E B F X N T hk hdp hun hret
  k_with_none
  (k_with "my k_enter" => first | ((refine' code_def ?k1 ?k2 ?k3 ?k4 ?k5 ?kA ?kF ?kK ?k6 ?k7 ?k8 ?k9 ?kB ?_ ?c2 ?c3 ?c4 ?c5; (case kA => exact rfl); (case kF => exact rfl); (case kK => first | exact rfl | assumption); (case k1 => k_asm); (case k2 => k_asm); (case k3 => k_asm); (case k4 => k_asm); (case k5 => k_asm); (case k6 => k_is); (case k7 => k_is); (case k8 => ktr_room); (case k9 => first | k_extra "bind" | exact BindsTo.of_eq rfl | exact binds_K (by k_in) rfl (by k_is) rfl rfl rfl | fail "k_enter: no rule for these arguments"); (case c5 => decide); (case kB => exact locs rfl); (case c2 => exact rfl); (case c3 => exact rfl); (case c4 => exact rfl); k_whole; intro g' L' h' FG' F' N' B' X' T'; (try dsimp only); (try k_lift B'); (try k_fold))))
  (k_with "my call ref" => first | ((k_here; (with_reducible show wpAny _ _ (call (Value.ref 187) _) _ _ _); k_dflt (refine' Calls.use (words_of_spec _ _ ?m1 ?m2 ?m3 ?m4 ?p0 ?p1 ?p2 ?p3 ?p4 ?p5 ?p6) ?k1 ?k2 ?k3 ?k4 ?k5 ?kK ?kd ?ku ?_; (case k1 => k_asm); (case k2 => k_asm); (case k3 => k_asm); (case k4 => k_asm); (case k5 => k_asm); (case kK => first | exact rfl | assumption); (case kd => ktr_room); (case ku => ktr_units); (case m1 => k_mem); (case m2 => k_mem); (case m3 => k_mem); (case m4 => assumption); (case p0 => omega); (case p1 => omega); (case p2 => omega); (case p3 => exact (GoodWords.at (by assumption) (by omega) (by omega)).1); (case p4 => exact (GoodWords.at (by assumption) (by omega) (by omega)).2.1); (case p5 => exact (GoodWords.at (by assumption) (by omega) (by omega)).2.2.1); (case p6 => exact (GoodWords.at (by assumption) (by omega) (by omega)).2.2.2); k_whole); intro v9 news9 h9 tk9 F9 N9 hR9; obtain ⟨⟨t9, hv9⟩, hn9⟩ := hR9; subst hv9; subst news9; (try dsimp only))) | ((k_here; (with_reducible show wpAny _ _ (call (Value.ref 84) _) _ _ _); k_dflt (refine' Calls.use (get_sbx_spec _ _ ?p1 ?p2) ?k1 ?k2 ?k3 ?k4 ?k5 ?kK ?kd ?ku ?_; (case p1 => first | assumption | omega | exact (GoodWords.at (by assumption) (by omega) (by omega)).1); (case p2 => first | assumption | omega | exact (GoodWords.at (by assumption) (by omega) (by omega)).2.1); (case k1 => k_asm); (case k2 => k_asm); (case k3 => k_asm); (case k4 => k_asm); (case k5 => k_asm); (case kK => first | exact rfl | assumption); (case kd => ktr_room); (case ku => ktr_units); k_whole); intro v9 news9 h9 tk9 F9 N9 hR9; obtain ⟨⟨t9, hv9⟩, hn9⟩ := hR9; subst hv9; subst news9; (try dsimp only))) | ((k_here; (with_reducible show wpAny _ _ (call (Value.ref 63) _) _ _ _); k_dflt (refine' Calls.use (get_op_spec _ _ ?p1 ?p2) ?k1 ?k2 ?k3 ?k4 ?k5 ?kK ?kd ?ku ?_; (case p1 => first | assumption | omega | exact (GoodWords.at (by assumption) (by omega) (by omega)).1); (case p2 => first | assumption | omega | exact (GoodWords.at (by assumption) (by omega) (by omega)).2.1); (case k1 => k_asm); (case k2 => k_asm); (case k3 => k_asm); (case k4 => k_asm); (case k5 => k_asm); (case kK => first | exact rfl | assumption); (case kd => ktr_room); (case ku => ktr_units); k_whole); intro v9 news9 h9 tk9 F9 N9 hR9; obtain ⟨⟨t9, hv9⟩, hn9⟩ := hR9; subst hv9; subst news9; (try dsimp only))))
  (k_with "my ite" => first | ((first | (refine ite_neg (by (try simp only [beq_iff_eq, bne_iff_ne, ne_eq, decide_eq_true_eq, Bool.not_eq_true', decide_eq_false_iff_not, beq_eq_false_iff_ne, Bool.and_eq_true, Bool.or_eq_true]); first | assumption | omega) ?_) | (refine ite_pos (by (try simp only [beq_iff_eq, bne_iff_ne, ne_eq, decide_eq_true_eq, Bool.not_eq_true', decide_eq_false_iff_not, beq_eq_false_iff_ne, Bool.and_eq_true, Bool.or_eq_true]); first | assumption | omega) ?_))))
  (k_with "my k_mem" => first | (assumption))
  (k_with "my news_mem" => first | (k_mem))
  (k_with "my k_all" => first | (first | exact all_ne_of_lt (by assumption) | exact all_ne_of_allLt (by assumption) | exact all_ne_of_allLt (And.right (by assumption)) | exact all_ne_of_allLt (And.right (And.right (by assumption))) | exact all_ne_of_allLt (And.right (And.right (And.right (by assumption)))) | exact all_ne_of_allLt (And.right (And.right (And.right (And.right (by assumption))))) | exact all_ne_of_allLt (And.right (And.right (And.right (And.right (And.right (by assumption)))))) | exact all_ne_of_allLt (And.right (And.right (And.right (And.right (And.right (And.right (by assumption))))))) | exact all_ne_of_allLt (And.right (And.right (And.right (And.right (And.right (And.right (And.right (by assumption)))))))) | exact all_ne_of_allLt (And.right (And.right (And.right (And.right (And.right (And.right (And.right (And.right (by assumption)))))))))))
  (k_with "my omega" => (k_whole; first | with_reducible assumption | k_dflt decide | with_reducible (first | (show @LT.lt Nat _ _ _; first | exact om_r0 (by assumption) | exact om_r1 (by assumption) (by k_dflt (exact rfl)) | exact om_r2 (by assumption) (by k_dflt (exact rfl)) | exact om_d1 (by assumption) (by assumption) (by k_dflt (exact rfl)) | exact om_d2 (by assumption) (by assumption) (by k_dflt (exact rfl)) | exact om_nlt (by assumption) (by k_dflt (exact rfl)) | exact om_meas (by assumption)) | (show @LE.le Nat _ _ _; first | exact om_le (by assumption) (by k_dflt (exact rfl)) | exact om_len (by assumption) (by assumption) (by k_dflt (exact rfl)) | exact om_len3 (by assumption) (by assumption) (by assumption) (by k_dflt (exact rfl)) | exact om_l16 (by assumption) (by assumption) (by assumption) (by assumption)) | (show @LT.lt Int _ _ _; first | exact om_cast (by assumption) | exact om_caste (by assumption) (by assumption) | exact om_eqlt (by assumption) (by assumption) | exact om_clen (by assumption) (by assumption) (by k_dflt decide) | exact om_ilen (by assumption) (by assumption) (by k_dflt decide) | exact om_cle (by assumption) (by k_dflt decide) | exact om_ilt (by assumption) (by k_dflt decide) | exact om_ile (by assumption) (by k_dflt decide) | exact om_igt (by assumption) (by k_dflt decide) | exact om_k3 (by assumption) (by assumption) | exact om_k1 (by assumption) (by assumption) (by assumption) | exact om_k2 (by assumption) (by assumption) (by assumption) (by assumption) (by k_dflt decide) | exact om_far2 (by assumption) (by assumption)) | (show @LE.le Int _ _ _; first | exact Int.natCast_nonneg _ | exact om_ige (by assumption) (by k_dflt decide) | exact om_k0 (by assumption) | exact om_s (by assumption) | exact om_p1 (by assumption) | exact om_k4 (by assumption) (by assumption) (by assumption) (by assumption) (by assumption) | exact om_far1 (by assumption) (by assumption) (by assumption)) | (show @Ne Nat _ _; first | exact om_gt1 (by assumption) | exact om_lt1 (by assumption) | exact om_gt2 (by assumption) | exact om_lt2 (by assumption) | exact om_gt3 (by assumption) | exact om_lt3 (by assumption) | exact om_c2 (by assumption) | exact om_c2' (by assumption) | exact om_c3 (by assumption) | exact om_c3' (by assumption) | exact om_c4 (by assumption) | exact om_c4' (by assumption) | exact om_s1 _ | exact Ne.symm (om_s1 _) | exact om_s2 _ | exact Ne.symm (om_s2 _) | exact om_s3 _ | exact Ne.symm (om_s3 _)) | (show @Eq _ _ _; first | exact om_tn (by assumption) (by assumption) | exact om_sc (by assumption)) | (show Not _; first | exact om_nz (by assumption)))))
  (k_with "bind" => first | exact BindsTo.of_eq (binds := [("p", _), ("pc", _)]) rfl | exact BindsTo.of_eq (binds := [("p", _)]) rfl)
  (k_with "getAttr ref" => (k_here; (with_reducible show wpAny _ _ (getAttr (Value.ref _) (PySem.Str.ofString "code") _) _ _ _); k_dflt (refine' get_code ?k1 ?k2 ?k3 ?k4 ?k5 ?_; (case k1 => k_asm); (case k2 => k_asm); (case k3 => k_asm); (case k4 => k_mem); (case k5 => k_mem); k_whole)))
  (k_with "exec While Compare cons nil" => k_while (fun cs pc xs => 0 ≤ pc ∧ pc ≤ (cs.length : Int) ∧ (xs.length : Int) = pc ∧ xs = upTo pc.toNat) (fun cs pc xs => ((cs.length : Int) - pc).toNat) "pc" "found")
  (k_with "state" => (refine And.intro (by omega) (And.intro (by omega) (And.intro (by simp only [List.length_append, List.length_cons, List.length_nil]; omega) (upTo_next (by assumption) (by assumption))))))
  k_steps
  refine hret _ (_ :: news) _ _ (by k_asm) (kst_newsOf (by k_asm) (fun p hp => List.Mem.tail _ hp)) ⟨_, _, _, rfl, rfl, ?_, allLt_of (by assumption)⟩
  exact ints_of_eq (by assumption) (upTo_done (by assumption) (by omega))


/-! P5 -/
/-- the places from x on, as long as they are jumps and new -/
noncomputable def chase (gs : List Int) : Nat → List Int → Int → List Int × Int
  | 0, ks, x => (ks, x)
  | f + 1, ks, x => if 0 ≤ gs.getD x.toNat 0 ∧ x ∉ ks then chase gs f (ks ++ [x]) (gs.getD x.toNat 0) else (ks, x)
noncomputable def chased (gs : List Int) (i : Int) : List Int × Int := chase gs gs.length [] (gs.getD i.toNat 0)
/-- where the jumps behind i end: a ring leads where it led -/
noncomputable def goalEnd (gs : List Int) (i : Int) : Int := if (chased gs i).2 ∈ (chased gs i).1 then gs.getD i.toNat 0 else (chased gs i).2
theorem chase_stop {gs ks : List Int} {x : Int} (h : ¬ (0 ≤ gs.getD x.toNat 0 ∧ x ∉ ks)) : ∀ f, chase gs f ks x = (ks, x)
  | 0 => rfl
  | f + 1 => by simp only [chase, if_neg h]
theorem nodup_bound : ∀ (n : Nat) (ks : List Int), ks.Nodup → (∀ k ∈ ks, 0 ≤ k ∧ k < (n : Int)) → ks.length ≤ n
  | 0, ks, _, hb => by
    cases ks with
    | nil => exact Nat.le_refl _
    | cons k r => have := hb k (.head _); lia
  | n + 1, ks, hn, hb => by
    by_cases hm : (n : Int) ∈ ks
    · have h1 : (ks.erase (n : Int)).length = ks.length - 1 := List.length_erase_of_mem hm
      have h2 := nodup_bound n (ks.erase (n : Int)) (hn.erase _) fun k hk => by
        have h3 := hb k (List.mem_of_mem_erase hk)
        have h4 : k ≠ (n : Int) := fun e => by rw [e] at hk; exact hn.not_mem_erase hk
        lia
      have h5 : 0 < ks.length := List.length_pos_of_mem hm
      lia
    · have h2 := nodup_bound n ks hn fun k hk => by
        have h3 := hb k hk
        have h4 : k ≠ (n : Int) := fun e => hm (e ▸ hk)
        lia
      lia
/-- the state of such a search: what is seen, where it stands, and that its end is the whole search's end -/
structure Seek (gs : List Int) (i : Int) (ks : List Int) (x : Int) : Prop where
  lo : 0 ≤ x
  hi : x < gs.length
  nodup : ks.Nodup
  inn : ∀ k ∈ ks, 0 ≤ k ∧ k < (gs.length : Int)
  same : chase gs (gs.length - ks.length) ks x = chased gs i
/-- every goal that is a jump's leads to a place of the function's -/
noncomputable def GoalsIn (gs : List Int) : Prop := ∀ i : Int, 0 ≤ i → i < gs.length → gs.getD i.toNat 0 < gs.length
theorem Seek.start {gs : List Int} {i : Int} (G : GoalsIn gs) (h0 : 0 ≤ i) (h1 : i < gs.length) (hg : 0 ≤ gs.getD i.toNat 0) : Seek gs i [] (gs.getD i.toNat 0) :=
  ⟨hg, G i h0 h1, List.nodup_nil, fun _ h => (nomatch h), rfl⟩
theorem Seek.room {gs : List Int} {i : Int} {ks : List Int} {x : Int} (S : Seek gs i ks x) (hx : x ∉ ks) : ks.length < gs.length := by
  have h := nodup_bound gs.length (x :: ks) (List.nodup_cons.mpr ⟨hx, S.nodup⟩) fun k hk => by
    rcases List.mem_cons.mp hk with rfl | hk
    · exact ⟨S.lo, S.hi⟩
    · exact S.inn k hk
  rw [List.length_cons] at h
  lia
theorem Seek.next {gs : List Int} {i : Int} {ks : List Int} {x : Int} (G : GoalsIn gs) (S : Seek gs i ks x) (hg : 0 ≤ gs.getD x.toNat 0) (hx : x ∉ ks) : Seek gs i (ks ++ [x]) (gs.getD x.toNat 0) := by
  have hr := S.room hx
  refine ⟨hg, G x S.lo S.hi, ?_, ?_, ?_⟩
  · refine List.nodup_append.mpr ⟨S.nodup, List.nodup_cons.mpr ⟨by simp, List.nodup_nil⟩, fun a ha b hb => ?_⟩
    rw [List.mem_singleton] at hb
    subst hb
    intro e
    subst e
    exact hx ha
  · intro k hk
    rcases List.mem_append.mp hk with hk | hk
    · exact S.inn k hk
    · rw [List.mem_singleton] at hk
      subst hk
      exact ⟨S.lo, S.hi⟩
  · rw [← S.same, List.length_append, List.length_singleton]
    obtain ⟨f, hf⟩ : ∃ f, gs.length - ks.length = f + 1 := ⟨gs.length - ks.length - 1, by lia⟩
    have hf' : gs.length - (ks.length + 1) = f := by lia
    rw [hf, hf']
    simp only [chase]
    rw [if_pos ⟨hg, hx⟩]
theorem Seek.ends {gs : List Int} {i : Int} {ks : List Int} {x : Int} (S : Seek gs i ks x) (h : ¬ (0 ≤ gs.getD x.toNat 0 ∧ x ∉ ks)) : chased gs i = (ks, x) := by
  rw [← S.same]
  exact chase_stop h _
theorem Seek.less {gs : List Int} {i : Int} {ks : List Int} {x : Int} (S : Seek gs i ks x) (hx : x ∉ ks) : gs.length - (ks ++ [x]).length < gs.length - ks.length := by
  have := S.room hx
  rw [List.length_append, List.length_singleton]
  lia
/-- the words cs of a function say the goals gs -/
structure Coded (gs cs : List Int) : Prop where
  len : cs.length = gs.length
  le : gs.length ≤ 10
  good : GoodWords cs
  op : ∀ i : Int, 0 ≤ i → i < gs.length → (opOf (cs.getD i.toNat 0) = 22 ↔ 0 ≤ gs.getD i.toNat 0)
  tg : ∀ i : Int, 0 ≤ i → i < gs.length → 0 ≤ gs.getD i.toNat 0 → i + 1 + sbxOf (cs.getD i.toNat 0) = gs.getD i.toNat 0
  inn : GoalsIn gs
noncomputable def seenKvs (ks : List Int) : List (Int × Value) := ks.map fun k => (k, Value.bool true)
theorem seen_isSome (ks : List Int) (x : Int) : (valueAt (seenKvs ks) x).isSome = decide (x ∈ ks) := by
  rw [valueAt_isSome_eq_any]
  unfold seenKvs
  rw [List.any_map]
  induction ks with
  | nil => rfl
  | cons k r ih =>
    rw [List.any_cons, ih]
    by_cases h : x = k
    · subst h; simp
    · have h' : ¬ k = x := fun e => h e.symm
      simp [h, h']
theorem seen_stored {ks : List Int} {x : Int} (h : x ∉ ks) : stored (seenKvs ks) x (.bool true) = seenKvs (ks ++ [x]) := by
  have hn : valueAt (seenKvs ks) x = none := by
    have := seen_isSome ks x
    rw [decide_eq_false h] at this
    exact Option.not_isSome_iff_eq_none.mp (by rw [this]; exact Bool.false_ne_true)
  rw [stored_absent hn]
  unfold seenKvs
  rw [List.map_append]
  rfl


/-! P6n -/
theorem target_specG {w : World} {loose mean mg mb news} {P dP c k p l o u : Addr} {z : PZ} {vs : List Value} {gs cs : List Int} {n : Nat} (pc : Int) (t : Tok)
    (hP : (P, instObj 178 dP) ∈ news) (hD : (dP, protoDict w.params z c k p l o u) ∈ news) (hC : (c, listOf vs.toArray n) ∈ news) (hI : IntsAre vs cs) (hW : Coded gs cs) (h0 : 0 ≤ pc) (h1 : pc < gs.length) (h2 : 0 ≤ gs.getD pc.toNat 0) :
    Calls w loose mean mg mb 201 news [.ref P, .int pc t] 8 40 (fun v news' => (∃ t', v = .int (gs.getD pc.toNat 0) t') ∧ news' = news) := by
  have h1' : pc < cs.length := by rw [hW.len]; exact h1
  have h := target_spec (loose := loose) (mean := mean) (mg := mg) (mb := mb) pc t hP hD hC hI h0 h1' (by have := hW.len; have := hW.le; lia) (hW.good.at h0 h1').1 (hW.good.at h0 h1').2.1
  rw [hW.tg pc h0 h1 h2] at h
  exact h
section
variable {prog : Program} {w : World} {A : Around} {E : Value → Shared → Prop} {Q : Flow → Shared → Prop} {s : Shared} {env : Env} {h₀ : Heap} {L : Addr}
/-- the end of a turn of the search in end_of_jumps -/
noncomputable def SeenEnd (w : World) (prog : Program) (gs : List Int) (i : Int) (d : Addr) (news : List (Addr × Obj)) (h₀ : Heap) (L : Addr) (m₀ : Str → Option Value) (s : Shared) (ks : List Int) (s₂ : Shared) : Prop :=
  ∃ (o : Obj) (ks' : List Int) (x : Int) (t : Tok) (h' : Heap) (tk : Nat) (m' : Str → Option Value), s₂ = { s with heap := h', toks := tk } ∧ Fr h₀ L h' m' ∧ News h₀ L h' ((d, o) :: news) ∧ o.IsDictOf (intKind prog w) (seenKvs ks') ∧ Seek gs i ks' x ∧
    gs.length - ks'.length < gs.length - ks.length ∧ m' (Str.ofString "place") = some (.int x t) ∧ ∀ z, z ≠ Str.ofString "place" → m' z = m₀ z
noncomputable def SeenPost (w : World) (prog : Program) (gs : List Int) (i : Int) (d : Addr) (news : List (Addr × Obj)) (h₀ : Heap) (L : Addr) (m₀ : Str → Option Value) (s : Shared) (Q : Flow → Shared → Prop) (ks : List Int) (f : Flow) (s₂ : Shared) : Prop :=
  match f with
  | .ret v => Q (.ret v) s₂
  | .brk => Q .next s₂
  | _ => SeenEnd w prog gs i d news h₀ L m₀ s ks s₂
theorem while_seen {test : Expr} {body : List Stmt} {pos : Pos} {m₀ : Str → Option Value} (gs : List Int) (i : Int) {d D : Addr} {o oT : Obj} {news : List (Addr × Obj)} {x₀ : Int} {t₀ : Tok}
    (F : Fr h₀ L s.heap m₀) (N : News h₀ L s.heap ((D, oT) :: (d, o) :: news)) (hd : o.IsDictOf (intKind prog w) []) (hx : m₀ (Str.ofString "place") = some (.int x₀ t₀)) (S : Seek gs i [] x₀)
    (turn : ∀ (o : Obj) (ks : List Int) (x : Int) (t : Tok) h tk, o.IsDictOf (intKind prog w) (seenKvs ks) → Seek gs i ks x → 0 ≤ x → x < gs.length → Fr h₀ L h (fun z => if z = Str.ofString "place" then some (.int x t) else m₀ z) → News h₀ L h ((d, o) :: news) →
      wpAny (model prog w) A (isTrue test env (eval test env)) (fun b s₂ =>
        if b = true then wpAny (model prog w) A (execs body env) (SeenPost w prog gs i d news h₀ L m₀ s Q ks) E s₂ else Q .next s₂) E { s with heap := h, toks := tk })
    (hE : PassesOwn (model prog w) A env E) :
    wpAny (model prog w) A (exec (.While test body [] pos) env) Q E s := by
  refine While_inv2 (fun n m nx => ∃ (o : Obj) (ks : List Int) (x : Int) (t : Tok), nx = (d, o) :: news ∧ gs.length - ks.length = n ∧ o.IsDictOf (intKind prog w) (seenKvs ks) ∧ Seek gs i ks x ∧ m (Str.ofString "place") = some (.int x t) ∧ ∀ z, z ≠ Str.ofString "place" → m z = m₀ z)
    F (kst_newsOf N fun p hp => List.Mem.tail _ hp) ⟨o, [], x₀, t₀, rfl, rfl, hd, S, hx, fun _ _ => rfl⟩ ?_ hE
  rintro n m₁ nx h tk F₁ N₁ ⟨o₁, ks, x, t, rfl, rfl, hd₁, S₁, hx₁, hm₁⟩
  have em : (fun z => if z = Str.ofString "place" then some (.int x t) else m₀ z) = m₁ := by
    funext z
    by_cases e : z = Str.ofString "place"
    · rw [if_pos e, e, hx₁]
    · rw [if_neg e, hm₁ z e]
  refine wpAny_mono (turn o₁ ks x t h tk hd₁ S₁ S₁.lo S₁.hi (em ▸ F₁) N₁) (fun b s₂ p => ?_) fun _ _ x => x
  cases b with
  | false => simpa using p
  | true =>
    simp only [if_true] at p ⊢
    refine wpAny_mono p (fun f s₃ q => ?_) fun _ _ x => x
    cases f with
    | ret v => exact q
    | brk => exact q
    | next =>
      obtain ⟨o', ks', x', t', h', tk', m', rfl, F', N', hd', S', hl, hx', hm'⟩ := q
      exact ⟨h', tk', m', _, _, rfl, F', N', hl, o', ks', x', t', rfl, rfl, hd', S', hx', hm'⟩
    | cont =>
      obtain ⟨o', ks', x', t', h', tk', m', rfl, F', N', hd', S', hl, hx', hm'⟩ := q
      exact ⟨h', tk', m', _, _, rfl, F', N', hl, o', ks', x', t', rfl, rfl, hd', S', hx', hm'⟩
theorem SeenEnd.intro {gs : List Int} {i : Int} {d : Addr} {news : List (Addr × Obj)} {m₀ m' : Str → Option Value} {ks : List Int} {x : Int} {t : Tok} {o : Obj} {h' : Heap} {tk : Nat} {news' : List (Addr × Obj)}
    (F : Fr h₀ L h' m') (N : News h₀ L h' news') (hs : ∀ p ∈ (d, o) :: news, p ∈ news') (G : GoalsIn gs) (hd : o.IsDictOf (intKind prog w) (stored (seenKvs ks) x (.bool true))) (S : Seek gs i ks x) (hg : 0 ≤ gs.getD x.toNat 0) (hx : x ∉ ks)
    (hp : m' (Str.ofString "place") = some (.int (gs.getD x.toNat 0) t)) (hm : ∀ z, z ≠ Str.ofString "place" → m' z = m₀ z) : SeenEnd w prog gs i d news h₀ L m₀ s ks { s with heap := h', toks := tk } :=
  ⟨o, ks ++ [x], _, t, h', tk, m', rfl, F, kst_newsOf N hs, seen_stored hx ▸ hd, S.next G hg hx, S.less hx, hp, hm⟩
end
theorem seen_size {gs ks : List Int} {i x : Int} (S : Seek gs i ks x) (hx : x ∉ ks) (hle : gs.length ≤ 10) : (seenKvs ks).length ≤ sizeLine := by
  have := S.room hx
  rw [PySem.sizeLine_eq]
  unfold seenKvs
  rw [List.length_map]
  lia
theorem goalEnd_in {gs ks : List Int} {i x : Int} (S : Seek gs i ks x) (hx : x ∈ ks) : gs.getD i.toNat 0 = goalEnd gs i := by
  have e := S.ends (fun h => h.2 hx)
  unfold goalEnd
  rw [e, if_pos hx]
theorem goalEnd_out {gs ks : List Int} {i x : Int} (S : Seek gs i ks x) (hg : ¬ 0 ≤ gs.getD x.toNat 0) (hx : x ∉ ks) : x = goalEnd gs i := by
  have e := S.ends (fun h => hg h.1)
  unfold goalEnd
  rw [e, if_neg hx]
theorem int_eq {x y : Int} (t : Tok) (h : x = y) : ∃ t', Value.int x t = Value.int y t' := ⟨t, h ▸ rfl⟩
theorem end_of_jumps_spec {w : World} {loose mean mg mb news} {P dP c k p l o u : Addr} {z : PZ} {vs : List Value} {gs cs : List Int} {n : Nat} (pc : Int) (t : Tok)
    (hP : (P, instObj 178 dP) ∈ news) (hD : (dP, protoDict w.params z c k p l o u) ∈ news) (hC : (c, listOf vs.toArray n) ∈ news) (hI : IntsAre vs cs) (hW : Coded gs cs) (h0 : 0 ≤ pc) (h1 : pc < gs.length) (h2 : 0 ≤ gs.getD pc.toNat 0) :
    Calls w loose mean mg mb 213 news [.ref P, .int pc t] 12 60 (fun v news' => (∃ t', v = .int (goalEnd gs pc) t') ∧ news' = news) := by
  have hcl := hW.len
  have hcle := hW.le
  have hG := hW.good
  unfold Calls
  w_top off
  k_with_none
  (k_with "my k_enter" => first | ((refine' code_def ?k1 ?k2 ?k3 ?k4 ?k5 ?kA ?kF ?kK ?k6 ?k7 ?k8 ?k9 ?kB ?_ ?c2 ?c3 ?c4 ?c5; (case kA => exact rfl); (case kF => exact rfl); (case kK => first | exact rfl | assumption); (case k1 => k_asm); (case k2 => k_asm); (case k3 => k_asm); (case k4 => k_asm); (case k5 => k_asm); (case k6 => k_is); (case k7 => k_is); (case k8 => ktr_room); (case k9 => first | k_extra "bind" | exact BindsTo.of_eq rfl | exact binds_K (by k_in) rfl (by k_is) rfl rfl rfl | fail "k_enter: no rule for these arguments"); (case c5 => decide); (case kB => exact locs rfl); (case c2 => exact rfl); (case c3 => exact rfl); (case c4 => exact rfl); k_whole; intro g' L' h' FG' F' N' B' X' T'; (try dsimp only); (try k_lift B'); (try k_fold))))
  (k_with "my call ref" => first | ((k_here; (with_reducible show wpAny _ _ (call (Value.ref 201) _) _ _ _); k_dflt (refine' Calls.use (target_specG _ _ ?m1 ?m2 ?m3 ?m4 ?m5 ?p0 ?p1 ?p2) ?k1 ?k2 ?k3 ?k4 ?k5 ?kK ?kd ?ku ?_; (case k1 => k_asm); (case k2 => k_asm); (case k3 => k_asm); (case k4 => k_asm); (case k5 => k_asm); (case kK => first | exact rfl | assumption); (case kd => ktr_room); (case ku => ktr_units); (case m1 => k_mem); (case m2 => k_mem); (case m3 => k_mem); (case m4 => assumption); (case m5 => assumption); (case p0 => first | assumption | omega); (case p1 => first | assumption | omega); (case p2 => first | assumption | omega | exact (Coded.op (by assumption) _ (by omega) (by omega)).mp (by assumption)); k_whole); intro v9 news9 h9 tk9 F9 N9 hR9; obtain ⟨⟨t9, hv9⟩, hn9⟩ := hR9; subst hv9; subst news9; (try dsimp only))) | ((k_here; (with_reducible show wpAny _ _ (call (Value.ref 84) _) _ _ _); k_dflt (refine' Calls.use (get_sbx_spec _ _ ?p1 ?p2) ?k1 ?k2 ?k3 ?k4 ?k5 ?kK ?kd ?ku ?_; (case p1 => first | assumption | omega | exact (GoodWords.at (by assumption) (by omega) (by omega)).1); (case p2 => first | assumption | omega | exact (GoodWords.at (by assumption) (by omega) (by omega)).2.1); (case k1 => k_asm); (case k2 => k_asm); (case k3 => k_asm); (case k4 => k_asm); (case k5 => k_asm); (case kK => first | exact rfl | assumption); (case kd => ktr_room); (case ku => ktr_units); k_whole); intro v9 news9 h9 tk9 F9 N9 hR9; obtain ⟨⟨t9, hv9⟩, hn9⟩ := hR9; subst hv9; subst news9; (try dsimp only))) | ((k_here; (with_reducible show wpAny _ _ (call (Value.ref 63) _) _ _ _); k_dflt (refine' Calls.use (get_op_spec _ _ ?p1 ?p2) ?k1 ?k2 ?k3 ?k4 ?k5 ?kK ?kd ?ku ?_; (case p1 => first | assumption | omega | exact (GoodWords.at (by assumption) (by omega) (by omega)).1); (case p2 => first | assumption | omega | exact (GoodWords.at (by assumption) (by omega) (by omega)).2.1); (case k1 => k_asm); (case k2 => k_asm); (case k3 => k_asm); (case k4 => k_asm); (case k5 => k_asm); (case kK => first | exact rfl | assumption); (case kd => ktr_room); (case ku => ktr_units); k_whole); intro v9 news9 h9 tk9 F9 N9 hR9; obtain ⟨⟨t9, hv9⟩, hn9⟩ := hR9; subst hv9; subst news9; (try dsimp only))))
  (k_with "my ite" => first | ((first | (refine ite_neg (by (try simp only [beq_iff_eq, bne_iff_ne, ne_eq, decide_eq_true_eq, Bool.not_eq_true', decide_eq_false_iff_not, beq_eq_false_iff_ne, Bool.and_eq_true, Bool.or_eq_true]); first | assumption | omega) ?_) | (refine ite_pos (by (try simp only [beq_iff_eq, bne_iff_ne, ne_eq, decide_eq_true_eq, Bool.not_eq_true', decide_eq_false_iff_not, beq_eq_false_iff_ne, Bool.and_eq_true, Bool.or_eq_true]); first | assumption | omega) ?_))))
  (k_with "my k_mem" => first | (assumption))
  (k_with "my news_mem" => first | (k_mem))
  (k_with "my k_all" => first | (first | exact all_ne_of_lt (by assumption) | exact all_ne_of_allLt (by assumption) | exact all_ne_of_allLt (And.right (by assumption)) | exact all_ne_of_allLt (And.right (And.right (by assumption))) | exact all_ne_of_allLt (And.right (And.right (And.right (by assumption)))) | exact all_ne_of_allLt (And.right (And.right (And.right (And.right (by assumption))))) | exact all_ne_of_allLt (And.right (And.right (And.right (And.right (And.right (by assumption)))))) | exact all_ne_of_allLt (And.right (And.right (And.right (And.right (And.right (And.right (by assumption))))))) | exact all_ne_of_allLt (And.right (And.right (And.right (And.right (And.right (And.right (And.right (by assumption)))))))) | exact all_ne_of_allLt (And.right (And.right (And.right (And.right (And.right (And.right (And.right (And.right (by assumption)))))))))))
  (k_with "my compareOp NotIn int ref" => first | ((k_here; k_dflt (refine' kdg_notin (knd := PySem.intKind _ _) ?N ?m ?d ?lo (intKind_is _ _ _ _) _ (seen_isSome _ _) ?_; (case N => k_asm); (case m => k_mem); (case d => k_asm); (case lo => k_asm)); (try dsimp only))))
  (k_with "my compareOp In int ref" => first | ((k_here; k_dflt (refine' kda_in (knd := PySem.intKind _ _) ?N ?m ?d ?lo (intKind_is _ _ _ _) _ (seen_isSome _ _) ?_; (case N => k_asm); (case m => k_mem); (case d => k_asm); (case lo => k_asm)); (try dsimp only))))
  (k_with "my setItem ref int" => first | ((k_here; k_dflt (refine' kda_set (knd := PySem.intKind _ _) ?F ?N ?U ?d (intKind_is _ _ _ _) ?z ?_; (case F => k_asm); (case N => k_asm); (case U => k_updF); (case d => k_asm); (case z => exact seen_size (by assumption) (by first | assumption | simp_all) (by assumption))); intro h' o' F' N' hd'; (try dsimp only at N'))))
  (k_with "my SeenPost" => first | ((dsimp only [SeenPost])))
  (k_with "my SeenEnd" => first | ((refine SeenEnd.intro (by k_asm) (by k_asm) (fun p hp => hp) (Coded.inn (by assumption)) (by assumption) (by assumption) ((Coded.op (by assumption) _ (by omega) (by omega)).mp (by assumption)) (by assumption) (by with_unfolding_all rfl) (by (intro z hz; (try dsimp only); first | rfl | (simp [hz]; done))))))
  (k_with "my omega" => (k_whole; first | with_reducible assumption | k_dflt decide | with_reducible (first | (show @LT.lt Nat _ _ _; first | exact om_r0 (by assumption) | exact om_r1 (by assumption) (by k_dflt (exact rfl)) | exact om_r2 (by assumption) (by k_dflt (exact rfl)) | exact om_d1 (by assumption) (by assumption) (by k_dflt (exact rfl)) | exact om_d2 (by assumption) (by assumption) (by k_dflt (exact rfl)) | exact om_nlt (by assumption) (by k_dflt (exact rfl)) | exact om_meas (by assumption)) | (show @LE.le Nat _ _ _; first | exact om_le (by assumption) (by k_dflt (exact rfl)) | exact om_len (by assumption) (by assumption) (by k_dflt (exact rfl)) | exact om_len3 (by assumption) (by assumption) (by assumption) (by k_dflt (exact rfl)) | exact om_l16 (by assumption) (by assumption) (by assumption) (by assumption)) | (show @LT.lt Int _ _ _; first | exact om_cast (by assumption) | exact om_caste (by assumption) (by assumption) | exact om_eqlt (by assumption) (by assumption) | exact om_clen (by assumption) (by assumption) (by k_dflt decide) | exact om_ilen (by assumption) (by assumption) (by k_dflt decide) | exact om_cle (by assumption) (by k_dflt decide) | exact om_ilt (by assumption) (by k_dflt decide) | exact om_ile (by assumption) (by k_dflt decide) | exact om_igt (by assumption) (by k_dflt decide) | exact om_k3 (by assumption) (by assumption) | exact om_k1 (by assumption) (by assumption) (by assumption) | exact om_k2 (by assumption) (by assumption) (by assumption) (by assumption) (by k_dflt decide) | exact om_far2 (by assumption) (by assumption)) | (show @LE.le Int _ _ _; first | exact Int.natCast_nonneg _ | exact om_ige (by assumption) (by k_dflt decide) | exact om_k0 (by assumption) | exact om_s (by assumption) | exact om_p1 (by assumption) | exact om_k4 (by assumption) (by assumption) (by assumption) (by assumption) (by assumption) | exact om_far1 (by assumption) (by assumption) (by assumption)) | (show @Ne Nat _ _; first | exact om_gt1 (by assumption) | exact om_lt1 (by assumption) | exact om_gt2 (by assumption) | exact om_lt2 (by assumption) | exact om_gt3 (by assumption) | exact om_lt3 (by assumption) | exact om_c2 (by assumption) | exact om_c2' (by assumption) | exact om_c3 (by assumption) | exact om_c3' (by assumption) | exact om_c4 (by assumption) | exact om_c4' (by assumption) | exact om_s1 _ | exact Ne.symm (om_s1 _) | exact om_s2 _ | exact Ne.symm (om_s2 _) | exact om_s3 _ | exact Ne.symm (om_s3 _)) | (show @Eq _ _ _; first | exact om_tn (by assumption) (by assumption) | exact om_sc (by assumption)) | (show Not _; first | exact om_nz (by assumption)))))
  k_fill
  intro dp un gd cn cs a ccd cl outer A₀ base h₀ L m s Q E B F X N T hk hdp hun hret
  k_with_none
  (k_with "my k_enter" => first | ((refine' code_def ?k1 ?k2 ?k3 ?k4 ?k5 ?kA ?kF ?kK ?k6 ?k7 ?k8 ?k9 ?kB ?_ ?c2 ?c3 ?c4 ?c5; (case kA => exact rfl); (case kF => exact rfl); (case kK => first | exact rfl | assumption); (case k1 => k_asm); (case k2 => k_asm); (case k3 => k_asm); (case k4 => k_asm); (case k5 => k_asm); (case k6 => k_is); (case k7 => k_is); (case k8 => ktr_room); (case k9 => first | k_extra "bind" | exact BindsTo.of_eq rfl | exact binds_K (by k_in) rfl (by k_is) rfl rfl rfl | fail "k_enter: no rule for these arguments"); (case c5 => decide); (case kB => exact locs rfl); (case c2 => exact rfl); (case c3 => exact rfl); (case c4 => exact rfl); k_whole; intro g' L' h' FG' F' N' B' X' T'; (try dsimp only); (try k_lift B'); (try k_fold))))
  (k_with "my call ref" => first | ((k_here; (with_reducible show wpAny _ _ (call (Value.ref 201) _) _ _ _); k_dflt (refine' Calls.use (target_specG _ _ ?m1 ?m2 ?m3 ?m4 ?m5 ?p0 ?p1 ?p2) ?k1 ?k2 ?k3 ?k4 ?k5 ?kK ?kd ?ku ?_; (case k1 => k_asm); (case k2 => k_asm); (case k3 => k_asm); (case k4 => k_asm); (case k5 => k_asm); (case kK => first | exact rfl | assumption); (case kd => ktr_room); (case ku => ktr_units); (case m1 => k_mem); (case m2 => k_mem); (case m3 => k_mem); (case m4 => assumption); (case m5 => assumption); (case p0 => first | assumption | omega); (case p1 => first | assumption | omega); (case p2 => first | assumption | omega | exact (Coded.op (by assumption) _ (by omega) (by omega)).mp (by assumption)); k_whole); intro v9 news9 h9 tk9 F9 N9 hR9; obtain ⟨⟨t9, hv9⟩, hn9⟩ := hR9; subst hv9; subst news9; (try dsimp only))) | ((k_here; (with_reducible show wpAny _ _ (call (Value.ref 84) _) _ _ _); k_dflt (refine' Calls.use (get_sbx_spec _ _ ?p1 ?p2) ?k1 ?k2 ?k3 ?k4 ?k5 ?kK ?kd ?ku ?_; (case p1 => first | assumption | omega | exact (GoodWords.at (by assumption) (by omega) (by omega)).1); (case p2 => first | assumption | omega | exact (GoodWords.at (by assumption) (by omega) (by omega)).2.1); (case k1 => k_asm); (case k2 => k_asm); (case k3 => k_asm); (case k4 => k_asm); (case k5 => k_asm); (case kK => first | exact rfl | assumption); (case kd => ktr_room); (case ku => ktr_units); k_whole); intro v9 news9 h9 tk9 F9 N9 hR9; obtain ⟨⟨t9, hv9⟩, hn9⟩ := hR9; subst hv9; subst news9; (try dsimp only))) | ((k_here; (with_reducible show wpAny _ _ (call (Value.ref 63) _) _ _ _); k_dflt (refine' Calls.use (get_op_spec _ _ ?p1 ?p2) ?k1 ?k2 ?k3 ?k4 ?k5 ?kK ?kd ?ku ?_; (case p1 => first | assumption | omega | exact (GoodWords.at (by assumption) (by omega) (by omega)).1); (case p2 => first | assumption | omega | exact (GoodWords.at (by assumption) (by omega) (by omega)).2.1); (case k1 => k_asm); (case k2 => k_asm); (case k3 => k_asm); (case k4 => k_asm); (case k5 => k_asm); (case kK => first | exact rfl | assumption); (case kd => ktr_room); (case ku => ktr_units); k_whole); intro v9 news9 h9 tk9 F9 N9 hR9; obtain ⟨⟨t9, hv9⟩, hn9⟩ := hR9; subst hv9; subst news9; (try dsimp only))))
  (k_with "my ite" => first | ((first | (refine ite_neg (by (try simp only [beq_iff_eq, bne_iff_ne, ne_eq, decide_eq_true_eq, Bool.not_eq_true', decide_eq_false_iff_not, beq_eq_false_iff_ne, Bool.and_eq_true, Bool.or_eq_true]); first | assumption | omega) ?_) | (refine ite_pos (by (try simp only [beq_iff_eq, bne_iff_ne, ne_eq, decide_eq_true_eq, Bool.not_eq_true', decide_eq_false_iff_not, beq_eq_false_iff_ne, Bool.and_eq_true, Bool.or_eq_true]); first | assumption | omega) ?_))))
  (k_with "my k_mem" => first | (assumption))
  (k_with "my news_mem" => first | (k_mem))
  (k_with "my k_all" => first | (first | exact all_ne_of_lt (by assumption) | exact all_ne_of_allLt (by assumption) | exact all_ne_of_allLt (And.right (by assumption)) | exact all_ne_of_allLt (And.right (And.right (by assumption))) | exact all_ne_of_allLt (And.right (And.right (And.right (by assumption)))) | exact all_ne_of_allLt (And.right (And.right (And.right (And.right (by assumption))))) | exact all_ne_of_allLt (And.right (And.right (And.right (And.right (And.right (by assumption)))))) | exact all_ne_of_allLt (And.right (And.right (And.right (And.right (And.right (And.right (by assumption))))))) | exact all_ne_of_allLt (And.right (And.right (And.right (And.right (And.right (And.right (And.right (by assumption)))))))) | exact all_ne_of_allLt (And.right (And.right (And.right (And.right (And.right (And.right (And.right (And.right (by assumption)))))))))))
  (k_with "my compareOp NotIn int ref" => first | ((k_here; k_dflt (refine' kdg_notin (knd := PySem.intKind _ _) ?N ?m ?d ?lo (intKind_is _ _ _ _) _ (seen_isSome _ _) ?_; (case N => k_asm); (case m => k_mem); (case d => k_asm); (case lo => k_asm)); (try dsimp only))))
  (k_with "my compareOp In int ref" => first | ((k_here; k_dflt (refine' kda_in (knd := PySem.intKind _ _) ?N ?m ?d ?lo (intKind_is _ _ _ _) _ (seen_isSome _ _) ?_; (case N => k_asm); (case m => k_mem); (case d => k_asm); (case lo => k_asm)); (try dsimp only))))
  (k_with "my setItem ref int" => first | ((k_here; k_dflt (refine' kda_set (knd := PySem.intKind _ _) ?F ?N ?U ?d (intKind_is _ _ _ _) ?z ?_; (case F => k_asm); (case N => k_asm); (case U => k_updF); (case d => k_asm); (case z => exact seen_size (by assumption) (by first | assumption | simp_all) (by assumption))); intro h' o' F' N' hd'; (try dsimp only at N'))))
  (k_with "my SeenPost" => first | ((dsimp only [SeenPost])))
  (k_with "my SeenEnd" => first | ((refine SeenEnd.intro (by k_asm) (by k_asm) (fun p hp => hp) (Coded.inn (by assumption)) (by assumption) (by assumption) ((Coded.op (by assumption) _ (by omega) (by omega)).mp (by assumption)) (by assumption) (by with_unfolding_all rfl) (by (intro z hz; (try dsimp only); first | rfl | (simp [hz]; done))))))
  (k_with "my omega" => (k_whole; first | with_reducible assumption | k_dflt decide | with_reducible (first | (show @LT.lt Nat _ _ _; first | exact om_r0 (by assumption) | exact om_r1 (by assumption) (by k_dflt (exact rfl)) | exact om_r2 (by assumption) (by k_dflt (exact rfl)) | exact om_d1 (by assumption) (by assumption) (by k_dflt (exact rfl)) | exact om_d2 (by assumption) (by assumption) (by k_dflt (exact rfl)) | exact om_nlt (by assumption) (by k_dflt (exact rfl)) | exact om_meas (by assumption)) | (show @LE.le Nat _ _ _; first | exact om_le (by assumption) (by k_dflt (exact rfl)) | exact om_len (by assumption) (by assumption) (by k_dflt (exact rfl)) | exact om_len3 (by assumption) (by assumption) (by assumption) (by k_dflt (exact rfl)) | exact om_l16 (by assumption) (by assumption) (by assumption) (by assumption)) | (show @LT.lt Int _ _ _; first | exact om_cast (by assumption) | exact om_caste (by assumption) (by assumption) | exact om_eqlt (by assumption) (by assumption) | exact om_clen (by assumption) (by assumption) (by k_dflt decide) | exact om_ilen (by assumption) (by assumption) (by k_dflt decide) | exact om_cle (by assumption) (by k_dflt decide) | exact om_ilt (by assumption) (by k_dflt decide) | exact om_ile (by assumption) (by k_dflt decide) | exact om_igt (by assumption) (by k_dflt decide) | exact om_k3 (by assumption) (by assumption) | exact om_k1 (by assumption) (by assumption) (by assumption) | exact om_k2 (by assumption) (by assumption) (by assumption) (by assumption) (by k_dflt decide) | exact om_far2 (by assumption) (by assumption)) | (show @LE.le Int _ _ _; first | exact Int.natCast_nonneg _ | exact om_ige (by assumption) (by k_dflt decide) | exact om_k0 (by assumption) | exact om_s (by assumption) | exact om_p1 (by assumption) | exact om_k4 (by assumption) (by assumption) (by assumption) (by assumption) (by assumption) | exact om_far1 (by assumption) (by assumption) (by assumption)) | (show @Ne Nat _ _; first | exact om_gt1 (by assumption) | exact om_lt1 (by assumption) | exact om_gt2 (by assumption) | exact om_lt2 (by assumption) | exact om_gt3 (by assumption) | exact om_lt3 (by assumption) | exact om_c2 (by assumption) | exact om_c2' (by assumption) | exact om_c3 (by assumption) | exact om_c3' (by assumption) | exact om_c4 (by assumption) | exact om_c4' (by assumption) | exact om_s1 _ | exact Ne.symm (om_s1 _) | exact om_s2 _ | exact Ne.symm (om_s2 _) | exact om_s3 _ | exact Ne.symm (om_s3 _)) | (show @Eq _ _ _; first | exact om_tn (by assumption) (by assumption) | exact om_sc (by assumption)) | (show Not _; first | exact om_nz (by assumption)))))
  (k_with "bind" => first | exact BindsTo.of_eq (binds := [("p", _), ("pc", _)]) rfl | exact BindsTo.of_eq (binds := [("p", _)]) rfl)
  (k_with "getAttr ref" => (k_here; (with_reducible show wpAny _ _ (getAttr (Value.ref _) (PySem.Str.ofString "code") _) _ _ _); k_dflt (refine' get_code ?k1 ?k2 ?k3 ?k4 ?k5 ?_; (case k1 => k_asm); (case k2 => k_asm); (case k3 => k_asm); (case k4 => k_mem); (case k5 => k_mem); k_whole)))
  iterate 30 (first | (k_unfold; (try dsimp only)) | walk1 | (dsimp only; walk1))
  (k_here; (rename Fr _ _ _ _ => lF'); (rename News _ _ _ _ => lN'); (with_unfolding_all refine' while_seen gs pc lF' lN' (by assumption) (by rfl) (Seek.start hW.inn h0 h1 h2) ?_ (by passes_own)); (all_goals (try clear lF' lN')); (intro oS ks x tx kH kTk kFacts kInv hx0 hx1 kFr kNews); (all_goals (try k_fold)))
  k_steps
  all_goals first
    | exact hret _ news _ _ (by k_asm) (kst_newsOf (by k_asm) (fun p hp => List.Mem.tail _ hp)) ⟨int_eq _ (goalEnd_in kInv (by assumption)), rfl⟩
    | exact hret _ news _ _ (by k_asm) (kst_newsOf (by k_asm) (fun p hp => List.Mem.tail _ hp)) ⟨int_eq _ (goalEnd_out kInv (fun hg => absurd ((hW.op _ (by omega) (by omega)).mpr hg) (by assumption)) (by assumption)), rfl⟩


/-! P8 -/
theorem getD_mem_bound {gs : List Int} {i : Int} (h0 : 0 ≤ i) (h1 : i < gs.length) : i.toNat < gs.length := by lia
theorem chase_in {gs : List Int} (G : GoalsIn gs) : ∀ (f : Nat) (ks : List Int) (x : Int), 0 ≤ x → x < gs.length → 0 ≤ (chase gs f ks x).2 ∧ (chase gs f ks x).2 < gs.length
  | 0, _, _, h0, h1 => ⟨h0, h1⟩
  | f + 1, ks, x, h0, h1 => by
    simp only [chase]
    split
    · rename_i h
      exact chase_in G f _ _ h.1 (G x h0 h1)
    · exact ⟨h0, h1⟩
theorem goalEnd_in01 {gs : List Int} (G : GoalsIn gs) {i : Int} (h0 : 0 ≤ i) (h1 : i < gs.length) (hg : 0 ≤ gs.getD i.toNat 0) : 0 ≤ goalEnd gs i ∧ goalEnd gs i < gs.length := by
  unfold goalEnd
  split
  · exact ⟨hg, G i h0 h1⟩
  · exact chase_in G _ _ _ hg (G i h0 h1)
/-- the word at place i behind thread_jumps -/
noncomputable def newWord (gs cs : List Int) (most : Int) (i : Nat) : Int :=
  if 0 ≤ gs.getD i 0 then (if (if goalEnd gs (i : Int) - (i : Int) - 1 < 0 then -(goalEnd gs (i : Int) - (i : Int) - 1) else goalEnd gs (i : Int) - (i : Int) - 1) ≤ most then setSbx (cs.getD i 0) (goalEnd gs (i : Int) - (i : Int) - 1) else cs.getD i 0) else cs.getD i 0
noncomputable def mixed (gs cs : List Int) (most : Int) (k : Nat) : List Int := (List.range cs.length).map fun j => if j < k then newWord gs cs most j else cs.getD j 0
theorem mixed_length (gs cs : List Int) (most : Int) (k : Nat) : (mixed gs cs most k).length = cs.length := by simp [mixed]
theorem mixed_zero (gs cs : List Int) (most : Int) : cs = mixed gs cs most 0 := by
  refine List.ext_getElem (mixed_length _ _ _ _).symm fun i h1 h2 => ?_
  simp [mixed, List.getD, h1]
theorem mixed_stay {gs cs : List Int} {most : Int} {k : Nat} (h : newWord gs cs most k = cs.getD k 0) : mixed gs cs most (k + 1) = mixed gs cs most k := by
  refine List.ext_getElem (by rw [mixed_length, mixed_length]) fun i h1 h2 => ?_
  simp only [mixed, List.getElem_map, List.getElem_range]
  by_cases h3 : i < k
  · rw [if_pos h3, if_pos (by lia)]
  · by_cases h4 : i = k
    · subst h4
      rw [if_pos (by lia), if_neg (by lia), h]
    · rw [if_neg h3, if_neg (by lia)]
theorem mixed_set {gs cs : List Int} {most : Int} {k : Nat} {v : Int} (h : newWord gs cs most k = v) : (mixed gs cs most k).set k v = mixed gs cs most (k + 1) := by
  refine List.ext_getElem (by rw [List.length_set, mixed_length, mixed_length]) fun i h1 h2 => ?_
  rw [List.getElem_set]
  simp only [mixed, List.getElem_map, List.getElem_range]
  by_cases h4 : k = i
  · subst h4
    rw [if_pos rfl, if_pos (by lia), h]
  · rw [if_neg h4]
    by_cases h3 : i < k
    · rw [if_pos h3, if_pos (by lia)]
    · rw [if_neg h3, if_neg (by lia)]
theorem upTo_length (n : Nat) : (upTo n).length = n := by simp [upTo]
theorem upTo_split {N : Nat} {pre post : List Int} {n : Int} (h : upTo N = pre ++ n :: post) : n = (pre.length : Int) ∧ pre.length < N := by
  have hl : pre.length < (upTo N).length := by rw [h, List.length_append, List.length_cons]; lia
  have e : (upTo N)[pre.length]? = some n := by rw [h]; simp
  rw [upTo_length] at hl
  refine ⟨?_, hl⟩
  unfold upTo at e
  rw [List.getElem?_map, List.getElem?_range hl] at e
  exact (Option.some.inj e).symm
theorem Calls.mono {w : World} {loose : List Str} {mean : ExcName → Option Value} {mg mb : Str → Option Value} {f : Addr} {news : List (Addr × Obj)} {vs : List Value} {dd uu : Nat} {R R' : Value → List (Addr × Obj) → Prop}
    (C : Calls w loose mean mg mb f news vs dd uu R) (h : ∀ v n, R v n → R' v n) : Calls w loose mean mg mb f news vs dd uu R' :=
  fun dp un gd cn cs a ccd cl outer A₀ base h₀ L m s Q E B F X N T hk hd hu ret => C dp un gd cn cs a ccd cl outer A₀ base h₀ L m s Q E B F X N T hk hd hu fun v n h' tk' F' N' r => ret v n h' tk' F' N' (h v n r)
theorem end_of_jumps_specB {w : World} {loose mean mg mb news} {P dP c k p l o u : Addr} {z : PZ} {vs : List Value} {gs cs : List Int} {n : Nat} (pc : Int) (t : Tok)
    (hP : (P, instObj 178 dP) ∈ news) (hD : (dP, protoDict w.params z c k p l o u) ∈ news) (hC : (c, listOf vs.toArray n) ∈ news) (hI : IntsAre vs cs) (hW : Coded gs cs) (h0 : 0 ≤ pc) (h1 : pc < gs.length) (h2 : 0 ≤ gs.getD pc.toNat 0) :
    Calls w loose mean mg mb 213 news [.ref P, .int pc t] 12 60 (fun v news' => (∃ t', v = .int (goalEnd gs pc) t' ∧ 0 ≤ goalEnd gs pc ∧ goalEnd gs pc < gs.length) ∧ news' = news) :=
  (end_of_jumps_spec pc t hP hD hC hI hW h0 h1 h2).mono fun v n h => by
    obtain ⟨⟨t', hv⟩, hn⟩ := h
    exact ⟨⟨t', hv, goalEnd_in01 hW.inn h0 h1 h2⟩, hn⟩


/-! P9 -/
theorem turn_a {gs cs xs pre : List Int} {most n : Int} (hW : Coded gs cs) (hn : n = (pre.length : Int)) (hk : pre.length < cs.length) (hl : xs.length = cs.length) (hx : xs = mixed gs cs most pre.length) (hop : ¬ opOf (cs.getD n.toNat 0) = 22) :
    xs.length = cs.length ∧ xs = mixed gs cs most (pre ++ [n]).length := by
  subst hn
  refine ⟨hl, ?_⟩
  rw [List.length_append, List.length_singleton, mixed_stay]
  · exact hx
  · unfold newWord
    rw [if_neg]
    intro h
    exact hop ((hW.op (pre.length : Int) (by lia) (by rw [← hW.len]; lia)).mpr h)
theorem turn_c {gs cs xs pre : List Int} {most n : Int} (hn : n = (pre.length : Int)) (hl : xs.length = cs.length) (hx : xs = mixed gs cs most pre.length)
    (hf : ¬ (if goalEnd gs n - n - 1 < 0 then -(goalEnd gs n - n - 1) else goalEnd gs n - n - 1) ≤ most) : xs.length = cs.length ∧ xs = mixed gs cs most (pre ++ [n]).length := by
  subst hn
  refine ⟨hl, ?_⟩
  rw [List.length_append, List.length_singleton, mixed_stay]
  · exact hx
  · unfold newWord
    by_cases hg : 0 ≤ gs.getD pre.length 0
    · rw [if_pos hg, if_neg hf]
    · rw [if_neg hg]
theorem turn_b {gs cs xs pre : List Int} {most n : Int} (hW : Coded gs cs) (hn : n = (pre.length : Int)) (hk : pre.length < cs.length) (hl : xs.length = cs.length) (hx : xs = mixed gs cs most pre.length) (hop : opOf (cs.getD n.toNat 0) = 22)
    (hf : (if goalEnd gs n - n - 1 < 0 then -(goalEnd gs n - n - 1) else goalEnd gs n - n - 1) ≤ most) : (xs.set n.toNat (setSbx (cs.getD n.toNat 0) (goalEnd gs n - n - 1))).length = cs.length ∧ xs.set n.toNat (setSbx (cs.getD n.toNat 0) (goalEnd gs n - n - 1)) = mixed gs cs most (pre ++ [n]).length := by
  subst hn
  refine ⟨by rw [List.length_set]; exact hl, ?_⟩
  rw [List.length_append, List.length_singleton, hx]
  refine mixed_set ?_
  unfold newWord
  have h := (hW.op (pre.length : Int) (by lia) (by rw [← hW.len]; lia)).mp hop
  simp only [Int.toNat_natCast] at h ⊢
  rw [if_pos h, if_pos hf]
/-- the words behind thread_jumps -/
noncomputable def threaded (gs cs : List Int) (most : Int) : List Int := mixed gs cs most cs.length
theorem mixed_all {gs cs xs : List Int} {most : Int} (h : xs = mixed gs cs most (upTo cs.length).length) : xs = threaded gs cs most := by
  rw [upTo_length] at h
  exact h

/-! P10 -/
theorem compEnd_4 {h₀ : Heap} {L I C D : Addr} {m : Str → Option Value} {s₁ : Shared} {oI oC oD : Obj} {S : List (Addr × Obj) → Prop} {rest : Value → List (Addr × Obj) → Prop} {y : Value} {h' : Heap} {tk : Nat} {a1 a2 a3 a4 : Addr × Obj} {l : List (Addr × Obj)}
    (F : Fr h₀ L h' m) (N : News h₀ L h' (a1 :: a2 :: a3 :: a4 :: (I, oI) :: (C, oC) :: (D, oD) :: l)) (off : LCg.Off3 I C D l)
    (o1 : (@Ne Nat a1.1 I) ∧ (@Ne Nat a1.1 C) ∧ (@Ne Nat a1.1 D)) (o2 : (@Ne Nat a2.1 I) ∧ (@Ne Nat a2.1 C) ∧ (@Ne Nat a2.1 D)) (o3 : (@Ne Nat a3.1 I) ∧ (@Ne Nat a3.1 C) ∧ (@Ne Nat a3.1 D)) (o4 : (@Ne Nat a4.1 I) ∧ (@Ne Nat a4.1 C) ∧ (@Ne Nat a4.1 D))
    (hS : S (a1 :: a2 :: a3 :: a4 :: l)) (r : rest y (a1 :: a2 :: a3 :: a4 :: l)) : LCg.CompEnd h₀ L m s₁ I oI C oC D oD S rest y { s₁ with heap := h', toks := tk } := by
  refine LCg.CompEnd.intro F N (a1 :: a2 :: a3 :: a4 :: l) (fun p hp => ?_) ⟨o1, o2, o3, o4, off⟩ hS r
  simp only [List.mem_cons] at hp ⊢
  rcases hp with h | h | h | h | h | h | h | h <;> simp [h]

/-! P12 -/
theorem updF_upd {d : Addr} {o o' : Obj} : ∀ {l : List (Addr × Obj)} {g : Obj → List (Addr × Obj)}, UpdF d o l g → Upd d o o' l (g o')
  | _, _, .head h => .head h
  | _, _, .tail h r => .tail h (updF_upd r)
theorem updF_mem {d : Addr} {o : Obj} : ∀ {l : List (Addr × Obj)} {g : Obj → List (Addr × Obj)}, UpdF d o l g → (d, o) ∈ l
  | _, _, .head _ => .head _
  | _, _, .tail _ r => .tail _ (updF_mem r)
theorem updF_keep {d : Addr} {o o' : Obj} {p : Addr × Obj} (hne : p.1 ≠ d) : ∀ {l : List (Addr × Obj)} {g : Obj → List (Addr × Obj)}, UpdF d o l g → p ∈ l → p ∈ g o'
  | _, _, .head _, h => by
    rcases List.mem_cons.mp h with rfl | h
    · exact absurd rfl hne
    · exact .tail _ h
  | _, _, .tail _ r, h => by
    rcases List.mem_cons.mp h with rfl | h
    · exact .head _
    · exact .tail _ (updF_keep hne r h)
theorem drawn_spec {w : World} {loose mean mg mb news} {U Bl : Addr} {vb : List Value} {bs : List Int} {nU nB : Nat} {g : Obj → List (Addr × Obj)} (turn many : Int) (tt t : Tok)
    (hU : UpdF U (listOf #[.ref Bl, .int turn tt] nU) news g) (hB : (Bl, listOf vb.toArray nB) ∈ news) (hne : (Bl, listOf vb.toArray nB).1 ≠ U) (hI : IntsAre vb bs) (hlen : bs.length ≤ 63) (h0 : 0 ≤ turn) (h1 : turn ≤ 100) (hm0 : 0 < many) (hm1 : many ≤ 100) :
    Calls w loose mean mg mb 226 news [.ref U, .int many t] 10 60 (fun v news' => ∃ (x : Int) (t' t'' : Tok), v = .int x t' ∧ 0 ≤ x ∧ x < many ∧ news' = g (listOf #[.ref Bl, .int (turn + 1) t''] nU)) := by
  have hUm := updF_mem hU
  unfold Calls
  w_top off
  k_with_none
  (k_with "my k_enter" => first | ((refine' code_def ?k1 ?k2 ?k3 ?k4 ?k5 ?kA ?kF ?kK ?k6 ?k7 ?k8 ?k9 ?kB ?_ ?c2 ?c3 ?c4 ?c5; (case kA => exact rfl); (case kF => exact rfl); (case kK => first | exact rfl | assumption); (case k1 => k_asm); (case k2 => k_asm); (case k3 => k_asm); (case k4 => k_asm); (case k5 => k_asm); (case k6 => k_is); (case k7 => k_is); (case k8 => ktr_room); (case k9 => first | k_extra "bind" | exact BindsTo.of_eq rfl | exact binds_K (by k_in) rfl (by k_is) rfl rfl rfl | fail "k_enter: no rule for these arguments"); (case c5 => decide); (case kB => exact locs rfl); (case c2 => exact rfl); (case c3 => exact rfl); (case c4 => exact rfl); k_whole; intro g' L' h' FG' F' N' B' X' T'; (try dsimp only); (try k_lift B'); (try k_fold))))
  (k_with "my ite" => first | ((first | (refine ite_neg (by (try simp only [beq_iff_eq, bne_iff_ne, ne_eq, decide_eq_true_eq, Bool.not_eq_true', decide_eq_false_iff_not, beq_eq_false_iff_ne, Bool.and_eq_true, Bool.or_eq_true]); first | assumption | omega) ?_) | (refine ite_pos (by (try simp only [beq_iff_eq, bne_iff_ne, ne_eq, decide_eq_true_eq, Bool.not_eq_true', decide_eq_false_iff_not, beq_eq_false_iff_ne, Bool.and_eq_true, Bool.or_eq_true]); first | assumption | omega) ?_))))
  (k_with "my k_mem" => first | (exact updF_keep (by assumption) (by assumption) (by assumption)) | (assumption))
  (k_with "my news_mem" => first | (k_mem))
  (k_with "my k_all" => first | (first | exact all_ne_of_lt (by assumption) | exact all_ne_of_allLt (by assumption) | exact all_ne_of_allLt (And.right (by assumption)) | exact all_ne_of_allLt (And.right (And.right (by assumption))) | exact all_ne_of_allLt (And.right (And.right (And.right (by assumption)))) | exact all_ne_of_allLt (And.right (And.right (And.right (And.right (by assumption))))) | exact all_ne_of_allLt (And.right (And.right (And.right (And.right (And.right (by assumption)))))) | exact all_ne_of_allLt (And.right (And.right (And.right (And.right (And.right (And.right (by assumption))))))) | exact all_ne_of_allLt (And.right (And.right (And.right (And.right (And.right (And.right (And.right (by assumption)))))))) | exact all_ne_of_allLt (And.right (And.right (And.right (And.right (And.right (And.right (And.right (And.right (by assumption)))))))))))
  (k_with "my k_upd" => first | (exact updF_upd (by assumption)))
  (k_with "bind" => first | exact BindsTo.of_eq (binds := [("word", _), ("pos", _), ("size", _)]) rfl | exact BindsTo.of_eq (binds := [("word", _), ("value", _), ("pos", _), ("size", _)]) rfl | exact BindsTo.of_eq (binds := [("op", _), ("a", _), ("b", _), ("c", _)]) rfl | exact BindsTo.of_eq (binds := [("op", _), ("a", _), ("bx", _)]) rfl | exact BindsTo.of_eq (binds := [("op", _), ("a", _), ("sbx", _)]) rfl | exact BindsTo.of_eq (binds := [("word", _)]) rfl | exact BindsTo.of_eq (binds := [("word", _), ("bx", _)]) rfl | exact BindsTo.of_eq (binds := [("word", _), ("sbx", _)]) rfl | exact BindsTo.of_eq (binds := [("p", _), ("pc", _)]) rfl | exact BindsTo.of_eq (binds := [("p", _)]) rfl | exact BindsTo.of_eq (binds := [("urn", _), ("many", _)]) rfl | exact BindsTo.of_eq (binds := [("goals", _), ("at", _), ("most", _)]) rfl | exact BindsTo.of_eq (binds := [("goals", _), ("others", _)]) rfl | exact BindsTo.of_eq (binds := [("script", _)]) rfl | exact BindsTo.of_eq (binds := [("self", _)]) rfl | exact BindsTo.of_eq (binds := [("self", _), ("number", _), ("size", _)]) rfl)
  (k_with "my storeName" => first | (k_here; k_dflt (refine' store_let ?F ?N ?_ ?a ?b; (case F => k_asm); (case N => k_asm); (case a => rfl); (case b => rfl); k_whole; intro h' m' F' N'; (try k_sweep))))
  (k_with "my omega" => (k_whole; first | with_reducible assumption | k_dflt decide | with_reducible (first | (show @LT.lt Nat _ _ _; first | exact om_r0 (by assumption) | exact om_r1 (by assumption) (by k_dflt (exact rfl)) | exact om_r2 (by assumption) (by k_dflt (exact rfl)) | exact om_d1 (by assumption) (by assumption) (by k_dflt (exact rfl)) | exact om_d2 (by assumption) (by assumption) (by k_dflt (exact rfl)) | exact om_nlt (by assumption) (by k_dflt (exact rfl)) | exact om_meas (by assumption)) | (show @LE.le Nat _ _ _; first | exact om_le (by assumption) (by k_dflt (exact rfl)) | exact om_len (by assumption) (by assumption) (by k_dflt (exact rfl)) | exact om_len3 (by assumption) (by assumption) (by assumption) (by k_dflt (exact rfl)) | exact om_l16 (by assumption) (by assumption) (by assumption) (by assumption)) | (show @LT.lt Int _ _ _; first | exact om_cast (by assumption) | exact om_caste (by assumption) (by assumption) | exact om_eqlt (by assumption) (by assumption) | exact om_clen (by assumption) (by assumption) (by k_dflt decide) | exact om_ilen (by assumption) (by assumption) (by k_dflt decide) | exact om_cle (by assumption) (by k_dflt decide) | exact om_ilt (by assumption) (by k_dflt decide) | exact om_ile (by assumption) (by k_dflt decide) | exact om_igt (by assumption) (by k_dflt decide) | exact om_k3 (by assumption) (by assumption) | exact om_k1 (by assumption) (by assumption) (by assumption) | exact om_k2 (by assumption) (by assumption) (by assumption) (by assumption) (by k_dflt decide) | exact om_far2 (by assumption) (by assumption)) | (show @LE.le Int _ _ _; first | exact Int.natCast_nonneg _ | exact om_ige (by assumption) (by k_dflt decide) | exact om_k0 (by assumption) | exact om_s (by assumption) | exact om_p1 (by assumption) | exact om_k4 (by assumption) (by assumption) (by assumption) (by assumption) (by assumption) | exact om_far1 (by assumption) (by assumption) (by assumption)) | (show @Ne Nat _ _; first | exact om_gt1 (by assumption) | exact om_lt1 (by assumption) | exact om_gt2 (by assumption) | exact om_lt2 (by assumption) | exact om_gt3 (by assumption) | exact om_lt3 (by assumption) | exact om_c2 (by assumption) | exact om_c2' (by assumption) | exact om_c3 (by assumption) | exact om_c3' (by assumption) | exact om_c4 (by assumption) | exact om_c4' (by assumption) | exact om_s1 _ | exact Ne.symm (om_s1 _) | exact om_s2 _ | exact Ne.symm (om_s2 _) | exact om_s3 _ | exact Ne.symm (om_s3 _)) | (show @Eq _ _ _; first | exact om_tn (by assumption) (by assumption) | exact om_sc (by assumption)) | (show Not _; first | exact om_nz (by assumption)))))
  k_fill
  intro dp un gd cn cs a ccd cl outer A₀ base h₀ L m s Q E B F X N T hk hdp hun hret
  k_with_none
  (k_with "my k_enter" => first | ((refine' code_def ?k1 ?k2 ?k3 ?k4 ?k5 ?kA ?kF ?kK ?k6 ?k7 ?k8 ?k9 ?kB ?_ ?c2 ?c3 ?c4 ?c5; (case kA => exact rfl); (case kF => exact rfl); (case kK => first | exact rfl | assumption); (case k1 => k_asm); (case k2 => k_asm); (case k3 => k_asm); (case k4 => k_asm); (case k5 => k_asm); (case k6 => k_is); (case k7 => k_is); (case k8 => ktr_room); (case k9 => first | k_extra "bind" | exact BindsTo.of_eq rfl | exact binds_K (by k_in) rfl (by k_is) rfl rfl rfl | fail "k_enter: no rule for these arguments"); (case c5 => decide); (case kB => exact locs rfl); (case c2 => exact rfl); (case c3 => exact rfl); (case c4 => exact rfl); k_whole; intro g' L' h' FG' F' N' B' X' T'; (try dsimp only); (try k_lift B'); (try k_fold))))
  (k_with "my ite" => first | ((first | (refine ite_neg (by (try simp only [beq_iff_eq, bne_iff_ne, ne_eq, decide_eq_true_eq, Bool.not_eq_true', decide_eq_false_iff_not, beq_eq_false_iff_ne, Bool.and_eq_true, Bool.or_eq_true]); first | assumption | omega) ?_) | (refine ite_pos (by (try simp only [beq_iff_eq, bne_iff_ne, ne_eq, decide_eq_true_eq, Bool.not_eq_true', decide_eq_false_iff_not, beq_eq_false_iff_ne, Bool.and_eq_true, Bool.or_eq_true]); first | assumption | omega) ?_))))
  (k_with "my k_mem" => first | (exact updF_keep (by assumption) (by assumption) (by assumption)) | (assumption))
  (k_with "my news_mem" => first | (k_mem))
  (k_with "my k_all" => first | (first | exact all_ne_of_lt (by assumption) | exact all_ne_of_allLt (by assumption) | exact all_ne_of_allLt (And.right (by assumption)) | exact all_ne_of_allLt (And.right (And.right (by assumption))) | exact all_ne_of_allLt (And.right (And.right (And.right (by assumption)))) | exact all_ne_of_allLt (And.right (And.right (And.right (And.right (by assumption))))) | exact all_ne_of_allLt (And.right (And.right (And.right (And.right (And.right (by assumption)))))) | exact all_ne_of_allLt (And.right (And.right (And.right (And.right (And.right (And.right (by assumption))))))) | exact all_ne_of_allLt (And.right (And.right (And.right (And.right (And.right (And.right (And.right (by assumption)))))))) | exact all_ne_of_allLt (And.right (And.right (And.right (And.right (And.right (And.right (And.right (And.right (by assumption)))))))))))
  (k_with "my k_upd" => first | (exact updF_upd (by assumption)))
  (k_with "bind" => first | exact BindsTo.of_eq (binds := [("word", _), ("pos", _), ("size", _)]) rfl | exact BindsTo.of_eq (binds := [("word", _), ("value", _), ("pos", _), ("size", _)]) rfl | exact BindsTo.of_eq (binds := [("op", _), ("a", _), ("b", _), ("c", _)]) rfl | exact BindsTo.of_eq (binds := [("op", _), ("a", _), ("bx", _)]) rfl | exact BindsTo.of_eq (binds := [("op", _), ("a", _), ("sbx", _)]) rfl | exact BindsTo.of_eq (binds := [("word", _)]) rfl | exact BindsTo.of_eq (binds := [("word", _), ("bx", _)]) rfl | exact BindsTo.of_eq (binds := [("word", _), ("sbx", _)]) rfl | exact BindsTo.of_eq (binds := [("p", _), ("pc", _)]) rfl | exact BindsTo.of_eq (binds := [("p", _)]) rfl | exact BindsTo.of_eq (binds := [("urn", _), ("many", _)]) rfl | exact BindsTo.of_eq (binds := [("goals", _), ("at", _), ("most", _)]) rfl | exact BindsTo.of_eq (binds := [("goals", _), ("others", _)]) rfl | exact BindsTo.of_eq (binds := [("script", _)]) rfl | exact BindsTo.of_eq (binds := [("self", _)]) rfl | exact BindsTo.of_eq (binds := [("self", _), ("number", _), ("size", _)]) rfl)
  (k_with "my storeName" => first | (k_here; k_dflt (refine' store_let ?F ?N ?_ ?a ?b; (case F => k_asm); (case N => k_asm); (case a => rfl); (case b => rfl); k_whole; intro h' m' F' N'; (try k_sweep))))
  (k_with "my omega" => (k_whole; first | with_reducible assumption | k_dflt decide | with_reducible (first | (show @LT.lt Nat _ _ _; first | exact om_r0 (by assumption) | exact om_r1 (by assumption) (by k_dflt (exact rfl)) | exact om_r2 (by assumption) (by k_dflt (exact rfl)) | exact om_d1 (by assumption) (by assumption) (by k_dflt (exact rfl)) | exact om_d2 (by assumption) (by assumption) (by k_dflt (exact rfl)) | exact om_nlt (by assumption) (by k_dflt (exact rfl)) | exact om_meas (by assumption)) | (show @LE.le Nat _ _ _; first | exact om_le (by assumption) (by k_dflt (exact rfl)) | exact om_len (by assumption) (by assumption) (by k_dflt (exact rfl)) | exact om_len3 (by assumption) (by assumption) (by assumption) (by k_dflt (exact rfl)) | exact om_l16 (by assumption) (by assumption) (by assumption) (by assumption)) | (show @LT.lt Int _ _ _; first | exact om_cast (by assumption) | exact om_caste (by assumption) (by assumption) | exact om_eqlt (by assumption) (by assumption) | exact om_clen (by assumption) (by assumption) (by k_dflt decide) | exact om_ilen (by assumption) (by assumption) (by k_dflt decide) | exact om_cle (by assumption) (by k_dflt decide) | exact om_ilt (by assumption) (by k_dflt decide) | exact om_ile (by assumption) (by k_dflt decide) | exact om_igt (by assumption) (by k_dflt decide) | exact om_k3 (by assumption) (by assumption) | exact om_k1 (by assumption) (by assumption) (by assumption) | exact om_k2 (by assumption) (by assumption) (by assumption) (by assumption) (by k_dflt decide) | exact om_far2 (by assumption) (by assumption)) | (show @LE.le Int _ _ _; first | exact Int.natCast_nonneg _ | exact om_ige (by assumption) (by k_dflt decide) | exact om_k0 (by assumption) | exact om_s (by assumption) | exact om_p1 (by assumption) | exact om_k4 (by assumption) (by assumption) (by assumption) (by assumption) (by assumption) | exact om_far1 (by assumption) (by assumption) (by assumption)) | (show @Ne Nat _ _; first | exact om_gt1 (by assumption) | exact om_lt1 (by assumption) | exact om_gt2 (by assumption) | exact om_lt2 (by assumption) | exact om_gt3 (by assumption) | exact om_lt3 (by assumption) | exact om_c2 (by assumption) | exact om_c2' (by assumption) | exact om_c3 (by assumption) | exact om_c3' (by assumption) | exact om_c4 (by assumption) | exact om_c4' (by assumption) | exact om_s1 _ | exact Ne.symm (om_s1 _) | exact om_s2 _ | exact Ne.symm (om_s2 _) | exact om_s3 _ | exact Ne.symm (om_s3 _)) | (show @Eq _ _ _; first | exact om_tn (by assumption) (by assumption) | exact om_sc (by assumption)) | (show Not _; first | exact om_nz (by assumption)))))
  k_steps
  all_goals exact hret _ _ _ _ (by k_asm) (by k_asm) ⟨_, _, _, rfl, fmod_lo _ hm0, fmod_hi _ hm0, rfl⟩


/-! P13 -/
/-- what _law_goal hands back -/
noncomputable def lawGoal (gs : List Int) (most i : Int) : Int :=
  if (chased gs i).2 ∈ (chased gs i).1 ∨ most < (if (chased gs i).2 - i - 1 < 0 then -((chased gs i).2 - i - 1) else (chased gs i).2 - i - 1) then gs.getD i.toNat 0 else (chased gs i).2
theorem Seek.short {gs : List Int} {i : Int} {ks : List Int} {x : Int} (S : Seek gs i ks x) : ks.length ≤ gs.length := nodup_bound _ _ S.nodup S.inn
theorem mem_of_any {ks : List Int} {x : Int} (h : (ks.any fun y => y == x) = true) : x ∈ ks := by
  obtain ⟨y, hy, e⟩ := List.any_eq_true.mp h
  have e' : y = x := by simpa using e
  exact e' ▸ hy
theorem not_mem_of_any {ks : List Int} {x : Int} (h : (ks.any fun y => y == x) = false) : x ∉ ks := fun hx => by
  have h' : (ks.any fun y => y == x) = true := List.any_eq_true.mpr ⟨x, hx, beq_self_eq_true x⟩
  rw [h] at h'
  cases h'
theorem lawGoal_in {gs ks : List Int} {i x most : Int} (S : Seek gs i ks x) (hx : x ∈ ks) : gs.getD i.toNat 0 = lawGoal gs most i := by
  have e := S.ends (fun h => h.2 hx)
  unfold lawGoal
  rw [e, if_pos (Or.inl hx)]
theorem lawGoal_far {gs ks : List Int} {i x most : Int} (S : Seek gs i ks x) (hg : ¬ 0 ≤ gs.getD x.toNat 0) (hf : most < (if x - i - 1 < 0 then -(x - i - 1) else x - i - 1)) : gs.getD i.toNat 0 = lawGoal gs most i := by
  have e := S.ends (fun h => hg h.1)
  unfold lawGoal
  rw [e, if_pos (Or.inr hf)]
theorem lawGoal_out {gs ks : List Int} {i x most : Int} (S : Seek gs i ks x) (hg : ¬ 0 ≤ gs.getD x.toNat 0) (hx : x ∉ ks) (hf : ¬ most < (if x - i - 1 < 0 then -(x - i - 1) else x - i - 1)) : x = lawGoal gs most i := by
  have e := S.ends (fun h => hg h.1)
  unfold lawGoal
  rw [e, if_neg (fun h => h.elim hx hf)]
theorem law_goal_spec {w : World} {loose mean mg mb news} {Gl : Addr} {vg : List Value} {gs : List Int} {nG : Nat} (i most : Int) (t1 t2 : Tok)
    (hB : (Gl, listOf vg.toArray nG) ∈ news) (hI : IntsAre vg gs) (hle : gs.length ≤ 10) (hG : GoalsIn gs) (h0 : 0 ≤ i) (h1 : i < gs.length) (h2 : 0 ≤ gs.getD i.toNat 0) :
    Calls w loose mean mg mb 233 news [.ref Gl, .int i t1, .int most t2] 10 60 (fun v news' => (∃ t', v = .int (lawGoal gs most i) t') ∧ news' = news) := by
  unfold Calls
  w_top off
  k_with_none
  (k_with "my k_enter" => first | ((refine' code_def ?k1 ?k2 ?k3 ?k4 ?k5 ?kA ?kF ?kK ?k6 ?k7 ?k8 ?k9 ?kB ?_ ?c2 ?c3 ?c4 ?c5; (case kA => exact rfl); (case kF => exact rfl); (case kK => first | exact rfl | assumption); (case k1 => k_asm); (case k2 => k_asm); (case k3 => k_asm); (case k4 => k_asm); (case k5 => k_asm); (case k6 => k_is); (case k7 => k_is); (case k8 => ktr_room); (case k9 => first | k_extra "bind" | exact BindsTo.of_eq rfl | exact binds_K (by k_in) rfl (by k_is) rfl rfl rfl | fail "k_enter: no rule for these arguments"); (case c5 => decide); (case kB => exact locs rfl); (case c2 => exact rfl); (case c3 => exact rfl); (case c4 => exact rfl); k_whole; intro g' L' h' FG' F' N' B' X' T'; (try dsimp only); (try k_lift B'); (try k_fold))))
  (k_with "my ite" => first | ((first | (refine ite_neg (by (try simp only [beq_iff_eq, bne_iff_ne, ne_eq, decide_eq_true_eq, Bool.not_eq_true', decide_eq_false_iff_not, beq_eq_false_iff_ne, Bool.and_eq_true, Bool.or_eq_true]); first | assumption | omega) ?_) | (refine ite_pos (by (try simp only [beq_iff_eq, bne_iff_ne, ne_eq, decide_eq_true_eq, Bool.not_eq_true', decide_eq_false_iff_not, beq_eq_false_iff_ne, Bool.and_eq_true, Bool.or_eq_true]); first | assumption | omega) ?_))))
  (k_with "my k_mem" => first | (assumption))
  (k_with "my news_mem" => first | (k_mem))
  (k_with "my k_all" => first | (first | exact all_ne_of_lt (by assumption) | exact all_ne_of_allLt (by assumption) | exact all_ne_of_allLt (And.right (by assumption)) | exact all_ne_of_allLt (And.right (And.right (by assumption))) | exact all_ne_of_allLt (And.right (And.right (And.right (by assumption)))) | exact all_ne_of_allLt (And.right (And.right (And.right (And.right (by assumption))))) | exact all_ne_of_allLt (And.right (And.right (And.right (And.right (And.right (by assumption)))))) | exact all_ne_of_allLt (And.right (And.right (And.right (And.right (And.right (And.right (by assumption))))))) | exact all_ne_of_allLt (And.right (And.right (And.right (And.right (And.right (And.right (And.right (by assumption)))))))) | exact all_ne_of_allLt (And.right (And.right (And.right (And.right (And.right (And.right (And.right (And.right (by assumption)))))))))))
  (k_with "bind" => first | exact BindsTo.of_eq (binds := [("word", _), ("pos", _), ("size", _)]) rfl | exact BindsTo.of_eq (binds := [("word", _), ("value", _), ("pos", _), ("size", _)]) rfl | exact BindsTo.of_eq (binds := [("op", _), ("a", _), ("b", _), ("c", _)]) rfl | exact BindsTo.of_eq (binds := [("op", _), ("a", _), ("bx", _)]) rfl | exact BindsTo.of_eq (binds := [("op", _), ("a", _), ("sbx", _)]) rfl | exact BindsTo.of_eq (binds := [("word", _)]) rfl | exact BindsTo.of_eq (binds := [("word", _), ("bx", _)]) rfl | exact BindsTo.of_eq (binds := [("word", _), ("sbx", _)]) rfl | exact BindsTo.of_eq (binds := [("p", _), ("pc", _)]) rfl | exact BindsTo.of_eq (binds := [("p", _)]) rfl | exact BindsTo.of_eq (binds := [("urn", _), ("many", _)]) rfl | exact BindsTo.of_eq (binds := [("goals", _), ("at", _), ("most", _)]) rfl | exact BindsTo.of_eq (binds := [("goals", _), ("others", _)]) rfl | exact BindsTo.of_eq (binds := [("script", _)]) rfl | exact BindsTo.of_eq (binds := [("self", _)]) rfl | exact BindsTo.of_eq (binds := [("self", _), ("number", _), ("size", _)]) rfl)
  (k_with "my omega" => (k_whole; first | with_reducible assumption | k_dflt decide | with_reducible (first | (show @LT.lt Nat _ _ _; first | exact om_r0 (by assumption) | exact om_r1 (by assumption) (by k_dflt (exact rfl)) | exact om_r2 (by assumption) (by k_dflt (exact rfl)) | exact om_d1 (by assumption) (by assumption) (by k_dflt (exact rfl)) | exact om_d2 (by assumption) (by assumption) (by k_dflt (exact rfl)) | exact om_nlt (by assumption) (by k_dflt (exact rfl)) | exact om_meas (by assumption)) | (show @LE.le Nat _ _ _; first | exact om_le (by assumption) (by k_dflt (exact rfl)) | exact om_len (by assumption) (by assumption) (by k_dflt (exact rfl)) | exact om_len3 (by assumption) (by assumption) (by assumption) (by k_dflt (exact rfl)) | exact om_l16 (by assumption) (by assumption) (by assumption) (by assumption)) | (show @LT.lt Int _ _ _; first | exact om_cast (by assumption) | exact om_caste (by assumption) (by assumption) | exact om_eqlt (by assumption) (by assumption) | exact om_clen (by assumption) (by assumption) (by k_dflt decide) | exact om_ilen (by assumption) (by assumption) (by k_dflt decide) | exact om_cle (by assumption) (by k_dflt decide) | exact om_ilt (by assumption) (by k_dflt decide) | exact om_ile (by assumption) (by k_dflt decide) | exact om_igt (by assumption) (by k_dflt decide) | exact om_k3 (by assumption) (by assumption) | exact om_k1 (by assumption) (by assumption) (by assumption) | exact om_k2 (by assumption) (by assumption) (by assumption) (by assumption) (by k_dflt decide) | exact om_far2 (by assumption) (by assumption)) | (show @LE.le Int _ _ _; first | exact Int.natCast_nonneg _ | exact om_ige (by assumption) (by k_dflt decide) | exact om_k0 (by assumption) | exact om_s (by assumption) | exact om_p1 (by assumption) | exact om_k4 (by assumption) (by assumption) (by assumption) (by assumption) (by assumption) | exact om_far1 (by assumption) (by assumption) (by assumption)) | (show @Ne Nat _ _; first | exact om_gt1 (by assumption) | exact om_lt1 (by assumption) | exact om_gt2 (by assumption) | exact om_lt2 (by assumption) | exact om_gt3 (by assumption) | exact om_lt3 (by assumption) | exact om_c2 (by assumption) | exact om_c2' (by assumption) | exact om_c3 (by assumption) | exact om_c3' (by assumption) | exact om_c4 (by assumption) | exact om_c4' (by assumption) | exact om_s1 _ | exact Ne.symm (om_s1 _) | exact om_s2 _ | exact Ne.symm (om_s2 _) | exact om_s3 _ | exact Ne.symm (om_s3 _)) | (show @Eq _ _ _; first | exact om_tn (by assumption) (by assumption) | exact om_sc (by assumption)) | (show Not _; first | exact om_nz (by assumption)))))
  k_fill
  intro dp un gd cn cs a ccd cl outer A₀ base h₀ L m s Q E B F X N T hk hdp hun hret
  k_with_none
  (k_with "my k_enter" => first | ((refine' code_def ?k1 ?k2 ?k3 ?k4 ?k5 ?kA ?kF ?kK ?k6 ?k7 ?k8 ?k9 ?kB ?_ ?c2 ?c3 ?c4 ?c5; (case kA => exact rfl); (case kF => exact rfl); (case kK => first | exact rfl | assumption); (case k1 => k_asm); (case k2 => k_asm); (case k3 => k_asm); (case k4 => k_asm); (case k5 => k_asm); (case k6 => k_is); (case k7 => k_is); (case k8 => ktr_room); (case k9 => first | k_extra "bind" | exact BindsTo.of_eq rfl | exact binds_K (by k_in) rfl (by k_is) rfl rfl rfl | fail "k_enter: no rule for these arguments"); (case c5 => decide); (case kB => exact locs rfl); (case c2 => exact rfl); (case c3 => exact rfl); (case c4 => exact rfl); k_whole; intro g' L' h' FG' F' N' B' X' T'; (try dsimp only); (try k_lift B'); (try k_fold))))
  (k_with "my ite" => first | ((first | (refine ite_neg (by (try simp only [beq_iff_eq, bne_iff_ne, ne_eq, decide_eq_true_eq, Bool.not_eq_true', decide_eq_false_iff_not, beq_eq_false_iff_ne, Bool.and_eq_true, Bool.or_eq_true]); first | assumption | omega) ?_) | (refine ite_pos (by (try simp only [beq_iff_eq, bne_iff_ne, ne_eq, decide_eq_true_eq, Bool.not_eq_true', decide_eq_false_iff_not, beq_eq_false_iff_ne, Bool.and_eq_true, Bool.or_eq_true]); first | assumption | omega) ?_))))
  (k_with "my k_mem" => first | (assumption))
  (k_with "my news_mem" => first | (k_mem))
  (k_with "my k_all" => first | (first | exact all_ne_of_lt (by assumption) | exact all_ne_of_allLt (by assumption) | exact all_ne_of_allLt (And.right (by assumption)) | exact all_ne_of_allLt (And.right (And.right (by assumption))) | exact all_ne_of_allLt (And.right (And.right (And.right (by assumption)))) | exact all_ne_of_allLt (And.right (And.right (And.right (And.right (by assumption))))) | exact all_ne_of_allLt (And.right (And.right (And.right (And.right (And.right (by assumption)))))) | exact all_ne_of_allLt (And.right (And.right (And.right (And.right (And.right (And.right (by assumption))))))) | exact all_ne_of_allLt (And.right (And.right (And.right (And.right (And.right (And.right (And.right (by assumption)))))))) | exact all_ne_of_allLt (And.right (And.right (And.right (And.right (And.right (And.right (And.right (And.right (by assumption)))))))))))
  (k_with "bind" => first | exact BindsTo.of_eq (binds := [("word", _), ("pos", _), ("size", _)]) rfl | exact BindsTo.of_eq (binds := [("word", _), ("value", _), ("pos", _), ("size", _)]) rfl | exact BindsTo.of_eq (binds := [("op", _), ("a", _), ("b", _), ("c", _)]) rfl | exact BindsTo.of_eq (binds := [("op", _), ("a", _), ("bx", _)]) rfl | exact BindsTo.of_eq (binds := [("op", _), ("a", _), ("sbx", _)]) rfl | exact BindsTo.of_eq (binds := [("word", _)]) rfl | exact BindsTo.of_eq (binds := [("word", _), ("bx", _)]) rfl | exact BindsTo.of_eq (binds := [("word", _), ("sbx", _)]) rfl | exact BindsTo.of_eq (binds := [("p", _), ("pc", _)]) rfl | exact BindsTo.of_eq (binds := [("p", _)]) rfl | exact BindsTo.of_eq (binds := [("urn", _), ("many", _)]) rfl | exact BindsTo.of_eq (binds := [("goals", _), ("at", _), ("most", _)]) rfl | exact BindsTo.of_eq (binds := [("goals", _), ("others", _)]) rfl | exact BindsTo.of_eq (binds := [("script", _)]) rfl | exact BindsTo.of_eq (binds := [("self", _)]) rfl | exact BindsTo.of_eq (binds := [("self", _), ("number", _), ("size", _)]) rfl)
  (k_with "my omega" => (k_whole; first | with_reducible assumption | k_dflt decide | with_reducible (first | (show @LT.lt Nat _ _ _; first | exact om_r0 (by assumption) | exact om_r1 (by assumption) (by k_dflt (exact rfl)) | exact om_r2 (by assumption) (by k_dflt (exact rfl)) | exact om_d1 (by assumption) (by assumption) (by k_dflt (exact rfl)) | exact om_d2 (by assumption) (by assumption) (by k_dflt (exact rfl)) | exact om_nlt (by assumption) (by k_dflt (exact rfl)) | exact om_meas (by assumption)) | (show @LE.le Nat _ _ _; first | exact om_le (by assumption) (by k_dflt (exact rfl)) | exact om_len (by assumption) (by assumption) (by k_dflt (exact rfl)) | exact om_len3 (by assumption) (by assumption) (by assumption) (by k_dflt (exact rfl)) | exact om_l16 (by assumption) (by assumption) (by assumption) (by assumption)) | (show @LT.lt Int _ _ _; first | exact om_cast (by assumption) | exact om_caste (by assumption) (by assumption) | exact om_eqlt (by assumption) (by assumption) | exact om_clen (by assumption) (by assumption) (by k_dflt decide) | exact om_ilen (by assumption) (by assumption) (by k_dflt decide) | exact om_cle (by assumption) (by k_dflt decide) | exact om_ilt (by assumption) (by k_dflt decide) | exact om_ile (by assumption) (by k_dflt decide) | exact om_igt (by assumption) (by k_dflt decide) | exact om_k3 (by assumption) (by assumption) | exact om_k1 (by assumption) (by assumption) (by assumption) | exact om_k2 (by assumption) (by assumption) (by assumption) (by assumption) (by k_dflt decide) | exact om_far2 (by assumption) (by assumption)) | (show @LE.le Int _ _ _; first | exact Int.natCast_nonneg _ | exact om_ige (by assumption) (by k_dflt decide) | exact om_k0 (by assumption) | exact om_s (by assumption) | exact om_p1 (by assumption) | exact om_k4 (by assumption) (by assumption) (by assumption) (by assumption) (by assumption) | exact om_far1 (by assumption) (by assumption) (by assumption)) | (show @Ne Nat _ _; first | exact om_gt1 (by assumption) | exact om_lt1 (by assumption) | exact om_gt2 (by assumption) | exact om_lt2 (by assumption) | exact om_gt3 (by assumption) | exact om_lt3 (by assumption) | exact om_c2 (by assumption) | exact om_c2' (by assumption) | exact om_c3 (by assumption) | exact om_c3' (by assumption) | exact om_c4 (by assumption) | exact om_c4' (by assumption) | exact om_s1 _ | exact Ne.symm (om_s1 _) | exact om_s2 _ | exact Ne.symm (om_s2 _) | exact om_s3 _ | exact Ne.symm (om_s3 _)) | (show @Eq _ _ _; first | exact om_tn (by assumption) (by assumption) | exact om_sc (by assumption)) | (show Not _; first | exact om_nz (by assumption)))))
  (k_with "state" => first | exact Seek.start hG h0 h1 h2 | exact Seek.next hG (by assumption) (by assumption) (not_mem_of_any (by assumption)))
  (k_with "measure" => exact Seek.less (by assumption) (not_mem_of_any (by assumption)))
  (k_with "exec While BoolOp cons nil" => (k_while (fun gs' ks x => Seek gs i ks x) (fun gs' ks x => gs.length - ks.length) "met" "place"; (all_goals try (have hx0 := Seek.lo (by assumption); have hx1 := Seek.hi (by assumption); have hx2 := Seek.short (by assumption)))))
  k_steps
  k_with_none
  (k_with "my k_enter" => first | ((refine' code_def ?k1 ?k2 ?k3 ?k4 ?k5 ?kA ?kF ?kK ?k6 ?k7 ?k8 ?k9 ?kB ?_ ?c2 ?c3 ?c4 ?c5; (case kA => exact rfl); (case kF => exact rfl); (case kK => first | exact rfl | assumption); (case k1 => k_asm); (case k2 => k_asm); (case k3 => k_asm); (case k4 => k_asm); (case k5 => k_asm); (case k6 => k_is); (case k7 => k_is); (case k8 => ktr_room); (case k9 => first | k_extra "bind" | exact BindsTo.of_eq rfl | exact binds_K (by k_in) rfl (by k_is) rfl rfl rfl | fail "k_enter: no rule for these arguments"); (case c5 => decide); (case kB => exact locs rfl); (case c2 => exact rfl); (case c3 => exact rfl); (case c4 => exact rfl); k_whole; intro g' L' h' FG' F' N' B' X' T'; (try dsimp only); (try k_lift B'); (try k_fold))))
  (k_with "my ite" => first | ((first | (refine ite_neg (by (try simp only [beq_iff_eq, bne_iff_ne, ne_eq, decide_eq_true_eq, Bool.not_eq_true', decide_eq_false_iff_not, beq_eq_false_iff_ne, Bool.and_eq_true, Bool.or_eq_true]); first | assumption | omega) ?_) | (refine ite_pos (by (try simp only [beq_iff_eq, bne_iff_ne, ne_eq, decide_eq_true_eq, Bool.not_eq_true', decide_eq_false_iff_not, beq_eq_false_iff_ne, Bool.and_eq_true, Bool.or_eq_true]); first | assumption | omega) ?_))))
  (k_with "my k_mem" => first | (assumption))
  (k_with "my news_mem" => first | (k_mem))
  (k_with "my k_all" => first | (first | exact all_ne_of_lt (by assumption) | exact all_ne_of_allLt (by assumption) | exact all_ne_of_allLt (And.right (by assumption)) | exact all_ne_of_allLt (And.right (And.right (by assumption))) | exact all_ne_of_allLt (And.right (And.right (And.right (by assumption)))) | exact all_ne_of_allLt (And.right (And.right (And.right (And.right (by assumption))))) | exact all_ne_of_allLt (And.right (And.right (And.right (And.right (And.right (by assumption)))))) | exact all_ne_of_allLt (And.right (And.right (And.right (And.right (And.right (And.right (by assumption))))))) | exact all_ne_of_allLt (And.right (And.right (And.right (And.right (And.right (And.right (And.right (by assumption)))))))) | exact all_ne_of_allLt (And.right (And.right (And.right (And.right (And.right (And.right (And.right (And.right (by assumption)))))))))))
  (k_with "bind" => first | exact BindsTo.of_eq (binds := [("word", _), ("pos", _), ("size", _)]) rfl | exact BindsTo.of_eq (binds := [("word", _), ("value", _), ("pos", _), ("size", _)]) rfl | exact BindsTo.of_eq (binds := [("op", _), ("a", _), ("b", _), ("c", _)]) rfl | exact BindsTo.of_eq (binds := [("op", _), ("a", _), ("bx", _)]) rfl | exact BindsTo.of_eq (binds := [("op", _), ("a", _), ("sbx", _)]) rfl | exact BindsTo.of_eq (binds := [("word", _)]) rfl | exact BindsTo.of_eq (binds := [("word", _), ("bx", _)]) rfl | exact BindsTo.of_eq (binds := [("word", _), ("sbx", _)]) rfl | exact BindsTo.of_eq (binds := [("p", _), ("pc", _)]) rfl | exact BindsTo.of_eq (binds := [("p", _)]) rfl | exact BindsTo.of_eq (binds := [("urn", _), ("many", _)]) rfl | exact BindsTo.of_eq (binds := [("goals", _), ("at", _), ("most", _)]) rfl | exact BindsTo.of_eq (binds := [("goals", _), ("others", _)]) rfl | exact BindsTo.of_eq (binds := [("script", _)]) rfl | exact BindsTo.of_eq (binds := [("self", _)]) rfl | exact BindsTo.of_eq (binds := [("self", _), ("number", _), ("size", _)]) rfl)
  (k_with "my omega" => (k_whole; first | with_reducible assumption | k_dflt decide | with_reducible (first | (show @LT.lt Nat _ _ _; first | exact om_r0 (by assumption) | exact om_r1 (by assumption) (by k_dflt (exact rfl)) | exact om_r2 (by assumption) (by k_dflt (exact rfl)) | exact om_d1 (by assumption) (by assumption) (by k_dflt (exact rfl)) | exact om_d2 (by assumption) (by assumption) (by k_dflt (exact rfl)) | exact om_nlt (by assumption) (by k_dflt (exact rfl)) | exact om_meas (by assumption)) | (show @LE.le Nat _ _ _; first | exact om_le (by assumption) (by k_dflt (exact rfl)) | exact om_len (by assumption) (by assumption) (by k_dflt (exact rfl)) | exact om_len3 (by assumption) (by assumption) (by assumption) (by k_dflt (exact rfl)) | exact om_l16 (by assumption) (by assumption) (by assumption) (by assumption)) | (show @LT.lt Int _ _ _; first | exact om_cast (by assumption) | exact om_caste (by assumption) (by assumption) | exact om_eqlt (by assumption) (by assumption) | exact om_clen (by assumption) (by assumption) (by k_dflt decide) | exact om_ilen (by assumption) (by assumption) (by k_dflt decide) | exact om_cle (by assumption) (by k_dflt decide) | exact om_ilt (by assumption) (by k_dflt decide) | exact om_ile (by assumption) (by k_dflt decide) | exact om_igt (by assumption) (by k_dflt decide) | exact om_k3 (by assumption) (by assumption) | exact om_k1 (by assumption) (by assumption) (by assumption) | exact om_k2 (by assumption) (by assumption) (by assumption) (by assumption) (by k_dflt decide) | exact om_far2 (by assumption) (by assumption)) | (show @LE.le Int _ _ _; first | exact Int.natCast_nonneg _ | exact om_ige (by assumption) (by k_dflt decide) | exact om_k0 (by assumption) | exact om_s (by assumption) | exact om_p1 (by assumption) | exact om_k4 (by assumption) (by assumption) (by assumption) (by assumption) (by assumption) | exact om_far1 (by assumption) (by assumption) (by assumption)) | (show @Ne Nat _ _; first | exact om_gt1 (by assumption) | exact om_lt1 (by assumption) | exact om_gt2 (by assumption) | exact om_lt2 (by assumption) | exact om_gt3 (by assumption) | exact om_lt3 (by assumption) | exact om_c2 (by assumption) | exact om_c2' (by assumption) | exact om_c3 (by assumption) | exact om_c3' (by assumption) | exact om_c4 (by assumption) | exact om_c4' (by assumption) | exact om_s1 _ | exact Ne.symm (om_s1 _) | exact om_s2 _ | exact Ne.symm (om_s2 _) | exact om_s3 _ | exact Ne.symm (om_s3 _)) | (show @Eq _ _ _; first | exact om_tn (by assumption) (by assumption) | exact om_sc (by assumption)) | (show Not _; first | exact om_nz (by assumption)))))
  all_goals first
    | exact hret _ news _ _ (by k_asm) (kst_newsOf (by k_asm) (fun p hp => by k_mem)) ⟨int_eq _ (lawGoal_in (by assumption) (mem_of_any (by assumption))), rfl⟩
    | exact hret _ news _ _ (by k_asm) (kst_newsOf (by k_asm) (fun p hp => by k_mem)) ⟨int_eq _ (lawGoal_far (by assumption) (by assumption) (by assumption)), rfl⟩
    | exact hret _ news _ _ (by k_asm) (kst_newsOf (by k_asm) (fun p hp => by k_mem)) ⟨int_eq _ (lawGoal_out (by assumption) (by assumption) (not_mem_of_any (by assumption)) (by assumption)), rfl⟩


/-! P14s -/
section
variable {prog : Program} {w : World} {A : Around} {E : Value → Shared → Prop} {s : Shared} {h₀ : Heap} {L : Addr} {m : Str → Option Value} {env : Env}
/-- an element of a comprehension over enumerate: it makes the int z and leaves the made objects as they were -/
noncomputable def EnumElt (h₀ : Heap) (L : Addr) (m : Str → Option Value) (s : Shared) (led : List (Addr × Obj)) (z : Int) (y : Value) (s₂ : Shared) : Prop :=
  ∃ (h' : Heap) (tk' : Nat) (t : Tok), s₂ = { s with heap := h', toks := tk' } ∧ y = .int z t ∧ Fr h₀ L h' m ∧ News h₀ L h' led
theorem EnumElt.intro {led led' : List (Addr × Obj)} {z x : Int} {t : Tok} {h' : Heap} {tk' : Nat} (e : x = z) (F : Fr h₀ L h' m) (N : News h₀ L h' led') (hs : ∀ p ∈ led, p ∈ led') : EnumElt h₀ L m s led z (.int x t) { s with heap := h', toks := tk' } :=
  ⟨h', tk', t, rfl, e ▸ rfl, F, kst_newsOf N hs⟩
/-- what is asked of such a comprehension where its iterable stands -/
structure EnumGoR (prog : Program) (w : World) (A : Around) (h₀ : Heap) (L : Addr) (m : Str → Option Value) (env : Env) (elt : Expr) (a b : Str) (scope : Scope) (cl : List (Str × Addr)) (Q : Value → Shared → Prop) (s₁ : Shared)
    (e it l : Addr) (vs : List Value) (k : Nat) (news : List (Addr × Obj)) (f : Nat → Int) : Prop where
  hh : A.handled = none
  hE : IsEnum s₁.heap e it 0 .none
  hI : s₁.heap.IsListIter it l 0
  hei : e ≠ it
  hle : l ≠ e
  hli : l ≠ it
  he₀ : h₀.get? e = none
  hi₀ : h₀.get? it = none
  hLe : L ≠ e
  hLi : L ≠ it
  off : ∀ p ∈ news, p.1 ≠ e ∧ p.1 ≠ it
  F : Fr h₀ L s₁.heap m
  N : News h₀ L s₁.heap news
  hm : (l, listOf vs.toArray k) ∈ news
  hsz : vs.length ≤ sizeLine
  turn : ∀ (i : Nat) (x : Value) (ti : Tok) (oe oi : Obj) (C : Addr) (oC : Obj) (D : Addr) (ys : List Value) (m₂ : Str → Option Value) (h : Heap) (tk : Nat) (E' : Value → Shared → Prop), vs[i]? = some x → LCg.NsObj oC m₂ → m₂ a = some (.int (i : Int) ti) → m₂ b = some x → Fr h₀ L h m →
      News h₀ L h ((e, oe) :: (it, oi) :: (C, oC) :: (D, LCg.lst ys) :: news) →
      wpAny (model prog w) A (eval elt (compEnvC scope cl C env)) (EnumElt h₀ L m { s₁ with heap := h, toks := tk } ((e, oe) :: (it, oi) :: (C, oC) :: (D, LCg.lst ys) :: news) (f i)) E' { s₁ with heap := h, toks := tk }
  done : ∀ (D : Addr) (ys : List Value) (h : Heap) (tk : Nat), IntsAre ys ((List.range vs.length).map f) → Fr h₀ L h m → News h₀ L h ((D, LCg.lst ys) :: news) → LCg.Off1 D news → Q (.ref D) { s₁ with heap := h, toks := tk }
noncomputable def EnumGo (prog : Program) (w : World) (A : Around) (h₀ : Heap) (L : Addr) (m : Str → Option Value) (env : Env) (elt : Expr) (a b : Str) (scope : Scope) (cl : List (Str × Addr)) (Q : Value → Shared → Prop) (xv : Value) (s₁ : Shared) : Prop :=
  ∃ (e it l : Addr) (vs : List Value) (k : Nat) (news : List (Addr × Obj)) (f : Nat → Int), xv = .ref e ∧ EnumGoR prog w A h₀ L m env elt a b scope cl Q s₁ e it l vs k news f
/-- between two turns -/
structure EnumI (h₀ : Heap) (L : Addr) (m : Str → Option Value) (f : Nat → Int) (e it l C D : Addr) (vs : List Value) (news : List (Addr × Obj)) (h' : Heap) (i : Nat) (ys : List Value) (m' : Str → Option Value) : Prop where
  hi : i ≤ vs.length
  hyl : ys.length = i
  hys : IntsAre ys ((List.range i).map f)
  hst : (∃ old, IsEnum h' e it i old) ∧ h'.IsListIter it l i ∧ h'.IsList l vs.toArray
  F : Fr h₀ L h' m
  hn : h'.Ns C m'
  N : News h₀ L h' ((D, LCg.lst ys) :: news)
theorem ints_snoc {ys : List Value} {ns : List Int} (h : IntsAre ys ns) (n : Int) (t : Tok) : IntsAre (ys ++ [.int n t]) (ns ++ [n]) := h.append (.cons n t .nil)

/-- what holds of the two addresses a comprehension takes -/
structure EnumO (h₀ : Heap) (L C D e it l : Addr) (news : List (Addr × Obj)) : Prop where
  eC : e ≠ C
  eD : e ≠ D
  iC : it ≠ C
  iD : it ≠ D
  lC : l ≠ C
  lD : l ≠ D
  DC : D ≠ C
  C0 : h₀.get? C = none
  D0 : h₀.get? D = none
  CL : C ≠ L
  DL : D ≠ L
  off : ∀ p ∈ news, p.1 ≠ C ∧ p.1 ≠ D
theorem enum_step {f : Nat → Int} {e it l C D : Addr} {vs : List Value} {k : Nat} {news : List (Addr × Obj)} {h' : Heap} {i : Nat} {ys : List Value} {m' : Str → Option Value} {h₇ h₆ : Heap} {oe oi oC : Obj} {m₅ : Str → Option Value} {ty : Tok}
    (O : EnumO h₀ L C D e it l news) (hlt : i < vs.length) (I : EnumI h₀ L m f e it l C D vs news h' i ys m') (hm : (l, listOf vs.toArray k) ∈ news)
    (hoe : ∀ h : Heap, h.get? e = some oe → ∃ old, IsEnum h e it (i + 1 : Nat) old) (hoi : ∀ h : Heap, h.get? it = some oi → h.IsListIter it l (i + 1)) (hoC : LCg.NsObj oC m₅)
    (F₆ : Fr h₀ L h₆ m) (N₆ : News h₀ L h₆ ((e, oe) :: (it, oi) :: (C, oC) :: (D, LCg.lst ys) :: news)) (hs₇ : Heap.SameBut D h₆ h₇) (hD₇ : h₇.get? D = some (LCg.lst (ys ++ [.int (f i) ty]))) :
    EnumI h₀ L m f e it l C D vs news h₇ (i + 1) (ys ++ [.int (f i) ty]) m₅ where
  hi := hlt
  hyl := by rw [List.length_append, List.length_singleton, I.hyl]
  hys := by rw [List.range_succ, List.map_append]; exact ints_snoc I.hys _ _
  hst := ⟨hoe h₇ (hs₇.extBut e oe O.eD (N₆ (e, oe) (.head _)).1), hoi h₇ (hs₇.extBut it oi O.iD (N₆ (it, oi) (.tail _ (.head _))).1), listOf vs.toArray k, hs₇.extBut _ _ O.lD (N₆ _ (.tail _ (.tail _ (.tail _ (.tail _ hm))))).1, rfl, k, rfl⟩
  F := F₆.change hs₇ O.DL O.D0
  hn := (hoC.ns (N₆ (C, oC) (.tail _ (.tail _ (.head _)))).1).sameBut hs₇ (Ne.symm O.DC)
  N := List.forall_mem_cons.mpr ⟨⟨hD₇, O.DL, O.D0⟩, fun p hp => ⟨hs₇.extBut _ _ (O.off p hp).2 (N₆ p (.tail _ (.tail _ (.tail _ (.tail _ hp))))).1, (N₆ p (.tail _ (.tail _ (.tail _ (.tail _ hp))))).2⟩⟩
theorem fr_up {h' h₅ : Heap} {e it C : Addr} (F : Fr h₀ L h' m) (he₀ : h₀.get? e = none) (hi₀ : h₀.get? it = none) (hC₀ : h₀.get? C = none) (hLe : L ≠ e) (hLi : L ≠ it) (hCL : C ≠ L)
    (up : ∀ c o, c ≠ e → c ≠ it → c ≠ C → h'.get? c = some o → h₅.get? c = some o) : Fr h₀ L h₅ m :=
  ⟨F.ns.at' fun o x => up _ o hLe hLi (Ne.symm hCL) x, fun c o x => up c o (fun q => by rw [q, he₀] at x; cases x) (fun q => by rw [q, hi₀] at x; cases x) (fun q => by rw [q, hC₀] at x; cases x) (F.keep c o x), F.above⟩
theorem enum_news {e it l C D : Addr} {news : List (Addr × Obj)} {h' h₅ : Heap} {ys : List Value} {oe oi oC : Obj} (O : EnumO h₀ L C D e it l news) (he₀ : h₀.get? e = none) (hi₀ : h₀.get? it = none) (hLe : L ≠ e) (hLi : L ≠ it)
    (off : ∀ p ∈ news, p.1 ≠ e ∧ p.1 ≠ it) (N : News h₀ L h' ((D, LCg.lst ys) :: news)) (heq : h₅.get? e = some oe) (hiq : h₅.get? it = some oi) (hCq : h₅.get? C = some oC)
    (up : ∀ c o, c ≠ e → c ≠ it → c ≠ C → h'.get? c = some o → h₅.get? c = some o) : News h₀ L h₅ ((e, oe) :: (it, oi) :: (C, oC) :: (D, LCg.lst ys) :: news) :=
  List.forall_mem_cons.mpr ⟨⟨heq, Ne.symm hLe, he₀⟩, List.forall_mem_cons.mpr ⟨⟨hiq, Ne.symm hLi, hi₀⟩, List.forall_mem_cons.mpr ⟨⟨hCq, O.CL, O.C0⟩, List.forall_mem_cons.mpr
    ⟨⟨up _ _ (Ne.symm O.eD) (Ne.symm O.iD) O.DC (N _ (.head _)).1, (N _ (.head _)).2⟩, fun p hp => ⟨up _ _ (off p hp).1 (off p hp).2 (O.off p hp).1 (N p (.tail _ hp)).1, (N p (.tail _ hp)).2⟩⟩⟩⟩⟩
theorem enum_loop {prog : Program} {w : World} {A : Around} {E : Value → Shared → Prop} {env : Env} {elt iter : Expr} {a b : Str} {pa pb tp pos : Pos} {kk : Nat} {scope : Scope} {cl : List (Str × Addr)} {Q : Value → Shared → Prop} {s₁ : Shared}
    {e it l C D : Addr} {vs : List Value} {k : Nat} {news : List (Addr × Obj)} {f : Nat → Int} {h₂ : Heap} {tk₂ : Nat} {m₀' : Str → Option Value}
    (R : EnumGoR prog w A h₀ L m env elt a b scope cl Q s₁ e it l vs k news f) (O : EnumO h₀ L C D e it l news)
    (hkind : scope.kind = .function) (hxa : scope.names.lookup a = some .local) (hxb : scope.names.lookup b = some .local) (hab : ¬ a = b)
    (I₀ : EnumI h₀ L m f e it l C D vs news h₂ 0 [] m₀') :
    codeAny (model prog w) A (.compLoop (.ListComp elt [⟨.Tuple [.Name a pa, .Name b pb] kk tp, iter, [], 0⟩] scope pos) 0 (.ref e) (.ref D) (compEnvC scope cl C env))
      (compPost (model prog w) A E none Q (.ref D) C) { s₁ with heap := h₂, toks := tk₂ } := by
  have W := KTurns.ofWalksU (elts := [.Name a pa, .Name b pb]) (k := kk) (pos := tp) (WalksT.enumerate (prog := prog) (w := w) R.hh e it l R.hei R.hle R.hli vs.toArray).toU
  refine kcp_loop (fun q s' => ∃ h' tk i ys m', s' = { s₁ with heap := h', toks := tk } ∧ q = vs.length + 1 - i ∧ EnumI h₀ L m f e it l C D vs news h' i ys m') ?_ (vs.length + 1) ⟨h₂, _, 0, [], _, rfl, rfl, I₀⟩
  rintro q s' ⟨h', tk, i, ys, m', rfl, rfl, I⟩
  by_cases hlt : i < vs.length
  · refine W.item i _ _ _ (by rw [List.size_toArray]; exact hlt) I.hst fun v h₃ tk₃ hMd hk₃ => ?_
    refine W.go i v _ _ _ hMd fun h₄ hP hst₄ hk₄ => ?_
    obtain ⟨T, vals, rfl, ⟨ti, x, hx, rfl⟩, hT⟩ := hP
    have hx' : vs[i]? = some x := by simpa using hx
    have up₄ : ∀ c o, c ≠ e → c ≠ it → h'.get? c = some o → h₄.get? c = some o := fun c o h1 h2 x => hk₄ c o (by simp [h1, h2]) (hk₃ c o (by simp [h1, h2]) x)
    refine kcp_assign (env := compEnvC scope cl C env) R.hh hT (lookup_relabel_local hxa) (lookup_relabel_local hxb) (by simp [compEnvC, relabel, hkind]) (I.hn.at' fun o x => up₄ _ o (Ne.symm O.eC) (Ne.symm O.iC) x) fun h₅ tk₅ hn₅ hs₅ => ?_
    have up : ∀ c o, c ≠ e → c ≠ it → c ≠ C → h'.get? c = some o → h₅.get? c = some o := fun c o h1 h2 h3 x => hs₅ c o h3 (up₄ c o h1 h2 x)
    clear hk₃ hk₄ up₄ hx hMd hT
    obtain ⟨⟨old₄, hE₄⟩, hI₄, hl₄⟩ := hst₄
    have hE₅ : IsEnum h₅ e it (i + 1 : Nat) old₄ := hs₅ e _ O.eC hE₄
    have hI₅ : h₅.IsListIter it l (i + 1) := hI₄.at fun o x => hs₅ it o O.iC x
    clear hE₄ hI₄ hl₄ hs₅
    obtain ⟨oe, heq, hoe⟩ : ∃ oe : Obj, h₅.get? e = some oe ∧ ∀ h : Heap, h.get? e = some oe → ∃ old, IsEnum h e it (i + 1 : Nat) old := ⟨_, hE₅, fun _ x => ⟨_, x⟩⟩
    obtain ⟨oi, hiq, hoi⟩ : ∃ oi : Obj, h₅.get? it = some oi ∧ ∀ h : Heap, h.get? it = some oi → h.IsListIter it l (i + 1) := by
      obtain ⟨oi, x, r⟩ := hI₅
      exact ⟨oi, x, fun _ y => ⟨oi, y, r⟩⟩
    obtain ⟨oC, hCq, hoC⟩ := LCg.ns_obj hn₅
    refine wpAny_mono (R.turn i x ti oe oi C oC D ys _ h₅ _ _ hx' hoC (by simp [hab]) (by simp) (fr_up I.F R.he₀ R.hi₀ O.C0 R.hLe R.hLi O.CL up) (enum_news O R.he₀ R.hi₀ R.hLe R.hLi R.off I.N heq hiq hCq up)) (fun y s₆ h₆ => ?_) fun _ _ x => x
    obtain ⟨h₆, tk₆, ty, rfl, rfl, F₆, N₆⟩ := h₆
    have zD := (N₆ _ (.tail _ (.tail _ (.tail _ (.head _))))).1
    refine append_at (hsz := by show ys.toArray.size ≤ sizeLine; rw [List.size_toArray, I.hyl]; exact Nat.le_trans I.hi R.hsz) zD fun h₇ hs₇ hD₇ => ?_
    exact ⟨vs.length + 1 - (i + 1), by lia, h₇, tk₆, i + 1, ys ++ [.int (f i) ty], _, rfl, rfl, enum_step O hlt I R.hm hoe hoi hoC F₆ N₆ hs₇ (hD₇.trans (congrArg some (LCg.lst_snoc ys _)))⟩
  · have hin : i = vs.length := Nat.le_antisymm I.hi (Nat.not_lt.mp hlt)
    subst hin
    refine W.done _ _ _ (by rw [List.size_toArray]; exact I.hst) fun h₃ tk₃ hk₃ => ?_
    have up₃ : ∀ c o, c ≠ e → c ≠ it → h'.get? c = some o → h₃.get? c = some o := fun c o h1 h2 x => hk₃ c o (by simp [h1, h2]) x
    refine ⟨m', I.hn.at' fun o x => up₃ _ o (Ne.symm O.eC) (Ne.symm O.iC) x, fun h'' hs'' => ?_⟩
    refine R.done _ ys h'' tk₃ I.hys (Fr.change (fr_up I.F R.he₀ R.hi₀ O.C0 R.hLe R.hLi O.CL fun c o h1 h2 _ x => up₃ c o h1 h2 x) hs'' O.CL O.C0) (List.forall_mem_cons.mpr ⟨?_, fun p hp => ?_⟩) ?_
    · exact ⟨hs''.extBut _ _ O.DC (up₃ _ _ (Ne.symm O.eD) (Ne.symm O.iD) (I.N _ (.head _)).1), (I.N _ (.head _)).2⟩
    · exact ⟨hs''.extBut _ _ (O.off p hp).1 (up₃ _ _ (R.off p hp).1 (R.off p hp).2 (I.N p (.tail _ hp)).1), (I.N p (.tail _ hp)).2⟩
    · exact LCg.Off3.one (I := D) (C := D) (LCg.Off3.of fun p hp => ⟨(O.off p hp).2, (O.off p hp).2, (O.off p hp).2⟩)
theorem ListComp_enum {elt iter : Expr} {a b : Str} {pa pb tp : Pos} {kk : Nat} {scope : Scope} {cl : List (Str × Addr)} {pos : Pos} {Q : Value → Shared → Prop}
    (_F₀ : Fr h₀ L s.heap m) (hclos : closureFor scope env = pure cl) (hcell : ∀ y ∈ scope.names, y.2 ≠ .cell) (hkind : scope.kind = .function)
    (hnames : ∀ y ∈ scope.names, y.2 = .local → scope.names.lookup y.1 = some .local) (hxa : scope.names.lookup a = some .local) (hxb : scope.names.lookup b = some .local) (hab : ¬ a = b)
    (h : wpAny (model prog w) A (eval iter env) (EnumGo prog w A h₀ L m env elt a b scope cl Q) E s)
    (hs : ∀ x, foldedSetIterable iter env x = pure x) :
    wpAny (model prog w) A (eval (.ListComp elt [⟨.Tuple [.Name a pa, .Name b pb] kk tp, iter, [], 0⟩] scope pos) env) Q E s := by
  rw [eval_ListComp]
  refine wpAny_comprehension_free (use := none) rfl hs hclos hkind hnames (wpAny_mono h (fun xv s₁ h₁ => ?_) fun _ _ e => e)
  obtain ⟨e, it, l, vs, k, news, f, rfl, R⟩ := h₁
  refine wpAny_pyIter_enum R.hE ?_
  refine wpAny_newObj_type (wpAny_newFunctionEnv hcell (by intro y hy; simp at hy) (fun h₂ hns₂ hsb₂ => ?_) hkind)
  dsimp only at hns₂ hsb₂ ⊢
  generalize hH2 : s₁.heap.push { cls := .type "list", dict := none, data := .seq ([] : List Value).toArray } = H2 at hns₂ hsb₂ ⊢
  have hC : H2.objs.size = s₁.heap.objs.size + 1 := by rw [← hH2, Heap.size_push]
  have below : ∀ b, b < s₁.heap.objs.size → b ≠ H2.objs.size ∧ b ≠ s₁.heap.objs.size := fun b hb => ⟨by rw [hC]; exact Nat.ne_of_lt (Nat.lt_succ_of_lt hb), Nat.ne_of_lt hb⟩
  have old : ∀ b o, s₁.heap.get? b = some o → h₂.get? b = some o := fun b o e => hsb₂.extBut b o (below b (Heap.lt_size e)).1 (Heap.get?_push_of_some _ (hH2 ▸ Heap.get?_push_of_some _ e))
  have hDC : s₁.heap.objs.size ≠ H2.objs.size := by rw [hC]; exact Nat.ne_of_lt (Nat.lt_succ_self _)
  have hacc : h₂.get? s₁.heap.objs.size = some (LCg.lst []) := hsb₂.extBut _ _ hDC (Heap.get?_push_of_some _ (hH2 ▸ Heap.get?_push_size _ rfl))
  have fresh₀ : ∀ a, s₁.heap.objs.size ≤ a → h₀.get? a = none := fun a ha => by
    cases q : h₀.get? a with
    | none => rfl
    | some o' => exact absurd (Heap.lt_size (R.F.keep a o' q)) (Nat.not_lt.mpr ha)
  have O : EnumO h₀ L H2.objs.size s₁.heap.objs.size e it l news := by
    have be := below e (Heap.lt_size R.hE)
    have bi := below it (by obtain ⟨_, x, _⟩ := R.hI; exact Heap.lt_size x)
    have bl := below l (Heap.lt_size (R.N _ R.hm).1)
    have bL := below L R.F.ns.lt
    exact ⟨be.1, be.2, bi.1, bi.2, bl.1, bl.2, hDC, fresh₀ _ (by rw [hC]; exact Nat.le_succ _), fresh₀ _ (Nat.le_refl _), Ne.symm bL.1, Ne.symm bL.2, fun p hp => below _ (Heap.lt_size (R.N p hp).1)⟩
  have I₀ : EnumI h₀ L m f e it l H2.objs.size s₁.heap.objs.size vs news h₂ 0 [] _ :=
    ⟨Nat.zero_le _, rfl, IntsAre.nil, ⟨⟨_, old _ _ R.hE⟩, R.hI.at fun o x => old _ o x, listOf vs.toArray k, old _ _ (R.N _ R.hm).1, rfl, k, rfl⟩, R.F.keeps old, hns₂, List.forall_mem_cons.mpr ⟨⟨hacc, O.DL, O.D0⟩, fun p hp => ⟨old _ _ (R.N p hp).1, (R.N p hp).2⟩⟩⟩
  have loop := enum_loop (E := E) (iter := iter) (pa := pa) (pb := pb) (tp := tp) (pos := pos) (kk := kk) (tk₂ := s₁.toks + ([] : List (Str × Value)).length) R O hkind hxa hxb hab I₀
  exact codeAny_compStart_list loop (wpAny_pyIter_enum (old _ _ R.hE) loop)
end


/-! P15 -/
section
variable {prog : Program} {w : World} {A : Around} {E : Value → Shared → Prop} {s : Shared} {h₀ : Heap} {L : Addr} {m : Str → Option Value} {env : Env}
theorem enumGo_call {elt : Expr} {a b : Str} {scope : Scope} {cl : List (Str × Addr)} {Q : Value → Shared → Prop} {l : Addr} {vs : List Value} {gs : List Int} {k : Nat} {news : List (Addr × Obj)} (f : Nat → Int)
    (hh : A.handled = none) (F : Fr h₀ L s.heap m) (N : News h₀ L s.heap news) (hm : (l, listOf vs.toArray k) ∈ news) (hi : IntsAre vs gs) (hsz : gs.length ≤ 1000)
    (turn : ∀ (e it : Addr) (i : Nat) (ti tx : Tok) (oe oi : Obj) (C : Addr) (oC : Obj) (D : Addr) (ys : List Value) (m₂ : Str → Option Value) (h : Heap) (tk : Nat) (E' : Value → Shared → Prop), i < gs.length → LCg.NsObj oC m₂ → m₂ a = some (.int (i : Int) ti) → m₂ b = some (.int (gs.getD (i : Int).toNat 0) tx) → Fr h₀ L h m →
      News h₀ L h ((e, oe) :: (it, oi) :: (C, oC) :: (D, LCg.lst ys) :: news) →
      wpAny (model prog w) A (eval elt (compEnvC scope cl C env)) (EnumElt h₀ L m { s with heap := h, toks := tk } ((e, oe) :: (it, oi) :: (C, oC) :: (D, LCg.lst ys) :: news) (f i)) E' { s with heap := h, toks := tk })
    (done : ∀ (D : Addr) (ys : List Value) (h : Heap) (tk : Nat), IntsAre ys ((List.range gs.length).map f) → Fr h₀ L h m → News h₀ L h ((D, LCg.lst ys) :: news) → LCg.Off1 D news → Q (.ref D) { s with heap := h, toks := tk }) :
    wpAny (model prog w) A (call (.type "enumerate") [.ref l]) (EnumGo prog w A h₀ L m env elt a b scope cl Q) E s := by
  have hl : s.heap.IsList l vs.toArray := ⟨_, (N _ hm).1, rfl, k, rfl⟩
  have hlt : l < s.heap.objs.size := Heap.lt_size (N _ hm).1
  have hlen : vs.length = gs.length := hi.length
  refine call_enumerate_list hl fun h' hE hI hz hk => ?_
  have hLs : L < s.heap.objs.size := F.ns.lt
  have no : ∀ a, s.heap.objs.size ≤ a → h₀.get? a = none := fun a ha => by
    cases q : h₀.get? a with
    | none => rfl
    | some o' => exact absurd (Heap.lt_size (F.keep a o' q)) (Nat.not_lt.mpr ha)
  refine ⟨s.heap.objs.size + 1, s.heap.objs.size, l, vs, k, news, f, rfl, hh, hE, hI, Nat.succ_ne_self _, ?_, Nat.ne_of_lt hlt, no _ (Nat.le_succ _), no _ (Nat.le_refl _), ?_, Nat.ne_of_lt hLs, fun p hp => ?_, F.keeps hk, N.grown hk, hm, by rw [hlen, PySem.sizeLine_eq]; lia, ?_, ?_⟩
  · exact Nat.ne_of_lt (Nat.lt_succ_of_lt hlt)
  · exact Nat.ne_of_lt (Nat.lt_succ_of_lt hLs)
  · have := Heap.lt_size (N p hp).1
    exact ⟨Nat.ne_of_lt (Nat.lt_succ_of_lt this), Nat.ne_of_lt this⟩
  · intro i x ti oe oi C oC D ys m₂ h tk E' hx hC ha hb F₁ N₁
    have hil : i < vs.length := by
      rcases Nat.lt_or_ge i vs.length with q | q
      · exact q
      · rw [List.getElem?_eq_none q] at hx; cases hx
    have hil' : i < gs.length := hlen ▸ hil
    obtain ⟨t, ht⟩ := hi.get i gs[i] (by simp [hil'])
    rw [hx] at ht
    have hxe : x = .int gs[i] t := Option.some.inj ht
    subst hxe
    have e : gs.getD (i : Int).toNat 0 = gs[i] := by simp [List.getD, hil']
    exact turn _ _ i ti t oe oi C oC D ys m₂ h tk E' hil' hC ha (by rw [e]; exact hb) F₁ N₁
  · intro D ys h tk hys F₁ N₁ o1
    rw [hlen] at hys
    exact done D ys h tk hys F₁ N₁ o1
end
/-- the word that _law_words makes of the goal at i -/
noncomputable def wordAt (gs os : List Int) (i : Nat) : Int := if gs.getD (i : Int).toNat 0 < 0 then os.getD (i : Int).toNat 0 else mkJmp (gs.getD (i : Int).toNat 0 - (i : Int) - 1)
noncomputable def wordsOf (gs os : List Int) : List Int := (List.range gs.length).map (wordAt gs os)
theorem wordAt_neg {gs os : List Int} {i : Nat} (h : gs.getD (i : Int).toNat 0 < 0) : os.getD (i : Int).toNat 0 = wordAt gs os i := (if_pos h).symm
theorem wordAt_pos {gs os : List Int} {i : Nat} (h : ¬ gs.getD (i : Int).toNat 0 < 0) : mkJmp (gs.getD (i : Int).toNat 0 - (i : Int) - 1) = wordAt gs os i := (if_neg h).symm
theorem law_words_spec {w : World} {loose mean mg mb news} {Gl Ol : Addr} {vg vo : List Value} {gs os : List Int} {nG nO : Nat}
    (hB : (Gl, listOf vg.toArray nG) ∈ news) (hI : IntsAre vg gs) (hO : (Ol, listOf vo.toArray nO) ∈ news) (hIo : IntsAre vo os) (hle : gs.length ≤ 10) (hlo : os.length = gs.length) (hG : GoalsIn gs) :
    Calls w loose mean mg mb 238 news [.ref Gl, .ref Ol] 20 100 (fun v news' => ∃ (D : Addr) (ys : List Value), v = .ref D ∧ news' = (D, LCg.lst ys) :: news ∧ IntsAre ys (wordsOf gs os) ∧ LCg.Off1 D news) := by
  unfold Calls
  w_top off
  k_with_none
  (k_with "my k_enter" => first | ((refine' code_defC ?k1 ?k2 ?k3 ?k4 ?k5 ?kA ?kF ?kK ?k6 ?k7 ?k8 ?k9 ?kB ?kD ?_ ?c2 ?c3 ?c4; (case kA => exact rfl); (case kF => exact rfl); (case kK => first | exact rfl | assumption); (case k1 => k_asm); (case k2 => k_asm); (case k3 => k_asm); (case k4 => k_asm); (case k5 => k_asm); (case k6 => k_is); (case k7 => k_is); (case k8 => ktr_room); (case k9 => first | k_extra "bind" | exact BindsTo.of_eq rfl | exact binds_K (by k_in) rfl (by k_is) rfl rfl rfl | fail "k_enter: no rule for these arguments"); (case kB => exact rfl); (case kD => decide +kernel); (case c2 => exact rfl); (case c3 => exact rfl); (case c4 => exact rfl); k_whole; intro g' L' h' tk' cells' FG' F' N' Y' B' X' T' l1; (try k_lt l1); k_cells Y'; (try simp only [List.cons_append, List.nil_append] at N'); (try dsimp only); (try k_lift B'); (try k_fold))) | ((refine' code_def ?k1 ?k2 ?k3 ?k4 ?k5 ?kA ?kF ?kK ?k6 ?k7 ?k8 ?k9 ?kB ?_ ?c2 ?c3 ?c4 ?c5; (case kA => exact rfl); (case kF => exact rfl); (case kK => first | exact rfl | assumption); (case k1 => k_asm); (case k2 => k_asm); (case k3 => k_asm); (case k4 => k_asm); (case k5 => k_asm); (case k6 => k_is); (case k7 => k_is); (case k8 => ktr_room); (case k9 => first | k_extra "bind" | exact BindsTo.of_eq rfl | exact binds_K (by k_in) rfl (by k_is) rfl rfl rfl | fail "k_enter: no rule for these arguments"); (case c5 => decide); (case kB => exact locs rfl); (case c2 => exact rfl); (case c3 => exact rfl); (case c4 => exact rfl); k_whole; intro g' L' h' FG' F' N' B' X' T'; (try dsimp only); (try k_lift B'); (try k_fold))))
  (k_with "my ite" => first | ((first | (refine ite_neg (by (try simp only [beq_iff_eq, bne_iff_ne, ne_eq, decide_eq_true_eq, Bool.not_eq_true', decide_eq_false_iff_not, beq_eq_false_iff_ne, Bool.and_eq_true, Bool.or_eq_true]); first | assumption | omega) ?_) | (refine ite_pos (by (try simp only [beq_iff_eq, bne_iff_ne, ne_eq, decide_eq_true_eq, Bool.not_eq_true', decide_eq_false_iff_not, beq_eq_false_iff_ne, Bool.and_eq_true, Bool.or_eq_true]); first | assumption | omega) ?_))))
  (k_with "my k_mem" => first | (assumption))
  (k_with "my news_mem" => first | (k_mem))
  (k_with "my k_all" => first | (first | exact all_ne_of_lt (by assumption) | exact all_ne_of_allLt (by assumption) | exact all_ne_of_allLt (And.right (by assumption)) | exact all_ne_of_allLt (And.right (And.right (by assumption))) | exact all_ne_of_allLt (And.right (And.right (And.right (by assumption)))) | exact all_ne_of_allLt (And.right (And.right (And.right (And.right (by assumption))))) | exact all_ne_of_allLt (And.right (And.right (And.right (And.right (And.right (by assumption)))))) | exact all_ne_of_allLt (And.right (And.right (And.right (And.right (And.right (And.right (by assumption))))))) | exact all_ne_of_allLt (And.right (And.right (And.right (And.right (And.right (And.right (And.right (by assumption)))))))) | exact all_ne_of_allLt (And.right (And.right (And.right (And.right (And.right (And.right (And.right (And.right (by assumption)))))))))))
  (k_with "my call ref" => first | ((k_here; (with_reducible show wpAny _ _ (call (Value.ref 56) _) _ _ _); k_dflt (refine' Calls.use (create_asbx_spec _ _ _ _ ?p1 ?p2) ?k1 ?k2 ?k3 ?k4 ?k5 ?kK ?kd ?ku ?_; (case k1 => k_asm); (case k2 => k_asm); (case k3 => k_asm); (case k4 => k_asm); (case k5 => k_asm); (case kK => first | exact rfl | assumption); (case kd => ktr_room); (case ku => ktr_units); (case p1 => omega); (case p2 => omega); k_whole); intro v9 news9 h9 tk9 F9 N9 hR9; obtain ⟨⟨t9, hv9⟩, hn9⟩ := hR9; subst hv9; subst news9; (try dsimp only))))
  (k_with "my eval ListComp" => first | ((k_here; k_dflt (refine ListComp_enum (by k_asm) (by with_unfolding_all rfl) (by decide) (by rfl) (by decide) (by rfl) (by rfl) (by decide) ?_ (by intro _; rfl)))))
  (k_with "my call type:enumerate" => first | (k_extra "enum go"))
  (k_with "my EnumElt" => first | ((refine' EnumElt.intro ?z (by k_asm) (by k_asm) (fun p hp => hp); (case z => k_extra "elt"))))
  (k_with "bind" => first | exact BindsTo.of_eq (binds := [("word", _), ("pos", _), ("size", _)]) rfl | exact BindsTo.of_eq (binds := [("word", _), ("value", _), ("pos", _), ("size", _)]) rfl | exact BindsTo.of_eq (binds := [("op", _), ("a", _), ("b", _), ("c", _)]) rfl | exact BindsTo.of_eq (binds := [("op", _), ("a", _), ("bx", _)]) rfl | exact BindsTo.of_eq (binds := [("op", _), ("a", _), ("sbx", _)]) rfl | exact BindsTo.of_eq (binds := [("word", _)]) rfl | exact BindsTo.of_eq (binds := [("word", _), ("bx", _)]) rfl | exact BindsTo.of_eq (binds := [("word", _), ("sbx", _)]) rfl | exact BindsTo.of_eq (binds := [("p", _), ("pc", _)]) rfl | exact BindsTo.of_eq (binds := [("p", _)]) rfl | exact BindsTo.of_eq (binds := [("urn", _), ("many", _)]) rfl | exact BindsTo.of_eq (binds := [("goals", _), ("at", _), ("most", _)]) rfl | exact BindsTo.of_eq (binds := [("goals", _), ("others", _)]) rfl | exact BindsTo.of_eq (binds := [("script", _)]) rfl | exact BindsTo.of_eq (binds := [("self", _)]) rfl | exact BindsTo.of_eq (binds := [("self", _), ("number", _), ("size", _)]) rfl)
  (k_with "my omega" => (k_whole; first | with_reducible assumption | k_dflt decide | with_reducible (first | (show @LT.lt Nat _ _ _; first | exact om_r0 (by assumption) | exact om_r1 (by assumption) (by k_dflt (exact rfl)) | exact om_r2 (by assumption) (by k_dflt (exact rfl)) | exact om_d1 (by assumption) (by assumption) (by k_dflt (exact rfl)) | exact om_d2 (by assumption) (by assumption) (by k_dflt (exact rfl)) | exact om_nlt (by assumption) (by k_dflt (exact rfl)) | exact om_meas (by assumption)) | (show @LE.le Nat _ _ _; first | exact om_le (by assumption) (by k_dflt (exact rfl)) | exact om_len (by assumption) (by assumption) (by k_dflt (exact rfl)) | exact om_len3 (by assumption) (by assumption) (by assumption) (by k_dflt (exact rfl)) | exact om_l16 (by assumption) (by assumption) (by assumption) (by assumption)) | (show @LT.lt Int _ _ _; first | exact om_cast (by assumption) | exact om_caste (by assumption) (by assumption) | exact om_eqlt (by assumption) (by assumption) | exact om_clen (by assumption) (by assumption) (by k_dflt decide) | exact om_ilen (by assumption) (by assumption) (by k_dflt decide) | exact om_cle (by assumption) (by k_dflt decide) | exact om_ilt (by assumption) (by k_dflt decide) | exact om_ile (by assumption) (by k_dflt decide) | exact om_igt (by assumption) (by k_dflt decide) | exact om_k3 (by assumption) (by assumption) | exact om_k1 (by assumption) (by assumption) (by assumption) | exact om_k2 (by assumption) (by assumption) (by assumption) (by assumption) (by k_dflt decide) | exact om_far2 (by assumption) (by assumption)) | (show @LE.le Int _ _ _; first | exact Int.natCast_nonneg _ | exact om_ige (by assumption) (by k_dflt decide) | exact om_k0 (by assumption) | exact om_s (by assumption) | exact om_p1 (by assumption) | exact om_k4 (by assumption) (by assumption) (by assumption) (by assumption) (by assumption) | exact om_far1 (by assumption) (by assumption) (by assumption)) | (show @Ne Nat _ _; first | exact om_gt1 (by assumption) | exact om_lt1 (by assumption) | exact om_gt2 (by assumption) | exact om_lt2 (by assumption) | exact om_gt3 (by assumption) | exact om_lt3 (by assumption) | exact om_c2 (by assumption) | exact om_c2' (by assumption) | exact om_c3 (by assumption) | exact om_c3' (by assumption) | exact om_c4 (by assumption) | exact om_c4' (by assumption) | exact om_s1 _ | exact Ne.symm (om_s1 _) | exact om_s2 _ | exact Ne.symm (om_s2 _) | exact om_s3 _ | exact Ne.symm (om_s3 _)) | (show @Eq _ _ _; first | exact om_tn (by assumption) (by assumption) | exact om_sc (by assumption)) | (show Not _; first | exact om_nz (by assumption)))))
  k_fill
  intro dp un gd cn cs a ccd cl outer A₀ base h₀ L m s Q E B F X N T hk hdp hun hret
  k_with_none
  (k_with "my k_enter" => first | ((refine' code_defC ?k1 ?k2 ?k3 ?k4 ?k5 ?kA ?kF ?kK ?k6 ?k7 ?k8 ?k9 ?kB ?kD ?_ ?c2 ?c3 ?c4; (case kA => exact rfl); (case kF => exact rfl); (case kK => first | exact rfl | assumption); (case k1 => k_asm); (case k2 => k_asm); (case k3 => k_asm); (case k4 => k_asm); (case k5 => k_asm); (case k6 => k_is); (case k7 => k_is); (case k8 => ktr_room); (case k9 => first | k_extra "bind" | exact BindsTo.of_eq rfl | exact binds_K (by k_in) rfl (by k_is) rfl rfl rfl | fail "k_enter: no rule for these arguments"); (case kB => exact rfl); (case kD => decide +kernel); (case c2 => exact rfl); (case c3 => exact rfl); (case c4 => exact rfl); k_whole; intro g' L' h' tk' cells' FG' F' N' Y' B' X' T' l1; (try k_lt l1); k_cells Y'; (try simp only [List.cons_append, List.nil_append] at N'); (try dsimp only); (try k_lift B'); (try k_fold))) | ((refine' code_def ?k1 ?k2 ?k3 ?k4 ?k5 ?kA ?kF ?kK ?k6 ?k7 ?k8 ?k9 ?kB ?_ ?c2 ?c3 ?c4 ?c5; (case kA => exact rfl); (case kF => exact rfl); (case kK => first | exact rfl | assumption); (case k1 => k_asm); (case k2 => k_asm); (case k3 => k_asm); (case k4 => k_asm); (case k5 => k_asm); (case k6 => k_is); (case k7 => k_is); (case k8 => ktr_room); (case k9 => first | k_extra "bind" | exact BindsTo.of_eq rfl | exact binds_K (by k_in) rfl (by k_is) rfl rfl rfl | fail "k_enter: no rule for these arguments"); (case c5 => decide); (case kB => exact locs rfl); (case c2 => exact rfl); (case c3 => exact rfl); (case c4 => exact rfl); k_whole; intro g' L' h' FG' F' N' B' X' T'; (try dsimp only); (try k_lift B'); (try k_fold))))
  (k_with "my ite" => first | ((first | (refine ite_neg (by (try simp only [beq_iff_eq, bne_iff_ne, ne_eq, decide_eq_true_eq, Bool.not_eq_true', decide_eq_false_iff_not, beq_eq_false_iff_ne, Bool.and_eq_true, Bool.or_eq_true]); first | assumption | omega) ?_) | (refine ite_pos (by (try simp only [beq_iff_eq, bne_iff_ne, ne_eq, decide_eq_true_eq, Bool.not_eq_true', decide_eq_false_iff_not, beq_eq_false_iff_ne, Bool.and_eq_true, Bool.or_eq_true]); first | assumption | omega) ?_))))
  (k_with "my k_mem" => first | (assumption))
  (k_with "my news_mem" => first | (k_mem))
  (k_with "my k_all" => first | (first | exact all_ne_of_lt (by assumption) | exact all_ne_of_allLt (by assumption) | exact all_ne_of_allLt (And.right (by assumption)) | exact all_ne_of_allLt (And.right (And.right (by assumption))) | exact all_ne_of_allLt (And.right (And.right (And.right (by assumption)))) | exact all_ne_of_allLt (And.right (And.right (And.right (And.right (by assumption))))) | exact all_ne_of_allLt (And.right (And.right (And.right (And.right (And.right (by assumption)))))) | exact all_ne_of_allLt (And.right (And.right (And.right (And.right (And.right (And.right (by assumption))))))) | exact all_ne_of_allLt (And.right (And.right (And.right (And.right (And.right (And.right (And.right (by assumption)))))))) | exact all_ne_of_allLt (And.right (And.right (And.right (And.right (And.right (And.right (And.right (And.right (by assumption)))))))))))
  (k_with "my call ref" => first | ((k_here; (with_reducible show wpAny _ _ (call (Value.ref 56) _) _ _ _); k_dflt (refine' Calls.use (create_asbx_spec _ _ _ _ ?p1 ?p2) ?k1 ?k2 ?k3 ?k4 ?k5 ?kK ?kd ?ku ?_; (case k1 => k_asm); (case k2 => k_asm); (case k3 => k_asm); (case k4 => k_asm); (case k5 => k_asm); (case kK => first | exact rfl | assumption); (case kd => ktr_room); (case ku => ktr_units); (case p1 => omega); (case p2 => omega); k_whole); intro v9 news9 h9 tk9 F9 N9 hR9; obtain ⟨⟨t9, hv9⟩, hn9⟩ := hR9; subst hv9; subst news9; (try dsimp only))))
  (k_with "my eval ListComp" => first | ((k_here; k_dflt (refine ListComp_enum (by k_asm) (by with_unfolding_all rfl) (by decide) (by rfl) (by decide) (by rfl) (by rfl) (by decide) ?_ (by intro _; rfl)))))
  (k_with "my call type:enumerate" => first | (k_extra "enum go"))
  (k_with "my EnumElt" => first | ((refine' EnumElt.intro ?z (by k_asm) (by k_asm) (fun p hp => hp); (case z => k_extra "elt"))))
  (k_with "bind" => first | exact BindsTo.of_eq (binds := [("word", _), ("pos", _), ("size", _)]) rfl | exact BindsTo.of_eq (binds := [("word", _), ("value", _), ("pos", _), ("size", _)]) rfl | exact BindsTo.of_eq (binds := [("op", _), ("a", _), ("b", _), ("c", _)]) rfl | exact BindsTo.of_eq (binds := [("op", _), ("a", _), ("bx", _)]) rfl | exact BindsTo.of_eq (binds := [("op", _), ("a", _), ("sbx", _)]) rfl | exact BindsTo.of_eq (binds := [("word", _)]) rfl | exact BindsTo.of_eq (binds := [("word", _), ("bx", _)]) rfl | exact BindsTo.of_eq (binds := [("word", _), ("sbx", _)]) rfl | exact BindsTo.of_eq (binds := [("p", _), ("pc", _)]) rfl | exact BindsTo.of_eq (binds := [("p", _)]) rfl | exact BindsTo.of_eq (binds := [("urn", _), ("many", _)]) rfl | exact BindsTo.of_eq (binds := [("goals", _), ("at", _), ("most", _)]) rfl | exact BindsTo.of_eq (binds := [("goals", _), ("others", _)]) rfl | exact BindsTo.of_eq (binds := [("script", _)]) rfl | exact BindsTo.of_eq (binds := [("self", _)]) rfl | exact BindsTo.of_eq (binds := [("self", _), ("number", _), ("size", _)]) rfl)
  (k_with "my omega" => (k_whole; first | with_reducible assumption | k_dflt decide | with_reducible (first | (show @LT.lt Nat _ _ _; first | exact om_r0 (by assumption) | exact om_r1 (by assumption) (by k_dflt (exact rfl)) | exact om_r2 (by assumption) (by k_dflt (exact rfl)) | exact om_d1 (by assumption) (by assumption) (by k_dflt (exact rfl)) | exact om_d2 (by assumption) (by assumption) (by k_dflt (exact rfl)) | exact om_nlt (by assumption) (by k_dflt (exact rfl)) | exact om_meas (by assumption)) | (show @LE.le Nat _ _ _; first | exact om_le (by assumption) (by k_dflt (exact rfl)) | exact om_len (by assumption) (by assumption) (by k_dflt (exact rfl)) | exact om_len3 (by assumption) (by assumption) (by assumption) (by k_dflt (exact rfl)) | exact om_l16 (by assumption) (by assumption) (by assumption) (by assumption)) | (show @LT.lt Int _ _ _; first | exact om_cast (by assumption) | exact om_caste (by assumption) (by assumption) | exact om_eqlt (by assumption) (by assumption) | exact om_clen (by assumption) (by assumption) (by k_dflt decide) | exact om_ilen (by assumption) (by assumption) (by k_dflt decide) | exact om_cle (by assumption) (by k_dflt decide) | exact om_ilt (by assumption) (by k_dflt decide) | exact om_ile (by assumption) (by k_dflt decide) | exact om_igt (by assumption) (by k_dflt decide) | exact om_k3 (by assumption) (by assumption) | exact om_k1 (by assumption) (by assumption) (by assumption) | exact om_k2 (by assumption) (by assumption) (by assumption) (by assumption) (by k_dflt decide) | exact om_far2 (by assumption) (by assumption)) | (show @LE.le Int _ _ _; first | exact Int.natCast_nonneg _ | exact om_ige (by assumption) (by k_dflt decide) | exact om_k0 (by assumption) | exact om_s (by assumption) | exact om_p1 (by assumption) | exact om_k4 (by assumption) (by assumption) (by assumption) (by assumption) (by assumption) | exact om_far1 (by assumption) (by assumption) (by assumption)) | (show @Ne Nat _ _; first | exact om_gt1 (by assumption) | exact om_lt1 (by assumption) | exact om_gt2 (by assumption) | exact om_lt2 (by assumption) | exact om_gt3 (by assumption) | exact om_lt3 (by assumption) | exact om_c2 (by assumption) | exact om_c2' (by assumption) | exact om_c3 (by assumption) | exact om_c3' (by assumption) | exact om_c4 (by assumption) | exact om_c4' (by assumption) | exact om_s1 _ | exact Ne.symm (om_s1 _) | exact om_s2 _ | exact Ne.symm (om_s2 _) | exact om_s3 _ | exact Ne.symm (om_s3 _)) | (show @Eq _ _ _; first | exact om_tn (by assumption) (by assumption) | exact om_sc (by assumption)) | (show Not _; first | exact om_nz (by assumption)))))
  (k_with "elt" => first | exact wordAt_neg (by assumption) | exact wordAt_pos (by assumption))
  (k_with "enum go" => (k_dflt (refine' enumGo_call (wordAt gs os) (by rfl) (by k_asm) (by k_asm) (by k_mem) hI (by omega) ?turn ?done); (case' turn => (intro eE eI i ti tx oe oi eC oC eD ys m₂ h tk E' hil hC ha hb F₁ N₁; (have hg1 := hG (i : Int) (by omega) (by omega)); (try k_unmd); (try k_fold))); (case' done => (intro D ys h tk hys F₁ N₁ o1; (try simp only [LCg.Off1, and_true] at o1); (try dsimp only)))))
  refine wpAny_call ?_
  k_dflt k_enter
  k_steps
  k_with_none
  (k_with "my k_enter" => first | ((refine' code_defC ?k1 ?k2 ?k3 ?k4 ?k5 ?kA ?kF ?kK ?k6 ?k7 ?k8 ?k9 ?kB ?kD ?_ ?c2 ?c3 ?c4; (case kA => exact rfl); (case kF => exact rfl); (case kK => first | exact rfl | assumption); (case k1 => k_asm); (case k2 => k_asm); (case k3 => k_asm); (case k4 => k_asm); (case k5 => k_asm); (case k6 => k_is); (case k7 => k_is); (case k8 => ktr_room); (case k9 => first | k_extra "bind" | exact BindsTo.of_eq rfl | exact binds_K (by k_in) rfl (by k_is) rfl rfl rfl | fail "k_enter: no rule for these arguments"); (case kB => exact rfl); (case kD => decide +kernel); (case c2 => exact rfl); (case c3 => exact rfl); (case c4 => exact rfl); k_whole; intro g' L' h' tk' cells' FG' F' N' Y' B' X' T' l1; (try k_lt l1); k_cells Y'; (try simp only [List.cons_append, List.nil_append] at N'); (try dsimp only); (try k_lift B'); (try k_fold))) | ((refine' code_def ?k1 ?k2 ?k3 ?k4 ?k5 ?kA ?kF ?kK ?k6 ?k7 ?k8 ?k9 ?kB ?_ ?c2 ?c3 ?c4 ?c5; (case kA => exact rfl); (case kF => exact rfl); (case kK => first | exact rfl | assumption); (case k1 => k_asm); (case k2 => k_asm); (case k3 => k_asm); (case k4 => k_asm); (case k5 => k_asm); (case k6 => k_is); (case k7 => k_is); (case k8 => ktr_room); (case k9 => first | k_extra "bind" | exact BindsTo.of_eq rfl | exact binds_K (by k_in) rfl (by k_is) rfl rfl rfl | fail "k_enter: no rule for these arguments"); (case c5 => decide); (case kB => exact locs rfl); (case c2 => exact rfl); (case c3 => exact rfl); (case c4 => exact rfl); k_whole; intro g' L' h' FG' F' N' B' X' T'; (try dsimp only); (try k_lift B'); (try k_fold))))
  (k_with "my ite" => first | ((first | (refine ite_neg (by (try simp only [beq_iff_eq, bne_iff_ne, ne_eq, decide_eq_true_eq, Bool.not_eq_true', decide_eq_false_iff_not, beq_eq_false_iff_ne, Bool.and_eq_true, Bool.or_eq_true]); first | assumption | omega) ?_) | (refine ite_pos (by (try simp only [beq_iff_eq, bne_iff_ne, ne_eq, decide_eq_true_eq, Bool.not_eq_true', decide_eq_false_iff_not, beq_eq_false_iff_ne, Bool.and_eq_true, Bool.or_eq_true]); first | assumption | omega) ?_))))
  (k_with "my k_mem" => first | (assumption))
  (k_with "my news_mem" => first | (k_mem))
  (k_with "my k_all" => first | (first | exact all_ne_of_lt (by assumption) | exact all_ne_of_allLt (by assumption) | exact all_ne_of_allLt (And.right (by assumption)) | exact all_ne_of_allLt (And.right (And.right (by assumption))) | exact all_ne_of_allLt (And.right (And.right (And.right (by assumption)))) | exact all_ne_of_allLt (And.right (And.right (And.right (And.right (by assumption))))) | exact all_ne_of_allLt (And.right (And.right (And.right (And.right (And.right (by assumption)))))) | exact all_ne_of_allLt (And.right (And.right (And.right (And.right (And.right (And.right (by assumption))))))) | exact all_ne_of_allLt (And.right (And.right (And.right (And.right (And.right (And.right (And.right (by assumption)))))))) | exact all_ne_of_allLt (And.right (And.right (And.right (And.right (And.right (And.right (And.right (And.right (by assumption)))))))))))
  (k_with "my call ref" => first | ((k_here; (with_reducible show wpAny _ _ (call (Value.ref 56) _) _ _ _); k_dflt (refine' Calls.use (create_asbx_spec _ _ _ _ ?p1 ?p2) ?k1 ?k2 ?k3 ?k4 ?k5 ?kK ?kd ?ku ?_; (case k1 => k_asm); (case k2 => k_asm); (case k3 => k_asm); (case k4 => k_asm); (case k5 => k_asm); (case kK => first | exact rfl | assumption); (case kd => ktr_room); (case ku => ktr_units); (case p1 => omega); (case p2 => omega); k_whole); intro v9 news9 h9 tk9 F9 N9 hR9; obtain ⟨⟨t9, hv9⟩, hn9⟩ := hR9; subst hv9; subst news9; (try dsimp only))))
  (k_with "my eval ListComp" => first | ((k_here; k_dflt (refine ListComp_enum (by k_asm) (by with_unfolding_all rfl) (by decide) (by rfl) (by decide) (by rfl) (by rfl) (by decide) ?_ (by intro _; rfl)))))
  (k_with "my call type:enumerate" => first | (k_extra "enum go"))
  (k_with "my EnumElt" => first | ((refine' EnumElt.intro ?z (by k_asm) (by k_asm) (fun p hp => hp); (case z => k_extra "elt"))))
  (k_with "bind" => first | exact BindsTo.of_eq (binds := [("word", _), ("pos", _), ("size", _)]) rfl | exact BindsTo.of_eq (binds := [("word", _), ("value", _), ("pos", _), ("size", _)]) rfl | exact BindsTo.of_eq (binds := [("op", _), ("a", _), ("b", _), ("c", _)]) rfl | exact BindsTo.of_eq (binds := [("op", _), ("a", _), ("bx", _)]) rfl | exact BindsTo.of_eq (binds := [("op", _), ("a", _), ("sbx", _)]) rfl | exact BindsTo.of_eq (binds := [("word", _)]) rfl | exact BindsTo.of_eq (binds := [("word", _), ("bx", _)]) rfl | exact BindsTo.of_eq (binds := [("word", _), ("sbx", _)]) rfl | exact BindsTo.of_eq (binds := [("p", _), ("pc", _)]) rfl | exact BindsTo.of_eq (binds := [("p", _)]) rfl | exact BindsTo.of_eq (binds := [("urn", _), ("many", _)]) rfl | exact BindsTo.of_eq (binds := [("goals", _), ("at", _), ("most", _)]) rfl | exact BindsTo.of_eq (binds := [("goals", _), ("others", _)]) rfl | exact BindsTo.of_eq (binds := [("script", _)]) rfl | exact BindsTo.of_eq (binds := [("self", _)]) rfl | exact BindsTo.of_eq (binds := [("self", _), ("number", _), ("size", _)]) rfl)
  (k_with "my omega" => (k_whole; first | with_reducible assumption | k_dflt decide | with_reducible (first | (show @LT.lt Nat _ _ _; first | exact om_r0 (by assumption) | exact om_r1 (by assumption) (by k_dflt (exact rfl)) | exact om_r2 (by assumption) (by k_dflt (exact rfl)) | exact om_d1 (by assumption) (by assumption) (by k_dflt (exact rfl)) | exact om_d2 (by assumption) (by assumption) (by k_dflt (exact rfl)) | exact om_nlt (by assumption) (by k_dflt (exact rfl)) | exact om_meas (by assumption)) | (show @LE.le Nat _ _ _; first | exact om_le (by assumption) (by k_dflt (exact rfl)) | exact om_len (by assumption) (by assumption) (by k_dflt (exact rfl)) | exact om_len3 (by assumption) (by assumption) (by assumption) (by k_dflt (exact rfl)) | exact om_l16 (by assumption) (by assumption) (by assumption) (by assumption)) | (show @LT.lt Int _ _ _; first | exact om_cast (by assumption) | exact om_caste (by assumption) (by assumption) | exact om_eqlt (by assumption) (by assumption) | exact om_clen (by assumption) (by assumption) (by k_dflt decide) | exact om_ilen (by assumption) (by assumption) (by k_dflt decide) | exact om_cle (by assumption) (by k_dflt decide) | exact om_ilt (by assumption) (by k_dflt decide) | exact om_ile (by assumption) (by k_dflt decide) | exact om_igt (by assumption) (by k_dflt decide) | exact om_k3 (by assumption) (by assumption) | exact om_k1 (by assumption) (by assumption) (by assumption) | exact om_k2 (by assumption) (by assumption) (by assumption) (by assumption) (by k_dflt decide) | exact om_far2 (by assumption) (by assumption)) | (show @LE.le Int _ _ _; first | exact Int.natCast_nonneg _ | exact om_ige (by assumption) (by k_dflt decide) | exact om_k0 (by assumption) | exact om_s (by assumption) | exact om_p1 (by assumption) | exact om_k4 (by assumption) (by assumption) (by assumption) (by assumption) (by assumption) | exact om_far1 (by assumption) (by assumption) (by assumption)) | (show @Ne Nat _ _; first | exact om_gt1 (by assumption) | exact om_lt1 (by assumption) | exact om_gt2 (by assumption) | exact om_lt2 (by assumption) | exact om_gt3 (by assumption) | exact om_lt3 (by assumption) | exact om_c2 (by assumption) | exact om_c2' (by assumption) | exact om_c3 (by assumption) | exact om_c3' (by assumption) | exact om_c4 (by assumption) | exact om_c4' (by assumption) | exact om_s1 _ | exact Ne.symm (om_s1 _) | exact om_s2 _ | exact Ne.symm (om_s2 _) | exact om_s3 _ | exact Ne.symm (om_s3 _)) | (show @Eq _ _ _; first | exact om_tn (by assumption) (by assumption) | exact om_sc (by assumption)) | (show Not _; first | exact om_nz (by assumption)))))
  refine' hret _ _ _ _ (by k_asm) ?N ⟨_, _, rfl, rfl, by assumption, And.right (by assumption)⟩
  case N => exact kst_newsOf (by k_asm) (List.forall_mem_cons.mpr ⟨by k_mem, fun q hq => by k_mem⟩)


/-! P16 -/
section
variable {prog : Program} {w : World} {A : Around} {E : Value → Shared → Prop} {s : Shared} {h₀ : Heap} {L : Addr} {m : Str → Option Value} {env : Env}
theorem updF_any {d : Addr} {o : Obj} : ∀ {l : List (Addr × Obj)} {g : Obj → List (Addr × Obj)}, UpdF d o l g → ∀ o', UpdF d o' (g o') g
  | _, _, .head h, _ => .head h
  | _, _, .tail h r, o' => .tail h (updF_any r o')
theorem updF_self {d : Addr} {o : Obj} : ∀ {l : List (Addr × Obj)} {g : Obj → List (Addr × Obj)}, UpdF d o l g → g o = l
  | _, _, .head _ => rfl
  | _, _, .tail _ r => congrArg _ (updF_self r)
theorem compEnd_mono {s₁ : Shared} {I : Addr} {oI : Obj} {C : Addr} {oC : Obj} {D : Addr} {oD : Obj} {S : List (Addr × Obj) → Prop} {rest rest' : Value → List (Addr × Obj) → Prop} {y : Value} {s₂ : Shared} (h : LCg.CompEnd h₀ L m s₁ I oI C oC D oD S rest y s₂) (hr : ∀ n, rest y n → rest' y n) : LCg.CompEnd h₀ L m s₁ I oI C oC D oD S rest' y s₂ := by
  obtain ⟨h', tk, news', e, F, N, off, hS, r⟩ := h
  exact ⟨h', tk, news', e, F, N, off, hS, hr _ r⟩
theorem compEnd_same {s₁ : Shared} {I : Addr} {oI : Obj} {C : Addr} {oC : Obj} {D : Addr} {oD : Obj} {S : List (Addr × Obj) → Prop} {rest : Value → List (Addr × Obj) → Prop} {y : Value} {h' : Heap} {tk : Nat} {l : List (Addr × Obj)}
    (F : Fr h₀ L h' m) (N : News h₀ L h' ((I, oI) :: (C, oC) :: (D, oD) :: l)) (off : LCg.Off3 I C D l) (hS : S l) (r : rest y l) : LCg.CompEnd h₀ L m s₁ I oI C oC D oD S rest y { s₁ with heap := h', toks := tk } :=
  LCg.CompEnd.intro F N l (fun _ hp => hp) off hS r
/-- the turns of a comprehension by what holds of the items made and the ledger -/
theorem compRest_inv {elt : Expr} {x : Str} {scope : Scope} {cl : List (Str × Addr)} {S : List (Addr × Obj) → Prop} {P : Nat → Value → Prop} {Fin : List Value → List (Addr × Obj) → Prop} {n : Nat} (J : Nat → List Value → List (Addr × Obj) → Prop)
    (turn : ∀ i ys news, i < n → J i ys news → ∀ v I oI C oC D m₂ h tk (E' : Value → Shared → Prop), P i v → LCg.NsObj oC m₂ → m₂ x = some v → Fr h₀ L h m → News h₀ L h ((I, oI) :: (C, oC) :: (D, LCg.lst ys) :: news) → LCg.Off3 I C D news → ((@Ne Nat I C) ∧ (@Ne Nat I D) ∧ (@Ne Nat C D)) →
      wpAny (model prog w) A (eval elt (compEnvC scope cl C env)) (LCg.CompEnd h₀ L m { s with heap := h, toks := tk } I oI C oC D (LCg.lst ys) S (fun y news' => J (i + 1) (ys ++ [y]) news')) E' { s with heap := h, toks := tk })
    (fin : ∀ ys news, J n ys news → Fin ys news) : ∀ (k i : Nat) (ys : List Value) (news : List (Addr × Obj)), i + k = n → J i ys news → LCg.CompRest prog w A h₀ L m env elt x scope cl s S P Fin k i ys news
  | 0, i, ys, news, hk, hJ => LCg.CompRest.zero (fin ys news (by rw [← hk]; exact hJ))
  | k + 1, i, ys, news, hk, hJ => LCg.CompRest.succ fun v I oI C oC D m₂ h tk E' hP hC hx F N off ne =>
      wpAny_mono (turn i ys news (by lia) hJ v I oI C oC D m₂ h tk E' hP hC hx F N off ne) (fun _ _ q => compEnd_mono q fun n' hJ' => compRest_inv J turn fin k (i + 1) _ n' (by lia) hJ') fun _ _ q => q
/-- the end of a draw in the goals' comprehension -/
noncomputable def DrawEnd (h₀ : Heap) (L : Addr) (m : Str → Option Value) (s₁ : Shared) (I : Addr) (oI : Obj) (C : Addr) (oC : Obj) (D : Addr) (oD : Obj) (g : Obj → List (Addr × Obj)) (Bl : Addr) (nU : Nat) (turn : Int) (many : Int) (y : Value) (s₂ : Shared) : Prop :=
  ∃ (h' : Heap) (tk : Nat) (x turn' : Int) (t t' : Tok), s₂ = { s₁ with heap := h', toks := tk } ∧ Fr h₀ L h' m ∧ y = .int x t ∧ -1 ≤ x ∧ x < many ∧ turn ≤ turn' ∧ turn' ≤ turn + 2 ∧ News h₀ L h' ((I, oI) :: (C, oC) :: (D, oD) :: g (listOf #[.ref Bl, .int turn' t'] nU))
theorem DrawEnd.intro {s₁ : Shared} {I : Addr} {oI : Obj} {C : Addr} {oC : Obj} {D : Addr} {oD : Obj} {g : Obj → List (Addr × Obj)} {Bl : Addr} {nU : Nat} {turn many x turn' : Int} {t t' : Tok} {h' : Heap} {tk : Nat} {l : List (Addr × Obj)}
    (F : Fr h₀ L h' m) (N : News h₀ L h' l) (hl : l = (I, oI) :: (C, oC) :: (D, oD) :: g (listOf #[.ref Bl, .int turn' t'] nU)) (h1 : -1 ≤ x) (h2 : x < many) (h3 : turn ≤ turn') (h4 : turn' ≤ turn + 2) : DrawEnd h₀ L m s₁ I oI C oC D oD g Bl nU turn many (.int x t) { s₁ with heap := h', toks := tk } :=
  ⟨h', tk, x, turn', t, t', rfl, F, rfl, h1, h2, h3, h4, hl ▸ N⟩
theorem off3_updF {I C D U : Addr} {o o' : Obj} : ∀ {l : List (Addr × Obj)} {g : Obj → List (Addr × Obj)}, UpdF U o l g → LCg.Off3 I C D (g o) → LCg.Off3 I C D (g o')
  | _, _, .head _, h => h
  | _, _, .tail _ r, h => ⟨h.1, off3_updF r h.2⟩
/-- the comprehension that draws the goals -/
theorem goals_rest {elt : Expr} {x : Str} {scope : Scope} {cl : List (Str × Addr)} {Fin : List Value → List (Addr × Obj) → Prop} {n : Nat} {a : Int} {U Bl : Addr} {nU : Nat} {tt : Tok} {news : List (Addr × Obj)} {g : Obj → List (Addr × Obj)}
    (_hm : (U, listOf #[.ref Bl, .int 3 tt] nU) ∈ news) (hU : UpdF U (listOf #[.ref Bl, .int 3 tt] nU) news g)
    (turn : ∀ (i : Nat) (ys : List Value) (turn : Int) (tt : Tok), i < n → 3 ≤ turn → turn ≤ 3 + 2 * (i : Int) → ∀ t I oI C oC D m₂ h tk (E' : Value → Shared → Prop), LCg.NsObj oC m₂ → m₂ x = some (.int (a + (i : Int)) t) → Fr h₀ L h m → News h₀ L h ((I, oI) :: (C, oC) :: (D, LCg.lst ys) :: g (listOf #[.ref Bl, .int turn tt] nU)) →
      LCg.Off3 I C D (g (listOf #[.ref Bl, .int turn tt] nU)) → ((@Ne Nat I C) ∧ (@Ne Nat I D) ∧ (@Ne Nat C D)) →
      wpAny (model prog w) A (eval elt (compEnvC scope cl C env)) (DrawEnd h₀ L m { s with heap := h, toks := tk } I oI C oC D (LCg.lst ys) g Bl nU turn ((n : Int) + 1)) E' { s with heap := h, toks := tk })
    (fin : ∀ (ys : List Value) (xs : List Int) (turn : Int) (tt : Tok), IntsAre ys xs → xs.length = n → (∀ x ∈ xs, -1 ≤ x ∧ x < (n : Int) + 1) → Fin ys (g (listOf #[.ref Bl, .int turn tt] nU))) :
    LCg.CompRest prog w A h₀ L m env elt x scope cl s (fun _ => True) (fun i v => ∃ t, v = .int (a + (i : Int)) t) Fin n 0 [] news := by
  refine compRest_inv (fun i ys news' => ∃ (turn : Int) (tt : Tok) (xs : List Int), news' = g (listOf #[.ref Bl, .int turn tt] nU) ∧ 3 ≤ turn ∧ turn ≤ 3 + 2 * (i : Int) ∧ IntsAre ys xs ∧ xs.length = i ∧ ∀ x ∈ xs, -1 ≤ x ∧ x < (n : Int) + 1) ?_ ?_ n 0 [] news (Nat.zero_add n)
    ⟨3, tt, [], (updF_self hU).symm, Int.le_refl _, by lia, .nil, rfl, fun _ h => nomatch h⟩
  · rintro i ys news' hi ⟨turn', tt', xs, rfl, h3, h4, hI, hl, hb⟩ v I oI C oC D m₂ h tk E' ⟨t, rfl⟩ hC hx F N off ne
    refine wpAny_mono (turn i ys turn' tt' hi h3 h4 t I oI C oC D m₂ h tk E' hC hx F N off ne) (fun y s₂ q => ?_) fun _ _ q => q
    obtain ⟨h', tk', z, turn₂, tz, t₂, rfl, F', rfl, z1, z2, u1, u2, N'⟩ := q
    refine ⟨h', tk', _, rfl, F', N', off3_updF (updF_any hU (listOf #[.ref Bl, .int turn' tt'] nU)) off, trivial, turn₂, t₂, xs ++ [z], rfl, by lia, by simp only [Int.natCast_add]; lia, ints_snoc hI _ _, by rw [List.length_append, List.length_singleton, hl], fun q hq => ?_⟩
    rcases List.mem_append.mp hq with hq | hq
    · exact hb q hq
    · rw [List.mem_singleton] at hq
      subst hq
      exact ⟨z1, z2⟩
  · rintro ys news' ⟨turn', tt', xs, rfl, _, _, hI, hl, hb⟩
    exact fin ys xs turn' tt' hI hl hb
/-- a comprehension over a range whose elements leave the made objects as they were -/
theorem pure_rest {elt : Expr} {x : Str} {scope : Scope} {cl : List (Str × Addr)} {Fin : List Value → List (Addr × Obj) → Prop} {n : Nat} {a : Int} {news : List (Addr × Obj)} (f : Nat → Int)
    (turn : ∀ (i : Nat) (ys : List Value), i < n → ∀ t I oI C oC D m₂ h tk (E' : Value → Shared → Prop), LCg.NsObj oC m₂ → m₂ x = some (.int (a + (i : Int)) t) → Fr h₀ L h m → News h₀ L h ((I, oI) :: (C, oC) :: (D, LCg.lst ys) :: news) →
      wpAny (model prog w) A (eval elt (compEnvC scope cl C env)) (EnumElt h₀ L m { s with heap := h, toks := tk } ((I, oI) :: (C, oC) :: (D, LCg.lst ys) :: news) (f i)) E' { s with heap := h, toks := tk })
    (fin : ∀ (ys : List Value), IntsAre ys ((List.range n).map f) → Fin ys news) :
    LCg.CompRest prog w A h₀ L m env elt x scope cl s (fun _ => True) (fun i v => ∃ t, v = .int (a + (i : Int)) t) Fin n 0 [] news := by
  refine compRest_inv (fun i ys news' => news' = news ∧ IntsAre ys ((List.range i).map f)) ?_ ?_ n 0 [] news (Nat.zero_add n) ⟨rfl, .nil⟩
  · rintro i ys news' hi ⟨rfl, hI⟩ v I oI C oC D m₂ h tk E' ⟨t, rfl⟩ hC hx F N off ne
    refine wpAny_mono (turn i ys hi t I oI C oC D m₂ h tk E' hC hx F N) (fun y s₂ q => ?_) fun _ _ q => q
    obtain ⟨h', tk', tz, rfl, rfl, F', N'⟩ := q
    refine ⟨h', tk', _, rfl, F', N', off, trivial, rfl, ?_⟩
    rw [List.range_succ, List.map_append]
    exact ints_snoc hI _ _
  · rintro ys news' ⟨rfl, hI⟩
    exact fin ys hI
end


/-! P18 -/
/-- the goal that the law asks at i -/
noncomputable def dueAt (gs : List Int) (most : Int) (i : Nat) : Int := if 0 ≤ gs.getD (i : Int).toNat 0 then lawGoal gs most (i : Int) else gs.getD (i : Int).toNat 0
noncomputable def dueGoals (gs : List Int) (most : Int) : List Int := (List.range gs.length).map (dueAt gs most)
theorem dueAt_pos {gs : List Int} {most : Int} {i : Nat} (h : 0 ≤ gs.getD (i : Int).toNat 0) : lawGoal gs most (i : Int) = dueAt gs most i := (if_pos h).symm
theorem dueAt_neg {gs : List Int} {most : Int} {i : Nat} (h : ¬ 0 ≤ gs.getD (i : Int).toNat 0) : gs.getD (i : Int).toNat 0 = dueAt gs most i := (if_neg h).symm
theorem wordsOf_len (gs os : List Int) : (wordsOf gs os).length = gs.length := by simp [wordsOf]
theorem dueGoals_len (gs : List Int) (most : Int) : (dueGoals gs most).length = gs.length := by simp [dueGoals]
theorem getD_map_range {n : Nat} {f : Nat → Int} {i : Nat} (h : i < n) : ((List.range n).map f).getD i 0 = f i := by simp [List.getD, h]
theorem lawGoal_in01 {gs : List Int} (G : GoalsIn gs) {most i : Int} (h0 : 0 ≤ i) (h1 : i < gs.length) (hg : 0 ≤ gs.getD i.toNat 0) : 0 ≤ lawGoal gs most i ∧ lawGoal gs most i < gs.length := by
  have key : ∀ (c : Prop) [Decidable c] (a b : Int), (0 ≤ a ∧ a < gs.length) → (0 ≤ b ∧ b < gs.length) → 0 ≤ (if c then a else b) ∧ (if c then a else b) < gs.length := by
    intro c _ a b ha hb
    split
    · exact ha
    · exact hb
  exact key _ _ _ ⟨hg, G i h0 h1⟩ (chase_in G _ _ _ hg (G i h0 h1))
theorem dueGoals_in {gs : List Int} (G : GoalsIn gs) (most : Int) : GoalsIn (dueGoals gs most) := by
  intro i h0 h1
  rw [dueGoals_len] at h1 ⊢
  have hi : i.toNat < gs.length := by lia
  have e : ((i.toNat : Nat) : Int) = i := by lia
  unfold dueGoals
  rw [getD_map_range hi]
  unfold dueAt
  rw [e]
  split
  · rename_i h
    exact (lawGoal_in01 G h0 h1 h).2
  · exact G i h0 h1
section
variable {prog : Program} {w : World} {A : Around} {E : Value → Shared → Prop} {s : Shared} {h₀ : Heap} {L : Addr} {m : Str → Option Value} {env : Env}
theorem enumGo_due {elt : Expr} {a b : Str} {scope : Scope} {cl : List (Str × Addr)} {Q : Value → Shared → Prop} {l : Addr} {vs : List Value} {gs : List Int} {k : Nat} {news : List (Addr × Obj)} {om : Obj} {most : Int} {tm : Tok} (_hc : om.data = Data.cell (some (.int most tm)))
    (hh : A.handled = none) (F : Fr h₀ L s.heap m) (N : News h₀ L s.heap news) (hm : (l, listOf vs.toArray k) ∈ news) (hi : IntsAre vs gs) (hsz : gs.length ≤ 1000)
    (turn : ∀ (e it : Addr) (i : Nat) (ti tx : Tok) (oe oi : Obj) (C : Addr) (oC : Obj) (D : Addr) (ys : List Value) (m₂ : Str → Option Value) (h : Heap) (tk : Nat) (E' : Value → Shared → Prop), i < gs.length → LCg.NsObj oC m₂ → m₂ a = some (.int (i : Int) ti) → m₂ b = some (.int (gs.getD (i : Int).toNat 0) tx) → Fr h₀ L h m →
      News h₀ L h ((e, oe) :: (it, oi) :: (C, oC) :: (D, LCg.lst ys) :: news) →
      wpAny (model prog w) A (eval elt (compEnvC scope cl C env)) (EnumElt h₀ L m { s with heap := h, toks := tk } ((e, oe) :: (it, oi) :: (C, oC) :: (D, LCg.lst ys) :: news) (dueAt gs most i)) E' { s with heap := h, toks := tk })
    (done : ∀ (D : Addr) (ys : List Value) (h : Heap) (tk : Nat), IntsAre ys (dueGoals gs most) → Fr h₀ L h m → News h₀ L h ((D, LCg.lst ys) :: news) → LCg.Off1 D news → Q (.ref D) { s with heap := h, toks := tk }) :
    wpAny (model prog w) A (call (.type "enumerate") [.ref l]) (EnumGo prog w A h₀ L m env elt a b scope cl Q) E s :=
  enumGo_call (dueAt gs most) hh F N hm hi hsz turn done
end
theorem dueGoals_len' {ys : List Value} {gs : List Int} {most : Int} (_ : IntsAre ys (dueGoals gs most)) : (dueGoals gs most).length = gs.length := dueGoals_len gs most
theorem wordsOf_len' {ys : List Value} {gs os : List Int} (_ : IntsAre ys (wordsOf gs os)) : (wordsOf gs os).length = gs.length := wordsOf_len gs os
/-- the words beside the jumps -/
structure Others (gs os : List Int) : Prop where
  len : os.length = gs.length
  all : ∀ x ∈ os, 0 ≤ x ∧ x < 4294967296 ∧ opOf x ≠ 36 ∧ opOf x ≠ 34 ∧ opOf x ≠ 22
theorem loads_ok : ∀ i : Fin 9, 0 ≤ mkLoad (Int.fmod (0 + (i.val : Int)) 5) (0 + (i.val : Int)) ∧ mkLoad (Int.fmod (0 + (i.val : Int)) 5) (0 + (i.val : Int)) < 4294967296 ∧ opOf (mkLoad (Int.fmod (0 + (i.val : Int)) 5) (0 + (i.val : Int))) ≠ 36 ∧ opOf (mkLoad (Int.fmod (0 + (i.val : Int)) 5) (0 + (i.val : Int))) ≠ 34 ∧ opOf (mkLoad (Int.fmod (0 + (i.val : Int)) 5) (0 + (i.val : Int))) ≠ 22 := by decide
theorem ret_ok : 0 ≤ mkRet ∧ mkRet < 4294967296 ∧ opOf mkRet ≠ 36 ∧ opOf mkRet ≠ 34 ∧ opOf mkRet ≠ 22 := by decide
theorem jmps_ok : ∀ i : Fin 21, 0 ≤ mkJmp ((i.val : Int) - 10) ∧ mkJmp ((i.val : Int) - 10) < 4294967296 ∧ opOf (mkJmp ((i.val : Int) - 10)) = 22 ∧ sbxOf (mkJmp ((i.val : Int) - 10)) = (i.val : Int) - 10 := by decide
theorem sets_ok : ∀ i j : Fin 21, setSbx (mkJmp ((i.val : Int) - 10)) ((j.val : Int) - 10) = mkJmp ((j.val : Int) - 10) := by decide
theorem small_fin {k : Int} (h0 : -10 ≤ k) (h1 : k ≤ 10) : ∃ i : Fin 21, k = (i.val : Int) - 10 := ⟨⟨(k + 10).toNat, by lia⟩, by show k = (((k + 10).toNat : Nat) : Int) - 10; lia⟩
theorem jmp_at {k : Int} (h0 : -10 ≤ k) (h1 : k ≤ 10) : 0 ≤ mkJmp k ∧ mkJmp k < 4294967296 ∧ opOf (mkJmp k) = 22 ∧ sbxOf (mkJmp k) = k := by
  obtain ⟨i, rfl⟩ := small_fin h0 h1
  exact jmps_ok i
theorem set_at {k l : Int} (h0 : -10 ≤ k) (h1 : k ≤ 10) (h2 : -10 ≤ l) (h3 : l ≤ 10) : setSbx (mkJmp k) l = mkJmp l := by
  obtain ⟨i, rfl⟩ := small_fin h0 h1
  obtain ⟨j, rfl⟩ := small_fin h2 h3
  exact sets_ok i j
theorem others_are {gs os : List Int} {n : Nat} (hl : os.length = n) (hg : gs.length = n + 1) (hn : n ≤ 9) (ho : os = (List.range n).map fun (i : Nat) => mkLoad (Int.fmod (0 + (i : Int)) 5) (0 + (i : Int))) : Others gs (os ++ [mkRet]) := by
  refine ⟨by rw [List.length_append, hl, hg]; rfl, fun x hx => ?_⟩
  rcases List.mem_append.mp hx with h | h
  · rw [ho] at h
    obtain ⟨i, hi, rfl⟩ := List.mem_map.mp h
    rw [List.mem_range] at hi
    exact loads_ok ⟨i, by lia⟩
  · rw [List.mem_singleton.mp h]
    exact ret_ok
theorem words_at {gs os : List Int} {i : Nat} (h : i < gs.length) : (wordsOf gs os).getD i 0 = wordAt gs os i := getD_map_range h
theorem others_at {gs os : List Int} (O : Others gs os) {i : Nat} (h : i < gs.length) : os.getD i 0 ∈ os := by
  have h' : i < os.length := by rw [O.len]; exact h
  have e : os.getD i 0 = os[i] := by simp [List.getD, h']
  rw [e]
  exact List.getElem_mem h'
theorem word_ok {gs os : List Int} (G : GoalsIn gs) (hle : gs.length ≤ 10) (O : Others gs os) {i : Nat} (h : i < gs.length) :
    (0 ≤ wordAt gs os i ∧ wordAt gs os i < 4294967296 ∧ opOf (wordAt gs os i) ≠ 36 ∧ opOf (wordAt gs os i) ≠ 34) ∧ (opOf (wordAt gs os i) = 22 ↔ 0 ≤ gs.getD i 0) ∧ (0 ≤ gs.getD i 0 → (i : Int) + 1 + sbxOf (wordAt gs os i) = gs.getD i 0) := by
  have hG := G (i : Int) (by lia) (by lia)
  unfold wordAt
  simp only [Int.toNat_natCast] at hG ⊢
  by_cases hg : gs.getD i 0 < 0
  · rw [if_pos hg]
    have := O.all _ (others_at O h)
    exact ⟨⟨this.1, this.2.1, this.2.2.1, this.2.2.2.1⟩, ⟨fun e => absurd e this.2.2.2.2, fun e => absurd hg (by lia)⟩, fun e => absurd hg (by lia)⟩
  · rw [if_neg hg]
    have := jmp_at (k := gs.getD i 0 - (i : Int) - 1) (by lia) (by lia)
    refine ⟨⟨this.1, this.2.1, by rw [this.2.2.1]; decide, by rw [this.2.2.1]; decide⟩, ⟨fun _ => by lia, fun _ => this.2.2.1⟩, fun _ => ?_⟩
    rw [this.2.2.2]
    lia
theorem coded_words {gs os : List Int} (G : GoalsIn gs) (hle : gs.length ≤ 10) (O : Others gs os) : Coded gs (wordsOf gs os) := by
  refine ⟨wordsOf_len gs os, hle, fun x hx => ?_, fun i h0 h1 => ?_, fun i h0 h1 hg => ?_, G⟩
  · obtain ⟨i, hi, rfl⟩ := List.mem_map.mp hx
    rw [List.mem_range] at hi
    exact (word_ok G hle O hi).1
  · have hi : i.toNat < gs.length := by lia
    rw [words_at hi]
    exact (word_ok G hle O hi).2.1
  · have hi : i.toNat < gs.length := by lia
    have e : ((i.toNat : Nat) : Int) = i := by lia
    have := (word_ok G hle O hi).2.2 hg
    rw [words_at hi]
    rw [e] at this
    exact this
theorem due_word {gs os : List Int} (G : GoalsIn gs) (hle : gs.length ≤ 10) (most : Int) {i : Nat} (h : i < gs.length) : newWord gs (wordsOf gs os) most i = wordAt (dueGoals gs most) os i := by
  have hG := G (i : Int) (by lia) (by lia)
  have hd : (dueGoals gs most).getD i 0 = dueAt gs most i := getD_map_range h
  unfold newWord
  rw [words_at h]
  simp only [wordAt, Int.toNat_natCast, hd] at hG ⊢
  by_cases hg : 0 ≤ gs.getD i 0
  · have hgn : ¬ gs.getD i 0 < 0 := by lia
    have hda : dueAt gs most i = lawGoal gs most (i : Int) := (dueAt_pos (by simpa using hg)).symm
    have hlg := lawGoal_in01 G (most := most) (i := (i : Int)) (by lia) (by lia) (by simpa using hg)
    have hch : 0 ≤ (chased gs (i : Int)).2 ∧ (chased gs (i : Int)).2 < gs.length := chase_in G _ _ _ (by simpa using hg) (by simpa using hG)
    rw [if_pos hg, if_neg hgn, hda, if_neg (show ¬ lawGoal gs most (i : Int) < 0 by lia)]
    unfold goalEnd lawGoal
    simp only [Int.toNat_natCast]
    by_cases hx : (chased gs (i : Int)).2 ∈ (chased gs (i : Int)).1
    · rw [if_pos hx, if_pos (Or.inl hx)]
      rw [set_at (by lia) (by lia) (by lia) (by lia)]
      simp
    · rw [if_neg hx]
      by_cases hm : (if (chased gs (i : Int)).2 - (i : Int) - 1 < 0 then -((chased gs (i : Int)).2 - (i : Int) - 1) else (chased gs (i : Int)).2 - (i : Int) - 1) ≤ most
      · have hm' : ¬ most < (if (chased gs (i : Int)).2 - (i : Int) - 1 < 0 then -((chased gs (i : Int)).2 - (i : Int) - 1) else (chased gs (i : Int)).2 - (i : Int) - 1) := by lia
        rw [if_pos hm, if_neg (fun q => q.elim hx hm')]
        exact set_at (by lia) (by lia) (by lia) (by lia)
      · have hm' : most < (if (chased gs (i : Int)).2 - (i : Int) - 1 < 0 then -((chased gs (i : Int)).2 - (i : Int) - 1) else (chased gs (i : Int)).2 - (i : Int) - 1) := by lia
        rw [if_neg hm, if_pos (Or.inr hm')]
  · have hgn : gs.getD i 0 < 0 := by lia
    have hda : dueAt gs most i = gs.getD i 0 := by
      have := dueAt_neg (gs := gs) (most := most) (i := i) (by simpa using hg)
      simpa using this.symm
    rw [if_neg hg, if_pos hgn, hda, if_pos hgn]
theorem due_words {vs : List Value} {gs os : List Int} {most : Int} (C : Coded gs (wordsOf gs os)) (_O : Others gs os) (h : IntsAre vs (threaded gs (wordsOf gs os) most)) : IntsAre vs (wordsOf (dueGoals gs most) os) := by
  refine ints_of_eq h ?_
  refine List.ext_getElem (by rw [threaded, mixed_length, wordsOf_len, wordsOf_len, dueGoals_len]) fun i h1 h2 => ?_
  have hi : i < gs.length := by rw [wordsOf_len, dueGoals_len] at h2; exact h2
  have hi' : i < (wordsOf gs os).length := by rw [wordsOf_len]; exact hi
  have e1 : (threaded gs (wordsOf gs os) most)[i] = newWord gs (wordsOf gs os) most i := by simp [threaded, mixed, wordsOf_len, hi]
  have e2 : (wordsOf (dueGoals gs most) os)[i] = wordAt (dueGoals gs most) os i := by simp [wordsOf]
  rw [e1, e2]
  exact due_word C.inn C.le most hi
theorem named_list {ys : List Value} {f : Nat → Int} {n : Nat} (h : IntsAre ys ((List.range n).map f)) : ∃ os : List Int, IntsAre ys os ∧ os = (List.range n).map f ∧ os.length = n := ⟨_, h, rfl, by simp⟩
theorem goals_are {xs : List Int} {n : Nat} (hl : xs.length = n) (hb : ∀ x ∈ xs, -1 ≤ x ∧ x < (n : Int) + 1) (hn : n ≤ 9) : GoalsIn (xs ++ [0 - 1]) ∧ (xs ++ [0 - 1]).length = n + 1 ∧ (xs ++ [0 - 1]).length ≤ 10 := by
  have h1 : (xs ++ [0 - 1]).length = n + 1 := by rw [List.length_append, hl]; rfl
  refine ⟨fun i h0 h2 => ?_, h1, by lia⟩
  have hi : i.toNat < (xs ++ [0 - 1]).length := by lia
  have e : (xs ++ [(0 - 1 : Int)]).getD i.toNat 0 = (xs ++ [0 - 1])[i.toNat] := by simp only [List.getD, List.getElem?_eq_getElem hi, Option.getD]
  rw [e]
  have hm := List.getElem_mem hi
  rcases List.mem_append.mp hm with h | h
  · have := (hb _ h).2
    lia
  · have := List.mem_singleton.mp h
    lia


/-! R1 -/
theorem use_create_abx {w : World} {loose : List Str} {mean : ExcName → Option Value} {mg mb : Str → Option Value} {news : List (Addr × Obj)} {dp un : Nat} {gd : Option (List Code)} {cn : Str} {cs : Scope} {a : Addr} {ccd : Value} {cl : List (Str × Addr)} {outer : List Env} {A₀ : Around} {base h₀ : Heap} {L : Addr} {m : Str → Option Value} {s : Shared} {Q E : Value → Shared → Prop} (a1 b1 : Int) (t t1 t2 : Tok) (h1 : 0 ≤ a1) (h2 : a1 < 256) (h3 : 0 ≤ b1) (h4 : b1 < 262144)
    (F : Fr h₀ L s.heap m) (Bl : Below A₀ base outer h₀) (X : (hd.heap_39 w.params).In h₀) (N : News h₀ L s.heap news) (T : Top hd.view_39 loose mean mg mb h₀) (hk : cs.kind = .function) (hdp : dp + 4 < recursionLimit) (hun : un + 20 < cLine)
    (ret : ∀ t', ∀ h' tk', Fr h₀ L h' m → News h₀ L h' news → Q (.int (mkLoad a1 b1) t') { s with heap := h', toks := tk' }) :
    wpAny (model (RowW.prog (OpenRow.toRowW (OpenLaw.row PySem.Challenge.rw_rh0159_01))) w) (ktrTop dp un gd cn cs L a ccd cl outer) (call (.ref 49) [.int 1 t, .int a1 t1, .int b1 t2]) Q E s :=
  Calls.use (create_abx_spec a1 b1 t t1 t2 h1 h2 h3 h4 : Calls w loose mean mg mb 49 news _ 4 20 _) Bl F X N T hk hdp hun fun v n h' tk' F' N' r => by
    obtain ⟨⟨t', rfl⟩, rfl⟩ := r
    exact ret t' h' tk' F' N'
theorem use_create_abc {w : World} {loose : List Str} {mean : ExcName → Option Value} {mg mb : Str → Option Value} {news : List (Addr × Obj)} {dp un : Nat} {gd : Option (List Code)} {cn : Str} {cs : Scope} {a : Addr} {ccd : Value} {cl : List (Str × Addr)} {outer : List Env} {A₀ : Around} {base h₀ : Heap} {L : Addr} {m : Str → Option Value} {s : Shared} {Q E : Value → Shared → Prop} (t t1 t2 t3 : Tok)
    (F : Fr h₀ L s.heap m) (Bl : Below A₀ base outer h₀) (X : (hd.heap_39 w.params).In h₀) (N : News h₀ L s.heap news) (T : Top hd.view_39 loose mean mg mb h₀) (hk : cs.kind = .function) (hdp : dp + 4 < recursionLimit) (hun : un + 20 < cLine)
    (ret : ∀ t', ∀ h' tk', Fr h₀ L h' m → News h₀ L h' news → Q (.int mkRet t') { s with heap := h', toks := tk' }) :
    wpAny (model (RowW.prog (OpenRow.toRowW (OpenLaw.row PySem.Challenge.rw_rh0159_01))) w) (ktrTop dp un gd cn cs L a ccd cl outer) (call (.ref 42) [.int 30 t, .int 0 t1, .int 1 t2, .int 0 t3]) Q E s :=
  Calls.use (create_abc_spec t t1 t2 t3 : Calls w loose mean mg mb 42 news _ 4 20 _) Bl F X N T hk hdp hun fun v n h' tk' F' N' r => by
    obtain ⟨⟨t', rfl⟩, rfl⟩ := r
    exact ret t' h' tk' F' N'
/-- what Proto() makes -/
structure ProtoV where
  (x d a1 a2 a3 a4 a5 a6 : Addr)
  (z : PZ)
theorem use_proto {w : World} {loose : List Str} {mean : ExcName → Option Value} {mg mb : Str → Option Value} {news : List (Addr × Obj)} {dp un : Nat} {gd : Option (List Code)} {cn : Str} {cs : Scope} {a : Addr} {ccd : Value} {cl : List (Str × Addr)} {outer : List Env} {A₀ : Around} {base h₀ : Heap} {L : Addr} {m : Str → Option Value} {s : Shared} {Q E : Value → Shared → Prop} 
    (F : Fr h₀ L s.heap m) (Bl : Below A₀ base outer h₀) (X : (hd.heap_39 w.params).In h₀) (N : News h₀ L s.heap news) (T : Top hd.view_39 loose mean mg mb h₀) (hk : cs.kind = .function) (hdp : dp + 5 < recursionLimit) (hun : un + 20 < cLine)
    (ret : ∀ (X : ProtoV), ∀ h' tk', Fr h₀ L h' m → News h₀ L h' ((X.a6, listOf #[] 0) :: (X.a5, listOf #[] 0) :: (X.a4, listOf #[] 0) :: (X.a3, listOf #[] 0) :: (X.a2, listOf #[] 0) :: (X.a1, listOf #[] 0) :: (X.x, instObj 178 X.d) :: (X.d, protoDict w.params X.z X.a1 X.a2 X.a3 X.a4 X.a5 X.a6) :: news) → AllLt X.d news → (@LT.lt Nat _ X.d X.x ∧ @LT.lt Nat _ X.x X.a1 ∧ @LT.lt Nat _ X.a1 X.a2 ∧ @LT.lt Nat _ X.a2 X.a3 ∧ @LT.lt Nat _ X.a3 X.a4 ∧ @LT.lt Nat _ X.a4 X.a5 ∧ @LT.lt Nat _ X.a5 X.a6) → Q (.ref X.x) { s with heap := h', toks := tk' }) :
    wpAny (model (RowW.prog (OpenRow.toRowW (OpenLaw.row PySem.Challenge.rw_rh0159_01))) w) (ktrTop dp un gd cn cs L a ccd cl outer) (call (.ref 178) []) Q E s :=
  Calls.use (proto_spec : Calls w loose mean mg mb 178 news _ 5 20 _) Bl F X N T hk hdp hun fun v n h' tk' F' N' r => by
    obtain ⟨x, d, a1, a2, a3, a4, a5, a6, z, rfl, rfl, o1, o2⟩ := r
    exact ret ⟨x, d, a1, a2, a3, a4, a5, a6, z⟩ h' tk' F' N' o1 o2
theorem use_drawn {w : World} {loose : List Str} {mean : ExcName → Option Value} {mg mb : Str → Option Value} {news : List (Addr × Obj)} {dp un : Nat} {gd : Option (List Code)} {cn : Str} {cs : Scope} {a : Addr} {ccd : Value} {cl : List (Str × Addr)} {outer : List Env} {A₀ : Around} {base h₀ : Heap} {L : Addr} {m : Str → Option Value} {s : Shared} {Q E : Value → Shared → Prop} {U Ub : Addr} {vb : List Value} {bs : List Int} {nU nB : Nat} {g : Obj → List (Addr × Obj)} (turn many : Int) (tt t : Tok) (hU : UpdF U (listOf #[.ref Ub, .int turn tt] nU) news g) (hB : (Ub, listOf vb.toArray nB) ∈ news) (hne : (Ub, listOf vb.toArray nB).1 ≠ U) (hI : IntsAre vb bs) (hlen : bs.length ≤ 63) (h0 : 0 ≤ turn) (h1 : turn ≤ 100) (hm0 : 0 < many) (hm1 : many ≤ 100)
    (F : Fr h₀ L s.heap m) (Bl : Below A₀ base outer h₀) (X : (hd.heap_39 w.params).In h₀) (N : News h₀ L s.heap news) (T : Top hd.view_39 loose mean mg mb h₀) (hk : cs.kind = .function) (hdp : dp + 10 < recursionLimit) (hun : un + 60 < cLine)
    (ret : ∀ (x : Int) (t' t'' : Tok), ∀ h' tk', Fr h₀ L h' m → News h₀ L h' (g (listOf #[.ref Ub, .int (turn + 1) t''] nU)) → 0 ≤ x → x < many → Q (.int x t') { s with heap := h', toks := tk' }) :
    wpAny (model (RowW.prog (OpenRow.toRowW (OpenLaw.row PySem.Challenge.rw_rh0159_01))) w) (ktrTop dp un gd cn cs L a ccd cl outer) (call (.ref 226) [.ref U, .int many t]) Q E s :=
  Calls.use (drawn_spec turn many tt t hU hB hne hI hlen h0 h1 hm0 hm1 : Calls w loose mean mg mb 226 news _ 10 60 _) Bl F X N T hk hdp hun fun v n h' tk' F' N' r => by
    obtain ⟨x, t', t'', rfl, h5, h6, rfl⟩ := r
    exact ret x t' t'' h' tk' F' N' h5 h6
theorem use_words {w : World} {loose : List Str} {mean : ExcName → Option Value} {mg mb : Str → Option Value} {news : List (Addr × Obj)} {dp un : Nat} {gd : Option (List Code)} {cn : Str} {cs : Scope} {a : Addr} {ccd : Value} {cl : List (Str × Addr)} {outer : List Env} {A₀ : Around} {base h₀ : Heap} {L : Addr} {m : Str → Option Value} {s : Shared} {Q E : Value → Shared → Prop} {Gl Ol : Addr} {vg vo : List Value} {gs os : List Int} {nG nO : Nat} (hB : (Gl, listOf vg.toArray nG) ∈ news) (hI : IntsAre vg gs) (hO : (Ol, listOf vo.toArray nO) ∈ news) (hIo : IntsAre vo os) (hle : gs.length ≤ 10) (hlo : os.length = gs.length) (hG : GoalsIn gs)
    (F : Fr h₀ L s.heap m) (Bl : Below A₀ base outer h₀) (X : (hd.heap_39 w.params).In h₀) (N : News h₀ L s.heap news) (T : Top hd.view_39 loose mean mg mb h₀) (hk : cs.kind = .function) (hdp : dp + 20 < recursionLimit) (hun : un + 100 < cLine)
    (ret : ∀ (D : Addr) (ys : List Value), ∀ h' tk', Fr h₀ L h' m → News h₀ L h' ((D, LCg.lst ys) :: news) → IntsAre ys (wordsOf gs os) → LCg.Off1 D news → Q (.ref D) { s with heap := h', toks := tk' }) :
    wpAny (model (RowW.prog (OpenRow.toRowW (OpenLaw.row PySem.Challenge.rw_rh0159_01))) w) (ktrTop dp un gd cn cs L a ccd cl outer) (call (.ref 238) [.ref Gl, .ref Ol]) Q E s :=
  Calls.use (law_words_spec hB hI hO hIo hle hlo hG : Calls w loose mean mg mb 238 news _ 20 100 _) Bl F X N T hk hdp hun fun v n h' tk' F' N' r => by
    obtain ⟨D, ys, rfl, rfl, i, o⟩ := r
    exact ret D ys h' tk' F' N' i o
theorem use_law_goal {w : World} {loose : List Str} {mean : ExcName → Option Value} {mg mb : Str → Option Value} {news : List (Addr × Obj)} {dp un : Nat} {gd : Option (List Code)} {cn : Str} {cs : Scope} {a : Addr} {ccd : Value} {cl : List (Str × Addr)} {outer : List Env} {A₀ : Around} {base h₀ : Heap} {L : Addr} {m : Str → Option Value} {s : Shared} {Q E : Value → Shared → Prop} {Gl : Addr} {vg : List Value} {gs : List Int} {nG : Nat} (i most : Int) (t1 t2 : Tok) (hB : (Gl, listOf vg.toArray nG) ∈ news) (hI : IntsAre vg gs) (hle : gs.length ≤ 10) (hG : GoalsIn gs) (h0 : 0 ≤ i) (h1 : i < gs.length) (h2 : 0 ≤ gs.getD i.toNat 0)
    (F : Fr h₀ L s.heap m) (Bl : Below A₀ base outer h₀) (X : (hd.heap_39 w.params).In h₀) (N : News h₀ L s.heap news) (T : Top hd.view_39 loose mean mg mb h₀) (hk : cs.kind = .function) (hdp : dp + 10 < recursionLimit) (hun : un + 60 < cLine)
    (ret : ∀ t', ∀ h' tk', Fr h₀ L h' m → News h₀ L h' news → Q (.int (lawGoal gs most i) t') { s with heap := h', toks := tk' }) :
    wpAny (model (RowW.prog (OpenRow.toRowW (OpenLaw.row PySem.Challenge.rw_rh0159_01))) w) (ktrTop dp un gd cn cs L a ccd cl outer) (call (.ref 233) [.ref Gl, .int i t1, .int most t2]) Q E s :=
  Calls.use (law_goal_spec i most t1 t2 hB hI hle hG h0 h1 h2 : Calls w loose mean mg mb 233 news _ 10 60 _) Bl F X N T hk hdp hun fun v n h' tk' F' N' r => by
    obtain ⟨⟨t', rfl⟩, rfl⟩ := r
    exact ret t' h' tk' F' N'
theorem ar_le3 {t : Int} (h : 3 ≤ t) : 0 ≤ t := by lia
theorem ar_le3s {t : Int} (h : 3 ≤ t) : 0 ≤ t + 1 := by lia
theorem ar_99 {t : Int} (h : t ≤ 99) : t ≤ 100 := by lia
theorem ar_99s {t : Int} (h : t ≤ 99) : t + 1 ≤ 100 := by lia
theorem ar_pos2 {x : Int} (h : 0 ≤ x) : 0 < 2 + x := by lia
theorem ar_hi2 {x : Int} (h : x < 9) : 2 + x ≤ 100 := by lia
theorem ar_neg {x : Int} (h : 0 ≤ x) : 0 - 1 < 2 + x := by lia
theorem ar_m1 {x : Int} (h : 0 ≤ x) : -1 ≤ x := by lia
theorem ar_t1 (t : Int) : t ≤ t + 1 := by lia
theorem ar_t2 (t : Int) : t ≤ t + 1 + 1 := by lia
theorem ar_u1 (t : Int) : t + 1 ≤ t + 2 := by lia
theorem ar_u2 (t : Int) : t + 1 + 1 ≤ t + 2 := by lia
theorem ar_take (w : List Int) : (List.take 24 w).length ≤ 63 := Nat.le_trans (List.length_take_le 24 w) (by decide)
section
variable {prog : Program} {w : World} {A : Around} {E : Value → Shared → Prop} {s : Shared} {h₀ : Heap} {L : Addr} {m : Str → Option Value} {env : Env}
theorem goals_rest2 {elt : Expr} {x : Str} {scope : Scope} {cl : List (Str × Addr)} {Fin : List Value → List (Addr × Obj) → Prop} {n : Nat} {a many : Int} {U Bl : Addr} {nU : Nat} {tt : Tok} {news : List (Addr × Obj)} {g : Obj → List (Addr × Obj)} {om : Obj} {tm : Tok} (_hc : om.data = Data.cell (some (.int many tm)))
    (hm : (U, listOf #[.ref Bl, .int 3 tt] nU) ∈ news) (hU : UpdF U (listOf #[.ref Bl, .int 3 tt] nU) news g) (hN : many = (n : Int) + 1) (h9 : n ≤ 9)
    (turn : ∀ (i : Nat) (ys : List Value) (turn : Int) (tt : Tok), 3 ≤ turn → turn ≤ 99 → ∀ t I oI C oC D m₂ h tk (E' : Value → Shared → Prop), LCg.NsObj oC m₂ → m₂ x = some (.int (a + (i : Int)) t) → Fr h₀ L h m → News h₀ L h ((I, oI) :: (C, oC) :: (D, LCg.lst ys) :: g (listOf #[.ref Bl, .int turn tt] nU)) →
      LCg.Off3 I C D (g (listOf #[.ref Bl, .int turn tt] nU)) → ((@Ne Nat I C) ∧ (@Ne Nat I D) ∧ (@Ne Nat C D)) →
      wpAny (model prog w) A (eval elt (compEnvC scope cl C env)) (DrawEnd h₀ L m { s with heap := h, toks := tk } I oI C oC D (LCg.lst ys) g Bl nU turn many) E' { s with heap := h, toks := tk })
    (fin : ∀ (ys : List Value) (xs : List Int) (turn : Int) (tt : Tok), IntsAre ys xs → xs.length = n → (∀ x ∈ xs, -1 ≤ x ∧ x < (n : Int) + 1) → Fin ys (g (listOf #[.ref Bl, .int turn tt] nU))) :
    LCg.CompRest prog w A h₀ L m env elt x scope cl s (fun _ => True) (fun i v => ∃ t, v = .int (a + (i : Int)) t) Fin n 0 [] news :=
  goals_rest hm hU (fun i ys turn' tt' hi h3 h4 t I oI C oC D m₂ h tk E' hC hx F N off ne => hN ▸ turn i ys turn' tt' h3 (by lia) t I oI C oC D m₂ h tk E' hC hx F N off ne) fin
end
theorem off1_mem {D : Addr} : ∀ {l : List (Addr × Obj)}, LCg.Off1 D l → ∀ p ∈ l, @Ne Nat p.1 D
  | [], _, _, hp => nomatch hp
  | _ :: _, h, p, hp => by
    rcases List.mem_cons.mp hp with rfl | hp
    · exact h.1
    · exact off1_mem h.2 p hp
theorem ne_fa {D a : Addr} {o : Obj} {l : List (Addr × Obj)} (h : ∀ p ∈ l, p.1 < D) (hm : (a, o) ∈ l) : @Ne Nat a D := Nat.ne_of_lt (h _ hm)
theorem ne_allLt {D a : Addr} {o : Obj} {l : List (Addr × Obj)} (h : AllLt D l) (hm : (a, o) ∈ l) : @Ne Nat a D := Nat.ne_of_lt (allLt_lt h _ hm)
theorem ne_off1 {D a : Addr} {o : Obj} {l : List (Addr × Obj)} (h : LCg.Off1 D l) (hm : (a, o) ∈ l) : @Ne Nat a D := off1_mem h _ hm
theorem ne_off3 {I C D a : Addr} {o : Obj} {l : List (Addr × Obj)} (h : LCg.Off3 I C D l) (hm : (a, o) ∈ l) : (@Ne Nat a I) ∧ (@Ne Nat a C) ∧ (@Ne Nat a D) := h.mem _ hm
theorem all_ne_fa {D : Addr} {l : List (Addr × Obj)} (h : ∀ p ∈ l, p.1 < D) : ∀ p ∈ l, p.1 ≠ D := fun p hp => Nat.ne_of_lt (h p hp)
theorem small_ints {vs : List Value} {cs : List Int} (h : IntsAre vs cs) (hl : cs.length ≤ 100) : vs.toArray.size ≤ sizeLine := by
  rw [PySem.sizeLine_eq, List.size_toArray, IntsAre.length h]
  lia
theorem list_own {prog : Program} {w : World} {A : Around} {E Q : Value → Shared → Prop} {s : Shared} {h₀ : Heap} {L l : Addr} {m : Str → Option Value} {news : List (Addr × Obj)} {its : Array Value} {n : Nat} (F : Fr h₀ L s.heap m) (N : News h₀ L s.heap news) (hl : (l, ({ cls := .type "list", data := .seq its n } : Obj)) ∈ news) (hsz : its.size ≤ sizeLine)
    (h : ∀ D c h', Fr h₀ L h' m → News h₀ L h' ((D, listOf its c) :: news) → (∀ q ∈ news, q.1 < D) → Q (.ref D) { s with heap := h' }) : wpAny (model prog w) A (call (.type "list") [.ref l]) Q E s :=
  list_copyK F N ⟨_, N.get hl, rfl, n, rfl⟩ h hsz
theorem up_all {X : ProtoV} (c : @LT.lt Nat _ X.d X.x ∧ @LT.lt Nat _ X.x X.a1 ∧ @LT.lt Nat _ X.a1 X.a2 ∧ @LT.lt Nat _ X.a2 X.a3 ∧ @LT.lt Nat _ X.a3 X.a4 ∧ @LT.lt Nat _ X.a4 X.a5 ∧ @LT.lt Nat _ X.a5 X.a6) : @LT.lt Nat _ X.d X.a1 ∧ @LT.lt Nat _ X.d X.a2 ∧ @LT.lt Nat _ X.d X.a3 ∧ @LT.lt Nat _ X.d X.a4 ∧ @LT.lt Nat _ X.d X.a5 ∧ @LT.lt Nat _ X.d X.a6 := by
  obtain ⟨u1, u2, u3, u4, u5, u6, u7⟩ := c
  have v2 := Nat.lt_trans u1 u2
  have v3 := Nat.lt_trans v2 u3
  have v4 := Nat.lt_trans v3 u4
  have v5 := Nat.lt_trans v4 u5
  have v6 := Nat.lt_trans v5 u6
  exact ⟨v2, v3, v4, v5, v6, Nat.lt_trans v6 u7⟩
theorem ne_pr {X : ProtoV} {a : Addr} {o : Obj} {l : List (Addr × Obj)} (h : AllLt X.d l) (hm : (a, o) ∈ l) (c : @LT.lt Nat _ X.d X.x ∧ @LT.lt Nat _ X.x X.a1 ∧ @LT.lt Nat _ X.a1 X.a2 ∧ @LT.lt Nat _ X.a2 X.a3 ∧ @LT.lt Nat _ X.a3 X.a4 ∧ @LT.lt Nat _ X.a4 X.a5 ∧ @LT.lt Nat _ X.a5 X.a6) :
    (@Ne Nat a X.x) ∧ (@Ne Nat a X.a1) ∧ (@Ne Nat a X.a2) ∧ (@Ne Nat a X.a3) ∧ (@Ne Nat a X.a4) ∧ (@Ne Nat a X.a5) ∧ (@Ne Nat a X.a6) := by
  have z : @LT.lt Nat _ a X.d := allLt_lt h _ hm
  obtain ⟨v1, v2, v3, v4, v5, v6⟩ := up_all c
  exact ⟨Nat.ne_of_lt (Nat.lt_trans z c.1), Nat.ne_of_lt (Nat.lt_trans z v1), Nat.ne_of_lt (Nat.lt_trans z v2), Nat.ne_of_lt (Nat.lt_trans z v3), Nat.ne_of_lt (Nat.lt_trans z v4), Nat.ne_of_lt (Nat.lt_trans z v5), Nat.ne_of_lt (Nat.lt_trans z v6)⟩
theorem ne_ch {X : ProtoV} (c : @LT.lt Nat _ X.d X.x ∧ @LT.lt Nat _ X.x X.a1 ∧ @LT.lt Nat _ X.a1 X.a2 ∧ @LT.lt Nat _ X.a2 X.a3 ∧ @LT.lt Nat _ X.a3 X.a4 ∧ @LT.lt Nat _ X.a4 X.a5 ∧ @LT.lt Nat _ X.a5 X.a6) :
    (@Ne Nat X.x X.d) ∧ (@Ne Nat X.a1 X.d) ∧ (@Ne Nat X.a2 X.d) ∧ (@Ne Nat X.a3 X.d) ∧ (@Ne Nat X.a4 X.d) ∧ (@Ne Nat X.a5 X.d) ∧ (@Ne Nat X.a6 X.d) := by
  obtain ⟨v1, v2, v3, v4, v5, v6⟩ := up_all c
  exact ⟨Nat.ne_of_gt c.1, Nat.ne_of_gt v1, Nat.ne_of_gt v2, Nat.ne_of_gt v3, Nat.ne_of_gt v4, Nat.ne_of_gt v5, Nat.ne_of_gt v6⟩


/-! S2 -/
theorem news_swap {h₀ : Heap} {L : Addr} {h : Heap} {a b : Addr × Obj} {l : List (Addr × Obj)} (N : News h₀ L h (a :: b :: l)) : News h₀ L h (b :: a :: l) := kst_newsOf N (mem_first (l1 := [a]))
theorem off1_ne {D d : Addr} {o x : Obj} {rest : List (Addr × Obj)} (h : LCg.Off1 D ((d, o) :: rest)) (hne : ∀ q ∈ rest, q.1 ≠ d) : ∀ q ∈ (D, x) :: rest, q.1 ≠ d := List.forall_mem_cons.mpr ⟨fun e => h.1 e.symm, hne⟩
theorem ten_line : 10 ≤ sizeLine := by rw [PySem.sizeLine_eq]; decide
theorem small_list {vs : List Value} {cs : List Int} (h : IntsAre vs cs) (hl : cs.length ≤ 100) : vs.toArray.size ≤ sizeLine := by
  rw [PySem.sizeLine_eq]
  have e : vs.length = cs.length := IntsAre.length h
  rw [List.size_toArray, e]
  lia
theorem use_protoB {w : World} {loose : List Str} {mean : ExcName → Option Value} {mg mb : Str → Option Value} {news : List (Addr × Obj)} {dp un : Nat} {gd : Option (List Code)} {cn : Str} {cs : Scope} {a : Addr} {ccd : Value} {cl : List (Str × Addr)} {outer : List Env} {A₀ : Around} {base h₀ : Heap} {L : Addr} {m : Str → Option Value} {s : Shared} {Q E : Value → Shared → Prop}
    (F : Fr h₀ L s.heap m) (Bl : Below A₀ base outer h₀) (X : (hd.heap_39 w.params).In h₀) (N : News h₀ L s.heap news) (T : Top hd.view_39 loose mean mg mb h₀) (hk : cs.kind = .function) (hdp : dp + 5 < recursionLimit) (hun : un + 20 < cLine)
    (ret : ∀ (X : ProtoV) (rest : List (Addr × Obj)) (h' : Heap) (tk' : Nat), Fr h₀ L h' m → News h₀ L h' ((X.d, protoDict w.params X.z X.a1 X.a2 X.a3 X.a4 X.a5 X.a6) :: rest) → (∀ q ∈ news, q ∈ rest) → (X.x, instObj 178 X.d) ∈ rest → (∀ q ∈ rest, q.1 ≠ X.d) → AllLt X.d news → @LT.lt Nat _ X.d X.x → Q (.ref X.x) { s with heap := h', toks := tk' }) :
    wpAny (model (RowW.prog (OpenRow.toRowW (OpenLaw.row PySem.Challenge.rw_rh0159_01))) w) (ktrTop dp un gd cn cs L a ccd cl outer) (call (.ref 178) []) Q E s :=
  use_proto F Bl X N T hk hdp hun fun X h' tk' F' N' o1 o2 => by
    obtain ⟨u1, u2, u3, u4, u5, u6, u7⟩ := o2
    have v2 := Nat.lt_trans u1 u2
    have v3 := Nat.lt_trans v2 u3
    have v4 := Nat.lt_trans v3 u4
    have v5 := Nat.lt_trans v4 u5
    have v6 := Nat.lt_trans v5 u6
    have v7 := Nat.lt_trans v6 u7
    refine ret X ([(X.a6, listOf #[] 0), (X.a5, listOf #[] 0), (X.a4, listOf #[] 0), (X.a3, listOf #[] 0), (X.a2, listOf #[] 0), (X.a1, listOf #[] 0), (X.x, instObj 178 X.d)] ++ news) h' tk' F' (kst_newsOf N' (mem_first (l1 := [(X.a6, listOf #[] 0), (X.a5, listOf #[] 0), (X.a4, listOf #[] 0), (X.a3, listOf #[] 0), (X.a2, listOf #[] 0), (X.a1, listOf #[] 0), (X.x, instObj 178 X.d)]))) (fun q hq => List.mem_append_right _ hq) (.tail _ (.tail _ (.tail _ (.tail _ (.tail _ (.tail _ (.head _))))))) ?_ o1 u1
    exact List.forall_mem_cons.mpr ⟨Nat.ne_of_gt v7, List.forall_mem_cons.mpr ⟨Nat.ne_of_gt v6, List.forall_mem_cons.mpr ⟨Nat.ne_of_gt v5, List.forall_mem_cons.mpr ⟨Nat.ne_of_gt v4, List.forall_mem_cons.mpr ⟨Nat.ne_of_gt v3, List.forall_mem_cons.mpr ⟨Nat.ne_of_gt v2, List.forall_mem_cons.mpr ⟨Nat.ne_of_gt u1, all_ne_of_allLt o1⟩⟩⟩⟩⟩⟩⟩
theorem copied_spec {w : World} {loose mean mg mb news} {P dP c k p l o u : Addr} {z : PZ} {vs vp : List Value} {cs : List Int} {n np : Nat}
    (hP : (P, instObj 178 dP) ∈ news) (hD : (dP, protoDict w.params z c k p l o u) ∈ news) (hC : (c, listOf vs.toArray n) ∈ news) (hI : IntsAre vs cs) (hlen : cs.length ≤ 100)
    (hk' : (k, listOf #[] 0) ∈ news) (hp : (p, listOf vp.toArray np) ∈ news) (hpl : vp.length ≤ 10) (hl : (l, listOf #[] 0) ∈ news) (ho : (o, listOf #[] 0) ∈ news) (hu : (u, listOf #[] 0) ∈ news) :
    Calls w loose mean mg mb 206 news [.ref P] 12 60 (fun v news' => ∃ (x d c' k' p' l' o' u' : Addr) (z' : PZ) (n' np' : Nat), v = .ref x ∧
      news' = (x, instObj 178 d) :: (d, protoDict w.params z' c' k' p' l' o' u') :: (c', listOf vs.toArray n') :: (p', listOf vp.toArray np') :: news ∧
      AllLt d news ∧ AllLt x news ∧ AllLt c' news ∧ AllLt p' news ∧ @LT.lt Nat _ d x ∧ @LT.lt Nat _ x c' ∧ @LT.lt Nat _ c' p') := by
  unfold Calls
  w_top off
  k_with_none
  (k_with "my k_enter" => first | ((refine' code_def ?k1 ?k2 ?k3 ?k4 ?k5 ?kA ?kF ?kK ?k6 ?k7 ?k8 ?k9 ?kB ?_ ?c2 ?c3 ?c4 ?c5; (case kA => exact rfl); (case kF => exact rfl); (case kK => first | exact rfl | assumption); (case k1 => k_asm); (case k2 => k_asm); (case k3 => k_asm); (case k4 => k_asm); (case k5 => k_asm); (case k6 => k_is); (case k7 => k_is); (case k8 => ktr_room); (case k9 => first | k_extra "bind" | exact BindsTo.of_eq rfl | exact binds_K (by k_in) rfl (by k_is) rfl rfl rfl | fail "k_enter: no rule for these arguments"); (case c5 => decide); (case kB => exact locs rfl); (case c2 => exact rfl); (case c3 => exact rfl); (case c4 => exact rfl); k_whole; intro g' L' h' FG' F' N' B' X' T'; (try dsimp only); (try k_lift B'); (try k_fold))))
  (k_with "my omega" => (k_whole; first | with_reducible assumption | k_dflt decide | with_reducible (first | (show @LT.lt Nat _ _ _; first | exact om_r0 (by assumption) | exact om_r1 (by assumption) (by k_dflt (exact rfl)) | exact om_r2 (by assumption) (by k_dflt (exact rfl)) | exact om_d1 (by assumption) (by assumption) (by k_dflt (exact rfl)) | exact om_d2 (by assumption) (by assumption) (by k_dflt (exact rfl)) | exact om_nlt (by assumption) (by k_dflt (exact rfl)) | exact om_meas (by assumption)) | (show @LE.le Nat _ _ _; first | exact om_le (by assumption) (by k_dflt (exact rfl)) | exact om_len (by assumption) (by assumption) (by k_dflt (exact rfl)) | exact om_len3 (by assumption) (by assumption) (by assumption) (by k_dflt (exact rfl)) | exact om_l16 (by assumption) (by assumption) (by assumption) (by assumption)) | (show @LT.lt Int _ _ _; first | exact om_cast (by assumption) | exact om_caste (by assumption) (by assumption) | exact om_eqlt (by assumption) (by assumption) | exact om_clen (by assumption) (by assumption) (by k_dflt decide) | exact om_ilen (by assumption) (by assumption) (by k_dflt decide) | exact om_cle (by assumption) (by k_dflt decide) | exact om_ilt (by assumption) (by k_dflt decide) | exact om_ile (by assumption) (by k_dflt decide) | exact om_igt (by assumption) (by k_dflt decide) | exact om_k3 (by assumption) (by assumption) | exact om_k1 (by assumption) (by assumption) (by assumption) | exact om_k2 (by assumption) (by assumption) (by assumption) (by assumption) (by k_dflt decide) | exact om_far2 (by assumption) (by assumption)) | (show @LE.le Int _ _ _; first | exact Int.natCast_nonneg _ | exact om_ige (by assumption) (by k_dflt decide) | exact om_k0 (by assumption) | exact om_s (by assumption) | exact om_p1 (by assumption) | exact om_k4 (by assumption) (by assumption) (by assumption) (by assumption) (by assumption) | exact om_far1 (by assumption) (by assumption) (by assumption)) | (show @Ne Nat _ _; first | exact om_gt1 (by assumption) | exact om_lt1 (by assumption) | exact om_gt2 (by assumption) | exact om_lt2 (by assumption) | exact om_gt3 (by assumption) | exact om_lt3 (by assumption) | exact om_c2 (by assumption) | exact om_c2' (by assumption) | exact om_c3 (by assumption) | exact om_c3' (by assumption) | exact om_c4 (by assumption) | exact om_c4' (by assumption) | exact om_s1 _ | exact Ne.symm (om_s1 _) | exact om_s2 _ | exact Ne.symm (om_s2 _) | exact om_s3 _ | exact Ne.symm (om_s3 _)) | (show @Eq _ _ _; first | exact om_tn (by assumption) (by assumption) | exact om_sc (by assumption)) | (show Not _; first | exact om_nz (by assumption)))))
  k_fill
  intro dp un gd cn cs a ccd cl outer A₀ base h₀ L m s Q E B F X N T hk hdp hun hret
  k_with_none
  (k_with "my k_enter" => first | ((refine' code_def ?k1 ?k2 ?k3 ?k4 ?k5 ?kA ?kF ?kK ?k6 ?k7 ?k8 ?k9 ?kB ?_ ?c2 ?c3 ?c4 ?c5; (case kA => exact rfl); (case kF => exact rfl); (case kK => first | exact rfl | assumption); (case k1 => k_asm); (case k2 => k_asm); (case k3 => k_asm); (case k4 => k_asm); (case k5 => k_asm); (case k6 => k_is); (case k7 => k_is); (case k8 => ktr_room); (case k9 => first | k_extra "bind" | exact BindsTo.of_eq rfl | exact binds_K (by k_in) rfl (by k_is) rfl rfl rfl | fail "k_enter: no rule for these arguments"); (case c5 => decide); (case kB => exact locs rfl); (case c2 => exact rfl); (case c3 => exact rfl); (case c4 => exact rfl); k_whole; intro g' L' h' FG' F' N' B' X' T'; (try dsimp only); (try k_lift B'); (try k_fold))))
  (k_with "my omega" => (k_whole; first | with_reducible assumption | k_dflt decide | with_reducible (first | (show @LT.lt Nat _ _ _; first | exact om_r0 (by assumption) | exact om_r1 (by assumption) (by k_dflt (exact rfl)) | exact om_r2 (by assumption) (by k_dflt (exact rfl)) | exact om_d1 (by assumption) (by assumption) (by k_dflt (exact rfl)) | exact om_d2 (by assumption) (by assumption) (by k_dflt (exact rfl)) | exact om_nlt (by assumption) (by k_dflt (exact rfl)) | exact om_meas (by assumption)) | (show @LE.le Nat _ _ _; first | exact om_le (by assumption) (by k_dflt (exact rfl)) | exact om_len (by assumption) (by assumption) (by k_dflt (exact rfl)) | exact om_len3 (by assumption) (by assumption) (by assumption) (by k_dflt (exact rfl)) | exact om_l16 (by assumption) (by assumption) (by assumption) (by assumption)) | (show @LT.lt Int _ _ _; first | exact om_cast (by assumption) | exact om_caste (by assumption) (by assumption) | exact om_eqlt (by assumption) (by assumption) | exact om_clen (by assumption) (by assumption) (by k_dflt decide) | exact om_ilen (by assumption) (by assumption) (by k_dflt decide) | exact om_cle (by assumption) (by k_dflt decide) | exact om_ilt (by assumption) (by k_dflt decide) | exact om_ile (by assumption) (by k_dflt decide) | exact om_igt (by assumption) (by k_dflt decide) | exact om_k3 (by assumption) (by assumption) | exact om_k1 (by assumption) (by assumption) (by assumption) | exact om_k2 (by assumption) (by assumption) (by assumption) (by assumption) (by k_dflt decide) | exact om_far2 (by assumption) (by assumption)) | (show @LE.le Int _ _ _; first | exact Int.natCast_nonneg _ | exact om_ige (by assumption) (by k_dflt decide) | exact om_k0 (by assumption) | exact om_s (by assumption) | exact om_p1 (by assumption) | exact om_k4 (by assumption) (by assumption) (by assumption) (by assumption) (by assumption) | exact om_far1 (by assumption) (by assumption) (by assumption)) | (show @Ne Nat _ _; first | exact om_gt1 (by assumption) | exact om_lt1 (by assumption) | exact om_gt2 (by assumption) | exact om_lt2 (by assumption) | exact om_gt3 (by assumption) | exact om_lt3 (by assumption) | exact om_c2 (by assumption) | exact om_c2' (by assumption) | exact om_c3 (by assumption) | exact om_c3' (by assumption) | exact om_c4 (by assumption) | exact om_c4' (by assumption) | exact om_s1 _ | exact Ne.symm (om_s1 _) | exact om_s2 _ | exact Ne.symm (om_s2 _) | exact om_s3 _ | exact Ne.symm (om_s3 _)) | (show @Eq _ _ _; first | exact om_tn (by assumption) (by assumption) | exact om_sc (by assumption)) | (show Not _; first | exact om_nz (by assumption)))))
  (k_with "call ref" => (k_here; (with_reducible show wpAny _ _ (call (Value.ref 178) _) _ _ _); k_dflt (refine' use_protoB ?k2 ?k1 ?k3 ?k4 ?k5 ?kK ?kd ?ku ?_; (case k1 => k_asm); (case k2 => k_asm); (case k3 => k_asm); (case k4 => k_asm); (case k5 => k_asm); (case kK => first | exact rfl | assumption); (case kd => ktr_room); (case ku => ktr_units); k_whole); intro X9 rest9 h9 tk9 F9 N9 hsub hx hne o1 o2))
  (k_with "bind" => exact BindsTo.of_eq (binds := [("p", _)]) rfl)
  refine wpAny_call ?_
  k_dflt k_enter
  iterate 8 (first | (k_unfold; (try dsimp only)) | walk1 | (dsimp only; walk1))
  (rename Fr _ _ _ _ => F0)
  (rename News _ _ _ _ => N0)
  (rename Frag.In _ _ => X0)
  (rename Top _ _ _ _ _ _ => T0)
  refine wpAny_execs_cons (copy_source F0 X0 N0 rfl rfl rfl rfl rfl (hsub _ hP) (hsub _ hD) hx hne fun h1 t1 F1 N1 => ?_)
  clear F0 N0
  refine wpAny_execs_cons (copy_line_defined F1 X0 N1 rfl rfl rfl rfl rfl (hsub _ hP) (hsub _ hD) hx hne fun h2 t2 F2 N2 => ?_)
  clear F1 N1
  have hs2 := hsub
  have hx2 := hx
  refine wpAny_execs_cons (copylist_code F2 X0 N2 rfl rfl rfl rfl rfl (hsub _ hP) (hsub _ hD) hx hne T0 rfl (hsub _ hC) (small_list hI hlen) fun D_code n_code rest2 h3 t3 F3 N3 hr2 hm_code hne2 hlt_code => ?_)
  clear F2 N2 hne
  replace hsub := fun q hq => hr2 q (hsub q hq)
  have hxc := hlt_code _ hx2
  have hnc := fun q hq => hlt_code q (hs2 q hq)
  replace hx := hr2 _ hx
  have hne := hne2
  refine wpAny_execs_cons (copylist_constants F3 X0 N3 rfl rfl rfl rfl rfl (hsub _ hP) (hsub _ hD) hx hne T0 rfl (hsub _ hk') (Nat.zero_le _) fun D_constants n_constants rest3 h4 t4 F4 N4 hr3 hm_constants hne3 hlt_constants => ?_)
  clear F3 N3 hne
  replace hsub := fun q hq => hr3 q (hsub q hq)
  replace hx := hr3 _ hx
  have hne := hne3
  replace hm_code := hr3 _ hm_code
  have hs4 := hsub
  refine wpAny_execs_cons (copylist_protos F4 X0 N4 rfl rfl rfl rfl rfl (hsub _ hP) (hsub _ hD) hx hne T0 rfl (hsub _ hp) (Nat.le_trans (by simpa using hpl) ten_line) fun D_protos n_protos rest4 h5 t5 F5 N5 hr4 hm_protos hne4 hlt_protos => ?_)
  clear F4 N4 hne
  replace hsub := fun q hq => hr4 q (hsub q hq)
  replace hx := hr4 _ hx
  have hne := hne4
  have hcp := hlt_protos _ hm_code
  have hnp := fun q hq => hlt_protos q (hs4 q hq)
  replace hm_code := hr4 _ hm_code
  refine wpAny_execs_cons (copylist_line_info F5 X0 N5 rfl rfl rfl rfl rfl (hsub _ hP) (hsub _ hD) hx hne T0 rfl (hsub _ hl) (Nat.zero_le _) fun D_line_info n_line_info rest5 h6 t6 F6 N6 hr5 hm_line_info hne5 hlt_line_info => ?_)
  clear F5 N5 hne
  replace hsub := fun q hq => hr5 q (hsub q hq)
  replace hx := hr5 _ hx
  have hne := hne5
  replace hm_code := hr5 _ hm_code
  replace hm_protos := hr5 _ hm_protos
  have hO := hsub _ ho
  have hPr := hsub _ hP
  have hDr := hsub _ hD
  refine wpAny_execs_cons (plainObj_wpAny_Assign_Attribute ?_ (by rfl))
  refine LCg.ListComp_U (F₀ := F6) (by with_unfolding_all rfl) (by decide) (by rfl) (by decide) (by rfl) ?_
  refine Attribute_Name_ (nameX_L F6 rfl (get_locals F6 X0 N6 (.tail _ hPr) (.tail _ hDr) ?_) rfl rfl) (by with_unfolding_all rfl)
  refine LCg.CompSrc.ledger (by rfl) F6 N6 (.tail _ hO) (Nat.zero_le _) ?_
  intro g7
  refine LCg.CompRest.zero ?_
  intro D7 h7 t7 F7 N7 o7
  refine nameX_L F7 rfl ?_ rfl rfl
  have hne7 := off1_ne (x := LCg.lst []) o7 hne
  refine set_locals F7 X0 (news_swap N7) (.tail _ (.tail _ hx)) (.head _) (.head hne7) fun h8 F8 N8 => ?_
  clear F6 N6 F7 N7 o7 hO hPr hDr hne
  have hne := hne7
  replace hsub := fun q hq => List.Mem.tail (D7, LCg.lst []) (hsub q hq)
  replace hx := List.Mem.tail (D7, LCg.lst []) hx
  replace hm_code := List.Mem.tail (D7, LCg.lst []) hm_code
  replace hm_protos := List.Mem.tail (D7, LCg.lst []) hm_protos
  refine wpAny_execs_cons (copylist_upvalue_names F8 X0 N8 rfl rfl rfl rfl rfl (hsub _ hP) (hsub _ hD) hx hne T0 rfl (hsub _ hu) (Nat.zero_le _) fun D_upvalue_names n_upvalue_names rest8 h9 t9 F9 N9 hr8 hm_upvalue_names hne8 hlt_upvalue_names => ?_)
  clear F8 N8 hne
  replace hsub := fun q hq => hr8 q (hsub q hq)
  replace hx := hr8 _ hx
  have hne := hne8
  replace hm_code := hr8 _ hm_code
  replace hm_protos := hr8 _ hm_protos
  refine wpAny_execs_cons (copy_last_line F9 X0 N9 rfl rfl rfl rfl rfl (hsub _ hP) (hsub _ hD) hx hne fun h10 t10 F10 N10 => ?_)
  clear F9 N9
  refine wpAny_execs_cons (copy_upvalue_count F10 X0 N10 rfl rfl rfl rfl rfl (hsub _ hP) (hsub _ hD) hx hne fun h11 t11 F11 N11 => ?_)
  clear F10 N10
  refine wpAny_execs_cons (copy_param_count F11 X0 N11 rfl rfl rfl rfl rfl (hsub _ hP) (hsub _ hD) hx hne fun h12 t12 F12 N12 => ?_)
  clear F11 N11
  refine wpAny_execs_cons (copy_is_vararg F12 X0 N12 rfl rfl rfl rfl rfl (hsub _ hP) (hsub _ hD) hx hne fun h13 t13 F13 N13 => ?_)
  clear F12 N12
  refine wpAny_execs_cons (copy_max_stack F13 X0 N13 rfl rfl rfl rfl rfl (hsub _ hP) (hsub _ hD) hx hne fun h14 t14 F14 N14 => ?_)
  clear F13 N13
  (repeat' (first | (k_unfold; (try dsimp only)) | walk1 | (dsimp only; walk1) | (leave1; (try dsimp only))))
  k_with_none
  (k_with "my k_enter" => first | ((refine' code_def ?k1 ?k2 ?k3 ?k4 ?k5 ?kA ?kF ?kK ?k6 ?k7 ?k8 ?k9 ?kB ?_ ?c2 ?c3 ?c4 ?c5; (case kA => exact rfl); (case kF => exact rfl); (case kK => first | exact rfl | assumption); (case k1 => k_asm); (case k2 => k_asm); (case k3 => k_asm); (case k4 => k_asm); (case k5 => k_asm); (case k6 => k_is); (case k7 => k_is); (case k8 => ktr_room); (case k9 => first | k_extra "bind" | exact BindsTo.of_eq rfl | exact binds_K (by k_in) rfl (by k_is) rfl rfl rfl | fail "k_enter: no rule for these arguments"); (case c5 => decide); (case kB => exact locs rfl); (case c2 => exact rfl); (case c3 => exact rfl); (case c4 => exact rfl); k_whole; intro g' L' h' FG' F' N' B' X' T'; (try dsimp only); (try k_lift B'); (try k_fold))))
  (k_with "my omega" => (k_whole; first | with_reducible assumption | k_dflt decide | with_reducible (first | (show @LT.lt Nat _ _ _; first | exact om_r0 (by assumption) | exact om_r1 (by assumption) (by k_dflt (exact rfl)) | exact om_r2 (by assumption) (by k_dflt (exact rfl)) | exact om_d1 (by assumption) (by assumption) (by k_dflt (exact rfl)) | exact om_d2 (by assumption) (by assumption) (by k_dflt (exact rfl)) | exact om_nlt (by assumption) (by k_dflt (exact rfl)) | exact om_meas (by assumption)) | (show @LE.le Nat _ _ _; first | exact om_le (by assumption) (by k_dflt (exact rfl)) | exact om_len (by assumption) (by assumption) (by k_dflt (exact rfl)) | exact om_len3 (by assumption) (by assumption) (by assumption) (by k_dflt (exact rfl)) | exact om_l16 (by assumption) (by assumption) (by assumption) (by assumption)) | (show @LT.lt Int _ _ _; first | exact om_cast (by assumption) | exact om_caste (by assumption) (by assumption) | exact om_eqlt (by assumption) (by assumption) | exact om_clen (by assumption) (by assumption) (by k_dflt decide) | exact om_ilen (by assumption) (by assumption) (by k_dflt decide) | exact om_cle (by assumption) (by k_dflt decide) | exact om_ilt (by assumption) (by k_dflt decide) | exact om_ile (by assumption) (by k_dflt decide) | exact om_igt (by assumption) (by k_dflt decide) | exact om_k3 (by assumption) (by assumption) | exact om_k1 (by assumption) (by assumption) (by assumption) | exact om_k2 (by assumption) (by assumption) (by assumption) (by assumption) (by k_dflt decide) | exact om_far2 (by assumption) (by assumption)) | (show @LE.le Int _ _ _; first | exact Int.natCast_nonneg _ | exact om_ige (by assumption) (by k_dflt decide) | exact om_k0 (by assumption) | exact om_s (by assumption) | exact om_p1 (by assumption) | exact om_k4 (by assumption) (by assumption) (by assumption) (by assumption) (by assumption) | exact om_far1 (by assumption) (by assumption) (by assumption)) | (show @Ne Nat _ _; first | exact om_gt1 (by assumption) | exact om_lt1 (by assumption) | exact om_gt2 (by assumption) | exact om_lt2 (by assumption) | exact om_gt3 (by assumption) | exact om_lt3 (by assumption) | exact om_c2 (by assumption) | exact om_c2' (by assumption) | exact om_c3 (by assumption) | exact om_c3' (by assumption) | exact om_c4 (by assumption) | exact om_c4' (by assumption) | exact om_s1 _ | exact Ne.symm (om_s1 _) | exact om_s2 _ | exact Ne.symm (om_s2 _) | exact om_s3 _ | exact Ne.symm (om_s3 _)) | (show @Eq _ _ _; first | exact om_tn (by assumption) (by assumption) | exact om_sc (by assumption)) | (show Not _; first | exact om_nz (by assumption)))))
  refine' hret _ _ _ _ (by k_asm) ?N ⟨X9.x, X9.d, D_code, D_constants, D_protos, D_line_info, D7, D_upvalue_names, _, n_code, n_protos, rfl, rfl, o1, allLt_mono o1 o2, allLt_of hnc, allLt_of hnp, o2, hxc, hcp⟩
  case N => exact kst_newsOf (by k_asm) (List.forall_mem_cons.mpr ⟨.tail _ hx, List.forall_mem_cons.mpr ⟨.head _, List.forall_mem_cons.mpr ⟨.tail _ hm_code, List.forall_mem_cons.mpr ⟨.tail _ hm_protos, fun q hq => .tail _ (hsub q hq)⟩⟩⟩⟩)


/-! R2 -/
theorem use_set_sbx {w : World} {loose : List Str} {mean : ExcName → Option Value} {mg mb : Str → Option Value} {news : List (Addr × Obj)} {dp un : Nat} {gd : Option (List Code)} {cn : Str} {cs : Scope} {a : Addr} {ccd : Value} {cl : List (Str × Addr)} {outer : List Env} {A₀ : Around} {base h₀ : Heap} {L : Addr} {m : Str → Option Value} {s : Shared} {Q E : Value → Shared → Prop} (x k : Int) (t t2 : Tok) (h0 : 0 ≤ x) (h1 : x < 4294967296) (h2 : -131071 ≤ k) (h3 : k < 131072)
    (F : Fr h₀ L s.heap m) (Bl : Below A₀ base outer h₀) (X : (hd.heap_39 w.params).In h₀) (N : News h₀ L s.heap news) (T : Top hd.view_39 loose mean mg mb h₀) (hk : cs.kind = .function) (hdp : dp + 4 < recursionLimit) (hun : un + 20 < cLine)
    (ret : ∀ t', ∀ h' tk', Fr h₀ L h' m → News h₀ L h' news → Q (.int (setSbx x k) t') { s with heap := h', toks := tk' }) :
    wpAny (model (RowW.prog (OpenRow.toRowW (OpenLaw.row PySem.Challenge.rw_rh0159_01))) w) (ktrTop dp un gd cn cs L a ccd cl outer) (call (.ref 98) [.int x t, .int k t2]) Q E s :=
  Calls.use (set_sbx_spec x k t t2 h0 h1 h2 h3 : Calls w loose mean mg mb 98 news _ 4 20 _) Bl F X N T hk hdp hun fun v n h' tk' F' N' r => by
    obtain ⟨⟨t', rfl⟩, rfl⟩ := r
    exact ret t' h' tk' F' N'
theorem use_end_of_jumps {w : World} {loose : List Str} {mean : ExcName → Option Value} {mg mb : Str → Option Value} {news : List (Addr × Obj)} {dp un : Nat} {gd : Option (List Code)} {cn : Str} {cs : Scope} {a : Addr} {ccd : Value} {cl : List (Str × Addr)} {outer : List Env} {A₀ : Around} {base h₀ : Heap} {L : Addr} {m : Str → Option Value} {s : Shared} {Q E : Value → Shared → Prop} {P dP c k p l o u : Addr} {z : PZ} {vs : List Value} {gs cs' : List Int} {n : Nat} (pc : Int) (t : Tok) (hP : (P, instObj 178 dP) ∈ news) (hD : (dP, protoDict w.params z c k p l o u) ∈ news) (hC : (c, listOf vs.toArray n) ∈ news) (hI : IntsAre vs cs') (hW : Coded gs cs') (h0 : 0 ≤ pc) (h1 : pc < gs.length) (h2 : 0 ≤ gs.getD pc.toNat 0)
    (F : Fr h₀ L s.heap m) (Bl : Below A₀ base outer h₀) (X : (hd.heap_39 w.params).In h₀) (N : News h₀ L s.heap news) (T : Top hd.view_39 loose mean mg mb h₀) (hk : cs.kind = .function) (hdp : dp + 12 < recursionLimit) (hun : un + 60 < cLine)
    (ret : ∀ t', ∀ h' tk', Fr h₀ L h' m → News h₀ L h' news → 0 ≤ goalEnd gs pc → goalEnd gs pc < gs.length → Q (.int (goalEnd gs pc) t') { s with heap := h', toks := tk' }) :
    wpAny (model (RowW.prog (OpenRow.toRowW (OpenLaw.row PySem.Challenge.rw_rh0159_01))) w) (ktrTop dp un gd cn cs L a ccd cl outer) (call (.ref 213) [.ref P, .int pc t]) Q E s :=
  Calls.use (end_of_jumps_specB pc t hP hD hC hI hW h0 h1 h2 : Calls w loose mean mg mb 213 news _ 12 60 _) Bl F X N T hk hdp hun fun v n h' tk' F' N' r => by
    obtain ⟨⟨t', rfl, h5, h6⟩, rfl⟩ := r
    exact ret t' h' tk' F' N' h5 h6
theorem use_starts_of {w : World} {loose : List Str} {mean : ExcName → Option Value} {mg mb : Str → Option Value} {news : List (Addr × Obj)} {dp un : Nat} {gd : Option (List Code)} {cn : Str} {cs : Scope} {a : Addr} {ccd : Value} {cl : List (Str × Addr)} {outer : List Env} {A₀ : Around} {base h₀ : Heap} {L : Addr} {m : Str → Option Value} {s : Shared} {Q E : Value → Shared → Prop} {P dP c k p l o u : Addr} {z : PZ} {vs : List Value} {cs' : List Int} {n : Nat} (hP : (P, instObj 178 dP) ∈ news) (hD : (dP, protoDict w.params z c k p l o u) ∈ news) (hC : (c, listOf vs.toArray n) ∈ news) (hI : IntsAre vs cs') (hlen : cs'.length ≤ 100) (hG : GoodWords cs')
    (F : Fr h₀ L s.heap m) (Bl : Below A₀ base outer h₀) (X : (hd.heap_39 w.params).In h₀) (N : News h₀ L s.heap news) (T : Top hd.view_39 loose mean mg mb h₀) (hk : cs.kind = .function) (hdp : dp + 12 < recursionLimit) (hun : un + 60 < cLine)
    (ret : ∀ (D : Addr) (vs' : List Value) (n' : Nat), ∀ h' tk', Fr h₀ L h' m → News h₀ L h' ((D, listOf vs'.toArray n') :: news) → IntsAre vs' (upTo cs'.length) → AllLt D news → Q (.ref D) { s with heap := h', toks := tk' }) :
    wpAny (model (RowW.prog (OpenRow.toRowW (OpenLaw.row PySem.Challenge.rw_rh0159_01))) w) (ktrTop dp un gd cn cs L a ccd cl outer) (call (.ref 194) [.ref P]) Q E s :=
  Calls.use (starts_of_spec hP hD hC hI hlen hG : Calls w loose mean mg mb 194 news _ 12 60 _) Bl F X N T hk hdp hun fun v n h' tk' F' N' r => by
    obtain ⟨D, vs', n', rfl, rfl, i, o⟩ := r
    exact ret D vs' n' h' tk' F' N' i o
/-- what copied makes -/
structure CopyV where
  (x d c k p l o u : Addr)
  (z : PZ)
  (n np : Nat)
theorem use_copied {w : World} {loose : List Str} {mean : ExcName → Option Value} {mg mb : Str → Option Value} {news : List (Addr × Obj)} {dp un : Nat} {gd : Option (List Code)} {cn : Str} {cs : Scope} {a : Addr} {ccd : Value} {cl : List (Str × Addr)} {outer : List Env} {A₀ : Around} {base h₀ : Heap} {L : Addr} {m : Str → Option Value} {s : Shared} {Q E : Value → Shared → Prop} {P dP c k p l o u : Addr} {z : PZ} {vs vp : List Value} {cs' : List Int} {n np : Nat} (hP : (P, instObj 178 dP) ∈ news) (hD : (dP, protoDict w.params z c k p l o u) ∈ news) (hC : (c, listOf vs.toArray n) ∈ news) (hI : IntsAre vs cs') (hlen : cs'.length ≤ 100) (hk' : (k, listOf #[] 0) ∈ news) (hp : (p, listOf vp.toArray np) ∈ news) (hpl : vp.length ≤ 10) (hl : (l, listOf #[] 0) ∈ news) (ho : (o, listOf #[] 0) ∈ news) (hu : (u, listOf #[] 0) ∈ news)
    (F : Fr h₀ L s.heap m) (Bl : Below A₀ base outer h₀) (X : (hd.heap_39 w.params).In h₀) (N : News h₀ L s.heap news) (T : Top hd.view_39 loose mean mg mb h₀) (hk : cs.kind = .function) (hdp : dp + 12 < recursionLimit) (hun : un + 60 < cLine)
    (ret : ∀ (X : CopyV), ∀ h' tk', Fr h₀ L h' m → News h₀ L h' ((X.x, instObj 178 X.d) :: (X.d, protoDict w.params X.z X.c X.k X.p X.l X.o X.u) :: (X.c, listOf vs.toArray X.n) :: (X.p, listOf vp.toArray X.np) :: news) → AllLt X.d news → AllLt X.x news → AllLt X.c news → AllLt X.p news → (@LT.lt Nat _ X.d X.x ∧ @LT.lt Nat _ X.x X.c ∧ @LT.lt Nat _ X.c X.p) → Q (.ref X.x) { s with heap := h', toks := tk' }) :
    wpAny (model (RowW.prog (OpenRow.toRowW (OpenLaw.row PySem.Challenge.rw_rh0159_01))) w) (ktrTop dp un gd cn cs L a ccd cl outer) (call (.ref 206) [.ref P]) Q E s :=
  Calls.use (copied_spec hP hD hC hI hlen hk' hp hpl hl ho hu : Calls w loose mean mg mb 206 news _ 12 60 _) Bl F X N T hk hdp hun fun v n h' tk' F' N' r => by
    obtain ⟨x, d, c2, k2, p2, l2, o2, u2, z2, n2, np2, rfl, rfl, q1, q2, q3, q4, q5⟩ := r
    exact ret ⟨x, d, c2, k2, p2, l2, o2, u2, z2, n2, np2⟩ h' tk' F' N' q1 q2 q3 q4 q5


/-! R3z -/
/-- what thread_jumps makes of one function -/
structure ThrV where
  (x d c k p l o u : Addr)
  (z : PZ)
  (vs : List Value)
  (n : Nat)
/-- what a call of thread_jumps with a function without functions of its own gives -/
noncomputable def InnerC (w : World) (loose : List Str) (mean : ExcName → Option Value) (mg mb : Str → Option Value) (news : List (Addr × Obj)) (q : Value) (most : Int) (ds : List Int) : Prop :=
  ∀ (news2 : List (Addr × Obj)) (t : Tok), (∀ p ∈ news, p ∈ news2) → Calls w loose mean mg mb 219 news2 [q, .int most t] 20 100 (fun v n' => ∃ X : ThrV, v = .ref X.x ∧
    n' = (X.x, instObj 178 X.d) :: (X.d, protoDict w.params X.z X.c X.k X.p X.l X.o X.u) :: (X.c, listOf X.vs.toArray X.n) :: (X.p, LCg.lst []) :: news2 ∧ IntsAre X.vs ds ∧ AllLt X.d news2 ∧ AllLt X.x news2 ∧ AllLt X.c news2 ∧ LCg.Off1 X.p news2)
theorem thread_gen {w : World} {loose mean mg mb news} {P dP c k p l o u : Addr} {z : PZ} {vs : List Value} {gs cs' : List Int} {n np : Nat} {qs vs0 : List Value} {dd uu : Nat} (most : Int) (t : Tok)
    (hb : ∀ (s : Shared) (oc : Value) (od : Option Addr) (G : FuncData) (osl : Array (Option Value)), (hd.heap_39 w.params).In s.heap → (hd.heap_39 w.params).lookup 219 = some ⟨oc, od, .func G, osl⟩ → BindsTo s G ⟨vs0, []⟩ [("p", .ref P), ("most", .int most t)])
    (hP : (P, instObj 178 dP) ∈ news) (hD : (dP, protoDict w.params z c k p l o u) ∈ news) (hC : (c, listOf vs.toArray n) ∈ news) (hI : IntsAre vs cs') (hW : Coded gs cs')
    (hk' : (k, listOf #[] 0) ∈ news) (hp : (p, listOf qs.toArray np) ∈ news) (hl : (l, listOf #[] 0) ∈ news) (ho : (o, listOf #[] 0) ∈ news) (hu : (u, listOf #[] 0) ∈ news) (hm : 0 ≤ most)
    (hdd : 20 ≤ dd) (huu : 100 ≤ uu) (hql : qs.length ≤ 10)
    (hq : qs = [] ∨ ∃ q, qs = [q] ∧ 40 ≤ dd ∧ 200 ≤ uu ∧ InnerC w loose mean mg mb news q most (threaded gs cs' most)) :
    Calls w loose mean mg mb 219 news vs0 dd uu (fun v news' => ∃ X : ThrV, v = .ref X.x ∧ IntsAre X.vs (threaded gs cs' most) ∧ 
      ((qs = [] ∧ news' = (X.x, instObj 178 X.d) :: (X.d, protoDict w.params X.z X.c X.k X.p X.l X.o X.u) :: (X.c, listOf X.vs.toArray X.n) :: (X.p, LCg.lst []) :: news ∧ AllLt X.d news ∧ AllLt X.x news ∧ AllLt X.c news ∧ LCg.Off1 X.p news) ∨
       (∃ Y : ThrV, qs ≠ [] ∧ news' = (X.x, instObj 178 X.d) :: (X.d, protoDict w.params X.z X.c X.k X.p X.l X.o X.u) :: (X.c, listOf X.vs.toArray X.n) :: (X.p, LCg.lst [.ref Y.x]) :: (Y.x, instObj 178 Y.d) :: (Y.d, protoDict w.params Y.z Y.c Y.k Y.p Y.l Y.o Y.u) :: (Y.c, listOf Y.vs.toArray Y.n) :: news ∧ IntsAre Y.vs (threaded gs cs' most)))) := by
  have hcl := hW.len
  have hcle := hW.le
  have hG := hW.good
  unfold Calls
  w_top off
  k_with_none
  (k_with "my omega" => (k_whole; first | with_reducible assumption | k_dflt decide | with_reducible (first | (show @LT.lt Nat _ _ _; first | exact om_r0 (by assumption) | exact om_r1 (by assumption) (by k_dflt (exact rfl)) | exact om_r2 (by assumption) (by k_dflt (exact rfl)) | exact om_d1 (by assumption) (by assumption) (by k_dflt (exact rfl)) | exact om_d2 (by assumption) (by assumption) (by k_dflt (exact rfl)) | exact om_nlt (by assumption) (by k_dflt (exact rfl)) | exact om_meas (by assumption)) | (show @LE.le Nat _ _ _; first | exact om_le (by assumption) (by k_dflt (exact rfl)) | exact om_len (by assumption) (by assumption) (by k_dflt (exact rfl)) | exact om_len3 (by assumption) (by assumption) (by assumption) (by k_dflt (exact rfl)) | exact om_l16 (by assumption) (by assumption) (by assumption) (by assumption)) | (show @LT.lt Int _ _ _; first | exact om_cast (by assumption) | exact om_caste (by assumption) (by assumption) | exact om_eqlt (by assumption) (by assumption) | exact om_clen (by assumption) (by assumption) (by k_dflt decide) | exact om_ilen (by assumption) (by assumption) (by k_dflt decide) | exact om_cle (by assumption) (by k_dflt decide) | exact om_ilt (by assumption) (by k_dflt decide) | exact om_ile (by assumption) (by k_dflt decide) | exact om_igt (by assumption) (by k_dflt decide) | exact om_k3 (by assumption) (by assumption) | exact om_k1 (by assumption) (by assumption) (by assumption) | exact om_k2 (by assumption) (by assumption) (by assumption) (by assumption) (by k_dflt decide) | exact om_far2 (by assumption) (by assumption)) | (show @LE.le Int _ _ _; first | exact Int.natCast_nonneg _ | exact om_ige (by assumption) (by k_dflt decide) | exact om_k0 (by assumption) | exact om_s (by assumption) | exact om_p1 (by assumption) | exact om_k4 (by assumption) (by assumption) (by assumption) (by assumption) (by assumption) | exact om_far1 (by assumption) (by assumption) (by assumption)) | (show @Ne Nat _ _; first | exact om_gt1 (by assumption) | exact om_lt1 (by assumption) | exact om_gt2 (by assumption) | exact om_lt2 (by assumption) | exact om_gt3 (by assumption) | exact om_lt3 (by assumption) | exact om_c2 (by assumption) | exact om_c2' (by assumption) | exact om_c3 (by assumption) | exact om_c3' (by assumption) | exact om_c4 (by assumption) | exact om_c4' (by assumption) | exact om_s1 _ | exact Ne.symm (om_s1 _) | exact om_s2 _ | exact Ne.symm (om_s2 _) | exact om_s3 _ | exact Ne.symm (om_s3 _)) | (show @Eq _ _ _; first | exact om_tn (by assumption) (by assumption) | exact om_sc (by assumption)) | (show Not _; first | exact om_nz (by assumption)))))
  k_fill
  intro dp un gd cn cs a ccd cl outer A₀ base h₀ L m s Q E B F X N T hk hdp hun hret
  k_with_none
  (k_with "my omega" => (k_whole; first | with_reducible assumption | k_dflt decide | with_reducible (first | (show @LT.lt Nat _ _ _; first | exact om_r0 (by assumption) | exact om_r1 (by assumption) (by k_dflt (exact rfl)) | exact om_r2 (by assumption) (by k_dflt (exact rfl)) | exact om_d1 (by assumption) (by assumption) (by k_dflt (exact rfl)) | exact om_d2 (by assumption) (by assumption) (by k_dflt (exact rfl)) | exact om_nlt (by assumption) (by k_dflt (exact rfl)) | exact om_meas (by assumption)) | (show @LE.le Nat _ _ _; first | exact om_le (by assumption) (by k_dflt (exact rfl)) | exact om_len (by assumption) (by assumption) (by k_dflt (exact rfl)) | exact om_len3 (by assumption) (by assumption) (by assumption) (by k_dflt (exact rfl)) | exact om_l16 (by assumption) (by assumption) (by assumption) (by assumption)) | (show @LT.lt Int _ _ _; first | exact om_cast (by assumption) | exact om_caste (by assumption) (by assumption) | exact om_eqlt (by assumption) (by assumption) | exact om_clen (by assumption) (by assumption) (by k_dflt decide) | exact om_ilen (by assumption) (by assumption) (by k_dflt decide) | exact om_cle (by assumption) (by k_dflt decide) | exact om_ilt (by assumption) (by k_dflt decide) | exact om_ile (by assumption) (by k_dflt decide) | exact om_igt (by assumption) (by k_dflt decide) | exact om_k3 (by assumption) (by assumption) | exact om_k1 (by assumption) (by assumption) (by assumption) | exact om_k2 (by assumption) (by assumption) (by assumption) (by assumption) (by k_dflt decide) | exact om_far2 (by assumption) (by assumption)) | (show @LE.le Int _ _ _; first | exact Int.natCast_nonneg _ | exact om_ige (by assumption) (by k_dflt decide) | exact om_k0 (by assumption) | exact om_s (by assumption) | exact om_p1 (by assumption) | exact om_k4 (by assumption) (by assumption) (by assumption) (by assumption) (by assumption) | exact om_far1 (by assumption) (by assumption) (by assumption)) | (show @Ne Nat _ _; first | exact om_gt1 (by assumption) | exact om_lt1 (by assumption) | exact om_gt2 (by assumption) | exact om_lt2 (by assumption) | exact om_gt3 (by assumption) | exact om_lt3 (by assumption) | exact om_c2 (by assumption) | exact om_c2' (by assumption) | exact om_c3 (by assumption) | exact om_c3' (by assumption) | exact om_c4 (by assumption) | exact om_c4' (by assumption) | exact om_s1 _ | exact Ne.symm (om_s1 _) | exact om_s2 _ | exact Ne.symm (om_s2 _) | exact om_s3 _ | exact Ne.symm (om_s3 _)) | (show @Eq _ _ _; first | exact om_tn (by assumption) (by assumption) | exact om_sc (by assumption)) | (show Not _; first | exact om_nz (by assumption)))))
  (k_with "my k_enter" => first | ((refine' code_defC ?k1 ?k2 ?k3 ?k4 ?k5 ?kA ?kF ?kK ?k6 ?k7 ?k8 ?k9 ?kB ?kD ?_ ?c2 ?c3 ?c4; (case kA => exact rfl); (case kF => exact rfl); (case kK => first | exact rfl | assumption); (case k1 => k_asm); (case k2 => k_asm); (case k3 => k_asm); (case k4 => k_asm); (case k5 => k_asm); (case k6 => k_is); (case k7 => k_is); (case k8 => ktr_room); (case k9 => first | k_extra "bind" | exact BindsTo.of_eq rfl | exact binds_K (by k_in) rfl (by k_is) rfl rfl rfl | fail "k_enter: no rule for these arguments"); (case kB => exact rfl); (case kD => decide +kernel); (case c2 => exact rfl); (case c3 => exact rfl); (case c4 => exact rfl); k_whole; intro g' L' h' tk' cells' FG' F' N' Y' B' X' T' l1; (try k_lt l1); k_cells Y'; (try simp only [List.cons_append, List.nil_append] at N'); (try dsimp only); (try k_lift B'); (try k_fold))) | ((refine' code_def ?k1 ?k2 ?k3 ?k4 ?k5 ?kA ?kF ?kK ?k6 ?k7 ?k8 ?k9 ?kB ?_ ?c2 ?c3 ?c4 ?c5; (case kA => exact rfl); (case kF => exact rfl); (case kK => first | exact rfl | assumption); (case k1 => k_asm); (case k2 => k_asm); (case k3 => k_asm); (case k4 => k_asm); (case k5 => k_asm); (case k6 => k_is); (case k7 => k_is); (case k8 => ktr_room); (case k9 => first | exact BindsTo.of_eq rfl | exact binds_K (by k_in) rfl (by k_is) rfl rfl rfl | fail "k_enter: no rule for these arguments"); (case c5 => decide); (case kB => exact locs rfl); (case c2 => exact rfl); (case c3 => exact rfl); (case c4 => exact rfl); k_whole; intro g' L' h' FG' F' N' B' X' T'; (try dsimp only); (try k_lift B'); (try k_fold))))
  (k_with "my ite" => first | ((first | (refine ite_neg Bool.false_ne_true ?_) | (refine ite_pos rfl ?_) | (refine ite_neg (by (try simp only [beq_iff_eq, bne_iff_ne, ne_eq, decide_eq_true_eq, Bool.not_eq_true', decide_eq_false_iff_not, beq_eq_false_iff_ne, Bool.and_eq_true, Bool.or_eq_true]); first | assumption | omega) ?_) | (refine ite_pos (by (try simp only [beq_iff_eq, bne_iff_ne, ne_eq, decide_eq_true_eq, Bool.not_eq_true', decide_eq_false_iff_not, beq_eq_false_iff_ne, Bool.and_eq_true, Bool.or_eq_true]); first | assumption | omega) ?_))))
  (k_with "my k_mem" => first | (exact List.mem_append_left _ (by assumption)) | (assumption))
  (k_with "my news_mem" => first | (k_mem))
  (k_with "my k_all" => first | (first | exact all_ne_fa (by with_reducible assumption) | exact all_ne_of_allLt (by with_reducible assumption)) | ((refine' List.forall_mem_append.mpr ⟨?a, ?b⟩; (case a => k_all); (case b => k_all))) | (first | exact all_ne_of_lt (by assumption) | exact all_ne_of_allLt (by assumption) | exact all_ne_of_allLt (And.right (by assumption)) | exact all_ne_of_allLt (And.right (And.right (by assumption))) | exact all_ne_of_allLt (And.right (And.right (And.right (by assumption)))) | exact all_ne_of_allLt (And.right (And.right (And.right (And.right (by assumption))))) | exact all_ne_of_allLt (And.right (And.right (And.right (And.right (And.right (by assumption)))))) | exact all_ne_of_allLt (And.right (And.right (And.right (And.right (And.right (And.right (by assumption))))))) | exact all_ne_of_allLt (And.right (And.right (And.right (And.right (And.right (And.right (And.right (by assumption)))))))) | exact all_ne_of_allLt (And.right (And.right (And.right (And.right (And.right (And.right (And.right (And.right (by assumption)))))))))))
  (k_with "my getAttr ref" => first | ((k_here; (with_reducible show wpAny _ _ (getAttr (Value.ref _) (PySem.Str.ofString "protos") _) _ _ _); k_dflt (refine' get_protos ?k1 ?k2 ?k3 ?k4 ?k5 ?_; (case k1 => k_asm); (case k2 => k_asm); (case k3 => k_asm); (case k4 => k_mem); (case k5 => k_mem); k_whole))) | ((k_here; (with_reducible show wpAny _ _ (getAttr (Value.ref _) (PySem.Str.ofString "code") _) _ _ _); k_dflt (refine' get_code ?k1 ?k2 ?k3 ?k4 ?k5 ?_; (case k1 => k_asm); (case k2 => k_asm); (case k3 => k_asm); (case k4 => k_mem); (case k5 => k_mem); k_whole))))
  (k_with "my setAttr ref" => first | ((k_here; (with_reducible show wpAny _ _ (setAttr (Value.ref _) (PySem.Str.ofString "protos") (Value.ref _)) _ _ _); k_dflt (refine' set_protos ?k1 ?k2 ?k3 ?k4 ?k5 ?k6 ?_; (case k1 => k_asm); (case k2 => k_asm); (case k3 => k_asm); (case k4 => k_mem); (case k5 => k_mem); (case k6 => k_upd); k_whole; intro h' F' N'; (try k_sweep)))) | ((k_here; (with_reducible show wpAny _ _ (setAttr (Value.ref _) (PySem.Str.ofString "code") (Value.ref _)) _ _ _); k_dflt (refine' set_code ?k1 ?k2 ?k3 ?k4 ?k5 ?k6 ?_; (case k1 => k_asm); (case k2 => k_asm); (case k3 => k_asm); (case k4 => k_mem); (case k5 => k_mem); (case k6 => k_upd); k_whole; intro h' F' N'; (try k_sweep)))))
  (k_with "my call ref" => first | ((k_here; (with_reducible show wpAny _ _ (call (Value.ref 219) _) _ _ _); k_extra "inner")) | ((k_here; (with_reducible show wpAny _ _ (call (Value.ref 206) _) _ _ _); k_dflt (refine' use_copied ?m1 ?m2 ?m3 ?m4 ?p0 ?m5 ?m6 ?p1 ?m7 ?m8 ?m9 ?k2 ?k1 ?k3 ?k4 ?k5 ?kK ?kd ?ku ?_; (case k1 => k_asm); (case k2 => k_asm); (case k3 => k_asm); (case k4 => k_asm); (case k5 => k_asm); (case kK => first | exact rfl | assumption); (case kd => ktr_room); (case ku => ktr_units); (case m1 => k_mem); (case m2 => k_mem); (case m3 => k_mem); (case m4 => with_reducible assumption); (case p0 => omega); (case m5 => k_mem); (case m6 => k_mem); (case p1 => first | omega | exact Nat.le_of_ble_eq_true rfl); (case m7 => k_mem); (case m8 => k_mem); (case m9 => k_mem); k_whole); intro X9 h9 tk9 F9 N9 q1 q2 q3 q4 q5; (try dsimp only); (try k_sweep))) | ((k_here; (with_reducible show wpAny _ _ (call (Value.ref 194) _) _ _ _); k_dflt (refine' use_starts_of ?m1 ?m2 ?m3 ?m4 ?p0 ?p1 ?k2 ?k1 ?k3 ?k4 ?k5 ?kK ?kd ?ku ?_; (case k1 => k_asm); (case k2 => k_asm); (case k3 => k_asm); (case k4 => k_asm); (case k5 => k_asm); (case kK => first | exact rfl | assumption); (case kd => ktr_room); (case ku => ktr_units); (case m1 => k_mem); (case m2 => k_mem); (case m3 => k_mem); (case m4 => with_reducible assumption); (case p0 => omega); (case p1 => first | assumption | exact Coded.good (by assumption)); k_whole); intro D9 vs9 n9 h9 tk9 F9 N9 hi9 o9; (try dsimp only); (try k_sweep))) | ((k_here; (with_reducible show wpAny _ _ (call (Value.ref 213) _) _ _ _); k_dflt (refine' use_end_of_jumps _ _ ?m1 ?m2 ?m3 ?m4 ?m5 ?p0 ?p1 ?p2 ?k2 ?k1 ?k3 ?k4 ?k5 ?kK ?kd ?ku ?_; (case k1 => k_asm); (case k2 => k_asm); (case k3 => k_asm); (case k4 => k_asm); (case k5 => k_asm); (case kK => first | exact rfl | assumption); (case kd => ktr_room); (case ku => ktr_units); (case m1 => k_mem); (case m2 => k_mem); (case m3 => k_mem); (case m4 => with_reducible assumption); (case m5 => with_reducible assumption); (case p0 => first | assumption | omega); (case p1 => first | assumption | omega); (case p2 => first | assumption | omega | exact (Coded.op (by assumption) _ (by omega) (by omega)).mp (by assumption)); k_whole); intro t9 h9 tk9 F9 N9 hlo9 hhi9; (try dsimp only); (try k_sweep))) | ((k_here; (with_reducible show wpAny _ _ (call (Value.ref 98) _) _ _ _); k_dflt (refine' use_set_sbx _ _ _ _ ?p1 ?p2 ?p3 ?p4 ?k2 ?k1 ?k3 ?k4 ?k5 ?kK ?kd ?ku ?_; (case k1 => k_asm); (case k2 => k_asm); (case k3 => k_asm); (case k4 => k_asm); (case k5 => k_asm); (case kK => first | exact rfl | assumption); (case kd => ktr_room); (case ku => ktr_units); (case p1 => first | assumption | omega | exact (GoodWords.at (by assumption) (by omega) (by omega)).1); (case p2 => first | assumption | omega | exact (GoodWords.at (by assumption) (by omega) (by omega)).2.1); (case p3 => omega); (case p4 => omega); k_whole); intro t9 h9 tk9 F9 N9; (try dsimp only); (try k_sweep))) | ((k_here; (with_reducible show wpAny _ _ (call (Value.ref 63) _) _ _ _); k_dflt (refine' use_get_op _ _ ?p1 ?p2 ?k2 ?k1 ?k3 ?k4 ?k5 ?kK ?kd ?ku ?_; (case k1 => k_asm); (case k2 => k_asm); (case k3 => k_asm); (case k4 => k_asm); (case k5 => k_asm); (case kK => first | exact rfl | assumption); (case kd => ktr_room); (case ku => ktr_units); (case p1 => first | assumption | omega | exact (GoodWords.at (by assumption) (by omega) (by omega)).1); (case p2 => first | assumption | omega | exact (GoodWords.at (by assumption) (by omega) (by omega)).2.1); k_whole); intro t9 h9 tk9 F9 N9; (try dsimp only); (try k_sweep))))
  (k_with "my eval ListComp" => first | ((k_here; k_extra "thread comp"; (all_goals (k_dflt (refine LCg.ListComp_U (F₀ := by k_asm) (by with_unfolding_all rfl) (by decide) (by rfl) (by decide) (by rfl) ?_))))))
  (k_with "my CompSrc" => first | ((k_here; k_dflt (refine LCg.CompSrc.ledger (by rfl) (by k_asm) (by k_asm) (by k_mem) (by first | size_fits | exact Nat.le_of_ble_eq_true rfl) ?_; intro g'; lcg_lit))))
  (k_with "my InvEndN" => first | (((rename News _ _ _ _ => nN9); (dsimp only [protoDict] at nN9); walk_at "InvEndN")))
  (k_with "my k_ne" => first | ((refine neN ?_; (try dsimp only); first | exact ne_fa (by with_reducible assumption) (by k_mem) | exact (ne_fa (by with_reducible assumption) (by k_mem)).symm | exact ne_allLt (by with_reducible assumption) (by k_mem) | exact (ne_allLt (by with_reducible assumption) (by k_mem)).symm | exact ne_off1 (by with_reducible assumption) (by k_mem) | exact (ne_off1 (by with_reducible assumption) (by k_mem)).symm | exact (ne_off3 (by with_reducible assumption) (by k_mem)).1 | exact (ne_off3 (by with_reducible assumption) (by k_mem)).1.symm | exact (ne_off3 (by with_reducible assumption) (by k_mem)).2.1 | exact (ne_off3 (by with_reducible assumption) (by k_mem)).2.1.symm | exact (ne_off3 (by with_reducible assumption) (by k_mem)).2.2 | exact (ne_off3 (by with_reducible assumption) (by k_mem)).2.2.symm | omega)))
  (k_with "my FinE" => first | (((unfold LCg.FinE); intro D' h' tk' F' N' o1'; (try simp only [List.nil_append, List.cons_append] at N'); (try dsimp only))))
  (k_with "my CompRest" => first | ((with_unfolding_all first | (refine LCg.CompRest.succ ?_; intro v' I' oI' C' oC' D' m' h' tk' E' hv' hC' hx' F' N' off' ne'; lcg_open hv') | refine LCg.CompRest.zero ?_)))
  (k_with "my CompEnd" => first | ((refine' compEnd_4 (by k_asm) (by k_asm) ?off ?o1 ?o2 ?o3 ?o4 ?hS ?_; (case off => assumption); (case o1 => exact ⟨by k_ne, by k_ne, by k_ne⟩); (case o2 => exact ⟨by k_ne, by k_ne, by k_ne⟩); (case o3 => exact ⟨by k_ne, by k_ne, by k_ne⟩); (case o4 => exact ⟨by k_ne, by k_ne, by k_ne⟩); (case hS => exact Or.inr ⟨_, by k_mem, rfl, _, rfl⟩))))
  (k_with "thread comp" => (rcases hq with hq | ⟨q, hq, hdd2, huu2, hin⟩ <;> subst hq))
  (k_with "inner" => ((k_dflt (refine' Calls.use (hin _ _ ?sub) ?k1 ?k2 ?k3 ?k4 ?k5 ?kK ?kd ?ku ?_; (case k1 => k_asm); (case k2 => k_asm); (case k3 => k_asm); (case k4 => k_asm); (case k5 => k_asm); (case kK => first | exact rfl | assumption); (case kd => ktr_room); (case ku => ktr_units); (case sub => exact fun p hp => by k_mem); k_whole)); intro v9 news9 h9 tk9 F9 N9 hR9; obtain ⟨Y, hv9, hn9, hiY, oY1, oY2, oY3, oY4⟩ := hR9; subst hv9; subst hn9; (try dsimp only)))
  (k_with "bind" => exact hb _ _ _ _ _ (by k_in) (by k_is))
  (k_with "state" => first | exact And.intro rfl (mixed_zero _ _ _) | exact turn_a (by assumption) (by assumption) (by assumption) (by assumption) (by assumption) (by assumption) | exact turn_b (by assumption) (by assumption) (by assumption) (by assumption) (by assumption) (by assumption) (by assumption) | exact turn_c (by assumption) (by assumption) (by assumption) (by assumption))
  (k_with "pyIter ref" => ((rename News _ _ _ _ => nN); (dsimp only [protoDict] at nN); k_state (fun pre xs => xs.length = cs'.length ∧ xs = mixed gs cs' most pre.length) "found.code"; (all_goals try simp only [List.cons_append, List.nil_append] at kNews); (all_goals try (obtain ⟨hn1, hn2⟩ := upTo_split (by assumption); have hn3 : 0 ≤ kN := by omega))))
  refine wpAny_call ?_
  k_dflt k_enter
  (repeat' (first | (k_unfold; (try dsimp only)) | walk1 | (dsimp only; walk1) | (leave1; (try dsimp only))))
  · refine' hret _ _ _ _ (by k_asm) ?N ⟨⟨_, _, _, _, _, _, _, _, _, _, _⟩, rfl, ?i, Or.inl ⟨rfl, rfl, ?o1, ?o2, ?o3, ?o4⟩⟩
    case N => exact kst_newsOf (by k_asm) (List.forall_mem_cons.mpr ⟨by k_mem, List.forall_mem_cons.mpr ⟨by k_mem, List.forall_mem_cons.mpr ⟨by k_mem, List.forall_mem_cons.mpr ⟨by k_mem, fun q hq => by k_mem⟩⟩⟩⟩)
    case i => exact ints_of_eq (by assumption) (mixed_all (by assumption))
    case o1 => exact And.right (by assumption)
    case o2 => exact And.right (by assumption)
    case o3 => exact And.right (by assumption)
    case o4 => first | assumption | exact (And.right (by assumption)) | exact (And.right (And.right (by assumption))) | exact (And.right (And.right (And.right (by assumption)))) | exact (And.right (And.right (And.right (And.right (by assumption))))) | exact (And.right (And.right (And.right (And.right (And.right (by assumption)))))) | exact (And.right (And.right (And.right (And.right (And.right (And.right (by assumption))))))) | exact (And.right (And.right (And.right (And.right (And.right (And.right (And.right (by assumption)))))))) | exact (And.right (And.right (And.right (And.right (And.right (And.right (And.right (And.right (by assumption))))))))) | exact (And.right (And.right (And.right (And.right (And.right (And.right (And.right (And.right (And.right (by assumption)))))))))) | exact (And.right (And.right (And.right (And.right (And.right (And.right (And.right (And.right (And.right (And.right (by assumption))))))))))) | exact (And.right (And.right (And.right (And.right (And.right (And.right (And.right (And.right (And.right (And.right (And.right (by assumption)))))))))))) | exact (And.right (And.right (And.right (And.right (And.right (And.right (And.right (And.right (And.right (And.right (And.right (And.right (by assumption)))))))))))))
  · refine' hret _ _ _ _ (by k_asm) ?N ⟨⟨_, _, _, _, _, _, _, _, _, _, _⟩, rfl, ?i, Or.inr ⟨Y, (fun h => nomatch h), rfl, hiY⟩⟩
    case N => exact kst_newsOf (by k_asm) (List.forall_mem_cons.mpr ⟨by k_mem, List.forall_mem_cons.mpr ⟨by k_mem, List.forall_mem_cons.mpr ⟨by k_mem, List.forall_mem_cons.mpr ⟨by k_mem, List.forall_mem_cons.mpr ⟨by k_mem, List.forall_mem_cons.mpr ⟨by k_mem, List.forall_mem_cons.mpr ⟨by k_mem, fun q hq => by k_mem⟩⟩⟩⟩⟩⟩⟩)
    case i => exact ints_of_eq (by assumption) (mixed_all (by assumption))


/-! R4 -/
theorem bind_from {K : Frag} {f : Addr} {o : Obj} {oc : Value} {od : Option Addr} {G : FuncData} {osl : Array (Option Value)} {s : Shared} {as : Args} {bs : List (Str × Value)} (e2 : K.lookup f = some o) (e : K.lookup f = some ⟨oc, od, .func G, osl⟩)
    (h : ∀ (oc : Value) (od : Option Addr) (G : FuncData) (osl : Array (Option Value)), o = ⟨oc, od, .func G, osl⟩ → BindsTo s G as bs) : BindsTo s G as bs := h _ _ _ _ (Option.some.inj (e2.symm.trans e))
theorem bind_two {w : World} {P : Addr} {most : Int} {t : Tok} (s : Shared) (oc : Value) (od : Option Addr) (G : FuncData) (osl : Array (Option Value)) (hX : (hd.heap_39 w.params).In s.heap) (e : (hd.heap_39 w.params).lookup 219 = some ⟨oc, od, .func G, osl⟩) : BindsTo s G ⟨[.ref P, .int most t], []⟩ [("p", .ref P), ("most", .int most t)] := by
  revert e
  refine (fun (key : PySem.Challenge.rw_rh0159_01 = PySem.Challenge.rw_rh0159_01 → _) => key rfl) ?_
  k_fill
  intro _ e
  refine' bind_from ?e2 e ?h
  case e2 => k_is
  case' h => (intro oc od G osl h; injection h with h1 h2 h3 h4; injection h3 with h3; subst h3)
  first | exact BindsTo.of_eq rfl | exact binds_K hX rfl (by k_is) rfl rfl rfl
theorem inner_leaf {w : World} {loose : List Str} {mean : ExcName → Option Value} {mg mb : Str → Option Value} {news : List (Addr × Obj)} {Pi dPi ci ki pi li oi ui : Addr} {zi : PZ} {vsi : List Value} {ni npi : Nat} {gs cs' : List Int} (most : Int) (hm : 0 ≤ most) (hW : Coded gs cs')
    (hPi : (Pi, instObj 178 dPi) ∈ news) (hDi : (dPi, protoDict w.params zi ci ki pi li oi ui) ∈ news) (hCi : (ci, listOf vsi.toArray ni) ∈ news) (hIi : IntsAre vsi cs')
    (hki : (ki, listOf #[] 0) ∈ news) (hpi : (pi, listOf #[] npi) ∈ news) (hli : (li, listOf #[] 0) ∈ news) (hoi : (oi, listOf #[] 0) ∈ news) (hui : (ui, listOf #[] 0) ∈ news) :
    InnerC w loose mean mg mb news (.ref Pi) most (threaded gs cs' most) := fun news2 t hs =>
  (thread_gen most t bind_two (hs _ hPi) (hs _ hDi) (hs _ hCi) hIi hW (hs _ hki) (qs := []) (hs _ hpi) (hs _ hli) (hs _ hoi) (hs _ hui) hm (Nat.le_refl _) (Nat.le_refl _) (Nat.zero_le _) (Or.inl rfl)).mono fun v n' r => by
    obtain ⟨X, hv, hi, r⟩ := r
    rcases r with ⟨_, hn, o1, o2, o3, o4⟩ | ⟨_, h, _⟩
    · exact ⟨X, hv, hn, hi, o1, o2, o3, o4⟩
    · exact absurd rfl h
theorem bind_one {w : World} {P : Addr}  (s : Shared) (oc : Value) (od : Option Addr) (G : FuncData) (osl : Array (Option Value)) (hX : (hd.heap_39 w.params).In s.heap) (e : (hd.heap_39 w.params).lookup 219 = some ⟨oc, od, .func G, osl⟩) : BindsTo s G ⟨[.ref P], []⟩ [("p", .ref P), ("most", .int 131071 221)] := by
  revert e
  refine (fun (key : PySem.Challenge.rw_rh0159_01 = PySem.Challenge.rw_rh0159_01 → _) => key rfl) ?_
  k_fill
  intro _ e
  refine' bind_from ?e2 e ?h
  case e2 => k_is
  case' h => (intro oc od G osl h; injection h with h1 h2 h3 h4; injection h3 with h3; subst h3)
  exact binds_K hX rfl (by k_is) rfl rfl rfl
theorem c7 {α : Type} {x a b c d e f g : α} {l : List α} (h : x ∈ l) : x ∈ a :: b :: c :: d :: e :: f :: g :: l := .tail _ (.tail _ (.tail _ (.tail _ (.tail _ (.tail _ (.tail _ h))))))
/-- what stands behind the law's call of thread_jumps -/
noncomputable def FoundP (w : World) (h₀ : Heap) (L : Addr) (m : Str → Option Value) (s : Shared) (A B : Addr) (oA oB : Obj) (P dP c k p l o u : Addr) (z : PZ) (vs : List Value) (n : Nat) (Pi dPi ci ki pi li oi ui : Addr) (zi : PZ) (vsi : List Value) (ni : Nat) (ds : List Int) (v : Value) (s' : Shared) : Prop :=
  ∃ (X Y : ThrV) (h' : Heap) (tk' : Nat), v = .ref X.x ∧ s' = { s with heap := h', toks := tk' } ∧ Fr h₀ L h' m ∧ News h₀ L h' [(X.x, instObj 178 X.d), (X.d, protoDict w.params X.z X.c X.k X.p X.l X.o X.u), (X.c, listOf X.vs.toArray X.n), (X.p, LCg.lst [.ref Y.x]), (Y.x, instObj 178 Y.d), (Y.d, protoDict w.params Y.z Y.c Y.k Y.p Y.l Y.o Y.u), (Y.c, listOf Y.vs.toArray Y.n),
        (P, instObj 178 dP), (dP, protoDict w.params z c k p l o u), (c, listOf vs.toArray n), (Pi, instObj 178 dPi), (dPi, protoDict w.params zi ci ki pi li oi ui), (ci, listOf vsi.toArray ni), (A, oA), (B, oB)] ∧ IntsAre X.vs ds ∧ IntsAre Y.vs ds
theorem use_lawG {w : World} {loose : List Str} {mean : ExcName → Option Value} {mg mb : Str → Option Value} {news : List (Addr × Obj)} {A B : Addr} {oA oB : Obj} {P dP c k p l o u : Addr} {z : PZ} {vs : List Value} {Pi dPi ci ki pi li oi ui : Addr} {zi : PZ} {vsi : List Value} {ni npi : Nat} {gs os : List Int} {n np : Nat} {most : Int} {t : Tok} {vs0 : List Value} {dp un : Nat} {gd : Option (List Code)} {cn : Str} {cs : Scope} {a : Addr} {ccd : Value} {cl : List (Str × Addr)} {outer : List Env} {A₀ : Around} {base h₀ : Heap} {L : Addr} {m : Str → Option Value} {s s₁ : Shared} {E : Value → Shared → Prop}
    (hb : ∀ (s : Shared) (oc : Value) (od : Option Addr) (G : FuncData) (osl : Array (Option Value)), (hd.heap_39 w.params).In s.heap → (hd.heap_39 w.params).lookup 219 = some ⟨oc, od, .func G, osl⟩ → BindsTo s G ⟨vs0, []⟩ [("p", .ref P), ("most", .int most t)])
    (F : Fr h₀ L s.heap m) (hs : ∀ h' tk', ({ s with heap := h', toks := tk' } : Shared) = { s₁ with heap := h', toks := tk' }) (hm : 0 ≤ most) (hP : (P, instObj 178 dP) ∈ news) (hD : (dP, protoDict w.params z c k p l o u) ∈ news) (hC : (c, listOf vs.toArray n) ∈ news) (hI : IntsAre vs (wordsOf gs os)) (hW : Coded gs (wordsOf gs os)) (hO : Others gs os)
    (hk' : (k, listOf #[] 0) ∈ news) (hp : (p, listOf #[.ref Pi] np) ∈ news) (hl : (l, listOf #[] 0) ∈ news) (ho : (o, listOf #[] 0) ∈ news) (hu : (u, listOf #[] 0) ∈ news)
    (hPi : (Pi, instObj 178 dPi) ∈ news) (hDi : (dPi, protoDict w.params zi ci ki pi li oi ui) ∈ news) (hCi : (ci, listOf vsi.toArray ni) ∈ news) (hIi : IntsAre vsi (wordsOf gs os))
    (hki : (ki, listOf #[] 0) ∈ news) (hpi : (pi, listOf #[] npi) ∈ news) (hli : (li, listOf #[] 0) ∈ news) (hoi : (oi, listOf #[] 0) ∈ news) (hui : (ui, listOf #[] 0) ∈ news) (mA : (A, oA) ∈ news) (mB : (B, oB) ∈ news)
    (Bl : Below A₀ base outer h₀) (X : (hd.heap_39 w.params).In h₀) (N : News h₀ L s.heap news) (T : Top hd.view_39 loose mean mg mb h₀) (hk : cs.kind = .function) (hdp : dp + 40 < recursionLimit) (hun : un + 200 < cLine) :
    wpAny (model (RowW.prog (OpenRow.toRowW (OpenLaw.row PySem.Challenge.rw_rh0159_01))) w) (ktrTop dp un gd cn cs L a ccd cl outer) (call (.ref 219) vs0) (FoundP w h₀ L m s₁ A B oA oB P dP c k p l o u z vs n Pi dPi ci ki pi li oi ui zi vsi ni (wordsOf (dueGoals gs most) os)) E s := by
  refine Calls.use (thread_gen most t hb hP hD hC hI hW hk' (qs := [.ref Pi]) hp hl ho hu hm (Nat.le_of_ble_eq_true rfl) (Nat.le_of_ble_eq_true rfl) (Nat.le_of_ble_eq_true rfl) (Or.inr ⟨_, rfl, Nat.le_refl _, Nat.le_refl _, inner_leaf most hm hW hPi hDi hCi hIi hki hpi hli hoi hui⟩)) Bl F X N T hk hdp hun fun v nn h' tk' F' N' r => ?_
  obtain ⟨X, hv, hi, r⟩ := r
  rcases r with ⟨h, _⟩ | ⟨Y, _, hn, hj⟩
  · cases h
  · subst hn
    exact ⟨X, Y, h', tk', hv, hs h' tk', F', kst_newsOf N' (List.forall_mem_cons.mpr ⟨.head _, List.forall_mem_cons.mpr ⟨.tail _ (.head _), List.forall_mem_cons.mpr ⟨.tail _ (.tail _ (.head _)), List.forall_mem_cons.mpr ⟨.tail _ (.tail _ (.tail _ (.head _))), List.forall_mem_cons.mpr ⟨.tail _ (.tail _ (.tail _ (.tail _ (.head _)))), List.forall_mem_cons.mpr ⟨.tail _ (.tail _ (.tail _ (.tail _ (.tail _ (.head _))))), List.forall_mem_cons.mpr ⟨.tail _ (.tail _ (.tail _ (.tail _ (.tail _ (.tail _ (.head _)))))), List.forall_mem_cons.mpr ⟨(c7 hP), List.forall_mem_cons.mpr ⟨(c7 hD), List.forall_mem_cons.mpr ⟨(c7 hC), List.forall_mem_cons.mpr ⟨(c7 hPi), List.forall_mem_cons.mpr ⟨(c7 hDi), List.forall_mem_cons.mpr ⟨(c7 hCi), List.forall_mem_cons.mpr ⟨(c7 mA), List.forall_mem_cons.mpr ⟨(c7 mB), List.forall_mem_nil _⟩⟩⟩⟩⟩⟩⟩⟩⟩⟩⟩⟩⟩⟩⟩), due_words hW hO hi, due_words hW hO hj⟩
theorem use_law {w : World} {loose : List Str} {mean : ExcName → Option Value} {mg mb : Str → Option Value} {news : List (Addr × Obj)} {A B : Addr} {oA oB : Obj} {P dP c k p l o u : Addr} {z : PZ} {vs : List Value} {Pi dPi ci ki pi li oi ui : Addr} {zi : PZ} {vsi : List Value} {ni npi : Nat} {gs os : List Int} {n np : Nat} {most : Int} (t : Tok) {dp un : Nat} {gd : Option (List Code)} {cn : Str} {cs : Scope} {a : Addr} {ccd : Value} {cl : List (Str × Addr)} {outer : List Env} {A₀ : Around} {base h₀ : Heap} {L : Addr} {m : Str → Option Value} {s s₁ : Shared} {E : Value → Shared → Prop}
    (F : Fr h₀ L s.heap m) (hs : ∀ h' tk', ({ s with heap := h', toks := tk' } : Shared) = { s₁ with heap := h', toks := tk' }) (hm : 0 ≤ most) (hP : (P, instObj 178 dP) ∈ news) (hD : (dP, protoDict w.params z c k p l o u) ∈ news) (hC : (c, listOf vs.toArray n) ∈ news) (hI : IntsAre vs (wordsOf gs os)) (hW : Coded gs (wordsOf gs os)) (hO : Others gs os)
    (hk' : (k, listOf #[] 0) ∈ news) (hp : (p, listOf #[.ref Pi] np) ∈ news) (hl : (l, listOf #[] 0) ∈ news) (ho : (o, listOf #[] 0) ∈ news) (hu : (u, listOf #[] 0) ∈ news)
    (hPi : (Pi, instObj 178 dPi) ∈ news) (hDi : (dPi, protoDict w.params zi ci ki pi li oi ui) ∈ news) (hCi : (ci, listOf vsi.toArray ni) ∈ news) (hIi : IntsAre vsi (wordsOf gs os))
    (hki : (ki, listOf #[] 0) ∈ news) (hpi : (pi, listOf #[] npi) ∈ news) (hli : (li, listOf #[] 0) ∈ news) (hoi : (oi, listOf #[] 0) ∈ news) (hui : (ui, listOf #[] 0) ∈ news) (mA : (A, oA) ∈ news) (mB : (B, oB) ∈ news)
    (Bl : Below A₀ base outer h₀) (X : (hd.heap_39 w.params).In h₀) (N : News h₀ L s.heap news) (T : Top hd.view_39 loose mean mg mb h₀) (hk : cs.kind = .function) (hdp : dp + 40 < recursionLimit) (hun : un + 200 < cLine) :
    wpAny (model (RowW.prog (OpenRow.toRowW (OpenLaw.row PySem.Challenge.rw_rh0159_01))) w) (ktrTop dp un gd cn cs L a ccd cl outer) (call (.ref 219) [.ref P, .int most t]) (FoundP w h₀ L m s₁ A B oA oB P dP c k p l o u z vs n Pi dPi ci ki pi li oi ui zi vsi ni (wordsOf (dueGoals gs most) os)) E s :=
  use_lawG bind_two F hs hm hP hD hC hI hW hO hk' hp hl ho hu hPi hDi hCi hIi hki hpi hli hoi hui mA mB Bl X N T hk hdp hun
theorem use_law1 {w : World} {loose : List Str} {mean : ExcName → Option Value} {mg mb : Str → Option Value} {news : List (Addr × Obj)} {A B : Addr} {oA oB : Obj} {P dP c k p l o u : Addr} {z : PZ} {vs : List Value} {Pi dPi ci ki pi li oi ui : Addr} {zi : PZ} {vsi : List Value} {ni npi : Nat} {gs os : List Int} {n np : Nat} {most : Int} {dp un : Nat} {gd : Option (List Code)} {cn : Str} {cs : Scope} {a : Addr} {ccd : Value} {cl : List (Str × Addr)} {outer : List Env} {A₀ : Around} {base h₀ : Heap} {L : Addr} {m : Str → Option Value} {s s₁ : Shared} {E : Value → Shared → Prop}
    (F : Fr h₀ L s.heap m) (hs : ∀ h' tk', ({ s with heap := h', toks := tk' } : Shared) = { s₁ with heap := h', toks := tk' }) (he : most = 131071) (hP : (P, instObj 178 dP) ∈ news) (hD : (dP, protoDict w.params z c k p l o u) ∈ news) (hC : (c, listOf vs.toArray n) ∈ news) (hI : IntsAre vs (wordsOf gs os)) (hW : Coded gs (wordsOf gs os)) (hO : Others gs os)
    (hk' : (k, listOf #[] 0) ∈ news) (hp : (p, listOf #[.ref Pi] np) ∈ news) (hl : (l, listOf #[] 0) ∈ news) (ho : (o, listOf #[] 0) ∈ news) (hu : (u, listOf #[] 0) ∈ news)
    (hPi : (Pi, instObj 178 dPi) ∈ news) (hDi : (dPi, protoDict w.params zi ci ki pi li oi ui) ∈ news) (hCi : (ci, listOf vsi.toArray ni) ∈ news) (hIi : IntsAre vsi (wordsOf gs os))
    (hki : (ki, listOf #[] 0) ∈ news) (hpi : (pi, listOf #[] npi) ∈ news) (hli : (li, listOf #[] 0) ∈ news) (hoi : (oi, listOf #[] 0) ∈ news) (hui : (ui, listOf #[] 0) ∈ news) (mA : (A, oA) ∈ news) (mB : (B, oB) ∈ news)
    (Bl : Below A₀ base outer h₀) (X : (hd.heap_39 w.params).In h₀) (N : News h₀ L s.heap news) (T : Top hd.view_39 loose mean mg mb h₀) (hk : cs.kind = .function) (hdp : dp + 40 < recursionLimit) (hun : un + 200 < cLine) :
    wpAny (model (RowW.prog (OpenRow.toRowW (OpenLaw.row PySem.Challenge.rw_rh0159_01))) w) (ktrTop dp un gd cn cs L a ccd cl outer) (call (.ref 219) [.ref P]) (FoundP w h₀ L m s₁ A B oA oB P dP c k p l o u z vs n Pi dPi ci ki pi li oi ui zi vsi ni (wordsOf (dueGoals gs most) os)) E s := by
  subst he
  exact use_lawG bind_one F hs (by decide) hP hD hC hI hW hO hk' hp hl ho hu hPi hDi hCi hIi hki hpi hli hoi hui mA mB Bl X N T hk hdp hun
theorem found_cut {w : World} {news : List (Addr × Obj)} {A B : Addr} {oA oB : Obj} {P dP c k p l o u : Addr} {z : PZ} {vs : List Value} {Pi dPi ci ki pi li oi ui : Addr} {zi : PZ} {vsi : List Value} {ni : Nat} {gs os : List Int} {n : Nat} {most : Int} {vd : List Value} {prog : Program} {Ar : Around} {h₀ : Heap} {L : Addr} {m : Str → Option Value} {s : Shared} {Q E : Value → Shared → Prop} {t : Sem Value}
    (_F : Fr h₀ L s.heap m) (_N : News h₀ L s.heap news) (_hA : m "code" = some (.ref A)) (_hB : m "due" = some (.ref B)) (_ho : m "outer" = some (.ref P)) (_hi : m "inner" = some (.ref Pi))
    (_hP : (P, instObj 178 dP) ∈ news) (_hD : (dP, protoDict w.params z c k p l o u) ∈ news) (_hC : (c, listOf vs.toArray n) ∈ news) (_hI : IntsAre vs (wordsOf gs os)) (_hW : Coded gs (wordsOf gs os)) (_hO : Others gs os)
    (_hPi : (Pi, instObj 178 dPi) ∈ news) (_hDi : (dPi, protoDict w.params zi ci ki pi li oi ui) ∈ news) (_hCi : (ci, listOf vsi.toArray ni) ∈ news) (_mA : (A, oA) ∈ news) (_mB : (B, oB) ∈ news)
    (_hd : IntsAre vd (wordsOf (dueGoals gs most) os))
    (hA' : wpAny (model prog w) Ar t (FoundP w h₀ L m s A B oA oB P dP c k p l o u z vs n Pi dPi ci ki pi li oi ui zi vsi ni (wordsOf (dueGoals gs most) os)) E s)
    (h : ∀ (X Y : ThrV) (h' : Heap) (tk' : Nat), Fr h₀ L h' m → News h₀ L h' [(X.x, instObj 178 X.d), (X.d, protoDict w.params X.z X.c X.k X.p X.l X.o X.u), (X.c, listOf X.vs.toArray X.n), (X.p, LCg.lst [.ref Y.x]), (Y.x, instObj 178 Y.d), (Y.d, protoDict w.params Y.z Y.c Y.k Y.p Y.l Y.o Y.u), (Y.c, listOf Y.vs.toArray Y.n),
        (P, instObj 178 dP), (dP, protoDict w.params z c k p l o u), (c, listOf vs.toArray n), (Pi, instObj 178 dPi), (dPi, protoDict w.params zi ci ki pi li oi ui), (ci, listOf vsi.toArray ni), (A, oA), (B, oB)] → IntsAre X.vs (wordsOf (dueGoals gs most) os) → IntsAre Y.vs (wordsOf (dueGoals gs most) os) → Q (.ref X.x) { s with heap := h', toks := tk' }) :
    wpAny (model prog w) Ar t Q E s := by
  refine wpAny_mono hA' ?_ (fun _ _ q => q)
  rintro v s' ⟨X, Y, h', tk', rfl, rfl, F', N', i, j⟩
  exact h X Y h' tk' F' N' i j
theorem most_is {x y : Int} (h : x = 2 → y = 131071) (e : x = 2) : y = 131071 := h e
/-- the value of `most`: how far a jump may lead -/
noncomputable def MostP (x : Int) (s : Shared) (v : Value) (s' : Shared) : Prop := ∃ (y : Int) (t : Tok) (tk : Nat), v = .int y t ∧ (x = 2 → y = 131071) ∧ 0 ≤ y ∧ s' = { s with toks := tk }
theorem most_cut {prog : Program} {w : World} {Ar : Around} {h₀ : Heap} {L : Addr} {m : Str → Option Value} {s : Shared} {Q E : Value → Shared → Prop} {t : Sem Value} {x : Int} {tx : Tok}
    (_F : Fr h₀ L s.heap m) (_hf : m "form" = some (.int x tx)) (hA : wpAny (model prog w) Ar t (MostP x s) E s) (h : ∀ (y : Int) (t : Tok) (tk : Nat), (x = 2 → y = 131071) → 0 ≤ y → Q (.int y t) { s with toks := tk }) : wpAny (model prog w) Ar t Q E s := by
  refine wpAny_mono hA ?_ (fun _ _ q => q)
  rintro v s' ⟨y, t, tk, rfl, h1, h2, rfl⟩
  exact h y t tk h1 h2
theorem reads_nest {h : Heap} {a c : Addr} {vs : List Value} {ns : List Int} (ha : h.IsList a #[.ref c]) (hc : h.IsList c vs.toArray) (hi : IntsAre vs ns) : ∃ as, Reads h (.ref a) (.list [.list (ns.map PyData.int)]) as := by
  obtain ⟨o, ho, hk, n, hd⟩ := ha
  exact ⟨_, Reads.list ho hk hd (ReadsAll.cons (reads_of_ints hc hi) .nil)⟩
theorem shaped_nest (ns : List Int) : PySem.SeqAt.shaped (.list [.list (ns.map PyData.int)]) = true := by
  have h1 := PySem.W.depthAll_ints ns
  have h2 : PyData.depth (.list [.list (ns.map PyData.int)]) ≤ 64 := by simp only [PyData.depth, PyData.depthAll]; lia
  show (PyData.canLay0 (.list [.list (ns.map PyData.int)]) && decide (PyData.depth (.list [.list (ns.map PyData.int)]) ≤ 64)) = true
  rw [Bool.and_eq_true]
  exact ⟨by simp only [PyData.canLay0, PyData.canLayAll0, Bool.and_true]; exact canLayAll0_ints ns, decide_eq_true h2⟩
theorem ne_nest {prog : Program} {w : World} {A : Around} {E Q : Value → Shared → Prop} {s : Shared} {h₀ : Heap} {L a b c d : Addr} {news : List (Addr × Obj)} {vs us : List Value} {ns : List Int} {na nb nc nd : Nat} (N : News h₀ L s.heap news)
    (ha : (a, ({ cls := .type "list", data := .seq #[.ref c] na } : Obj)) ∈ news) (hb : (b, ({ cls := .type "list", data := .seq #[.ref d] nb } : Obj)) ∈ news)
    (hc : (c, ({ cls := .type "list", data := .seq vs.toArray nc } : Obj)) ∈ news) (hd : (d, ({ cls := .type "list", data := .seq us.toArray nd } : Obj)) ∈ news)
    (hi : IntsAre vs ns) (hj : IntsAre us ns) (hu : A.units + 64 < cLine) (h : Q (.bool false) s) : wpAny (model prog w) A (compareOp .NotEq (.ref a) (.ref b)) Q E s := by
  obtain ⟨as, ra⟩ := reads_nest (h := s.heap) ⟨_, N.get ha, rfl, na, rfl⟩ ⟨_, N.get hc, rfl, nc, rfl⟩ hi
  obtain ⟨bs, rb⟩ := reads_nest (h := s.heap) ⟨_, N.get hb, rfl, nb, rfl⟩ ⟨_, N.get hd, rfl, nd, rfl⟩ hj
  refine ne_dataH_same ra rb (shaped_nest ns) (shaped_nest ns) hu (by simp only [PySem.SeqAt.noMix, PySem.SeqAt.noMixAll, Bool.and_true]; exact noMix_ints ns ns) ?_
  have e : PySem.Spec.same (.list [.list (ns.map PyData.int)]) (.list [.list (ns.map PyData.int)]) = true := by
    simp only [PySem.Spec.same, PySem.Spec.sameAll, Bool.and_true]
    rw [same_ints]
    exact decide_eq_true rfl
  rw [e]
  exact h
theorem eq_own {prog : Program} {w : World} {A : Around} {E Q : Value → Shared → Prop} {s : Shared} {h₀ : Heap} {L a b : Addr} {news : List (Addr × Obj)} {vs us : List Value} {ns : List Int} {na nb : Nat} (N : News h₀ L s.heap news)
    (ha : (a, ({ cls := .type "list", data := .seq vs.toArray na } : Obj)) ∈ news) (hb : (b, ({ cls := .type "list", data := .seq us.toArray nb } : Obj)) ∈ news)
    (hi : IntsAre vs ns) (hj : IntsAre us ns) (hu : A.units + 64 < cLine) (h : Q (.bool true) s) : wpAny (model prog w) A (compareOp .Eq (.ref a) (.ref b)) Q E s :=
  eq_intsK ⟨_, N.get ha, rfl, na, rfl⟩ hi ⟨_, N.get hb, rfl, nb, rfl⟩ hj hu (by rw [decide_eq_true (rfl : ns = ns)]; exact h)
theorem ne_own {prog : Program} {w : World} {A : Around} {E Q : Value → Shared → Prop} {s : Shared} {h₀ : Heap} {L a b : Addr} {news : List (Addr × Obj)} {vs us : List Value} {ns : List Int} {na nb : Nat} (N : News h₀ L s.heap news)
    (ha : (a, ({ cls := .type "list", data := .seq vs.toArray na } : Obj)) ∈ news) (hb : (b, ({ cls := .type "list", data := .seq us.toArray nb } : Obj)) ∈ news)
    (hi : IntsAre vs ns) (hj : IntsAre us ns) (hu : A.units + 64 < cLine) (h : Q (.bool false) s) : wpAny (model prog w) A (compareOp .NotEq (.ref a) (.ref b)) Q E s :=
  ne_intsK ⟨_, N.get ha, rfl, na, rfl⟩ hi ⟨_, N.get hb, rfl, nb, rfl⟩ hj hu (by rw [decide_eq_true (rfl : ns = ns)]; exact h)


/-! LRj -/
section
local macro_rules | `(tactic| k_lt $h:ident) => `(tactic| replace $h := allLt_of $h)
structure ProtoIn (X : ProtoV) (l : List (Addr × Obj)) : Prop where
  mx : (X.x, instObj 178 X.d) ∈ l
  m2 : (X.a2, listOf #[] 0) ∈ l
  m3 : (X.a3, listOf #[] 0) ∈ l
  m4 : (X.a4, listOf #[] 0) ∈ l
  m5 : (X.a5, listOf #[] 0) ∈ l
  m6 : (X.a6, listOf #[] 0) ∈ l
theorem ProtoIn.up {X : ProtoV} {l l' : List (Addr × Obj)} (h : ProtoIn X l) (up : ∀ q ∈ l, q ∈ l') : ProtoIn X l' := ⟨up _ h.mx, up _ h.m2, up _ h.m3, up _ h.m4, up _ h.m5, up _ h.m6⟩
theorem protoIn_of (X : ProtoV) (l : List (Addr × Obj)) : ProtoIn X ((X.a6, listOf #[] 0) :: (X.a5, listOf #[] 0) :: (X.a4, listOf #[] 0) :: (X.a3, listOf #[] 0) :: (X.a2, listOf #[] 0) :: (X.x, instObj 178 X.d) :: l) :=
  ⟨.tail _ (.tail _ (.tail _ (.tail _ (.tail _ (.head _))))), .tail _ (.tail _ (.tail _ (.tail _ (.head _)))), .tail _ (.tail _ (.tail _ (.head _))), .tail _ (.tail _ (.head _)), .tail _ (.head _), .head _⟩
theorem proto_off {X : ProtoV} {d : Addr} {l : List (Addr × Obj)} (hd : @LE.le Nat _ d X.d) (o : @LT.lt Nat _ X.d X.x ∧ @LT.lt Nat _ X.x X.a1 ∧ @LT.lt Nat _ X.a1 X.a2 ∧ @LT.lt Nat _ X.a2 X.a3 ∧ @LT.lt Nat _ X.a3 X.a4 ∧ @LT.lt Nat _ X.a4 X.a5 ∧ @LT.lt Nat _ X.a5 X.a6) (h : ∀ q ∈ l, q.1 ≠ d) :
    ∀ q ∈ (X.a6, listOf #[] 0) :: (X.a5, listOf #[] 0) :: (X.a4, listOf #[] 0) :: (X.a3, listOf #[] 0) :: (X.a2, listOf #[] 0) :: (X.x, instObj 178 X.d) :: l, q.1 ≠ d := by
  obtain ⟨u1, u2, u3, u4, u5, u6, u7⟩ := o
  have v1 := Nat.lt_of_le_of_lt hd u1
  have v3 := Nat.lt_trans (Nat.lt_trans v1 u2) u3
  have v4 := Nat.lt_trans v3 u4
  have v5 := Nat.lt_trans v4 u5
  have v6 := Nat.lt_trans v5 u6
  exact List.forall_mem_cons.mpr ⟨Nat.ne_of_gt (Nat.lt_trans v6 u7), List.forall_mem_cons.mpr ⟨Nat.ne_of_gt v6, List.forall_mem_cons.mpr ⟨Nat.ne_of_gt v5, List.forall_mem_cons.mpr ⟨Nat.ne_of_gt v4, List.forall_mem_cons.mpr ⟨Nat.ne_of_gt v3, List.forall_mem_cons.mpr ⟨Nat.ne_of_gt v1, h⟩⟩⟩⟩⟩⟩
section
variable {w : World} {loose : List Str} {mean : ExcName → Option Value} {mg mb : Str → Option Value} {dp un : Nat} {gd : Option (List Code)} {cn : Str} {cs : Scope} {a : Addr} {ccd : Value} {cl : List (Str × Addr)} {outer : List Env} {A₀ : Around} {base h₀ : Heap} {L : Addr} {m : Str → Option Value} {s : Shared} {Q E : Value → Shared → Prop}
theorem use_protoC {news : List (Addr × Obj)} (F : Fr h₀ L s.heap m) (Bl : Below A₀ base outer h₀) (X : (hd.heap_39 w.params).In h₀) (N : News h₀ L s.heap news) (T : Top hd.view_39 loose mean mg mb h₀) (hk : cs.kind = .function) (hdp : dp + 5 < recursionLimit) (hun : un + 20 < cLine)
    (ret : ∀ (X : ProtoV) (rest : List (Addr × Obj)) (h' : Heap) (tk' : Nat), Fr h₀ L h' m → News h₀ L h' ((X.d, protoDict w.params X.z X.a1 X.a2 X.a3 X.a4 X.a5 X.a6) :: rest) → (∀ q ∈ news, q ∈ rest) → ProtoIn X rest → (∀ q ∈ rest, q.1 ≠ X.d) → Q (.ref X.x) { s with heap := h', toks := tk' }) :
    wpAny (model (RowW.prog (OpenRow.toRowW (OpenLaw.row PySem.Challenge.rw_rh0159_01))) w) (ktrTop dp un gd cn cs L a ccd cl outer) (call (.ref 178) []) Q E s :=
  use_proto F Bl X N T hk hdp hun fun X h' tk' F' N' o1 o2 =>
    ret X ((X.a6, listOf #[] 0) :: (X.a5, listOf #[] 0) :: (X.a4, listOf #[] 0) :: (X.a3, listOf #[] 0) :: (X.a2, listOf #[] 0) :: (X.x, instObj 178 X.d) :: news) h' tk' F'
      (kst_newsOf N' (List.forall_mem_cons.mpr ⟨.tail _ (.tail _ (.tail _ (.tail _ (.tail _ (.tail _ (.tail _ (.head _))))))), List.forall_mem_cons.mpr ⟨.head _, List.forall_mem_cons.mpr ⟨.tail _ (.head _), List.forall_mem_cons.mpr ⟨.tail _ (.tail _ (.head _)), List.forall_mem_cons.mpr ⟨.tail _ (.tail _ (.tail _ (.head _))), List.forall_mem_cons.mpr ⟨.tail _ (.tail _ (.tail _ (.tail _ (.head _)))), List.forall_mem_cons.mpr ⟨.tail _ (.tail _ (.tail _ (.tail _ (.tail _ (.tail _ (.head _)))))), fun q hq => c7 (.tail _ hq)⟩⟩⟩⟩⟩⟩⟩))
      (fun q hq => .tail _ (.tail _ (.tail _ (.tail _ (.tail _ (.tail _ hq)))))) (protoIn_of X news) (proto_off (Nat.le_refl _) o2 (all_ne_of_allLt o1))
theorem use_protoD {d₁ : Addr} {o₁ : Obj} {rest₁ : List (Addr × Obj)} (F : Fr h₀ L s.heap m) (Bl : Below A₀ base outer h₀) (X : (hd.heap_39 w.params).In h₀) (N : News h₀ L s.heap ((d₁, o₁) :: rest₁)) (hne : ∀ q ∈ rest₁, q.1 ≠ d₁) (T : Top hd.view_39 loose mean mg mb h₀) (hk : cs.kind = .function) (hdp : dp + 5 < recursionLimit) (hun : un + 20 < cLine)
    (ret : ∀ (X : ProtoV) (rest : List (Addr × Obj)) (h' : Heap) (tk' : Nat), Fr h₀ L h' m → News h₀ L h' ((X.d, protoDict w.params X.z X.a1 X.a2 X.a3 X.a4 X.a5 X.a6) :: (d₁, o₁) :: rest) → (∀ q ∈ rest₁, q ∈ rest) → ProtoIn X rest → (∀ q ∈ rest, q.1 ≠ X.d) → (∀ q ∈ rest, q.1 ≠ d₁) → @Ne Nat d₁ X.d → Q (.ref X.x) { s with heap := h', toks := tk' }) :
    wpAny (model (RowW.prog (OpenRow.toRowW (OpenLaw.row PySem.Challenge.rw_rh0159_01))) w) (ktrTop dp un gd cn cs L a ccd cl outer) (call (.ref 178) []) Q E s :=
  use_proto F Bl X N T hk hdp hun fun X h' tk' F' N' o1 o2 =>
    ret X ((X.a6, listOf #[] 0) :: (X.a5, listOf #[] 0) :: (X.a4, listOf #[] 0) :: (X.a3, listOf #[] 0) :: (X.a2, listOf #[] 0) :: (X.x, instObj 178 X.d) :: rest₁) h' tk' F'
      (kst_newsOf N' (List.forall_mem_cons.mpr ⟨.tail _ (.tail _ (.tail _ (.tail _ (.tail _ (.tail _ (.tail _ (.head _))))))), List.forall_mem_cons.mpr ⟨c7 (.tail _ (.head _)), List.forall_mem_cons.mpr ⟨.head _, List.forall_mem_cons.mpr ⟨.tail _ (.head _), List.forall_mem_cons.mpr ⟨.tail _ (.tail _ (.head _)), List.forall_mem_cons.mpr ⟨.tail _ (.tail _ (.tail _ (.head _))), List.forall_mem_cons.mpr ⟨.tail _ (.tail _ (.tail _ (.tail _ (.head _)))), List.forall_mem_cons.mpr ⟨.tail _ (.tail _ (.tail _ (.tail _ (.tail _ (.tail _ (.head _)))))), fun q hq => c7 (.tail _ (.tail _ hq))⟩⟩⟩⟩⟩⟩⟩⟩))
      (fun q hq => .tail _ (.tail _ (.tail _ (.tail _ (.tail _ (.tail _ hq)))))) (protoIn_of X rest₁) (proto_off (Nat.le_refl _) o2 (all_ne_of_allLt (And.right o1))) (proto_off (Nat.le_of_lt (And.left o1)) o2 hne) (Nat.ne_of_lt (And.left o1))
end
theorem news_cut {h₀ : Heap} {L : Addr} {h : Heap} {l : List (Addr × Obj)} {G : Prop} (N : News h₀ L h l) (k : ∀ rest, News h₀ L h rest → (∀ q ∈ l, q ∈ rest) → G) : G := k l N fun _ h => h
theorem mem_list {l : List (Addr × Obj)} {a : Addr} {its : Array Value} {n : Nat} (h : (a, listOf its n) ∈ l) : (a, ({ cls := .type "list", data := .seq its n } : Obj)) ∈ l := h
theorem cell_up {l rest : List (Addr × Obj)} (up : ∀ q ∈ l, q ∈ rest) {a : Addr} {o : Obj} {v : Data} (_ : o.data = v) (h : (a, o) ∈ l) : (a, o) ∈ rest := up _ h
theorem law_holds : PySem.Challenge.rw_rh0159_01.Holds := hd (by
  k_go0
  k_with_none
  (k_with "my omega" => (k_whole; first | with_reducible assumption | k_dflt decide | with_reducible (first | (show @LT.lt Nat _ _ _; first | exact om_r0 (by assumption) | exact om_r1 (by assumption) (by k_dflt (exact rfl)) | exact om_r2 (by assumption) (by k_dflt (exact rfl)) | exact om_d1 (by assumption) (by assumption) (by k_dflt (exact rfl)) | exact om_d2 (by assumption) (by assumption) (by k_dflt (exact rfl)) | exact om_nlt (by assumption) (by k_dflt (exact rfl)) | exact om_meas (by assumption)) | (show @LE.le Nat _ _ _; first | exact om_le (by assumption) (by k_dflt (exact rfl)) | exact om_len (by assumption) (by assumption) (by k_dflt (exact rfl)) | exact om_len3 (by assumption) (by assumption) (by assumption) (by k_dflt (exact rfl)) | exact om_l16 (by assumption) (by assumption) (by assumption) (by assumption) | exact lw3 (by assumption) | exact lw4 (by assumption) | exact lw8 (by assumption) (by assumption) (by assumption) | exact lw9 (by assumption) (by assumption) | exact lw9' (by assumption) (by assumption)) | (show @LT.lt Int _ _ _; first | exact om_cast (by assumption) | exact om_caste (by assumption) (by assumption) | exact om_eqlt (by assumption) (by assumption) | exact om_clen (by assumption) (by assumption) (by k_dflt decide) | exact om_ilen (by assumption) (by assumption) (by k_dflt decide) | exact om_cle (by assumption) (by k_dflt decide) | exact om_ilt (by assumption) (by k_dflt decide) | exact om_ile (by assumption) (by k_dflt decide) | exact om_igt (by assumption) (by k_dflt decide) | exact om_k3 (by assumption) (by assumption) | exact om_k1 (by assumption) (by assumption) (by assumption) | exact om_k2 (by assumption) (by assumption) (by assumption) (by assumption) (by k_dflt decide) | exact om_far2 (by assumption) (by assumption) | exact lw1 (by assumption) | exact lw10 _ | exact lw13 (by assumption) (by assumption)) | (show @LE.le Int _ _ _; first | exact Int.natCast_nonneg _ | exact om_ige (by assumption) (by k_dflt decide) | exact om_k0 (by assumption) | exact om_s (by assumption) | exact om_p1 (by assumption) | exact om_k4 (by assumption) (by assumption) (by assumption) (by assumption) (by assumption) | exact om_far1 (by assumption) (by assumption) (by assumption) | exact lw2 (by assumption) | exact lw11 _ | exact lw12 _) | (show @Ne Nat _ _; first | exact om_gt1 (by assumption) | exact om_lt1 (by assumption) | exact om_gt2 (by assumption) | exact om_lt2 (by assumption) | exact om_gt3 (by assumption) | exact om_lt3 (by assumption) | exact om_c2 (by assumption) | exact om_c2' (by assumption) | exact om_c3 (by assumption) | exact om_c3' (by assumption) | exact om_c4 (by assumption) | exact om_c4' (by assumption) | exact om_s1 _ | exact Ne.symm (om_s1 _) | exact om_s2 _ | exact Ne.symm (om_s2 _) | exact om_s3 _ | exact Ne.symm (om_s3 _)) | (show @Eq _ _ _; first | exact om_tn (by assumption) (by assumption) | exact om_sc (by assumption) | exact lw5 (by assumption) | exact lw7 (by assumption) (by assumption)) | (show Not _; first | exact om_nz (by assumption)))))
  (k_with "mem1" => first | with_reducible assumption | exact mem_list (by with_reducible assumption) | with_reducible exact ProtoIn.mx (by with_reducible assumption) | with_reducible exact ProtoIn.m2 (by with_reducible assumption) | with_reducible exact ProtoIn.m3 (by with_reducible assumption) | with_reducible exact ProtoIn.m4 (by with_reducible assumption) | with_reducible exact ProtoIn.m5 (by with_reducible assumption) | with_reducible exact ProtoIn.m6 (by with_reducible assumption) | exact List.Mem.head _ | (refine' List.mem_cons_of_mem _ ?_; k_extra "mem1"))
  (k_with "my k_mem" => k_dflt (k_extra "mem1"))
  (k_with "cutA" => ((rename News _ _ _ _ => Nc1); (refine news_cut Nc1 fun rest1 Nr1 up1 => ?_); (have mg1 := up1 _ (List.Mem.head _)); (rename _ = Data.cell (some (Value.int (2 + _) _)) => hcm1); (have mm1 := cell_up up1 hcm1 (by k_extra "mem1")); (rename _ = Data.cell (some (Value.ref _)) => hcg1); (have mc1 := cell_up up1 hcg1 (by k_extra "mem1")); (rename _ = Data.cell (some (Value.int _ _)) => hcs1); (have ms1 := cell_up up1 hcs1 (by k_extra "mem1")); clear Nc1 up1))
  (k_with "cutB" => ((rename News _ _ _ _ => Nc2); (refine news_cut Nc2 fun rest2 Nr2 up2 => ?_); (have mo2 := up2 _ (List.Mem.head _)); (have mg2 := up2 _ (List.Mem.tail _ (List.Mem.tail _ (List.Mem.tail _ mg1)))); (have mc2 := up2 _ (List.Mem.tail _ (List.Mem.tail _ (List.Mem.tail _ mc1)))); (have ms2 := up2 _ (List.Mem.tail _ (List.Mem.tail _ (List.Mem.tail _ ms1)))); clear Nc2 up2))
  (k_with "cutC" => ((rename News _ _ _ _ => Nc3); (refine news_cut Nc3 fun rest3 Nr3 up3 => ?_); (have md3 := up3 _ (List.Mem.head _)); (have mo3 := up3 _ (List.Mem.tail _ mo2)); (have mg3 := up3 _ (List.Mem.tail _ mg2)); (have mc3 := up3 _ (List.Mem.tail _ mc2)); (have ms3 := up3 _ (List.Mem.tail _ ms2)); clear Nc3 up3))
  (k_with "cutD" => ((rename News _ _ _ _ => Nc4); (refine news_cut Nc4 fun rest4 Nr4 up4 => ?_); (have mL4 := up4 _ (List.Mem.tail _ (List.Mem.head _))); (have mB4 := up4 _ (List.Mem.tail _ (List.Mem.tail _ (List.Mem.head _)))); (have mA4 := up4 _ (List.Mem.tail _ (List.Mem.tail _ (List.Mem.tail _ (List.Mem.head _))))); (have mx94 := up4 _ (List.Mem.tail _ (List.Mem.tail _ (List.Mem.tail _ (List.Mem.tail _ (List.Mem.tail _ (List.Mem.head _))))))); (have mx84 := up4 _ (List.Mem.tail _ (List.Mem.tail _ (List.Mem.tail _ (List.Mem.tail _ (List.Mem.tail _ (List.Mem.tail _ (List.Mem.head _)))))))); (have in84 := in89.up fun q hq => up4 q (List.Mem.tail _ (List.Mem.tail _ (List.Mem.tail _ (List.Mem.tail _ (List.Mem.tail _ (List.Mem.tail _ (List.Mem.tail _ (hq))))))))); (have in94 := in9.up fun q hq => up4 q (List.Mem.tail _ (List.Mem.tail _ (List.Mem.tail _ (List.Mem.tail _ (List.Mem.tail _ (List.Mem.tail _ (List.Mem.tail _ (hq))))))))); (have md4 := up4 _ (List.Mem.tail _ (List.Mem.tail _ (List.Mem.tail _ (List.Mem.tail _ (List.Mem.tail _ (List.Mem.tail _ (List.Mem.tail _ (md9))))))))); (have mo4 := up4 _ (List.Mem.tail _ (List.Mem.tail _ (List.Mem.tail _ (List.Mem.tail _ (List.Mem.tail _ (List.Mem.tail _ (List.Mem.tail _ (mo9))))))))); (have mg4 := up4 _ (List.Mem.tail _ (List.Mem.tail _ (List.Mem.tail _ (List.Mem.tail _ (List.Mem.tail _ (List.Mem.tail _ (List.Mem.tail _ (mg9))))))))); (have mc4 := up4 _ (List.Mem.tail _ (List.Mem.tail _ (List.Mem.tail _ (List.Mem.tail _ (List.Mem.tail _ (List.Mem.tail _ (List.Mem.tail _ (mc9))))))))); (have ms4 := up4 _ (List.Mem.tail _ (List.Mem.tail _ (List.Mem.tail _ (List.Mem.tail _ (List.Mem.tail _ (List.Mem.tail _ (List.Mem.tail _ (ms9))))))))); clear Nc4 up4))
  (k_with "my execs cons" => first
    | (k_here; (with_reducible show wpAny _ _ (execs (PySem.Stmt.Assign [PySem.Expr.Name (PySem.Str.ofString "due") _] _ _ :: _) _) _ _ _); k_dflt (k_extra "cutD"); (try k_gentoks); refine wpAny_execs_cons ?_)
    | (k_here; (with_reducible show wpAny _ _ (execs (PySem.Stmt.Assign [PySem.Expr.Name (PySem.Str.ofString "others") _] _ _ :: _) _) _ _ _); k_dflt (k_extra "cutA"); (try k_gentoks); refine wpAny_execs_cons ?_)
    | (k_here; (with_reducible show wpAny _ _ (execs (PySem.Stmt.Assign [PySem.Expr.Name (PySem.Str.ofString "code") _] _ _ :: _) _) _ _ _); k_dflt (k_extra "cutB"); (try k_gentoks); refine wpAny_execs_cons ?_)
    | (k_here; (with_reducible show wpAny _ _ (execs (PySem.Stmt.Assign [PySem.Expr.Tuple [PySem.Expr.Name (PySem.Str.ofString "inner") _, _] _ _] _ _ :: _) _) _ _ _); k_dflt (k_extra "cutC"); (try k_gentoks); refine wpAny_execs_cons ?_))
  (k_with "my k_enter" => first | ((refine' code_def ?k1 ?k2 ?k3 ?k4 ?k5 ?kA ?kF ?kK ?k6 ?k7 ?k8 ?k9 ?kB ?_ ?c2 ?c3 ?c4 ?c5; (case kA => exact rfl); (case kF => exact rfl); (case kK => first | exact rfl | assumption); (case k1 => k_asm); (case k2 => k_asm); (case k3 => k_asm); (case k4 => k_asm); (case k5 => k_asm); (case k6 => k_is); (case k7 => k_is); (case k8 => ktr_room); (case k9 => first | exact BindsTo.of_eq rfl | exact binds_K (by k_in) rfl (by k_is) rfl rfl rfl | fail "k_enter: no rule for these arguments"); (case c5 => decide); (case kB => exact locs rfl); (case c2 => exact rfl); (case c3 => exact rfl); (case c4 => exact rfl); k_whole; intro g' L' h' FG' F' N' B' X' T'; (try dsimp only); (try k_lift B'); (try k_fold))))
  (k_with "my ite" => first | ((first | (refine ite_neg Bool.false_ne_true ?_) | (refine ite_pos rfl ?_) | (refine ite_neg (by (try simp only [beq_iff_eq, bne_iff_ne, ne_eq, decide_eq_true_eq, Bool.not_eq_true', decide_eq_false_iff_not, beq_eq_false_iff_ne, Bool.and_eq_true, Bool.or_eq_true]); first | assumption | omega) ?_) | (refine ite_pos (by (try simp only [beq_iff_eq, bne_iff_ne, ne_eq, decide_eq_true_eq, Bool.not_eq_true', decide_eq_false_iff_not, beq_eq_false_iff_ne, Bool.and_eq_true, Bool.or_eq_true]); first | assumption | omega) ?_))))
  (k_with "my k_ne" => first | ((refine neN ?_; (try dsimp only); first | with_reducible assumption | exact Ne.symm (by with_reducible assumption) | exact ne_fa (by with_reducible assumption) (by k_extra "mem1") | exact (ne_fa (by with_reducible assumption) (by k_extra "mem1")).symm | exact ne_allLt (by with_reducible assumption) (by k_extra "mem1") | exact (ne_allLt (by with_reducible assumption) (by k_extra "mem1")).symm | exact ne_off1 (by with_reducible assumption) (by k_extra "mem1") | exact (ne_off1 (by with_reducible assumption) (by k_extra "mem1")).symm | exact (ne_off3 (by with_reducible assumption) (by k_extra "mem1")).1 | exact (ne_off3 (by with_reducible assumption) (by k_extra "mem1")).1.symm | exact (ne_off3 (by with_reducible assumption) (by k_extra "mem1")).2.1 | exact (ne_off3 (by with_reducible assumption) (by k_extra "mem1")).2.1.symm | exact (ne_off3 (by with_reducible assumption) (by k_extra "mem1")).2.2 | exact (ne_off3 (by with_reducible assumption) (by k_extra "mem1")).2.2.symm | omega)))
  (k_with "my k_all" => first | (first | with_reducible assumption | exact List.forall_mem_nil _ | exact all_ne_fa (by with_reducible assumption) | exact all_ne_of_allLt (by with_reducible assumption) | (refine' List.forall_mem_cons.mpr ⟨?a6, ?b6⟩; (case a6 => k_ne); (case b6 => k_all))))
  (k_with "my FinE" => first | (((unfold LCg.FinE); intro D' h' tk' F' N' o1'; (try simp only [List.nil_append, List.cons_append] at N'); (try dsimp only))))
  (k_with "my call type:list" => first | ((k_here; (with_reducible show wpAny _ _ (call (Value.type _) [Value.ref _]) _ _ _); k_dflt (refine' list_own ?F7 ?N7 ?b7 ?z7 ?_; (case F7 => k_asm); (case N7 => k_asm); (case b7 => k_extra "mem1"); (case z7 => first | exact Nat.le_of_ble_eq_true rfl | exact small_ints (by with_reducible assumption) (by omega)); k_whole); intro D' n' h' F' N' l1; (try dsimp only); (try k_sweep))))
  (k_with "my callWith ref nil nil" => first | ((k_here; (with_reducible show wpAny _ _ (callWith _ (Value.ref 178) _ (backTo _ (starEach [] _)) _) _ _ _); k_dflt (refine' callWith_K0 ?k1 ?k2 ?_; (case k1 => exact Frag.In.keeps (by with_reducible assumption) (Fr.keep (by with_reducible assumption))); (case k2 => k_is); k_whole))))
  (k_with "my eval ListComp" => first | ((k_here; (with_reducible show wpAny _ _ (PySem.eval (PySem.Expr.ListComp _ [PySem.Comprehension.mk (PySem.Expr.Tuple _ _ _) _ _ _] _ _) _) _ _ _); k_dflt (refine ListComp_enum (by k_asm) (by with_unfolding_all rfl) (by decide) (by rfl) (by decide) (by rfl) (by rfl) (by decide) ?_ (by intro _; rfl)))) | ((k_here; (with_reducible show wpAny _ _ (PySem.eval (PySem.Expr.ListComp _ [PySem.Comprehension.mk (PySem.Expr.Name _ _) _ _ _] _ _) _) _ _ _); k_dflt (refine LCg.ListComp_U (F₀ := by k_asm) (by with_unfolding_all rfl) (by decide) (by rfl) (by decide) (by rfl) ?_))))
  (k_with "my CompSrc" => first | ((k_here; k_dflt (refine' LCg.CompSrc.range (by rfl) (by k_asm) (by k_asm) (by with_reducible assumption) ?c1 ?c2 ?c3 ?_; (case c1 => exact small_one (by omega) (by omega) (by omega) (by omega)); (case c2 => exact rangeSize_nat _ _);(case c3 => rw [PySem.sizeLine_eq]; omega); intro g'; k_extra "comp rest"))) | ((k_here; k_dflt (refine' LCg.CompSrc.ledger (by rfl) (by k_asm) (by k_asm) ?c1 ?c2 ?_; (case c1 => k_extra "mem1"); (case c2 => exact Nat.le_of_ble_eq_true rfl); intro g'; lcg_lit))))
  (k_with "my EnumElt" => first | ((refine' EnumElt.intro ?z (by k_asm) (by k_asm) (fun p hp => hp); (case z => k_extra "elt"))))
  (k_with "my call type:enumerate" => first | (k_extra "enum go"))
  (k_with "my CompRest" => first | ((with_unfolding_all first | (refine LCg.CompRest.succ ?_; intro v' I' oI' C' oC' D' m' h' tk' E' hv' hC' hx' F' N' off' ne'; lcg_open hv') | refine LCg.CompRest.zero ?_)))
  (k_with "my CompEnd" => first | ((k_dflt (refine' compEnd_same (by k_asm) (by k_asm) ?off ?hS ?_; (case off => with_reducible assumption); (case hS => first | exact True.intro | exact Or.inr ⟨_, by k_extra "mem1", rfl, _, rfl⟩)))))
  (k_with "my newList" => first | ((k_here; k_dflt (refine' newList_K ?k1 ?k2 ?_ ?hz; (case k1 => k_asm); (case k2 => k_asm); (case hz => exact Nat.le_of_ble_eq_true rfl); k_whole); intro l' h' F' N' l1; (try k_sweep))))
  (k_with "my compareOp Eq ref ref" => first | ((k_here; (with_reducible show wpAny _ _ (compareOp CmpOp.Eq (Value.ref _) (Value.ref _)) _ _ _); k_dflt (refine' eq_own ?k1 ?ha ?hb ?hi ?hj ?hu ?_; (case k1 => k_asm); (case ha => k_extra "mem1"); (case hb => k_extra "mem1"); (case hi => with_reducible assumption); (case hj => with_reducible assumption); (case hu => units_room); k_whole))))
  (k_with "my compareOp NotEq ref ref" => first | ((k_here; (with_reducible show wpAny _ _ (compareOp CmpOp.NotEq (Value.ref _) (Value.ref _)) _ _ _); k_dflt (refine' ne_nest ?k1 ?ha ?hb ?hc ?hd ?hi ?hj ?hu ?_; (case k1 => k_asm); (case ha => k_extra "mem1"); (case hb => k_extra "mem1"); (case hc => k_extra "mem1"); (case hd => k_extra "mem1"); (case hi => with_reducible assumption); (case hj => with_reducible assumption); (case hu => units_room); k_whole))) | ((k_here; (with_reducible show wpAny _ _ (compareOp CmpOp.NotEq (Value.ref _) (Value.ref _)) _ _ _); k_dflt (refine' ne_own ?k1 ?ha ?hb ?hi ?hj ?hu ?_; (case k1 => k_asm); (case ha => k_extra "mem1"); (case hb => k_extra "mem1"); (case hi => with_reducible assumption); (case hj => with_reducible assumption); (case hu => units_room); k_whole))))
  (k_with "my storeName" => first | ((k_here; k_dflt (refine' store_let ?F ?N ?_ ?a ?b; (case F => k_asm); (case N => k_asm); (case a => rfl); (case b => rfl); k_whole; intro h' m' F' N'; (try k_sweep)))))
  (k_with "my getAttr ref" => first | ((k_here; (with_reducible show wpAny _ _ (getAttr (Value.ref _) (PySem.Str.ofString "protos") _) _ _ _); k_dflt (refine' get_protos ?k1 ?k2 ?k3 ?k4 ?k5 ?_; (case k1 => k_asm); (case k2 => k_asm); (case k3 => k_asm); (case k4 => k_extra "mem1"); (case k5 => k_extra "mem1"); k_whole))) | ((k_here; (with_reducible show wpAny _ _ (getAttr (Value.ref _) (PySem.Str.ofString "code") _) _ _ _); k_dflt (refine' get_code ?k1 ?k2 ?k3 ?k4 ?k5 ?_; (case k1 => k_asm); (case k2 => k_asm); (case k3 => k_asm); (case k4 => k_extra "mem1"); (case k5 => k_extra "mem1"); k_whole))))
  (k_with "my setAttr ref" => first | ((k_here; (with_reducible show wpAny _ _ (setAttr (Value.ref _) (PySem.Str.ofString "protos") (Value.ref _)) _ _ _); k_dflt (refine' set_protos ?k1 ?k2 ?k3 ?k4 ?k5 ?k6 ?_; (case k1 => k_asm); (case k2 => k_asm); (case k3 => k_asm); (case k4 => k_extra "mem1"); (case k5 => k_extra "mem1"); (case k6 => k_upd); k_whole; intro h' F' N'; (try k_sweep)))) | ((k_here; (with_reducible show wpAny _ _ (setAttr (Value.ref _) (PySem.Str.ofString "code") (Value.ref _)) _ _ _); k_dflt (refine' set_code ?k1 ?k2 ?k3 ?k4 ?k5 ?k6 ?_; (case k1 => k_asm); (case k2 => k_asm); (case k3 => k_asm); (case k4 => k_extra "mem1"); (case k5 => k_extra "mem1"); (case k6 => k_upd); k_whole; intro h' F' N'; (try k_sweep)))))
  (k_with "my call ref" => first | ((k_here; (with_reducible show wpAny _ _ (call (Value.ref 219) [_]) _ _ _); k_dflt (refine' use_law1 ?k2 ?hs ?hm ?hP ?hD ?hC ?hI ?hW ?hO ?hk ?hp ?hl ?ho ?hu ?hPi ?hDi ?hCi ?hIi ?hki ?hpi ?hli ?hoi ?hui ?mA ?mB ?k1 ?k3 ?k4 ?k5 ?kK ?kd ?ku; (case k2 => k_asm); (case k1 => k_asm); (case k3 => k_asm); (case k4 => k_asm); (case k5 => k_asm); (case kK => first | exact rfl | assumption); (case kd => ktr_room); (case ku => ktr_units); (case hs => exact fun _ _ => rfl); (case hP => k_extra "mem1"); (case hD => k_extra "mem1"); (case hC => k_extra "mem1"); (case hI => with_reducible assumption); (case hW => with_reducible assumption); (case hO => with_reducible assumption); (case hk => k_extra "mem1"); (case hp => k_extra "mem1"); (case hl => k_extra "mem1"); (case ho => k_extra "mem1"); (case hu => k_extra "mem1"); (case hPi => k_extra "mem1"); (case hDi => k_extra "mem1"); (case hCi => k_extra "mem1"); (case hIi => with_reducible assumption); (case hki => k_extra "mem1"); (case hpi => k_extra "mem1"); (case hli => k_extra "mem1"); (case hoi => k_extra "mem1"); (case hui => k_extra "mem1"); (case mA => k_extra "mem1"); (case mB => k_extra "mem1"); (case hm => first | with_reducible assumption | exact most_is (by with_reducible assumption) (by first | with_reducible assumption | exact eq_of_beq (by with_reducible assumption)) | omega)))) | ((k_here; (with_reducible show wpAny _ _ (call (Value.ref 219) [_, _]) _ _ _); k_dflt (refine' use_law _ ?k2 ?hs ?hm ?hP ?hD ?hC ?hI ?hW ?hO ?hk ?hp ?hl ?ho ?hu ?hPi ?hDi ?hCi ?hIi ?hki ?hpi ?hli ?hoi ?hui ?mA ?mB ?k1 ?k3 ?k4 ?k5 ?kK ?kd ?ku; (case k2 => k_asm); (case k1 => k_asm); (case k3 => k_asm); (case k4 => k_asm); (case k5 => k_asm); (case kK => first | exact rfl | assumption); (case kd => ktr_room); (case ku => ktr_units); (case hs => exact fun _ _ => rfl); (case hP => k_extra "mem1"); (case hD => k_extra "mem1"); (case hC => k_extra "mem1"); (case hI => with_reducible assumption); (case hW => with_reducible assumption); (case hO => with_reducible assumption); (case hk => k_extra "mem1"); (case hp => k_extra "mem1"); (case hl => k_extra "mem1"); (case ho => k_extra "mem1"); (case hu => k_extra "mem1"); (case hPi => k_extra "mem1"); (case hDi => k_extra "mem1"); (case hCi => k_extra "mem1"); (case hIi => with_reducible assumption); (case hki => k_extra "mem1"); (case hpi => k_extra "mem1"); (case hli => k_extra "mem1"); (case hoi => k_extra "mem1"); (case hui => k_extra "mem1"); (case mA => k_extra "mem1"); (case mB => k_extra "mem1"); (case hm => first | with_reducible assumption | exact most_is (by with_reducible assumption) (by first | with_reducible assumption | exact eq_of_beq (by with_reducible assumption)) | omega)))) | ((k_here; (with_reducible show wpAny _ _ (call (Value.ref 233) _) _ _ _); k_dflt (refine' use_law_goal _ _ _ _ ?hB ?hI ?hle ?hG ?h0 ?h1 ?h2 ?k2 ?k1 ?k3 ?k4 ?k5 ?kK ?kd ?ku ?_; (case k1 => k_asm); (case k2 => k_asm); (case k3 => k_asm); (case k4 => k_asm); (case k5 => k_asm); (case kK => first | exact rfl | assumption); (case kd => ktr_room); (case ku => ktr_units); (case hB => k_extra "mem1"); (case hI => with_reducible assumption); (case hle => assumption); (case hG => assumption); (case h0 => omega); (case h1 => omega); (case h2 => assumption); k_whole); intro t9 h9 tk9 F9 N9; (try dsimp only); (try k_sweep))) | ((k_here; (with_reducible show wpAny _ _ (call (Value.ref 238) _) _ _ _); k_dflt (refine' use_words ?hB ?hI ?hO ?hIo ?hle ?hlo ?hG ?k2 ?k1 ?k3 ?k4 ?k5 ?kK ?kd ?ku ?_; (case k1 => k_asm); (case k2 => k_asm); (case k3 => k_asm); (case k4 => k_asm); (case k5 => k_asm); (case kK => first | exact rfl | assumption); (case kd => ktr_room); (case ku => ktr_units); (case hB => k_extra "mem1"); (case hI => with_reducible assumption); (case hO => k_extra "mem1"); (case hIo => with_reducible assumption); (case hle => first | assumption | (simp only [dueGoals_len]; assumption)); (case hlo => (simp only [dueGoals_len, List.length_append, List.length_cons, List.length_nil]; omega)); (case hG => first | assumption | exact dueGoals_in (by assumption) _); k_whole); intro D9 ys9 h9 tk9 F9 N9 hi9 o9; (try dsimp only); (try k_sweep); (have hwl9 := wordsOf_len' hi9))) | ((k_here; (with_reducible show wpAny _ _ (call (Value.ref 226) _) _ _ _); k_dflt (refine' use_drawn _ _ _ _ ?hU ?hB ?hne ?hI ?hlen ?h0 ?h1 ?hm0 ?hm1 ?k2 ?k1 ?k3 ?k4 ?k5 ?kK ?kd ?ku ?_; (case k1 => k_asm); (case k2 => k_asm); (case k3 => k_asm); (case k4 => k_asm); (case k5 => k_asm); (case kK => first | exact rfl | assumption); (case kd => ktr_room); (case ku => ktr_units); (case hU => k_updF); (case hB => k_extra "mem1"); (case hne => k_ne); (case hI => with_reducible assumption); (case hlen => exact ar_take _); (case h0 => first | decide | exact ar_le3 (by with_reducible assumption) | exact ar_le3s (by with_reducible assumption) | omega); (case h1 => first | decide | exact ar_99 (by with_reducible assumption) | exact ar_99s (by with_reducible assumption) | omega); (case hm0 => first | decide | exact ar_pos2 (by with_reducible assumption) | omega); (case hm1 => first | decide | exact ar_hi2 (by with_reducible assumption) | omega); k_whole); intro x9 t9 u9 h9 tk9 F9 N9 hlo9 hhi9; (try dsimp only); (try k_sweep); (try dsimp only at N9))) | ((k_here; (with_reducible show wpAny _ _ (call (Value.ref 178) _) _ _ _); k_dflt (refine' use_protoD ?k2 ?k1 ?k3 ?k4 ?hne ?k5 ?kK ?kd ?ku ?_; (case k1 => k_asm); (case k2 => k_asm); (case k3 => k_asm); (case k4 => k_asm); (case k5 => k_asm); (case kK => first | exact rfl | assumption); (case kd => ktr_room); (case ku => ktr_units); (case hne => with_reducible assumption); k_whole); intro X9 rest9 h9 tk9 F9 N9 up9 in9 ne9 ne89 nx9; (try dsimp only); (have in89 := in8.up up9); (have md9 := up9 _ md8); (have mo9 := up9 _ mo8); (have mg9 := up9 _ mg8); (have mc9 := up9 _ mc8); (have ms9 := up9 _ ms8); clear up9; (try k_sweep))) | ((k_here; (with_reducible show wpAny _ _ (call (Value.ref 178) _) _ _ _); k_dflt (refine' use_protoC ?k2 ?k1 ?k3 ?k4 ?k5 ?kK ?kd ?ku ?_; (case k1 => k_asm); (case k2 => k_asm); (case k3 => k_asm); (case k4 => k_asm); (case k5 => k_asm); (case kK => first | exact rfl | assumption); (case kd => ktr_room); (case ku => ktr_units); k_whole); intro X8 rest8 h8 tk8 F8 N8 up8 in8 ne8; (try dsimp only); (have md8 := up8 _ md3); (have mo8 := up8 _ mo3); (have mg8 := up8 _ mg3); (have mc8 := up8 _ mc3); (have ms8 := up8 _ ms3); clear up8; (try k_sweep))) | ((k_here; (with_reducible show wpAny _ _ (call (Value.ref 42) _) _ _ _); k_dflt (refine' use_create_abc _ _ _ _  ?k2 ?k1 ?k3 ?k4 ?k5 ?kK ?kd ?ku ?_; (case k1 => k_asm); (case k2 => k_asm); (case k3 => k_asm); (case k4 => k_asm); (case k5 => k_asm); (case kK => first | exact rfl | assumption); (case kd => ktr_room); (case ku => ktr_units); k_whole); intro t9 h9 tk9 F9 N9; (try dsimp only); (try k_sweep))) | ((k_here; (with_reducible show wpAny _ _ (call (Value.ref 49) _) _ _ _); k_dflt (refine' use_create_abx _ _ _ _ _ ?p1 ?p2 ?p3 ?p4 ?k2 ?k1 ?k3 ?k4 ?k5 ?kK ?kd ?ku ?_; (case k1 => k_asm); (case k2 => k_asm); (case k3 => k_asm); (case k4 => k_asm); (case k5 => k_asm); (case kK => first | exact rfl | assumption); (case kd => ktr_room); (case ku => ktr_units); (case p1 => l_fact); (case p2 => l_fact); (case p3 => l_fact); (case p4 => l_fact); k_whole); intro t9 h9 tk9 F9 N9; (try dsimp only); (try k_sweep))))
  (k_with "my eval IfExp" => first | ((k_here; (with_reducible show wpAny _ _ (PySem.eval (PySem.Expr.IfExp _ (PySem.Expr.Name (PySem.Str.ofString "MAXARG_SBX") _) _ _) _) _ _ _); k_dflt (refine' most_cut ?F ?f ?msA ?msB; (case F => k_asm); (case f => exact rfl); (case' msA => with_reducible refine PyProof.Rows.IfExp_ ?_); (case' msB => (intro y9 t9 tk9 hy9 hz9; (try dsimp only)))))) | ((k_here; (with_reducible show wpAny _ _ (PySem.eval (PySem.Expr.IfExp _ (PySem.Expr.Call (PySem.Expr.Name (PySem.Str.ofString "thread_jumps") _) _ _ _) _ _) _) _ _ _); k_dflt (refine' found_cut ?k2 ?k3 ?cA ?cB ?cO ?cI ?hP ?hD ?hC ?hI ?hW ?hO ?hPi ?hDi ?hCi ?mA ?mB ?hd ?fnA ?fnB; (case k2 => k_asm); (case k3 => k_asm); (case cA => exact rfl); (case cB => exact rfl); (case cO => exact rfl); (case cI => exact rfl); (case hP => k_extra "mem1"); (case hD => k_extra "mem1"); (case hC => k_extra "mem1"); (case hI => with_reducible assumption); (case hW => with_reducible assumption); (case hO => with_reducible assumption); (case hPi => k_extra "mem1"); (case hDi => k_extra "mem1"); (case hCi => k_extra "mem1"); (case mA => k_extra "mem1"); (case mB => k_extra "mem1"); (case hd => with_reducible assumption); (case' fnA => with_reducible refine PyProof.Rows.IfExp_ ?_); (case' fnB => (intro X9 Y9 h9 tk9 F9 N9 hi9 hi8; (try dsimp only); (try k_sweep)))))))
  (k_with "my MostP" => first | ((refine ⟨_, _, _, rfl, ?h1, ?h2, rfl⟩; (case h1 => first | exact fun _ => rfl | (intro hx9; first | contradiction | (exfalso; simp_all; done))); (case h2 => first | omega | decide))))
  (k_with "my DrawEnd" => first | ((refine' DrawEnd.intro (by k_asm) (by k_asm) ?hl ?h1 ?h2 ?h3 ?h4; (case hl => exact rfl); (case h1 => first | decide | exact ar_m1 (by with_reducible assumption) | omega); (case h2 => first | with_reducible assumption | exact ar_neg (by with_reducible assumption) | omega); (case h3 => first | exact ar_t1 _ | exact ar_t2 _ | omega); (case h4 => first | exact ar_u1 _ | exact ar_u2 _ | omega))))
  (k_with "elt" => first | rfl | exact dueAt_pos (by assumption) | exact dueAt_neg (by assumption))
  (k_with "enum go" => ((rename _ = Data.cell (some (Value.int _ _)) => hcm); (k_dflt (refine' enumGo_due hcm (by rfl) (by k_asm) (by k_asm) ?mC ?iC ?sC ?turnC ?doneC); (case mC => k_extra "mem1"); (case iC => assumption); (case sC => omega); (case' turnC => (intro eE eI i ti tx oe oi eC oC eD ys m₂ h tk E' hil hC ha hb F₁ N₁; (try k_unmd); (try k_fold))); (case' doneC => (intro D ys h tk hys F₁ N₁ o1; (have hdl := dueGoals_len' hys); (try dsimp only))))))
  (k_with "comp rest" => first
    | ((rename _ = Data.cell (some (Value.int (2 + _) _)) => hcm0); k_dflt (refine' goals_rest2 hcm0 ?hm ?hU ?hN ?h9 ?turnA ?finA); (case hm => k_extra "mem1"); (case hU => k_updF); (case hN => omega); (case h9 => omega); (case' turnA => (intro i ys turn tt ht0 ht1 t I oI C oC D m₂ h tk E' hC hx F₁ N₁ off ne; (try dsimp only at N₁ off); (try k_unmd); (try k_fold))); (case' finA => (intro ys xs turn tt hys hlen hall; (have hgI := goals_are hlen hall (by omega)); (obtain ⟨hgi, hgl, hgt⟩ := hgI); (try dsimp only))))
    | (k_dflt (refine' pure_rest (fun i => mkLoad (Int.fmod (0 + (i : Int)) 5) (0 + (i : Int))) ?turnB ?finB); (case' turnB => (intro i ys hi t I oI C oC D m₂ h tk E' hC hx F₁ N₁; (try k_unmd); (try k_fold))); (case' finB => (intro ys hys; (obtain ⟨os, ho1, ho2, ho3⟩ := named_list hys); clear hys; (have hoth := others_are (gs := xs ++ [0 - 1]) ho3 hgl (by omega) ho2); (have hcod := coded_words hgi hgt hoth)))))
  (all_goals try k_fold)
  repeat' (first | (k_unfold; (try dsimp only)) | (k_end; kc_close) | walk1 | (dsimp only; walk1) | (leave1; walk_say "STEP leave1"; (try dsimp only)) | fail "no step"))

end
end Mine
theorem PySem.Challenge.cw_rh0159_01_holds : PySem.Challenge.rw_rh0159_01.Holds :=
  Mine.law_holds
