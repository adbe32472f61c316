import PyProof.Rows.All
import Wide.All
import OpenK.AllK
import Wide.FinOn
import PySem.Challenge.RW_on0243_01
open PySem PySem.W PyProof.Rows
set_option Elab.async false
set_option maxRecDepth 100000
set_option maxHeartbeats 8000000
namespace Mine
/- Names at which the kit lays a twin of a definition of the head; where they are taken it goes on without (the file would be too big otherwise). -/
def own.tw7982161756014062104 : Nat := 0
def own.tw11854422011757041113 : Nat := 0
def own.tw4541715373115487431 : Nat := 0
def own.tw17006207303338800880 : Nat := 0
def own.tw16060286735667912098 : Nat := 0
def own.tw14778160260094279508 : Nat := 0
def own.tw3634779311290217409 : Nat := 0
def own.tw2076602821925947278 : Nat := 0
def own.tw545645858493035681 : Nat := 0
def own.tw11034568816084556164 : Nat := 0
def own.tw10271175708588663179 : Nat := 0
def own.tw6243502243852665090 : Nat := 0
def own.tw9400219581783160921 : Nat := 0
def own.tw5247551543530448719 : Nat := 0
def own.tw15070811217924818194 : Nat := 0
def own.tw12318062128997993803 : Nat := 0
def own.tw17626939208888447048 : Nat := 0
set_option Elab.async true in
theorem own : True := by
  first
  | (let rec hd : PySem.Challenge.rw_on0243_01.Holds := ((by set_option Elab.async false in (w_on; o_law; k_head; (case hw => w_witness2); fail "no more") : PySem.Challenge.rw_on0243_01.Holds) :)
     fail "no more")
  | trivial
theorem own_done : True := trivial
namespace own
open_top hd for PySem.Challenge.rw_on0243_01
end own
end Mine
namespace Mine
open own
section Arith
theorem gcd_step {a b : Int} (hb : 0 < b) {g : Nat} (h : Int.gcd a b = g) : Int.gcd b (Int.fmod a b) = g := by
  rw [← h, Int.fmod_eq_emod_of_nonneg _ (Int.le_of_lt hb), Int.emod_def, Int.gcd_comm a b, Int.sub_eq_add_neg, ← Int.mul_neg]
  exact Int.gcd_add_mul_left_right ..
theorem cd_start {x y : Int} (hy : 0 < y) : 0 ≤ (if x < 0 then -x else x) ∧ 0 ≤ y ∧ Int.gcd (if x < 0 then -x else x) y = Int.gcd x y := by
  refine ⟨by split <;> omega, by omega, ?_⟩
  split
  · exact Int.neg_gcd
  · rfl
theorem cd_turn {a b : Int} {g : Nat} (h : Int.gcd a b = g) (hb : 0 < b) : 0 ≤ b ∧ 0 ≤ Int.fmod a b ∧ Int.gcd b (Int.fmod a b) = g :=
  ⟨by omega, Int.fmod_nonneg_of_pos _ hb, gcd_step hb h⟩
theorem cd_less {a b : Int} (hb : 0 < b) : (Int.fmod a b).toNat < b.toNat := by
  have h1 := Int.fmod_nonneg_of_pos a hb
  have h2 := Int.fmod_lt_of_pos a hb
  omega
theorem cd_end {a b : Int} {g : Nat} (h3 : Int.gcd a b = g) (h1 : 0 ≤ a) (h2 : 0 ≤ b) (hb : ¬ 0 < b) : a = (g : Int) := by
  have : b = 0 := by omega
  subst this
  rw [Int.gcd_zero_right] at h3
  omega
theorem frac_gcd_pos {t b : Int} (hb : 0 < b) : 0 < ((Int.gcd t b : Nat) : Int) := by
  have : 0 < Int.gcd t b := Int.gcd_pos_of_ne_zero_right _ (by omega)
  omega
theorem frac_num {t b : Int} (hb : 0 < b) : Int.fdiv t ((Int.gcd t b : Nat) : Int) = (Rat.divInt t b).num := by
  rw [Rat.num_divInt, Int.sign_eq_one_of_pos hb, Int.one_mul, Int.gcd_comm b t, Int.fdiv_eq_ediv_of_nonneg _ (Int.le_of_lt (frac_gcd_pos hb))]
theorem frac_den {t b : Int} (hb : 0 < b) : Int.fdiv b ((Int.gcd t b : Nat) : Int) = ((Rat.divInt t b).den : Int) := by
  rw [Rat.den_divInt, if_neg (by omega), Int.fdiv_eq_ediv_of_nonneg _ (Int.le_of_lt (frac_gcd_pos hb)), Int.gcd_comm t b]
  have : b = (b.natAbs : Int) := by omega
  conv => lhs; lhs; rw [this]
  rw [Int.natCast_ediv]
theorem den_pos (q : Rat) : 0 < (q.den : Int) := by have := q.den_pos; omega
theorem add_frac (a b : Rat) : Rat.divInt (a.num * (b.den : Int) + b.num * (a.den : Int)) ((a.den : Int) * (b.den : Int)) = a + b := by
  rw [Rat.add_def', ← Rat.divInt_ofNat, Int.natCast_mul]
theorem mul_frac (a b : Rat) : Rat.divInt (a.num * b.num) ((a.den : Int) * (b.den : Int)) = a * b := by
  rw [Rat.mul_def', ← Rat.divInt_ofNat, Int.natCast_mul]
theorem div_frac (a b : Rat) : Rat.divInt (a.num * (b.den : Int)) ((a.den : Int) * b.num) = a / b := by
  rw [Rat.div_def, Rat.inv_def]
  conv => rhs; rw [← Rat.num_divInt_den a]
  rw [Rat.divInt_mul_divInt]
theorem den_add_le (a b : Rat) : (a + b).den ≤ a.den * b.den := by
  rw [Rat.den_add]; exact Nat.div_le_self _ _
theorem den_mul_le (a b : Rat) : (a * b).den ≤ a.den * b.den := by
  rw [Rat.den_mul]; exact Nat.div_le_self _ _
def LowInv (B : Int) (k : Nat) (a b : Int) : Prop := b * 2 ^ (k / 2) ≤ B ∧ (k = 0 ∨ (b < a ∧ a * 2 ^ ((k - 1) / 2) ≤ B))
theorem low_start {B a b : Int} (h : b ≤ B) : LowInv B 0 a b := ⟨by simpa using h, .inl rfl⟩
theorem low_turn {B a b : Int} {k : Nat} (ha : 0 ≤ a) (hb : 0 ≤ b) (hb0 : b ≠ 0) (h : LowInv B k a b) : LowInv B (k + 1) b (Int.fmod a b) := by
  have hp : 0 < b := by omega
  have m1 := Int.fmod_nonneg_of_pos a hp
  have m2 := Int.fmod_lt_of_pos a hp
  have e2 : k + 1 - 1 = k := by omega
  obtain ⟨h1, h2⟩ := h
  refine ⟨?_, .inr ⟨m2, by rw [e2]; exact h1⟩⟩
  rcases h2 with rfl | ⟨h3, h4⟩
  · simp at h1 ⊢; omega
  · rcases Nat.eq_zero_or_pos k with rfl | hk
    · simp at h1 ⊢; omega
    · have e : (k + 1) / 2 = (k - 1) / 2 + 1 := by omega
      have hm : 2 * Int.fmod a b ≤ a := by
        rw [Int.fmod_eq_emod_of_nonneg _ hb] at *
        have hd : a / b ≥ 1 := (Int.le_ediv_iff_mul_le hp).mpr (by omega)
        have := Int.mul_ediv_add_emod a b
        have : b * 1 ≤ b * (a / b) := Int.mul_le_mul_of_nonneg_left hd hb
        omega
      rw [e, Int.pow_succ]
      have hpow : (0 : Int) ≤ 2 ^ ((k - 1) / 2) := Int.pow_nonneg (by decide)
      calc Int.fmod a b * (2 ^ ((k - 1) / 2) * 2) = 2 * Int.fmod a b * 2 ^ ((k - 1) / 2) := by rw [Int.mul_comm 2, Int.mul_assoc, Int.mul_comm 2]
        _ ≤ a * 2 ^ ((k - 1) / 2) := Int.mul_le_mul_of_nonneg_right hm hpow
        _ ≤ B := h4
theorem low_done {B a b : Int} (hB : B < 2 ^ 150) (hb : 0 ≤ b) (h : LowInv B 300 a b) : b = 0 := by
  have h1 := h.1
  have e : (300 : Nat) / 2 = 150 := by decide
  rw [e] at h1
  rcases Int.lt_or_le 0 b with h2 | h2
  · exfalso
    have : 1 * (2 : Int) ^ 150 ≤ b * 2 ^ 150 := Int.mul_le_mul_of_nonneg_right (by omega) (Int.pow_nonneg (by decide))
    omega
  · omega
theorem mul_lt_128 {a b : Int} (ha : 0 < a) (hb : 0 < b) (h1 : a < 2 ^ 62) (h2 : b < 2 ^ 62) : a * b < 2 ^ 128 := by
  have h3 : a * b ≤ a * 2 ^ 62 := Int.mul_le_mul_of_nonneg_left (by omega) (by omega)
  have h4 : a * 2 ^ 62 ≤ 2 ^ 62 * 2 ^ 62 := Int.mul_le_mul_of_nonneg_right (by omega) (by decide)
  have h5 : (2 : Int) ^ 62 * 2 ^ 62 < 2 ^ 128 := by decide
  omega
theorem low_word0 {x y : Int} (hy : 0 < y) (hY : y < 2 ^ 128) : 0 ≤ (if x < 0 then -x else x) ∧ 0 ≤ y ∧ Int.gcd (if x < 0 then -x else x) y = Int.gcd x y ∧ LowInv (2 ^ 128) ([] : List Int).length (if x < 0 then -x else x) y :=
  ⟨(cd_start (x := x) hy).1, (cd_start (x := x) hy).2.1, (cd_start (x := x) hy).2.2, low_start (Int.le_of_lt hY)⟩
end Arith
section Base
noncomputable abbrev vL : List Str := looseW hd.view_39 [Str.ofString "fraction", Str.ofString "Outline", Str.ofString "line_letters", Str.ofString "end_of"]
noncomputable abbrev vG : List Str := vL ++ (recsOf hd.view_39).map (·.name) ++ (litsOf hd.view_39).map (·.1) ++ (clssOf hd.view_39 vL).map (·.name)
abbrev Led := List (Addr × Obj)
abbrev tup (vs : List Value) (k : Nat) : Obj := { cls := .type "tuple", data := .seq vs.toArray k }
inductive RatIn (i : Led) (v : Value) (q : Rat) : Prop
  | mk (a : Addr) (t1 t2 : Tok) (k : Nat) (h0 : v = .ref a) (h1 : (a, tup [.int q.num t1, .int q.den t2] k) ∈ i) : RatIn i v q
theorem off1_mem {D : Addr} : ∀ {l : Led}, LCg.Off1 D l → ∀ p ∈ l, @Ne Nat p.1 D
  | [], _, _, hp => nomatch hp
  | _ :: _, h, p, hp => by
    rcases List.mem_cons.mp hp with rfl | hp
    · exact h.1
    · exact off1_mem h.2 p hp
theorem off1_of {D : Addr} : ∀ {l : Led}, (∀ p ∈ l, @Ne Nat p.1 D) → LCg.Off1 D l
  | [], _ => trivial
  | p :: _, h => ⟨h p (.head _), off1_of fun q hq => h q (.tail _ hq)⟩
section
variable {w : World} {f : Addr} {D U : Nat} {vs : List Value} {news : Led} {mean : ExcName → Option Value} {mg mb : Str → Option Value} {dp un : Nat} {gd : Option (List Code)} {cn : Str} {cs : Scope} {a : Addr} {ccd : Value} {cl : List (Str × Addr)} {outer : List Env} {A₀ : Around} {base h₀ : Heap} {L : Addr} {m : Str → Option Value} {s : Shared} {Q E : Value → Shared → Prop}
end
theorem mulOk_right {a b : Int} (h1 : -(2 ^ 64) < b) (h2 : b < 2 ^ 64) : IntMulOk a b := IntMulOk.of_right (intBits_le_64 h1 h2)
theorem mulOk_left {a b : Int} (h1 : -(2 ^ 64) < a) (h2 : a < 2 ^ 64) : IntMulOk a b := IntMulOk.of_left (intBits_le_64 h1 h2)
theorem noPy {t b : Int} (hb : 0 < b) (hB : b < 2 ^ 128) (x : Int) : Builtin.divisionGoesByPylong x ((Int.gcd t b : Nat) : Int) = false := by
  refine PyProof.noPylong_of_log2 ?_
  have h0 := frac_gcd_pos (t := t) hb
  have h1 : Int.gcd t b ≤ b.natAbs := Int.gcd_le_natAbs_right _ (by omega)
  have hn : ((Int.gcd t b : Nat) : Int).natAbs ≠ 0 := by omega
  have h2 : ((Int.gcd t b : Nat) : Int).natAbs < 2 ^ 128 := by omega
  have := (Nat.log2_lt hn).mpr h2
  omega
def SrcObj (_S : Addr) (o : Obj) : Prop := ∃ (a b : Int) (ta tb : Tok) (n : Nat), o = listOf [.int a ta, .int b tb].toArray n ∧ 0 ≤ b ∧ b < 2147483647
theorem srcObj {S : Addr} {a b : Int} {ta tb : Tok} {n : Nat} (h0 : 0 ≤ b) (h1 : b < 2147483647) : SrcObj S (listOf [.int a ta, .int b tb].toArray n) := ⟨a, b, ta, tb, n, rfl, h0, h1⟩
inductive Pick (S : Addr) (o : Obj) : Led → Led → Prop
  | head {r : Led} : Pick S o ((S, o) :: r) r
  | tail {p : Addr × Obj} {r r' : Led} : Pick S o r r' → Pick S o (p :: r) (p :: r')
theorem Pick.mem {S : Addr} {o : Obj} : ∀ {l r : Led}, Pick S o l r → ∀ p ∈ (S, o) :: r, p ∈ l
  | _, _, .head, _, h => h
  | _, _, .tail k, p, h => by
    rcases List.mem_cons.mp h with rfl | h
    · exact .tail _ (k.mem _ (.head _))
    · rcases List.mem_cons.mp h with rfl | h
      · exact .head _
      · exact .tail _ (k.mem _ (.tail _ h))
theorem news_pick {h₀ h : Heap} {L S : Addr} {o : Obj} {led rest : Led} (N : News h₀ L h led) (k : Pick S o led rest) : News h₀ L h ((S, o) :: rest) := fun p hp => N p (k.mem p hp)
end Base
section Base2
section
variable {h₀ : Heap} {L : Addr} {m : Str → Option Value} {s : Shared} {Q : Value → Shared → Prop} {news tl big : Led} {h' : Heap} {tk' : Nat} {r : Value} {Post : Value → Led → Prop}
end
inductive PtIn (i : Led) (v : Value) (p q : Rat) : Prop
  | mk (a d1 d2 : Addr) (t1 t2 t3 t4 : Tok) (k k1 k2 : Nat) (h0 : v = .ref a) (h1 : (a, tup [.ref d1, .ref d2] k) ∈ i) (h2 : (d1, tup [.int p.num t1, .int p.den t2] k1) ∈ i) (h3 : (d2, tup [.int q.num t3, .int q.den t4] k2) ∈ i) : PtIn i v p q
theorem PtIn.mono {i j : Led} {v : Value} {p q : Rat} (h : PtIn i v p q) (hs : ∀ p ∈ i, p ∈ j) : PtIn j v p q := let ⟨a, d1, d2, t1, t2, t3, t4, k, k1, k2, e, m1, m2, m3⟩ := h; ⟨a, d1, d2, t1, t2, t3, t4, k, k1, k2, e, hs _ m1, hs _ m2, hs _ m3⟩
def dR (q : Rat) : Dat := .tuple [.int q.num, .int (q.den : Int)]
def dP (p q : Rat) : Dat := .tuple [dR p, dR q]
theorem RatIn.dat {i : Led} {v : Value} {q : Rat} (h : RatIn i v q) : DatIn i v (dR q) := by
  obtain ⟨a, t1, t2, k, rfl, m⟩ := h
  exact .tuple m (.cons (.int _ _) (.cons (.int _ _) .nil))
theorem PtIn.dat {i : Led} {v : Value} {p q : Rat} (h : PtIn i v p q) : DatIn i v (dP p q) := by
  obtain ⟨a, d1, d2, t1, t2, t3, t4, k, k1, k2, rfl, m1, m2, m3⟩ := h
  exact .tuple m1 (.cons (RatIn.dat ⟨_, _, _, _, rfl, m2⟩) (.cons (RatIn.dat ⟨_, _, _, _, rfl, m3⟩) .nil))
theorem ptIn {i : Led} {a d1 d2 : Addr} {t1 t2 t3 t4 : Tok} {k k1 k2 : Nat} {p q : Rat} (m1 : (a, tup [.ref d1, .ref d2] k) ∈ i) (m2 : (d1, tup [.int p.num t1, .int p.den t2] k1) ∈ i) (m3 : (d2, tup [.int q.num t3, .int q.den t4] k2) ∈ i) : PtIn i (.ref a) p q := ⟨a, d1, d2, t1, t2, t3, t4, k, k1, k2, rfl, m1, m2, m3⟩
theorem ratIn {i : Led} {a : Addr} {t1 t2 : Tok} {k : Nat} {p : Rat} (m1 : (a, tup [.int p.num t1, .int p.den t2] k) ∈ i) : RatIn i (.ref a) p := ⟨a, t1, t2, k, rfl, m1⟩
section
variable {w : World} {f : Addr} {D U : Nat} {vs : List Value} {news : Led} {mean : ExcName → Option Value} {mg mb : Str → Option Value} {dp un : Nat} {gd : Option (List Code)} {cn : Str} {cs : Scope} {a : Addr} {ccd : Value} {cl : List (Str × Addr)} {outer : List Env} {A₀ : Around} {base h₀ : Heap} {L : Addr} {m : Str → Option Value} {s : Shared} {Q E : Value → Shared → Prop}
end
end Base2
section Base3
structure BaseOK (w : World) (mean : ExcName → Option Value) (mg mb : Str → Option Value) (base : Heap) : Prop where
  heap : (hd.heap_39 w.params).In base
  top : Top topProg vG mean mg mb base
  code1 : CodeHd base 438 436
  code2 : CodeHd base 464 460
def Loose (base : Heap) (envs : List Env) (h : Heap) (p : Addr × Obj) : Prop := h.get? p.1 = some p.2 ∧ (∀ env ∈ envs, env.frame ≠ some p.1) ∧ base.get? p.1 = none
def LooseG (base : Heap) (envs : List Env) (g : Heap) (sub need : Led) : Prop := ∀ p ∈ need, (g.get? p.1 = some p.2 ∨ p ∈ sub) ∧ (∀ env ∈ envs, env.frame ≠ some p.1) ∧ base.get? p.1 = none
def GM (w : World) (f : Addr) (D U : Nat) (vs : List Value) (mt need : Led) (Post : Value → Led → Led → Prop) : Prop :=
  ∀ (mean : ExcName → Option Value) (mg mb : Str → Option Value) (dp un : Nat) (gd : Option (List Code)) (cn : Str) (cs : Scope) (a : Addr) (ccd : Value) (cl : List (Str × Addr)) (outer : List Env) (A₀ : Around) (base h₀ : Heap) (L : Addr) (m : Str → Option Value) (s : Shared) (Q E : Value → Shared → Prop),
    Below A₀ base outer h₀ → Fr h₀ L s.heap m → BaseOK w mean mg mb base → (∀ p ∈ mt ++ need, Loose base (envX cn cs L a ccd cl :: outer) s.heap p) → cs.kind = .function → dp + D < recursionLimit → un + U < cLine →
    (∀ (r : Value) (mt' tl : Led) (h' : Heap) (tk' : Nat), mt'.map (·.1) = mt.map (·.1) → (∀ p ∈ mt', h'.get? p.1 = some p.2) → (∀ b o, b ∉ mt.map (·.1) → s.heap.get? b = some o → h'.get? b = some o) → (∀ p ∈ tl, h'.get? p.1 = some p.2 ∧ s.heap.get? p.1 = none) → Post r mt' tl → Q r { s with heap := h', toks := tk' }) →
    wpAny (model PySem.Challenge.rw_on0243_01.row.prog w) (ktrTop dp un gd cn cs L a ccd cl outer) (call (.ref f) vs) Q E s
def GS (w : World) (f : Addr) (D U : Nat) (vs : List Value) (need : Led) (Post : Value → Led → Prop) : Prop := GM w f D U vs [] need fun r _ tl => Post r tl
theorem GM.mono {w : World} {f : Addr} {D U : Nat} {vs : List Value} {mt need need' : Led} {Post Post' : Value → Led → Led → Prop} (h : GM w f D U vs mt need Post) (hs : ∀ p ∈ need, p ∈ need') (hP : ∀ r mt' tl, Post r mt' tl → Post' r mt' tl) : GM w f D U vs mt need' Post' :=
  fun _ _ _ _ _ _ _ _ _ _ _ _ _ _ _ _ _ _ _ _ B F BO Lo hk hd hu hret => h _ _ _ _ _ _ _ _ _ _ _ _ _ _ _ _ _ _ _ _ B F BO (fun p hp => Lo p (by
    rcases List.mem_append.mp hp with hp | hp
    · exact List.mem_append_left _ hp
    · exact List.mem_append_right _ (hs p hp))) hk hd hu fun r mt' tl h' tk' e1 e2 e3 e4 e5 => hret r mt' tl h' tk' e1 e2 e3 e4 (hP r mt' tl e5)
theorem GS.mono {w : World} {f : Addr} {D U : Nat} {vs : List Value} {need need' : Led} {Post Post' : Value → Led → Prop} (h : GS w f D U vs need Post) (hs : ∀ p ∈ need, p ∈ need') (hP : ∀ r tl, Post r tl → Post' r tl) : GS w f D U vs need' Post' := GM.mono h hs fun r _ tl => hP r tl
theorem two_of {α β : Type} {S P : α} {l : List (α × β)} (h : l.map (fun p => p.1) = [S, P]) : ∃ o' oP', l = [(S, o'), (P, oP')] := by
  cases l with
  | nil => cases h
  | cons x l =>
    cases l with
    | nil => cases h
    | cons y l =>
      cases l with
      | cons z l => cases h
      | nil => cases x; cases y; cases h; exact ⟨_, _, rfl⟩
theorem mem_map_fst {l : Led} {b : Addr} (h : b ∈ l.map (·.1)) : ∃ p ∈ l, p.1 = b := by
  obtain ⟨p, hp, e⟩ := List.mem_map.mp h
  exact ⟨p, hp, e⟩
section
variable {w : World} {A A₀ : Around} {base h₀ h g : Heap} {outer : List Env} {L : Addr} {m : Str → Option Value} {env : Env} {sub need led : Led} {mean : ExcName → Option Value} {mg mb : Str → Option Value}
theorem ground_loose (B : Below A₀ base outer h₀) (F : Fr h₀ L h m) (hA : A.frames = some (env :: outer)) (hf : env.frame = some L) (hke : env.scope.kind = .function) (Lo : ∀ p ∈ sub, Loose base (env :: outer) h p) :
    Below A base (env :: outer) (hideAll h (sub.map (·.1))) ∧ base.StaysIn (hideAll h (sub.map (·.1))) := by
  have B₁ := pushX B F hf hke
  have st : base.StaysIn (hideAll h (sub.map (·.1))) := fun b o e => hideAll_get _ (B₁.stays b o e) fun q => by
    obtain ⟨p, hp, rfl⟩ := mem_map_fst q
    rw [(Lo p hp).2.2] at e; cases e
  refine ⟨⟨hA, st, funFrames_hideAll B₁.frames fun env' he b hb hf' => ?_⟩, st⟩
  obtain ⟨p, hp, rfl⟩ := mem_map_fst hb
  exact (Lo p hp).2.1 env' he hf'
theorem loose_led (B : Below A base outer g) (F : Fr g L h m) (N : News g L h led) (hf : env.frame = some L) : ∀ p ∈ led, Loose base (env :: outer) h p := fun p hp => by
  obtain ⟨h1, h2, h3⟩ := N p hp
  refine ⟨h1, fun env' he hf' => ?_, ?_⟩
  · rcases List.mem_cons.mp he with rfl | he
    · exact h2 (Option.some.inj (hf.symm.trans hf')).symm
    · obtain ⟨L₁, o₁, hf₁, ho₁⟩ := funFrames_in B.frames env' he
      rw [hf₁] at hf'
      rw [Option.some.inj hf', h3] at ho₁; cases ho₁
  · cases q : base.get? p.1 with
    | none => rfl
    | some o => rw [B.stays _ _ q] at h3; cases h3
end
theorem gm_def {w : World} {f : Addr} {D U : Nat} {vs : List Value} {mt sub need : Led} {Post : Value → Led → Led → Prop}
    {name qual : Str} {params : Arguments} {body : List Stmt} {scope : Scope} {dV kV doc pm cdv ct oc : Value} {an od : Option Addr} {osl : Array (Option Value)} {binds : List (Str × Value)}
    (hs : ∀ p ∈ sub, p ∈ need) (hdis : ∀ p ∈ mt, ∀ q ∈ need, p.1 ≠ q.1) (ho : (hd.heap_39 w.params).lookup f = some ⟨oc, od, .func (fnOf name qual params body scope dV kV doc pm an cdv ct), osl⟩) (hcd : codeIn (hd.heap_39 w.params) cdv qual = true)
    (hbind : ∀ s : Shared, (hd.heap_39 w.params).In s.heap → BindsTo s (fnOf name qual params body scope dV kV doc pm an cdv ct) ⟨vs, []⟩ binds) (hloc : ∀ y ∈ binds, scope.names.lookup y.1 = some .local)
    (h : ∀ (mean : ExcName → Option Value) (mg mb : Str → Option Value) (dp un : Nat) (gd : Option (List Code)) (cn : Str) (cs : Scope) (L a : Addr) (ccd : Value) (cl : List (Str × Addr)) (outer : List Env) (base g : Heap) (L' : Addr) (h₁ : Heap) (s : Shared) (Q E : Value → Shared → Prop),
      cs.kind = .function → dp + D < recursionLimit → un + U < cLine → BaseOK w mean mg mb base → LooseG base (envOf qual scope L' f cdv :: envX cn cs L a ccd cl :: outer) g sub need →
      (∀ (r : Value) (mt' tl big : Led) (h' : Heap) (tk' : Nat) (m' : Str → Option Value), Fr g L' h' m' → News g L' h' big → mt'.map (·.1) = mt.map (·.1) → (∀ p ∈ mt', p ∈ big) → (∀ p ∈ sub, p ∈ big) → (∀ p ∈ tl, p ∈ big) → (∀ p ∈ tl, LCg.Off1 p.1 (mt ++ sub)) → Post r mt' tl → Q r { s with heap := h', toks := tk' }) →
      Fr g L' h₁ (fun y => binds.reverse.lookup y) → News g L' h₁ (mt ++ sub) → Below (ktrTop dp un gd cn cs L a ccd cl outer) base (envX cn cs L a ccd cl :: outer) g → (hd.heap_39 w.params).In g → Top topProg vG mean mg mb g → (∀ p ∈ mt ++ sub, p.1 < L') →
      wpAny (model PySem.Challenge.rw_on0243_01.row.prog w) ((ktrTop dp un gd cn cs L a ccd cl outer).deeper (envOf qual scope L' f cdv)) (execs body (envOf qual scope L' f cdv))
        (fun fl s' => Q (match fl with | .ret v => v | _ => .none) s')
        (fun e s' => wpAny (model PySem.Challenge.rw_on0243_01.row.prog w) ((ktrTop dp un gd cn cs L a ccd cl outer).deeper (envOf qual scope L' f cdv)) (leaving (envOf qual scope L' f cdv) e) (fun _ s'' => E e s'') (fun e' s'' => E e' s'') s')
        { s with heap := h₁, toks := s.toks + binds.length })
    (hco : scope.isCoroutine = false) (hgen : scope.isGenerator = false) (hk : scope.kind = .function)
    (hcell : ∀ x ∈ scope.names, x.2 ≠ .cell) (hD : 0 < D) : GM w f D U vs mt need Post := by
  intro mean mg mb dp un gd cn cs a ccd cl outer A₀ base h₀ L m s Q E B F BO Lo hkc hdp hun hret
  refine wpAny_call ?_
  have Ls : ∀ p ∈ mt ++ sub, Loose base (envX cn cs L a ccd cl :: outer) s.heap p := fun p hp => Lo p (by
    rcases List.mem_append.mp hp with hp | hp
    · exact List.mem_append_left _ hp
    · exact List.mem_append_right _ (hs p hp))
  obtain ⟨BG, st⟩ := ground_loose (A := ktrTop dp un gd cn cs L a ccd cl outer) B F rfl rfl hkc Ls
  have XG := BO.1.keeps st
  have Xs : (hd.heap_39 w.params).In s.heap := BO.1.keeps fun b o e => F.keep _ _ (B.stays b o e)
  refine codeAny_call_def (fd := fnOf name qual params body scope dV kV doc pm an cdv ct) (body := body) (binds := binds) (by show dp < _; omega) (Xs _ _ ho) rfl (BO.2.nolimit.keeps fun b o e => F.keep _ _ (B.stays b o e)) (codeRec_of Xs hcd) rfl (hbind _ Xs) hcell hloc (fun h₁ hns hk₁ => ?_) hco hgen hk
  have FG : Fr (hideAll s.heap ((mt ++ sub).map (·.1))) s.heap.objs.size h₁ (fun y => binds.reverse.lookup y) := ⟨hns, fun b o e => hk₁ b o (of_hideAll _ e), Nat.le_of_eq (hideAll_size _ _)⟩
  refine h mean mg mb dp un gd cn cs L a ccd cl outer base _ s.heap.objs.size h₁ s Q E hkc hdp hun BO (fun p hp => ?_) ?_ FG (fun p hp => ⟨hk₁ _ _ (Ls p hp).1, Nat.ne_of_lt (Heap.lt_size (Ls p hp).1), hideAll_none _ (List.mem_map_of_mem hp)⟩) BG XG (BO.2.keeps st) (fun p hp => Heap.lt_size (Ls p hp).1)
  · have q := Lo p (List.mem_append_right _ hp)
    refine ⟨?_, fun env' he hf' => ?_, q.2.2⟩
    · by_cases hb : p.1 ∈ (mt ++ sub).map (·.1)
      · obtain ⟨q', hq', e⟩ := mem_map_fst hb
        rcases List.mem_append.mp hq' with hq' | hq'
        · exact absurd e (hdis _ hq' _ hp)
        · have e1 := (Ls q' (List.mem_append_right _ hq')).1
          rw [e, q.1] at e1
          exact .inr ((show p = q' from Prod.ext e.symm (Option.some.inj e1)) ▸ hq')
      · exact .inl (hideAll_get _ q.1 hb)
    · rcases List.mem_cons.mp he with rfl | he
      · exact Nat.ne_of_lt (Heap.lt_size q.1) (Option.some.inj hf').symm
      · exact q.2.1 env' he hf'
  · intro r mt' tl big h' tk' m' F' N' e1 e2 e3 e4 e5 e6
    refine hret r mt' tl h' tk' e1 (fun p hp => (N' p (e2 p hp)).1) (fun b o hb e => ?_) (fun p hp => ⟨(N' p (e4 p hp)).1, ?_⟩) e6
    · by_cases hq : b ∈ (mt ++ sub).map (·.1)
      · obtain ⟨p, hp, rfl⟩ := mem_map_fst hq
        rcases List.mem_append.mp hp with hp | hp
        · exact absurd (List.mem_map_of_mem hp) hb
        · have e' := (Ls p (List.mem_append_right _ hp)).1
          rw [e'] at e; cases e
          exact (N' p (e3 p hp)).1
      · exact F'.keep _ _ (hideAll_get _ e hq)
    · have hn := (N' p (e4 p hp)).2.2
      cases q : s.heap.get? p.1 with
      | none => rfl
      | some o =>
        by_cases hq : p.1 ∈ (mt ++ sub).map (·.1)
        · obtain ⟨p', hp', e'⟩ := mem_map_fst hq
          exact absurd e' (off1_mem (e5 p hp) p' hp')
        · rw [hideAll_get _ q hq] at hn; cases hn
theorem gm_defC {w : World} {f : Addr} {D U : Nat} {vs : List Value} {mt sub need : Led} {Post : Value → Led → Led → Prop}
    {name qual : Str} {params : Arguments} {body : List Stmt} {scope : Scope} {dV kV doc pm cdv ct oc : Value} {an od : Option Addr} {osl : Array (Option Value)} {binds : List (Str × Value)}
    (hs : ∀ p ∈ sub, p ∈ need) (hdis : ∀ p ∈ mt, ∀ q ∈ need, p.1 ≠ q.1) (ho : (hd.heap_39 w.params).lookup f = some ⟨oc, od, .func (fnOf name qual params body scope dV kV doc pm an cdv ct), osl⟩) (hcd : codeIn (hd.heap_39 w.params) cdv qual = true)
    (hbind : ∀ s : Shared, (hd.heap_39 w.params).In s.heap → BindsTo s (fnOf name qual params body scope dV kV doc pm an cdv ct) ⟨vs, []⟩ binds) (hkind : (binds.all fun y => scope.names.lookup y.1 == some .local || scope.names.lookup y.1 == some .cell) = true) (hnd : ((cellsFrom 0 scope.names []).map (·.1)).Nodup)
    (h : ∀ (mean : ExcName → Option Value) (mg mb : Str → Option Value) (dp un : Nat) (gd : Option (List Code)) (cn : Str) (cs : Scope) (L a : Addr) (ccd : Value) (cl : List (Str × Addr)) (outer : List Env) (base g : Heap) (L' : Addr) (h₁ : Heap) (tk : Nat) (cells : Led) (s : Shared) (Q E : Value → Shared → Prop),
      cs.kind = .function → dp + D < recursionLimit → un + U < cLine → BaseOK w mean mg mb base → LooseG base (envOfC qual scope L' f cdv :: envX cn cs L a ccd cl :: outer) g sub need →
      (∀ (r : Value) (mt' tl big : Led) (h' : Heap) (tk' : Nat) (m' : Str → Option Value), Fr g L' h' m' → News g L' h' big → mt'.map (·.1) = mt.map (·.1) → (∀ p ∈ mt', p ∈ big) → (∀ p ∈ sub, p ∈ big) → (∀ p ∈ tl, p ∈ big) → (∀ p ∈ tl, LCg.Off1 p.1 (mt ++ sub)) → Post r mt' tl → Q r { s with heap := h', toks := tk' }) →
      Fr g L' h₁ (bindL (envOfC qual scope L' f cdv).kindOf binds fun _ => none) → News g L' h₁ (cells ++ (mt ++ sub)) → CellsAre (bindC (envOfC qual scope L' f cdv).kindOf binds fun _ => none) (cellsFrom (L' + 1) scope.names []) cells → Below (ktrTop dp un gd cn cs L a ccd cl outer) base (envX cn cs L a ccd cl :: outer) g → (hd.heap_39 w.params).In g → Top topProg vG mean mg mb g → (∀ p ∈ mt ++ sub, p.1 < L') →
      wpAny (model PySem.Challenge.rw_on0243_01.row.prog w) ((ktrTop dp un gd cn cs L a ccd cl outer).deeper (envOfC qual scope L' f cdv)) (execs body (envOfC qual scope L' f cdv))
        (fun fl s' => Q (match fl with | .ret v => v | _ => .none) s')
        (fun e s' => wpAny (model PySem.Challenge.rw_on0243_01.row.prog w) ((ktrTop dp un gd cn cs L a ccd cl outer).deeper (envOfC qual scope L' f cdv)) (leaving (envOfC qual scope L' f cdv) e) (fun _ s'' => E e s'') (fun e' s'' => E e' s'') s')
        { s with heap := h₁, toks := tk })
    (hco : scope.isCoroutine = false) (hgen : scope.isGenerator = false) (hk : scope.kind = .function) (hD : 0 < D) : GM w f D U vs mt need Post := by
  intro mean mg mb dp un gd cn cs a ccd cl outer A₀ base h₀ L m s Q E B F BO Lo hkc hdp hun hret
  refine wpAny_call ?_
  have Ls : ∀ p ∈ mt ++ sub, Loose base (envX cn cs L a ccd cl :: outer) s.heap p := fun p hp => Lo p (by
    rcases List.mem_append.mp hp with hp | hp
    · exact List.mem_append_left _ hp
    · exact List.mem_append_right _ (hs p hp))
  obtain ⟨BG, st⟩ := ground_loose (A := ktrTop dp un gd cn cs L a ccd cl outer) B F rfl rfl hkc Ls
  have XG := BO.1.keeps st
  have Xs : (hd.heap_39 w.params).In s.heap := BO.1.keeps fun b o e => F.keep _ _ (B.stays b o e)
  have hlim : s.heap.NoLimit := BO.2.nolimit.keeps fun b o e => F.keep _ _ (B.stays b o e)
  refine codeAny_call_function (fd := fnOf name qual params body scope dV kV doc pm an cdv ct) (by show dp < _; omega) (Xs _ _ ho) rfl hco hgen rfl (codeRec_of Xs hcd) (hbind _ Xs _ _ _ _ ?_)
  refine wpAny_newFunctionEnv_cells hk (kindsX hkind _) fun env' he s' x => ?_
  subst he
  refine ⟨hlim.keeps x.toInCall.keep, codeAny_func ?_⟩
  obtain ⟨h₁, tk, rfl, _⟩ := x.done
  have hk₁ := x.toInCall.keep
  obtain ⟨cells, NC, Y⟩ := Cl.news (h₀ := s.heap) (Nat.le_refl _) fun n c hm => ⟨x.cell n c (lookup_of_mem_nodup (cellsFrom_names scope.names 0 (s.heap.objs.size + 1) [] [] rfl ▸ hnd) hm), x.above n c hm⟩
  have FG : Fr (hideAll s.heap ((mt ++ sub).map (·.1))) s.heap.objs.size h₁ (bindL (envOfC qual scope s.heap.objs.size f cdv).kindOf binds fun _ => none) := ⟨x.toInCall.ns, fun b o e => hk₁ b o (of_hideAll _ e), Nat.le_of_eq (hideAll_size _ _)⟩
  refine h mean mg mb dp un gd cn cs L a ccd cl outer base _ s.heap.objs.size h₁ tk cells s Q E hkc hdp hun BO (fun p hp => ?_) ?_ FG (fun p hp => ?_) Y BG XG (BO.2.keeps st) (fun p hp => Heap.lt_size (Ls p hp).1)
  · have q := Lo p (List.mem_append_right _ hp)
    refine ⟨?_, fun env' he hf' => ?_, q.2.2⟩
    · by_cases hb : p.1 ∈ (mt ++ sub).map (·.1)
      · obtain ⟨q', hq', e⟩ := mem_map_fst hb
        rcases List.mem_append.mp hq' with hq' | hq'
        · exact absurd e (hdis _ hq' _ hp)
        · have e1 := (Ls q' (List.mem_append_right _ hq')).1
          rw [e, q.1] at e1
          exact .inr ((show p = q' from Prod.ext e.symm (Option.some.inj e1)) ▸ hq')
      · exact .inl (hideAll_get _ q.1 hb)
    · rcases List.mem_cons.mp he with rfl | he
      · exact Nat.ne_of_lt (Heap.lt_size q.1) (Option.some.inj hf').symm
      · exact q.2.1 env' he hf'
  · intro r mt' tl big h' tk' m' F' N' e1 e2 e3 e4 e5 e6
    refine hret r mt' tl h' tk' e1 (fun p hp => (N' p (e2 p hp)).1) (fun b o hb e => ?_) (fun p hp => ⟨(N' p (e4 p hp)).1, ?_⟩) e6
    · by_cases hq : b ∈ (mt ++ sub).map (·.1)
      · obtain ⟨p, hp, rfl⟩ := mem_map_fst hq
        rcases List.mem_append.mp hp with hp | hp
        · exact absurd (List.mem_map_of_mem hp) hb
        · have e' := (Ls p (List.mem_append_right _ hp)).1
          rw [e'] at e; cases e
          exact (N' p (e3 p hp)).1
      · exact F'.keep _ _ (hideAll_get _ e hq)
    · have hn := (N' p (e4 p hp)).2.2
      cases q : s.heap.get? p.1 with
      | none => rfl
      | some o =>
        by_cases hq : p.1 ∈ (mt ++ sub).map (·.1)
        · obtain ⟨p', hp', e'⟩ := mem_map_fst hq
          exact absurd e' (off1_mem (e5 p hp) p' hp')
        · rw [hideAll_get _ q hq] at hn; cases hn
  · rcases List.mem_append.mp hp with hp | hp
    · refine ⟨(NC p hp).1, (NC p hp).2.1, ?_⟩
      cases q : (hideAll s.heap ((mt ++ sub).map (·.1))).get? p.1 with
      | none => rfl
      | some o => have := of_hideAll _ q; rw [(NC p hp).2.2] at this; cases this
    · exact ⟨hk₁ _ _ (Ls p hp).1, Nat.ne_of_lt (Heap.lt_size (Ls p hp).1), hideAll_none _ (List.mem_map_of_mem hp)⟩
section
variable {w : World} {f : Addr} {D U : Nat} {vs : List Value} {mt need led : Led} {mean : ExcName → Option Value} {mg mb : Str → Option Value} {dp un : Nat} {gd : Option (List Code)} {cn : Str} {cs : Scope} {a : Addr} {ccd : Value} {cl : List (Str × Addr)} {outer : List Env} {A₀ : Around} {base h₀ : Heap} {L : Addr} {m : Str → Option Value} {s : Shared} {Q E : Value → Shared → Prop}
theorem gs_use {Post : Value → Led → Prop} (S : GS w f D U vs need Post) (B : Below A₀ base outer h₀) (F : Fr h₀ L s.heap m) (BO : BaseOK w mean mg mb base) (N : News h₀ L s.heap led) (Lo : ∀ p ∈ need, Loose base (envX cn cs L a ccd cl :: outer) s.heap p) (hk : cs.kind = .function) (hd : dp + D < recursionLimit) (hu : un + U < cLine)
    (h : ∀ (r : Value) (tl : Led) (h' : Heap) (tk' : Nat), Fr h₀ L h' m → News h₀ L h' (led ++ tl) → (∀ p ∈ tl, LCg.Off1 p.1 led) → Post r tl → Q r { s with heap := h', toks := tk' }) :
    wpAny (model PySem.Challenge.rw_on0243_01.row.prog w) (ktrTop dp un gd cn cs L a ccd cl outer) (call (.ref f) vs) Q E s := by
  refine S _ _ _ _ _ _ _ _ _ _ _ _ _ _ _ _ _ _ _ _ B F BO Lo hk hd hu fun r mt' tl h' tk' e1 e2 e3 e4 e5 => ?_
  have kp : ∀ b o, s.heap.get? b = some o → h'.get? b = some o := fun b o e => e3 b o (fun q => nomatch q) e
  have hL := F.ns
  refine h r tl h' tk' ⟨F.ns.keeps kp, fun b o e => kp b o (F.keep b o e), F.above⟩ (fun p hp => ?_) (fun p hp => off1_of fun q hq e => ?_) e5
  · rcases List.mem_append.mp hp with hp | hp
    · exact ⟨kp _ _ (N p hp).1, (N p hp).2⟩
    · refine ⟨(e4 p hp).1, fun q => ?_, ?_⟩
      · obtain ⟨oL, _, _, e, _⟩ := hL
        have := (e4 p hp).2
        rw [q, e] at this; cases this
      · cases q : h₀.get? p.1 with
        | none => rfl
        | some o =>
          have := (e4 p hp).2
          rw [F.keep _ _ q] at this; cases this
  · have := (e4 p hp).2
    rw [← e, (N q hq).1] at this; cases this
end
section
variable {g : Heap} {L' : Addr} {s : Shared} {sub tl big : Led} {Q : Value → Shared → Prop} {Post : Value → Led → Prop} {h' : Heap} {tk' : Nat} {m' : Str → Option Value} {r : Value}
end
theorem allC {P : Addr × Obj → Prop} {a : Addr × Obj} {l : Led} (h1 : P a) (h : ∀ p ∈ l, P p) : ∀ p ∈ a :: l, P p := List.forall_mem_cons.mpr ⟨h1, h⟩
theorem allN {P : Addr × Obj → Prop} : ∀ p ∈ ([] : Led), P p := fun _ h => absurd h List.not_mem_nil
def adv (as : List Int) (g : Int) : Int := as.getD g.toNat 0
def ker (v l r : Int) : Int := if l = 1 ∧ r = 2 then v else if l = 2 ∧ r = 2 then -7 else if l = 0 ∧ r = 1 then 12 else 0
def gly (c : Int) : Int := if c = 97 then 1 else if c = 98 then 2 else if c = 32 then 3 else 0
def ptD (x y : Int) : Dat := .tuple [.int x, .int y]
abbrev tpt (x y : Int) (tx ty : Tok) (k : Nat) : Obj := tup [.int x tx, .int y ty, .bool true] k
abbrev key (w : World) (name : String) (tk : Tok) (v : Value) : DictEntry := { hash := PyData.keyHash w.params (Str.ofString name), key := .str (Str.ofString name) tk, val := v }
inductive OutIn (w : World) (i : Led) (v : Value) (x0 y0 x1 y1 x2 y2 : Int) : Prop
  | mk (X D C K P0 P1 P2 : Addr) (n1 n2 n3 k0 k1 k2 : Nat) (u1 u2 a0 b0 a1 b1 a2 b2 : Tok) (e : Value) (h0 : v = .ref X) (h1 : (X, instObj 215 D) ∈ i) (h2 : (D, dictOf [key w "contours" u1 (.ref C), key w "instructions" u2 e] n1) ∈ i) (h3 : (C, listOf #[.ref K] n2) ∈ i) (h4 : (K, listOf #[.ref P0, .ref P1, .ref P2] n3) ∈ i) (h5 : (P0, tpt x0 y0 a0 b0 k0) ∈ i) (h6 : (P1, tpt x1 y1 a1 b1 k1) ∈ i) (h7 : (P2, tpt x2 y2 a2 b2 k2) ∈ i) : OutIn w i v x0 y0 x1 y1 x2 y2
theorem dat5 {i : Led} {v : Value} {d1 d2 d3 d4 d5 : Dat} (h : DatIn i v (.list [d1, d2, d3, d4, d5])) : ∃ (R : Addr) (v1 v2 v3 v4 v5 : Value) (n : Nat), v = .ref R ∧ (R, listOf #[v1, v2, v3, v4, v5] n) ∈ i ∧ DatAll i [v1, v2, v3, v4, v5] [d1, d2, d3, d4, d5] := by
  cases h with
  | list hm hd =>
    cases hd with
    | cons h1 hd => cases hd with
      | cons h2 hd => cases hd with
        | cons h3 hd => cases hd with
          | cons h4 hd => cases hd with
            | cons h5 hd =>
              cases hd
              exact ⟨_, _, _, _, _, _, _, rfl, hm, .cons h1 (.cons h2 (.cons h3 (.cons h4 (.cons h5 .nil))))⟩
theorem slice_tupK {prog : Program} {w : World} {A : Around} {E : Value → Shared → Prop} {s : Shared} {h₀ : Heap} {L : Addr} {m : Str → Option Value} {news : Led} {value slice : PySem.Expr} {t : Addr} {vs : List Value} {k a : Nat} {u : Tok} {Q : Value → Shared → Prop}
    (F : Fr h₀ L s.heap m) (N : News h₀ L s.heap news) (ht : (t, tup vs k) ∈ news) (h1 : 1 ≤ a) (ha : a ≤ vs.toArray.size)
    (h : ∀ T h', Fr h₀ L h' m → News h₀ L h' ((T, tup (vs.drop a) 0) :: news) → (∀ p ∈ news, p.1 < T) → Q (.ref T) { s with heap := h' })
    (hs : ∀ T, subscripted slice false (.ref t) (.ref T) = operate [.ref T, .ref t] (getItem (.ref t) (.ref T)))
    (hg : ∀ r, letTemporaryGo value (.ref t) r = pure ()) (hsz : vs.toArray.size ≤ sizeLine) :
    wpAny (model prog w) A (subscriptTail value slice (.ref t) (.ref s.heap.objs.size)) Q E { s with heap := s.heap.push { cls := .type "slice", data := .fields #[.int a u, .none, .none] } } :=
  slice_tuple_from F N (N.isTup ht) h1 ha (fun h' F' N' => h _ _ F' N' fun p hp => Nat.lt_succ_of_lt (Heap.lt_size (N p hp).1)) (hs _) hg hsz
end Base3
section CompW
def IterOK (prog : Program) (w : World) (A : Around) (h₀ : Heap) (L : Addr) (xv : Value) (s₁ : Shared) (n : Nat) (P : Nat → Value → Prop) (S : Led → Prop) : Prop :=
  ∀ (E Q : Value → Shared → Prop), (∀ (o : Obj) (fp : List Addr) (St : Nat → Heap → Prop), Walks prog w A s₁.heap.objs.size fp [s₁.heap.objs.size] n P St → (∀ i h, St i h → ∃ o, h.get? s₁.heap.objs.size = some o) →
    (∀ i h h' o nw, St i h → h.get? s₁.heap.objs.size = some o → h'.get? s₁.heap.objs.size = some o → (∀ b o, h₀.get? b = some o → h'.get? b = some o) → News h₀ L h' nw → S nw → St i h') → St 0 (s₁.heap.push o) → (∀ b ∈ fp, b ≤ s₁.heap.objs.size) →
    Q (.ref s₁.heap.objs.size) { s₁ with heap := s₁.heap.push o }) → wpAny (model prog w) A (pyIter xv) Q E s₁
def CompSrcW (prog : Program) (w : World) (A : Around) (h₀ : Heap) (L : Addr) (m : Str → Option Value) (env : Env) (elt : PySem.Expr) (x : Str) (scope : Scope) (cl : List (Str × Addr)) (Fin : Shared → List Value → Led → Prop) (xv : Value) (s₁ : Shared) : Prop :=
  ∃ n P S news, Fr h₀ L s₁.heap m ∧ News h₀ L s₁.heap news ∧ n ≤ sizeLine ∧ IterOK prog w A h₀ L xv s₁ n P S ∧ S news ∧ ∀ s₂ : Shared, (∃ h, s₂ = { s₁ with heap := h }) → LCg.CompRest prog w A h₀ L m env elt x scope cl s₂ S P (Fin s₂) n 0 [] news
def TupAt (ax : Addr) (its : Array Value) (news : Led) : Prop := ∃ o, (ax, o) ∈ news ∧ o.cls = .type "tuple" ∧ ∃ n, o.data = .seq its n
section
variable {prog : Program} {w : World} {A : Around} {E : Value → Shared → Prop} {s s₁ : Shared} {h₀ : Heap} {L : Addr} {m : Str → Option Value} {env : Env} {elt : PySem.Expr} {x : Str} {scope : Scope} {cl : List (Str × Addr)} {Fin : Shared → List Value → Led → Prop} {news : Led}
theorem iter_list {ax : Addr} {its : Array Value} (hh : A.handled = none) (F : Fr h₀ L s₁.heap m) (N : News h₀ L s₁.heap news) (S : LCg.SrcAt h₀ ax its news) : IterOK prog w A h₀ L (.ref ax) s₁ its.size (fun i v => its[i]? = some v) (LCg.SrcAt h₀ ax its) := by
  intro E Q k
  have hl := S.list F.keep N
  have hlt : ax < s₁.heap.objs.size := by obtain ⟨_, e, _⟩ := hl; exact Heap.lt_size e
  refine wpAny_pyIter_list hl (k _ _ _ (Walks.list hh s₁.heap.objs.size ax (Nat.ne_of_lt hlt) its) (fun i h st => by obtain ⟨o, e, _⟩ := st.1; exact ⟨o, e⟩) LCg.list_st ⟨⟨_, Heap.get?_push_size _ rfl, rfl, rfl⟩, hl.push _⟩ fun b hb => ?_)
  rcases List.mem_cons.mp hb with rfl | hb
  · exact Nat.le_refl _
  · rw [List.mem_singleton.mp hb]; exact Nat.le_of_lt hlt
theorem iter_tuple {ax : Addr} {its : Array Value} (hh : A.handled = none) (N : News h₀ L s₁.heap news) (S : TupAt ax its news) : IterOK prog w A h₀ L (.ref ax) s₁ its.size (fun i v => its[i]? = some v) (TupAt ax its) := by
  intro E Q k
  have tup : ∀ {h : Heap} {nw : Led}, News h₀ L h nw → TupAt ax its nw → h.IsTuple ax its := fun N S => let ⟨o, hm, r⟩ := S; ⟨o, (N _ hm).1, r⟩
  have hl := tup N S
  have hlt : ax < s₁.heap.objs.size := by obtain ⟨_, e, _⟩ := hl; exact Heap.lt_size e
  refine wpAny_pyIter_tuple hl (k _ _ _ (Walks.tuple hh s₁.heap.objs.size ax (Nat.ne_of_lt hlt) its) (fun i h st => by obtain ⟨o, e, _⟩ := st.1; exact ⟨o, e⟩) (fun i h h' o nw st e e' _ N' S' => ⟨by obtain ⟨o', q, r⟩ := st.1; rw [e] at q; cases q; exact ⟨o, e', r⟩, tup N' S'⟩) ⟨⟨_, Heap.get?_push_size _ rfl, rfl, rfl⟩, hl.at fun o e => Heap.get?_push_of_some _ e⟩ fun b hb => ?_)
  rcases List.mem_cons.mp hb with rfl | hb
  · exact Nat.le_refl _
  · rw [List.mem_singleton.mp hb]; exact Nat.le_of_lt hlt
theorem iter_str {y : Str} {t : Tok} (hh : A.handled = none) : IterOK prog w A h₀ L (.str y t) s₁ y.cps.size (SignAt y) (fun _ => True) := by
  intro E Q k
  cases ha : y.cps.all (· < 128)
  · refine wpAny_pyIter_wide ha (k _ _ _ (Walks.strWide hh _ y t) (fun i h st => ⟨_, st.choose_spec.1⟩) (fun i h h' o nw st e e' _ _ _ => ?_) ⟨_, Heap.get?_push_size _ rfl, rfl, rfl⟩ fun b hb => ?_)
    · obtain ⟨o', q, r⟩ := st; rw [e] at q; cases q; exact ⟨o, e', r⟩
    · rw [List.mem_singleton.mp hb]; exact Nat.le_refl _
  · refine wpAny_pyIter_ascii ha (k _ _ _ (Walks.strAscii hh _ y t) (fun i h st => ⟨_, st.choose_spec.1⟩) (fun i h h' o nw st e e' _ _ _ => ?_) ⟨_, Heap.get?_push_size _ rfl, rfl, rfl⟩ fun b hb => ?_)
    · obtain ⟨o', q, r⟩ := st; rw [e] at q; cases q; exact ⟨o, e', r⟩
    · rw [List.mem_singleton.mp hb]; exact Nat.le_refl _
theorem iter_range {r : Addr} {a b : Int} {t u v : Tok} {n : Nat} (hh : A.handled = none) (hr : IsRange s₁.heap r a b 1 t u v) (hsm : Builtin.Range.small a b 1 = true) (hn : Builtin.Range.rangeSize a b 1 = ((n : Nat) : Int)) : IterOK prog w A h₀ L (.ref r) s₁ n (fun i v => ∃ t, v = .int (a + (i : Int)) t) (fun _ => True) := by
  intro E Q k
  refine wpAny_pyIter_range hr hsm (k _ _ _ (LCg.range_walks hh a n) (fun i h st => ⟨_, st⟩) LCg.range_st (by show IsRangeIter _ _ _ _ _; rw [hn]; simpa using Heap.get?_push_size _ rfl) fun b hb => ?_)
  rw [List.mem_singleton.mp hb]; exact Nat.le_refl _
theorem srcW_range {r : Addr} {a b : Int} {t u v : Tok} {n : Nat} (hh : A.handled = none) (F : Fr h₀ L s₁.heap m) (N : News h₀ L s₁.heap news) (hr : IsRange s₁.heap r a b 1 t u v) (hsm : Builtin.Range.small a b 1 = true) (hn : Builtin.Range.rangeSize a b 1 = ((n : Nat) : Int)) (hsz : n ≤ sizeLine)
    (h : ∀ g, LCg.CompRest prog w A h₀ L m env elt x scope cl { s₁ with heap := g } (fun _ => True) (fun i v => ∃ t, v = .int (a + (i : Int)) t) (Fin { s₁ with heap := g }) n 0 [] news) :
    CompSrcW prog w A h₀ L m env elt x scope cl Fin (.ref r) s₁ := ⟨_, _, _, news, F, N, hsz, iter_range hh hr hsm hn, trivial, fun _ ⟨g, e⟩ => e ▸ h g⟩
theorem srcW_list {ax : Addr} {its : Array Value} {k : Nat} (hh : A.handled = none) (F : Fr h₀ L s₁.heap m) (N : News h₀ L s₁.heap news) (hm : (ax, ({ cls := .type "list", data := .seq its k } : Obj)) ∈ news) (hsz : its.size ≤ sizeLine)
    (h : ∀ g, LCg.CompRest prog w A h₀ L m env elt x scope cl { s₁ with heap := g } (LCg.SrcAt h₀ ax its) (fun i v => its[i]? = some v) (Fin { s₁ with heap := g }) its.size 0 [] news) :
    CompSrcW prog w A h₀ L m env elt x scope cl Fin (.ref ax) s₁ := ⟨_, _, _, news, F, N, hsz, iter_list hh F N (.inr ⟨_, hm, rfl, _, rfl⟩), .inr ⟨_, hm, rfl, _, rfl⟩, fun _ ⟨g, e⟩ => e ▸ h g⟩
theorem srcW_tuple {ax : Addr} {its : Array Value} {k : Nat} (hh : A.handled = none) (F : Fr h₀ L s₁.heap m) (N : News h₀ L s₁.heap news) (hm : (ax, ({ cls := .type "tuple", data := .seq its k } : Obj)) ∈ news) (hsz : its.size ≤ sizeLine)
    (h : ∀ g, LCg.CompRest prog w A h₀ L m env elt x scope cl { s₁ with heap := g } (TupAt ax its) (fun i v => its[i]? = some v) (Fin { s₁ with heap := g }) its.size 0 [] news) :
    CompSrcW prog w A h₀ L m env elt x scope cl Fin (.ref ax) s₁ := ⟨_, _, _, news, F, N, hsz, iter_tuple hh N ⟨_, hm, rfl, _, rfl⟩, ⟨_, hm, rfl, _, rfl⟩, fun _ ⟨g, e⟩ => e ▸ h g⟩
theorem srcW_str {y : Str} {t : Tok} (hh : A.handled = none) (F : Fr h₀ L s₁.heap m) (N : News h₀ L s₁.heap news) (hsz : y.cps.size ≤ sizeLine)
    (h : ∀ g, LCg.CompRest prog w A h₀ L m env elt x scope cl { s₁ with heap := g } (fun _ => True) (SignAt y) (Fin { s₁ with heap := g }) y.cps.size 0 [] news) :
    CompSrcW prog w A h₀ L m env elt x scope cl Fin (.str y t) s₁ := ⟨_, _, _, news, F, N, hsz, iter_str hh, trivial, fun _ ⟨g, e⟩ => e ▸ h g⟩
theorem ListComp_W {iter : PySem.Expr} {px : Pos} {pos : Pos} {Q : Value → Shared → Prop} (_F₀ : Fr h₀ L s.heap m)
    (hclos : closureFor scope env = pure cl) (hcell : ∀ y ∈ scope.names, y.2 ≠ .cell) (hkind : scope.kind = .function)
    (hnames : ∀ y ∈ scope.names, y.2 = .local → scope.names.lookup y.1 = some .local) (hx : scope.names.lookup x = some .local)
    (h : wpAny (model prog w) A (eval iter env) (CompSrcW prog w A h₀ L m env elt x scope cl (fun s₂ => LCg.FinE h₀ L m s₂ Q)) E s)
    (hs : ∀ x, foldedSetIterable iter env x = pure x := by intro _; rfl) :
    wpAny (model prog w) A (eval (.ListComp elt [⟨.Name x px, iter, [], 0⟩] scope pos) env) Q E s := by
  rw [eval_ListComp]
  refine wpAny_comprehension_free (use := none) rfl hs hclos hkind hnames (wpAny_mono h (fun xv s₁ h₁ => ?_) fun _ _ e => e)
  obtain ⟨n, P, S, news, F, N, hsz, it, hS, R⟩ := h₁
  refine it _ _ fun o fp St W hIo hSt h0 hfp => ?_
  have up : ∀ b ob, s₁.heap.get? b = some ob → (s₁.heap.push o).get? b = some ob := fun b ob e => Heap.get?_push_of_some _ e
  refine LCg.block_U W hsz hIo hSt hcell hkind hx h0 (fun b hb => ?_) (F.keeps up) (N.grown up) (Nat.ne_of_lt F.ns.lt) (next_is_new F) (fun p hp => Nat.ne_of_lt (Heap.lt_size (N p hp).1)) hS (R _ ⟨_, rfl⟩) ?_
  · show b < (s₁.heap.push _).objs.size
    rw [Heap.size_push]
    exact Nat.lt_succ_of_le (hfp b hb)
  · intro D C h tk m' ys news' F' N' o1 hn hC₀ hD₀ hCL hDL hCD offC fin
    refine ⟨m', hn, fun h'' hs'' => fin D h'' tk (F'.change hs'' hCL hC₀) (fun p hp => ?_) o1⟩
    refine ⟨hs''.extBut _ _ ?_ (N' p hp).1, (N' p hp).2⟩
    rcases List.mem_cons.mp hp with rfl | hp
    · exact Ne.symm hCD
    · exact offC p hp
theorem Assign_ListComp_W {iter : PySem.Expr} {y : Str} {px py : Pos} {pos spos : Pos} {Q : Flow → Shared → Prop} (_F₀ : Fr h₀ L s.heap m) (hLe : env.locals = L)
    (hsw : swapsWith (.ListComp elt [⟨.Name x px, iter, [], 0⟩] scope pos) (some (.Name y py)) spos.line env = pure true)
    (hclos : closureFor scope env = pure cl) (hcell : ∀ z ∈ scope.names, z.2 ≠ .cell) (hkind : scope.kind = .function)
    (hnames : ∀ z ∈ scope.names, z.2 = .local → scope.names.lookup z.1 = some .local) (hx : scope.names.lookup x = some .local)
    (hy : env.kindOf y = some .local) (hp : (env.scope.kind == .class || (env.scope.kind == .module && env.locals != env.globals)) = false)
    (h : wpAny (model prog w) A (eval iter env) (CompSrcW prog w A h₀ L m env elt x scope cl (fun s₂ => LCg.FinA h₀ L m s₂ y Q)) E s)
    (hs : ∀ x, foldedSetIterable iter env x = pure x := by intro _; rfl) :
    wpAny (model prog w) A (exec (.Assign [.Name y py] (.ListComp elt [⟨.Name x px, iter, [], 0⟩] scope pos) spos) env) Q E s := by
  subst hLe
  rw [exec_Assign_Name_used _ _ _ _ hsw]
  refine wpAny_bind (wpAny_standAt (wpAny_bind ?_))
  show wpAny _ A (do let _ ← comprehension (.ListComp elt [⟨.Name x px, iter, [], 0⟩] scope pos) scope env _ (newList []) false (eval iter env) (some (assign (.Name y py) env))) _ _ s
  refine wpAny_bind (wpAny_mono (wpAny_comprehension_free (use := some (assign (.Name y py) env)) (Q := fun _ s' => Q .next s') rfl hs hclos hkind hnames
    (wpAny_mono h (fun xv s₁ h₁ => ?_) fun _ _ e => e)) (fun _ s' hq => wpAny_pure (wpAny_pure hq)) fun _ _ e => e)
  obtain ⟨n, P, S, news, F, N, hsz, it, hS, R⟩ := h₁
  refine it _ _ fun o fp St W hIo hSt h0 hfp => ?_
  have up : ∀ b ob, s₁.heap.get? b = some ob → (s₁.heap.push o).get? b = some ob := fun b ob e => Heap.get?_push_of_some _ e
  refine LCg.block_U W hsz hIo hSt hcell hkind hx h0 (fun b hb => ?_) (F.keeps up) (N.grown up) (Nat.ne_of_lt F.ns.lt) (next_is_new F) (fun p hp => Nat.ne_of_lt (Heap.lt_size (N p hp).1)) hS (R _ ⟨_, rfl⟩) ?_
  · show b < (s₁.heap.push _).objs.size
    rw [Heap.size_push]
    exact Nat.lt_succ_of_le (hfp b hb)
  · intro D C h' tk m' ys news' F' N' o1 hn hC₀ hD₀ hCL hDL hCD offC fin
    show wpAny _ A (assign (.Name y py) env (.ref D)) _ _ _
    refine wpAny_assign_Name (wpAny_storeName_local hy F'.ns (fun h₂ hn₂ hs₂ => ?_) hp)
    have hL₀ : h₀.get? env.locals = none := Heap.get?_none_of_le F'.above
    have F₂ : Fr h₀ env.locals h₂ (fun z => if z = y then some (.ref D) else m z) := ⟨hn₂, fun b o e => hs₂.extBut b o (fun q => by rw [q, hL₀] at e; cases e) (F'.keep b o e), F'.above⟩
    refine ⟨m', hn.sameBut hs₂ hCL, fun h'' hs'' => fin D h'' _ (F₂.change hs'' hCL hC₀) (fun p hp => ?_) o1⟩
    have z : h₂.get? p.1 = some p.2 := hs₂.extBut _ _ (N' p hp).2.1 (N' p hp).1
    refine ⟨hs''.extBut _ _ ?_ z, (N' p hp).2⟩
    rcases List.mem_cons.mp hp with rfl | hp
    · exact Ne.symm hCD
    · exact offC p hp
end
theorem tupAt_intro {ax : Addr} {its : Array Value} {k : Nat} {news : Led} (hm : (ax, ({ cls := .type "tuple", data := .seq its k } : Obj)) ∈ news) : TupAt ax its news := ⟨_, hm, rfl, _, rfl⟩
theorem srcAt_intro {h₀ : Heap} {ax : Addr} {its : Array Value} {k : Nat} {news : Led} (hm : (ax, ({ cls := .type "list", data := .seq its k } : Obj)) ∈ news) : LCg.SrcAt h₀ ax its news := .inr ⟨_, hm, rfl, _, rfl⟩
end CompW
section Take
section
end
section
variable {w : World} {f : Addr} {D U : Nat} {vs : List Value} {S : Addr} {rest : Led} {mean : ExcName → Option Value} {mg mb : Str → Option Value} {dp un : Nat} {gd : Option (List Code)} {cn : Str} {cs : Scope} {a : Addr} {ccd : Value} {cl : List (Str × Addr)} {outer : List Env} {A₀ : Around} {base h₀ : Heap} {L : Addr} {m : Str → Option Value} {s : Shared} {Q E : Value → Shared → Prop} {o : Obj}
end
theorem my_item {prog : Program} {w : World} {A : Around} {E : Value → Shared → Prop} {s : Shared} {value slice : PySem.Expr} {l : Addr} {vs : List Value} {k : Int} {u : Tok} {v : Value} {Q : Value → Shared → Prop}
    (hl : s.heap.IsList l vs.toArray) (h0 : 0 ≤ k) (hhi : k < 2 ^ 63) (hx : vs[k.toNat]? = some v) (h : Q v s)
    (hs : subscripted slice false (.ref l) (.int k u) = operate [.ref l, .int k u] (getItem (.ref l) (.int k u)) := by with_unfolding_all rfl) :
    wpAny (model prog w) A (subscriptTail value slice (.ref l) (.int k u)) Q E s :=
  tail_any hl.typeIs slot_list_getitem.lookup (wpAny_getItem_list hl h0 hhi (by simpa using hx) h) hs
theorem item_any {prog : Program} {w : World} {A : Around} {E : Value → Shared → Prop} {s : Shared} {value slice : PySem.Expr} {h₀ : Heap} {L l : Addr} {news : Led} {vs : List Value} {k : Int} {u : Tok} {n : Nat} {Q : Value → Shared → Prop}
    (N : News h₀ L s.heap news) (hm : (l, listOf vs.toArray n) ∈ news) (h0 : 0 ≤ k) (hk : k < (vs.length : Int)) (hsz : vs.length < 2 ^ 62) (h : ∀ v, v ∈ vs → Q v s)
    (hs : subscripted slice false (.ref l) (.int k u) = operate [.ref l, .int k u] (getItem (.ref l) (.int k u)) := by with_unfolding_all rfl) :
    wpAny (model prog w) A (subscriptTail value slice (.ref l) (.int k u)) Q E s := by
  have hi : k.toNat < vs.length := by omega
  exact my_item ⟨_, N.get hm, rfl, n, rfl⟩ h0 (by omega) (List.getElem?_eq_getElem hi) (h _ (List.getElem_mem hi)) hs
theorem len_any {prog : Program} {w : World} {A : Around} {E : Value → Shared → Prop} {s : Shared} {h₀ : Heap} {L l : Addr} {news : Led} {vs : List Value} {n : Nat} {Q : Value → Shared → Prop}
    (N : News h₀ L s.heap news) (hm : (l, listOf vs.toArray n) ∈ news) (hsz : vs.length < 2 ^ 62) (h : ∀ t h' tk, h' = s.heap → Q (.int (vs.length : Int) t) { s with heap := h', toks := tk }) :
    wpAny (model prog w) A (call (.builtin "len") [.ref l]) Q E s := by
  refine len_list (items := vs.toArray) ⟨_, N.get hm, rfl, n, rfl⟩ (by simp; omega) ?_
  have := h (s.toks + 1) s.heap (s.toks + 1 + 1) rfl
  simpa using this
section
end
section
variable {w : World} {f : Addr} {D U : Nat} {vs : List Value} {S : Addr} {rest : Led} {mean : ExcName → Option Value} {mg mb : Str → Option Value} {dp un : Nat} {gd : Option (List Code)} {cn : Str} {cs : Scope} {a : Addr} {ccd : Value} {cl : List (Str × Addr)} {outer : List Env} {A₀ : Around} {base h₀ : Heap} {L : Addr} {m : Str → Option Value} {s : Shared} {Q E : Value → Shared → Prop} {o : Obj}
end
end Take
section Comp
section
variable {prog : Program} {w : World} {A : Around} {h₀ : Heap} {L : Addr} {m : Str → Option Value} {env : Env} {elt : PySem.Expr} {x : Str} {scope : Scope} {cl : List (Str × Addr)} {s : Shared} {Sx : Led → Prop} {P : Nat → Value → Prop} {Fin : List Value → Led → Prop}
end
def AdvD (d : Dat) : Prop := ∃ n, d = .int n ∧ -1000 ≤ n ∧ n ≤ 1000
def PtD (d : Dat) : Prop := ∃ x y, d = .tuple [.int x, .int y]
def PtsD (d : Dat) : Prop := ∃ p0 p1 p2, d = .list [p0, p1, p2] ∧ PtD p0 ∧ PtD p1 ∧ PtD p2
section
variable {h₀ h' : Heap} {L S I C D : Addr} {m : Str → Option Value} {s₁ : Shared} {oI oC oD o' : Obj} {rest big : Led} {V : Dat → Prop} {tk' : Nat}
end
theorem adv_mem {v : Value} {t1 t2 t3 t4 : Tok} (h : v ∈ [.int 500 t1, .int 0 t2, .int 250 t3, .int 1000 t4]) : ∃ n t, v = .int n t ∧ AdvD (.int n) := by
  simp only [List.mem_cons, List.not_mem_nil, or_false] at h
  rcases h with rfl | rfl | rfl | rfl <;> exact ⟨_, _, rfl, _, rfl, by decide, by decide⟩
theorem int3_mem {v : Value} {a b c : Int} {t1 t2 t3 : Tok} (h : v ∈ [.int a t1, .int b t2, .int c t3]) : ∃ n t, v = .int n t ∧ (n = a ∨ n = b ∨ n = c) := by
  simp only [List.mem_cons, List.not_mem_nil, or_false] at h
  rcases h with rfl | rfl | rfl
  · exact ⟨_, _, rfl, .inl rfl⟩
  · exact ⟨_, _, rfl, .inr (.inl rfl)⟩
  · exact ⟨_, _, rfl, .inr (.inr rfl)⟩
end Comp
section Kern
def KerD (v : Int) : List (PySem.PyData × PySem.PyData) := [(encTuple PyData.int [1, 2], .int v), (encTuple PyData.int [2, 2], .int (-7)), (encTuple PyData.int [0, 1], .int 12)]
section
variable {prog : Program} {w : World} {A : Around} {E : Value → Shared → Prop} {s : Shared} {h₀ : Heap} {L d K1 K2 K3 : Addr} {m : Str → Option Value} {led rest : Led} {o k1 k2 k3 : Obj} {v : Int} {tv t2 t3 : Tok} {Q : Value → Shared → Prop}
theorem kern_made (F : Fr h₀ L s.heap m) (N : News h₀ L s.heap led) (hP : Pick d o led rest) (hne : ∀ p ∈ rest, p.1 ≠ d) (lo : (d == sysModules) = false) (ho : o.IsDictOf (intKind prog w) []) (m1 : (K1, k1) ∈ rest) (m2 : (K2, k2) ∈ rest) (m3 : (K3, k3) ∈ rest)
    (q1 : TupKeyObj (intKind prog w) [1, 2] k1) (q2 : TupKeyObj (intKind prog w) [2, 2] k2) (q3 : TupKeyObj (intKind prog w) [0, 1] k3) (hu : A.units < cLine)
    (h : ∀ h' o' tk, Fr h₀ L h' m → News h₀ L h' ((d, o') :: rest) → TupTab (intKind prog w) PyData.int [(d, o'), (K1, k1), (K2, k2), (K3, k3)] d (KerD v) → Q (.ref d) { s with heap := h', toks := tk }) :
    TupStores prog w A E d Q [(.ref K1, .int v tv), (.ref K2, .int (-7) t2), (.ref K3, .int 12 t3)] s := by
  have N0 := news_pick N hP
  have hd0 : s.heap.DictOfH (tupleKind (intKind prog w)) d [] := by
    obtain ⟨es, ep, hc, hdat, _, hp, _⟩ := ho
    have he : es.toList = [] := List.length_eq_zero_iff.mp hp.length
    exact ⟨o, es, ep, (N0 _ (.head _)).1, hc, hdat, he, (fun _ hx => nomatch hx), List.nodup_nil⟩
  have keep : ∀ {h h' : Heap}, Heap.SameBut d h h' → News h₀ L h rest → News h₀ L h' rest := fun hs N p hp => ⟨hs.extBut _ _ (hne p hp) (N p hp).1, (N p hp).2⟩
  have Nr : News h₀ L s.heap rest := fun p hp => N0 p (.tail _ hp)
  unfold TupStores storeAll
  rw [List.forIn_cons]
  refine wpAny_bind (wpAny_bind (wpAny_dictSet_heap (knd := tupleKind (intKind prog w)) (k := [1, 2]) (xs := []) hu (q1.key (Nr _ m1).1) hd0 (fun h1 hm1 hs1 => wpAny_pure ?_)))
  have N1 := keep hs1 Nr
  dsimp only
  rw [List.forIn_cons]
  refine wpAny_bind (wpAny_bind (wpAny_dictSet_heap (hsz := by show (1 : Nat) ≤ sizeLine; rw [sizeLine_eq]; omega) (xs := [([1, 2], K1, .int v tv)]) (knd := tupleKind (intKind prog w)) (k := [2, 2]) hu (q2.key (N1 _ m2).1) hm1 (fun h2 hm2 hs2 => wpAny_pure ?_)))
  have N2 := keep hs2 N1
  dsimp only
  rw [List.forIn_cons]
  refine wpAny_bind (wpAny_bind (wpAny_dictSet_heap (hsz := by show (2 : Nat) ≤ sizeLine; rw [sizeLine_eq]; omega) (xs := [([1, 2], K1, .int v tv), ([2, 2], K2, .int (-7) t2)]) (knd := tupleKind (intKind prog w)) (k := [0, 1]) hu (q3.key (N2 _ m3).1) hm2 (fun h3 hm3 hs3 => wpAny_pure ?_)))
  have N3 := keep hs3 N2
  dsimp only
  rw [List.forIn_nil]
  refine wpAny_pure ?_
  replace hm3 : h3.DictOfH (tupleKind (intKind prog w)) d [([1, 2], K1, .int v tv), ([2, 2], K2, .int (-7) t2), ([0, 1], K3, .int 12 t3)] := hm3
  obtain ⟨o', es, ep, ho', hc, hd, he, hi, hn⟩ := hm3
  refine h h3 o' _ (((F.change hs1 (N0 _ (.head _)).2.1 (N0 _ (.head _)).2.2).change hs2 (N0 _ (.head _)).2.1 (N0 _ (.head _)).2.2).change hs3 (N0 _ (.head _)).2.1 (N0 _ (.head _)).2.2) (fun p hp => ?_) ⟨lo, o', es, ep, _, .head _, hc, hd, he, hn, fun x hx => ?_, ?_⟩
  · rcases List.mem_cons.mp hp with rfl | hp
    · exact ⟨ho', (N0 _ (.head _)).2⟩
    · exact N3 p hp
  · rcases List.mem_cons.mp hx with rfl | hx
    · exact ⟨k1, .tail _ (.head _), q1⟩
    · rcases List.mem_cons.mp hx with rfl | hx
      · exact ⟨k2, .tail _ (.tail _ (.head _)), q2⟩
      · rcases List.mem_cons.mp hx with rfl | hx
        · exact ⟨k3, .tail _ (.tail _ (.tail _ (.head _))), q3⟩
        · cases hx
  · exact .cons (.int _ _) (.cons (.int _ _) (.cons (.int _ _) .nil))
theorem dict_tupK {env : Env} {keys : List (Option PySem.Expr)} {values : List PySem.Expr} {pos : Pos} (hf : tupFirst keys = true) (F : Fr h₀ L s.heap m) (N : News h₀ L s.heap led) (hbig : h₀.NoLimit) (hall : keys.all (·.isSome) = true) (hl : keys.length = values.length) (h0 : keys ≠ []) (hlen : keys.length ≤ 15)
    (h : ∀ (d : Addr) h' o, Fr h₀ L h' m → News h₀ L h' ((d, o) :: led) → (∀ p ∈ led, p.1 < d) → (d == sysModules) = false → o.IsDictOf (intKind prog w) [] →
      wpAny (model prog w) A (evalPairs (pairTrees keys values env pos)) (TupStores prog w A E d Q) E { s with heap := h' }) :
    wpAny (model prog w) A (eval (.Dict keys values pos) env) Q E s :=
  Dict_tup_made hf F N (modules_low hbig) hall hl h0 hlen fun o F' N' hs hd => h _ _ o F' N' (fun p hp => Heap.lt_size (N p hp).1) hs hd
theorem TupTab_mono {K : Type} [DecidableEq K] {knd : PySem.KeyKind prog w K} {enc : K → PyData} {i j : Led} {D : List (PyData × PyData)} (T : TupTab knd enc i d D) (hs : ∀ p ∈ i, p ∈ j) : TupTab knd enc j d D :=
  let ⟨lo, o, es, ep, xs, hm, hc, hd, he, hn, hk, hf⟩ := T
  ⟨lo, o, es, ep, xs, hs _ hm, hc, hd, he, hn, fun x hx => let ⟨okx, hmk, t⟩ := hk x hx; ⟨okx, hs _ hmk, t⟩, hf⟩
end
end Kern
section FontB
def CodeO (o : Obj) : Prop := ∃ vs t, o.data = .fields vs ∧ vs[1]? = some (.str (Str.ofString "_law_font.<locals>.<lambda>") t)
def TabFull (led : Led) (oP : Obj) : Prop :=
  ∃ (c1 c2 c3 c4 : Addr) (o1 o2 o3 o4 : Obj), oP = tabObj #[rawInt 238, rawInt 17, .ref c1, rawInt 239, rawInt 19, .ref c2, rawInt 240, rawInt 16, .ref c3, rawInt 241, rawInt 19, .ref c4] ∧ (c1, o1) ∈ led ∧ (c2, o2) ∈ led ∧ (c3, o3) ∈ led ∧ (c4, o4) ∈ led ∧ CodeO o1 ∧ CodeO o2 ∧ CodeO o3 ∧ CodeO o4
def TabSt (led : Led) (oP : Obj) : Prop := oP = tabObj #[] ∨ TabFull led oP
theorem TabFull.mono {i j : Led} {oP : Obj} (h : TabFull i oP) (hs : ∀ p ∈ i, p ∈ j) : TabFull j oP :=
  let ⟨c1, c2, c3, c4, o1, o2, o3, o4, e, m1, m2, m3, m4, r⟩ := h
  ⟨c1, c2, c3, c4, o1, o2, o3, o4, e, hs _ m1, hs _ m2, hs _ m3, hs _ m4, r⟩
section
variable {M : Model} {A : Around} {E : Value → Shared → Prop} {s : Shared} {h₀ : Heap} {L a c P : Addr} {m mg mb : Str → Option Value} {cn : Str} {cs : Scope} {ccd : Value} {cl : List (Str × Addr)} {news rest : Led} {p : Program} {loose : List Str} {mean : ExcName → Option Value} {name qual : Str} {params : Arguments} {body : PySem.Expr} {scope : Scope} {ps : Array Value} {pos : Pos} {firstLine : Nat} {clos : List (Str × Addr)}
end
section
variable {h₀ h' : Heap} {L S : Addr} {m : Str → Option Value} {s₁ : Shared} {o' : Obj} {big : Led} {V : Dat → Prop} {tk' : Nat}
end
end FontB
section Lam
section
variable {w : World}
theorem gs_lam {f : Addr} {D U : Nat} {vs : List Value} {sub need : Led} {Post : Value → Led → Prop}
    {name qual : Str} {params : Arguments} {body : PySem.Expr} {scope : Scope} {cl : List (Str × Addr)} {pm ctv : Value} {c' : Addr} {oc : Obj} {vc : Array Value} {tq : Tok} {binds : List (Str × Value)}
    (hs : ∀ p ∈ sub, p ∈ need) (ho : (f, kla_obj name qual params body scope cl pm c' ctv) ∈ need) (hc : (c', oc) ∈ need) (hdc : oc.data = .fields vc) (hq : vc[1]? = some (.str qual tq))
    (hbind : bindArgs (kla_fn name qual params body scope cl pm (.ref c') ctv) ⟨vs, []⟩ = pure binds) (hloc : ∀ y ∈ binds, scope.names.lookup y.1 = some .local)
    (h : ∀ (mean : ExcName → Option Value) (mg mb : Str → Option Value) (dp un : Nat) (gd : Option (List Code)) (cn : Str) (cs : Scope) (L a : Addr) (ccd : Value) (cl0 : List (Str × Addr)) (outer : List Env) (base g : Heap) (L' : Addr) (h₁ : Heap) (s : Shared) (Q E : Value → Shared → Prop),
      cs.kind = .function → dp + D < recursionLimit → un + U < cLine → BaseOK w mean mg mb base → LooseG base (envX qual scope L' f (.ref c') cl :: envX cn cs L a ccd cl0 :: outer) g sub need →
      (∀ (r : Value) (mt' tl big : Led) (h' : Heap) (tk' : Nat) (m' : Str → Option Value), Fr g L' h' m' → News g L' h' big → mt'.map (·.1) = ([] : Led).map (·.1) → (∀ p ∈ mt', p ∈ big) → (∀ p ∈ sub, p ∈ big) → (∀ p ∈ tl, p ∈ big) → (∀ p ∈ tl, LCg.Off1 p.1 sub) → Post r tl → Q r { s with heap := h', toks := tk' }) →
      Fr g L' h₁ (fun y => binds.reverse.lookup y) → News g L' h₁ sub → Below (ktrTop dp un gd cn cs L a ccd cl0 outer) base (envX cn cs L a ccd cl0 :: outer) g → (hd.heap_39 w.params).In g → Top topProg vG mean mg mb g → (∀ p ∈ sub, p.1 < L') →
      wpAny (model PySem.Challenge.rw_on0243_01.row.prog w) ((ktrTop dp un gd cn cs L a ccd cl0 outer).deeper (envX qual scope L' f (.ref c') cl)) (eval body (envX qual scope L' f (.ref c') cl))
        (fun v s' => Q v s')
        (fun e s' => wpAny (model PySem.Challenge.rw_on0243_01.row.prog w) ((ktrTop dp un gd cn cs L a ccd cl0 outer).deeper (envX qual scope L' f (.ref c') cl)) (leaving (envX qual scope L' f (.ref c') cl) e) (fun _ s'' => E e s'') (fun e' s'' => E e' s'') s')
        { s with heap := h₁, toks := s.toks + binds.length })
    (hco : scope.isCoroutine = false) (hgen : scope.isGenerator = false) (hk : scope.kind = .function)
    (hcell : ∀ x ∈ scope.names, x.2 ≠ .cell) (hD : 0 < D) : GS w f D U vs need Post := by
  intro mean mg mb dp un gd cn cs a ccd cl0 outer A₀ base h₀ L m s Q E B F BO Lo hkc hdp hun hret
  refine wpAny_call ?_
  have Lo' : ∀ p ∈ need, Loose base (envX cn cs L a ccd cl0 :: outer) s.heap p := Lo
  have Ls : ∀ p ∈ sub, Loose base (envX cn cs L a ccd cl0 :: outer) s.heap p := fun p hp => Lo' p (hs p hp)
  obtain ⟨BG, st⟩ := ground_loose (A := ktrTop dp un gd cn cs L a ccd cl0 outer) B F rfl rfl hkc Ls
  have XG := BO.1.keeps st
  refine kla_callFunE (show dp < _ by omega) (Lo' _ ho).1 rfl hco hgen rfl ⟨c', oc, vc, tq, rfl, (Lo' _ hc).1, hdc, hq⟩ ?_
  rw [hbind]
  refine wpAny_pure (wpAny_newFunctionEnv hcell hloc (fun h₁ hns hsb => ⟨((BO.2.nolimit).keeps fun b o e => F.keep _ _ (B.stays b o e)).fresh _ hsb, ?_⟩) hk)
  show codeAny _ _ (.expr body (envX qual scope s.heap.objs.size f (.ref c') cl)) _ _
  have hk₁ : ∀ b o, s.heap.get? b = some o → h₁.get? b = some o := fun b o e => hsb.extBut b o (Nat.ne_of_lt (Heap.lt_size e)) (Heap.get?_push_of_some _ e)
  have FG : Fr (hideAll s.heap (sub.map (·.1))) s.heap.objs.size h₁ (fun y => binds.reverse.lookup y) := ⟨hns, fun b o e => hk₁ b o (of_hideAll _ e), Nat.le_of_eq (hideAll_size _ _)⟩
  refine kla_codeExpr (h mean mg mb dp un gd cn cs L a ccd cl0 outer base _ s.heap.objs.size h₁ s Q E hkc hdp hun BO (fun p hp => ?_) ?_ FG (fun p hp => ⟨hk₁ _ _ (Ls p hp).1, Nat.ne_of_lt (Heap.lt_size (Ls p hp).1), hideAll_none _ (List.mem_map_of_mem hp)⟩) BG XG (BO.2.keeps st) (fun p hp => Heap.lt_size (Ls p hp).1))
  · have q := Lo' p hp
    refine ⟨?_, fun env' he hf' => ?_, q.2.2⟩
    · by_cases hb : p.1 ∈ sub.map (·.1)
      · obtain ⟨q', hq', e⟩ := mem_map_fst hb
        have e1 := (Ls q' hq').1
        rw [e, q.1] at e1
        exact .inr ((show p = q' from Prod.ext e.symm (Option.some.inj e1)) ▸ hq')
      · exact .inl (hideAll_get _ q.1 hb)
    · rcases List.mem_cons.mp he with rfl | he
      · exact Nat.ne_of_lt (Heap.lt_size q.1) (Option.some.inj hf').symm
      · exact q.2.1 env' he hf'
  · intro r mt' tl big h' tk' m' F' N' e1 e2 e3 e4 e5 e6
    refine hret r [] tl h' tk' rfl (fun _ h => nomatch h) (fun b o hb e => ?_) (fun p hp => ⟨(N' p (e4 p hp)).1, ?_⟩) e6
    · by_cases hq : b ∈ sub.map (·.1)
      · obtain ⟨p, hp, rfl⟩ := mem_map_fst hq
        have e' := (Ls p hp).1
        rw [e'] at e; cases e
        exact (N' p (e3 p hp)).1
      · exact F'.keep _ _ (hideAll_get _ e hq)
    · have hn := (N' p (e4 p hp)).2.2
      cases q : s.heap.get? p.1 with
      | none => rfl
      | some o =>
        by_cases hq : p.1 ∈ sub.map (·.1)
        · obtain ⟨p', hp', e'⟩ := mem_map_fst hq
          exact absurd e' (off1_mem (e5 p hp) p' hp')
        · rw [hideAll_get _ q hq] at hn; cases hn
end
end Lam
section R1
structure CompI where
  scope : Scope
  cl : List (Str × Addr)
  C : Addr
  own : List (Str × Value)
structure Vis where
  w : World
  D : Nat
  U : Nat
  cn : Str
  cs : Scope
  L : Addr
  a : Addr
  ccd : Value
  cl : List (Str × Addr)
  nd : Led
  cp : List CompI
abbrev Vis.fenv (V : Vis) : Env := envX V.cn V.cs V.L V.a V.ccd V.cl
def cpEnv (e : Env) : List CompI → Env
  | [] => e
  | k :: r => compEnvC k.scope k.cl k.C (cpEnv e r)
def Vis.env (V : Vis) : Env := cpEnv V.fenv V.cp
abbrev rprog : Program := PySem.Challenge.rw_on0243_01.row.prog
structure Ctx (V : Vis) where
  mean : ExcName → Option Value
  mg : Str → Option Value
  mb : Str → Option Value
  dp : Nat
  un : Nat
  gd : Option (List Code)
  outer : List Env
  A₀ : Around
  base : Heap
  g : Heap
  E : Value → Shared → Prop
  s₀ : Shared
  hid : Led
  BO : BaseOK V.w mean mg mb base
  B : Below A₀ base outer g
  hk : V.cs.kind = .function
  hd : dp + V.D < recursionLimit
  hu : un + V.U < cLine
  P : V.cp = [] → PassesOwn (model rprog V.w) (ktrTop dp un gd V.cn V.cs V.L V.a V.ccd V.cl outer) V.fenv E
abbrev Ctx.A {V : Vis} (c : Ctx V) : Around := ktrTop c.dp c.un c.gd V.cn V.cs V.L V.a V.ccd V.cl c.outer
structure St where
  m : Str → Option Value
  cm : Str → Option Value
  mt : Led
  im : List Led
def St.fl (σ : St) : Led := σ.im.flatten
def Sep (a b : Led) : Prop := (a.map (·.1)).Nodup ∧ ∀ p ∈ a, ∀ q ∈ b, p.1 ≠ q.1
structure InvC {V : Vis} (c : Ctx V) (σ : St) (ce : Led) (s : Shared) : Prop where
  F : Fr c.g V.L s.heap σ.m
  N : News c.g V.L s.heap (c.hid ++ (ce ++ (σ.mt ++ (σ.fl ++ V.nd))))
  C : ∀ x a, V.cl.lookup x = some a → ∃ o, (a, o) ∈ (if V.fenv.kindOf x = some .free then V.nd else ce) ∧ o.data = .cell (σ.cm x)
  S : Sep (c.hid ++ (ce ++ σ.mt)) (σ.fl ++ V.nd)
  O : ∀ p ∈ σ.fl, LCg.Off1 p.1 V.nd
  K : ∀ k ∈ V.cp, ∃ oC m₂, (k.C, oC) ∈ c.hid ∧ LCg.NsObj oC m₂ ∧ ∀ y v, k.own.lookup y = some v → m₂ y = some v
  R : s.gens = c.s₀.gens ∧ s.drawn = c.s₀.drawn ∧ s.os = c.s₀.os
def Inv {V : Vis} (c : Ctx V) (σ : St) (s : Shared) : Prop := ∃ ce, InvC c σ ce s
def Run {V : Vis} (c : Ctx V) (σ : St) {α : Type} (t : Sem α) (Q : α → St → Prop) : Prop :=
  ∀ s, Inv c σ s → wpAny (model rprog V.w) c.A t (fun r s' => ∃ σ', Inv c σ' s' ∧ Q r σ') c.E s
section
variable {V : Vis} {c : Ctx V} {σ : St} {α β : Type}
theorem Run.on {t : Sem α} {K : α → St → Prop} {Q : α → Shared → Prop} {s : Shared} (h : Run c σ t K) (I : Inv c σ s) (k : ∀ a σ₁ s₁, Inv c σ₁ s₁ → K a σ₁ → Q a s₁) : wpAny (model rprog V.w) c.A t Q c.E s :=
  wpAny_mono (h s I) (fun a s₁ ⟨σ₁, I₁, h₁⟩ => k a σ₁ s₁ I₁ h₁) fun _ _ e => e
theorem Run.mono {t : Sem α} {Q Q' : α → St → Prop} (h : Run c σ t Q) (k : ∀ a σ₁, Q a σ₁ → Q' a σ₁) : Run c σ t Q' := fun s I => h.on I fun a σ₁ s₁ I₁ h₁ => ⟨σ₁, I₁, k a σ₁ h₁⟩
theorem Inv.X {s : Shared} (_ : Inv c σ s) : (hd.heap_39 V.w.params).In c.g := c.BO.heap.keeps c.B.stays
theorem Inv.T {s : Shared} (_ : Inv c σ s) : Top topProg vG c.mean c.mg c.mb c.g := c.BO.top.keeps c.B.stays
theorem InvC.keeps {ce : Led} {s s' : Shared} (I : InvC c σ ce s) (F : Fr c.g V.L s'.heap σ.m) (N : News c.g V.L s'.heap (c.hid ++ (ce ++ (σ.mt ++ (σ.fl ++ V.nd))))) (hg : s'.gens = s.gens) (hd : s'.drawn = s.drawn) (ho : s'.os = s.os) : InvC c σ ce s' :=
  ⟨F, N, I.C, I.S, I.O, I.K, hg.trans I.R.1, hd.trans I.R.2.1, ho.trans I.R.2.2⟩
theorem Inv.toks {s : Shared} {k : Nat} (I : Inv c σ s) : Inv c σ { s with toks := k } := let ⟨ce, I⟩ := I; ⟨ce, I.keeps I.F I.N rfl rfl rfl⟩
theorem Inv.same {s : Shared} {h : Heap} {k : Nat} {ce : Led} (I : InvC c σ ce s) (F : Fr c.g V.L h σ.m) (N : News c.g V.L h (c.hid ++ (ce ++ (σ.mt ++ (σ.fl ++ V.nd))))) : Inv c σ { s with heap := h, toks := k } := ⟨ce, I.keeps F N rfl rfl rfl⟩
end
def St.put (σ : St) (x : Str) (v : Value) : St := { σ with m := fun y => if y = x then some v else σ.m y }
def St.putc (σ : St) (x : Str) (v : Value) : St := { σ with cm := fun y => if y = x then some v else σ.cm y }
def St.imm (σ : St) (D : Addr) (o : Obj) : St := { σ with im := [(D, o)] :: σ.im }
def St.mut (σ : St) (D : Addr) (o : Obj) : St := { σ with mt := (D, o) :: σ.mt }
def St.add (σ : St) (tl : Led) : St := { σ with im := tl :: σ.im }
def St.chg (σ : St) (mt : Led) : St := { σ with mt := mt }
def Has (V : Vis) (σ : St) (p : Addr × Obj) : Prop := p ∈ σ.mt ++ (σ.fl ++ V.nd)
inductive Rep (d : Addr) (o o' : Obj) : Led → Led → Prop
  | head {r : Led} : Rep d o o' ((d, o) :: r) ((d, o') :: r)
  | tail {p : Addr × Obj} {r r' : Led} : Rep d o o' r r' → Rep d o o' (p :: r) (p :: r')
section
variable {V : Vis} {c : Ctx V} {σ : St}
theorem hasNd {p : Addr × Obj} (h : p ∈ V.nd) : Has V σ p := List.mem_append_right _ (List.mem_append_right _ h)
theorem hasIm {p : Addr × Obj} (h : p ∈ σ.fl) : Has V σ p := List.mem_append_right _ (List.mem_append_left _ h)
theorem hasMt {p : Addr × Obj} (h : p ∈ σ.mt) : Has V σ p := List.mem_append_left _ h
theorem mem_at (n : Nat) {p : Addr × Obj} (h : σ.im[n]? = some [p]) : p ∈ σ.fl := List.mem_flatten.mpr ⟨_, List.mem_of_getElem? h, .head _⟩
theorem mem_seg (n : Nat) {tl : Led} {p : Addr × Obj} (m : p ∈ tl) (h : σ.im[n]? = some tl) : p ∈ σ.fl := List.mem_flatten.mpr ⟨_, List.mem_of_getElem? h, m⟩
theorem ix {α : Type} {l : List α} {a : α} (n : Nat) (h : l[n]? = some a) : ∃ n : Nat, l[n]? = some a := ⟨n, h⟩
theorem mem_ix {p : Addr × Obj} (h : ∃ n : Nat, σ.im[n]? = some [p]) : p ∈ σ.fl := let ⟨n, h⟩ := h; mem_at n h
theorem seg_ix {tl : Led} {p : Addr × Obj} (m : p ∈ tl) (h : ∃ n : Nat, σ.im[n]? = some tl) : p ∈ σ.fl := let ⟨n, h⟩ := h; mem_seg n m h
theorem mt_at {l : Led} (n : Nat) {p : Addr × Obj} (h : l[n]? = some p) : p ∈ l := List.mem_of_getElem? h
theorem mem_app {α : Type} {l r : List α} {p : α} (m : p ∈ r) : p ∈ l ++ r := List.mem_append_right _ m
theorem out_im {p : Addr × Obj} (m : p ∈ σ.fl) : p ∈ σ.mt ++ σ.fl := List.mem_append_right _ m
theorem out_mt {p : Addr × Obj} (m : p ∈ σ.mt) : p ∈ σ.mt ++ σ.fl := List.mem_append_left _ m
theorem sub_ix {tl : Led} (h : ∃ n : Nat, σ.im[n]? = some tl) : ∀ p ∈ tl, p ∈ σ.mt ++ σ.fl := fun _ m => out_im (seg_ix m h)
theorem segN {tl : Led} (h : ∃ n : Nat, σ.im[n]? = some tl) : ∀ p ∈ tl, p ∈ σ.fl ++ V.nd := fun _ m => List.mem_append_left _ (seg_ix m h)
theorem segH {tl : Led} (h : ∃ n : Nat, σ.im[n]? = some tl) : ∀ p ∈ tl, Has V σ p := fun _ m => hasIm (seg_ix m h)
theorem InvC.news {ce : Led} {s : Shared} (I : InvC c σ ce s) {p : Addr × Obj} (h : Has V σ p) : p ∈ c.hid ++ (ce ++ (σ.mt ++ (σ.fl ++ V.nd))) := List.mem_append_right _ (List.mem_append_right _ h)
theorem Has.get {ce : Led} {s : Shared} {p : Addr × Obj} (h : Has V σ p) (I : InvC c σ ce s) : s.heap.get? p.1 = some p.2 := (I.N p (I.news h)).1
theorem nodup_ins {l r : List Addr} {D : Addr} (h : (l ++ r).Nodup) (hD : ∀ x ∈ l ++ r, x ≠ D) : (l ++ D :: r).Nodup := by
  rw [List.nodup_append] at h ⊢
  refine ⟨h.1, List.nodup_cons.mpr ⟨fun q => hD D (List.mem_append_right _ q) rfl, h.2.1⟩, fun a ha b hb => ?_⟩
  rcases List.mem_cons.mp hb with rfl | hb
  · exact hD a (List.mem_append_left _ ha)
  · exact h.2.2 a ha b hb
theorem InvC.immC {ce : Led} {s : Shared} {D : Addr} {o : Obj} {h' : Heap} {k : Nat} (I : InvC c σ ce s) (F : Fr c.g V.L h' σ.m) (N : News c.g V.L h' ((D, o) :: (c.hid ++ (ce ++ (σ.mt ++ (σ.fl ++ V.nd)))))) (l : ∀ p ∈ c.hid ++ (ce ++ (σ.mt ++ (σ.fl ++ V.nd))), p.1 ≠ D) : InvC c (σ.imm D o) ce { s with heap := h', toks := k } := by
  refine ⟨F, fun p hp => N p ?_, I.C, ⟨I.S.1, fun p hp q hq => ?_⟩, fun p hp => ?_, I.K, I.R⟩
  · have hp : p ∈ c.hid ++ (ce ++ (σ.mt ++ ((D, o) :: σ.fl ++ V.nd))) := hp
    simp only [List.cons_append, List.mem_append, List.mem_cons] at hp ⊢
    rcases hp with h | h | h | h | h | h <;> simp only [h, true_or, or_true]
  · have e : (σ.imm D o).fl ++ V.nd = (D, o) :: (σ.fl ++ V.nd) := rfl
    rw [e] at hq
    rcases List.mem_cons.mp hq with rfl | hq
    · refine l p ?_
      have hp : p ∈ c.hid ++ (ce ++ σ.mt) := hp
      simp only [List.mem_append] at hp ⊢
      rcases hp with h | h | h <;> simp only [h, true_or, or_true]
    · exact I.S.2 p hp q hq
  · rcases List.mem_cons.mp hp with rfl | hp
    · exact off1_of fun q hq => l q (by simp only [List.mem_append, hq, or_true])
    · exact I.O p hp
theorem InvC.mutC {ce : Led} {s : Shared} {D : Addr} {o : Obj} {h' : Heap} {k : Nat} (I : InvC c σ ce s) (F : Fr c.g V.L h' σ.m) (N : News c.g V.L h' ((D, o) :: (c.hid ++ (ce ++ (σ.mt ++ (σ.fl ++ V.nd)))))) (l : ∀ p ∈ c.hid ++ (ce ++ (σ.mt ++ (σ.fl ++ V.nd))), p.1 ≠ D) : InvC c (σ.mut D o) ce { s with heap := h', toks := k } := by
  refine ⟨F, fun p hp => N p ?_, I.C, ⟨?_, fun p hp q hq => ?_⟩, I.O, I.K, I.R⟩
  · have hp : p ∈ c.hid ++ (ce ++ ((D, o) :: σ.mt ++ (σ.fl ++ V.nd))) := hp
    simp only [List.cons_append, List.mem_append, List.mem_cons] at hp ⊢
    rcases hp with h | h | h | h | h | h <;> simp only [h, true_or, or_true]
  · have h1 := I.S.1
    show ((c.hid ++ (ce ++ (D, o) :: σ.mt)).map (·.1)).Nodup
    rw [← List.append_assoc, List.map_append] at h1 ⊢
    refine nodup_ins h1 fun x hx => ?_
    rw [← List.map_append] at hx
    obtain ⟨p, hp, rfl⟩ := List.mem_map.mp hx
    refine l p ?_
    simp only [List.mem_append] at hp ⊢
    rcases hp with (h | h) | h
    · exact .inl h
    · exact .inr (.inl h)
    · exact .inr (.inr (.inl h))
  · have hp : p ∈ c.hid ++ (ce ++ (D, o) :: σ.mt) := hp
    have : p = (D, o) ∨ p ∈ c.hid ++ (ce ++ σ.mt) := by
      simp only [List.mem_append, List.mem_cons] at hp ⊢
      rcases hp with h | h | h | h <;> simp only [h, true_or, or_true]
    rcases this with rfl | hp
    · exact fun e => l q (by simp only [List.mem_append] at hq ⊢; exact .inr (.inr (.inr hq))) e.symm
    · exact I.S.2 p hp q hq
theorem InvC.imm {ce : Led} {s : Shared} {D : Addr} {o : Obj} {h' : Heap} {k : Nat} (I : InvC c σ ce s) (F : Fr c.g V.L h' σ.m) (N : News c.g V.L h' ((D, o) :: (c.hid ++ (ce ++ (σ.mt ++ (σ.fl ++ V.nd)))))) (l : ∀ p ∈ c.hid ++ (ce ++ (σ.mt ++ (σ.fl ++ V.nd))), p.1 ≠ D) : Inv c (σ.imm D o) { s with heap := h', toks := k } := ⟨ce, I.immC F N l⟩
theorem InvC.mut {ce : Led} {s : Shared} {D : Addr} {o : Obj} {h' : Heap} {k : Nat} (I : InvC c σ ce s) (F : Fr c.g V.L h' σ.m) (N : News c.g V.L h' ((D, o) :: (c.hid ++ (ce ++ (σ.mt ++ (σ.fl ++ V.nd)))))) (l : ∀ p ∈ c.hid ++ (ce ++ (σ.mt ++ (σ.fl ++ V.nd))), p.1 ≠ D) : Inv c (σ.mut D o) { s with heap := h', toks := k } := ⟨ce, I.mutC F N l⟩
theorem Rep.keys {d : Addr} {o o' : Obj} {l l' : Led} (h : Rep d o o' l l') : l'.map (·.1) = l.map (·.1) := by
  induction h with
  | head => rfl
  | tail _ ih => rw [List.map_cons, List.map_cons, ih]
theorem Rep.mem {d : Addr} {o o' : Obj} {l l' : Led} (h : Rep d o o' l l') : (d, o) ∈ l := by
  induction h with
  | head => exact .head _
  | tail _ ih => exact .tail _ ih
theorem Rep.upd {d : Addr} {o o' : Obj} {l l' r : Led} (h : Rep d o o' l l') (hn : (l.map (·.1)).Nodup) (hr : ∀ p ∈ l, ∀ q ∈ r, p.1 ≠ q.1) : Upd d o o' (l ++ r) (l' ++ r) := by
  induction h with
  | head =>
    refine .head fun p hp => ?_
    rcases List.mem_append.mp hp with hp | hp
    · rw [List.map_cons, List.nodup_cons] at hn
      exact fun e => hn.1 (List.mem_map.mpr ⟨p, hp, e⟩)
    · exact fun e => hr _ (.head _) p hp e.symm
  | tail h ih =>
    rw [List.map_cons, List.nodup_cons] at hn
    exact .tail (fun e => hn.1 (List.mem_map.mpr ⟨_, h.mem, e.symm⟩)) (ih hn.2 fun p hp => hr p (.tail _ hp))
theorem upd_pre {d : Addr} {o o' : Obj} {l l' : Led} : ∀ {pre : Led}, (∀ p ∈ pre, p.1 ≠ d) → Upd d o o' l l' → Upd d o o' (pre ++ l) (pre ++ l')
  | [], _, h => h
  | _ :: _, k, h => .tail (k _ (.head _)) (upd_pre (fun p hp => k p (.tail _ hp)) h)
theorem InvC.upd {ce mt' : Led} {s : Shared} {D : Addr} {o o' : Obj} (I : InvC c σ ce s) (h : Rep D o o' σ.mt mt') : Upd D o o' (c.hid ++ (ce ++ (σ.mt ++ (σ.fl ++ V.nd)))) (c.hid ++ (ce ++ (mt' ++ (σ.fl ++ V.nd)))) := by
  have h1 := I.S.1
  rw [← List.append_assoc, List.map_append, List.nodup_append] at h1
  rw [← List.append_assoc, ← List.append_assoc c.hid ce (mt' ++ _)]
  refine upd_pre (fun p hp => ?_) (h.upd h1.2.1 fun p hp q hq => I.S.2 p (List.mem_append_right _ (List.mem_append_right _ hp)) q hq)
  exact fun e => h1.2.2 p.1 (List.mem_map_of_mem hp) D (List.mem_map_of_mem h.mem) e
theorem InvC.chg {ce mt' : Led} {s : Shared} {D : Addr} {o o' : Obj} {h' : Heap} {k : Nat} (I : InvC c σ ce s) (h : Rep D o o' σ.mt mt') (F : Fr c.g V.L h' σ.m) (N : News c.g V.L h' (c.hid ++ (ce ++ (mt' ++ (σ.fl ++ V.nd))))) : Inv c (σ.chg mt') { s with heap := h', toks := k } := by
  refine ⟨ce, F, N, I.C, ⟨?_, fun p hp q hq => ?_⟩, I.O, I.K, I.R⟩
  · have h1 := I.S.1
    show ((c.hid ++ (ce ++ mt')).map (·.1)).Nodup
    rw [List.map_append, List.map_append] at h1 ⊢
    rw [h.keys]; exact h1
  · have hp : p ∈ c.hid ++ (ce ++ mt') := hp
    have : p.1 ∈ (c.hid ++ (ce ++ σ.mt)).map (·.1) := by
      have q := List.mem_map_of_mem (f := (·.1)) hp
      rw [List.map_append, List.map_append, h.keys] at q
      rw [List.map_append, List.map_append]; exact q
    obtain ⟨p', hp', e⟩ := List.mem_map.mp this
    rw [← e]; exact I.S.2 p' hp' q hq
end
end R1
section R2
section
variable {V : Vis}
abbrev KRet (Q : Flow → St → Prop) : Value → St → Prop := fun v σ => Q (.ret v) σ
abbrev KNext {α : Type} (Q : Flow → St → Prop) : α → St → Prop := fun _ σ => Q .next σ
abbrev KIf (c : Ctx V) (env : Env) (body orelse : List Stmt) (Q : Flow → St → Prop) : Bool → St → Prop := fun b σ => if b = true then Run c σ (execs body env) Q else Run c σ (execs orelse env) Q
abbrev KIfx (c : Ctx V) (env : Env) (body orelse : PySem.Expr) (Q : Value → St → Prop) : Bool → St → Prop := fun b σ => if b = true then Run c σ (eval body env) Q else Run c σ (eval orelse env) Q
abbrev KTru (c : Ctx V) (Q : Bool → St → Prop) : Value → St → Prop := fun v σ => Run c σ (truthy v) Q
abbrev KCmpR (c : Ctx V) (op : CmpOp) (a : Value) (Q : Value → St → Prop) : Value → St → Prop := fun b σ => Run c σ (compareOp op a b) Q
abbrev KCmpL (c : Ctx V) (env : Env) (op : CmpOp) (r : PySem.Expr) (Q : Value → St → Prop) : Value → St → Prop := fun a σ => Run c σ (eval r env) (KCmpR c op a Q)
abbrev KNot (Q : Bool → St → Prop) : Bool → St → Prop := fun b σ => Q (!b) σ
abbrev KOr (c : Ctx V) (env : Env) (rest : List PySem.Expr) (pos : Pos) (whole : Sem Value) (Q : Bool → St → Prop) : Bool → St → Prop := fun b σ => if b = true then Q true σ else Run c σ (isTrue (.BoolOp .Or rest pos) env whole) Q
abbrev KBinR (c : Ctx V) (op : Operator) (a : Value) (Q : Value → St → Prop) : Value → St → Prop := fun b σ => Run c σ (binaryOp op a b) Q
abbrev KBinL (c : Ctx V) (env : Env) (op : Operator) (r : PySem.Expr) (Q : Value → St → Prop) : Value → St → Prop := fun a σ => Run c σ (eval r env) (KBinR c op a Q)
abbrev KUna (c : Ctx V) (op : UnaryOp) (Q : Value → St → Prop) : Value → St → Prop := fun a σ => Run c σ (unaryOp op a) Q
abbrev KSubR (c : Ctx V) (value slice : PySem.Expr) (o : Value) (Q : Value → St → Prop) : Value → St → Prop := fun i σ => Run c σ (subscriptTail value slice o i) Q
abbrev KSubL (c : Ctx V) (env : Env) (value slice : PySem.Expr) (Q : Value → St → Prop) : Value → St → Prop := fun o σ => Run c σ (eval slice env) (KSubR c value slice o Q)
abbrev KCons (v : Value) (Q : List Value → St → Prop) : List Value → St → Prop := fun vs σ => Q (v :: vs) σ
abbrev KArgs (c : Ctx V) (env : Env) (rest : List PySem.Expr) (pos : Pos) (Q : List Value → St → Prop) : Value → St → Prop := fun v σ => Run c σ (spliced (backTo pos (starEach rest env))) (KCons v Q)
abbrev KTup (c : Ctx V) (Q : Value → St → Prop) : List Value → St → Prop := fun vs σ => Run c σ (newTuple vs) Q
abbrev KLst (c : Ctx V) (Q : Value → St → Prop) : List Value → St → Prop := fun vs σ => Run c σ (newList vs) Q
abbrev KCall (c : Ctx V) (f : Value) (first : List Value) (Q : Value → St → Prop) : List Value → St → Prop := fun vs σ => Run c σ (call f (first ++ vs)) Q
abbrev KCallT (c : Ctx V) (T : String) (Q : Value → St → Prop) : List Value → St → Prop := fun vs σ => Run c σ (call (.type T) vs) Q
abbrev KWith (c : Ctx V) (env : Env) (args : List PySem.Expr) (pos : Pos) (Q : Value → St → Prop) : Value → St → Prop := fun f σ => Run c σ (callWith pos f [] (backTo pos (starEach args env)) []) Q
abbrev KMWith (c : Ctx V) (env : Env) (args : List PySem.Expr) (pos : Pos) (Q : Value → St → Prop) : Value × List Value → St → Prop := fun fx σ => Run c σ (callWith pos fx.1 fx.2 (backTo pos (starEach args env)) []) Q
abbrev KMeth (c : Ctx V) (env : Env) (name : Str) (pl : Sem Bool) (args : List PySem.Expr) (pos : Pos) (Q : Value → St → Prop) : Value → St → Prop := fun ov σ => Run c σ (getMethod ov name pl) (KMWith c env args pos Q)
abbrev KArg1 (c : Ctx V) (f : Value) (Q : Value → St → Prop) : Value → St → Prop := fun a σ => Run c σ (call f [a]) Q
abbrev KArg2b (c : Ctx V) (f : Value) (a : Value) (Q : Value → St → Prop) : Value → St → Prop := fun b σ => Run c σ (call f [a, b]) Q
abbrev KArg2 (c : Ctx V) (env : Env) (f : Value) (e2 : PySem.Expr) (Q : Value → St → Prop) : Value → St → Prop := fun a σ => Run c σ (eval e2 env) (KArg2b c f a Q)
abbrev KArg3b (c : Ctx V) (f : Value) (a b : Value) (Q : Value → St → Prop) : Value → St → Prop := fun d σ => Run c σ (call f [a, b, d]) Q
abbrev KArg3 (c : Ctx V) (env : Env) (f : Value) (a : Value) (e2 : PySem.Expr) (Q : Value → St → Prop) : Value → St → Prop := fun b σ => Run c σ (eval e2 env) (KArg3b c f a b Q)
abbrev KCallV (c : Ctx V) (f : Value) (Q : Value → St → Prop) : List Value → St → Prop := fun vs σ => Run c σ (call f vs) Q
end
def noStar : PySem.Expr → Bool
  | .Starred _ _ => false
  | _ => true
theorem star_of {e : PySem.Expr} {rest : List PySem.Expr} {env : Env} (h : noStar e = true) : starEach (e :: rest) env = (false, eval e env) :: starEach rest env := by
  cases e <;> first | rfl | cases h
theorem star_any {rest : List PySem.Expr} {env : Env} {pos : Pos} (h : rest.all noStar = true) : (backTo pos (starEach rest env)).any (·.1) = false := by
  induction rest with
  | nil => rfl
  | cons e r ih =>
    rw [List.all_cons, Bool.and_eq_true] at h
    rw [star_of h.1]
    exact ih h.2
theorem eval_callN {x : Str} {p pos : Pos} {args : List PySem.Expr} {env : Env} : eval (.Call (.Name x p) args [] pos) env = (do callWith pos (← eval (.Name x p) env) [] (backTo pos (starEach args env)) (backToKw pos (keywordEach [] env))) := by rfl
structure Cut {V : Vis} (c : Ctx V) (rest : List Stmt) (env : Env) (Q Q0 : Flow → St → Prop) : Prop where
  next : ∀ {σ : St}, Run c σ (execs rest env) Q → Q0 .next σ
  out : ∀ {v : Value} {σ : St}, Q (.ret v) σ → Q0 (.ret v) σ
  brk : ∀ {σ : St}, Q .brk σ → Q0 .brk σ
section
variable {V : Vis} {c : Ctx V} {σ : St} {env : Env}
theorem r_nil {Q : Flow → St → Prop} (h : Q .next σ) : Run c σ (execs [] env) Q := fun _ I => wpAny_execs_nil ⟨σ, I, h⟩
theorem r_last {st : Stmt} {Q : Flow → St → Prop} (h : Run c σ (exec st env) Q) : Run c σ (execs [st] env) Q := fun _ I =>
  wpAny_execs_cons (h.on I fun f σ₁ s₁ I₁ h₁ => by
    cases f with
    | next => exact wpAny_execs_nil ⟨σ₁, I₁, h₁⟩
    | _ => exact ⟨σ₁, I₁, h₁⟩)
theorem r_cons {st : Stmt} {rest : List Stmt} {Q : Flow → St → Prop} (h : ∀ Q0, Cut c rest env Q Q0 → Run c σ (exec st env) Q0) : Run c σ (execs (st :: rest) env) Q := fun _ I =>
  wpAny_execs_cons ((h (fun f σ' => match f with | .next => Run c σ' (execs rest env) Q | f => Q f σ') ⟨fun h => h, fun h => h, fun h => h⟩).on I fun f σ₁ s₁ I₁ h₁ => by
    cases f with
    | next => exact h₁ s₁ I₁
    | _ => exact ⟨σ₁, I₁, h₁⟩)
theorem r_cut {rest : List Stmt} {Q Q0 : Flow → St → Prop} (k : Cut c rest env Q Q0) (h : Run c σ (execs rest env) Q) : Q0 .next σ := k.next h
theorem r_cutR {rest : List Stmt} {Q Q0 : Flow → St → Prop} {v : Value} (k : Cut c rest env Q Q0) (h : Q (.ret v) σ) : Q0 (.ret v) σ := k.out h
theorem r_cutB {rest : List Stmt} {Q Q0 : Flow → St → Prop} (k : Cut c rest env Q Q0) (h : Q .brk σ) : Q0 .brk σ := k.brk h
theorem r_brk {pos : Pos} {Q : Flow → St → Prop} (h : Q .brk σ) : Run c σ (exec (.Break pos) env) Q := fun _ I => wpAny_Break ⟨σ, I, h⟩
theorem r_expr {e : PySem.Expr} {pos : Pos} {Q : Flow → St → Prop} (h : Run c σ (eval e env) (KNext Q)) (hi : interactive env = false := by rfl) (hs : swapsWith e none pos.line env = pure false := by rfl) : Run c σ (exec (.Expr e pos) env) Q := fun _ I =>
  wpAny_Expr_any (h.on I fun _ σ₁ s₁ I₁ h₁ => ⟨σ₁, I₁, h₁⟩) hi hs
theorem r_ret {e : PySem.Expr} {pos : Pos} {Q : Flow → St → Prop} (h : Run c σ (eval e env) (KRet Q)) : Run c σ (exec (.Return (some e) pos) env) Q := fun _ I =>
  wpAny_Return_some (h.on I fun _ σ₁ s₁ I₁ h₁ => ⟨σ₁, I₁, h₁⟩)
theorem r_if {test : PySem.Expr} {body orelse : List Stmt} {pos : Pos} {Q : Flow → St → Prop} (h : Run c σ (isTrue test env (eval test env)) (KIf c env body orelse Q)) : Run c σ (exec (.If test body orelse pos) env) Q := fun _ I =>
  wpAny_If (h.on I fun b σ₁ s₁ I₁ h₁ => by
    cases b with
    | true => exact (show Run c σ₁ (execs body env) Q from h₁) s₁ I₁
    | false => exact (show Run c σ₁ (execs orelse env) Q from h₁) s₁ I₁)
theorem r_ifx {test body orelse : PySem.Expr} {pos : Pos} {Q : Value → St → Prop} (h : Run c σ (isTrue test env (eval test env)) (KIfx c env body orelse Q)) : Run c σ (eval (.IfExp test body orelse pos) env) Q := fun _ I =>
  IfExp_ (h.on I fun b σ₁ s₁ I₁ h₁ => by
    cases b with
    | true => exact (show Run c σ₁ (eval body env) Q from h₁) s₁ I₁
    | false => exact (show Run c σ₁ (eval orelse env) Q from h₁) s₁ I₁)
theorem r_ite {b : Bool} {X Y : Prop} (h1 : b = true → X) (h2 : b = false → Y) : if b = true then X else Y := by
  cases b with
  | true => rw [if_pos rfl]; exact h1 rfl
  | false => rw [if_neg Bool.false_ne_true]; exact h2 rfl
theorem r_iteD {p : Prop} [Decidable p] {X Y : Prop} (h1 : p → X) (h2 : ¬ p → Y) : if decide p = true then X else Y := r_ite (fun h => h1 (of_decide_eq_true h)) fun h => h2 (of_decide_eq_false h)
theorem r_iteE {a b : Int} {X Y : Prop} (h1 : a = b → X) (h2 : a ≠ b → Y) : if (a == b) = true then X else Y := r_ite (fun h => h1 (beq_iff_eq.mp h)) fun h => h2 (beq_eq_false_iff_ne.mp h)
theorem r_iteZ {p : Prop} [Decidable p] {X Y : Prop} (hp : ¬ p) (h : Y) : if decide p = true then X else Y := by rw [decide_eq_false hp]; exact h
theorem r_cmp {l r : PySem.Expr} {op : CmpOp} {pos : Pos} {whole : Sem Value} {Q : Bool → St → Prop} (h : Run c σ (eval l env) (KCmpL c env op r (KTru c Q))) (hb : behindInMarks op r = false := by rfl) :
    Run c σ (isTrue (.Compare l [op] [r] pos) env whole) Q := fun _ I =>
  wpAny_isTrue_Compare1 (h.on I fun _ _ s₁ I₁ h₁ => h₁.on I₁ fun _ _ s₂ I₂ h₂ => h₂.on I₂ fun _ _ s₃ I₃ h₃ => h₃ s₃ I₃) hb
theorem r_compare {l r : PySem.Expr} {op : CmpOp} {pos : Pos} {Q : Value → St → Prop} (h : Run c σ (eval l env) (KCmpL c env op r Q)) (hb : behindInMarks op r = false := by rfl) :
    Run c σ (eval (.Compare l [op] [r] pos) env) Q := fun _ I =>
  wpAny_Compare1 (h.on I fun _ _ s₁ I₁ h₁ => h₁.on I₁ fun _ _ s₂ I₂ h₂ => h₂ s₂ I₂) hb
theorem r_truthB {b : Bool} {Q : Bool → St → Prop} (h : Q b σ) : Run c σ (truthy (.bool b)) Q := fun _ I => wpAny_truthy_bool ⟨σ, I, h⟩
theorem r_isTrue {e : PySem.Expr} {whole : Sem Value} {Q : Bool → St → Prop} (h : Run c σ whole (KTru c Q)) (he : isTrue e env whole = (do let v ← whole; standAt e.pos; holding [v] (truthy v)) := by rfl) : Run c σ (isTrue e env whole) Q := fun _ I =>
  isTrue_plain (h.on I fun _ _ s₁ I₁ h₁ => h₁ s₁ I₁) he
theorem r_not {x : PySem.Expr} {pos : Pos} {whole : Sem Value} {Q : Bool → St → Prop} (h : Run c σ (isTrue x env (eval x env)) (KNot Q)) : Run c σ (isTrue (.UnaryOp .Not x pos) env whole) Q := fun _ I =>
  isTrue_not (h.on I fun _ σ₁ s₁ I₁ h₁ => ⟨σ₁, I₁, h₁⟩)
theorem r_or {x : PySem.Expr} {rest : List PySem.Expr} {pos : Pos} {whole : Sem Value} {Q : Bool → St → Prop} (h : Run c σ (isTrue x env (eval x env)) (KOr c env rest pos whole Q)) : Run c σ (isTrue (.BoolOp .Or (x :: rest) pos) env whole) Q := fun _ I =>
  isTrue_or (h.on I fun b σ₁ s₁ I₁ h₁ => by
    cases b with
    | true => exact ⟨σ₁, I₁, h₁⟩
    | false => exact (show Run c σ₁ (isTrue (.BoolOp .Or rest pos) env whole) Q from h₁) s₁ I₁)
theorem r_orN {pos : Pos} {whole : Sem Value} {Q : Bool → St → Prop} (h : Q false σ) : Run c σ (isTrue (.BoolOp .Or [] pos) env whole) Q := fun _ I => isTrue_or_nil ⟨σ, I, h⟩
theorem r_bin {l r : PySem.Expr} {op : Operator} {pos : Pos} {Q : Value → St → Prop} (h : Run c σ (eval l env) (KBinL c env op r Q)) : Run c σ (eval (.BinOp l op r pos) env) Q := fun _ I =>
  wpAny_BinOp (h.on I fun _ _ s₁ I₁ h₁ => h₁.on I₁ fun _ _ s₂ I₂ h₂ => h₂ s₂ I₂)
theorem r_una {x : PySem.Expr} {op : UnaryOp} {pos : Pos} {Q : Value → St → Prop} (h : Run c σ (eval x env) (KUna c op Q)) : Run c σ (eval (.UnaryOp op x pos) env) Q := fun _ I =>
  UnaryOp_ (h.on I fun _ _ s₁ I₁ h₁ => h₁ s₁ I₁)
theorem r_sub {value slice : PySem.Expr} {pos : Pos} {Q : Value → St → Prop} (h : Run c σ (eval value env) (KSubL c env value slice Q)) : Run c σ (eval (.Subscript value slice pos) env) Q := fun _ I =>
  Subscript_ (h.on I fun _ _ s₁ I₁ h₁ => h₁.on I₁ fun _ _ s₂ I₂ h₂ => h₂ s₂ I₂)
theorem r_argN {pos : Pos} {Q : List Value → St → Prop} (h : Q [] σ) : Run c σ (spliced (backTo pos (starEach [] env))) Q := fun _ I => args_nil ⟨σ, I, h⟩
theorem r_argC {e : PySem.Expr} {rest : List PySem.Expr} {pos : Pos} {Q : List Value → St → Prop} (h : Run c σ (eval e env) (KArgs c env rest pos Q)) (he : noStar e = true) : Run c σ (spliced (backTo pos (starEach (e :: rest) env))) Q := fun _ I =>
  args_cons (h.on I fun _ _ _ I₁ h₁ => h₁.on I₁ fun _ σ₂ _ I₂ h₂ => ⟨σ₂, I₂, h₂⟩) (star_of he)
theorem r_tup {elts : List PySem.Expr} {k : Nat} {pos : Pos} {Q : Value → St → Prop} (h : Run c σ (spliced (backTo pos (starEach elts env))) (KTup c Q)) : Run c σ (eval (.Tuple elts k pos) env) Q := fun _ I =>
  Tuple_ (h.on I fun _ _ s₁ I₁ h₁ => h₁ s₁ I₁)
theorem r_lst {elts : List PySem.Expr} {pos : Pos} {Q : Value → St → Prop} (h : Run c σ (spliced (backTo pos (starEach elts env))) (KLst c Q)) : Run c σ (eval (.List elts pos) env) Q := fun _ I =>
  List_ (h.on I fun _ _ s₁ I₁ h₁ => h₁ s₁ I₁)
theorem r_call {x : Str} {p pos : Pos} {args : List PySem.Expr} {Q : Value → St → Prop} (h : Run c σ (eval (.Name x p) env) (KWith c env args pos Q)) : Run c σ (eval (.Call (.Name x p) args [] pos) env) Q := fun _ I =>
  Call_ (h.on I fun _ _ s₁ I₁ h₁ => h₁ s₁ I₁) eval_callN
theorem r_mcall {o : PySem.Expr} {name : Str} {apos pos : Pos} {args : List PySem.Expr} {pl : Sem Bool} {Q : Value → St → Prop} (h : Run c σ (eval o env) (KMeth c env name pl args pos Q))
    (he : eval (.Call (.Attribute o name apos) args [] pos) env = (do let ov ← eval o env; standAt apos.atName; let (f, first) ← holding [ov] (getMethod ov name pl); callWith pos f first (backTo pos (starEach args env)) []) := by rfl) :
    Run c σ (eval (.Call (.Attribute o name apos) args [] pos) env) Q := fun _ I =>
  MethodCall_ (h.on I fun _ _ _ I₁ h₁ => h₁.on I₁ fun _ _ s₂ I₂ h₂ => h₂ s₂ I₂) he
theorem r_cwK {pos : Pos} {f : Value} {first : List Value} {e : PySem.Expr} {rest : List PySem.Expr} {Q : Value → St → Prop} (hk : keepIn (hd.heap_39 V.w.params) f = true) (h : Run c σ (spliced (backTo pos (starEach (e :: rest) env))) (KCall c f first Q))
    (he : (e :: rest).all noStar = true) : Run c σ (callWith pos f first (backTo pos (starEach (e :: rest) env)) []) Q := fun _ I =>
  callWith_K I.X hk (h.on I fun _ _ s₁ I₁ h₁ => ⟨I₁.X.keeps (let ⟨_, J⟩ := I₁; J.F.keep), h₁ s₁ I₁⟩) (star_of (List.all_eq_true.mp he _ (.head _))) (star_any (List.all_eq_true.mpr fun x hx => List.all_eq_true.mp he x (.tail _ hx)))
theorem r_cwB {pos : Pos} {id : String} {first : List Value} {e : PySem.Expr} {rest : List PySem.Expr} {Q : Value → St → Prop} (h : Run c σ (spliced (backTo pos (starEach (e :: rest) env))) (KCall c (.builtin id) first Q))
    (he : (e :: rest).all noStar = true) : Run c σ (callWith pos (.builtin id) first (backTo pos (starEach (e :: rest) env)) []) Q := fun _ I =>
  callWith_method1 (h.on I fun _ _ s₁ I₁ h₁ => h₁ s₁ I₁) (star_of (List.all_eq_true.mp he _ (.head _))) (star_any (List.all_eq_true.mpr fun x hx => List.all_eq_true.mp he x (.tail _ hx)))
theorem r_cwB0 {pos : Pos} {id : String} {first : List Value} {Q : Value → St → Prop} (h : Run c σ (call (.builtin id) first) Q) : Run c σ (callWith pos (.builtin id) first (backTo pos (starEach [] env)) []) Q := fun s I => callWith_method0 (h s I)
theorem r_cwT {pos : Pos} {T : String} {e : PySem.Expr} {rest : List PySem.Expr} {Q : Value → St → Prop} (h : Run c σ (spliced (backTo pos (starEach (e :: rest) env))) (KCallT c T Q))
    (he : (e :: rest).all noStar = true) : Run c σ (callWith pos (.type T) [] (backTo pos (starEach (e :: rest) env)) []) Q := fun _ I =>
  Pv.callWith_type1 (h.on I fun _ _ s₁ I₁ h₁ => h₁ s₁ I₁) (star_of (List.all_eq_true.mp he _ (.head _))) (star_any (List.all_eq_true.mpr fun x hx => List.all_eq_true.mp he x (.tail _ hx)))
-- constants
theorem r_cint {i : Int} {k : Nat} {pos : Pos} {Q : Value → St → Prop} (h : ∀ t, Q (.int i t) σ) : Run c σ (eval (.Constant (.int i) k pos) env) Q := fun _ I => wpAny_Constant_int ⟨σ, I.toks, h _⟩
theorem r_cstr {x : Str} {k : Nat} {pos : Pos} {Q : Value → St → Prop} (h : ∀ t, Q (.str x t) σ) : Run c σ (eval (.Constant (.str x) k pos) env) Q := fun _ I => Calls.Constant_str ⟨σ, I.toks, h _⟩
theorem r_cbool {b : Bool} {k : Nat} {pos : Pos} {Q : Value → St → Prop} (h : Q (.bool b) σ) : Run c σ (eval (.Constant (.bool b) k pos) env) Q := fun _ I => Constant_bool ⟨σ, I, h⟩
theorem r_cnone {k : Nat} {pos : Pos} {Q : Value → St → Prop} (h : Q .none σ) : Run c σ (eval (.Constant .none k pos) env) Q := fun _ I => wpAny_Constant_none ⟨σ, I, h⟩
-- ints
section
variable {a b : Int} {t u : Tok} {Q : Value → St → Prop}
theorem r_add (h : ∀ t, Q (.int (a + b) t) σ) : Run c σ (binaryOp .Add (.int a t) (.int b u)) Q := fun _ I => add_int ⟨σ, I.toks, h _⟩
theorem r_subI (h : ∀ t, Q (.int (a - b) t) σ) : Run c σ (binaryOp .Sub (.int a t) (.int b u)) Q := fun _ I => sub_int ⟨σ, I.toks, h _⟩
theorem r_mul (hm : IntMulOk a b) (h : ∀ t, Q (.int (a * b) t) σ) : Run c σ (binaryOp .Mult (.int a t) (.int b u)) Q := fun _ I => mul_int ⟨σ, I.toks, h _⟩ hm
theorem r_mod (hb : b ≠ 0) (h : ∀ t, Q (.int (a.fmod b) t) σ) : Run c σ (binaryOp .Mod (.int a t) (.int b u)) Q := fun _ I => mod_int' hb ⟨σ, I.toks, h _⟩
theorem r_fdiv (hb : b ≠ 0) (hp : Builtin.divisionGoesByPylong a b = false) (h : ∀ t, Q (.int (a.fdiv b) t) σ) : Run c σ (binaryOp .FloorDiv (.int a t) (.int b u)) Q := fun _ I => floordiv_int hb ⟨σ, I.toks, h _⟩ (.inl hp)
theorem r_neg (h : ∀ t, Q (.int (-a) t) σ) : Run c σ (unaryOp .USub (.int a t)) Q := fun _ I => neg_int ⟨σ, I.toks, h _⟩
theorem r_lt (h : Q (.bool (decide (a < b))) σ) : Run c σ (compareOp .Lt (.int a t) (.int b u)) Q := fun _ I => lt_int ⟨σ, I, h⟩
theorem r_gt (h : Q (.bool (decide (b < a))) σ) : Run c σ (compareOp .Gt (.int a t) (.int b u)) Q := fun _ I => gt_int ⟨σ, I, h⟩
theorem r_eqI (h : Q (.bool (a == b)) σ) : Run c σ (compareOp .Eq (.int a t) (.int b u)) Q := fun _ I => eq_int ⟨σ, I, h⟩
theorem r_neI (h : Q (.bool (a != b)) σ) : Run c σ (compareOp .NotEq (.int a t) (.int b u)) Q := fun _ I => ne_int ⟨σ, I, h⟩
theorem r_isNN (h : Q (.bool true) σ) : Run c σ (compareOp .Is .none .none) Q := fun _ I => is_none_none ⟨σ, I, h⟩
theorem r_eqS {x y : Str} (h : Q (.bool (x == y)) σ) : Run c σ (compareOp .Eq (.str x t) (.str y u)) Q := fun _ I => eq_str ⟨σ, I, h⟩
end
end
-- names
def isL (V : Vis) (x : Str) : Bool := V.cp.isEmpty && V.fenv.kindOf x == some .local && !(x == "__debug__")
def isC (V : Vis) (x : Str) : Bool := V.cp.isEmpty && V.fenv.kindOf x == some .cell && (V.cl.lookup x).isSome && !(x == "__debug__")
def isF (V : Vis) (x : Str) : Bool := V.cp.isEmpty && V.fenv.kindOf x == some .free && (V.cl.lookup x).isSome && !(x == "__debug__") && !(x == "__classdict__")
def isG (V : Vis) (x : Str) : Bool := V.cp.isEmpty && V.fenv.kindOf x == some .globalImplicit && !(x == "__debug__")
def isOwn (V : Vis) (x : Str) (v : Value) : Prop := ∃ k r, V.cp = k :: r ∧ k.own.lookup x = some v ∧ (compEnvC k.scope k.cl k.C (cpEnv V.fenv r)).scope.kind = .function ∧ (compEnvC k.scope k.cl k.C (cpEnv V.fenv r)).kindOf x = some .local ∧ (x == ("__debug__" : Str)) = false
def isCC (V : Vis) (x : Str) (a : Addr) : Prop := V.cl.lookup x = some a ∧ ∃ k r, V.cp = k :: r ∧ k.cl.lookup x = some a ∧ (compEnvC k.scope k.cl k.C (cpEnv V.fenv r)).scope.kind = .function ∧ (compEnvC k.scope k.cl k.C (cpEnv V.fenv r)).kindOf x = some .cell ∧ (x == ("__debug__" : Str)) = false
def isCG (V : Vis) (x : Str) : Prop := ∃ k r, V.cp = k :: r ∧ (cpEnv V.fenv r).globals = mainGlobals ∧ (cpEnv V.fenv r).builtins = builtinsNs ∧ (compEnvC k.scope k.cl k.C (cpEnv V.fenv r)).scope.kind = .function ∧ (compEnvC k.scope k.cl k.C (cpEnv V.fenv r)).kindOf x = some .globalImplicit ∧ (x == ("__debug__" : Str)) = false
theorem env_top {V : Vis} (h : V.cp.isEmpty = true) : V.env = V.fenv := by
  unfold Vis.env
  rw [List.isEmpty_iff.mp h]; rfl
section
variable {V : Vis} {c : Ctx V} {σ : St} {x : Str} {pos : Pos} {v : Value} {Q : Value → St → Prop}
theorem r_loc (hx : isL V x = true) (hv : σ.m x = some v) (h : Q v σ) : Run c σ (eval (.Name x pos) V.env) Q := fun s I => by
  simp only [isL, Bool.and_eq_true, beq_iff_eq, Bool.not_eq_true'] at hx
  obtain ⟨⟨h1, h2⟩, h3⟩ := hx
  rw [env_top h1]
  obtain ⟨ce, I⟩ := I
  exact nameX_L I.F hv ⟨σ, ⟨ce, I⟩, h⟩ c.hk h2 h3
theorem cell_at {ce : Led} {s : Shared} {a : Addr} (I : InvC c σ ce s) (hl : V.cl.lookup x = some a) : ∃ o, (a, o) ∈ c.hid ++ (ce ++ (σ.mt ++ (σ.fl ++ V.nd))) ∧ o.data = .cell (σ.cm x) := by
  obtain ⟨o, ho, hd⟩ := I.C x a hl
  split at ho
  · exact ⟨o, List.mem_append_right _ (List.mem_append_right _ (List.mem_append_right _ (List.mem_append_right _ ho))), hd⟩
  · exact ⟨o, List.mem_append_right _ (List.mem_append_left _ ho), hd⟩
theorem r_cel (hx : isC V x = true) (hv : σ.cm x = some v) (h : Q v σ) : Run c σ (eval (.Name x pos) V.env) Q := fun s I => by
  simp only [isC, Bool.and_eq_true, beq_iff_eq, Bool.not_eq_true'] at hx
  obtain ⟨⟨⟨h1, h2⟩, h4⟩, h3⟩ := hx
  obtain ⟨a, h4⟩ := Option.isSome_iff_exists.mp h4
  rw [env_top h1]
  obtain ⟨ce, I⟩ := I
  obtain ⟨o, ho, hd⟩ := cell_at I h4
  exact nameX_C I.N h4 ho (hv ▸ hd) ⟨σ, ⟨ce, I⟩, h⟩ c.hk h2 h3
theorem r_fre (hx : isF V x = true) (hv : σ.cm x = some v) (h : Q v σ) : Run c σ (eval (.Name x pos) V.env) Q := fun s I => by
  simp only [isF, Bool.and_eq_true, beq_iff_eq, Bool.not_eq_true'] at hx
  obtain ⟨⟨⟨⟨h1, h2⟩, h4⟩, h3⟩, h5⟩ := hx
  obtain ⟨a, h4⟩ := Option.isSome_iff_exists.mp h4
  rw [env_top h1]
  obtain ⟨ce, I⟩ := I
  obtain ⟨o, ho, hd⟩ := cell_at I h4
  exact nameX_F I.N h4 ho (hv ▸ hd) ⟨σ, ⟨ce, I⟩, h⟩ c.hk h2 h3 h5
theorem r_glob (hx : isG V x = true) (hv : nsIn (hd.heap_39 V.w.params) mainGlobals x = some (some v)) (h : Q v σ) : Run c σ (eval (.Name x pos) V.env) Q := fun s I => by
  simp only [isG, Bool.and_eq_true, beq_iff_eq, Bool.not_eq_true'] at hx
  obtain ⟨⟨h1, h2⟩, h3⟩ := hx
  rw [env_top h1]
  have T := I.T
  have X := I.X
  obtain ⟨ce, I⟩ := I
  exact nameX_K I.F X (topRead_of T) hv ⟨σ, ⟨ce, I⟩, h⟩ c.hk h2 h3
theorem r_blt (hx : isG V x = true) (hn : nsIn (hd.heap_39 V.w.params) mainGlobals x = some none) (hv : bootBuiltins x = some v) (hm : (x == "__name__") = false) (h : Q v σ) : Run c σ (eval (.Name x pos) V.env) Q := fun s I => by
  simp only [isG, Bool.and_eq_true, beq_iff_eq, Bool.not_eq_true'] at hx
  obtain ⟨⟨h1, h2⟩, h3⟩ := hx
  rw [env_top h1]
  have T := I.T
  have X := I.X
  obtain ⟨ce, I⟩ := I
  exact nameX_B I.F X (topRead_of T) hn hv (beq_eq_false_iff_ne.mp hm) ⟨σ, ⟨ce, I⟩, h⟩ c.hk h2 h3
theorem r_own (hx : isOwn V x v) (h : Q v σ) : Run c σ (eval (.Name x pos) V.env) Q := fun s I => by
  obtain ⟨k, r, e, h1, h2, h3, h4⟩ := hx
  obtain ⟨ce, I⟩ := I
  obtain ⟨oC, m₂, h5, h6, h7⟩ := I.K k (e ▸ .head _)
  have ee : V.env = compEnvC k.scope k.cl k.C (cpEnv V.fenv r) := by unfold Vis.env; rw [e]; rfl
  rw [ee]
  exact LCgL.ld_own I.N (List.mem_append_left _ h5) h6 (h7 _ _ h1) ⟨σ, ⟨ce, I⟩, h⟩ h2 h3 h4
theorem r_ccel {a : Addr} (hx : isCC V x a) (hv : σ.cm x = some v) (h : Q v σ) : Run c σ (eval (.Name x pos) V.env) Q := fun s I => by
  obtain ⟨h0, k, r, e, h1, h2, h3, h4⟩ := hx
  obtain ⟨ce, I⟩ := I
  obtain ⟨o, ho, hd⟩ := cell_at I h0
  have ee : V.env = compEnvC k.scope k.cl k.C (cpEnv V.fenv r) := by unfold Vis.env; rw [e]; rfl
  rw [ee]
  exact kcf_cell I.N h1 ho (hv ▸ hd) ⟨σ, ⟨ce, I⟩, h⟩ h2 h3 h4
theorem r_cglob (hx : isCG V x) (hv : nsIn (hd.heap_39 V.w.params) mainGlobals x = some (some v)) (h : Q v σ) : Run c σ (eval (.Name x pos) V.env) Q := fun s I => by
  obtain ⟨k, r, e, h1, h2, h3, h4, h5⟩ := hx
  have T := I.T
  have X := I.X
  obtain ⟨ce, I⟩ := I
  have ee : V.env = compEnvC k.scope k.cl k.C (cpEnv V.fenv r) := by unfold Vis.env; rw [e]; rfl
  rw [ee]
  exact LCgL.ld_global I.F X T hv ⟨σ, ⟨ce, I⟩, h⟩ h1 h3 h4 h5
theorem r_cblt (hx : isCG V x) (hn : nsIn (hd.heap_39 V.w.params) mainGlobals x = some none) (hv : bootBuiltins x = some v) (hm : (x == "__name__") = false) (h : Q v σ) : Run c σ (eval (.Name x pos) V.env) Q := fun s I => by
  obtain ⟨k, r, e, h1, h2, h3, h4, h5⟩ := hx
  have T := I.T
  have X := I.X
  obtain ⟨ce, I⟩ := I
  have ee : V.env = compEnvC k.scope k.cl k.C (cpEnv V.fenv r) := by unfold Vis.env; rw [e]; rfl
  rw [ee]
  exact LCgL.ld_built I.F X T hn hv (beq_eq_false_iff_ne.mp hm) ⟨σ, ⟨ce, I⟩, h⟩ h1 h2 h3 h4 h5
theorem sp1 {env : Env} {e1 : PySem.Expr} {Q : List Value → St → Prop} (he : noStar e1 = true) (h : Run c σ (eval e1 env) (fun a σ₁ => Q [a] σ₁)) : Run c σ (spliced (backTo pos (starEach [e1] env))) Q := r_argC (h.mono fun _ _ h => r_argN h) he
theorem sp2 {env : Env} {e1 e2 : PySem.Expr} {Q : List Value → St → Prop} (he : [e1, e2].all noStar = true) (h : Run c σ (eval e1 env) (fun a σ₁ => Run c σ₁ (eval e2 env) (fun b σ₂ => Q [a, b] σ₂))) : Run c σ (spliced (backTo pos (starEach [e1, e2] env))) Q :=
  have hs := List.all_eq_true.mp he
  r_argC (h.mono fun _ _ h => r_argC (h.mono fun _ _ h => r_argN h) (hs _ (.tail _ (.head _)))) (hs _ (.head _))
structure DefAt (w : World) (x : Str) (f : Value) : Prop where
  at_ : nsIn (hd.heap_39 w.params) mainGlobals x = some (some f)
  keep : keepIn (hd.heap_39 w.params) f = true
theorem r_g1 {p pos : Pos} {e1 : PySem.Expr} (hf : DefAt V.w x v) (hx : (isG V x && noStar e1) = true) (h : Run c σ (eval e1 V.env) (KArg1 c v Q)) : Run c σ (eval (.Call (.Name x p) [e1] [] pos) V.env) Q := by
  rw [Bool.and_eq_true] at hx
  exact r_call (r_glob hx.1 hf.at_ (r_cwK hf.keep (sp1 hx.2 h) (by simp [hx.2])))
theorem r_g2 {p pos : Pos} {e1 e2 : PySem.Expr} (hf : DefAt V.w x v) (hx : (isG V x && [e1, e2].all noStar) = true) (h : Run c σ (eval e1 V.env) (KArg2 c V.env v e2 Q)) : Run c σ (eval (.Call (.Name x p) [e1, e2] [] pos) V.env) Q := by
  rw [Bool.and_eq_true] at hx
  exact r_call (r_glob hx.1 hf.at_ (r_cwK hf.keep (sp2 hx.2 h) hx.2))
theorem r_gN {p pos : Pos} {e1 : PySem.Expr} {rest : List PySem.Expr} (hf : DefAt V.w x v) (hx : (isG V x && (e1 :: rest).all noStar) = true) (h : Run c σ (spliced (backTo pos (starEach (e1 :: rest) V.env))) (KCallV c v Q)) : Run c σ (eval (.Call (.Name x p) (e1 :: rest) [] pos) V.env) Q := by
  rw [Bool.and_eq_true] at hx
  exact r_call (r_glob hx.1 hf.at_ (r_cwK hf.keep h hx.2))
section
variable {env : Env} {e1 e2 : PySem.Expr} {o : Value}
theorem r_cwM1 {id : String} (he : noStar e1 = true) (h : Run c σ (eval e1 env) (KArg2b c (.builtin id) o Q)) : Run c σ (callWith pos (.builtin id) [o] (backTo pos (starEach [e1] env)) []) Q := r_cwB (sp1 he h) (by simp [he])
theorem r_cwM2 {id : String} (he : [e1, e2].all noStar = true) (h : Run c σ (eval e1 env) (KArg3 c env (.builtin id) o e2 Q)) : Run c σ (callWith pos (.builtin id) [o] (backTo pos (starEach [e1, e2] env)) []) Q := r_cwB (sp2 he h) he
theorem r_cwI1 {f : Addr} (hk : keepIn (hd.heap_39 V.w.params) (.ref f) = true) (he : noStar e1 = true) (h : Run c σ (eval e1 env) (KArg2b c (.ref f) o Q)) : Run c σ (callWith pos (.ref f) [o] (backTo pos (starEach [e1] env)) []) Q := r_cwK hk (sp1 he h) (by simp [he])
theorem r_cwB1 {id : String} (he : noStar e1 = true) (h : Run c σ (eval e1 env) (KArg1 c (.builtin id) Q)) : Run c σ (callWith pos (.builtin id) [] (backTo pos (starEach [e1] env)) []) Q := r_cwB (sp1 he h) (by simp [he])
theorem r_cwT1 {T : String} (he : noStar e1 = true) (h : Run c σ (eval e1 env) (KArg1 c (.type T) Q)) : Run c σ (callWith pos (.type T) [] (backTo pos (starEach [e1] env)) []) Q := r_cwT (sp1 he h) (by simp [he])
end
theorem r_cwKV {env : Env} {f : Value} {e : PySem.Expr} {rest : List PySem.Expr} (hk : keepIn (hd.heap_39 V.w.params) f = true) (he : (e :: rest).all noStar = true) (h : Run c σ (spliced (backTo pos (starEach (e :: rest) env))) (KCallV c f Q)) : Run c σ (callWith pos f [] (backTo pos (starEach (e :: rest) env)) []) Q := r_cwK hk h he
theorem r_cwK2 {env : Env} {f : Value} {e1 e2 : PySem.Expr} (hk : keepIn (hd.heap_39 V.w.params) f = true) (he : [e1, e2].all noStar = true) (h : Run c σ (eval e1 env) (KArg2 c env f e2 Q)) : Run c σ (callWith pos f [] (backTo pos (starEach [e1, e2] env)) []) Q := r_cwK hk (sp2 he h) he
-- storing names
theorem r_store {Q : Unit → St → Prop} (hx : isL V x = true) (h : let σ' := σ.put x v; Q () σ') : Run c σ (storeName V.env x v) Q := fun s I => by
  simp only [isL, Bool.and_eq_true, beq_iff_eq, Bool.not_eq_true'] at hx
  obtain ⟨⟨h1, h2⟩, _⟩ := hx
  rw [env_top h1]
  obtain ⟨ce, I⟩ := I
  exact storeX_L I.F I.N (fun h' F' N' => ⟨σ.put x v, ⟨ce, F', N', I.C, I.S, I.O, I.K, I.R⟩, h⟩) c.hk h2
theorem lookup_mem {α β : Type} [BEq α] [LawfulBEq α] : ∀ {l : List (α × β)} {x : α} {b : β}, l.lookup x = some b → (x, b) ∈ l
  | [], _, _, h => by cases h
  | (y, d) :: l, x, b, h => by
    rw [List.lookup_cons] at h
    cases e : x == y
    · rw [e] at h; exact .tail _ (lookup_mem h)
    · rw [e] at h
      rw [beq_iff_eq.mp e, ← Option.some.inj h]; exact .head _
theorem lookup_inj {α : Type} [BEq α] [LawfulBEq α] {l : List (α × Addr)} (hn : (l.map (·.2)).Nodup) {x y : α} {a : Addr} (h1 : l.lookup x = some a) (h2 : l.lookup y = some a) : x = y := by
  have m1 := lookup_mem h1
  have m2 := lookup_mem h2
  clear h1 h2
  induction l with
  | nil => cases m1
  | cons p l ih =>
    rw [List.map_cons, List.nodup_cons] at hn
    rcases List.mem_cons.mp m1 with e1 | n1
    · rcases List.mem_cons.mp m2 with e2 | n2
      · exact (Prod.mk.inj (e1.trans e2.symm)).1
      · exact absurd (e1 ▸ List.mem_map.mpr ⟨(y, a), n2, rfl⟩ : p.2 ∈ l.map (·.2)) hn.1
    · rcases List.mem_cons.mp m2 with e2 | n2
      · exact absurd (e2 ▸ List.mem_map.mpr ⟨(x, a), n1, rfl⟩ : p.2 ∈ l.map (·.2)) hn.1
      · exact ih hn.2 n1 n2
theorem cellsFrom_nodup : ∀ (names : List (Str × NameKind)) (n : Nat) (acc : List (Str × Addr)), (acc.map (·.2)).Nodup → (∀ p ∈ acc, p.2 < n) → ((cellsFrom n names acc).map (·.2)).Nodup
  | [], _, _, h, _ => h
  | (x, k) :: r, n, acc, h, hl => by
    unfold cellsFrom
    split
    · refine cellsFrom_nodup r _ _ (List.nodup_cons.mpr ⟨fun q => ?_, h⟩) fun p hp => ?_
      · obtain ⟨p, hp, e⟩ := List.mem_map.mp q
        exact absurd (hl p hp) (by rw [e]; exact Nat.lt_irrefl _)
      · rcases List.mem_cons.mp hp with rfl | hp
        · exact Nat.lt_succ_self _
        · exact Nat.lt_succ_of_lt (hl p hp)
    · exact cellsFrom_nodup r _ _ h hl
theorem cells_nodup {L : Addr} {names : List (Str × NameKind)} : ((cellsFrom (L + 1) names []).map (·.2)).Nodup := cellsFrom_nodup _ _ _ List.nodup_nil fun _ h => nomatch h
def repA (a : Addr) (o' : Obj) (l : Led) : Led := l.map fun p => if p.1 = a then (a, o') else p
theorem repA_keys {a : Addr} {o' : Obj} {l : Led} : (repA a o' l).map (·.1) = l.map (·.1) := by
  induction l with
  | nil => rfl
  | cons p l ih =>
    show (if p.1 = a then (a, o') else p).1 :: (repA a o' l).map (·.1) = _
    rw [ih, List.map_cons]
    by_cases h : p.1 = a
    · rw [if_pos h, h]
    · rw [if_neg h]
theorem repA_mem {a : Addr} {o o' : Obj} {l : Led} (h : (a, o) ∈ l) : (a, o') ∈ repA a o' l := List.mem_map.mpr ⟨_, h, if_pos rfl⟩
theorem repA_keep {a : Addr} {o' : Obj} {l : Led} {p : Addr × Obj} (h : p ∈ l) (hn : p.1 ≠ a) : p ∈ repA a o' l := List.mem_map.mpr ⟨_, h, if_neg hn⟩
theorem repA_of {a : Addr} {o' : Obj} {l : Led} {p : Addr × Obj} (h : p ∈ repA a o' l) : p = (a, o') ∨ (p ∈ l ∧ p.1 ≠ a) := by
  obtain ⟨q, hq, e⟩ := List.mem_map.mp h
  by_cases hn : q.1 = a
  · rw [if_pos hn] at e; exact .inl e.symm
  · rw [if_neg hn] at e; exact .inr ⟨e ▸ hq, e ▸ hn⟩
theorem key_mem {l l' : Led} (h : l'.map (·.1) = l.map (·.1)) {p : Addr × Obj} (hp : p ∈ l') : ∃ q ∈ l, q.1 = p.1 := by
  have : p.1 ∈ l.map (·.1) := h ▸ List.mem_map_of_mem hp
  obtain ⟨q, hq, e⟩ := List.mem_map.mp this
  exact ⟨q, hq, e⟩
theorem r_storeC {Q : Unit → St → Prop} (hx : isC V x = true) (hn : (V.cl.map (·.2)).Nodup) (h : let σ' := σ.putc x v; Q () σ') : Run c σ (storeName V.env x v) Q := fun s I => by
  simp only [isC, Bool.and_eq_true, beq_iff_eq, Bool.not_eq_true'] at hx
  obtain ⟨⟨⟨h1, h2⟩, h4⟩, _⟩ := hx
  obtain ⟨a, h4⟩ := Option.isSome_iff_exists.mp h4
  rw [env_top h1]
  obtain ⟨ce, I⟩ := I
  obtain ⟨o, ho, hd⟩ := I.C x a h4
  have hnf : ¬ (V.fenv.kindOf x = some .free) := by rw [h2]; exact fun e => nomatch e
  rw [if_neg hnf] at ho
  have hm : (a, o) ∈ c.hid ++ (ce ++ (σ.mt ++ (σ.fl ++ V.nd))) := List.mem_append_right _ (List.mem_append_left _ ho)
  have Na := I.N _ hm
  refine wpAny_storeName_cell c.hk h2 h4 ⟨o, Na.1, hd⟩ fun h' hv hs => ?_
  obtain ⟨o', ho', hd'⟩ := hv
  have hS := I.S.1
  rw [List.map_append, List.map_append, List.nodup_append] at hS
  have hS2 := (List.nodup_append.mp hS.2.1)
  have o1 : ∀ p ∈ c.hid, p.1 ≠ a := fun p hp e => hS.2.2 _ (List.mem_map_of_mem hp) a (List.mem_append_left _ (List.mem_map.mpr ⟨_, ho, rfl⟩)) e
  have o2 : ∀ p ∈ σ.mt, p.1 ≠ a := fun p hp e => hS2.2.2 a (List.mem_map.mpr ⟨_, ho, rfl⟩) _ (List.mem_map_of_mem hp) e.symm
  have o3 : ∀ p ∈ σ.fl ++ V.nd, p.1 ≠ a := fun p hp e => I.S.2 (a, o) (List.mem_append_right _ (List.mem_append_left _ ho)) p hp e.symm
  have up : ∀ p : Addr × Obj, p ∈ c.hid ++ (ce ++ (σ.mt ++ (σ.fl ++ V.nd))) → p.1 ≠ a → h'.get? p.1 = some p.2 ∧ p.1 ≠ V.L ∧ c.g.get? p.1 = none := fun p hp hne => ⟨(hs.2 _ hne).trans (I.N p hp).1, (I.N p hp).2⟩
  refine ⟨σ.putc x v, ⟨repA a o' ce, ⟨I.F.ns.sameBut hs (Ne.symm Na.2.1), fun b ob e => (hs.2 b (fun q => ?_)).trans (I.F.keep b ob e), I.F.above⟩, fun p hp => ?_, fun y b hy => ?_, ⟨?_, fun p hp q hq => ?_⟩, I.O, I.K, I.R⟩, h⟩
  · rw [q, Na.2.2] at e; cases e
  · rcases List.mem_append.mp hp with hp | hp
    · exact up p (List.mem_append_left _ hp) (o1 p hp)
    rcases List.mem_append.mp hp with hp | hp
    · rcases repA_of hp with rfl | ⟨hp, hne⟩
      · exact ⟨ho', Na.2⟩
      · exact up p (List.mem_append_right _ (List.mem_append_left _ hp)) hne
    rcases List.mem_append.mp hp with hp | hp
    · exact up p (List.mem_append_right _ (List.mem_append_right _ (List.mem_append_left _ hp))) (o2 p hp)
    · exact up p (List.mem_append_right _ (List.mem_append_right _ (List.mem_append_right _ hp))) (o3 p hp)
  · obtain ⟨oy, hy1, hy2⟩ := I.C y b hy
    show ∃ o, (b, o) ∈ (if V.fenv.kindOf y = some .free then V.nd else repA a o' ce) ∧ o.data = .cell (if y = x then some v else σ.cm y)
    by_cases e : y = x
    · subst e
      rw [if_neg hnf, if_pos rfl]
      have : b = a := Option.some.inj (hy.symm.trans h4)
      subst this
      exact ⟨o', repA_mem ho, hd'⟩
    · rw [if_neg e]
      split at hy1
      · rename_i q; rw [if_pos q]; exact ⟨oy, hy1, hy2⟩
      · rename_i q; rw [if_neg q]
        exact ⟨oy, repA_keep hy1 fun eb => e (lookup_inj hn (hy.trans (congrArg some (show b = a from eb))) h4), hy2⟩
  · have q := I.S.1
    show ((c.hid ++ (repA a o' ce ++ σ.mt)).map (·.1)).Nodup
    rw [List.map_append, List.map_append] at q ⊢
    rw [repA_keys]; exact q
  · have hp : p ∈ c.hid ++ (repA a o' ce ++ σ.mt) := hp
    rcases List.mem_append.mp hp with hp | hp
    · exact I.S.2 p (List.mem_append_left _ hp) q hq
    rcases List.mem_append.mp hp with hp | hp
    · obtain ⟨p', hp', e⟩ := key_mem repA_keys hp
      rw [← e]; exact I.S.2 p' (List.mem_append_right _ (List.mem_append_left _ hp')) q hq
    · exact I.S.2 p (List.mem_append_right _ (List.mem_append_right _ hp)) q hq
end
end R2
section R3
section
variable {V : Vis} {c : Ctx V} {σ : St} {env : Env}
theorem sz_of {n m : Nat} (h : Nat.ble n m = true) (hm : m ≤ 16384) : n ≤ sizeLine := Nat.le_trans (Nat.le_of_ble_eq_true h) (Nat.le_trans hm (by rw [sizeLine_eq]; decide))
abbrev KStore (c : Ctx V) (env : Env) (x : Str) (Q : Flow → St → Prop) : Value → St → Prop := fun v σ => Run c σ (storeName env x v) (KNext Q)
abbrev KSetA2 (c : Ctx V) (attr : Str) (v : Value) (Q : Flow → St → Prop) : Value → St → Prop := fun ov σ => Run c σ (setAttr ov attr v) (KNext Q)
abbrev KSetA (c : Ctx V) (env : Env) (o : PySem.Expr) (attr : Str) (Q : Flow → St → Prop) : Value → St → Prop := fun v σ => Run c σ (eval o env) (KSetA2 c attr v Q)
abbrev KSetS3 (c : Ctx V) (v ov : Value) (Q : Flow → St → Prop) : Value → St → Prop := fun iv σ => Run c σ (setItem ov iv v) (KNext Q)
abbrev KSetS2 (c : Ctx V) (env : Env) (i : PySem.Expr) (v : Value) (Q : Flow → St → Prop) : Value → St → Prop := fun ov σ => Run c σ (eval i env) (KSetS3 c v ov Q)
abbrev KSetS (c : Ctx V) (env : Env) (o i : PySem.Expr) (Q : Flow → St → Prop) : Value → St → Prop := fun v σ => Run c σ (eval o env) (KSetS2 c env i v Q)
abbrev KAsg (c : Ctx V) (env : Env) (e : PySem.Expr) (Q : Flow → St → Prop) : Value → St → Prop := fun v σ => Run c σ (assign e env v) (KNext Q)
abbrev KSwap2 (c : Ctx V) (env : Env) (names : List Str) (Q : Flow → St → Prop) : List Value → St → Prop := fun items σ => Run c σ (assignInOrder (names.reverse.map (fun n => bindName env n)) items.reverse) (KNext Q)
abbrev KSwap (c : Ctx V) (env : Env) (names : List Str) (Q : Flow → St → Prop) : Value → St → Prop := fun v σ => Run c σ (unpackItems v names.length none) (KSwap2 c env names Q)
abbrev KAio (c : Ctx V) (ts : List (Value → Sem Unit)) (xs : List Value) (Q : Unit → St → Prop) : Unit → St → Prop := fun _ σ => Run c σ (assignInOrder ts xs) Q
abbrev KGetA (c : Ctx V) (attr : Str) (Q : Value → St → Prop) : Value → St → Prop := fun o σ => Run c σ (getAttr o attr true) Q
-- statements that store
theorem r_set {value : PySem.Expr} {x : Str} {pos' pos : Pos} {Q : Flow → St → Prop} (h : Run c σ (eval value env) (KStore c env x Q)) (hs : swapsWith value (some (.Name x pos')) pos.line env = pure false := by rfl) : Run c σ (exec (.Assign [.Name x pos'] value pos) env) Q := fun _ I =>
  wpAny_Assign_Name (h.on I fun _ _ _ I₁ h₁ => h₁.on I₁ fun _ σ₂ _ I₂ h₂ => ⟨σ₂, I₂, h₂⟩) hs
theorem r_setA {o value : PySem.Expr} {attr : Str} {pos' pos : Pos} {Q : Flow → St → Prop} (h : Run c σ (eval value env) (KSetA c env o attr Q)) (hs : swapsWith value (some (.Attribute o attr pos')) pos.line env = pure false := by rfl) : Run c σ (exec (.Assign [.Attribute o attr pos'] value pos) env) Q := fun _ I =>
  plainObj_wpAny_Assign_Attribute (h.on I fun _ _ _ I₁ h₁ => h₁.on I₁ fun _ _ _ I₂ h₂ => h₂.on I₂ fun _ σ₃ _ I₃ h₃ => ⟨σ₃, I₃, h₃⟩) hs
theorem r_setS {o i value : PySem.Expr} {pos' pos : Pos} {Q : Flow → St → Prop} (h : Run c σ (eval value env) (KSetS c env o i Q)) (hs : swapsWith value (some (.Subscript o i pos')) pos.line env = pure false := by rfl) : Run c σ (exec (.Assign [.Subscript o i pos'] value pos) env) Q := fun _ I =>
  wpAny_Assign_Subscript (h.on I fun _ _ _ I₁ h₁ => h₁.on I₁ fun _ _ _ I₂ h₂ => h₂.on I₂ fun _ _ _ I₃ h₃ => h₃.on I₃ fun _ σ₄ _ I₄ h₄ => ⟨σ₄, I₄, h₄⟩) hs
theorem r_setT {elts : List PySem.Expr} {k : Nat} {tpos pos : Pos} {value : PySem.Expr} {Q : Flow → St → Prop} (h : Run c σ (eval value env) (KAsg c env (.Tuple elts k tpos) Q)) (hs : swapsWithSole [.Tuple elts k tpos] value pos.line env = pure false := by rfl) (hw : swappedStores [.Tuple elts k tpos] value env = pure none := by rfl) : Run c σ (exec (.Assign [.Tuple elts k tpos] value pos) env) Q := fun _ I =>
  Assign_Tuple (h.on I fun _ _ _ I₁ h₁ => h₁.on I₁ fun _ σ₂ _ I₂ h₂ => ⟨σ₂, I₂, h₂⟩) hs hw
theorem r_setW {elts : List PySem.Expr} {k : Nat} {tpos pos : Pos} {value : PySem.Expr} {names : List Str} {Q : Flow → St → Prop} (hw : swappedStores [.Tuple elts k tpos] value env = pure (some names)) (h : Run c σ (eval value env) (KSwap c env names Q)) (hs : swapsWithSole [.Tuple elts k tpos] value pos.line env = pure false := by rfl) : Run c σ (exec (.Assign [.Tuple elts k tpos] value pos) env) Q := fun _ I =>
  Assign_Tuple_swapped (h.on I fun _ _ _ I₁ h₁ => h₁.on I₁ fun _ _ _ I₂ h₂ => h₂.on I₂ fun _ σ₃ _ I₃ h₃ => ⟨σ₃, I₃, h₃⟩) hs hw
abbrev KSw2 (c : Ctx V) (env : Env) (x y : Str) (Q : Flow → St → Prop) : Value → St → Prop := fun v σ => Run c σ (unpackItems v 2 none) (KSwap2 c env [x, y] Q)
theorem r_setW2 {x y : Str} {px py : Pos} {k : Nat} {tpos pos : Pos} {value : PySem.Expr} {Q : Flow → St → Prop} (hw : swappedStores [.Tuple [.Name x px, .Name y py] k tpos] value env = pure (some [x, y])) (h : Run c σ (eval value env) (KSw2 c env x y Q)) (hs : swapsWithSole [.Tuple [.Name x px, .Name y py] k tpos] value pos.line env = pure false) : Run c σ (exec (.Assign [.Tuple [.Name x px, .Name y py] k tpos] value pos) env) Q := r_setW hw h hs
theorem r_aN {xs : List Value} {Q : Unit → St → Prop} (h : Q () σ) : Run c σ (assignInOrder [] xs) Q := fun _ I => assignInOrder_nil ⟨σ, I, h⟩
theorem r_aC {t : Value → Sem Unit} {ts : List (Value → Sem Unit)} {x : Value} {xs : List Value} {Q : Unit → St → Prop} (h : Run c σ (t x) (KAio c ts xs Q)) : Run c σ (assignInOrder (t :: ts) (x :: xs)) Q := fun _ I => assignInOrder_cons (h.on I fun _ _ s₁ I₁ h₁ => h₁ s₁ I₁)
theorem r_aName {x : Str} {pos : Pos} {v : Value} {Q : Unit → St → Prop} (h : Run c σ (storeName env x v) Q) : Run c σ (assign (.Name x pos) env v) Q := fun s I => PyProof.Rows.assign_Name (h s I)
theorem r_bindN {x : Str} {v : Value} {Q : Unit → St → Prop} (h : Run c σ (storeName env x v) Q) : Run c σ (bindName env x v) Q := fun s I => bindName_ (h s I)
theorem r_aTup {elts : List PySem.Expr} {k j : Nat} {pos : Pos} {t : Addr} {vs : List Value} {Q : Unit → St → Prop} (hm : Has V σ (t, tup vs j)) (h : Run c σ (assignInOrder ((assignEach elts env).map (·.2)) vs) Q) (hl : (assignEach elts env).length = vs.length := by rfl) (hf : (assignEach elts env).findIdx? (·.1) = none := by rfl) : Run c σ (assign (.Tuple elts k pos) env (.ref t)) Q := fun s I => by
  obtain ⟨ce, I⟩ := I
  refine unpackN_ (items := vs.toArray) I.F I.N ⟨_, hm.get I, rfl, j, rfl⟩ rfl (by rw [List.size_toArray]; exact hl) hf fun h' F' N' => ?_
  exact h _ (Inv.same I F' N')
theorem r_unp {t : Addr} {vs : List Value} {j n : Nat} {Q : List Value → St → Prop} (hm : Has V σ (t, tup vs j)) (hn : n = vs.length) (h : Q vs σ) : Run c σ (unpackItems (.ref t) n none) Q := fun s I => by
  obtain ⟨ce, I⟩ := I
  exact unpackItemsN_ (items := vs.toArray) I.F I.N ⟨_, hm.get I, rfl, j, rfl⟩ rfl (by rw [List.size_toArray]; exact hn) fun h' F' N' => ⟨σ, Inv.same I F' N', h⟩
abbrev KPut (c : Ctx V) (env : Env) (x : Str) (v : Value) (Q : Unit → St → Prop) : Unit → St → Prop := fun _ σ => Run c σ (storeName env x v) Q
theorem r_aTup2 {x y : Str} {px py pos : Pos} {k j : Nat} {t : Addr} {a b : Value} {Q : Unit → St → Prop} (hm : Has V σ (t, tup [a, b] j)) (h : Run c σ (storeName env x a) (KPut c env y b Q)) : Run c σ (assign (.Tuple [.Name x px, .Name y py] k pos) env (.ref t)) Q :=
  r_aTup hm (r_aC (r_aName (h.mono fun _ _ h => r_aC (r_aName (h.mono fun _ _ h => r_aN h)))))
theorem r_aTup4 {x y z u : Str} {px py pz pu pos : Pos} {k j : Nat} {t : Addr} {a b d e : Value} {Q : Unit → St → Prop} (hm : Has V σ (t, tup [a, b, d, e] j)) (h : Run c σ (storeName env x a) (KPut c env y b (KPut c env z d (KPut c env u e Q)))) : Run c σ (assign (.Tuple [.Name x px, .Name y py, .Name z pz, .Name u pu] k pos) env (.ref t)) Q :=
  r_aTup hm (r_aC (r_aName (h.mono fun _ _ h => r_aC (r_aName (h.mono fun _ _ h => r_aC (r_aName (h.mono fun _ _ h => r_aC (r_aName (h.mono fun _ _ h => r_aN h)))))))))
theorem r_swap2 {x y : Str} {a b : Value} {Q : Unit → St → Prop} (h : Run c σ (storeName env y b) (KPut c env x a Q)) : Run c σ (assignInOrder ([x, y].reverse.map (fun n => bindName env n)) [a, b].reverse) Q :=
  r_aC (r_bindN (h.mono fun _ _ h => r_aC (r_bindN (h.mono fun _ _ h => r_aN h))))
-- new objects
theorem r_newT {vs : List Value} {Q : Value → St → Prop} (hz : Nat.ble vs.length 1000 = true) (h : ∀ D, let σ' := σ.imm D (tup vs 0); Q (.ref D) σ') : Run c σ (newTuple vs) Q := fun s I => by
  obtain ⟨ce, I⟩ := I
  exact kup_newTuple I.F I.N (fun D h' F' N' l => ⟨_, I.imm F' N' fun p hp => Nat.ne_of_lt (l p hp), h D⟩) (sz_of hz (by decide))
theorem r_newL {vs : List Value} {Q : Value → St → Prop} (hz : Nat.ble vs.length 1000 = true) (h : ∀ D, let σ' := σ.imm D (listOf vs.toArray 0); Q (.ref D) σ') : Run c σ (newList vs) Q := fun s I => by
  obtain ⟨ce, I⟩ := I
  exact newList_K I.F I.N (fun D h' F' N' l => ⟨_, I.imm F' N' fun p hp => Nat.ne_of_lt (l p hp), h D⟩) (sz_of hz (by decide))
theorem r_newM {vs : List Value} {Q : Value → St → Prop} (hz : Nat.ble vs.length 1000 = true) (h : ∀ D, let σ' := σ.mut D (listOf vs.toArray 0); Q (.ref D) σ') : Run c σ (newList vs) Q := fun s I => by
  obtain ⟨ce, I⟩ := I
  exact newList_K I.F I.N (fun D h' F' N' l => ⟨_, I.mut F' N' fun p hp => Nat.ne_of_lt (l p hp), h D⟩) (sz_of hz (by decide))
-- items
def plainS : PySem.Expr → Bool
  | .Slice _ _ _ _ => false
  | _ => true
theorem plainS_eq {slice : PySem.Expr} {o i : Value} (h : plainS slice = true) : subscripted slice false o i = operate [o, i] (getItem o i) := by
  unfold subscripted
  split
  · cases h
  · rename_i e; cases e
  · rfl
def itemT (vs : List Value) (i : Int) : Option Value := if -1000 ≤ i ∧ i < 1000 then (seqIndex? i vs.length).bind (vs[·]?) else none
theorem r_itemT {value slice : PySem.Expr} {t : Addr} {vs : List Value} {i : Int} {u : Tok} {n : Nat} {x : Value} {Q : Value → St → Prop} (hm : Has V σ (t, tup vs n)) (hx : itemT vs i = some x) (h : Q x σ) (hp : plainS slice = true := by rfl) : Run c σ (subscriptTail value slice (.ref t) (.int i u)) Q := fun s I => by
  obtain ⟨ce, I⟩ := I
  unfold itemT at hx
  split at hx
  · rename_i hb
    cases hj : seqIndex? i vs.length with
    | none => rw [hj] at hx; cases hx
    | some j =>
      rw [hj] at hx
      exact item_tupleT ⟨_, hm.get I, rfl, n, rfl⟩ (by omega) (by omega) hj hx ⟨σ, ⟨ce, I⟩, h⟩ (plainS_eq hp)
  · cases hx
theorem r_itemL {value slice : PySem.Expr} {t : Addr} {vs : List Value} {i : Int} {u : Tok} {n : Nat} {x : Value} {Q : Value → St → Prop} (hm : Has V σ (t, listOf vs.toArray n)) (h0 : 0 ≤ i) (h1 : i < 1000000) (hx : vs[i.toNat]? = some x) (h : Q x σ) (hp : plainS slice = true := by rfl) : Run c σ (subscriptTail value slice (.ref t) (.int i u)) Q := fun s I => by
  obtain ⟨ce, I⟩ := I
  exact my_item ⟨_, hm.get I, rfl, n, rfl⟩ h0 (by omega) hx ⟨σ, ⟨ce, I⟩, h⟩ (plainS_eq hp)
-- attributes
structure AttrOK (w : World) (C : Addr) (name : Str) : Prop where
  g : plainGet (hd.heap_39 w.params) C name = true
  d : hasDictIn (hd.heap_39 w.params) C = true
  f : ∃ attr, findIn (hd.heap_39 w.params) (.ref C) name = some attr ∧ noGet (hd.heap_39 w.params) attr = true
structure SetOK (w : World) (C : Addr) (name : Str) : Prop where
  s : findIn (hd.heap_39 w.params) (.ref C) "__setattr__" = some (some (.builtin "object.__setattr__"))
  p : plainOver (hd.heap_39 w.params) C = true
  t : takerIn (hd.heap_39 w.params) C name = some none
  d : hasDictIn (hd.heap_39 w.params) C = true
theorem r_getA {x C dx : Addr} {es : List DictEntry} {n : Nat} {name : Str} {ex : Bool} {v : Value} {Q : Value → St → Prop} (hi : Has V σ (x, instObj C dx)) (hq : Has V σ (dx, dictOf es n)) (hA : AttrOK V.w C name) (hl : getL name es = some (some v)) (hh : handedIn v = true) (h : Q v σ) : Run c σ (getAttr (.ref x) name ex) Q := fun s I => by
  have X := I.X
  obtain ⟨ce, I⟩ := I
  obtain ⟨a1, a2, attr, a3, a4⟩ := hA
  exact get_own I.F X (InstAt.of_news I.N (I.news hi) (I.news hq)) a1 a2 a3 a4 hl hh ⟨σ, Inv.toks ⟨ce, I⟩, h⟩
theorem r_attr {x attr : Str} {xp pos : Pos} {Q : Value → St → Prop} (h : Run c σ (eval (.Name x xp) env) (KGetA c attr Q)) (he : eval (.Attribute (.Name x xp) attr pos) env = (do let o ← eval (.Name x xp) env; standAt pos.atName; let r ← holding [o] (getAttr o attr true); letTemporaryGo (.Name x xp) o r; pure r) := by rfl) : Run c σ (eval (.Attribute (.Name x xp) attr pos) env) Q := fun _ I =>
  Attribute_Name_ (h.on I fun _ _ s₁ I₁ h₁ => h₁ s₁ I₁) he
theorem r_putA {x C dx : Addr} {es : List DictEntry} {n : Nat} {name : Str} {v : Value} {es' : Tok → List DictEntry} {n' : Nat} {mt' : Tok → Led} {Q : Unit → St → Prop} (hi : Has V σ (x, instObj C dx)) (_hq : Has V σ (dx, dictOf es n)) (hA : SetOK V.w C name) (hl : (getL name es).isSome = true)
    (e : ∀ t, (putL name (PyData.keyHash V.w.params name) (.str name t) v es, putN name es n) = (es' t, n')) (U : ∀ t, Rep dx (dictOf es n) (dictOf (es' t) n') σ.mt (mt' t)) (hz : ∀ t, Nat.ble (es' t).length 1000 = true) (h : ∀ t, let σ' := σ.chg (mt' t); Q () σ') : Run c σ (setAttr (.ref x) name v) Q := fun s I => by
  have X := I.X
  obtain ⟨ce, I⟩ := I
  have u := U (s.toks + 1)
  exact set_dict I.F X I.N (InstAt.of_news I.N (I.news hi) (I.news (hasMt u.mem))) rfl hA.s hA.p hA.t hA.d hl (e _) (I.upd u) (Nat.le_of_ble_eq_true (hz _)) fun h' F' N' => ⟨_, I.chg u F' N', h _⟩
-- lists
theorem r_append {D : Addr} {vs vs' : List Value} {n : Nat} {x : Value} {mt' : Led} {Q : Value → St → Prop} (hv : vs ++ [x] = vs') (U : Rep D (listOf vs.toArray n) (listOf vs'.toArray (n + 1)) σ.mt mt') (hz : Nat.ble vs.length 1000000 = true) (h : let σ' := σ.chg mt'; Q .none σ') : Run c σ (call (.builtin "list.append") [.ref D, x]) Q := fun s I => by
  obtain ⟨ce, I⟩ := I
  subst hv
  have e : (vs ++ [x]).toArray = vs.toArray.push x := by rw [List.push_toArray]
  rw [e] at U
  exact append_K I.F I.N (I.upd U) (fun h' F' N' => ⟨_, I.chg U F' N', h⟩) (by rw [List.size_toArray]; exact Nat.le_trans (Nat.le_of_ble_eq_true hz) (by rw [sizeLine_eq]; decide))
theorem r_getML {D : Addr} {vs : List Value} {n : Nat} {name : Str} {id : String} {pl : Sem Bool} {Q : Value × List Value → St → Prop} (hm : Has V σ (D, listOf vs.toArray n)) (hs : Slot "list" name id) (ht : typeOf (.builtin id) = pure (.type "method_descriptor")) (h : Q (.builtin id, [.ref D]) σ) : Run c σ (getMethod (.ref D) name pl) Q := fun s I => by
  obtain ⟨ce, I⟩ := I
  exact listMethod_K I.N (I.news hm) hs ht ⟨σ, ⟨ce, I⟩, h⟩
theorem r_len {D : Addr} {vs : List Value} {n : Nat} {Q : Value → St → Prop} (hm : Has V σ (D, listOf vs.toArray n)) (hz : vs.length < 2 ^ 62) (h : ∀ t, Q (.int (vs.length : Int) t) σ) : Run c σ (call (.builtin "len") [.ref D]) Q := fun s I => by
  obtain ⟨ce, I⟩ := I
  exact len_any I.N (I.news hm) hz fun t h' tk e => ⟨σ, e ▸ Inv.toks ⟨ce, I⟩, h t⟩
theorem r_getMI {x C dx f : Addr} {es : List DictEntry} {n : Nat} {name : Str} {pl : Sem Bool} {Q : Value × List Value → St → Prop} (hi : Has V σ (x, instObj C dx)) (hq : Has V σ (dx, dictOf es n)) (hg : plainGet (hd.heap_39 V.w.params) C name = true)
    (hf : findIn (hd.heap_39 V.w.params) (.ref C) name = some (some (.ref f))) (ht : isFn (hd.heap_39 V.w.params) (.ref f) = true) (hl : getL name es = some none) (h : Q (.ref f, [.ref x]) σ) : Run c σ (getMethod (.ref x) name pl) Q := fun s I => by
  have X := I.X
  obtain ⟨ce, I⟩ := I
  exact method_inst I.F X (InstAt.of_news I.N (I.news hi) (I.news hq)) hg hf ht hl ⟨σ, ⟨ce, I⟩, h⟩
theorem r_getMA {x C dx : Addr} {es : List DictEntry} {n : Nat} {name : Str} {pl : Sem Bool} {Q : Value × List Value → St → Prop} (hi : Has V σ (x, instObj C dx)) (hq : Has V σ (dx, dictOf es n)) (hg : plainGet (hd.heap_39 V.w.params) C name = true)
    (hf : findIn (hd.heap_39 V.w.params) (.ref C) name = some none) (h : Run c σ (getAttr (.ref x) name) (fun v σ₁ => Q (v, []) σ₁)) : Run c σ (getMethod (.ref x) name pl) Q := fun s I => by
  have X := I.X
  have I' := I
  obtain ⟨ce, I⟩ := I
  exact kmu_own I.F X (InstAt.of_news I.N (I.news hi) (I.news hq)) hg hf (h.on I' fun _ σ₁ _ I₁ h₁ => ⟨σ₁, I₁, h₁⟩)
theorem r_cwF {pos : Pos} {first : List Value} {q : Addr} {oc : Value} {od : Option Addr} {fd : FuncData} {sl : Array (Option Value)} {e : PySem.Expr} {rest : List PySem.Expr} {Q : Value → St → Prop} (hm : Has V σ (q, ⟨oc, od, .func fd, sl⟩)) (h : Run c σ (spliced (backTo pos (starEach (e :: rest) env))) (fun vs σ₁ => Has V σ₁ (q, ⟨oc, od, .func fd, sl⟩) ∧ Run c σ₁ (call (.ref q) (first ++ vs)) Q))
    (he : (e :: rest).all noStar = true) : Run c σ (callWith pos (.ref q) first (backTo pos (starEach (e :: rest) env)) []) Q := fun s I => by
  have I' := I
  obtain ⟨ce, I⟩ := I
  exact callWith_F (FnAt.of I.N (I.news hm)) (h.on I' fun _ _ s₁ I₁ h₁ => ⟨let ⟨_, J⟩ := I₁; FnAt.of J.N (J.news h₁.1), h₁.2 s₁ I₁⟩) (star_of (List.all_eq_true.mp he _ (.head _))) (star_any (List.all_eq_true.mpr fun x hx => List.all_eq_true.mp he x (.tail _ hx)))
-- calls by a contract
theorem InvC.loose {ce : Led} {s : Shared} (I : InvC c σ ce s) {p : Addr × Obj} (h : Has V σ p) : Loose c.base (V.fenv :: c.outer) s.heap p :=
  loose_led (env := V.fenv) c.B I.F I.N rfl p (I.news h)
theorem InvC.add {ce tl : Led} {s : Shared} {h' : Heap} {k : Nat} (I : InvC c σ ce s) (F : Fr c.g V.L h' σ.m) (N : News c.g V.L h' ((c.hid ++ (ce ++ (σ.mt ++ (σ.fl ++ V.nd)))) ++ tl)) (O : ∀ p ∈ tl, LCg.Off1 p.1 (c.hid ++ (ce ++ (σ.mt ++ (σ.fl ++ V.nd))))) : Inv c (σ.add tl) { s with heap := h', toks := k } := by
  refine ⟨ce, F, fun p hp => N p ?_, I.C, ⟨I.S.1, fun p hp q hq => ?_⟩, fun p hp => ?_, I.K, I.R⟩
  · have hp : p ∈ c.hid ++ (ce ++ (σ.mt ++ ((tl ++ σ.fl) ++ V.nd))) := hp
    simp only [List.mem_append] at hp ⊢
    rcases hp with h | h | h | (h | h) | h <;> simp only [h, true_or, or_true]
  · have hq : q ∈ (tl ++ σ.fl) ++ V.nd := hq
    rw [List.append_assoc] at hq
    rcases List.mem_append.mp hq with hq | hq
    · refine off1_mem (O q hq) p ?_
      have hp : p ∈ c.hid ++ (ce ++ σ.mt) := hp
      simp only [List.mem_append] at hp ⊢
      rcases hp with h | h | h <;> simp only [h, true_or, or_true]
    · exact I.S.2 p hp q hq
  · rcases List.mem_append.mp hp with hp | hp
    · exact off1_of fun q hq => off1_mem (O p hp) q (by simp only [List.mem_append, hq, or_true])
    · exact I.O p hp
theorem r_gs {f : Addr} {D U : Nat} {vs : List Value} {need : Led} {Post : Value → Led → Prop} {Q : Value → St → Prop} (S : GS V.w f D U vs need Post) (hn : ∀ p ∈ need, Has V σ p) (hd : Nat.ble D V.D = true) (hu : Nat.ble U V.U = true)
    (h : ∀ r tl, Post r tl → let σ' := σ.add tl; Q r σ') : Run c σ (call (.ref f) vs) Q := fun s I => by
  obtain ⟨ce, I⟩ := I
  have h1 := c.hd
  have h2 := c.hu
  have h3 := Nat.le_of_ble_eq_true hd
  have h4 := Nat.le_of_ble_eq_true hu
  exact gs_use S c.B I.F c.BO I.N (fun p hp => I.loose (hn p hp)) c.hk (by omega) (by omega) fun r tl h' tk' F' N' O P => ⟨_, I.add F' N' O, h r tl P⟩
theorem InvC.pick {ce tl : Led} {s : Shared} {h' : Heap} {k : Nat} {A : Addr} {o : Obj} (I : InvC c σ ce s) (F : Fr c.g V.L h' σ.m) (N : News c.g V.L h' ((c.hid ++ (ce ++ (σ.mt ++ (σ.fl ++ V.nd)))) ++ tl)) (O : ∀ p ∈ tl, LCg.Off1 p.1 (c.hid ++ (ce ++ (σ.mt ++ (σ.fl ++ V.nd))))) (hm : (A, o) ∈ tl) : Inv c (σ.imm A o) { s with heap := h', toks := k } :=
  I.imm F (fun p hp => by
    rcases List.mem_cons.mp hp with rfl | hp
    · exact N _ (List.mem_append_right _ hm)
    · exact N p (List.mem_append_left _ hp)) fun p hp => off1_mem (O _ hm) p hp
theorem r_gsR {f : Addr} {D U : Nat} {vs : List Value} {need : Led} {q : Rat} {Q : Value → St → Prop} (S : GS V.w f D U vs need (fun r tl => RatIn tl r q)) (hn : ∀ p ∈ need, Has V σ p) (hd : Nat.ble D V.D = true) (hu : Nat.ble U V.U = true)
    (h : ∀ A t1 t2 k, let σ' := σ.imm A (tup [.int q.num t1, .int q.den t2] k); Q (.ref A) σ') : Run c σ (call (.ref f) vs) Q := fun s I => by
  obtain ⟨ce, I⟩ := I
  have h1 := c.hd
  have h2 := c.hu
  have h3 := Nat.le_of_ble_eq_true hd
  have h4 := Nat.le_of_ble_eq_true hu
  exact gs_use S c.B I.F c.BO I.N (fun p hp => I.loose (hn p hp)) c.hk (by omega) (by omega) fun r tl h' tk' F' N' O ⟨A, t1, t2, k, e, hm⟩ => e ▸ ⟨_, I.pick F' N' O hm, h A t1 t2 k⟩
end
-- contracts by a walk
def flowV : Flow → Value
  | .ret v => v
  | _ => .none
def EndS (Post : Value → Led → Prop) (fl : Flow) (σ : St) : Prop := Post (flowV fl) (σ.mt ++ σ.fl)
theorem gs_of_run {w : World} {f : Addr} {D U : Nat} {vs : List Value} {need : Led} {Post : Value → Led → Prop}
    {name qual : Str} {params : Arguments} {body : List Stmt} {scope : Scope} {dV kV doc pm cdv ct oc : Value} {an od : Option Addr} {osl : Array (Option Value)} {binds : List (Str × Value)}
    (ho : (hd.heap_39 w.params).lookup f = some ⟨oc, od, .func (fnOf name qual params body scope dV kV doc pm an cdv ct), osl⟩) (hcd : codeIn (hd.heap_39 w.params) cdv qual = true)
    (hbind : ∀ s : Shared, (hd.heap_39 w.params).In s.heap → BindsTo s (fnOf name qual params body scope dV kV doc pm an cdv ct) ⟨vs, []⟩ binds)
    (hc : ((binds.all fun x => decide (scope.names.lookup x.1 = some .local)) && !scope.isCoroutine && !scope.isGenerator && decide (scope.kind = .function) && scope.names.all (fun x => !decide (x.2 = .cell)) && Nat.blt 0 D && Nat.blt 2 U) = true)
    (h : ∀ L, let V : Vis := ⟨w, D - 1, U - 3, qual, scope, L, f, cdv, [], need, []⟩; ∀ c : Ctx V, let σ : St := ⟨fun y => binds.reverse.lookup y, fun _ => none, [], []⟩; Run c σ (execs body V.env) (EndS Post)) : GS w f D U vs need Post := by
  simp only [Bool.and_eq_true, Bool.not_eq_true', decide_eq_true_eq] at hc
  obtain ⟨⟨⟨⟨⟨⟨c1, c2⟩, c3⟩, c4⟩, c5⟩, c6⟩, c7⟩ := hc
  have hD : 0 < D := Nat.le_of_ble_eq_true c6
  have hU : 2 < U := Nat.le_of_ble_eq_true c7
  have hcell : ∀ x ∈ scope.names, x.2 ≠ .cell := fun x hx => by
    have := List.all_eq_true.mp c5 x hx
    simpa using this
  refine gm_def (mt := []) (sub := need) (fun _ h => h) (fun _ h => nomatch h) ho hcd hbind (locs c1) ?_ c2 c3 c4 hcell hD
  intro mean mg mb dp un gd cn cs L a ccd cl outer base g L' h₁ s Q E hk hdp hun BO LG hret F' N' B' X' T' l
  let V : Vis := ⟨w, D - 1, U - 3, qual, scope, L', f, cdv, [], need, []⟩
  let c : Ctx V := { mean, mg, mb, dp := dp + 1, un := un + 3, gd, outer := envX cn cs L a ccd cl :: outer, A₀ := ktrTop dp un gd cn cs L a ccd cl outer, base, g, E := (fun e s' => wpAny (model PySem.Challenge.rw_on0243_01.row.prog w) ((ktrTop dp un gd cn cs L a ccd cl outer).deeper (envOf qual scope L' f cdv)) (leaving (envOf qual scope L' f cdv) e) (fun _ s'' => E e s'') (fun e' s'' => E e' s'') s'), s₀ := s, hid := [], BO, B := B', hk := c4, hd := (by show dp + 1 + (D - 1) < _; omega), hu := (by show un + 3 + (U - 3) < _; omega), P := fun _ => by passes_own }
  have I : InvC c ⟨fun y => binds.reverse.lookup y, fun _ => none, [], []⟩ [] { s with heap := h₁, toks := s.toks + binds.length } :=
    ⟨F', N', (fun x a h => nomatch h), ⟨List.nodup_nil, fun _ h => nomatch h⟩, (fun _ h => nomatch h), (fun _ h => nomatch h), rfl, rfl, rfl⟩
  refine wpAny_mono (h L' c _ ⟨_, I⟩) (fun fl s' hq => ?_) fun _ _ e => e
  obtain ⟨σ', ⟨ce, J⟩, hp⟩ := hq
  obtain ⟨r1, r2, r3⟩ := J.R
  have e : s' = { s with heap := s'.heap, toks := s'.toks } := by cases s'; cases s; cases r1; cases r2; cases r3; rfl
  have key := hret (flowV fl) [] (σ'.mt ++ σ'.fl) _ s'.heap s'.toks σ'.m J.F J.N rfl (fun _ h => nomatch h) (fun p hp => ?_) (fun p hp => ?_) (fun p hp => ?_) hp
  · rw [← e] at key
    cases fl <;> exact key
  · exact List.mem_append_right _ (List.mem_append_right _ (List.mem_append_right _ (List.mem_append_right _ hp)))
  · refine List.mem_append_right _ (List.mem_append_right _ ?_)
    rw [← List.append_assoc]
    exact List.mem_append_left _ hp
  · rcases List.mem_append.mp hp with hp | hp
    · exact off1_of fun q hq => fun e => J.S.2 p (List.mem_append_right _ (List.mem_append_right _ hp)) q (List.mem_append_right _ hq) e.symm
    · exact J.O p hp

theorem blt_abs : bootBuiltins "abs" = some (.builtin "abs") := by rfl
theorem blt_len : bootBuiltins "len" = some (.builtin "len") := by rfl
theorem blt_ord : bootBuiltins "ord" = some (.builtin "ord") := by rfl
theorem blt_sum : bootBuiltins "sum" = some (.builtin "sum") := by rfl
theorem blt_range : bootBuiltins "range" = some (.type "range") := by rfl
theorem blt_int : bootBuiltins "int" = some (.type "int") := by rfl
theorem blt_list : bootBuiltins "list" = some (.type "list") := by rfl
theorem blt_tuple : bootBuiltins "tuple" = some (.type "tuple") := by rfl
theorem blt_enumerate : bootBuiltins "enumerate" = some (.type "enumerate") := by rfl
end R3
section R4
section
variable {V : Vis} {c : Ctx V} {σ : St}
structure InvS (c : Ctx V) (σ : St) (ce : Led) : Prop where
  C : ∀ x a, V.cl.lookup x = some a → ∃ o, (a, o) ∈ (if V.fenv.kindOf x = some .free then V.nd else ce) ∧ o.data = .cell (σ.cm x)
  S : Sep (c.hid ++ (ce ++ σ.mt)) (σ.fl ++ V.nd)
  O : ∀ p ∈ σ.fl, LCg.Off1 p.1 V.nd
  K : ∀ k ∈ V.cp, ∃ oC m₂, (k.C, oC) ∈ c.hid ∧ LCg.NsObj oC m₂ ∧ ∀ y v, k.own.lookup y = some v → m₂ y = some v
abbrev ledOf (c : Ctx V) (ce : Led) (σ : St) : Led := c.hid ++ (ce ++ (σ.mt ++ (σ.fl ++ V.nd)))
theorem InvC.st {ce : Led} {s : Shared} (I : InvC c σ ce s) : InvS c σ ce := ⟨I.C, I.S, I.O, I.K⟩
theorem InvS.at {ce : Led} {s : Shared} (J : InvS c σ ce) (F : Fr c.g V.L s.heap σ.m) (N : News c.g V.L s.heap (ledOf c ce σ)) (R : s.gens = c.s₀.gens ∧ s.drawn = c.s₀.drawn ∧ s.os = c.s₀.os) : InvC c σ ce s := ⟨F, N, J.C, J.S, J.O, J.K, R⟩
def Ctx.hide (c : Ctx V) (its : Led) : Ctx V := { c with hid := its ++ c.hid }
theorem InvS.hide {ce its : Led} (J : InvS c σ ce) (hn : (its.map (·.1)).Nodup) (h : ∀ p ∈ ledOf c ce σ, ∀ q ∈ its, p.1 ≠ q.1) : InvS (c.hide its) σ ce := by
  refine ⟨J.C, ⟨?_, fun p hp q hq => ?_⟩, J.O, fun k hk => ?_⟩
  · show (((its ++ c.hid) ++ (ce ++ σ.mt)).map (·.1)).Nodup
    rw [List.append_assoc, List.map_append, List.nodup_append]
    refine ⟨hn, J.S.1, fun a ha b hb e => ?_⟩
    obtain ⟨q, hq, rfl⟩ := List.mem_map.mp ha
    obtain ⟨p, hp, e2⟩ := List.mem_map.mp hb
    refine h p ?_ q hq (e2.trans e.symm)
    rcases List.mem_append.mp hp with hp | hp
    · exact List.mem_append_left _ hp
    · refine List.mem_append_right _ ?_
      rw [← List.append_assoc]
      exact List.mem_append_left _ hp
  · have hp : p ∈ (its ++ c.hid) ++ (ce ++ σ.mt) := hp
    rw [List.append_assoc] at hp
    rcases List.mem_append.mp hp with hp | hp
    · exact fun e => h q (List.mem_append_right _ (List.mem_append_right _ (List.mem_append_right _ hq))) p hp e.symm
    · exact J.S.2 p hp q hq
  · obtain ⟨oC, m₂, h1, h2⟩ := J.K k hk
    exact ⟨oC, m₂, List.mem_append_right _ h1, h2⟩
theorem InvS.bare {ce its : Led} (J : InvS (c.hide its) σ ce) (hK : ∀ k ∈ V.cp, ∃ oC m₂, (k.C, oC) ∈ c.hid ∧ LCg.NsObj oC m₂ ∧ ∀ y v, k.own.lookup y = some v → m₂ y = some v) : InvS c σ ce ∧ ∀ p ∈ ledOf c ce σ, ∀ q ∈ its, p.1 ≠ q.1 := by
  have hS : (((its ++ c.hid) ++ (ce ++ σ.mt)).map (·.1)).Nodup := J.S.1
  have hS2 : ∀ p ∈ (its ++ c.hid) ++ (ce ++ σ.mt), ∀ q ∈ σ.fl ++ V.nd, p.1 ≠ q.1 := J.S.2
  rw [List.append_assoc] at hS hS2
  rw [List.map_append, List.nodup_append] at hS
  refine ⟨⟨J.C, ⟨hS.2.1, fun p hp q hq => hS2 p (List.mem_append_right _ hp) q hq⟩, J.O, hK⟩, fun p hp q hq e => ?_⟩
  have : p ∈ (c.hid ++ (ce ++ σ.mt)) ∨ p ∈ σ.fl ++ V.nd := by
    simp only [ledOf, List.mem_append] at hp ⊢
    rcases hp with h | h | h | h | h <;> simp only [h, true_or, or_true]
  rcases this with hp | hp
  · exact hS.2.2 _ (List.mem_map_of_mem hq) _ (List.mem_map_of_mem hp) e.symm
  · exact hS2 q (List.mem_append_left _ hq) p hp e.symm
def TurnE (src : Addr × Obj) (rest : St → Prop) (Q : Flow → St → Prop) : Flow → St → Prop
  | .ret v, σ => Q (.ret v) σ
  | .brk, σ => Q .next σ
  | _, σ => src ∈ σ.fl ++ V.nd ∧ rest σ
abbrev KBody (c : Ctx V) (body : List Stmt) (K : Flow → St → Prop) : Unit → St → Prop := fun _ σ => Run c σ (execs body V.env) K
theorem allObj_of : ∀ {ws : List (Addr × String)} {k : Led → Prop}, (∀ its, Objs ws its → k its) → AllObj ws k
  | [], _, h => h [] trivial
  | w :: _, _, h => fun o ho => allObj_of fun its hi => h ((w.1, o) :: its) ⟨⟨rfl, ho⟩, hi⟩
theorem subL_of {l : Led} : ∀ {k : Led}, (∀ p ∈ k, p ∈ l) → SubL k l
  | [], _ => trivial
  | _ :: _, h => ⟨h _ (.head _), subL_of fun p hp => h p (.tail _ hp)⟩
theorem items_rest {target : PySem.Expr} {body : List Stmt} {src : Addr × Obj} {Q : Flow → St → Prop} {ws : List (Addr × String)} (T : List Itm → St → Prop) (s : Shared) (hR : s.gens = c.s₀.gens ∧ s.drawn = c.s₀.drawn ∧ s.os = c.s₀.os) (hw : (ws.map (·.1)).Nodup) (hsrc : ∀ σ x r, T (x :: r) σ → True)
    (zero : ∀ σ, T [] σ → Q .next σ)
    (turn : ∀ a r σ, T (a :: r) σ → ∀ v (c' : Ctx V) s', a.Is v s'.heap → c'.E = c.E → c'.A = c.A → Inv c' σ s' → wpAny (model rprog V.w) c'.A (assign target V.env v) (fun _ s₂ => wpAny (model rprog V.w) c'.A (execs body V.env) (fun f s₃ => ∃ σ₃, Inv c' σ₃ s₃ ∧ TurnE (V := V) src (T r) Q f σ₃) c'.E s₂) c'.E s')
    (hL : V.env.locals = V.L) : ∀ (xs : List Itm) (σ : St) (ce : Led), InvS c σ ce → (∀ p ∈ ledOf c ce σ, ∀ b ∈ ws.map (·.1), p.1 ≠ b) → T xs σ →
      ItemsRest rprog V.w c.A c.E c.g V.env target body (fun f s' => ∃ σ', Inv c σ' s' ∧ Q f σ') s ws [src] xs σ.m (ledOf c ce σ) := by
  intro xs
  induction xs with
  | nil =>
    intro σ ce J _ h
    refine ItemsRest.zero fun h' tk F N => ⟨σ, ⟨ce, J.at (s := { s with heap := h', toks := tk }) (hL ▸ F) (hL ▸ N) hR⟩, zero σ h⟩
  | cons a r ih =>
    intro σ ce J hI h v h' tk ha F
    refine allObj_of fun its hits N => ?_
    rw [hL] at F N
    have hk : its.map (·.1) = ws.map (·.1) := hits.map
    have hd : ∀ p ∈ ledOf c ce σ, ∀ q ∈ its, p.1 ≠ q.1 := fun p hp q hq => hI p hp _ (hk ▸ List.mem_map_of_mem hq)
    have J' := J.hide (hk ▸ hw) hd
    have I' : InvC (c.hide its) σ ce { s with heap := h', toks := tk } := J'.at F (by show News _ _ _ ((its ++ c.hid) ++ _); rw [List.append_assoc]; exact N) hR
    refine wpAny_mono (turn a r σ h v (c.hide its) { s with heap := h', toks := tk } ha rfl rfl ⟨ce, I'⟩) (fun _ s₂ h₂ => wpAny_mono h₂ (fun f s₃ h₃ => ?_) fun _ _ e => e) fun _ _ e => e
    obtain ⟨σ₃, ⟨ce₃, I₃⟩, h₃⟩ := h₃
    have hB := InvS.bare (c := c) (its := its) I₃.st J.K
    have N₃ : News c.g V.L s₃.heap (its ++ ledOf c ce₃ σ₃) := by
      have := I₃.N
      have q : (c.hide its).hid ++ (ce₃ ++ (σ₃.mt ++ (σ₃.fl ++ V.nd))) = its ++ ledOf c ce₃ σ₃ := List.append_assoc ..
      rw [q] at this; exact this
    have e3 : s₃ = { s with heap := s₃.heap, toks := s₃.toks } := by
      obtain ⟨r1, r2, r3⟩ := I₃.R
      obtain ⟨q1, q2, q3⟩ := hR
      have r1 : s₃.gens = s.gens := r1.trans q1.symm
      have r2 : s₃.drawn = s.drawn := r2.trans q2.symm
      have r3 : s₃.os = s.os := r3.trans q3.symm
      cases s₃; cases s; cases r1; cases r2; cases r3; rfl
    have fin : ∀ (_ : src ∈ σ₃.fl ++ V.nd ∧ T r σ₃), UnrEndW c.g V.env.locals { s with heap := h', toks := tk } its (fun m' n' => SubL [src] n' ∧ ItemsRest rprog V.w c.A c.E c.g V.env target body (fun f s' => ∃ σ', Inv c σ' s' ∧ Q f σ') s ws [src] r m' n') s₃ := fun q => by
      refine ⟨s₃.heap, s₃.toks, σ₃.m, ledOf c ce₃ σ₃, e3, hL ▸ I₃.F, hL ▸ N₃, hB.2, subL_of fun p hp => ?_, ih σ₃ ce₃ hB.1 (fun p hp b hb => ?_) q.2⟩
      · rw [List.mem_singleton.mp hp]
        exact List.mem_append_right _ (List.mem_append_right _ (List.mem_append_right _ q.1))
      · obtain ⟨q', hq', e⟩ := List.mem_map.mp (hk ▸ hb)
        exact fun e' => hB.2 p hp q' hq' (e'.trans e.symm)
    have bare : Inv c σ₃ s₃ := ⟨ce₃, hB.1.at I₃.F (fun p hp => N₃ p (List.mem_append_right _ hp)) I₃.R⟩
    cases f with
    | ret v => exact ⟨σ₃, bare, h₃⟩
    | brk => exact ⟨σ₃, bare, h₃⟩
    | next => exact fin h₃
    | cont => exact fin h₃
def ForI (V : Vis) (target : PySem.Expr) (body : List Stmt) (src : Addr × Obj) (Q : Flow → St → Prop) : List Value → St → Prop
  | [], σ => Q .next σ
  | v :: r, σ => ∀ c : Ctx V, Run c σ (assign target V.env v) (KBody c body (TurnE (V := V) src (ForI V target body src Q r) Q))
def ForE (V : Vis) (n1 n2 : Str) (body : List Stmt) (src : Addr × Obj) (Q : Flow → St → Prop) : Nat → List Value → St → Prop
  | _, [], σ => Q .next σ
  | i, v :: r, σ => ∀ (c : Ctx V) (t : Tok), let σ' := (σ.put n1 (.int (i : Int) t)).put n2 v; Run c σ' (execs body V.env) (TurnE (V := V) src (ForE V n1 n2 body src Q (i + 1) r) Q)
def ForR (V : Vis) (x : Str) (body : List Stmt) (Q : Flow → St → Prop) : Int → Nat → St → Prop
  | _, 0, σ => Q .next σ
  | a, n + 1, σ => ∀ (c : Ctx V) (t : Tok), let σ' := σ.put x (.int a t); Run c σ' (execs body V.env) (fun f σ => match f with | .ret v => Q (.ret v) σ | .brk => Q .next σ | _ => ForR V x body Q (a + 1) n σ)
abbrev KFor (V : Vis) (target : PySem.Expr) (body : List Stmt) (Q : Flow → St → Prop) : Value → St → Prop := fun xv σ => ∃ R vs n, xv = .ref R ∧ (R, listOf (List.toArray vs) n) ∈ σ.fl ++ V.nd ∧ ForI V target body (R, listOf vs.toArray n) Q vs σ
theorem k_for {target : PySem.Expr} {body : List Stmt} {Q : Flow → St → Prop} {R : Addr} {vs : List Value} {n : Nat} (hm : (R, listOf vs.toArray n) ∈ σ.fl ++ V.nd) (h : ForI V target body (R, listOf vs.toArray n) Q vs σ) : KFor V target body Q (.ref R) σ := ⟨R, vs, n, rfl, hm, h⟩
theorem r_for {target iter : PySem.Expr} {body : List Stmt} {pos : Pos} {Q : Flow → St → Prop} (hV : V.cp.isEmpty = true) (hs : ∀ x, foldedSetIterable iter V.env x = pure x) (h : Run c σ (eval iter V.env) (KFor V target body Q)) : Run c σ (exec (.For target iter body [] pos) V.env) Q := fun s I => by
  have e0 := env_top hV
  have hcp := List.isEmpty_iff.mp hV
  have hL : V.env.locals = V.L := by rw [e0]
  have I0 := I
  obtain ⟨ce, I⟩ := I
  refine For_turns (h₀ := c.g) (m := σ.m) (hL ▸ I.F) (h.on I0 fun xv σ₁ s₁ I₁ h₁ => ?_) hs (by rw [e0]; exact c.P hcp)
  obtain ⟨R, vs, n, rfl, hm, h₁⟩ := h₁
  obtain ⟨ce₁, I₁⟩ := I₁
  have hm' : (R, listOf vs.toArray n) ∈ ledOf c ce₁ σ₁ := List.mem_append_right _ (List.mem_append_right _ (List.mem_append_right _ hm))
  refine iter_listTurns (m₀ := σ₁.m) (news := ledOf c ce₁ σ₁) rfl (hL ▸ I₁.F) (hL ▸ I₁.N) hm' rfl rfl fun A hA => ?_
  refine items_rest (c := c) (T := fun xs σ => ∃ us, xs = us.map Itm.val ∧ ForI V target body (R, listOf vs.toArray n) Q us σ) s₁ I₁.R (by simp) (fun _ _ _ _ => trivial) ?_ ?_ hL _ σ₁ ce₁ I₁.st (fun p hp b hb => ?_) ⟨vs, rfl, h₁⟩
  · rintro σ ⟨us, e, h⟩
    cases us with
    | nil => exact h
    | cons => cases e
  · rintro a r σ ⟨us, e, h⟩ v c' s' ha _ _ I'
    cases us with
    | nil => cases e
    | cons u us =>
      cases e
      have ha : v = u := ha
      subst ha
      exact (h c').on I' fun _ σ₂ s₂ I₂ h₂ => Run.on h₂ I₂ fun f σ₃ s₃ I₃ h₃ => ⟨σ₃, I₃, by
        cases f with
        | next => exact ⟨h₃.1, us, rfl, h₃.2⟩
        | cont => exact ⟨h₃.1, us, rfl, h₃.2⟩
        | _ => exact h₃⟩
  · have : b = A := by simpa using hb
    rw [this]; exact Nat.ne_of_lt (hA p hp)
section
variable {target : PySem.Expr} {body : List Stmt} {src : Addr × Obj} {Q : Flow → St → Prop} {v : Value} {vs : List Value}
theorem k_forN (h : Q .next σ) : ForI V target body src Q [] σ := h
theorem k_forC (h : ∀ c : Ctx V, Run c σ (assign target V.env v) (KBody c body (TurnE (V := V) src (ForI V target body src Q vs) Q))) : ForI V target body src Q (v :: vs) σ := h
theorem k_turn {rest : St → Prop} (hm : src ∈ σ.fl ++ V.nd) (h : rest σ) : TurnE (V := V) src rest Q .next σ := ⟨hm, h⟩
theorem k_turnR {rest : St → Prop} (h : Q (.ret v) σ) : TurnE (V := V) src rest Q (.ret v) σ := h
end
end
section
variable {prog : Program} {w : World} {A : Around} {E : Value → Shared → Prop} {s : Shared} {env : Env} {h₀ : Heap} {body : List Stmt} {Q : Flow → Shared → Prop}
theorem iter_rangeTurns {x : Str} {px : Pos} {r : Addr} {a b : Int} {t u v : Tok} {n : Nat} {m₀ : Str → Option Value} {news : Led}
    (hh : A.handled = none) (F : Fr h₀ env.locals s.heap m₀) (N : News h₀ env.locals s.heap news) (hr : IsRange s.heap r a b 1 t u v) (hsm : Builtin.Range.small a b 1 = true) (hn : Builtin.Range.rangeSize a b 1 = ((n : Nat) : Int))
    (rest₀ : ∀ I : Addr, (∀ p ∈ news, p.1 < I) → ItemsRest prog w A E h₀ env (.Name x px) body Q s [(I, "range_iterator")] [] ((List.range n).map fun (i : Nat) => Itm.tok fun t => .int (a + (i : Int)) t) m₀ news) :
    wpAny (model prog w) A (pyIter (.ref r)) (fun it s₂ => TurnsAt prog w A h₀ env (.Name x px) body Q E it s₂) E s := by
  refine wpAny_pyIter_range hr hsm ?_
  refine ktu_core (tk0 := s.toks) (keep := []) (KTurns.ofWalks (LCg.range_walks hh a n).bound fun i v s Q E st q => wpAny_pure q) (by simp) (fun i v h hp => ?_) (fun i h st => ?_) (fun b hb => ?_) (fun b hb => by simpa using hb) (fun b hb => ?_) ?_ (fun p hp hI => ?_) ?_ (F.push _) (fun p hp => ⟨Heap.get?_push_of_some _ (N p hp).1, (N p hp).2⟩) trivial (rest₀ s.heap.objs.size fun p hp => Heap.lt_size (N p hp).1)
  · obtain ⟨hi, t, e⟩ := hp
    refine ⟨Itm.tok fun t => .int (a + (i : Int)) t, by rw [List.getElem?_map, List.getElem?_range hi]; rfl, ?_⟩
    exact ⟨t, e⟩
  · exact ⟨[(s.heap.objs.size, _)], ⟨⟨rfl, rfl⟩, trivial⟩, fun p hp => by rw [List.mem_singleton.mp hp]; exact st⟩
  · have hb' : b = s.heap.objs.size := by simpa using hb
    rw [hb']
    exact ⟨List.mem_cons_self .., next_is_new F⟩
  · exact .inl (by simpa using hb)
  · intro hI
    exact absurd F.ns.lt ((List.mem_singleton.mp hI) ▸ Nat.lt_irrefl _)
  · exact absurd (Heap.lt_size (N p hp).1) ((List.mem_singleton.mp hI) ▸ Nat.lt_irrefl _)
  · show IsRangeIter _ _ _ _ _
    rw [hn]
    simpa using Heap.get?_push_size _ rfl
end
section
variable {V : Vis} {c : Ctx V} {σ : St}
theorem for_rest {x : Str} {px : Pos} {body : List Stmt} {Q : Flow → St → Prop} {I : Addr} {n : Nat} {ce : Led} {s : Shared} (hx : isL V x = true) (hL : V.env.locals = V.L) (J : InvS c σ ce) (hR : s.gens = c.s₀.gens ∧ s.drawn = c.s₀.drawn ∧ s.os = c.s₀.os) (hI : ∀ p ∈ ledOf c ce σ, p.1 ≠ I) {a : Int} (h : ForR V x body Q a n σ) :
    ∀ src : Led, src = [] → ItemsRest rprog V.w c.A c.E c.g V.env (.Name x px) body (fun f s' => ∃ σ', Inv c σ' s' ∧ Q f σ') s [(I, "range_iterator")] src ((List.range n).map fun (i : Nat) => Itm.tok fun t => .int (a + (i : Int)) t) σ.m (ledOf c ce σ) := by
  rintro _ rfl
  have key : ∀ (n : Nat) (a : Int) (σ : St) (ce : Led), InvS c σ ce → (∀ p ∈ ledOf c ce σ, p.1 ≠ I) → ForR V x body Q a n σ → ItemsRest rprog V.w c.A c.E c.g V.env (.Name x px) body (fun f s' => ∃ σ', Inv c σ' s' ∧ Q f σ') s [(I, "range_iterator")] [] ((List.range n).map fun (i : Nat) => Itm.tok fun t => .int (a + (i : Int)) t) σ.m (ledOf c ce σ) := by
    intro n
    induction n with
    | zero =>
      intro a σ ce J _ h
      exact ItemsRest.zero fun h' tk F N => ⟨σ, ⟨ce, J.at (s := { s with heap := h', toks := tk }) (hL ▸ F) (hL ▸ N) hR⟩, h⟩
    | succ n ih =>
      intro a σ ce J hI h
      rw [List.range_succ_eq_map, List.map_cons, List.map_map]
      have e0 : (fun (t : Tok) => Value.int (a + ((0 : Nat) : Int)) t) = fun t => .int a t := by funext t; simp
      have e1 : (List.range n).map ((fun (i : Nat) => Itm.tok fun t => Value.int (a + (i : Int)) t) ∘ Nat.succ) = (List.range n).map fun (i : Nat) => Itm.tok fun t => Value.int (a + 1 + (i : Int)) t := by
        refine List.map_congr_left fun i _ => ?_
        show (Itm.tok fun t => Value.int (a + ((i + 1 : Nat) : Int)) t) = _
        congr 1; funext t; congr 1; omega
      rw [e0, e1]
      refine ItemsRest.tok fun t h' tk F => allObj_of fun its hits N => ?_
      rw [hL] at F N
      have hk : its.map (·.1) = [I] := hits.map
      have hd : ∀ p ∈ ledOf c ce σ, ∀ q ∈ its, p.1 ≠ q.1 := fun p hp q hq => by
        have : q.1 ∈ its.map (·.1) := List.mem_map_of_mem hq
        rw [hk] at this
        rw [List.mem_singleton.mp this]; exact hI p hp
      have J' := J.hide (by rw [hk]; simp) hd
      have I' : Inv (c.hide its) σ { s with heap := h', toks := tk } := ⟨ce, J'.at F (by show News _ _ _ ((its ++ c.hid) ++ _); rw [List.append_assoc]; exact N) hR⟩
      have st : Run (c.hide its) σ (assign (.Name x px) V.env (.int a t)) (KBody (c.hide its) body (fun f σ => match f with | .ret v => Q (.ret v) σ | .brk => Q .next σ | _ => ForR V x body Q (a + 1) n σ)) := r_aName (r_store hx (h (c.hide its) t))
      refine wpAny_mono (st _ I') (fun _ s₂ h₂ => ?_) fun _ _ e => e
      obtain ⟨σ₂, I₂, h₂⟩ := h₂
      refine wpAny_mono (h₂ _ I₂) (fun f s₃ h₃ => ?_) fun _ _ e => e
      obtain ⟨σ₃, ⟨ce₃, I₃⟩, h₃⟩ := h₃
      have hB := InvS.bare (c := c) (its := its) I₃.st J.K
      have N₃ : News c.g V.L s₃.heap (its ++ ledOf c ce₃ σ₃) := by
        have := I₃.N
        have q : (c.hide its).hid ++ (ce₃ ++ (σ₃.mt ++ (σ₃.fl ++ V.nd))) = its ++ ledOf c ce₃ σ₃ := List.append_assoc ..
        rw [q] at this; exact this
      have e3 : s₃ = { s with heap := s₃.heap, toks := s₃.toks } := by
        obtain ⟨r1, r2, r3⟩ := I₃.R
        obtain ⟨q1, q2, q3⟩ := hR
        have r1 : s₃.gens = s.gens := r1.trans q1.symm
        have r2 : s₃.drawn = s.drawn := r2.trans q2.symm
        have r3 : s₃.os = s.os := r3.trans q3.symm
        cases s₃; cases s; cases r1; cases r2; cases r3; rfl
      have hI3 : ∀ p ∈ ledOf c ce₃ σ₃, p.1 ≠ I := fun p hp => by
        have : I ∈ its.map (·.1) := by rw [hk]; exact .head _
        obtain ⟨q', hq', e⟩ := List.mem_map.mp this
        exact fun e' => hB.2 p hp q' hq' (e'.trans e.symm)
      have fin : ∀ (_ : ForR V x body Q (a + 1) n σ₃), UnrEndW c.g V.env.locals { s with heap := h', toks := tk } its (fun m' n' => SubL [] n' ∧ ItemsRest rprog V.w c.A c.E c.g V.env (.Name x px) body (fun f s' => ∃ σ', Inv c σ' s' ∧ Q f σ') s [(I, "range_iterator")] [] ((List.range n).map fun (i : Nat) => Itm.tok fun t => .int (a + 1 + (i : Int)) t) m' n') s₃ := fun q =>
        ⟨s₃.heap, s₃.toks, σ₃.m, ledOf c ce₃ σ₃, e3, hL ▸ I₃.F, hL ▸ N₃, hB.2, trivial, ih (a + 1) σ₃ ce₃ hB.1 hI3 q⟩
      have bare : Inv c σ₃ s₃ := ⟨ce₃, hB.1.at I₃.F (fun p hp => N₃ p (List.mem_append_right _ hp)) I₃.R⟩
      cases f with
      | ret v => exact ⟨σ₃, bare, h₃⟩
      | brk => exact ⟨σ₃, bare, h₃⟩
      | next => exact fin h₃
      | cont => exact fin h₃
  exact key n a σ ce J hI h
abbrev KRng (V : Vis) (x : Str) (body : List Stmt) (Q : Flow → St → Prop) : Value → St → Prop := fun v σ => ∃ n t, v = .int n t ∧ (-1000 ≤ n ∧ n ≤ 1000000) ∧ ForR V x body Q 0 n.toNat σ
theorem k_rng {x : Str} {body : List Stmt} {Q : Flow → St → Prop} {n : Int} {t : Tok} {k : Nat} (hn : -1000 ≤ n ∧ n ≤ 1000000) (hk : n.toNat = k) (h : ForR V x body Q 0 k σ) : KRng V x body Q (.int n t) σ := ⟨n, t, rfl, hn, hk ▸ h⟩
theorem range_size (n : Int) : Builtin.Range.rangeSize 0 n 1 = ((n.toNat : Nat) : Int) := by
  unfold Builtin.Range.rangeSize
  rw [if_pos (by decide)]
  split <;> omega
theorem range_small {n : Int} (h1 : -1000 ≤ n) (h2 : n ≤ 1000000) : Builtin.Range.small 0 n 1 = true := by
  have f : ∀ i : Int, -1000 ≤ i → i ≤ 1000000 → Builtin.Range.rangeFitsLong i = true := fun i a b => by
    unfold Builtin.Range.rangeFitsLong
    rw [Bool.and_eq_true, decide_eq_true_eq, decide_eq_true_eq]
    omega
  unfold Builtin.Range.small
  rw [range_size, f 0 (by decide) (by decide), f n h1 h2, f 1 (by decide) (by decide), f _ (by omega) (by omega), if_pos (by decide), f (n + (1 - 1)) (by omega) (by omega)]
  simp
theorem r_forR {x y : Str} {px p pos cpos : Pos} {e : PySem.Expr} {body : List Stmt} {Q : Flow → St → Prop} (hx : (isL V x && isG V y && noStar e) = true) (hn : nsIn (hd.heap_39 V.w.params) mainGlobals y = some none) (hb : bootBuiltins y = some (.type "range")) (hm : (y == "__name__") = false) (h : Run c σ (eval e V.env) (KRng V x body Q)) :
    Run c σ (exec (.For (.Name x px) (.Call (.Name y p) [e] [] cpos) body [] pos) V.env) Q := fun s I => by
  simp only [Bool.and_eq_true] at hx
  obtain ⟨⟨h1, h2⟩, h3⟩ := hx
  have hV : V.cp.isEmpty = true := by
    simp only [isL, Bool.and_eq_true] at h1
    exact h1.1.1
  have e0 := env_top hV
  have hL : V.env.locals = V.L := by rw [e0]
  have key : wpAny (model rprog V.w) c.A (eval (.Call (.Name y p) [e] [] cpos) V.env) (fun xv s₁ => wpAny (model rprog V.w) c.A (pyIter xv) (fun it s₂ => TurnsAt rprog V.w c.A c.g V.env (.Name x px) body (fun f s' => ∃ σ', Inv c σ' s' ∧ Q f σ') c.E it s₂) c.E s₁) c.E s := by
    have st : Run c σ (eval (.Name y p) V.env) (fun f σ₁ => f = .type "range" ∧ σ₁ = σ) := r_blt h2 hn hb hm ⟨rfl, rfl⟩
    refine Call_ (st.on I fun f σ₁ s₁ I₁ h₁ => ?_) eval_callN
    obtain ⟨rfl, rfl⟩ := h₁
    refine Pv.callWith_type1 (args_cons (h.on I₁ fun v σ₂ s₂ I₂ h₂ => args_nil ?_) (star_of h3)) (star_of h3) rfl
    obtain ⟨n, t, rfl, hn', h₂⟩ := h₂
    obtain ⟨ce, I₂⟩ := I₂
    refine range1_rows I₂.F I₂.N fun h' tk t₁ u₁ v₁ hr F' N' _ => ?_
    exact iter_rangeTurns (s := { s₂ with heap := h', toks := tk }) rfl (hL ▸ F') (hL ▸ N') hr (range_small hn'.1 hn'.2) (range_size n) fun A hA => for_rest (s := { s₂ with heap := h', toks := tk }) h1 hL I₂.st I₂.R (fun p hp => Nat.ne_of_lt (hA p hp)) h₂ [] rfl
  have hcp := List.isEmpty_iff.mp hV
  have I0 := I
  obtain ⟨ce, I⟩ := I
  exact For_turns (h₀ := c.g) (m := σ.m) (hL ▸ I.F) key (fun _ => rfl) (by rw [e0]; exact c.P hcp)
end
section
variable {V : Vis} {c : Ctx V} {σ : St}
theorem k_forR_inv {x : Str} {body : List Stmt} {Q : Flow → St → Prop} (J : Nat → St → Prop) (turn : ∀ n σ, J (n + 1) σ → ∀ (a : Int) (c : Ctx V) (t : Tok), let σ' := σ.put x (.int a t); Run c σ' (execs body V.env) (fun f σ => match f with | .ret v => Q (.ret v) σ | .brk => Q .next σ | _ => J n σ)) (done : ∀ σ, J 0 σ → Q .next σ) : ∀ (n : Nat) (a : Int) (σ : St), J n σ → ForR V x body Q a n σ
  | 0, _, σ, h => done σ h
  | n + 1, a, σ, h => fun c t => (turn n σ h a c t).mono fun f σ₁ h₁ => by
    cases f with
    | next => exact k_forR_inv J turn done n (a + 1) σ₁ h₁
    | cont => exact k_forR_inv J turn done n (a + 1) σ₁ h₁
    | _ => exact h₁
theorem k_forR0 {x : Str} {body : List Stmt} {Q : Flow → St → Prop} {a : Int} (h : Q .next σ) : ForR V x body Q a 0 σ := h
abbrev KTurnR (V : Vis) (x : Str) (body : List Stmt) (Q : Flow → St → Prop) (a : Int) (n : Nat) : Flow → St → Prop := fun f σ => match f with | .ret v => Q (.ret v) σ | .brk => Q .next σ | _ => ForR V x body Q a n σ
theorem k_forRC {x : Str} {body : List Stmt} {Q : Flow → St → Prop} {a b : Int} {n : Nat} (e : a + 1 = b) (h : ∀ (c : Ctx V) (t : Tok), let σ' := σ.put x (.int a t); Run c σ' (execs body V.env) (KTurnR V x body Q b n)) : ForR V x body Q a (n + 1) σ := by
  subst e; exact h
abbrev KTurnJ (V : Vis) (Q : Flow → St → Prop) (J : St → Prop) : Flow → St → Prop := fun f σ => match f with | .ret v => Q (.ret v) σ | .brk => Q .next σ | _ => J σ
theorem k_turnJ {Q : Flow → St → Prop} {J : St → Prop} (h : J σ) : KTurnJ V Q J .next σ := h
theorem k_turnJB {Q : Flow → St → Prop} {J : St → Prop} (h : Q .next σ) : KTurnJ V Q J .brk σ := h
theorem k_rngJ {x : Str} {body : List Stmt} {Q : Flow → St → Prop} {n : Int} {t : Tok} {k : Nat} (J : Nat → St → Prop) (hn : -1000 ≤ n ∧ n ≤ 1000000) (hk : n.toNat = k) (h0 : J k σ) (done : ∀ σ, J 0 σ → Q .next σ) (turn : ∀ n σ, J (n + 1) σ → ∀ (a : Int) (c : Ctx V) (t : Tok), let σ' := σ.put x (.int a t); Run c σ' (execs body V.env) (KTurnJ V Q (J n))) : KRng V x body Q (.int n t) σ := k_rng hn hk (k_forR_inv J turn done k 0 σ h0)
theorem r_while {test : PySem.Expr} {body : List Stmt} {pos : Pos} {Q : Flow → St → Prop} (J : Nat → St → Prop) {n₀ : Nat} (hV : V.cp.isEmpty = true) (h0 : J n₀ σ)
    (turn : ∀ n σ, J n σ → Run c σ (isTrue test V.env (eval test V.env)) (fun b σ₁ => if b = true then Run c σ₁ (execs body V.env) (fun f σ₂ => f = .next ∧ ∃ n', n' < n ∧ J n' σ₂) else Q .next σ₁)) : Run c σ (exec (.While test body [] pos) V.env) Q := fun s I => by
  have e0 := env_top hV
  have hcp := List.isEmpty_iff.mp hV
  obtain ⟨ce, I⟩ := I
  refine While_inv (h₀ := c.g) (L := V.L) (m := σ.m) (news := ledOf c ce σ) (fun n m' news' => ∃ σ' ce', InvS c σ' ce' ∧ m' = σ'.m ∧ news' = ledOf c ce' σ' ∧ J n σ') I.F I.N ⟨σ, ce, I.st, rfl, rfl, h0⟩ ?_ (by rw [e0]; exact c.P hcp)
  rintro n _ _ h₁ tk₁ F₁ N₁ ⟨σ₁, ce₁, J₁, rfl, rfl, j₁⟩
  have I₁ : Inv c σ₁ { s with heap := h₁, toks := tk₁ } := ⟨ce₁, J₁.at F₁ N₁ I.R⟩
  refine (turn n σ₁ j₁).on I₁ fun b σ₂ s₂ I₂ h₂ => ?_
  cases b with
  | false => exact ⟨σ₂, I₂, h₂⟩
  | true =>
    refine (show Run c σ₂ (execs body V.env) _ from h₂).on I₂ fun f σ₃ s₃ I₃ h₃ => ?_
    obtain ⟨rfl, n', hn, j₃⟩ := h₃
    obtain ⟨ce₃, I₃⟩ := I₃
    refine ⟨rfl, s₃.heap, s₃.toks, σ₃.m, ledOf c ce₃ σ₃, n', ?_, I₃.F, I₃.N, hn, σ₃, ce₃, I₃.st, rfl, rfl, j₃⟩
    obtain ⟨r1, r2, r3⟩ := I₃.R
    obtain ⟨q1, q2, q3⟩ := I.R
    have r1 : s₃.gens = s.gens := r1.trans q1.symm
    have r2 : s₃.drawn = s.drawn := r2.trans q2.symm
    have r3 : s₃.os = s.os := r3.trans q3.symm
    cases s₃; cases s; cases r1; cases r2; cases r3; rfl
end
end R4
section R5
section
variable {V : Vis} {c : Ctx V} {σ : St} {env : Env}
theorem r_isnotNN {Q : Value → St → Prop} (h : Q (.bool false) σ) : Run c σ (compareOp .IsNot .none .none) Q := fun _ I => isnot_none_none ⟨σ, I, h⟩
abbrev KSl (c : Ctx V) (value slice : PySem.Expr) (lo hi : Option Int) (Q : Value → St → Prop) : Value → St → Prop := fun o σ => ∃ l vs n, o = .ref l ∧ Has V σ (l, listOf (List.toArray vs) n) ∧ Nat.ble vs.length 1000 = true ∧ ∀ D, let σ' := σ.imm D (listOf (kms_pick vs lo hi).toArray 0); Q (.ref D) σ'
theorem k_sl {value slice : PySem.Expr} {lo hi : Option Int} {Q : Value → St → Prop} {l : Addr} {vs zs : List Value} {n : Nat} (hm : Has V σ (l, listOf vs.toArray n)) (hz : Nat.ble vs.length 1000 = true) (e : kms_pick vs lo hi = zs) (h : ∀ D, let σ' := σ.imm D (listOf zs.toArray 0); Q (.ref D) σ') : KSl c value slice lo hi Q (.ref l) σ := ⟨l, vs, n, rfl, hm, hz, e ▸ h⟩
theorem sl_tail {value slice : PySem.Expr} {l : Addr} {vs : List Value} {n : Nat} {vl vu : Value} {lo hi : Option Int} {Q : Value → St → Prop} {ce : Led} {s : Shared} (I : InvC c σ ce s) (hm : Has V σ (l, listOf vs.toArray n)) (hz : Nat.ble vs.length 1000 = true) (p1 : IsPart vl lo) (p2 : IsPart vu hi) (h : ∀ D, Q (.ref D) (σ.imm D (listOf (kms_pick vs lo hi).toArray 0)))
    (h1 : subscripted slice false (.ref l) (.ref s.heap.objs.size) = operate [.ref s.heap.objs.size, .ref l] (getItem (.ref l) (.ref s.heap.objs.size))) (h2 : ∀ r, letTemporaryGo value (.ref l) r = pure ()) :
    wpAny (model rprog V.w) c.A (subscriptTail value slice (.ref l) (.ref s.heap.objs.size)) (fun r s' => ∃ σ', Inv c σ' s' ∧ Q r σ') c.E { s with heap := s.heap.push { cls := .type "slice", data := .fields #[vl, vu, .none] } } :=
  kms_slice_lit (its := vs.toArray) I.F I.N ⟨_, hm.get I, rfl, n, rfl⟩ p1 p2 rfl (fun D h' F' N' l => ⟨_, I.imm F' N' fun p hp => Nat.ne_of_lt (l p hp), h D⟩) h1 h2 (by rw [List.size_toArray]; exact sz_of hz (by decide))
theorem r_sl1 {x : Str} {xp p : Pos} {i : Int} {k : Nat} {ip pos : Pos} {Q : Value → St → Prop} (h : Run c σ (eval (.Name x xp) env) (KSl c (.Name x xp) (.Slice (some (.Constant (.int i) k ip)) none none p) (some i) none Q)) : Run c σ (eval (.Subscript (.Name x xp) (.Slice (some (.Constant (.int i) k ip)) none none p) pos) env) Q := fun s I =>
  Subscript_ (h.on I fun o σ₁ s₁ I₁ h₁ => by
    obtain ⟨l, vs, n, rfl, hm, hz, h₁⟩ := h₁
    obtain ⟨ce, I₁⟩ := I₁
    refine wpAny_Slice (evalPart_some_step (wpAny_Constant_int (evalPart_none_step (evalPart_none_step ?_))))
    exact sl_tail (s := { s₁ with toks := s₁.toks + 1 }) (I₁.keeps I₁.F I₁.N rfl rfl rfl) hm hz (.int _ _) .none h₁ rfl (fun _ => rfl))
theorem r_sl2 {x : Str} {xp p : Pos} {i : Int} {k : Nat} {ip pos : Pos} {Q : Value → St → Prop} (h : Run c σ (eval (.Name x xp) env) (KSl c (.Name x xp) (.Slice none (some (.Constant (.int i) k ip)) none p) none (some i) Q)) : Run c σ (eval (.Subscript (.Name x xp) (.Slice none (some (.Constant (.int i) k ip)) none p) pos) env) Q := fun s I =>
  Subscript_ (h.on I fun o σ₁ s₁ I₁ h₁ => by
    obtain ⟨l, vs, n, rfl, hm, hz, h₁⟩ := h₁
    obtain ⟨ce, I₁⟩ := I₁
    refine wpAny_Slice (evalPart_none_step (evalPart_some_step (wpAny_Constant_int (evalPart_none_step ?_))))
    exact sl_tail (s := { s₁ with toks := s₁.toks + 1 }) (I₁.keeps I₁.F I₁.N rfl rfl rfl) hm hz .none (.int _ _) h₁ rfl (fun _ => rfl))
theorem r_addL {a b : Addr} {us vs zs : List Value} {n m : Nat} {Q : Value → St → Prop} (h1 : Has V σ (a, listOf us.toArray n)) (h2 : Has V σ (b, listOf vs.toArray m)) (e : us ++ vs = zs) (hz : Nat.ble (us.length + vs.length) 1000 = true) (h : ∀ D, let σ' := σ.imm D (listOf zs.toArray 0); Q (.ref D) σ') : Run c σ (binaryOp .Add (.ref a) (.ref b)) Q := fun s I => by
  obtain ⟨ce, I⟩ := I
  exact kmk_add_lit (its := us.toArray) (its2 := vs.toArray) I.F I.N ⟨_, h1.get I, rfl, n, rfl⟩ ⟨_, h2.get I, rfl, m, rfl⟩ e (fun D h' F' N' l => ⟨_, I.imm F' N' fun p hp => Nat.ne_of_lt (l p hp), h D⟩) (sz_of (m := 1000) hz (by decide))
end
section
variable {V : Vis} {c : Ctx V} {σ : St} {env : Env}
theorem r_abs {a : Int} {t : Tok} {Q : Value → St → Prop} (h : ∀ u, Q (.int (if a < 0 then -a else a) u) σ) : Run c σ (call (.builtin "abs") [.int a t]) Q := fun _ I => call_abs_int fun u _ => ⟨σ, I.toks, h u⟩
theorem r_intI {n : Int} {u : Tok} {Q : Value → St → Prop} (h : Q (.int n u) σ) : Run c σ (call (.type "int") [.int n u]) Q := fun _ I => call_int_int ⟨σ, I, h⟩
theorem r_sum {l : Addr} {vs : List Value} {ns : List Int} {n : Nat} {Q : Value → St → Prop} (hm : Has V σ (l, listOf vs.toArray n)) (hi : IntsAre vs ns) (h : ∀ t, Q (.int ns.sum t) σ) : Run c σ (call (.builtin "sum") [.ref l]) Q := fun s I => by
  obtain ⟨ce, I⟩ := I
  exact sumK rfl I.F I.N ⟨_, hm.get I, rfl, n, rfl⟩ hi fun h' tk t' F' N' => ⟨σ, Inv.same I F' N', h _⟩
theorem r_ord {n : Nat} {t : Tok} {Q : Value → St → Prop} (h : ∀ t, Q (.int (n : Int) t) σ) : Run c σ (call (.builtin "ord") [.str ⟨#[n]⟩ t]) Q := fun _ I => PySem.P.ord_of_char ⟨σ, I.toks, h _⟩
theorem r_listOf {b : Addr} {vs : List Value} {n : Nat} {Q : Value → St → Prop} (hm : Has V σ (b, listOf vs.toArray n)) (hz : Nat.ble vs.length 1000 = true) (h : ∀ D k, let σ' := σ.imm D (listOf vs.toArray k); Q (.ref D) σ') : Run c σ (call (.type "list") [.ref b]) Q := fun s I => by
  obtain ⟨ce, I⟩ := I
  exact kup_listOf I.F I.N (I.news hm) rfl (fun D k h' F' N' l => ⟨_, I.imm F' N' fun p hp => Nat.ne_of_lt (l p hp), h D k⟩) (sz_of hz (by decide))
theorem r_tupleOf {b : Addr} {vs : List Value} {n : Nat} {Q : Value → St → Prop} (hm : Has V σ (b, listOf vs.toArray n)) (hz : Nat.ble vs.length 1000 = true) (h : ∀ D, let σ' := σ.imm D (tup vs 0); Q (.ref D) σ') : Run c σ (call (.type "tuple") [.ref b]) Q := fun s I => by
  obtain ⟨ce, I⟩ := I
  exact kde_tupleOf (items := vs.toArray) I.F I.N ⟨_, hm.get I, rfl, n, rfl⟩ (by rw [List.size_toArray]; exact Nat.le_trans (Nat.le_of_ble_eq_true hz) (by decide)) rfl fun D h' F' N' l => ⟨_, I.imm F' N' fun p hp => Nat.ne_of_lt (l p hp), h D⟩
theorem r_addT {a b : Addr} {us vs zs : List Value} {n m : Nat} {Q : Value → St → Prop} (h1 : Has V σ (a, tup us n)) (h2 : Has V σ (b, tup vs m)) (e : us ++ vs = zs) (hz : (!us.isEmpty && !vs.isEmpty && Nat.ble (us.length + vs.length) 1000) = true) (h : ∀ D, let σ' := σ.imm D (tup zs 0); Q (.ref D) σ') : Run c σ (binaryOp .Add (.ref a) (.ref b)) Q := fun s I => by
  obtain ⟨ce, I⟩ := I
  simp only [Bool.and_eq_true, Bool.not_eq_true'] at hz
  obtain ⟨⟨z1, z2⟩, z3⟩ := hz
  exact kde_addT (its := us.toArray) (its2 := vs.toArray) I.F I.N ⟨_, h1.get I, rfl, n, rfl⟩ ⟨_, h2.get I, rfl, m, rfl⟩ (by intro q; have q : us = [] := q; rw [q] at z1; cases z1) (by intro q; have q : vs = [] := q; rw [q] at z2; cases z2) (Nat.le_trans (Nat.le_of_ble_eq_true z3) (by decide)) e fun D h' F' N' l => ⟨_, I.imm F' N' fun p hp => Nat.ne_of_lt (l p hp), h D⟩
theorem r_addT0 {a b : Addr} {us : List Value} {n m : Nat} {Q : Value → St → Prop} (h1 : Has V σ (a, tup us n)) (h2 : Has V σ (b, tup [] m)) (hz : (!us.isEmpty && Nat.ble us.length 1000) = true) (h : Q (.ref a) σ) : Run c σ (binaryOp .Add (.ref a) (.ref b)) Q := fun s I => by
  obtain ⟨ce, I⟩ := I
  simp only [Bool.and_eq_true, Bool.not_eq_true'] at hz
  exact kde_addT1 (its := us.toArray) (its2 := #[]) I.F I.N ⟨_, h1.get I, rfl, n, rfl⟩ ⟨_, h2.get I, rfl, m, rfl⟩ (by intro q; have q : us = [] := q; rw [q] at hz; cases hz.1) rfl (Nat.le_trans (Nat.le_of_ble_eq_true hz.2) (by decide)) ⟨σ, ⟨ce, I⟩, h⟩
abbrev KSlT (V : Vis) (Q : Value → St → Prop) : Value → St → Prop := fun o σ => ∃ t v vs n, o = .ref t ∧ Has V σ (t, tup (v :: vs) n) ∧ Nat.ble vs.length 900 = true ∧ ∀ D, let σ' := σ.imm D (tup vs 0); Q (.ref D) σ'
theorem k_slT {Q : Value → St → Prop} {t : Addr} {v : Value} {vs : List Value} {n : Nat} (hm : Has V σ (t, tup (v :: vs) n)) (hz : Nat.ble vs.length 900 = true) (h : ∀ D, let σ' := σ.imm D (tup vs 0); Q (.ref D) σ') : KSlT V Q (.ref t) σ := ⟨t, v, vs, n, rfl, hm, hz, h⟩
theorem r_slT {x : Str} {xp p : Pos} {k : Nat} {ip pos : Pos} {Q : Value → St → Prop} (h : Run c σ (eval (.Name x xp) env) (KSlT V Q)) : Run c σ (eval (.Subscript (.Name x xp) (.Slice (some (.Constant (.int 1) k ip)) none none p) pos) env) Q := fun s I =>
  Subscript_ (h.on I fun o σ₁ s₁ I₁ h₁ => by
    obtain ⟨t, v, vs, n, rfl, hm, hz, h₁⟩ := h₁
    obtain ⟨ce, I₁⟩ := I₁
    have I₂ : InvC c σ₁ ce { s₁ with toks := s₁.toks + 1 } := I₁.keeps I₁.F I₁.N rfl rfl rfl
    have hz' := Nat.le_of_ble_eq_true hz
    refine wpAny_Slice (evalPart_some_step (wpAny_Constant_int (evalPart_none_step (evalPart_none_step ?_))))
    exact slice_tupK (a := 1) (s := { s₁ with toks := s₁.toks + 1 }) I₂.F I₂.N (I₂.news hm) (Nat.le_refl _) (by rw [List.size_toArray, List.length_cons]; omega) (fun D h' F' N' l => ⟨_, I₂.imm F' N' fun p hp => Nat.ne_of_lt (l p hp), h₁ D⟩) (fun _ => rfl) (fun _ => rfl) (by rw [List.size_toArray, List.length_cons, sizeLine_eq]; omega))
end

theorem app0 {α : Type} {x : α} : [] ++ [x] = [x] := rfl
theorem app1 {α : Type} {a x : α} : [a] ++ [x] = [a, x] := rfl
theorem app2 {α : Type} {a b x : α} : [a, b] ++ [x] = [a, b, x] := rfl
theorem app3 {α : Type} {a b d x : α} : [a, b, d] ++ [x] = [a, b, d, x] := rfl
theorem app4 {α : Type} {a b d e x : α} : [a, b, d, e] ++ [x] = [a, b, d, e, x] := rfl
end R5
section R6
def EndM (mt0 : Led) (Post : Value → Led → Led → Prop) (fl : Flow) (σ : St) : Prop := ∃ nm mt', σ.mt = nm ++ mt' ∧ mt'.map (·.1) = mt0.map (·.1) ∧ Post (flowV fl) mt' (nm ++ σ.fl)
theorem cellsFrom_ge : ∀ (names : List (Str × NameKind)) (n : Nat) (acc : List (Str × Addr)), ∀ p ∈ cellsFrom n names acc, p ∈ acc ∨ n ≤ p.2
  | [], _, _, _, h => .inl h
  | (x, k) :: r, n, acc, p, h => by
    unfold cellsFrom at h
    split at h
    · rcases cellsFrom_ge r _ _ p h with h | h
      · rcases List.mem_cons.mp h with rfl | h
        · exact .inr (Nat.le_refl _)
        · exact .inl h
      · exact .inr (by omega)
    · exact cellsFrom_ge r _ _ p h
theorem cellsAre_keys {cm : Str → Option Value} {cs : List (Str × Addr)} {cells : Led} (h : CellsAre cm cs cells) : cells.map (·.1) = cs.map (·.2) := by
  induction h with
  | nil => rfl
  | cons _ _ ih => rw [List.map_cons, List.map_cons, ih]
theorem cellsAre_mem {cm : Str → Option Value} {cs : List (Str × Addr)} {cells : Led} (h : CellsAre cm cs cells) : ∀ x a, (x, a) ∈ cs → ∃ o, (a, o) ∈ cells ∧ o.data = .cell (cm x) := by
  induction h with
  | nil => intro x a h; cases h
  | @cons n c o _ _ hd _ ih =>
    intro x a h
    rcases List.mem_cons.mp h with e | h
    · cases e; exact ⟨o, .head _, hd⟩
    · obtain ⟨o', h1, h2⟩ := ih x a h
      exact ⟨o', .tail _ h1, h2⟩
theorem endM_ret {w : World} {V : Vis} {c : Ctx V} {mt0 : Led} {Post : Value → Led → Led → Prop} {s s' : Shared} {fl : Flow} {Q : Value → Shared → Prop} {need : Led} (hnd : V.nd = need) (hs : c.s₀ = s)
    (hret : ∀ (r : Value) (mt' tl big : Led) (h' : Heap) (tk' : Nat) (m' : Str → Option Value), Fr c.g V.L h' m' → News c.g V.L h' big → mt'.map (·.1) = mt0.map (·.1) → (∀ p ∈ mt', p ∈ big) → (∀ p ∈ need, p ∈ big) → (∀ p ∈ tl, p ∈ big) → (∀ p ∈ tl, LCg.Off1 p.1 (mt0 ++ need)) → Post r mt' tl → Q r { s with heap := h', toks := tk' })
    (h : ∃ σ', Inv c σ' s' ∧ EndM mt0 Post fl σ') : Q (flowV fl) s' := by
  subst hs; subst hnd
  obtain ⟨σ', ⟨ce, J⟩, nm, mt', e1, e2, hp⟩ := h
  obtain ⟨r1, r2, r3⟩ := J.R
  have e : s' = { c.s₀ with heap := s'.heap, toks := s'.toks } := by
    cases s'
    have r1 := r1; have r2 := r2; have r3 := r3
    simp only at r1 r2 r3
    subst r1; subst r2; subst r3; rfl
  have hb : ∀ p, p ∈ σ'.mt ++ (σ'.fl ++ V.nd) → p ∈ c.hid ++ (ce ++ (σ'.mt ++ (σ'.fl ++ V.nd))) := fun p hp => List.mem_append_right _ (List.mem_append_right _ hp)
  have hS := J.S.1
  rw [List.map_append, List.map_append, List.nodup_append] at hS
  have hS2 := (List.nodup_append.mp hS.2.1).2.1
  rw [e1, List.map_append, List.nodup_append] at hS2
  have key := hret (flowV fl) mt' (nm ++ σ'.fl) _ s'.heap s'.toks σ'.m J.F J.N e2 (fun p hp => hb p (List.mem_append_left _ (e1 ▸ List.mem_append_right _ hp))) (fun p hp => hb p (List.mem_append_right _ (List.mem_append_right _ hp))) (fun p hp => hb p ?_) (fun p hp => off1_of fun q hq e => ?_) hp
  · rw [← e] at key; exact key
  · rcases List.mem_append.mp hp with hp | hp
    · exact List.mem_append_left _ (e1 ▸ List.mem_append_left _ hp)
    · exact List.mem_append_right _ (List.mem_append_left _ hp)
  · rcases List.mem_append.mp hp with hp | hp
    · rcases List.mem_append.mp hq with hq | hq
      · have : q.1 ∈ mt'.map (·.1) := e2 ▸ List.mem_map_of_mem hq
        exact hS2.2.2 _ (List.mem_map_of_mem hp) _ this e.symm
      · exact J.S.2 p (List.mem_append_right _ (List.mem_append_right _ (e1 ▸ List.mem_append_left _ hp))) q (List.mem_append_right _ hq) e.symm
    · rcases List.mem_append.mp hq with hq | hq
      · have : q.1 ∈ mt'.map (·.1) := e2 ▸ List.mem_map_of_mem hq
        obtain ⟨q', hq', e'⟩ := List.mem_map.mp this
        exact J.S.2 q' (List.mem_append_right _ (List.mem_append_right _ (e1 ▸ List.mem_append_right _ hq'))) p (List.mem_append_left _ hp) (e'.trans e)
      · exact off1_mem (J.O p hp) q hq e
theorem gm_of_run {w : World} {f : Addr} {D U : Nat} {vs : List Value} {mt0 need : Led} {Post : Value → Led → Led → Prop}
    {name qual : Str} {params : Arguments} {body : List Stmt} {scope : Scope} {dV kV doc pm cdv ct oc : Value} {an od : Option Addr} {osl : Array (Option Value)} {binds : List (Str × Value)}
    (hdis : ∀ p ∈ mt0, ∀ q ∈ need, p.1 ≠ q.1) (hnm : (mt0.map (·.1)).Nodup)
    (ho : (hd.heap_39 w.params).lookup f = some ⟨oc, od, .func (fnOf name qual params body scope dV kV doc pm an cdv ct), osl⟩) (hcd : codeIn (hd.heap_39 w.params) cdv qual = true)
    (hbind : ∀ s : Shared, (hd.heap_39 w.params).In s.heap → BindsTo s (fnOf name qual params body scope dV kV doc pm an cdv ct) ⟨vs, []⟩ binds)
    (hc : ((binds.all fun x => decide (scope.names.lookup x.1 = some .local)) && !scope.isCoroutine && !scope.isGenerator && decide (scope.kind = .function) && scope.names.all (fun x => !decide (x.2 = .cell)) && Nat.blt 0 D && Nat.blt 2 U) = true)
    (h : ∀ L, let V : Vis := ⟨w, D - 1, U - 3, qual, scope, L, f, cdv, [], need, []⟩; ∀ c : Ctx V, let σ : St := ⟨fun y => binds.reverse.lookup y, fun _ => none, mt0, []⟩; Run c σ (execs body V.env) (EndM mt0 Post)) : GM w f D U vs mt0 need Post := by
  simp only [Bool.and_eq_true, Bool.not_eq_true', decide_eq_true_eq] at hc
  obtain ⟨⟨⟨⟨⟨⟨c1, c2⟩, c3⟩, c4⟩, c5⟩, c6⟩, c7⟩ := hc
  have hD : 0 < D := Nat.le_of_ble_eq_true c6
  have hU : 2 < U := Nat.le_of_ble_eq_true c7
  have hcell : ∀ x ∈ scope.names, x.2 ≠ .cell := fun x hx => by
    have := List.all_eq_true.mp c5 x hx
    simpa using this
  refine gm_def (mt := mt0) (sub := need) (fun _ h => h) hdis ho hcd hbind (locs c1) ?_ c2 c3 c4 hcell hD
  intro mean mg mb dp un gd cn cs L a ccd cl outer base g L' h₁ s Q E hk hdp hun BO LG hret F' N' B' X' T' l
  let V : Vis := ⟨w, D - 1, U - 3, qual, scope, L', f, cdv, [], need, []⟩
  let c : Ctx V := { mean, mg, mb, dp := dp + 1, un := un + 3, gd, outer := envX cn cs L a ccd cl :: outer, A₀ := ktrTop dp un gd cn cs L a ccd cl outer, base, g, E := (fun e s' => wpAny (model PySem.Challenge.rw_on0243_01.row.prog w) ((ktrTop dp un gd cn cs L a ccd cl outer).deeper (envOf qual scope L' f cdv)) (leaving (envOf qual scope L' f cdv) e) (fun _ s'' => E e s'') (fun e' s'' => E e' s'') s'), s₀ := s, hid := [], BO, B := B', hk := c4, hd := (by show dp + 1 + (D - 1) < _; omega), hu := (by show un + 3 + (U - 3) < _; omega), P := fun _ => by passes_own }
  have I : InvC c ⟨fun y => binds.reverse.lookup y, fun _ => none, mt0, []⟩ [] { s with heap := h₁, toks := s.toks + binds.length } :=
    ⟨F', N', (fun x a h => nomatch h), ⟨hnm, fun p hp q hq => hdis p hp q hq⟩, (fun _ h => nomatch h), (fun _ h => nomatch h), rfl, rfl, rfl⟩
  refine wpAny_mono (h L' c _ ⟨_, I⟩) (fun fl s' hq => ?_) fun _ _ e => e
  have key := endM_ret (w := w) (c := c) rfl rfl hret hq
  cases fl <;> exact key
theorem gmC_of_run {w : World} {f : Addr} {D U : Nat} {vs : List Value} {mt0 need : Led} {Post : Value → Led → Led → Prop}
    {name qual : Str} {params : Arguments} {body : List Stmt} {scope : Scope} {dV kV doc pm cdv ct oc : Value} {an od : Option Addr} {osl : Array (Option Value)} {binds : List (Str × Value)}
    (hdis : ∀ p ∈ mt0, ∀ q ∈ need, p.1 ≠ q.1) (hnm : (mt0.map (·.1)).Nodup)
    (ho : (hd.heap_39 w.params).lookup f = some ⟨oc, od, .func (fnOf name qual params body scope dV kV doc pm an cdv ct), osl⟩) (hcd : codeIn (hd.heap_39 w.params) cdv qual = true)
    (hbind : ∀ s : Shared, (hd.heap_39 w.params).In s.heap → BindsTo s (fnOf name qual params body scope dV kV doc pm an cdv ct) ⟨vs, []⟩ binds)
    (hc : ((binds.all fun y => scope.names.lookup y.1 == some .local || scope.names.lookup y.1 == some .cell) && !scope.isCoroutine && !scope.isGenerator && decide (scope.kind = .function) && scope.names.all (fun x => !decide (x.2 = .free)) && decide (((cellsFrom 0 scope.names []).map (·.1)).Nodup) && Nat.blt 0 D && Nat.blt 2 U) = true)
    (h : ∀ L, let V : Vis := ⟨w, D - 1, U - 3, qual, scope, L, f, cdv, cellsFrom (L + 1) scope.names [], need, []⟩; ∀ c : Ctx V, let σ : St := ⟨bindL (fun x => scope.names.lookup x) binds fun _ => none, bindC (fun x => scope.names.lookup x) binds fun _ => none, mt0, []⟩; Run c σ (execs body V.env) (EndM mt0 Post)) : GM w f D U vs mt0 need Post := by
  simp only [Bool.and_eq_true, Bool.not_eq_true', decide_eq_true_eq] at hc
  obtain ⟨⟨⟨⟨⟨⟨⟨c1, c2⟩, c3⟩, c4⟩, c5⟩, c8⟩, c6⟩, c7⟩ := hc
  have hD : 0 < D := Nat.le_of_ble_eq_true c6
  have hU : 2 < U := Nat.le_of_ble_eq_true c7
  refine gm_defC (mt := mt0) (sub := need) (fun _ h => h) hdis ho hcd hbind c1 c8 ?_ c2 c3 c4 hD
  intro mean mg mb dp un gd cn cs L a ccd cl outer base g L' h₁ tk cells s Q E hk hdp hun BO LG hret F' N' Y B' X' T' l
  let V : Vis := ⟨w, D - 1, U - 3, qual, scope, L', f, cdv, cellsFrom (L' + 1) scope.names [], need, []⟩
  let c : Ctx V := { mean, mg, mb, dp := dp + 1, un := un + 3, gd, outer := envX cn cs L a ccd cl :: outer, A₀ := ktrTop dp un gd cn cs L a ccd cl outer, base, g, E := (fun e s' => wpAny (model PySem.Challenge.rw_on0243_01.row.prog w) ((ktrTop dp un gd cn cs L a ccd cl outer).deeper (envOfC qual scope L' f cdv)) (leaving (envOfC qual scope L' f cdv) e) (fun _ s'' => E e s'') (fun e' s'' => E e' s'') s'), s₀ := s, hid := [], BO, B := B', hk := c4, hd := (by show dp + 1 + (D - 1) < _; omega), hu := (by show un + 3 + (U - 3) < _; omega), P := fun _ => by passes_own }
  have hk2 : cells.map (·.1) = (cellsFrom (L' + 1) scope.names []).map (·.2) := cellsAre_keys Y
  have hgt : ∀ p ∈ cells, L' < p.1 := fun p hp => by
    have : p.1 ∈ (cellsFrom (L' + 1) scope.names []).map (·.2) := hk2 ▸ List.mem_map_of_mem hp
    obtain ⟨q, hq, e⟩ := List.mem_map.mp this
    rcases cellsFrom_ge _ _ _ q hq with h | h
    · cases h
    · rw [← e]; exact h
  have I : InvC c ⟨bindL (fun x => scope.names.lookup x) binds fun _ => none, bindC (fun x => scope.names.lookup x) binds fun _ => none, mt0, []⟩ cells { s with heap := h₁, toks := tk } := by
    refine ⟨F', N', fun x a hx => ?_, ⟨?_, fun p hp q hq => ?_⟩, (fun _ h => nomatch h), (fun _ h => nomatch h), rfl, rfl, rfl⟩
    · have hf : ¬ (V.fenv.kindOf x = some .free) := fun e => by
        have e : scope.names.lookup x = some .free := e
        have := List.all_eq_true.mp c5 _ (lookup_mem e)
        simp at this
      rw [if_neg hf]
      exact cellsAre_mem Y x a (lookup_mem hx)
    · show ((cells ++ mt0).map (·.1)).Nodup
      rw [List.map_append, List.nodup_append]
      refine ⟨hk2 ▸ cells_nodup, hnm, fun a ha b hb e => ?_⟩
      obtain ⟨p, hp, rfl⟩ := List.mem_map.mp ha
      obtain ⟨q, hq, rfl⟩ := List.mem_map.mp hb
      have h1 := hgt p hp
      have h2 := l q (List.mem_append_left _ hq)
      rw [e] at h1
      exact absurd h1 (Nat.lt_asymm h2)
    · have hp : p ∈ cells ++ mt0 := hp
      rcases List.mem_append.mp hp with hp | hp
      · have h1 := hgt p hp
        have h2 := l q (List.mem_append_right _ hq)
        exact Nat.ne_of_gt (Nat.lt_trans h2 h1)
      · exact hdis p hp q hq
  refine wpAny_mono (h L' c _ ⟨_, I⟩) (fun fl s' hq => ?_) fun _ _ e => e
  have key := endM_ret (w := w) (c := c) rfl rfl hret hq
  cases fl <;> exact key
theorem endS_of {Post : Value → Led → Prop} {fl : Flow} {σ : St} (h : EndS Post fl σ) : EndM [] (fun r _ tl => Post r tl) fl σ := ⟨σ.mt, [], (List.append_nil _).symm, rfl, h⟩
theorem gsC_of_run {w : World} {f : Addr} {D U : Nat} {vs : List Value} {need : Led} {Post : Value → Led → Prop}
    {name qual : Str} {params : Arguments} {body : List Stmt} {scope : Scope} {dV kV doc pm cdv ct oc : Value} {an od : Option Addr} {osl : Array (Option Value)} {binds : List (Str × Value)}
    (ho : (hd.heap_39 w.params).lookup f = some ⟨oc, od, .func (fnOf name qual params body scope dV kV doc pm an cdv ct), osl⟩) (hcd : codeIn (hd.heap_39 w.params) cdv qual = true)
    (hbind : ∀ s : Shared, (hd.heap_39 w.params).In s.heap → BindsTo s (fnOf name qual params body scope dV kV doc pm an cdv ct) ⟨vs, []⟩ binds)
    (hc : ((binds.all fun y => scope.names.lookup y.1 == some .local || scope.names.lookup y.1 == some .cell) && !scope.isCoroutine && !scope.isGenerator && decide (scope.kind = .function) && scope.names.all (fun x => !decide (x.2 = .free)) && decide (((cellsFrom 0 scope.names []).map (·.1)).Nodup) && Nat.blt 0 D && Nat.blt 2 U) = true)
    (h : ∀ L, let V : Vis := ⟨w, D - 1, U - 3, qual, scope, L, f, cdv, cellsFrom (L + 1) scope.names [], need, []⟩; ∀ c : Ctx V, let σ : St := ⟨bindL (fun x => scope.names.lookup x) binds fun _ => none, bindC (fun x => scope.names.lookup x) binds fun _ => none, [], []⟩; Run c σ (execs body V.env) (EndS Post)) : GS w f D U vs need Post :=
  gmC_of_run (mt0 := []) (fun _ h => nomatch h) List.nodup_nil ho hcd hbind hc fun L c => (h L c).mono fun _ _ h => endS_of h
end R6
section R7
section
variable {V : Vis} {c : Ctx V} {σ : St}
theorem Rep.of {d : Addr} {o o' : Obj} {l l' : Led} (h : Rep d o o' l l') (hn : (l.map (·.1)).Nodup) : ∀ p ∈ l', p = (d, o') ∨ (p ∈ l ∧ p.1 ≠ d) := by
  induction h with
  | head =>
    intro p hp
    rw [List.map_cons, List.nodup_cons] at hn
    rcases List.mem_cons.mp hp with rfl | hp
    · exact .inl rfl
    · exact .inr ⟨.tail _ hp, fun e => hn.1 (List.mem_map.mpr ⟨p, hp, e⟩)⟩
  | tail h ih =>
    intro p hp
    rw [List.map_cons, List.nodup_cons] at hn
    rcases List.mem_cons.mp hp with rfl | hp
    · exact .inr ⟨.head _, fun e => hn.1 (List.mem_map.mpr ⟨_, h.mem, e.symm⟩)⟩
    · rcases ih hn.2 p hp with e | ⟨h1, h2⟩
      · exact .inl e
      · exact .inr ⟨.tail _ h1, h2⟩
theorem InvC.mtnd {ce : Led} {s : Shared} (I : InvC c σ ce s) : (σ.mt.map (·.1)).Nodup := by
  have h := I.S.1
  rw [List.map_append, List.map_append, List.nodup_append] at h
  exact (List.nodup_append.mp h.2.1).2.1
theorem InvC.gm {ce mt' mt0 mt0' tl : Led} {s : Shared} {h' : Heap} {tk' : Nat} (I : InvC c σ ce s) (hk : mt'.map (·.1) = σ.mt.map (·.1)) (hm : ∀ p ∈ mt', p ∈ mt0' ∨ (p ∈ σ.mt ∧ p.1 ∉ mt0.map (·.1))) (h0 : ∀ p ∈ mt0, p ∈ σ.mt)
    (e1 : mt0'.map (·.1) = mt0.map (·.1)) (e2 : ∀ p ∈ mt0', h'.get? p.1 = some p.2) (e3 : ∀ b o, b ∉ mt0.map (·.1) → s.heap.get? b = some o → h'.get? b = some o) (e4 : ∀ p ∈ tl, h'.get? p.1 = some p.2 ∧ s.heap.get? p.1 = none) :
    Inv c ((σ.chg mt').add tl) { s with heap := h', toks := tk' } := by
  have nd := I.S.1
  rw [List.map_append, List.map_append, List.nodup_append] at nd
  have nd2 := List.nodup_append.mp nd.2.1
  have kmt : ∀ b ∈ mt0.map (·.1), b ∈ σ.mt.map (·.1) := fun b hb => by
    obtain ⟨p, hp, rfl⟩ := List.mem_map.mp hb
    exact List.mem_map_of_mem (h0 p hp)
  have inN : ∀ b ∈ σ.mt.map (·.1), b ≠ V.L ∧ c.g.get? b = none := fun b hb => by
    obtain ⟨p, hp, rfl⟩ := List.mem_map.mp hb
    exact (I.N p (List.mem_append_right _ (List.mem_append_right _ (List.mem_append_left _ hp)))).2
  have old : ∀ p, p ∈ c.hid ++ (ce ++ (σ.mt ++ (σ.fl ++ V.nd))) → p.1 ∉ mt0.map (·.1) → h'.get? p.1 = some p.2 ∧ p.1 ≠ V.L ∧ c.g.get? p.1 = none := fun p hp hn => ⟨e3 _ _ hn (I.N p hp).1, (I.N p hp).2⟩
  have hidN : ∀ p ∈ c.hid, p.1 ∉ mt0.map (·.1) := fun p hp q => nd.2.2 _ (List.mem_map_of_mem hp) _ (List.mem_append_right _ (kmt _ q)) rfl
  have ceN : ∀ p ∈ ce, p.1 ∉ mt0.map (·.1) := fun p hp q => nd2.2.2 _ (List.mem_map_of_mem hp) _ (kmt _ q) rfl
  have imN : ∀ p ∈ σ.fl ++ V.nd, p.1 ∉ mt0.map (·.1) := fun p hp q => by
    obtain ⟨r, hr, e⟩ := List.mem_map.mp (kmt _ q)
    exact I.S.2 r (List.mem_append_right _ (List.mem_append_right _ hr)) p hp e
  have hL : V.L ∉ mt0.map (·.1) := fun q => (inN _ (kmt _ q)).1 rfl
  have fresh : ∀ p ∈ tl, ∀ q ∈ c.hid ++ (ce ++ (σ.mt ++ (σ.fl ++ V.nd))), q.1 ≠ p.1 := fun p hp q hq e => by
    have := (I.N q hq).1
    rw [e, (e4 p hp).2] at this; cases this
  refine ⟨ce, ⟨?_, fun b o e => ?_, I.F.above⟩, fun p hp => ?_, I.C, ⟨?_, fun p hp q hq => ?_⟩, fun p hp => ?_, I.K, I.R⟩
  · obtain ⟨oL, es, ep, hL', hr⟩ := I.F.ns
    exact ⟨oL, es, ep, e3 _ _ hL hL', hr⟩
  · refine e3 b o (fun q => ?_) (I.F.keep b o e)
    rw [(inN _ (kmt _ q)).2] at e; cases e
  · have hp : p ∈ c.hid ++ (ce ++ (mt' ++ ((tl ++ σ.fl) ++ V.nd))) := hp
    rcases List.mem_append.mp hp with hp | hp
    · exact old p (List.mem_append_left _ hp) (hidN p hp)
    rcases List.mem_append.mp hp with hp | hp
    · exact old p (List.mem_append_right _ (List.mem_append_left _ hp)) (ceN p hp)
    rcases List.mem_append.mp hp with hp | hp
    · rcases hm p hp with hp | ⟨hp, hn⟩
      · refine ⟨e2 p hp, inN _ (kmt _ (e1 ▸ List.mem_map_of_mem hp))⟩
      · exact old p (List.mem_append_right _ (List.mem_append_right _ (List.mem_append_left _ hp))) hn
    · rw [List.append_assoc] at hp
      rcases List.mem_append.mp hp with hp | hp
      · have f := e4 p hp
        refine ⟨f.1, fun q => ?_, ?_⟩
        · obtain ⟨oL, _, _, e, _⟩ := I.F.ns
          rw [← q, f.2] at e; cases e
        · cases q : c.g.get? p.1 with
          | none => rfl
          | some o => have := I.F.keep _ _ q; rw [f.2] at this; cases this
      · exact old p (List.mem_append_right _ (List.mem_append_right _ (List.mem_append_right _ hp))) (imN p hp)
  · show ((c.hid ++ (ce ++ mt')).map (·.1)).Nodup
    have := I.S.1
    rw [List.map_append, List.map_append] at this ⊢
    rw [hk]; exact this
  · have hp : p ∈ c.hid ++ (ce ++ mt') := hp
    have hq : q ∈ (tl ++ σ.fl) ++ V.nd := hq
    have : p.1 ∈ (c.hid ++ (ce ++ σ.mt)).map (·.1) := by
      have z := List.mem_map_of_mem (f := (·.1)) hp
      rw [List.map_append, List.map_append, hk] at z
      rw [List.map_append, List.map_append]; exact z
    obtain ⟨p', hp', e⟩ := List.mem_map.mp this
    rw [← e]
    rw [List.append_assoc] at hq
    rcases List.mem_append.mp hq with hq | hq
    · refine fresh q hq p' ?_
      rcases List.mem_append.mp hp' with h | h
      · exact List.mem_append_left _ h
      · rcases List.mem_append.mp h with h | h
        · exact List.mem_append_right _ (List.mem_append_left _ h)
        · exact List.mem_append_right _ (List.mem_append_right _ (List.mem_append_left _ h))
    · exact I.S.2 p' hp' q hq
  · rcases List.mem_append.mp hp with hp | hp
    · exact off1_of fun q hq => fresh p hp q (List.mem_append_right _ (List.mem_append_right _ (List.mem_append_right _ (List.mem_append_right _ hq))))
    · exact I.O p hp
theorem r_gm1 {f : Addr} {D U : Nat} {vs : List Value} {need : Led} {Post : Value → Led → Led → Prop} {S : Addr} {o : Obj} {mt' : Obj → Led} {Q : Value → St → Prop} (G : GM V.w f D U vs [(S, o)] need Post) (u : ∀ o', Rep S o o' σ.mt (mt' o')) (hn : ∀ p ∈ need, p ∈ σ.fl ++ V.nd) (hd : Nat.ble D V.D = true) (hu : Nat.ble U V.U = true)
    (h : ∀ r o' tl, Post r [(S, o')] tl → let σ' := (σ.chg (mt' o')).add tl; Q r σ') : Run c σ (call (.ref f) vs) Q := fun s I => by
  obtain ⟨ce, I⟩ := I
  have h1 := c.hd
  have h2 := c.hu
  have h3 := Nat.le_of_ble_eq_true hd
  have h4 := Nat.le_of_ble_eq_true hu
  refine G _ _ _ _ _ _ _ _ _ _ _ _ _ _ _ _ _ _ _ _ c.B I.F c.BO (fun p hp => I.loose ?_) c.hk (by omega) (by omega) fun r mt1 tl h' tk' e1 e2 e3 e4 e5 => ?_
  · rcases List.mem_append.mp hp with hp | hp
    · rw [List.mem_singleton.mp hp]; exact hasMt (u o).mem
    · exact List.mem_append_right _ (hn p hp)
  · obtain ⟨o', rfl⟩ : ∃ o', mt1 = [(S, o')] := by
      cases mt1 with
      | nil => cases e1
      | cons x l => cases l with
        | nil => cases x; cases e1; exact ⟨_, rfl⟩
        | cons => cases e1
    refine ⟨_, I.gm (mt0 := [(S, o)]) (mt0' := [(S, o')]) (u o').keys (fun p hp => ?_) (fun p hp => ?_) rfl e2 e3 e4, h r o' tl e5⟩
    · rcases (u o').of I.mtnd p hp with e | ⟨h1, h2⟩
      · exact .inl (by rw [e]; exact .head _)
      · exact .inr ⟨h1, fun q => h2 (List.mem_singleton.mp q)⟩
    · rw [List.mem_singleton.mp hp]; exact (u o).mem
theorem r_gm2 {f : Addr} {D U : Nat} {vs : List Value} {need : Led} {Post : Value → Led → Led → Prop} {S P : Addr} {o oP : Obj} {mt1 mt' : Obj → Obj → Led} {Q : Value → St → Prop} (G : GM V.w f D U vs [(S, o), (P, oP)] need Post) (u : ∀ o' oP', Rep S o o' σ.mt (mt1 o' oP')) (u2 : ∀ o' oP', Rep P oP oP' (mt1 o' oP') (mt' o' oP')) (hSP : S ≠ P) (hP : (P, oP) ∈ σ.mt) (hn : ∀ p ∈ need, p ∈ σ.fl ++ V.nd) (hd : Nat.ble D V.D = true) (hu : Nat.ble U V.U = true)
    (h : ∀ r o' oP' tl, Post r [(S, o'), (P, oP')] tl → let σ' := (σ.chg (mt' o' oP')).add tl; Q r σ') : Run c σ (call (.ref f) vs) Q := fun s I => by
  obtain ⟨ce, I⟩ := I
  have h1 := c.hd
  have h2 := c.hu
  have h3 := Nat.le_of_ble_eq_true hd
  have h4 := Nat.le_of_ble_eq_true hu
  refine G _ _ _ _ _ _ _ _ _ _ _ _ _ _ _ _ _ _ _ _ c.B I.F c.BO (fun p hp => I.loose ?_) c.hk (by omega) (by omega) fun r mtx tl h' tk' e1 e2 e3 e4 e5 => ?_
  · rcases List.mem_append.mp hp with hp | hp
    · rcases List.mem_cons.mp hp with rfl | hp
      · exact hasMt (u o oP).mem
      · rw [List.mem_singleton.mp hp]; exact hasMt hP
    · exact List.mem_append_right _ (hn p hp)
  · obtain ⟨o', oP', rfl⟩ := two_of e1
    have k1 := (u o' oP').keys
    refine ⟨_, I.gm (mt0 := [(S, o), (P, oP)]) (mt0' := [(S, o'), (P, oP')]) ((u2 o' oP').keys.trans k1) (fun p hp => ?_) (fun p hp => ?_) rfl e2 e3 e4, h r o' oP' tl e5⟩
    · rcases (u2 o' oP').of (k1 ▸ I.mtnd) p hp with e | ⟨h1, h2⟩
      · exact .inl (by rw [e]; exact .tail _ (.head _))
      · rcases (u o' oP').of I.mtnd p h1 with e | ⟨h3, h4⟩
        · exact .inl (by rw [e]; exact .head _)
        · refine .inr ⟨h3, fun q => ?_⟩
          rcases List.mem_cons.mp q with q | q
          · exact h4 q
          · exact h2 (List.mem_singleton.mp q)
    · rcases List.mem_cons.mp hp with rfl | hp
      · exact (u o oP).mem
      · rw [List.mem_singleton.mp hp]; exact hP
theorem r_setI {D : Addr} {vs q : List Value} {n : Nat} {k : Int} {t : Tok} {v : Value} {mt' : Led} {Q : Unit → St → Prop} (h0 : 0 ≤ k) (h1 : k < 1000000) (e : ki_setL vs k.toNat v = some q) (u : Rep D (listOf vs.toArray n) (listOf q.toArray n) σ.mt mt') (h : let σ' := σ.chg mt'; Q () σ') : Run c σ (setItem (.ref D) (.int k t) v) Q := fun s I => by
  obtain ⟨ce, I⟩ := I
  exact ki_set (its := vs.toArray) I.F I.N h0 (by omega) e (I.upd u) fun h' F' N' => ⟨_, I.chg u F' N', h⟩
end
end R7
section R8
abbrev Vis.comp (V : Vis) (scope : Scope) (cl : List (Str × Addr)) (C : Addr) (own : List (Str × Value)) : Vis := { V with cp := ⟨scope, cl, C, own⟩ :: V.cp }
def CmpL (V : Vis) (scope : Scope) (cl : List (Str × Addr)) (x : Str) (elt : PySem.Expr) (m : Str → Option Value) (src : Option (Addr × Obj)) (Q : List Value → St → Prop) : List Itm → List Value → St → Prop
  | [], ys, σ => Q ys σ
  | .val v :: r, ys, σ => ∀ (C : Addr) (c : Ctx (V.comp scope cl C [(x, v)])), Run c σ (eval elt (V.comp scope cl C [(x, v)]).env) (fun y σ' => σ'.m = m ∧ (∀ p ∈ src, p ∈ σ'.fl ++ V.nd) ∧ CmpL V scope cl x elt m src Q r (ys ++ [y]) σ')
  | .tok f :: r, ys, σ => ∀ (t : Tok) (C : Addr) (c : Ctx (V.comp scope cl C [(x, f t)])), Run c σ (eval elt (V.comp scope cl C [(x, f t)]).env) (fun y σ' => σ'.m = m ∧ (∀ p ∈ src, p ∈ σ'.fl ++ V.nd) ∧ CmpL V scope cl x elt m src Q r (ys ++ [y]) σ')
  | _ :: _, _, _ => False
section
variable {V : Vis} {c : Ctx V} {σ : St}
theorem off3_of_hid {I C D : Addr} {oI oC oD : Obj} {ce : Led} {V' : Vis} {c' : Ctx V'} (hn : V'.nd = V.nd) (hh : c'.hid = (I, oI) :: (C, oC) :: (D, oD) :: c.hid) (S : Sep (c'.hid ++ (ce ++ σ.mt)) (σ.fl ++ V'.nd)) :
    Sep (c.hid ++ (ce ++ σ.mt)) (σ.fl ++ V.nd) ∧ LCg.Off3 I C D (ledOf c ce σ) := by
  rw [hh, hn] at S
  obtain ⟨S1, S2⟩ := S
  simp only [List.cons_append, List.map_cons, List.nodup_cons] at S1
  obtain ⟨s1, s2, s3, s4⟩ := S1
  refine ⟨⟨s4, fun p hp q hq => S2 p (.tail _ (.tail _ (.tail _ hp))) q hq⟩, LCg.Off3.of fun p hp => ?_⟩
  have : p ∈ (c.hid ++ (ce ++ σ.mt)) ∨ p ∈ σ.fl ++ V.nd := by
    simp only [ledOf, List.mem_append] at hp ⊢
    rcases hp with h | h | h | h | h <;> simp only [h, true_or, or_true]
  rcases this with hp | hp
  · have hk : p.1 ∈ (c.hid ++ (ce ++ σ.mt)).map (·.1) := List.mem_map_of_mem hp
    exact ⟨fun e => s1 (e ▸ .tail _ (.tail _ hk)), fun e => s2 (e ▸ .tail _ hk), fun e => s3 (e ▸ hk)⟩
  · exact ⟨fun e => S2 (I, oI) (.head _) p hp e.symm, fun e => S2 (C, oC) (.tail _ (.head _)) p hp e.symm, fun e => S2 (D, oD) (.tail _ (.tail _ (.head _))) p hp e.symm⟩
theorem sep_hid {I C D : Addr} {oI oC oD : Obj} {ce : Led} (S : Sep (c.hid ++ (ce ++ σ.mt)) (σ.fl ++ V.nd)) (ne : @Ne Nat I C ∧ @Ne Nat I D ∧ @Ne Nat C D) (off : LCg.Off3 I C D (ledOf c ce σ)) : Sep (((I, oI) :: (C, oC) :: (D, oD) :: c.hid) ++ (ce ++ σ.mt)) (σ.fl ++ V.nd) := by
  have key : ∀ p ∈ c.hid ++ (ce ++ σ.mt), p.1 ≠ I ∧ p.1 ≠ C ∧ p.1 ≠ D := fun p hp => off.mem p (by
    simp only [ledOf, List.mem_append] at hp ⊢
    rcases hp with h | h | h <;> simp only [h, true_or, or_true])
  have key2 : ∀ p ∈ σ.fl ++ V.nd, p.1 ≠ I ∧ p.1 ≠ C ∧ p.1 ≠ D := fun p hp => off.mem p (List.mem_append_right _ (List.mem_append_right _ (List.mem_append_right _ hp)))
  refine ⟨?_, fun p hp q hq => ?_⟩
  · show (I :: C :: D :: (c.hid ++ (ce ++ σ.mt)).map (·.1)).Nodup
    refine List.nodup_cons.mpr ⟨fun h => ?_, List.nodup_cons.mpr ⟨fun h => ?_, List.nodup_cons.mpr ⟨fun h => ?_, S.1⟩⟩⟩
    · rcases List.mem_cons.mp h with h | h
      · exact ne.1 h
      rcases List.mem_cons.mp h with h | h
      · exact ne.2.1 h
      · obtain ⟨p, hp, e⟩ := List.mem_map.mp h
        exact (key p hp).1 e
    · rcases List.mem_cons.mp h with h | h
      · exact ne.2.2 h
      · obtain ⟨p, hp, e⟩ := List.mem_map.mp h
        exact (key p hp).2.1 e
    · obtain ⟨p, hp, e⟩ := List.mem_map.mp h
      exact (key p hp).2.2 e
  · have hp : p ∈ (I, oI) :: (C, oC) :: (D, oD) :: (c.hid ++ (ce ++ σ.mt)) := hp
    rcases List.mem_cons.mp hp with rfl | hp
    · exact fun e => (key2 q hq).1 e.symm
    rcases List.mem_cons.mp hp with rfl | hp
    · exact fun e => (key2 q hq).2.1 e.symm
    rcases List.mem_cons.mp hp with rfl | hp
    · exact fun e => (key2 q hq).2.2 e.symm
    · exact S.2 p hp q hq
def Ctx.comp (c : Ctx V) (scope : Scope) (cl : List (Str × Addr)) (C : Addr) (own : List (Str × Value)) (its : Led) (E' : Value → Shared → Prop) (s : Shared) : Ctx (V.comp scope cl C own) :=
  { mean := c.mean, mg := c.mg, mb := c.mb, dp := c.dp, un := c.un, gd := c.gd, outer := c.outer, A₀ := c.A₀, base := c.base, g := c.g, E := E', s₀ := c.s₀, hid := its ++ c.hid, BO := c.BO, B := c.B, hk := c.hk, hd := c.hd, hu := c.hu, P := fun h => nomatch h }
theorem eqS {s s₀ : Shared} {s' : Shared} (h : s'.gens = s₀.gens ∧ s'.drawn = s₀.drawn ∧ s'.os = s₀.os) (h' : s.gens = s₀.gens ∧ s.drawn = s₀.drawn ∧ s.os = s₀.os) : s' = { s with heap := s'.heap, toks := s'.toks } := by
  obtain ⟨r1, r2, r3⟩ := h
  obtain ⟨q1, q2, q3⟩ := h'
  have r1 := r1.trans q1.symm
  have r2 := r2.trans q2.symm
  have r3 := r3.trans q3.symm
  cases s'; cases s; cases r1; cases r2; cases r3; rfl
theorem cmp_rest {scope : Scope} {cl : List (Str × Addr)} {x : Str} {elt : PySem.Expr} {src : Option (Addr × Obj)} {Q : List Value → St → Prop} {S : Led → Prop} {P : Nat → Value → Prop} {Fin : List Value → Led → Prop} {xs : List Itm} (s : Shared) (hR : s.gens = c.s₀.gens ∧ s.drawn = c.s₀.drawn ∧ s.os = c.s₀.os) (m : Str → Option Value)
    (hP : ∀ i v, i < xs.length → P i v → ∃ a, xs[i]? = some a ∧ ∀ h, a.Is v h) (hS : ∀ l, (∀ p ∈ src, p ∈ l) → S l) (fin : ∀ ys σ ce, InvS c σ ce → σ.m = m → Q ys σ → Fin ys (ledOf c ce σ)) :
    ∀ (r : List Itm) (i : Nat) (ys : List Value) (σ : St) (ce : Led), xs.drop i = r → InvS c σ ce → σ.m = m → CmpL V scope cl x elt m src Q r ys σ → LCg.CompRest rprog V.w c.A c.g V.L m V.env elt x scope cl s S P Fin r.length i ys (ledOf c ce σ) := by
  intro r
  induction r with
  | nil => intro i ys σ ce _ J hm h; exact fin ys σ ce J hm h
  | cons a r ih =>
    intro i ys σ ce hd J hm h v I oI C oC D m₂ h' tk E' hv hC hx F N off ne
    have ha : ∀ h, a.Is v h := by
      have : xs[i]? = some a := by
        have := congrArg (·[0]?) hd
        simpa [List.getElem?_drop] using this
      obtain ⟨a', h1, h2⟩ := hP i v (List.getElem?_eq_some_iff.mp this).1 hv
      rw [this] at h1
      cases h1; exact h2
    have hd' : xs.drop (i + 1) = r := by
      have := congrArg List.tail hd
      rw [List.tail_drop] at this
      exact this
    have core : ∀ (_ : ∀ c' : Ctx (V.comp scope cl C [(x, v)]), Run c' σ (eval elt (V.comp scope cl C [(x, v)]).env) (fun y σ' => σ'.m = m ∧ (∀ p ∈ src, p ∈ σ'.fl ++ V.nd) ∧ CmpL V scope cl x elt m src Q r (ys ++ [y]) σ')),
        wpAny (model rprog V.w) c.A (eval elt (compEnvC scope cl C V.env)) (LCg.CompEnd c.g V.L m { s with heap := h', toks := tk } I oI C oC D (LCg.lst ys) S (fun y news' => LCg.CompRest rprog V.w c.A c.g V.L m V.env elt x scope cl s S P Fin r.length (i + 1) (ys ++ [y]) news')) E' { s with heap := h', toks := tk } := fun hrun => by
      let c' := c.comp scope cl C [(x, v)] [(I, oI), (C, oC), (D, LCg.lst ys)] E' s
      have I' : InvC c' σ ce { s with heap := h', toks := tk } := by
        refine ⟨hm ▸ F, N, J.C, sep_hid J.S ne off, J.O, fun k hk => ?_, hR⟩
        rcases List.mem_cons.mp hk with rfl | hk
        · refine ⟨oC, m₂, .tail _ (.head _), hC, fun y u hy => ?_⟩
          have hy : List.lookup y [(x, v)] = some u := hy
          rw [List.lookup_cons] at hy
          cases e : y == x
          · rw [e] at hy; cases hy
          · rw [e] at hy
            rw [beq_iff_eq.mp e, ← Option.some.inj hy]; exact hx
        · obtain ⟨oC', m', h1, h2⟩ := J.K k hk
          exact ⟨oC', m', .tail _ (.tail _ (.tail _ h1)), h2⟩
      refine wpAny_mono (hrun c' _ ⟨ce, I'⟩) (fun y s₂ h₂ => ?_) fun _ _ e => e
      obtain ⟨σ₂, ⟨ce₂, I₂⟩, hm₂, hs₂, h₂⟩ := h₂
      have z := off3_of_hid (V := V) (c := c) (c' := c') (σ := σ₂) (ce := ce₂) rfl rfl I₂.S
      have J₂ : InvS c σ₂ ce₂ := ⟨I₂.C, z.1, I₂.O, J.K⟩
      refine ⟨s₂.heap, s₂.toks, ledOf c ce₂ σ₂, eqS (s := { s with heap := h', toks := tk }) I₂.R hR, hm₂ ▸ I₂.F, I₂.N, z.2, hS _ fun p hp => ?_, ih (i + 1) (ys ++ [y]) σ₂ ce₂ hd' J₂ hm₂ h₂⟩
      exact List.mem_append_right _ (List.mem_append_right _ (List.mem_append_right _ (hs₂ p hp)))
    cases a with
    | val u =>
      have e : v = u := ha h'
      subst e
      exact core (h C)
    | tok f =>
      obtain ⟨t, e⟩ := ha h'
      subst e
      exact core (h t C)
    | flat => cases h
    | pair => cases h
    | pairF => cases h
theorem val_at {vs : List Value} (i : Nat) (v : Value) (hv : vs.toArray[i]? = some v) : ∃ a, (vs.map Itm.val)[i]? = some a ∧ ∀ h, a.Is v h :=
  ⟨.val v, by rw [List.getElem?_map, show vs[i]? = some v from by simpa using hv]; rfl, fun _ => rfl⟩
def compOK (scope : Scope) (x : Str) : Bool := scope.names.all (fun z => !decide (z.2 = .cell)) && decide (scope.kind = .function) && scope.names.all (fun z => !decide (z.2 = .local) || decide (scope.names.lookup z.1 = some .local)) && decide (scope.names.lookup x = some .local)
theorem compOK_of {scope : Scope} {x : Str} (h : compOK scope x = true) : (∀ y ∈ scope.names, y.2 ≠ .cell) ∧ scope.kind = .function ∧ (∀ y ∈ scope.names, y.2 = .local → scope.names.lookup y.1 = some .local) ∧ scope.names.lookup x = some .local := by
  simp only [compOK, Bool.and_eq_true, decide_eq_true_eq, List.all_eq_true] at h
  refine ⟨fun y hy => by simpa using h.1.1.1 y hy, h.1.1.2, fun y hy e => ?_, h.2⟩
  have := h.1.2 y hy
  rw [Bool.or_eq_true] at this
  rcases this with q | q
  · simp [e] at q
  · exact of_decide_eq_true q
def rngO (n : Int) (t u v : Tok) : Obj := { cls := .type "range", data := .fields #[.int 0 t, .int n u, .int 1 v] }
def itmR : Int → Nat → List Itm
  | _, 0 => []
  | a, n + 1 => (.tok fun t => .int a t) :: itmR (a + 1) n
theorem itmR_at : ∀ (n i : Nat) (a : Int), i < n → (itmR a n)[i]? = some (.tok fun t => .int (a + (i : Int)) t)
  | n + 1, 0, a, _ => by simp [itmR]
  | n + 1, i + 1, a, h => by
    rw [itmR, List.getElem?_cons_succ, itmR_at n i (a + 1) (by omega)]
    have : a + 1 + (i : Int) = a + ((i + 1 : Nat) : Int) := by omega
    rw [this]
theorem itmR_len : ∀ (n : Nat) (a : Int), (itmR a n).length = n
  | 0, _ => rfl
  | n + 1, a => by rw [itmR, List.length_cons, itmR_len n]
inductive CSrc (V : Vis) (σ : St) : Value → List Itm → Option (Addr × Obj) → Prop
  | list {R : Addr} {vs : List Value} {n : Nat} : (R, listOf vs.toArray n) ∈ σ.fl ++ V.nd → Nat.ble vs.length 1000 = true → CSrc V σ (.ref R) (vs.map .val) (some (R, listOf vs.toArray n))
  | tup {R : Addr} {vs : List Value} {n : Nat} : (R, tup vs n) ∈ σ.fl ++ V.nd → Nat.ble vs.length 1000 = true → CSrc V σ (.ref R) (vs.map .val) (some (R, tup vs n))
  | str {l : List Nat} {t : Tok} : Nat.ble l.length 1000 = true → CSrc V σ (.str ⟨l.toArray⟩ t) (l.map fun k => .tok fun t => .str ⟨#[k]⟩ t) none
  | rng {R : Addr} {n : Int} {t u v : Tok} {k : Nat} : (R, rngO n t u v) ∈ σ.fl ++ V.nd → (-1000 ≤ n ∧ n ≤ 1000) → n.toNat = k → CSrc V σ (.ref R) (itmR 0 k) none
abbrev KComp (V : Vis) (scope : Scope) (cl : List (Str × Addr)) (x : Str) (elt : PySem.Expr) (m : Str → Option Value) (Q : List Value → St → Prop) : Value → St → Prop := fun xv σ => σ.m = m ∧ ∃ xs src, CSrc V σ xv xs src ∧ CmpL V scope cl x elt m src Q xs [] σ
theorem comp_src_ok {scope : Scope} {cl : List (Str × Addr)} {x : Str} {elt : PySem.Expr} {Q : List Value → St → Prop} {xv : Value} {m : Str → Option Value} {s₁ : Shared} {Fin : Shared → List Value → Led → Prop} (I : Inv c σ s₁) (h : KComp V scope cl x elt m Q xv σ)
    (fin : ∀ s₂ : Shared, (∃ g, s₂ = { s₁ with heap := g }) → ∀ ys σ' ce, InvS c σ' ce → σ'.m = m → Q ys σ' → Fin s₂ ys (ledOf c ce σ')) : CompSrcW rprog V.w c.A c.g V.L m V.env elt x scope cl Fin xv s₁ := by
  obtain ⟨rfl, xs, src, hs, h⟩ := h
  obtain ⟨ce, I⟩ := I
  have up : ∀ p, p ∈ σ.fl ++ V.nd → p ∈ ledOf c ce σ := fun p hp => List.mem_append_right _ (List.mem_append_right _ (List.mem_append_right _ hp))
  cases hs with
  | @list R vs n hm hz =>
    refine srcW_list (its := vs.toArray) (k := n) (news := ledOf c ce σ) rfl I.F I.N (up _ hm) (by rw [List.size_toArray]; exact sz_of hz (by decide)) fun g => ?_
    have e : vs.toArray.size = (vs.map Itm.val).length := by simp
    rw [e]
    exact cmp_rest (xs := vs.map Itm.val) (s := { s₁ with heap := g }) I.R σ.m (fun i v _ => val_at i v) (fun l hl => srcAt_intro (hl _ rfl)) (fin _ ⟨g, rfl⟩) _ 0 [] σ ce List.drop_zero I.st rfl h
  | @tup R vs n hm hz =>
    refine srcW_tuple (its := vs.toArray) (k := n) (news := ledOf c ce σ) rfl I.F I.N (up _ hm) (by rw [List.size_toArray]; exact sz_of hz (by decide)) fun g => ?_
    have e : vs.toArray.size = (vs.map Itm.val).length := by simp
    rw [e]
    exact cmp_rest (xs := vs.map Itm.val) (s := { s₁ with heap := g }) I.R σ.m (fun i v _ => val_at i v) (fun l hl => tupAt_intro (hl _ rfl)) (fin _ ⟨g, rfl⟩) _ 0 [] σ ce List.drop_zero I.st rfl h
  | @str l t hz =>
    refine srcW_str (y := ⟨l.toArray⟩) (news := ledOf c ce σ) rfl I.F I.N (by show l.toArray.size ≤ _; rw [List.size_toArray]; exact sz_of hz (by decide)) fun g => ?_
    have e : (Str.mk l.toArray).cps.size = (l.map fun k => Itm.tok fun t => .str ⟨#[k]⟩ t).length := by simp
    rw [e]
    refine cmp_rest (xs := l.map fun k => Itm.tok fun t => .str ⟨#[k]⟩ t) (s := { s₁ with heap := g }) I.R σ.m (fun i v _ hv => ?_) (fun l hl => trivial) (fin _ ⟨g, rfl⟩) _ 0 [] σ ce List.drop_zero I.st rfl h
    obtain ⟨k, u, e1, e2⟩ := hv
    exact ⟨.tok fun t => .str ⟨#[k]⟩ t, by rw [List.getElem?_map, show l[i]? = some k from by simpa using e1]; rfl, fun _ => ⟨u, e2⟩⟩
  | @rng R n t u v k hm hn hk =>
    have hr : IsRange s₁.heap R 0 n 1 t u v := (I.N _ (up _ hm)).1
    refine srcW_range (n := k) (news := ledOf c ce σ) rfl I.F I.N hr (range_small hn.1 (by omega)) (by rw [range_size, hk]) (by rw [sizeLine_eq]; omega) fun g => ?_
    have e : k = (itmR 0 k).length := (itmR_len k 0).symm
    have e2 := cmp_rest (c := c) (P := fun i v => ∃ t, v = Value.int (0 + (i : Int)) t) (S := fun _ => True) (xs := itmR 0 k) (s := { s₁ with heap := g }) I.R σ.m (fun i v hi hv => ⟨_, itmR_at k i 0 (itmR_len k 0 ▸ hi), fun _ => hv⟩) (fun l hl => trivial) (fin _ ⟨g, rfl⟩) _ 0 [] σ ce List.drop_zero I.st rfl h
    rw [itmR_len] at e2
    exact e2

abbrev KMade (Q : Value → St → Prop) : List Value → St → Prop := fun ys σ => ∀ D, let σ' := σ.imm D (LCg.lst ys); Q (.ref D) σ'
abbrev KMadeM (Q : Value → St → Prop) : List Value → St → Prop := fun ys σ => ∀ D, let σ' := σ.mut D (LCg.lst ys); Q (.ref D) σ'
theorem r_comp {elt iter : PySem.Expr} {x : Str} {px pos : Pos} {scope : Scope} {cl : List (Str × Addr)} {Q : Value → St → Prop} (hk : compOK scope x = true) (hc : closureFor scope V.env = pure cl) (hs : ∀ x, foldedSetIterable iter V.env x = pure x) (h : Run c σ (eval iter V.env) (KComp V scope cl x elt σ.m (KMade Q))) :
    Run c σ (eval (.ListComp elt [⟨.Name x px, iter, [], 0⟩] scope pos) V.env) Q := fun s I => by
  obtain ⟨k1, k2, k3, k4⟩ := compOK_of hk
  have I0 := I
  obtain ⟨ce, I⟩ := I
  refine ListComp_W I.F hc k1 k2 k3 k4 (h.on I0 fun xv σ₁ s₁ I₁ h₁ => comp_src_ok I₁ h₁ ?_) hs
  rintro s₂ ⟨g, rfl⟩ ys σ' ce' J hm hQ D h' tk F N O
  obtain ⟨_, J₁⟩ := I₁
  have I' : InvC c σ' ce' { s₁ with heap := h', toks := tk } := J.at (hm ▸ F) (fun p hp => N p (.tail _ hp)) J₁.R
  exact ⟨_, I'.imm (h' := h') (k := tk) (hm ▸ F) N (fun p hp => off1_mem O p hp), hQ D⟩
theorem r_compM {elt iter : PySem.Expr} {x : Str} {px pos : Pos} {scope : Scope} {cl : List (Str × Addr)} {Q : Value → St → Prop} (hk : compOK scope x = true) (hc : closureFor scope V.env = pure cl) (hs : ∀ x, foldedSetIterable iter V.env x = pure x) (h : Run c σ (eval iter V.env) (KComp V scope cl x elt σ.m (KMadeM Q))) :
    Run c σ (eval (.ListComp elt [⟨.Name x px, iter, [], 0⟩] scope pos) V.env) Q := fun s I => by
  obtain ⟨k1, k2, k3, k4⟩ := compOK_of hk
  have I0 := I
  obtain ⟨ce, I⟩ := I
  refine ListComp_W I.F hc k1 k2 k3 k4 (h.on I0 fun xv σ₁ s₁ I₁ h₁ => comp_src_ok I₁ h₁ ?_) hs
  rintro s₂ ⟨g, rfl⟩ ys σ' ce' J hm hQ D h' tk F N O
  obtain ⟨_, J₁⟩ := I₁
  have I' : InvC c σ' ce' { s₁ with heap := h', toks := tk } := J.at (hm ▸ F) (fun p hp => N p (.tail _ hp)) J₁.R
  exact ⟨_, I'.mut (h' := h') (k := tk) (hm ▸ F) N (fun p hp => off1_mem O p hp), hQ D⟩
abbrev KMadeS (y : Str) (Q : Flow → St → Prop) : List Value → St → Prop := fun ys σ => ∀ D, let σ' := (σ.imm D (LCg.lst ys)).put y (.ref D); Q .next σ'
theorem r_setComp {elt iter : PySem.Expr} {x y : Str} {px py pos spos : Pos} {scope : Scope} {cl : List (Str × Addr)} {Q : Flow → St → Prop} (hy : isL V y = true) (hsw : swapsWith (.ListComp elt [⟨.Name x px, iter, [], 0⟩] scope pos) (some (.Name y py)) spos.line V.env = pure true) (hk : compOK scope x = true) (hc : closureFor scope V.env = pure cl) (hs : ∀ x, foldedSetIterable iter V.env x = pure x) (h : Run c σ (eval iter V.env) (KComp V scope cl x elt σ.m (KMadeS y Q))) :
    Run c σ (exec (.Assign [.Name y py] (.ListComp elt [⟨.Name x px, iter, [], 0⟩] scope pos) spos) V.env) Q := fun s I => by
  obtain ⟨k1, k2, k3, k4⟩ := compOK_of hk
  simp only [isL, Bool.and_eq_true, beq_iff_eq, Bool.not_eq_true'] at hy
  obtain ⟨⟨h1, h2⟩, _⟩ := hy
  have e0 := env_top h1
  have I0 := I
  obtain ⟨ce, I⟩ := I
  refine Assign_ListComp_W I.F (by rw [e0]) hsw hc k1 k2 k3 k4 (by rw [e0]; exact h2) (by rw [e0]; show (V.cs.kind == .class || (V.cs.kind == .module && V.L != mainGlobals)) = false; rw [c.hk]; rfl) (h.on I0 fun xv σ₁ s₁ I₁ h₁ => comp_src_ok I₁ h₁ ?_) hs
  rintro s₂ ⟨g, rfl⟩ ys σ' ce' J hm hQ D h' tk F N O
  obtain ⟨_, J₁⟩ := I₁
  have J' : InvS c (σ'.put y (.ref D)) ce' := ⟨J.C, J.S, J.O, J.K⟩
  have F' : Fr c.g V.L h' (σ'.put y (.ref D)).m := by
    have : (σ'.put y (.ref D)).m = fun z => if z = y then some (.ref D) else σ.m z := by rw [← hm]; rfl
    rw [this]; exact F
  have I' : InvC c (σ'.put y (.ref D)) ce' { s₁ with heap := h', toks := tk } := J'.at F' (fun p hp => N p (.tail _ hp)) J₁.R
  exact ⟨_, I'.imm (h' := h') (k := tk) F' N (fun p hp => off1_mem O p hp), hQ D⟩
end
section
variable {V : Vis} {σ : St} {scope : Scope} {cl : List (Str × Addr)} {x : Str} {elt : PySem.Expr} {m : Str → Option Value} {src : Option (Addr × Obj)} {Q : List Value → St → Prop} {ys : List Value}
abbrev KElt (V : Vis) (scope : Scope) (cl : List (Str × Addr)) (x : Str) (elt : PySem.Expr) (m : Str → Option Value) (src : Option (Addr × Obj)) (Q : List Value → St → Prop) (r : List Itm) (ys : List Value) : Value → St → Prop := fun y σ' => σ'.m = m ∧ (∀ p ∈ src, p ∈ σ'.fl ++ V.nd) ∧ CmpL V scope cl x elt m src Q r (ys ++ [y]) σ'
def itmV (vs : List Value) : List Itm := vs.map Itm.val
def itmS (l : List Nat) : List Itm := l.map fun k => Itm.tok fun t => .str ⟨#[k]⟩ t
theorem k_cmpN (h : Q ys σ) : CmpL V scope cl x elt m src Q (itmV []) ys σ := h
theorem k_cmpM (h : Q ys σ) : CmpL V scope cl x elt m src Q (itmS []) ys σ := h
theorem k_cmpV {v : Value} {r : List Value} (h : ∀ (C : Addr) (c : Ctx (V.comp scope cl C [(x, v)])), Run c σ (eval elt (V.comp scope cl C [(x, v)]).env) (KElt V scope cl x elt m src Q (itmV r) ys)) : CmpL V scope cl x elt m src Q (itmV (v :: r)) ys σ := h
theorem k_cmpT {k : Nat} {r : List Nat} (h : ∀ (t : Tok) (C : Addr) (c : Ctx (V.comp scope cl C [(x, .str ⟨#[k]⟩ t)])), Run c σ (eval elt (V.comp scope cl C [(x, .str ⟨#[k]⟩ t)]).env) (KElt V scope cl x elt m src Q (itmS r) ys)) : CmpL V scope cl x elt m src Q (itmS (k :: r)) ys σ := h
theorem k_elt1 {p : Addr × Obj} {r : List Itm} {y : Value} {zs : List Value} (hm : σ.m = m) (hs : p ∈ σ.fl ++ V.nd) (e : ys ++ [y] = zs) (h : CmpL V scope cl x elt m (some p) Q r zs σ) : KElt V scope cl x elt m (some p) Q r ys y σ := ⟨hm, fun q hq => by cases hq; exact hs, e ▸ h⟩
theorem k_elt0 {r : List Itm} {y : Value} {zs : List Value} (hm : σ.m = m) (e : ys ++ [y] = zs) (h : CmpL V scope cl x elt m none Q r zs σ) : KElt V scope cl x elt m none Q r ys y σ := ⟨hm, fun q hq => (nomatch hq), e ▸ h⟩
theorem k_compL {R : Addr} {vs : List Value} {n : Nat} (hm : (R, listOf vs.toArray n) ∈ σ.fl ++ V.nd) (hz : Nat.ble vs.length 1000 = true) (hmm : σ.m = m) (h : CmpL V scope cl x elt m (some (R, listOf vs.toArray n)) Q (itmV vs) [] σ) : KComp V scope cl x elt m Q (.ref R) σ := ⟨hmm, _, _, .list hm hz, h⟩
theorem k_compT {R : Addr} {vs : List Value} {n : Nat} (hm : (R, tup vs n) ∈ σ.fl ++ V.nd) (hz : Nat.ble vs.length 1000 = true) (hmm : σ.m = m) (h : CmpL V scope cl x elt m (some (R, tup vs n)) Q (itmV vs) [] σ) : KComp V scope cl x elt m Q (.ref R) σ := ⟨hmm, _, _, .tup hm hz, h⟩
theorem k_compS {l : List Nat} {t : Tok} (hz : Nat.ble l.length 1000 = true) (hmm : σ.m = m) (h : CmpL V scope cl x elt m none Q (itmS l) [] σ) : KComp V scope cl x elt m Q (.str ⟨l.toArray⟩ t) σ := ⟨hmm, _, _, .str hz, h⟩
theorem k_cmpRN {a : Int} (h : Q ys σ) : CmpL V scope cl x elt m src Q (itmR a 0) ys σ := h
theorem k_cmpR {a b : Int} {n : Nat} (e : a + 1 = b) (h : ∀ (t : Tok) (C : Addr) (c : Ctx (V.comp scope cl C [(x, .int a t)])), Run c σ (eval elt (V.comp scope cl C [(x, .int a t)]).env) (KElt V scope cl x elt m src Q (itmR b n) ys)) : CmpL V scope cl x elt m src Q (itmR a (n + 1)) ys σ := by subst e; exact h
theorem k_compR {R : Addr} {n : Int} {t u v : Tok} {k : Nat} (hm : (R, rngO n t u v) ∈ σ.fl ++ V.nd) (hz : -1000 ≤ n ∧ n ≤ 1000) (hk : n.toNat = k) (hmm : σ.m = m) (h : CmpL V scope cl x elt m none Q (itmR 0 k) [] σ) : KComp V scope cl x elt m Q (.ref R) σ := ⟨hmm, _, _, .rng hm hz hk, h⟩
end
theorem r_range {V : Vis} {c : Ctx V} {σ : St} {n : Int} {t : Tok} {Q : Value → St → Prop} (h : ∀ R t u v, let σ' := σ.imm R (rngO n t u v); Q (.ref R) σ') : Run c σ (call (.type "range") [.int n t]) Q := fun s I => by
  obtain ⟨ce, I⟩ := I
  refine range1_rows I.F I.N fun h' tk t₁ u₁ v₁ hr F' N' _ => ⟨_, I.imm (h' := h') (k := tk) F' (fun p hp => ?_) (fun p hp => Nat.ne_of_lt (Heap.lt_size (I.N p hp).1)), h _ t₁ u₁ v₁⟩
  rcases List.mem_cons.mp hp with rfl | hp
  · exact ⟨hr, Ne.symm (Nat.ne_of_lt I.F.ns.lt), next_is_new I.F⟩
  · exact N' p hp
end R8
section R9
section
variable {V : Vis} {c : Ctx V} {σ : St}
theorem new_weight {C : Addr} {pos : List Value} {kw : List (Str × Value)} : (Code.builtin "type.__call__" ⟨.ref C :: pos, kw⟩).weight = 1 := by rfl
theorem new_units {C : Addr} {pos : List Value} {kw : List (Str × Value)} : (Code.builtin "type.__call__" ⟨.ref C :: pos, kw⟩).cUnits = 1 := by rfl
structure NewOK (w : World) (C fI : Addr) : Prop where
  m : makesIn (hd.heap_39 w.params) C = true
  i : findIn (hd.heap_39 w.params) (.ref C) "__init__" = some (some (.ref fI))
  f : isFn (hd.heap_39 w.params) (.ref fI) = true
theorem r_new {C fI : Addr} {pos : List Value} {Q : Value → St → Prop}
    {name qual : Str} {params : Arguments} {body : List Stmt} {scope : Scope} {dV kV doc pm cdv ct oc : Value} {an od : Option Addr} {osl : Array (Option Value)} {binds : Addr → List (Str × Value)}
    (hn : NewOK V.w C fI)
    (ho : (hd.heap_39 V.w.params).lookup fI = some ⟨oc, od, .func (fnOf name qual params body scope dV kV doc pm an cdv ct), osl⟩) (hcd : codeIn (hd.heap_39 V.w.params) cdv qual = true)
    (hbind : ∀ (X : Addr) (s : Shared), (hd.heap_39 V.w.params).In s.heap → BindsTo s (fnOf name qual params body scope dV kV doc pm an cdv ct) ⟨.ref X :: pos, []⟩ (binds X))
    (hc : ((binds 0).all (fun x => decide (scope.names.lookup x.1 = some .local)) && !scope.isCoroutine && !scope.isGenerator && decide (scope.kind = .function) && scope.names.all (fun x => !decide (x.2 = .cell))) = true) (hd' : Nat.ble 3 V.D = true) (hu' : Nat.ble 6 V.U = true) (hb : ∀ X, (binds X).map (·.1) = (binds 0).map (·.1))
    (h : ∀ X dx L, let V' : Vis := ⟨V.w, V.D - 3, V.U - 6, qual, scope, L, fI, cdv, [], V.nd, []⟩; ∀ c' : Ctx V', let σ' : St := ⟨fun y => (binds X).reverse.lookup y, fun _ => none, (dx, dictOf [] 0) :: σ.mt, [(X, instObj C dx)] :: σ.im⟩;
      Run c' σ' (execs body V'.env) (fun fl σ₁ => flowV fl = .none ∧ let σ₂ : St := ⟨σ.m, σ.cm, σ₁.mt, σ₁.im⟩; Q (.ref X) σ₂)) : Run c σ (call (.ref C) pos) Q := fun s I => by
  simp only [Bool.and_eq_true, Bool.not_eq_true', decide_eq_true_eq] at hc
  obtain ⟨⟨⟨⟨c1, c2⟩, c3⟩, c4⟩, c5⟩ := hc
  have hcell : ∀ x ∈ scope.names, x.2 ≠ .cell := fun x hx => by
    have := List.all_eq_true.mp c5 x hx
    simpa using this
  have X0 := I.X
  have T0 := I.T
  obtain ⟨ce, I⟩ := I
  have d1 := c.hd
  have d2 := c.hu
  have d3 := Nat.le_of_ble_eq_true hd'
  have d4 := Nat.le_of_ble_eq_true hu'
  refine call_cls I.F X0 I.N hn.m hn.i hn.f fun x dx h₀ F₀ N₀ l0 l1 => ?_
  have l2 : ∀ p ∈ c.hid ++ (ce ++ (σ.mt ++ (σ.fl ++ V.nd))), p.1 ≠ x := fun p hp => Nat.ne_of_lt (Nat.lt_trans (l0 p hp) l1)
  have i1 := I.mutC (D := dx) (o := dictOf [] 0) (h' := h₀) (k := s.toks) F₀ (fun p hp => N₀ p (.tail _ hp)) fun p hp => Nat.ne_of_lt (l0 p hp)
  have i2 := i1.immC (D := x) (o := instObj C dx) (h' := h₀) (k := s.toks) F₀ (fun p hp => N₀ p (by
    have hp : p ∈ (x, instObj C dx) :: (c.hid ++ (ce ++ ((dx, dictOf [] 0) :: σ.mt ++ (σ.fl ++ V.nd)))) := hp
    simp only [List.mem_cons, List.mem_append, List.cons_append] at hp ⊢
    rcases hp with h | h | h | h | h | h | h <;> simp only [h, true_or, or_true])) fun p hp => by
    have hp : p ∈ c.hid ++ (ce ++ ((dx, dictOf [] 0) :: σ.mt ++ (σ.fl ++ V.nd))) := hp
    have : p = (dx, dictOf [] 0) ∨ p ∈ c.hid ++ (ce ++ (σ.mt ++ (σ.fl ++ V.nd))) := by
      simp only [List.mem_cons, List.mem_append, List.cons_append] at hp ⊢
      rcases hp with h | h | h | h | h | h <;> simp only [h, true_or, or_true]
    rcases this with rfl | hp
    · exact Nat.ne_of_lt l1
    · exact l2 p hp
  have lc : ∀ y ∈ binds x, scope.names.lookup y.1 = some .local := fun y hy => by
    have : y.1 ∈ (binds 0).map (·.1) := hb x ▸ List.mem_map_of_mem hy
    obtain ⟨z, hz, e⟩ := List.mem_map.mp this
    exact e ▸ of_decide_eq_true (List.all_eq_true.mp c1 z hz)
  refine code_def (A₀ := c.A₀) (env := V.fenv) (outer := c.outer) (s := { s with heap := h₀ }) (binds := binds x) c.B F₀ X0 N₀ T0 rfl rfl c.hk ho hcd ?_ (hbind x _ (X0.keeps F₀.keep)) lc ?_ c2 c3 c4 hcell
  · show c.dp + _ < recursionLimit
    rw [new_weight]; omega
  · intro g L' h₁ FG F' N' B' X' T'
    let V' : Vis := ⟨V.w, V.D - 3, V.U - 6, qual, scope, L', fI, cdv, [], V.nd, []⟩
    let A1 : Around := c.A.under (.builtin "type.__call__" ⟨.ref C :: pos, []⟩)
    let c' : Ctx V' := { mean := c.mean, mg := c.mg, mb := c.mb, dp := A1.depth + 1, un := A1.units + 3, gd := A1.guards, outer := V.fenv :: c.outer, A₀ := A1, base := c.base, g := g, E := (fun e s' => wpAny (model rprog V.w) (A1.deeper (envOf qual scope L' fI cdv)) (leaving (envOf qual scope L' fI cdv) e) (fun _ s'' => InitBack x (fun r s' => match r with | .ok (.ret v) => (∃ σ', Inv c σ' s' ∧ Q v σ') | .ok _ => False | .error e => c.E e s') (.error e) s'') (fun e' s'' => InitBack x (fun r s' => match r with | .ok (.ret v) => (∃ σ', Inv c σ' s' ∧ Q v σ') | .ok _ => False | .error e => c.E e s') (.error e') s'') s'), s₀ := c.s₀, hid := c.hid ++ ce, BO := c.BO, B := B', hk := c4, hd := (by show c.dp + _ + 1 + (V.D - 3) < _; rw [new_weight]; omega), hu := (by show c.un + _ + 3 + (V.U - 6) < _; rw [new_units]; omega), P := fun _ => (by passes_own) }
    let σ' : St := ⟨fun y => (binds x).reverse.lookup y, fun _ => none, (dx, dictOf [] 0) :: σ.mt, [(x, instObj C dx)] :: σ.im⟩
    have hS : Sep ((c.hid ++ ce) ++ ([] ++ ((dx, dictOf [] 0) :: σ.mt))) ((x, instObj C dx) :: σ.fl ++ V.nd) := by
      have := i2.S
      rw [List.append_assoc]; exact this
    have I' : InvC c' σ' [] { s with heap := h₁, toks := s.toks + (binds x).length } := by
      refine ⟨F', fun p hp => N' p ?_, (fun _ _ h => nomatch h), hS, i2.O, (fun _ h => nomatch h), I.R⟩
      have hp : p ∈ (c.hid ++ ce) ++ ([] ++ ((dx, dictOf [] 0) :: σ.mt ++ ((x, instObj C dx) :: σ.fl ++ V.nd))) := hp
      simp only [List.mem_cons, List.mem_append, List.cons_append, List.nil_append] at hp ⊢
      rcases hp with (h | h) | h | h | h | h | h <;> simp only [h, true_or, or_true]
    refine wpAny_mono (h x dx L' c' _ ⟨_, I'⟩) (fun fl s' hq => ?_) fun _ _ e => e
    obtain ⟨σ₁, ⟨ce₁, J⟩, hv, hq⟩ := hq
    suffices q : LeaveK c.g V.L σ.m g (InitBack x fun r s' => match r with | .ok (.ret v) => (∃ σ', Inv c σ' s' ∧ Q v σ') | .ok _ => False | .error e => c.E e s') (flowV fl) s' by cases fl <;> exact q
    rw [hv]
    refine leaveK_ J.F J.N fun kF kN => ⟨rfl, ⟨(⟨σ.m, σ.cm, σ₁.mt, σ₁.im⟩ : St), ⟨ce, kF, fun p hp => kN p ?_, I.C, ?_, J.O, I.K, J.R⟩, hq⟩⟩
    · have hp : p ∈ c.hid ++ (ce ++ (σ₁.mt ++ (σ₁.fl ++ V.nd))) := hp
      show p ∈ (c.hid ++ ce) ++ (ce₁ ++ (σ₁.mt ++ (σ₁.fl ++ V.nd)))
      simp only [List.mem_append] at hp ⊢
      rcases hp with h | h | h | h | h <;> simp only [h, true_or, or_true]
    · have hS' : Sep ((c.hid ++ ce) ++ (ce₁ ++ σ₁.mt)) (σ₁.fl ++ V.nd) := J.S
      refine ⟨?_, fun p hp q hq => hS'.2 p ?_ q hq⟩
      · have q := hS'.1
        show ((c.hid ++ (ce ++ σ₁.mt)).map (·.1)).Nodup
        rw [← List.append_assoc]
        rw [List.map_append, List.nodup_append] at q ⊢
        have q2 := q.2.1
        rw [List.map_append, List.nodup_append] at q2
        exact ⟨q.1, q2.2.1, fun a ha b hb => q.2.2 a ha b (by rw [List.map_append]; exact List.mem_append_right _ hb)⟩
      · have hp : p ∈ c.hid ++ (ce ++ σ₁.mt) := hp
        simp only [List.mem_append] at hp ⊢
        rcases hp with h | h | h <;> simp only [h, true_or, or_true]
end
section
variable {V : Vis} {c : Ctx V} {σ : St}
def Weak (c : Ctx V) (σ σ' : St) : Prop := ∀ s, Inv c σ s → Inv c σ' s
theorem Run.post {α : Type} {t : Sem α} {K Q : α → St → Prop} (h : Run c σ t K) (k : ∀ v σ₁, K v σ₁ → ∃ σ₂, Weak c σ₁ σ₂ ∧ Q v σ₂) : Run c σ t Q := fun s I => h.on I fun v σ₁ s₁ I₁ h₁ => let ⟨σ₂, w, q⟩ := k v σ₁ h₁; ⟨σ₂, w s₁ I₁, q⟩
theorem weak_freeze {m cm : Str → Option Value} {D : Addr} {o : Obj} {mt : Led} {im : List Led} : Weak c ⟨m, cm, (D, o) :: mt, im⟩ ⟨m, cm, mt, [(D, o)] :: im⟩ := fun s ⟨ce, I⟩ => by
  have hS : Sep (c.hid ++ (ce ++ ((D, o) :: mt))) (im.flatten ++ V.nd) := I.S
  have hS1 := hS.1
  rw [List.map_append, List.map_append, List.nodup_append] at hS1
  have q := List.nodup_append.mp hS1.2.1
  have q2 : ((D, o) :: mt).map (·.1) = D :: mt.map (·.1) := rfl
  refine ⟨ce, I.F, fun p hp => I.N p ?_, I.C, ⟨?_, fun p hp r hr => ?_⟩, fun p hp => ?_, I.K, I.R⟩
  · have hp : p ∈ c.hid ++ (ce ++ (mt ++ ((D, o) :: im.flatten ++ V.nd))) := hp
    show p ∈ c.hid ++ (ce ++ ((D, o) :: mt ++ (im.flatten ++ V.nd)))
    simp only [List.mem_cons, List.mem_append, List.cons_append] at hp ⊢
    rcases hp with h | h | h | h | h | h <;> simp only [h, true_or, or_true]
  · show ((c.hid ++ (ce ++ mt)).map (·.1)).Nodup
    rw [List.map_append, List.map_append, List.nodup_append]
    refine ⟨hS1.1, List.nodup_append.mpr ⟨q.1, (List.nodup_cons.mp (q2 ▸ q.2.1)).2, fun a ha b hb => q.2.2 a ha b (.tail _ hb)⟩, fun a ha b hb => hS1.2.2 a ha b ?_⟩
    rcases List.mem_append.mp hb with hb | hb
    · exact List.mem_append_left _ hb
    · exact List.mem_append_right _ (.tail _ hb)
  · have hp : p ∈ c.hid ++ (ce ++ mt) := hp
    have hr : r ∈ (D, o) :: (im.flatten ++ V.nd) := hr
    rcases List.mem_cons.mp hr with rfl | hr
    · rcases List.mem_append.mp hp with hp | hp
      · exact hS1.2.2 _ (List.mem_map_of_mem hp) D (List.mem_append_right _ (.head _))
      rcases List.mem_append.mp hp with hp | hp
      · exact q.2.2 _ (List.mem_map_of_mem hp) D (.head _)
      · exact fun e => (List.nodup_cons.mp (q2 ▸ q.2.1)).1 (List.mem_map.mpr ⟨p, hp, e⟩)
    · refine hS.2 p ?_ r hr
      simp only [List.mem_append, List.mem_cons] at hp ⊢
      rcases hp with h | h | h <;> simp only [h, true_or, or_true]
  · have hp : p ∈ (D, o) :: im.flatten := hp
    rcases List.mem_cons.mp hp with rfl | hp
    · exact off1_of fun r hr e => hS.2 (D, o) (List.mem_append_right _ (List.mem_append_right _ (.head _))) r (List.mem_append_right _ hr) e.symm
    · exact I.O p hp
end
end R9
section R10
abbrev fnO (fd : FuncData) : Obj := { cls := .type "function", data := .func fd }
theorem r_iteK {b : Bool} {X Y : Prop} (hb : b = true) (h : X) : if b = true then X else Y := by rw [hb]; exact h
theorem r_iteL {b : Bool} {X Y : Prop} (hb : b = false) (h : Y) : if b = true then X else Y := by rw [hb]; exact h
def strIsB (x : Str) : Value → Bool
  | .str z _ => z == x
  | _ => false
def strsK : List Value → Bool
  | [] => true
  | .str _ _ :: r => strsK r
  | _ :: _ => false
theorem strsK_of {y : Value} : ∀ {vs : List Value}, strsK vs = true → y ∈ vs → ∃ z t, y = .str z t
  | .str z t :: r, h, hy => by
    rcases List.mem_cons.mp hy with rfl | hy
    · exact ⟨z, t, rfl⟩
    · exact strsK_of (vs := r) h hy
section
variable {V : Vis} {c : Ctx V} {σ : St}
theorem r_notinK {T : Addr} {x : Str} {t : Tok} {vs : Array Value} {od : Option Addr} {sl : Array (Option Value)} {n : Nat} {b : Bool} {Q : Value → St → Prop} (ho : (hd.heap_39 V.w.params).lookup T = some ⟨.type "tuple", od, .seq vs n, sl⟩) (hs : strsK vs.toList = true) (hb : (!vs.any (strIsB x)) = b) (h : Q (.bool b) σ) : Run c σ (compareOp .NotIn (.str x t) (.ref T)) Q := fun s I => by
  have X := I.X
  have I0 := I
  obtain ⟨ce, I⟩ := I
  refine PySem.SeqAt.notIn_tupleAt (strIsB x) ⟨_, I.F.keep _ _ (X _ _ ho), rfl, n, rfl⟩ (fun y hy => ?_) (hb ▸ ⟨σ, I0, h⟩)
  obtain ⟨z, u, rfl⟩ := strsK_of hs (Array.mem_toList_iff.mpr hy)
  exact PySem.MeetsSeq.EqGives.at (eqGives_str z x u t) _ _
theorem r_len1 {D : Addr} {vs : List Value} {n k : Nat} {Q : Value → St → Prop} (hm : Has V σ (D, listOf vs.toArray n)) (hz : Nat.ble vs.length 1000 = true) (e : vs.length = k) (h : ∀ t, Q (.int (k : Int) t) σ) : Run c σ (call (.builtin "len") [.ref D]) Q := r_len hm (Nat.lt_of_le_of_lt (Nat.le_of_ble_eq_true hz) (by decide)) (e ▸ h)
end
theorem ln0 {α : Type} : ([] : List α).length = 0 := rfl
theorem ln1 {α : Type} {a : α} : [a].length = 1 := rfl
theorem ln2 {α : Type} {a b : α} : [a, b].length = 2 := rfl
theorem ln3 {α : Type} {a b d : α} : [a, b, d].length = 3 := rfl
theorem tn0 : (((0 : Nat) : Int)).toNat = 0 := rfl
theorem tn1 : (((1 : Nat) : Int)).toNat = 1 := rfl
theorem tn2 : (((2 : Nat) : Int)).toNat = 2 := rfl
theorem tn3 : (((3 : Nat) : Int)).toNat = 3 := rfl
theorem inc0 : (0 : Int) + 1 = 1 := rfl
theorem inc1 : (1 : Int) + 1 = 2 := rfl
theorem inc2 : (2 : Int) + 1 = 3 := rfl
theorem inc3 : (3 : Int) + 1 = 4 := rfl
section
variable {V : Vis} {c : Ctx V} {σ : St} {env : Env} {e1 e2 : PySem.Expr} {pos : Pos} {Q : Value → St → Prop}
abbrev KArgF (c : Ctx V) (q : Addr) (o : Obj) (Q : Value → St → Prop) : Value → St → Prop := fun a σ₁ => Has V σ₁ (q, o) ∧ Run c σ₁ (call (.ref q) [a]) Q
theorem k_argF {q : Addr} {o : Obj} {a : Value} (hm : Has V σ (q, o)) (h : Run c σ (call (.ref q) [a]) Q) : KArgF c q o Q a σ := ⟨hm, h⟩
theorem r_cwG1 {q : Addr} {fd : FuncData} (hm : Has V σ (q, fnO fd)) (he : noStar e1 = true) (h : Run c σ (eval e1 env) (KArgF c q (fnO fd) Q)) : Run c σ (callWith pos (.ref q) [] (backTo pos (starEach [e1] env)) []) Q := r_cwF hm (sp1 he h) (by simp [he])
abbrev KArgF2b (c : Ctx V) (q : Addr) (o : Obj) (a : Value) (Q : Value → St → Prop) : Value → St → Prop := fun b σ₁ => Has V σ₁ (q, o) ∧ Run c σ₁ (call (.ref q) [a, b]) Q
theorem k_argF2 {q : Addr} {o : Obj} {a b : Value} (hm : Has V σ (q, o)) (h : Run c σ (call (.ref q) [a, b]) Q) : KArgF2b c q o a Q b σ := ⟨hm, h⟩
abbrev KArgF2 (c : Ctx V) (env : Env) (q : Addr) (o : Obj) (e2 : PySem.Expr) (Q : Value → St → Prop) : Value → St → Prop := fun a σ => Run c σ (eval e2 env) (KArgF2b c q o a Q)
theorem r_cwG2 {q : Addr} {fd : FuncData} (hm : Has V σ (q, fnO fd)) (he : [e1, e2].all noStar = true) (h : Run c σ (eval e1 env) (KArgF2 c env q (fnO fd) e2 Q)) : Run c σ (callWith pos (.ref q) [] (backTo pos (starEach [e1, e2] env)) []) Q := r_cwF hm (sp2 he h) he
end
theorem r_extend {V : Vis} {c : Ctx V} {σ : St} {D b : Addr} {vs us zs : List Value} {n m : Nat} {mt' : Led} {Q : Value → St → Prop} (hb : Has V σ (b, listOf us.toArray m)) (hv : vs ++ us = zs) (U : Rep D (listOf vs.toArray n) (listOf zs.toArray (n + 1)) σ.mt mt') (hz : Nat.ble (vs.length + us.length) 1000 = true) (hne : us.isEmpty = false) (h : let σ' := σ.chg mt'; Q .none σ') : Run c σ (call (.builtin "list.extend") [.ref D, .ref b]) Q := fun s I => by
  obtain ⟨ce, I⟩ := I
  have hz := Nat.le_of_ble_eq_true hz
  have z0 : us.length ≠ 0 := by
    cases us with
    | nil => cases hne
    | cons => simp
  refine kl_extend (its := vs.toArray) (its2 := us.toArray) I.F I.N (I.news hb) (by simpa using hv) (by simpa using z0) (I.upd U) (extend_door ?_) ?_ ?_ fun h' F' N' => ⟨_, I.chg U F' N', h⟩
  · rw [sizeLine_eq]; simp; omega
  · rw [sizeLine_eq]; simp; omega
  · rw [sizeLine_eq]; simp; omega
theorem tl4 : ((4 : Int)).toNat = 4 := rfl
theorem g20 {a b : Value} : ([a, b] : List Value)[Int.toNat 0]? = some a := rfl
theorem g21 {a b : Value} : ([a, b] : List Value)[Int.toNat 1]? = some b := rfl
theorem r_newL1 {V : Vis} {c : Ctx V} {σ : St} {v : Value} {vs : List Value} {Q : Value → St → Prop} (hz : Nat.ble (v :: vs).length 1000 = true) (h : ∀ D, let σ' := σ.imm D (listOf (v :: vs).toArray 0); Q (.ref D) σ') : Run c σ (newList (v :: vs)) Q := r_newL hz h
end R10
section N1
theorem words_all : rprog = rprog ∧ ∀ w : World, hd.heap_39 w.params = hd.heap_39 w.params := by
  have : PySem.Challenge.rw_on0243_01.row.prog = PySem.Challenge.rw_on0243_01.row.prog ∧ ∀ w : World, hd.heap_39 w.params = hd.heap_39 w.params := by
    k_fill
    exact ⟨rfl, fun _ => rfl⟩
  k_with_none
  k_with "r mem" => first
    | (refine' hasNd ?yaa; (case yaa => with_reducible assumption))
    | (refine' hasMt ?yaa; (case yaa => k_extra "r mt"))
    | (refine' hasIm ?yaa; (case yaa => k_extra "r in"))
  k_with "r mt" => first | exact mt_at 0 rfl | exact mt_at 1 rfl | exact mt_at 2 rfl | exact mt_at 3 rfl | exact mt_at 4 rfl | exact mt_at 5 rfl
  k_with "r ix" => first | exact ix 0 rfl | exact ix 1 rfl | exact ix 2 rfl | exact ix 3 rfl | exact ix 4 rfl | exact ix 5 rfl | exact ix 6 rfl | exact ix 7 rfl | exact ix 8 rfl | exact ix 9 rfl | exact ix 10 rfl | exact ix 11 rfl | exact ix 12 rfl | exact ix 13 rfl | exact ix 14 rfl | exact ix 15 rfl | exact ix 16 rfl | exact ix 17 rfl | exact ix 18 rfl | exact ix 19 rfl | exact ix 20 rfl | exact ix 21 rfl | exact ix 22 rfl | exact ix 23 rfl | exact ix 24 rfl | exact ix 25 rfl | exact ix 26 rfl | exact ix 27 rfl | exact ix 28 rfl | exact ix 29 rfl | exact ix 30 rfl | exact ix 31 rfl | exact ix 32 rfl | exact ix 33 rfl | exact ix 34 rfl | exact ix 35 rfl | exact ix 36 rfl | exact ix 37 rfl | exact ix 38 rfl | exact ix 39 rfl | exact ix 40 rfl | exact ix 41 rfl | exact ix 42 rfl | exact ix 43 rfl | exact ix 44 rfl | exact ix 45 rfl | exact ix 46 rfl | exact ix 47 rfl | exact ix 48 rfl | exact ix 49 rfl | exact ix 50 rfl | exact ix 51 rfl | exact ix 52 rfl | exact ix 53 rfl | exact ix 54 rfl | exact ix 55 rfl | exact ix 56 rfl | exact ix 57 rfl | exact ix 58 rfl | exact ix 59 rfl | exact ix 60 rfl | exact ix 61 rfl | exact ix 62 rfl | exact ix 63 rfl | exact ix 64 rfl | exact ix 65 rfl | exact ix 66 rfl | exact ix 67 rfl | exact ix 68 rfl | exact ix 69 rfl | exact ix 70 rfl | exact ix 71 rfl | exact ix 72 rfl | exact ix 73 rfl | exact ix 74 rfl | exact ix 75 rfl | exact ix 76 rfl | exact ix 77 rfl | exact ix 78 rfl | exact ix 79 rfl
  k_with "r in" => first
    | k_extra "r seg"
    | (refine' mem_ix ?ybi; (case ybi => k_extra "r ix"))
  k_with "r seg" => (refine' seg_ix ?ybm ?ybe; (case ybm => with_reducible assumption); (case ybe => k_extra "r ix"))
  k_with "r out" => first
    | (refine' out_mt ?yca; (case yca => k_extra "r mt"))
    | (refine' out_im ?yca; (case yca => k_extra "r in"))
  k_with "r sub" => (refine' sub_ix ?ybs; (case ybs => k_extra "r ix"))
  k_with "r segN" => (refine' segN ?ybs; (case ybs => k_extra "r ix"))
  k_with "r segH" => (refine' segH ?ybs; (case ybs => k_extra "r ix"))
  k_with "r memI" => first
    | (refine' mem_app ?yda; (case yda => with_reducible assumption))
    | (refine' List.mem_append_left _ ?yda; (case yda => k_extra "r in"))
  k_with "r name" => first
    | ((with_reducible refine' r_loc ?za ?zb ?_); (case za => exact rfl); (case zb => exact rfl))
    | ((with_reducible refine' r_glob ?za ?zb ?_); (case za => exact rfl); (case zb => k_is))
    | ((with_reducible refine' r_blt ?za ?zb ?ze ?zf ?_); (case za => exact rfl); (case zb => k_is); (case ze => k_extra "r blt"); (case zf => exact rfl))
    | ((with_reducible refine' r_own ?za ?_); (case za => exact ⟨_, _, rfl, rfl, rfl, rfl, rfl⟩))
    | ((with_reducible refine' r_ccel ?za ?zb ?_); (case za => exact ⟨rfl, _, _, rfl, rfl, rfl, rfl, rfl⟩); (case zb => exact rfl))
    | ((with_reducible refine' r_cglob ?za ?zb ?_); (case za => exact ⟨_, _, rfl, rfl, rfl, rfl, rfl, rfl⟩); (case zb => k_is))
    | ((with_reducible refine' r_cblt ?za ?zb ?ze ?zf ?_); (case za => exact ⟨_, _, rfl, rfl, rfl, rfl, rfl, rfl⟩); (case zb => k_is); (case ze => k_extra "r blt"); (case zf => exact rfl))
    | ((with_reducible refine' r_cel ?za ?zb ?_); (case za => exact rfl); (case zb => exact rfl))
    | ((with_reducible refine' r_fre ?za ?zb ?_); (case za => exact rfl); (case zb => exact rfl))
  k_with "r app" => with_reducible first | exact app0 | exact app1 | exact app2 | exact app3 | exact app4 | exact app5 | exact rfl
  k_with "r ln" => first | exact ln0 | exact ln1 | exact ln2 | exact ln3 | exact ln4 | exact ln5
  k_with "r bool" => (show BEq.beq (Str.ofString _) (Str.ofString _) = _; decide +kernel)
  k_with "r tn" => first | exact tn0 | exact tn1 | exact tn2 | exact tn3 | exact tm0 | exact tm1 | exact tm2 | exact tm3 | exact tl3 | exact tl4
  k_with "r incN" => first | exact incN0 | exact incN1 | exact incN2
  k_with "r inc" => first | exact inc0 | exact inc1 | exact inc2 | exact inc3 | exact rfl
  k_with "r blt" => first | exact blt_len | exact blt_range | exact blt_int | exact blt_abs | exact blt_ord | exact blt_sum | exact blt_max | exact blt_list | exact blt_tuple | exact blt_enumerate
  k_with "r def" => exact ⟨by k_is, by k_is⟩
  k_with "r rep" => first | exact Rep.head | (refine' Rep.tail ?yfa; (case yfa => k_extra "r rep"))
  k_with "r exec" => first
    | with_reducible refine r_last ?_
    | ((with_reducible refine r_cons ?_); intro Q9 k9)
    | with_reducible refine r_ret ?_
    | with_reducible refine r_brk ?_
    | ((with_reducible refine' r_set ?_ ?ze); (case ze => exact rfl))
    | ((with_reducible refine' r_setComp ?zy ?zs ?za ?zb ?zf ?_); (case zy => exact rfl); (case zs => exact rfl); (case za => exact rfl); (case zb => exact rfl); (case zf => exact fun _ => rfl))
    | with_reducible refine r_if ?_
    | ((with_reducible refine' r_expr ?_ ?ze ?zf); (case ze => exact rfl); (case zf => exact rfl))
    | ((with_reducible refine' r_setT ?_ ?ze ?zf); (case ze => exact rfl); (case zf => exact rfl))
    | ((with_reducible refine' r_setW2 ?zf ?_ ?ze); (case zf => exact rfl); (case ze => exact rfl))
    | ((with_reducible refine' r_setA ?_ ?ze); (case ze => exact rfl))
    | ((with_reducible refine' r_forR ?ze ?zf ?zg ?zh ?_); (case ze => exact rfl); (case zf => k_is); (case zg => exact blt_range); (case zh => exact rfl))
    | ((with_reducible refine' r_forE ?ze ?zf ?zg ?zh ?_); (case ze => exact rfl); (case zf => k_is); (case zg => exact blt_enumerate); (case zh => exact rfl))
    | ((with_reducible refine' r_for ?ze ?zf ?_); (case ze => exact rfl); (case zf => exact fun _ => rfl))
    | ((with_reducible refine' r_setS ?_ ?ze); (case ze => exact rfl))
    | with_reducible refine r_nil ?_
  k_with "r eval" => first
    | k_extra "r name"
    | ((with_reducible refine r_cint ?_); intro t9)
    | ((with_reducible refine r_cstr ?_); intro t9)
    | ((with_reducible refine' r_g1 ?zd ?za ?_); (case zd => k_extra "r def"); (case za => exact rfl))
    | ((with_reducible refine' r_g2 ?zd ?za ?_); (case zd => k_extra "r def"); (case za => exact rfl))
    | ((with_reducible refine' r_gN ?zd ?za ?_); (case zd => k_extra "r def"); (case za => exact rfl))
    | ((with_reducible refine' r_mcall ?_ ?ze); (case ze => exact rfl))
    | with_reducible refine r_call ?_
    | k_extra "r sl1"
    | with_reducible refine r_sl2 ?_
    | with_reducible refine r_sub ?_
    | with_reducible refine r_bin ?_
    | ((with_reducible refine' r_comp ?za ?zb ?zf ?_); (case za => exact rfl); (case zb => exact rfl); (case zf => exact fun _ => rfl))
    | with_reducible refine r_tup ?_
    | with_reducible refine r_lst ?_
    | ((with_reducible refine r_dict0 ?_); intro D9 o9 lo9 hD9 hI9 σ9)
    | ((with_reducible refine' r_dictS ?za ?_); (case za => exact rfl); intro D9 o9 lo9 hD9 σ9)
    | ((with_reducible refine' r_dictT ?za ?zu ?_); (case za => exact rfl); (case zu => exact rfl); intro D9 o9 lo9 hD9 σ9)
    | ((with_reducible refine' r_compP ?za ?zb ?zf ?_); (case za => exact rfl); (case zb => exact rfl); (case zf => exact fun _ => rfl))
    | ((with_reducible refine' r_dictI ?za ?_); (case za => exact rfl); intro D9 o9 lo9 hD9 σ9)
    | k_extra "r lam"
    | ((with_reducible refine' r_attr ?_ ?ze); (case ze => exact rfl))
    | with_reducible refine r_ifx ?_
    | with_reducible refine r_una ?_
    | with_reducible refine r_cnone ?_
    | with_reducible refine r_cbool ?_
    | ((with_reducible refine' r_compare ?_ ?ze); (case ze => exact rfl))
  k_with "r lam" => fail
  k_with "r sl1" => with_reducible refine r_sl1 ?_
  k_with "r test" => first
    | ((with_reducible refine' r_cmp ?_ ?ze); (case ze => exact rfl))
    | with_reducible refine r_not ?_
    | with_reducible refine r_or ?_
    | with_reducible refine r_orN ?_
    | ((with_reducible refine' r_isTrue ?_ ?ze); (case ze => exact rfl))
  k_with "r ite" => first
    | ((with_reducible refine' r_iteK ?za ?_); (case za => first | with_reducible assumption | (with_reducible rfl) | k_extra "r bool" | decide))
    | ((with_reducible refine' r_iteL ?za ?_); (case za => first | with_reducible assumption | (with_reducible rfl) | k_extra "r bool" | decide))
    | with_reducible refine r_iteT ?_
    | with_reducible refine r_iteF ?_
    | ((with_reducible refine' r_iteY ?za ?_); (case za => omega))
    | ((with_reducible refine' r_iteZ ?za ?_); (case za => omega))
    | (with_reducible refine r_iteD ?_ ?_ <;> intro h9)
    | (with_reducible refine r_iteE ?_ ?_ <;> intro h9)
    | (with_reducible refine r_iteN ?_ ?_ <;> intro h9)
  k_with "r leaf" => first
    | with_reducible refine r_argN ?_
    | ((with_reducible refine' r_argC ?_ ?ze); (case ze => exact rfl))
    | ((with_reducible refine' r_store ?za ?_); (case za => exact rfl); intro σ9)
    | ((with_reducible refine' r_storeC ?za ?zb ?_); (case za => exact rfl); (case zb => exact cells_nodup); intro σ9)
    | ((with_reducible refine' r_itemT ?za ?zb ?_ ?ze); (case za => k_extra "r mem"); (case zb => exact rfl); (case ze => exact rfl))
    | ((with_reducible refine' r_itemL ?za ?zf ?zg ?zb ?_ ?ze); (case za => k_extra "r mem"); (case zf => decide); (case zg => decide); (case zb => exact rfl); (case ze => exact rfl))
    | ((with_reducible refine' r_newT ?za ?_); (case za => exact rfl); intro D9 σ9)
    | k_extra "r list"
    | with_reducible refine r_truthB ?_
    | ((with_reducible refine' r_cwM1 ?ze ?_); (case ze => exact rfl))
    | ((with_reducible refine' r_cwB1 ?ze ?_); (case ze => exact rfl))
    | ((with_reducible refine' r_cwT1 ?ze ?_); (case ze => exact rfl))
    | ((with_reducible refine' r_cwI1 ?za ?ze ?_); (case za => k_is); (case ze => exact rfl))
    | with_reducible refine r_cwB0 ?_
    | ((with_reducible refine' r_cwM2 ?ze ?_); (case ze => exact rfl))
    | ((with_reducible refine' r_cwB2 ?ze ?_); (case ze => exact rfl))
    | ((with_reducible refine' r_cwK1 ?za ?ze ?_); (case za => k_is); (case ze => exact rfl))
    | ((with_reducible refine' r_cwK2 ?za ?ze ?_); (case za => k_is); (case ze => exact rfl))
    | ((with_reducible refine' r_cwKV ?za ?ze ?_); (case za => k_is); (case ze => exact rfl))
    | ((with_reducible refine' r_getMI ?za ?zb ?zf ?zg ?zh ?zk ?_); (case za => k_extra "r mem"); (case zb => k_extra "r mem"); (case zf => k_is); (case zg => k_is); (case zh => k_is); (case zk => exact rfl))
    | ((with_reducible refine' r_getMA ?za ?zb ?zf ?zg ?_); (case za => k_extra "r mem"); (case zb => k_extra "r mem"); (case zf => k_is); (case zg => k_is))
    | ((with_reducible refine' r_tupleOf ?za ?zb ?_); (case za => k_extra "r mem"); (case zb => exact rfl); intro D9 σ9)
    | ((with_reducible refine' r_listOf ?za ?zb ?_); (case za => k_extra "r mem"); (case zb => exact rfl); intro D9 k9 σ9)
    | ((with_reducible refine' r_addT ?za ?zb ?ze ?zf ?_); (case za => k_extra "r mem"); (case zb => k_extra "r mem"); (case ze => exact rfl); (case zf => exact rfl); intro D9 σ9)
    | ((with_reducible refine' r_addT0 ?za ?zb ?zf ?_); (case za => k_extra "r mem"); (case zb => k_extra "r mem"); (case zf => exact rfl))
    | ((with_reducible refine' r_cwT ?_ ?ze); (case ze => exact rfl))
    | ((with_reducible refine' r_putA ?za ?zq ?zb ?zf ?ze ?zu ?zz ?_); (case za => k_extra "r mem"); (case zq => k_extra "r mem"); (case zb => exact ⟨by k_is, by k_is, by k_is, by k_is⟩); (case zf => exact rfl); (case ze => (intro t8; k_put)); (case zu => (intro t8; k_extra "r rep")); (case zz => exact fun _ => rfl); intro t9 σ9)
    | with_reducible refine r_isNN ?_
    | with_reducible refine r_isnotNN ?_
    | ((with_reducible refine r_add ?_); intro t9)
    | ((with_reducible refine r_subI ?_); intro t9)
    | ((with_reducible refine' r_mul ?zm ?_); (case zm => first | assumption | mul_fits); intro t9)
    | ((with_reducible refine r_neg ?_); intro t9)
    | with_reducible refine r_lt ?_
    | with_reducible refine r_gt ?_
    | with_reducible refine r_ge ?_
    | with_reducible refine r_eqI ?_
    | with_reducible refine r_neI ?_
    | with_reducible refine r_eqS ?_
    | ((with_reducible refine' r_append ?za ?zb ?zz ?_); (case zb => k_extra "r rep"); (case za => k_extra "r app"); (case zz => exact rfl); intro σ9)
    | ((with_reducible refine' r_getML ?za ?zb ?zf ?_); (case za => k_extra "r mem"); (case zb => exact PySem.F.slot_list_append); (case zf => exact PySem.F.type_list_append))
    | ((with_reducible refine' r_getA ?za ?zb ?zf ?zg ?zh ?_); (case za => k_extra "r mem"); (case zb => k_extra "r mem"); (case zf => k_extra "r attrOK"); (case zg => k_get); (case zh => exact rfl))
    | ((with_reducible refine' r_getML ?za ?zb ?zf ?_); (case za => k_extra "r mem"); (case zb => exact PySem.F.slot_list_extend); (case zf => exact PySem.F.type_list_extend))
    | ((with_reducible refine' r_extend ?za ?zb ?ze ?zf ?zg ?_); (case za => k_extra "r mem"); (case ze => k_extra "r rep"); (case zb => exact rfl); (case zf => exact rfl); (case zg => exact rfl); intro σ9)
    | ((with_reducible refine' r_setI ?za ?zb ?ze ?zf ?_); (case za => decide); (case zb => decide); (case zf => k_extra "r rep"); (case ze => exact rfl); intro σ9)
    | ((with_reducible refine' r_aTup2 ?za ?_); (case za => k_extra "r mem"))
    | ((with_reducible refine' r_unp ?za ?zb ?_); (case za => k_extra "r mem"); (case zb => exact rfl))
    | with_reducible refine r_swap2 ?_
    | ((with_reducible refine r_abs ?_); intro t9)
    | with_reducible refine r_intI ?_
    | ((with_reducible refine' r_mod ?za ?_); (case za => first | assumption | decide | omega); intro t9)
    | ((with_reducible refine' r_fdiv ?za ?zb ?_); (case za => first | assumption | decide | omega); (case zb => first | apply_assumption | rfl); intro t9)
    | with_reducible refine r_aName ?_
    | ((with_reducible refine' r_aTup4 ?za ?_); (case za => k_extra "r mem"))
    | ((with_reducible refine' k_sl ?za ?ze ?zf ?_); (case za => k_extra "r mem"); (case ze => exact rfl); (case zf => exact rfl); intro D9 σ9)
    | ((with_reducible refine' k_slT ?za ?ze ?_); (case za => k_extra "r mem"); (case ze => exact rfl); intro D9 σ9)
    | ((with_reducible refine' r_addL ?za ?zb ?ze ?zf ?_); (case za => k_extra "r mem"); (case zb => k_extra "r mem"); (case ze => exact rfl); (case zf => exact rfl); intro D9 σ9)
    | ((with_reducible refine' k_for ?za ?_); (case za => k_extra "r memI"))
    | ((with_reducible refine' r_len1 ?za ?zb ?ze ?_); (case za => k_extra "r mem"); (case zb => exact rfl); (case ze => k_extra "r ln"); intro t9)
    | ((with_reducible refine' r_ord ?_); intro t9)
    | with_reducible refine r_pairC ?_
    | with_reducible refine r_pairN ?_
    | with_reducible refine r_inS ?_
    | with_reducible refine r_mSplit ?_
    | with_reducible refine r_mStrip ?_
    | with_reducible refine r_mJoin ?_
    | ((with_reducible refine' r_cwG1 ?za ?zb ?_); (case za => k_extra "r mem"); (case zb => exact rfl))
    | ((with_reducible refine' r_cwG2 ?za ?zb ?_); (case za => k_extra "r mem"); (case zb => exact rfl))
    | ((with_reducible refine' r_range ?_); intro D9 t7 t8 t9 σ9)
    | ((with_reducible refine' r_notinK ?za ?zb ?ze ?_); (case za => k_is); (case zb => exact rfl); (case ze => with_reducible assumption))
  k_with "r slT" => with_reducible refine r_slT ?_
  k_with "r list" => first
    | ((with_reducible refine' r_newM ?za ?_); (case za => exact rfl); intro D9 σ9)
  k_with "r attrOK" => exact ⟨by k_is, by k_is, _, by k_is, by k_is⟩
  k_with "r end" => first
    | ((with_reducible refine' r_cut ?zk ?_); (case zk => with_reducible assumption))
    | ((with_reducible refine' r_cutR ?zk ?_); (case zk => with_reducible assumption))
    | ((with_reducible refine' r_cutB ?zk ?_); (case zk => with_reducible assumption))
  k_with "r nodup" => (refine of_decide_eq_true ?yn; (case yn => rfl))
  k_with "r prs" => first | exact prs1 | exact prs2 | exact prs3 | exact irs3
  k_with "r turn" => first
    | ((with_reducible refine k_cmpPC ?_); intro C9 c9)
    | with_reducible refine k_cmpPN ?_
    | ((with_reducible refine' k_eltP ?za ?ze ?_); (case za => exact rfl); (case ze => k_extra "r app"))
    | ((with_reducible refine' k_compP3 ?za ?zb ?ze ?zf ?zg ?_); (case za => with_reducible assumption); (case zb => with_reducible assumption); (case ze => with_reducible assumption); (case zf => with_reducible assumption); (case zg => exact rfl))
    | ((with_reducible refine' k_dictT ?ze ?za ?zb ?zf ?_); (case ze => exact rfl); (case za => k_extra "r memI"); (case zb => k_extra "r memI"); (case zf => k_extra "r memI"); intro o8 hK9 σ9)
    | ((with_reducible show KMadeM _ _ _); intro D9 σ9)
    | ((with_reducible refine' k_dictK ?za ?zb ?ze ?zf ?_); (case zb => k_extra "r prs"); (case za => exact rfl); (case ze => k_extra "r nodup"); (case zf => exact rfl); intro o8 hK9 σ9)
    | ((with_reducible refine' k_argF ?za ?_); (case za => k_extra "r mem"))
    | ((with_reducible refine' k_argF2 ?za ?_); (case za => k_extra "r mem"))
    | ((with_reducible refine' k_cmpR ?za ?_); (case za => k_extra "r inc"); intro t9 C9 c9)
    | with_reducible refine k_cmpRN ?_
    | ((with_reducible refine' k_compR ?za ?zb ?zf ?ze ?_); (case za => k_extra "r memI"); (case zb => omega); (case zf => k_extra "r tn"); (case ze => exact rfl))
    | ((with_reducible refine k_cmpV ?_); intro C9 c9)
    | ((with_reducible refine k_cmpT ?_); intro t9 C9 c9)
    | with_reducible refine k_cmpN ?_
    | with_reducible refine k_cmpM ?_
    | ((with_reducible refine' k_elt1 ?za ?zb ?ze ?_); (case za => exact rfl); (case zb => k_extra "r memI"); (case ze => k_extra "r app"))
    | ((with_reducible refine' k_elt0 ?za ?ze ?_); (case za => exact rfl); (case ze => k_extra "r app"))
    | ((with_reducible refine' k_compL ?za ?zb ?zf ?_); (case za => k_extra "r memI"); (case zb => exact rfl); (case zf => exact rfl))
    | ((with_reducible refine' k_compT ?za ?zb ?zf ?_); (case za => k_extra "r memI"); (case zb => exact rfl); (case zf => exact rfl))
    | ((with_reducible refine' k_compS ?zb ?zf ?_); (case zb => exact rfl); (case zf => exact rfl))
    | ((with_reducible show KMade _ _ _); intro D9 σ9)
    | ((with_reducible show KMadeS _ _ _ _); intro D9 σ9)
    | ((with_reducible refine k_forC ?_); intro c9)
    | with_reducible refine k_forN ?_
    | ((with_reducible refine' k_enu ?za ?_); (case za => k_extra "r memI"))
    | with_reducible refine k_forEN ?_
    | ((with_reducible refine' k_forEC ?za ?_); (case za => k_extra "r incN"); intro c9 t9 σ9)
    | ((with_reducible refine' k_rng ?za ?zb ?_); (case za => omega); (case zb => k_extra "r tn"))
    | with_reducible refine k_forR0 ?_
    | ((with_reducible refine' k_forRC ?za ?_); (case za => k_extra "r inc"); intro c9 t9 σ9)
    | with_reducible refine k_turnRN ?_
    | ((with_reducible refine' k_turn ?za ?_); (case za => k_extra "r memI"))
    | with_reducible refine k_turnR ?_
  k_with "r" => first
    | ((with_reducible show Run _ _ (eval _ _) _); k_extra "r eval")
    | ((with_reducible show Run _ _ (exec _ _) _); k_extra "r exec")
    | ((with_reducible show Run _ _ (execs _ _) _); k_extra "r exec")
    | ((with_reducible show Run _ _ (PySem.isTrue _ _ _) _); k_extra "r test")
    | ((with_reducible show Run _ _ (call _ _ _) _); first | k_extra "r call" | k_extra "r leaf")
    | ((with_reducible show Run _ _ _ _); k_extra "r leaf")
    | k_extra "r ite"
    | k_extra "r end"
    | k_extra "r turn"
    | k_extra "r leaf"
  k_with "r go" => repeat' (k_extra "r")
  k_with "r enter" => ((refine' gs_of_run ?ho ?hcd ?hb ?hc ?_); (case ho => k_is); (case hcd => k_is); (case hb => (intro s9 X9; first | exact BindsTo.of_eq rfl | exact binds_K X9 rfl (by k_is) rfl rfl rfl)); (case hc => exact rfl); intro L9 V9 c9 σ9)
  k_with "r q" => first
    | ((with_reducible refine' r_plus ?za ?zb ?ze ?zf ?zd ?zu ?_); (case za => k_extra "r mem"); (case zb => k_extra "r mem"); (case ze => with_reducible assumption); (case zf => with_reducible assumption); (case zd => exact rfl); (case zu => exact rfl); intro A9 t8 t9 k9 σ9)
    | ((with_reducible refine' r_times ?za ?zb ?zg ?zh ?ze ?zf ?zd ?zu ?_); (case za => k_extra "r mem"); (case zb => k_extra "r mem"); (case zg => with_reducible assumption); (case zh => with_reducible assumption); (case ze => with_reducible assumption); (case zf => with_reducible assumption); (case zd => exact rfl); (case zu => exact rfl); intro A9 t8 t9 k9 σ9)
    | ((with_reducible refine' r_divided ?za ?zb ?zg ?zh ?ze ?zf ?zd ?zu ?_); (case za => k_extra "r mem"); (case zb => k_extra "r mem"); (case zg => with_reducible assumption); (case zh => with_reducible assumption); (case ze => with_reducible assumption); (case zf => with_reducible assumption); (case zd => exact rfl); (case zu => exact rfl); intro A9 t8 t9 k9 σ9)
    | ((with_reducible refine' r_negated ?za ?zd ?zu ?_); (case za => k_extra "r mem"); (case zd => exact rfl); (case zu => exact rfl); intro A9 t8 t9 k9 σ9)
    | ((with_reducible refine' r_frac2 ?za ?zb ?zd ?zu ?_); (case za => with_reducible assumption); (case zb => with_reducible assumption); (case zd => exact rfl); (case zu => exact rfl); intro A9 t8 t9 k9 σ9)
    | ((with_reducible refine' r_frac1 ?zd ?zu ?_); (case zd => exact rfl); (case zu => exact rfl); intro A9 t8 t9 k9 σ9)
  exact this

theorem cdiv_g (w : World) {need : Led} {x y : Int} {t1 t2 : Tok} (hy : 0 < y) : GS w 72 1 8 [.int x t1, .int y t2] need (fun r _ => ∃ t, r = .int (Int.gcd x y) t) := by
  k_with "r call" => ((fail_if_success (k_extra "off N1")); (fail))
  k_extra "r enter"
  k_extra "r go"
  refine' r_while (fun n σ' => ∃ im m0 a b t u, σ' = ((⟨m0, fun _ => none, [], im⟩ : St).put (Str.ofString "second") (.int b u)).put (Str.ofString "first") (.int a t) ∧ 0 ≤ a ∧ 0 ≤ b ∧ Int.gcd a b = Int.gcd x y ∧ n = b.toNat) ?hv ?h0 ?_
  case hv => exact rfl
  case h0 => (obtain ⟨q1, q2, q3⟩ := cd_start (x := x) hy; exact ⟨_, _, _, _, _, _, rfl, q1, q2, q3, rfl⟩)
  rintro n σ8 ⟨im8, m8, a, b, t, u, rfl, h1, h2, h3, h4⟩
  k_extra "r go"
  · obtain ⟨q1, q2, q3⟩ := cd_turn h3 h9
    exact ⟨rfl, _, h4 ▸ cd_less h9, _, _, _, _, _, _, rfl, q1, q2, q3, rfl⟩
  · exact ⟨_, congrArg (Value.int · _) (cd_end h3 h1 h2 h9)⟩
theorem ratIn0 {l : Led} {A : Addr} {x y : Int} {t1 t2 : Tok} {k : Nat} {q : Rat} (m : (A, tup [.int x t1, .int y t2] k) ∈ l) (e1 : x = q.num) (e2 : y = q.den) : RatIn l (.ref A) q := ⟨A, t1, t2, k, rfl, e1 ▸ e2 ▸ m⟩
theorem frac_g (w : World) {need : Led} {x y : Int} {t1 t2 : Tok} (hy : 0 < y) (hY : y < 2 ^ 128) : GS w 80 2 16 [.int x t1, .int y t2] need (fun r tl => RatIn tl r (Rat.divInt x y)) := by
  k_with "r call" => ((fail_if_success (k_extra "off N1")); (((with_reducible refine' r_gs (cdiv_g _ ?zm) (fun _ h => hasNd h) ?zd ?zu ?_); (case zm => with_reducible assumption); (case zd => exact rfl); (case zu => exact rfl); intro r9 tl9 P9 σ9; obtain ⟨t9, e9⟩ := P9; subst e9)))
  have hg := frac_gcd_pos (t := x) hy
  have hp := noPy (t := x) hy hY
  have hg0 : ((Int.gcd x y : Nat) : Int) ≠ 0 := by omega
  k_extra "r enter"
  k_extra "r go"
  · exfalso; omega
  · exact ratIn0 (by k_extra "r out") (frac_num hy) (frac_den hy)
theorem frac1_g (w : World) {need : Led} {x : Int} {t1 : Tok} : GS w 80 2 16 [.int x t1] need (fun r tl => RatIn tl r (x : Rat)) := by
  k_with "r call" => ((fail_if_success (k_extra "off N1")); (((with_reducible refine' r_gs (cdiv_g _ ?zm) (fun _ h => hasNd h) ?zd ?zu ?_); (case zm => decide); (case zd => exact rfl); (case zu => exact rfl); intro r9 tl9 P9 σ9; obtain ⟨t9, e9⟩ := P9; subst e9)))
  have hy : (0 : Int) < 1 := by decide
  have hg := frac_gcd_pos (t := x) hy
  have hp := noPy (t := x) hy (by decide)
  have hg0 : ((Int.gcd x 1 : Nat) : Int) ≠ 0 := by omega
  k_extra "r enter"
  k_extra "r go"
  all_goals (try (exfalso; omega))
  exact ratIn0 (by k_extra "r out") (by simp) (by simp)
theorem off_N1 : True := by
  k_with "off N1" => skip
  exact trivial
end N1
section N2
section
variable {V : Vis} {c : Ctx V} {σ : St} {Q : Value → St → Prop} {A B : Addr} {p q : Rat} {a1 a2 b1 b2 : Tok} {j k : Nat}
theorem hasR (h : Has V σ (A, tup [.int p.num a1, .int p.den a2] j)) : RatIn (σ.mt ++ (σ.fl ++ V.nd)) (.ref A) p := ⟨A, a1, a2, j, rfl, h⟩
end
theorem plus_g (w : World) {need : Led} {u v : Value} {p q : Rat} (hu : RatIn need u p) (hv : RatIn need v q) (bp : (p.den : Int) < 2 ^ 62) (bq : (q.den : Int) < 2 ^ 62) : GS w 87 3 24 [u, v] need (fun r tl => RatIn tl r (p + q)) := by
  k_with "r call" => ((fail_if_success (k_extra "off N2")); (((with_reducible refine' r_gsR (frac_g _ ?za ?zb) (fun _ h => hasNd h) ?zd ?zu ?_); (case za => with_reducible assumption); (case zb => with_reducible assumption); (case zd => exact rfl); (case zu => exact rfl); intro A9 t8 t9 k9 σ9)))
  obtain ⟨a, ta1, ta2, ka, rfl, ha⟩ := hu
  obtain ⟨b, tb1, tb2, kb, rfl, hb⟩ := hv
  have p1 := den_pos p
  have p2 := den_pos q
  have m1 : IntMulOk p.num (q.den : Int) := mulOk_right (by omega) (by omega)
  have m2 : IntMulOk q.num (p.den : Int) := mulOk_right (by omega) (by omega)
  have m3 : IntMulOk (p.den : Int) (q.den : Int) := mulOk_right (by omega) (by omega)
  have d1 : 0 < (p.den : Int) * (q.den : Int) := Int.mul_pos p1 p2
  have d2 : (p.den : Int) * (q.den : Int) < 2 ^ 128 := mul_lt_128 p1 p2 bp bq
  k_extra "r enter"
  k_extra "r go"
  exact ratIn0 (by k_extra "r out") (by rw [add_frac]) (by rw [add_frac])
theorem times_g (w : World) {need : Led} {u v : Value} {p q : Rat} (hu : RatIn need u p) (hv : RatIn need v q) (np : -(2 ^ 62) < p.num) (np' : p.num < 2 ^ 62) (bp : (p.den : Int) < 2 ^ 62) (bq : (q.den : Int) < 2 ^ 62) : GS w 94 3 24 [u, v] need (fun r tl => RatIn tl r (p * q)) := by
  obtain ⟨a, ta1, ta2, ka, rfl, ha⟩ := hu
  obtain ⟨b, tb1, tb2, kb, rfl, hb⟩ := hv
  have p1 := den_pos p
  have p2 := den_pos q
  have m1 : IntMulOk p.num q.num := mulOk_left (by omega) (by omega)
  have m3 : IntMulOk (p.den : Int) (q.den : Int) := mulOk_right (by omega) (by omega)
  have d1 : 0 < (p.den : Int) * (q.den : Int) := Int.mul_pos p1 p2
  have d2 : (p.den : Int) * (q.den : Int) < 2 ^ 128 := mul_lt_128 p1 p2 bp bq
  k_extra "r enter"
  k_extra "r go"
  exact ratIn0 (by k_extra "r out") (by rw [mul_frac]) (by rw [mul_frac])
theorem divided_g (w : World) {need : Led} {u v : Value} {p q : Rat} (hu : RatIn need u p) (hv : RatIn need v q) (nq : 0 < q.num) (nq' : q.num < 2 ^ 62) (bp : (p.den : Int) < 2 ^ 62) (bq : (q.den : Int) < 2 ^ 62) : GS w 101 3 24 [u, v] need (fun r tl => RatIn tl r (p / q)) := by
  obtain ⟨a, ta1, ta2, ka, rfl, ha⟩ := hu
  obtain ⟨b, tb1, tb2, kb, rfl, hb⟩ := hv
  have p1 := den_pos p
  have p2 := den_pos q
  have m1 : IntMulOk p.num (q.den : Int) := mulOk_right (by omega) (by omega)
  have m3 : IntMulOk (p.den : Int) q.num := mulOk_right (by omega) (by omega)
  have d1 : 0 < (p.den : Int) * q.num := Int.mul_pos p1 nq
  have d2 : (p.den : Int) * q.num < 2 ^ 128 := mul_lt_128 p1 nq bp nq'
  k_extra "r enter"
  k_extra "r go"
  all_goals (try (exfalso; omega))
  exact ratIn0 (by k_extra "r out") (by rw [div_frac]) (by rw [div_frac])
theorem negated_g (w : World) {need : Led} {u : Value} {p : Rat} (hu : RatIn need u p) : GS w 108 1 8 [u] need (fun r tl => RatIn tl r (-p)) := by
  obtain ⟨a, ta1, ta2, ka, rfl, ha⟩ := hu
  k_extra "r enter"
  k_extra "r go"
  exact ratIn0 (by k_extra "r out") (by rw [Rat.neg_num]) (by rw [Rat.neg_den])
theorem off_N2 : True := by
  k_with "off N2" => skip
  exact trivial
end N2
section N3
section
variable {V : Vis} {c : Ctx V} {σ : St} {Q : Value → St → Prop} {A B : Addr} {p q : Rat} {a1 a2 b1 b2 : Tok} {j k : Nat}
theorem r_plus (h1 : Has V σ (A, tup [.int p.num a1, .int p.den a2] j)) (h2 : Has V σ (B, tup [.int q.num b1, .int q.den b2] k)) (bp : (p.den : Int) < 2 ^ 62) (bq : (q.den : Int) < 2 ^ 62) (hd : Nat.ble 3 V.D = true) (hu : Nat.ble 24 V.U = true)
    (h : ∀ C t1 t2 i, let σ' := σ.imm C (tup [.int (p + q).num t1, .int (p + q).den t2] i); Q (.ref C) σ') : Run c σ (call (.ref 87) [.ref A, .ref B]) Q := r_gsR (plus_g _ (hasR h1) (hasR h2) bp bq) (fun _ h => h) hd hu h
theorem r_times (h1 : Has V σ (A, tup [.int p.num a1, .int p.den a2] j)) (h2 : Has V σ (B, tup [.int q.num b1, .int q.den b2] k)) (np : -(2 ^ 62) < p.num) (np' : p.num < 2 ^ 62) (bp : (p.den : Int) < 2 ^ 62) (bq : (q.den : Int) < 2 ^ 62) (hd : Nat.ble 3 V.D = true) (hu : Nat.ble 24 V.U = true)
    (h : ∀ C t1 t2 i, let σ' := σ.imm C (tup [.int (p * q).num t1, .int (p * q).den t2] i); Q (.ref C) σ') : Run c σ (call (.ref 94) [.ref A, .ref B]) Q := r_gsR (times_g _ (hasR h1) (hasR h2) np np' bp bq) (fun _ h => h) hd hu h
theorem r_divided (h1 : Has V σ (A, tup [.int p.num a1, .int p.den a2] j)) (h2 : Has V σ (B, tup [.int q.num b1, .int q.den b2] k)) (nq : 0 < q.num) (nq' : q.num < 2 ^ 62) (bp : (p.den : Int) < 2 ^ 62) (bq : (q.den : Int) < 2 ^ 62) (hd : Nat.ble 3 V.D = true) (hu : Nat.ble 24 V.U = true)
    (h : ∀ C t1 t2 i, let σ' := σ.imm C (tup [.int (p / q).num t1, .int (p / q).den t2] i); Q (.ref C) σ') : Run c σ (call (.ref 101) [.ref A, .ref B]) Q := r_gsR (divided_g _ (hasR h1) (hasR h2) nq nq' bp bq) (fun _ h => h) hd hu h
theorem r_negated (h1 : Has V σ (A, tup [.int p.num a1, .int p.den a2] j)) (hd : Nat.ble 1 V.D = true) (hu : Nat.ble 8 V.U = true)
    (h : ∀ C t1 t2 i, let σ' := σ.imm C (tup [.int (-p).num t1, .int (-p).den t2] i); Q (.ref C) σ') : Run c σ (call (.ref 108) [.ref A]) Q := r_gsR (negated_g _ (hasR h1)) (fun _ h => h) hd hu h
theorem r_frac1 {x : Int} {t : Tok} (hd : Nat.ble 2 V.D = true) (hu : Nat.ble 16 V.U = true)
    (h : ∀ C t1 t2 i, let σ' := σ.imm C (tup [.int (x : Rat).num t1, .int (x : Rat).den t2] i); Q (.ref C) σ') : Run c σ (call (.ref 80) [.int x t]) Q := r_gsR (frac1_g _) (fun _ h => h) hd hu h
theorem r_frac2 {x y : Int} {t u : Tok} (hy : 0 < y) (hY : y < 2 ^ 128) (hd : Nat.ble 2 V.D = true) (hu : Nat.ble 16 V.U = true)
    (h : ∀ C t1 t2 i, let σ' := σ.imm C (tup [.int (Rat.divInt x y).num t1, .int (Rat.divInt x y).den t2] i); Q (.ref C) σ') : Run c σ (call (.ref 80) [.int x t, .int y u]) Q := r_gsR (frac_g _ hy hY) (fun _ h => h) hd hu h
end
inductive MatIn (w : World) (i : Led) (v : Value) (s e f : Rat) : Prop
  | mk (X D A B C G E F : Addr) (n ka kb kc kg ke kf : Nat) (u1 u2 u3 u4 u5 u6 a1 a2 b1 b2 c1 c2 g1 g2 e1 e2 f1 f2 : Tok) (h0 : v = .ref X) (h1 : (X, instObj 167 D) ∈ i) (h2 : (D, dictOf [key w "a" u1 (.ref A), key w "b" u2 (.ref B), key w "c" u3 (.ref C), key w "d" u4 (.ref G), key w "e" u5 (.ref E), key w "f" u6 (.ref F)] n) ∈ i) (h3 : (A, tup [.int s.num a1, .int s.den a2] ka) ∈ i) (h4 : (B, tup [.int (0 : Rat).num b1, .int (0 : Rat).den b2] kb) ∈ i) (h5 : (C, tup [.int (0 : Rat).num c1, .int (0 : Rat).den c2] kc) ∈ i) (h6 : (G, tup [.int (-s).num g1, .int (-s).den g2] kg) ∈ i) (h7 : (E, tup [.int e.num e1, .int e.den e2] ke) ∈ i) (h8 : (F, tup [.int f.num f1, .int f.den f2] kf) ∈ i) : MatIn w i v s e f
structure Bd (n : Nat) (q : Rat) : Prop where
  lt : q.den < 2 ^ n
theorem Bd.mul {m n : Nat} {a b : Rat} (ha : Bd m a) (hb : Bd n b) : Bd (m + n) (a * b) := ⟨by
  rw [Nat.pow_add]
  exact Nat.lt_of_le_of_lt (den_mul_le a b) (Nat.mul_lt_mul'' ha.lt hb.lt)⟩
theorem Bd.add {m n : Nat} {a b : Rat} (ha : Bd m a) (hb : Bd n b) : Bd (m + n) (a + b) := ⟨by
  rw [Nat.pow_add]
  exact Nat.lt_of_le_of_lt (den_add_le a b) (Nat.mul_lt_mul'' ha.lt hb.lt)⟩
theorem Bd.neg {m : Nat} {a : Rat} (ha : Bd m a) : Bd m (-a) := ⟨by rw [Rat.neg_den]; exact ha.lt⟩
theorem Bd.int {x : Int} : Bd 1 (x : Rat) := ⟨by simp⟩
theorem Bd.zero {y : Rat} : Bd 1 (0 * y) := ⟨by rw [Rat.zero_mul]; decide⟩
theorem Bd.le {m n : Nat} {a : Rat} (ha : Bd m a) (h : m ≤ n) : Bd n a := ⟨Nat.lt_of_lt_of_le ha.lt (Nat.pow_le_pow_right (by decide) h)⟩
theorem Bd.out {n : Nat} {a : Rat} (ha : Bd n a) (h : n ≤ 62) : (a.den : Int) < 2 ^ 62 := by
  have := (ha.le h).lt
  omega
structure ScB (s : Rat) : Prop where
  lo : -(2 ^ 62) < s.num
  hi : s.num < 2 ^ 62
  den : Bd 15 s
structure MB (s e f x y : Rat) : Prop where
  sb : ScB s
  bx : Bd 1 x
  by' : Bd 1 y
  be : Bd 40 e
  bf : Bd 4 f
theorem vector_g (w : World) {need : Led} {v p : Value} {s e f x y : Rat} (hm : MatIn w need v s e f) (hp : PtIn need p x y) (b : MB s e f x y) : GS w 136 4 40 [v, p] need (fun r tl => PtIn tl r (s * x + 0 * y) (0 * x + -s * y)) := by
  k_with "r call" => ((fail_if_success (k_extra "off N3")); (k_extra "r q"))
  obtain ⟨X, D, A, B, C, G, E, F, n, ka, kb, kc, kg, ke, kf, u1, u2, u3, u4, u5, u6, a1, a2, b1, b2, c1, c2, g1, g2, e1, e2, f1, f2, rfl, m1, m2, m3, m4, m5, m6, m7, m8⟩ := hm
  obtain ⟨P, d1, d2, t1, t2, t3, t4, k, k1, k2, rfl, n1, n2, n3⟩ := hp
  have np := b.sb.lo
  have np' := b.sb.hi
  have bs := b.sb.den
  have o1 : -(2 ^ 62) < (-s).num := by rw [Rat.neg_num]; omega
  have o2 : (-s).num < 2 ^ 62 := by rw [Rat.neg_num]; omega
  have o3 : -(2 ^ 62) < (0 : Rat).num := by decide
  have o4 : (0 : Rat).num < 2 ^ 62 := by decide
  have c1 : (s.den : Int) < 2 ^ 62 := bs.out (by decide)
  have c2 : ((-s).den : Int) < 2 ^ 62 := bs.neg.out (by decide)
  have c3 : ((0 : Rat).den : Int) < 2 ^ 62 := by decide
  have c4 : (x.den : Int) < 2 ^ 62 := b.bx.out (by decide)
  have c5 : (y.den : Int) < 2 ^ 62 := b.by'.out (by decide)
  have c8 : ((s * x).den : Int) < 2 ^ 62 := (bs.mul b.bx).out (by decide)
  have c9 : ((-s * y).den : Int) < 2 ^ 62 := (bs.neg.mul b.by').out (by decide)
  have d1 : ((0 * y).den : Int) < 2 ^ 62 := Bd.zero.out (by decide)
  have d2 : ((0 * x).den : Int) < 2 ^ 62 := Bd.zero.out (by decide)
  clear b bs
  k_extra "r enter"
  k_extra "r go"
  exact ptIn (by k_extra "r out") (by k_extra "r out") (by k_extra "r out")
theorem off_N3 : True := by
  k_with "off N3" => skip
  exact trivial
end N3
section N4
section
variable {V : Vis} {c : Ctx V} {σ : St} {Q : Value → St → Prop}
theorem r_newMat {a b d e f g : Value} (hd : Nat.ble 3 V.D = true) (hu : Nat.ble 6 V.U = true)
    (h : ∀ X dx u1 u2 u3 u4 u5 u6, let σ' := (σ.imm X (instObj 167 dx)).imm dx (dictOf [key V.w "a" u1 a, key V.w "b" u2 b, key V.w "c" u3 d, key V.w "d" u4 e, key V.w "e" u5 f, key V.w "f" u6 g] 6); Q (.ref X) σ') : Run c σ (call (.ref 167) [a, b, d, e, f, g]) Q := by
  refine' Run.post (K := fun v σ₁ => ∃ X dx u1 u2 u3 u4 u5 u6, v = .ref X ∧ σ₁ = ⟨σ.m, σ.cm, (dx, dictOf [key V.w "a" u1 a, key V.w "b" u2 b, key V.w "c" u3 d, key V.w "d" u4 e, key V.w "e" u5 f, key V.w "f" u6 g] 6) :: σ.mt, [(X, instObj 167 dx)] :: σ.im⟩) (r_new ⟨by k_is, by k_is, by k_is⟩ ?zo ?zc ?zb ?zh hd hu ?zm ?_) ?_
  case zo => k_is
  case zc => k_is
  case zb => (intro X9 s9 Z9; first | exact BindsTo.of_eq rfl | exact binds_K Z9 rfl (by k_is) rfl rfl rfl)
  case zh => exact rfl
  case zm => exact fun _ => rfl
  · intro X dx L V' c' σ'
    k_extra "r go"
    exact ⟨rfl, X, dx, _, _, _, _, _, _, rfl, rfl⟩
  · rintro v σ₁ ⟨X, dx, u1, u2, u3, u4, u5, u6, rfl, rfl⟩
    exact ⟨_, weak_freeze, h X dx u1 u2 u3 u4 u5 u6⟩
end

theorem frac0_g (w : World) {need : Led} {t : Tok} : GS w 80 2 16 [.int 0 t] need (fun r tl => RatIn tl r 0) := by
  have := frac1_g w (need := need) (x := 0) (t1 := t)
  simpa using this
theorem r_frac0 {V : Vis} {c : Ctx V} {σ : St} {Q : Value → St → Prop} {t : Tok} (hd : Nat.ble 2 V.D = true) (hu : Nat.ble 16 V.U = true)
    (h : ∀ C t1 t2 i, let σ' := σ.imm C (tup [.int (0 : Rat).num t1, .int (0 : Rat).den t2] i); Q (.ref C) σ') : Run c σ (call (.ref 80) [.int 0 t]) Q := r_gsR (frac0_g _) (fun _ h => h) hd hu h
theorem point_g (w : World) {need : Led} {v p : Value} {s e f x y : Rat} (hm : MatIn w need v s e f) (hp : PtIn need p x y) (b : MB s e f x y) : GS w 143 5 48 [v, p] need (fun r tl => PtIn tl r (s * x + 0 * y + e) (0 * x + -s * y + f)) := by
  k_with "r call" => ((fail_if_success (k_extra "off N4")); (first
    | ((with_reducible refine' r_gs (vector_g _ ?zm ?zp ?zb) (fun _ h => hasNd h) ?zd ?zu ?_); (case zm => with_reducible assumption); (case zp => with_reducible assumption); (case zb => with_reducible assumption); (case zd => exact rfl); (case zu => exact rfl); intro r9 tl9 P9 σ9; obtain ⟨A9, B9, D9, t1, t2, t3, t4, k9, k8, k7, e9, m9, p9, l9⟩ := P9; subst e9)
    | k_extra "r q"))
  have hm' := hm
  obtain ⟨X, D, A, B, C, G, E, F, n, ka, kb, kc, kg, ke, kf, u1, u2, u3, u4, u5, u6, a1, a2, b1, b2, c1, c2, g1, g2, e1, e2, f1, f2, rfl, m1, m2, m3, m4, m5, m6, m7, m8⟩ := hm'
  have bs := b.sb.den
  have c6 : (e.den : Int) < 2 ^ 62 := b.be.out (by decide)
  have c7 : (f.den : Int) < 2 ^ 62 := b.bf.out (by decide)
  have d3 : ((s * x + 0 * y).den : Int) < 2 ^ 62 := ((bs.mul b.bx).add Bd.zero).out (by decide)
  have d4 : ((0 * x + -s * y).den : Int) < 2 ^ 62 := (Bd.zero.add (bs.neg.mul b.by')).out (by decide)
  clear bs
  k_extra "r enter"
  k_extra "r go"
  exact ptIn (by k_extra "r out") (by k_extra "r out") (by k_extra "r out")
theorem lmat_g (w : World) {need : Led} {sv xv yv : Value} {s e f : Rat} (hs : RatIn need sv s) (he : RatIn need xv e) (hf : RatIn need yv f) : GS w 314 5 48 [sv, xv, yv] need (fun r tl => MatIn w (need ++ tl) r s e f) := by
  k_with "r call" => ((fail_if_success (k_extra "off N4")); (first
    | ((with_reducible refine' r_frac0 ?zd ?zu ?_); (case zd => exact rfl); (case zu => exact rfl); intro A9 t8 t9 k9 σ9)
    | ((with_reducible refine' r_newMat ?zd ?zu ?_); (case zd => exact rfl); (case zu => exact rfl); intro X9 D9 u1 u2 u3 u4 u5 u6 σ9)
    | k_extra "r q"))
  obtain ⟨A, a1, a2, ka, rfl, m1⟩ := hs
  obtain ⟨E, e1, e2, ke, rfl, m2⟩ := he
  obtain ⟨F, f1, f2, kf, rfl, m3⟩ := hf
  k_extra "r enter"
  k_extra "r go"
  exact ⟨_, _, _, _, _, _, _, _, _, _, _, _, _, _, _, _, _, _, _, _, _, _, _, _, _, _, _, _, _, _, _, _, _, rfl, List.mem_append_right _ (by k_extra "r out"), List.mem_append_right _ (by k_extra "r out"), List.mem_append_left _ m1, List.mem_append_right _ (by k_extra "r out"), List.mem_append_right _ (by k_extra "r out"), List.mem_append_right _ (by k_extra "r out"), List.mem_append_left _ m2, List.mem_append_left _ m3⟩
theorem off_N4 : True := by
  k_with "off N4" => skip
  exact trivial
end N4
section N5
def segD (x0 y0 x1 y1 x2 y2 : Rat) : Dat := .list [.tuple [.str (Str.ofString "move"), dP x0 y0], .tuple [.str (Str.ofString "line"), dP x1 y1], .tuple [.str (Str.ofString "line"), dP x2 y2], .tuple [.str (Str.ofString "line"), dP x0 y0], .tuple [.str (Str.ofString "close")]]
theorem ratIn_of {i : Led} {v : Value} {q : Rat} (h : DatIn i v (dR q)) : RatIn i v q := by
  cases h with
  | tuple hm hd => cases hd with
    | cons h1 hd => cases hd with
      | cons h2 hd => cases h1; cases h2; cases hd; exact ⟨_, _, _, _, rfl, hm⟩
theorem ptIn_of {i : Led} {v : Value} {p q : Rat} (h : DatIn i v (dP p q)) : PtIn i v p q := by
  cases h with
  | tuple hm hd => cases hd with
    | cons h1 hd => cases hd with
      | cons h2 hd =>
        obtain ⟨a, t1, t2, k1, rfl, m1⟩ := ratIn_of h1
        obtain ⟨b, t3, t4, k2, rfl, m2⟩ := ratIn_of h2
        cases hd
        exact ⟨_, _, _, _, _, _, _, _, _, _, rfl, hm, m1, m2⟩
theorem step_of {i : Led} {v : Value} {n : Str} {p q : Rat} (h : DatIn i v (.tuple [.str n, dP p q])) : ∃ (T : Addr) (t : Tok) (u : Value) (k : Nat), v = .ref T ∧ (T, tup [.str n t, u] k) ∈ i ∧ PtIn i u p q := by
  cases h with
  | tuple hm hd => cases hd with
    | cons h1 hd => cases hd with
      | cons h2 hd => cases h1; cases hd; exact ⟨_, _, _, _, rfl, hm, ptIn_of h2⟩
theorem close_of {i : Led} {v : Value} {n : Str} (h : DatIn i v (.tuple [.str n])) : ∃ (T : Addr) (t : Tok) (k : Nat), v = .ref T ∧ (T, tup [.str n t] k) ∈ i := by
  cases h with
  | tuple hm hd => cases hd with
    | cons h1 hd => cases h1; cases hd; exact ⟨_, _, _, rfl, hm⟩
theorem segs_of {i : Led} {v : Value} {x0 y0 x1 y1 x2 y2 : Rat} (h : DatIn i v (segD x0 y0 x1 y1 x2 y2)) :
    ∃ (R T1 T2 T3 T4 T5 : Addr) (t1 t2 t3 t4 t5 : Tok) (u1 u2 u3 u4 : Value) (n k1 k2 k3 k4 k5 : Nat), v = .ref R ∧ (R, listOf [.ref T1, .ref T2, .ref T3, .ref T4, .ref T5].toArray n) ∈ i ∧
      (T1, tup [.str (Str.ofString "move") t1, u1] k1) ∈ i ∧ (T2, tup [.str (Str.ofString "line") t2, u2] k2) ∈ i ∧ (T3, tup [.str (Str.ofString "line") t3, u3] k3) ∈ i ∧ (T4, tup [.str (Str.ofString "line") t4, u4] k4) ∈ i ∧ (T5, tup [.str (Str.ofString "close") t5] k5) ∈ i ∧
      PtIn i u1 x0 y0 ∧ PtIn i u2 x1 y1 ∧ PtIn i u3 x2 y2 ∧ PtIn i u4 x0 y0 := by
  obtain ⟨R, v1, v2, v3, v4, v5, n, rfl, m, hd⟩ := dat5 h
  cases hd with
  | cons h1 hd => cases hd with
    | cons h2 hd => cases hd with
      | cons h3 hd => cases hd with
        | cons h4 hd => cases hd with
          | cons h5 hd =>
            obtain ⟨T1, t1, u1, k1, rfl, m1, p1⟩ := step_of h1
            obtain ⟨T2, t2, u2, k2, rfl, m2, p2⟩ := step_of h2
            obtain ⟨T3, t3, u3, k3, rfl, m3, p3⟩ := step_of h3
            obtain ⟨T4, t4, u4, k4, rfl, m4, p4⟩ := step_of h4
            obtain ⟨T5, t5, k5, rfl, m5⟩ := close_of h5
            exact ⟨R, T1, T2, T3, T4, T5, t1, t2, t3, t4, t5, u1, u2, u3, u4, n, k1, k2, k3, k4, k5, rfl, m, m1, m2, m3, m4, m5, p1, p2, p3, p4⟩
theorem ledseg_g (w : World) {need : Led} {sv mv : Value} {s e f x0 y0 x1 y1 x2 y2 : Rat} (hs : DatIn need sv (segD x0 y0 x1 y1 x2 y2)) (hm : MatIn w need mv s e f) (b0 : MB s e f x0 y0) (b1 : MB s e f x1 y1) (b2 : MB s e f x2 y2) :
    GS w 371 8 64 [sv, mv] need (fun r tl => DatIn tl r (segD (s * x0 + 0 * y0 + e) (0 * x0 + -s * y0 + f) (s * x1 + 0 * y1 + e) (0 * x1 + -s * y1 + f) (s * x2 + 0 * y2 + e) (0 * x2 + -s * y2 + f))) := by
  k_with "r call" => ((fail_if_success (k_extra "off N5")); (first
    | ((with_reducible refine' r_gs (point_g _ ?zm ?zp ?zb) (fun _ h => hasNd h) ?zd ?zu ?_); (case zm => with_reducible assumption); (case zp => with_reducible assumption); (case zb => with_reducible assumption); (case zd => exact rfl); (case zu => exact rfl); intro r9 tl9 P9 σ9)
    | k_extra "r leaf"))
  k_with "r sl1" => ((fail_if_success (k_extra "off N5")); (k_extra "r slT"))
  obtain ⟨R, T1, T2, T3, T4, T5, t1, t2, t3, t4, t5, u1, u2, u3, u4, n, k1, k2, k3, k4, k5, rfl, m, m1, m2, m3, m4, m5, p1, p2, p3, p4⟩ := segs_of hs
  have hm' := hm
  obtain ⟨X, D, A, B, C, G, E, F, n', ka, kb, kc, kg, ke, kf, w1, w2, w3, w4, w5, w6, a1, a2, c1, c2, d1, d2, g1, g2, e1, e2, f1, f2, rfl, n1, n2, -⟩ := hm'
  refine' gsC_of_run ?ho ?hcd ?hb ?hc ?_
  case ho => k_is
  case hcd => k_is
  case hb => (intro s9 X9; first | exact BindsTo.of_eq rfl | exact binds_K X9 rfl (by k_is) rfl rfl rfl)
  case hc => exact rfl
  intro L9 V9 c9 σ9
  k_extra "r go"
  exact .list (by k_extra "r out") (.cons (.tuple (by k_extra "r out") (.cons (.str _ _) (.cons (PtIn.dat (PtIn.mono (by with_reducible assumption) (by k_extra "r sub"))) .nil))) (.cons (.tuple (by k_extra "r out") (.cons (.str _ _) (.cons (PtIn.dat (PtIn.mono (by with_reducible assumption) (by k_extra "r sub"))) .nil))) (.cons (.tuple (by k_extra "r out") (.cons (.str _ _) (.cons (PtIn.dat (PtIn.mono (by with_reducible assumption) (by k_extra "r sub"))) .nil))) (.cons (.tuple (by k_extra "r out") (.cons (.str _ _) (.cons (PtIn.dat (PtIn.mono (by with_reducible assumption) (by k_extra "r sub"))) .nil))) (.cons (.tuple (by k_extra "r out") (.cons (.str _ _) .nil)) .nil)))))
theorem off_N5 : True := by
  k_with "off N5" => skip
  exact trivial
end N5
section N6
theorem spot_g (w : World) {need : Led} {P : Addr} {x y : Int} {a b : Tok} {k : Nat} (m : (P, tpt x y a b k) ∈ need) : GS w 226 3 24 [.ref P] need (fun r tl => PtIn tl r (x : Rat) (y : Rat)) := by
  k_with "r call" => ((fail_if_success (k_extra "off N6")); (k_extra "r q"))
  k_extra "r enter"
  k_extra "r go"
  exact ⟨_, _, _, _, _, _, _, _, _, _, rfl, by k_extra "r out", by k_extra "r out", by k_extra "r out"⟩
inductive BegG (tl : Led) (r : Value) (P0 P1 P2 : Addr) (x0 y0 : Int) : Prop
  | mk (T M : Addr) (v : Value) (k n : Nat) (h0 : r = .ref T) (h1 : (T, tup [v, .ref M] k) ∈ tl) (h2 : PtIn tl v (x0 : Rat) (y0 : Rat)) (h3 : (M, listOf #[.ref P1, .ref P2, .ref P0] n) ∈ tl) : BegG tl r P0 P1 P2 x0 y0
theorem begin_g (w : World) {need : Led} {K P0 P1 P2 : Addr} {x0 y0 x1 y1 x2 y2 : Int} {n k0 k1 k2 : Nat} {a0 b0 a1 b1 a2 b2 : Tok} (m4 : (K, listOf [.ref P0, .ref P1, .ref P2].toArray n) ∈ need) (m5 : (P0, tpt x0 y0 a0 b0 k0) ∈ need) (m6 : (P1, tpt x1 y1 a1 b1 k1) ∈ need) (m7 : (P2, tpt x2 y2 a2 b2 k2) ∈ need) : GS w 240 4 32 [.ref K] need (fun r tl => BegG tl r P0 P1 P2 x0 y0) := by
  k_with "r call" => ((fail_if_success (k_extra "off N6")); (((with_reducible refine' r_gs (spot_g _ ?zm) (fun _ h => hasNd h) ?zd ?zu ?_); (case zm => with_reducible assumption); (case zd => exact rfl); (case zu => exact rfl); intro r9 tl9 P9 σ9)))
  k_extra "r enter"
  k_extra "r go"
  exact ⟨_, _, _, _, _, rfl, by k_extra "r out", PtIn.mono (by with_reducible assumption) (by k_extra "r sub"), by k_extra "r out"⟩
theorem csegs_g (w : World) {need : Led} {K P0 P1 P2 : Addr} {x0 y0 x1 y1 x2 y2 : Int} {n k0 k1 k2 : Nat} {a0 b0 a1 b1 a2 b2 : Tok} (m4 : (K, listOf [.ref P0, .ref P1, .ref P2].toArray n) ∈ need) (m5 : (P0, tpt x0 y0 a0 b0 k0) ∈ need) (m6 : (P1, tpt x1 y1 a1 b1 k1) ∈ need) (m7 : (P2, tpt x2 y2 a2 b2 k2) ∈ need) : GS w 247 5 48 [.ref K] need (fun r tl => DatIn tl r (segD x0 y0 x1 y1 x2 y2)) := by
  k_with "r call" => ((fail_if_success (k_extra "off N6")); (first
    | ((with_reducible refine' r_gs (spot_g _ ?zm) (fun _ h => hasNd h) ?zd ?zu ?_); (case zm => with_reducible assumption); (case zd => exact rfl); (case zu => exact rfl); intro r9 tl9 P9 σ9)
    | ((with_reducible refine' r_gs (begin_g _ ?zm ?za ?zb ?ze) (fun _ h => hasNd h) ?zd ?zu ?_); (case zm => with_reducible assumption); (case za => with_reducible assumption); (case zb => with_reducible assumption); (case ze => with_reducible assumption); (case zd => exact rfl); (case zu => exact rfl); intro r9 tl9 P9 σ9; obtain ⟨T9, M9, v9, k9, n9, e9, m9, p9, l9⟩ := P9; subst e9)))
  k_extra "r enter"
  k_extra "r go"
  exact .list (by k_extra "r out") (.cons (.tuple (by k_extra "r out") (.cons (.str _ _) (.cons (PtIn.dat (PtIn.mono (by with_reducible assumption) (by k_extra "r sub"))) .nil))) (.cons (.tuple (by k_extra "r out") (.cons (.str _ _) (.cons (PtIn.dat (PtIn.mono (by with_reducible assumption) (by k_extra "r sub"))) .nil))) (.cons (.tuple (by k_extra "r out") (.cons (.str _ _) (.cons (PtIn.dat (PtIn.mono (by with_reducible assumption) (by k_extra "r sub"))) .nil))) (.cons (.tuple (by k_extra "r out") (.cons (.str _ _) (.cons (PtIn.dat (PtIn.mono (by with_reducible assumption) (by k_extra "r sub"))) .nil))) (.cons (.tuple (by k_extra "r out") (.cons (.str _ _) .nil)) .nil)))))
theorem segs_g (w : World) {need : Led} {v : Value} {x0 y0 x1 y1 x2 y2 : Int} (ho : OutIn w need v x0 y0 x1 y1 x2 y2) : GS w 254 6 64 [v] need (fun r tl => DatIn tl r (segD x0 y0 x1 y1 x2 y2)) := by
  k_with "r call" => ((fail_if_success (k_extra "off N6")); (first
    | ((with_reducible refine' r_gs (csegs_g _ (List.mem_cons_self ..) (List.mem_cons_of_mem _ (List.mem_cons_self ..)) (List.mem_cons_of_mem _ (List.mem_cons_of_mem _ (List.mem_cons_self ..))) (List.mem_cons_of_mem _ (List.mem_cons_of_mem _ (List.mem_cons_of_mem _ (List.mem_cons_self ..))))) (allC ?za (allC ?zb (allC ?ze (allC ?zf allN)))) ?zd ?zu ?_); (case za => k_extra "r mem"); (case zb => k_extra "r mem"); (case ze => k_extra "r mem"); (case zf => k_extra "r mem"); (case zd => exact rfl); (case zu => exact rfl); intro r9 tl9 P9 σ9; obtain ⟨R9, v9, v8, v7, v6, v5, n9, e9, m9, hD9⟩ := dat5 P9; subst e9)
    | k_extra "r leaf"))
  obtain ⟨X0, D0, C0, K0, P0, P1, P2, n1, n2, n3, k0, k1, k2, u1, u2, a0, b0, a1, b1, a2, b2, e0, rfl, m1, m2, m3, m4, m5, m6, m7⟩ := ho
  k_extra "r enter"
  k_extra "r go"
  exact .list (by k_extra "r out") (hD9.mono (by k_extra "r sub"))
theorem len_g (w : World) {need : Led} {A K : Addr} {nA nK : Nat} {vs us : List Value} {as ks : List Int} (hA : (A, listOf vs.toArray nA) ∈ need) (hK : (K, listOf us.toArray nK) ∈ need) (ia : IntsAre vs as) (ik : IntsAre us ks) : GS w 283 2 24 [.ref A, .ref K] need (fun r _ => ∃ t, r = .int (as.sum + ks.sum) t) := by
  k_with "r call" => ((fail_if_success (k_extra "off N6")); (((with_reducible refine' r_sum ?za ?zb ?_); (case za => k_extra "r mem"); (case zb => with_reducible assumption); intro t9)))
  k_extra "r enter"
  k_extra "r go"
  exact ⟨_, rfl⟩
theorem off_N6 : True := by
  k_with "off N6" => skip
  exact trivial
end N6
section N7
def shiftQ (a : Str) (len : Int) : Rat := if a = Str.ofString "start" then 0 else if a = Str.ofString "middle" then Rat.divInt (0 - len) 2 else ((0 - len : Int) : Rat)
theorem shift_start (w : World) {need : Led} {len : Int} {t u : Tok} : GS w 297 4 32 [.int len t, .str (Str.ofString "start") u] need (fun r tl => RatIn tl r (shiftQ (Str.ofString "start") len)) := by
  k_with "r call" => ((fail_if_success (k_extra "off N7")); (first
    | ((with_reducible refine' r_frac0 ?zd ?zu ?_); (case zd => exact rfl); (case zu => exact rfl); intro A9 t8 t9 k9 σ9)
    | k_extra "r q"))
  k_with "r bool" => ((fail_if_success (k_extra "off N7")); ((show BEq.beq (Str.ofString _) (Str.ofString _) = _; decide +kernel)))
  k_with "r leaf" => ((fail_if_success (k_extra "off N7")); (((with_reducible refine' r_notinK (b := false) ?za ?zb ?ze ?_); (case za => k_is); (case zb => exact rfl); (case ze => decide +kernel))))
  k_extra "r enter"
  k_extra "r go"
  exact ratIn (by k_extra "r out")
theorem two_pos : (0 : Int) < 2 := by decide
theorem two_lt : (2 : Int) < 2 ^ 128 := by decide
theorem shift_middle (w : World) {need : Led} {len : Int} {t u : Tok} : GS w 297 4 32 [.int len t, .str (Str.ofString "middle") u] need (fun r tl => RatIn tl r (shiftQ (Str.ofString "middle") len)) := by
  have h1 := two_pos
  have h2 := two_lt
  k_extra "r enter"
  k_extra "r go"
  exact ratIn (by k_extra "r out")
theorem shift_end (w : World) {need : Led} {len : Int} {t u : Tok} : GS w 297 4 32 [.int len t, .str (Str.ofString "end") u] need (fun r tl => RatIn tl r (shiftQ (Str.ofString "end") len)) := by
  k_extra "r enter"
  k_extra "r go"
  exact ratIn (by k_extra "r out")
theorem off_N7 : True := by
  k_with "off N7" => skip
  exact trivial
end N7
section N8
theorem beg_0 (w : World) {need : Led} {A K : Addr} {nA nK : Nat} (hA : (A, listOf #[] nA) ∈ need) (hK : (K, listOf #[] nK) ∈ need) : GS w 290 2 24 [.ref A, .ref K] need (fun r tl => ∃ (R : Addr) (nR : Nat), r = .ref R ∧ (R, listOf #[] nR) ∈ tl) := by
  k_with "r call" => ((fail_if_success (k_extra "off N8")); (k_extra "r leaf"))
  k_extra "r enter"
  k_extra "r go"
  exact ⟨_, _, rfl, by k_extra "r out"⟩
theorem beg_1 (w : World) {need : Led} {A K : Addr} {a0 : Int} {s0 : Tok} {nA nK : Nat} (hA : (A, listOf #[.int a0 s0] nA) ∈ need) (hK : (K, listOf #[] nK) ∈ need) : GS w 290 2 24 [.ref A, .ref K] need (fun r tl => ∃ (R : Addr) (t0 : Tok) (nR : Nat), r = .ref R ∧ (R, listOf #[.int (0) t0] nR) ∈ tl) := by
  k_extra "r enter"
  k_extra "r go"
  exact ⟨_, _, _, rfl, by k_extra "r out"⟩
theorem beg_2 (w : World) {need : Led} {A K : Addr} {a0 a1 k0 : Int} {s0 s1 u0 : Tok} {nA nK : Nat} (hA : (A, listOf #[.int a0 s0, .int a1 s1] nA) ∈ need) (hK : (K, listOf #[.int k0 u0] nK) ∈ need) : GS w 290 2 24 [.ref A, .ref K] need (fun r tl => ∃ (R : Addr) (t0 t1 : Tok) (nR : Nat), r = .ref R ∧ (R, listOf #[.int (0) t0, .int (0 + a0 + k0) t1] nR) ∈ tl) := by
  k_extra "r enter"
  k_extra "r go"
  exact ⟨_, _, _, _, rfl, by k_extra "r out"⟩
theorem beg_3 (w : World) {need : Led} {A K : Addr} {a0 a1 a2 k0 k1 : Int} {s0 s1 s2 u0 u1 : Tok} {nA nK : Nat} (hA : (A, listOf #[.int a0 s0, .int a1 s1, .int a2 s2] nA) ∈ need) (hK : (K, listOf #[.int k0 u0, .int k1 u1] nK) ∈ need) : GS w 290 2 24 [.ref A, .ref K] need (fun r tl => ∃ (R : Addr) (t0 t1 t2 : Tok) (nR : Nat), r = .ref R ∧ (R, listOf #[.int (0) t0, .int (0 + a0 + k0) t1, .int (0 + a0 + k0 + a1 + k1) t2] nR) ∈ tl) := by
  k_extra "r enter"
  k_extra "r go"
  exact ⟨_, _, _, _, _, rfl, by k_extra "r out"⟩
theorem off_N8 : True := by
  k_with "off N8" => skip
  exact trivial
end N8
section N9
inductive FnG (w : World) (led : Led) (X : Addr) (as : List Int) (v : Int) (ds : List Dat) : Prop
  | mk (DX f1 f2 f3 f4 : Addr) (n : Nat) (u1 u2 u3 u4 u5 u6 : Tok) (c1 c2 : Value) (d1 d2 d3 d4 : FuncData) (h0 : (X, instObj 215 DX) ∈ led) (h1 : (DX, dictOf [key w "contours" u1 c1, key w "instructions" u2 c2, key w "glyph" u3 (.ref f1), key w "advance" u4 (.ref f2), key w "kern" u5 (.ref f3), key w "outline" u6 (.ref f4)] n) ∈ led) (h2 : (f1, fnO d1) ∈ led) (h3 : (f2, fnO d2) ∈ led) (h4 : (f3, fnO d3) ∈ led) (h5 : (f4, fnO d4) ∈ led) (h6 : (∀ c t, GS w f1 2 16 [.int c t] led (fun r _ => ∃ t, r = .int (gly c) t))) (h7 : (∀ g t, 0 ≤ g → g < 4 → GS w f2 2 16 [.int g t] led (fun r _ => ∃ t, r = .int (adv as g) t))) (h8 : (∀ l r t u, GS w f3 2 16 [.int l t, .int r u] led (fun r' _ => ∃ t, r' = .int (ker v l r) t))) (h9 : (∀ g t x0 y0 x1 y1 x2 y2, 0 ≤ g → g < 4 → ds[g.toNat]? = some (.list [ptD x0 y0, ptD x1 y1, ptD x2 y2]) → GS w f4 4 32 [.int g t] led (fun r tl => OutIn w tl r x0 y0 x1 y1 x2 y2))) : FnG w led X as v ds
theorem gly_lo (c : Int) : 0 ≤ gly c := by unfold gly; split <;> (try split) <;> (try split) <;> omega
theorem gly_hi (c : Int) : gly c < 4 := by unfold gly; split <;> (try split) <;> (try split) <;> omega
section
variable {V : Vis} {c : Ctx V} {σ : St} {Q : Value → St → Prop}
theorem r_newLet {a b d : Value} (hd : Nat.ble 3 V.D = true) (hu : Nat.ble 6 V.U = true)
    (h : ∀ X dx u1 u2 u3, let σ' := (σ.imm X (instObj 272 dx)).imm dx (dictOf [key V.w "glyph" u1 a, key V.w "advance" u2 b, key V.w "begin" u3 d] 3); Q (.ref X) σ') : Run c σ (call (.ref 272) [a, b, d]) Q := by
  refine' Run.post (K := fun v σ₁ => ∃ X dx u1 u2 u3, v = .ref X ∧ σ₁ = ⟨σ.m, σ.cm, (dx, dictOf [key V.w "glyph" u1 a, key V.w "advance" u2 b, key V.w "begin" u3 d] 3) :: σ.mt, [(X, instObj 272 dx)] :: σ.im⟩) (r_new ⟨by k_is, by k_is, by k_is⟩ ?zo ?zc ?zb ?zh hd hu ?zm ?_) ?_
  case zo => k_is
  case zc => k_is
  case zb => (intro X9 s9 Z9; first | exact BindsTo.of_eq rfl | exact binds_K Z9 rfl (by k_is) rfl rfl rfl)
  case zh => exact rfl
  case zm => exact fun _ => rfl
  · intro X dx L V' c' σ'
    k_extra "r go"
    exact ⟨rfl, X, dx, _, _, _, rfl, rfl⟩
  · rintro v σ₁ ⟨X, dx, u1, u2, u3, rfl, rfl⟩
    exact ⟨_, weak_freeze, h X dx u1 u2 u3⟩
end
theorem glyphs_0 (w : World) {need : Led} {X : Addr} {as : List Int} {v : Int} {ds : List Dat} {t : Tok} (hf : FnG w need X as v ds) : GS w 302 4 32 [.ref X, .str ⟨#[]⟩ t] need (fun r tl => ∃ (R : Addr) (nR : Nat), r = .ref R ∧ (R, listOf #[] nR) ∈ tl) := by
  k_with "r call" => ((fail_if_success (k_extra "off N9")); (first
    | ((with_reducible refine' r_gs (g1 _ _) (fun _ h => hasNd h) ?zd ?zu ?_); (case zd => exact rfl); (case zu => exact rfl); intro r9 tl9 P9 σ9; obtain ⟨t9, e9⟩ := P9; subst e9)
    | k_extra "r leaf"))
  k_with "r enter" => ((fail_if_success (k_extra "off N9")); (((refine' gsC_of_run ?ho ?hcd ?hb ?hc ?_); (case ho => k_is); (case hcd => k_is); (case hb => (intro s9 X9; first | exact BindsTo.of_eq rfl | exact binds_K X9 rfl (by k_is) rfl rfl rfl)); (case hc => exact rfl); intro L9 V9 c9 σ9)))
  obtain ⟨DX, f1, f2, f3, f4, n, u1, u2, u3, u4, u5, u6, c1, c2, d1, d2, d3, d4, m1, m2, m3, m4, m5, m6, g1, g2, g3, g4⟩ := hf
  k_extra "r enter"
  k_extra "r go"
  exact ⟨_, _, rfl, by k_extra "r out"⟩
theorem glyphs_1 (w : World) {need : Led} {X : Addr} {as : List Int} {v : Int} {ds : List Dat} {x0 : Nat} {t : Tok} (hf : FnG w need X as v ds) : GS w 302 4 32 [.ref X, .str ⟨#[x0]⟩ t] need (fun r tl => ∃ (R : Addr) (t0 : Tok) (nR : Nat), r = .ref R ∧ (R, listOf #[.int (gly x0) t0] nR) ∈ tl) := by
  obtain ⟨DX, f1, f2, f3, f4, n, u1, u2, u3, u4, u5, u6, c1, c2, d1, d2, d3, d4, m1, m2, m3, m4, m5, m6, g1, g2, g3, g4⟩ := hf
  k_extra "r enter"
  k_extra "r go"
  exact ⟨_, _, _, rfl, by k_extra "r out"⟩
theorem glyphs_2 (w : World) {need : Led} {X : Addr} {as : List Int} {v : Int} {ds : List Dat} {x0 x1 : Nat} {t : Tok} (hf : FnG w need X as v ds) : GS w 302 4 32 [.ref X, .str ⟨#[x0, x1]⟩ t] need (fun r tl => ∃ (R : Addr) (t0 t1 : Tok) (nR : Nat), r = .ref R ∧ (R, listOf #[.int (gly x0) t0, .int (gly x1) t1] nR) ∈ tl) := by
  obtain ⟨DX, f1, f2, f3, f4, n, u1, u2, u3, u4, u5, u6, c1, c2, d1, d2, d3, d4, m1, m2, m3, m4, m5, m6, g1, g2, g3, g4⟩ := hf
  k_extra "r enter"
  k_extra "r go"
  exact ⟨_, _, _, _, rfl, by k_extra "r out"⟩
theorem glyphs_3 (w : World) {need : Led} {X : Addr} {as : List Int} {v : Int} {ds : List Dat} {x0 x1 x2 : Nat} {t : Tok} (hf : FnG w need X as v ds) : GS w 302 4 32 [.ref X, .str ⟨#[x0, x1, x2]⟩ t] need (fun r tl => ∃ (R : Addr) (t0 t1 t2 : Tok) (nR : Nat), r = .ref R ∧ (R, listOf #[.int (gly x0) t0, .int (gly x1) t1, .int (gly x2) t2] nR) ∈ tl) := by
  obtain ⟨DX, f1, f2, f3, f4, n, u1, u2, u3, u4, u5, u6, c1, c2, d1, d2, d3, d4, m1, m2, m3, m4, m5, m6, g1, g2, g3, g4⟩ := hf
  k_extra "r enter"
  k_extra "r go"
  exact ⟨_, _, _, _, _, rfl, by k_extra "r out"⟩
theorem off_N9 : True := by
  k_with "off N9" => skip
  exact trivial
end N9
section N10
inductive LetIn (w : World) (i : Led) (v : Value) (g a b : Int) : Prop
  | mk (X D : Addr) (n : Nat) (u1 u2 u3 t1 t2 t3 : Tok) (h0 : v = .ref X) (h1 : (X, instObj 272 D) ∈ i) (h2 : (D, dictOf [key w "glyph" u1 (.int g t1), key w "advance" u2 (.int a t2), key w "begin" u3 (.int b t3)] n) ∈ i) : LetIn w i v g a b
theorem letIn {w : World} {i : Led} {X D : Addr} {g a b : Int} {n : Nat} {u1 u2 u3 t1 t2 t3 : Tok} (m1 : (X, instObj 272 D) ∈ i) (m2 : (D, dictOf [key w "glyph" u1 (.int g t1), key w "advance" u2 (.int a t2), key w "begin" u3 (.int b t3)] n) ∈ i) : LetIn w i (.ref X) g a b := ⟨X, D, n, u1, u2, u3, t1, t2, t3, rfl, m1, m2⟩
theorem ia0 : IntsAre [] [] := .nil
theorem ia1 {a : Int} {t : Tok} : IntsAre [.int a t] [a] := .cons _ _ ia0
theorem ia2 {a b : Int} {t u : Tok} : IntsAre [.int a t, .int b u] [a, b] := .cons _ _ ia1
theorem ia3 {a b c : Int} {t u v : Tok} : IntsAre [.int a t, .int b u, .int c v] [a, b, c] := .cons _ _ ia2
theorem letters_0 (w : World) {need : Led} {X : Addr} {as : List Int} {v : Int} {ds : List Dat} {t : Tok} (hf : FnG w need X as v ds) : GS w 307 5 48 [.ref X, .str ⟨#[]⟩ t] need (fun r tl => ∃ (T R : Addr) (k n : Nat) (t : Tok), r = .ref T ∧ (T, tup [.ref R, .int (([] : List Int).sum + ([] : List Int).sum) t] k) ∈ tl ∧ (R, listOf #[] n) ∈ tl ∧ True) := by
  k_with "r call" => ((fail_if_success (k_extra "off N10")); (first
    | ((with_reducible refine' r_gs (g2 _ _ ?za ?zb) (fun _ h => hasNd h) ?zd ?zu ?_); (case za => with_reducible assumption); (case zb => with_reducible assumption); (case zd => exact rfl); (case zu => exact rfl); intro r9 tl9 P9 σ9; obtain ⟨t9, e9⟩ := P9; subst e9)
    | ((with_reducible refine' r_gs (g3 _ _ _ _) (fun _ h => hasNd h) ?zd ?zu ?_); (case zd => exact rfl); (case zu => exact rfl); intro r9 tl9 P9 σ9; obtain ⟨t9, e9⟩ := P9; subst e9)
    | ((with_reducible refine' r_gs (glyphs_0 _ ?za) (fun _ h => hasNd h) ?zd ?zu ?_); (case za => with_reducible assumption); (case zd => exact rfl); (case zu => exact rfl); intro r9 tl9 P9 σ9; obtain ⟨R9, n9, e9, m9⟩ := P9; subst e9)
    | ((with_reducible refine' r_gs (beg_0 _ (List.mem_cons_self ..) (List.mem_cons_of_mem _ (List.mem_cons_self ..))) (allC ?za (allC ?zb allN)) ?zd ?zu ?_); (case za => k_extra "r mem"); (case zb => k_extra "r mem"); (case zd => exact rfl); (case zu => exact rfl); intro r9 tl9 P9 σ9; obtain ⟨R9, n9, e9, m9⟩ := P9; subst e9)
    | ((with_reducible refine' r_gs (len_g _ (List.mem_cons_self ..) (List.mem_cons_of_mem _ (List.mem_cons_self ..)) ?ze ?zf) (allC ?za (allC ?zb allN)) ?zd ?zu ?_); (case za => k_extra "r mem"); (case zb => k_extra "r mem"); (case ze => exact ia0); (case zf => exact ia0); (case zd => exact rfl); (case zu => exact rfl); intro r9 tl9 P9 σ9; obtain ⟨t9, e9⟩ := P9; subst e9)
    | ((with_reducible refine' r_newLet ?zd ?zu ?_); (case zd => exact rfl); (case zu => exact rfl); intro X9 D9 u9 u8 u7 σ9)
    | k_extra "r leaf"))
  k_with "r enter" => ((fail_if_success (k_extra "off N10")); (((refine' gsC_of_run ?ho ?hcd ?hb ?hc ?_); (case ho => k_is); (case hcd => k_is); (case hb => (intro s9 X9; first | exact BindsTo.of_eq rfl | exact binds_K X9 rfl (by k_is) rfl rfl rfl)); (case hc => exact rfl); intro L9 V9 c9 σ9)))
  have hf' := hf
  obtain ⟨DX, f1, f2, f3, f4, n, u1, u2, u3, u4, u5, u6, c1, c2, d1, d2, d3, d4, m1, m2, m3, m4, m5, m6, g1, g2, g3, g4⟩ := hf'
  k_extra "r enter"
  k_extra "r go"
  exact ⟨_, _, _, _, _, rfl, by k_extra "r out", by k_extra "r out", trivial⟩
theorem letters_1 (w : World) {need : Led} {X : Addr} {as : List Int} {v : Int} {ds : List Dat} {x0 : Nat} {t : Tok} (hf : FnG w need X as v ds) : GS w 307 5 48 [.ref X, .str ⟨#[x0]⟩ t] need (fun r tl => ∃ (T R : Addr) (v0 : Value) (k n : Nat) (t : Tok), r = .ref T ∧ (T, tup [.ref R, .int (([(adv as (gly x0))] : List Int).sum + ([] : List Int).sum) t] k) ∈ tl ∧ (R, listOf #[v0] n) ∈ tl ∧ LetIn w tl v0 (gly x0) (adv as (gly x0)) (0)) := by
  k_with "r call" => ((fail_if_success (k_extra "off N10")); (first
    | ((with_reducible refine' r_gs (g2 _ _ ?za ?zb) (fun _ h => hasNd h) ?zd ?zu ?_); (case za => with_reducible assumption); (case zb => with_reducible assumption); (case zd => exact rfl); (case zu => exact rfl); intro r9 tl9 P9 σ9; obtain ⟨t9, e9⟩ := P9; subst e9)
    | ((with_reducible refine' r_gs (g3 _ _ _ _) (fun _ h => hasNd h) ?zd ?zu ?_); (case zd => exact rfl); (case zu => exact rfl); intro r9 tl9 P9 σ9; obtain ⟨t9, e9⟩ := P9; subst e9)
    | ((with_reducible refine' r_gs (glyphs_1 _ ?za) (fun _ h => hasNd h) ?zd ?zu ?_); (case za => with_reducible assumption); (case zd => exact rfl); (case zu => exact rfl); intro r9 tl9 P9 σ9; obtain ⟨R9, t0, n9, e9, m9⟩ := P9; subst e9)
    | ((with_reducible refine' r_gs (beg_1 _ (List.mem_cons_self ..) (List.mem_cons_of_mem _ (List.mem_cons_self ..))) (allC ?za (allC ?zb allN)) ?zd ?zu ?_); (case za => k_extra "r mem"); (case zb => k_extra "r mem"); (case zd => exact rfl); (case zu => exact rfl); intro r9 tl9 P9 σ9; obtain ⟨R9, t0, n9, e9, m9⟩ := P9; subst e9)
    | ((with_reducible refine' r_gs (len_g _ (List.mem_cons_self ..) (List.mem_cons_of_mem _ (List.mem_cons_self ..)) ?ze ?zf) (allC ?za (allC ?zb allN)) ?zd ?zu ?_); (case za => k_extra "r mem"); (case zb => k_extra "r mem"); (case ze => exact ia1); (case zf => exact ia0); (case zd => exact rfl); (case zu => exact rfl); intro r9 tl9 P9 σ9; obtain ⟨t9, e9⟩ := P9; subst e9)
    | ((with_reducible refine' r_newLet ?zd ?zu ?_); (case zd => exact rfl); (case zu => exact rfl); intro X9 D9 u9 u8 u7 σ9)
    | k_extra "r leaf"))
  k_with "r enter" => ((fail_if_success (k_extra "off N10")); (((refine' gsC_of_run ?ho ?hcd ?hb ?hc ?_); (case ho => k_is); (case hcd => k_is); (case hb => (intro s9 X9; first | exact BindsTo.of_eq rfl | exact binds_K X9 rfl (by k_is) rfl rfl rfl)); (case hc => exact rfl); intro L9 V9 c9 σ9)))
  have hf' := hf
  obtain ⟨DX, f1, f2, f3, f4, n, u1, u2, u3, u4, u5, u6, c1, c2, d1, d2, d3, d4, m1, m2, m3, m4, m5, m6, g1, g2, g3, g4⟩ := hf'
  have l0 := gly_lo x0
  have h0 := gly_hi x0
  k_extra "r enter"
  k_extra "r go"
  exact ⟨_, _, _, _, _, _, rfl, by k_extra "r out", by k_extra "r out", letIn (by k_extra "r out") (by k_extra "r out")⟩
theorem letters_2 (w : World) {need : Led} {X : Addr} {as : List Int} {v : Int} {ds : List Dat} {x0 x1 : Nat} {t : Tok} (hf : FnG w need X as v ds) : GS w 307 5 48 [.ref X, .str ⟨#[x0, x1]⟩ t] need (fun r tl => ∃ (T R : Addr) (v0 v1 : Value) (k n : Nat) (t : Tok), r = .ref T ∧ (T, tup [.ref R, .int (([(adv as (gly x0)), (adv as (gly x1))] : List Int).sum + ([(ker v (gly x0) (gly x1))] : List Int).sum) t] k) ∈ tl ∧ (R, listOf #[v0, v1] n) ∈ tl ∧ LetIn w tl v0 (gly x0) (adv as (gly x0)) (0) ∧ LetIn w tl v1 (gly x1) (adv as (gly x1)) (0 + (adv as (gly x0)) + (ker v (gly x0) (gly x1)))) := by
  k_with "r call" => ((fail_if_success (k_extra "off N10")); (first
    | ((with_reducible refine' r_gs (g2 _ _ ?za ?zb) (fun _ h => hasNd h) ?zd ?zu ?_); (case za => with_reducible assumption); (case zb => with_reducible assumption); (case zd => exact rfl); (case zu => exact rfl); intro r9 tl9 P9 σ9; obtain ⟨t9, e9⟩ := P9; subst e9)
    | ((with_reducible refine' r_gs (g3 _ _ _ _) (fun _ h => hasNd h) ?zd ?zu ?_); (case zd => exact rfl); (case zu => exact rfl); intro r9 tl9 P9 σ9; obtain ⟨t9, e9⟩ := P9; subst e9)
    | ((with_reducible refine' r_gs (glyphs_2 _ ?za) (fun _ h => hasNd h) ?zd ?zu ?_); (case za => with_reducible assumption); (case zd => exact rfl); (case zu => exact rfl); intro r9 tl9 P9 σ9; obtain ⟨R9, t0, t1, n9, e9, m9⟩ := P9; subst e9)
    | ((with_reducible refine' r_gs (beg_2 _ (List.mem_cons_self ..) (List.mem_cons_of_mem _ (List.mem_cons_self ..))) (allC ?za (allC ?zb allN)) ?zd ?zu ?_); (case za => k_extra "r mem"); (case zb => k_extra "r mem"); (case zd => exact rfl); (case zu => exact rfl); intro r9 tl9 P9 σ9; obtain ⟨R9, t0, t1, n9, e9, m9⟩ := P9; subst e9)
    | ((with_reducible refine' r_gs (len_g _ (List.mem_cons_self ..) (List.mem_cons_of_mem _ (List.mem_cons_self ..)) ?ze ?zf) (allC ?za (allC ?zb allN)) ?zd ?zu ?_); (case za => k_extra "r mem"); (case zb => k_extra "r mem"); (case ze => exact ia2); (case zf => exact ia1); (case zd => exact rfl); (case zu => exact rfl); intro r9 tl9 P9 σ9; obtain ⟨t9, e9⟩ := P9; subst e9)
    | ((with_reducible refine' r_newLet ?zd ?zu ?_); (case zd => exact rfl); (case zu => exact rfl); intro X9 D9 u9 u8 u7 σ9)
    | k_extra "r leaf"))
  k_with "r enter" => ((fail_if_success (k_extra "off N10")); (((refine' gsC_of_run ?ho ?hcd ?hb ?hc ?_); (case ho => k_is); (case hcd => k_is); (case hb => (intro s9 X9; first | exact BindsTo.of_eq rfl | exact binds_K X9 rfl (by k_is) rfl rfl rfl)); (case hc => exact rfl); intro L9 V9 c9 σ9)))
  have hf' := hf
  obtain ⟨DX, f1, f2, f3, f4, n, u1, u2, u3, u4, u5, u6, c1, c2, d1, d2, d3, d4, m1, m2, m3, m4, m5, m6, g1, g2, g3, g4⟩ := hf'
  have l0 := gly_lo x0
  have h0 := gly_hi x0
  have l1 := gly_lo x1
  have h1 := gly_hi x1
  k_extra "r enter"
  k_extra "r go"
  exact ⟨_, _, _, _, _, _, _, rfl, by k_extra "r out", by k_extra "r out", letIn (by k_extra "r out") (by k_extra "r out"), letIn (by k_extra "r out") (by k_extra "r out")⟩
theorem letters_3 (w : World) {need : Led} {X : Addr} {as : List Int} {v : Int} {ds : List Dat} {x0 x1 x2 : Nat} {t : Tok} (hf : FnG w need X as v ds) : GS w 307 5 48 [.ref X, .str ⟨#[x0, x1, x2]⟩ t] need (fun r tl => ∃ (T R : Addr) (v0 v1 v2 : Value) (k n : Nat) (t : Tok), r = .ref T ∧ (T, tup [.ref R, .int (([(adv as (gly x0)), (adv as (gly x1)), (adv as (gly x2))] : List Int).sum + ([(ker v (gly x0) (gly x1)), (ker v (gly x1) (gly x2))] : List Int).sum) t] k) ∈ tl ∧ (R, listOf #[v0, v1, v2] n) ∈ tl ∧ LetIn w tl v0 (gly x0) (adv as (gly x0)) (0) ∧ LetIn w tl v1 (gly x1) (adv as (gly x1)) (0 + (adv as (gly x0)) + (ker v (gly x0) (gly x1))) ∧ LetIn w tl v2 (gly x2) (adv as (gly x2)) (0 + (adv as (gly x0)) + (ker v (gly x0) (gly x1)) + (adv as (gly x1)) + (ker v (gly x1) (gly x2)))) := by
  k_with "r call" => ((fail_if_success (k_extra "off N10")); (first
    | ((with_reducible refine' r_gs (g2 _ _ ?za ?zb) (fun _ h => hasNd h) ?zd ?zu ?_); (case za => with_reducible assumption); (case zb => with_reducible assumption); (case zd => exact rfl); (case zu => exact rfl); intro r9 tl9 P9 σ9; obtain ⟨t9, e9⟩ := P9; subst e9)
    | ((with_reducible refine' r_gs (g3 _ _ _ _) (fun _ h => hasNd h) ?zd ?zu ?_); (case zd => exact rfl); (case zu => exact rfl); intro r9 tl9 P9 σ9; obtain ⟨t9, e9⟩ := P9; subst e9)
    | ((with_reducible refine' r_gs (glyphs_3 _ ?za) (fun _ h => hasNd h) ?zd ?zu ?_); (case za => with_reducible assumption); (case zd => exact rfl); (case zu => exact rfl); intro r9 tl9 P9 σ9; obtain ⟨R9, t0, t1, t2, n9, e9, m9⟩ := P9; subst e9)
    | ((with_reducible refine' r_gs (beg_3 _ (List.mem_cons_self ..) (List.mem_cons_of_mem _ (List.mem_cons_self ..))) (allC ?za (allC ?zb allN)) ?zd ?zu ?_); (case za => k_extra "r mem"); (case zb => k_extra "r mem"); (case zd => exact rfl); (case zu => exact rfl); intro r9 tl9 P9 σ9; obtain ⟨R9, t0, t1, t2, n9, e9, m9⟩ := P9; subst e9)
    | ((with_reducible refine' r_gs (len_g _ (List.mem_cons_self ..) (List.mem_cons_of_mem _ (List.mem_cons_self ..)) ?ze ?zf) (allC ?za (allC ?zb allN)) ?zd ?zu ?_); (case za => k_extra "r mem"); (case zb => k_extra "r mem"); (case ze => exact ia3); (case zf => exact ia2); (case zd => exact rfl); (case zu => exact rfl); intro r9 tl9 P9 σ9; obtain ⟨t9, e9⟩ := P9; subst e9)
    | ((with_reducible refine' r_newLet ?zd ?zu ?_); (case zd => exact rfl); (case zu => exact rfl); intro X9 D9 u9 u8 u7 σ9)
    | k_extra "r leaf"))
  k_with "r enter" => ((fail_if_success (k_extra "off N10")); (((refine' gsC_of_run ?ho ?hcd ?hb ?hc ?_); (case ho => k_is); (case hcd => k_is); (case hb => (intro s9 X9; first | exact BindsTo.of_eq rfl | exact binds_K X9 rfl (by k_is) rfl rfl rfl)); (case hc => exact rfl); intro L9 V9 c9 σ9)))
  have hf' := hf
  obtain ⟨DX, f1, f2, f3, f4, n, u1, u2, u3, u4, u5, u6, c1, c2, d1, d2, d3, d4, m1, m2, m3, m4, m5, m6, g1, g2, g3, g4⟩ := hf'
  have l0 := gly_lo x0
  have h0 := gly_hi x0
  have l1 := gly_lo x1
  have h1 := gly_hi x1
  have l2 := gly_lo x2
  have h2 := gly_hi x2
  k_extra "r enter"
  k_extra "r go"
  exact ⟨_, _, _, _, _, _, _, _, rfl, by k_extra "r out", by k_extra "r out", letIn (by k_extra "r out") (by k_extra "r out"), letIn (by k_extra "r out") (by k_extra "r out"), letIn (by k_extra "r out") (by k_extra "r out")⟩
theorem off_N10 : True := by
  k_with "off N10" => skip
  exact trivial
end N10
section N11
inductive All2 {α β : Type} (R : α → β → Prop) : List α → List β → Prop
  | nil : All2 R [] []
  | cons {a : α} {b : β} {as : List α} {bs : List β} : R a b → All2 R as bs → All2 R (a :: as) (b :: bs)
section
variable {α β : Type} {R R' : α → β → Prop} {as : List α} {bs : List β}
theorem All2.mono (h : All2 R as bs) (hm : ∀ a b, R a b → R' a b) : All2 R' as bs := by
  induction h with
  | nil => exact .nil
  | cons h _ ih => exact .cons (hm _ _ h) ih
theorem All2.length (h : All2 R as bs) : as.length = bs.length := by
  induction h with
  | nil => rfl
  | cons _ _ ih => simp [ih]
theorem All2.append {as' : List α} {bs' : List β} (h : All2 R as bs) (h' : All2 R as' bs') : All2 R (as ++ as') (bs ++ bs') := by
  induction h with
  | nil => exact h'
  | cons h _ ih => exact .cons h ih
theorem All2.at (h : All2 R as bs) : ∀ {i : Nat} {a : α} {b : β}, as[i]? = some a → bs[i]? = some b → R a b := by
  induction h with
  | nil => intro i a b h; simp at h
  | cons h _ ih =>
    intro i a' b' h1 h2
    cases i with
    | zero =>
      rw [List.getElem?_cons_zero] at h1 h2
      cases h1; cases h2; exact h
    | succ i => exact ih (by simpa using h1) (by simpa using h2)
theorem All2.snoc {a : α} {b : β} (h : All2 R as bs) (h' : R a b) : All2 R (as ++ [a]) (bs ++ [b]) := h.append (.cons h' .nil)
theorem All2.dats {i : Led} {vs : List Value} {ds : List Dat} (h : All2 (DatIn i) vs ds) : DatAll i vs ds := by
  induction h with
  | nil => exact .nil
  | cons h _ ih => exact .cons h ih
theorem All2.ofDats {i : Led} {vs : List Value} {ds : List Dat} (h : DatAll i vs ds) : All2 (DatIn i) vs ds := by
  induction vs generalizing ds with
  | nil => cases h; exact .nil
  | cons v vs ih => cases h with
    | cons h r => exact .cons h (ih r)
end
def AnchOK (a : Str) : Prop := a = Str.ofString "start" ∨ a = Str.ofString "middle" ∨ a = Str.ofString "end"
theorem shift_g (w : World) {need : Led} {a : Str} {len : Int} {t u : Tok} (h : AnchOK a) : GS w 297 4 32 [.int len t, .str a u] need (fun r tl => RatIn tl r (shiftQ a len)) := by
  rcases h with rfl | rfl | rfl
  · exact shift_start w
  · exact shift_middle w
  · exact shift_end w
theorem shiftB {a : Str} {len : Int} : Bd 2 (shiftQ a len) := by
  unfold shiftQ
  split
  · exact ⟨by decide⟩
  · split
    · refine ⟨?_⟩
      rw [Rat.den_divInt, if_neg (by decide)]
      exact Nat.lt_of_le_of_lt (Nat.div_le_self _ _) (by decide)
    · exact Bd.int.le (by decide)
def kerns (v : Int) : List Int → List Int
  | a :: b :: r => ker v a b :: kerns v (b :: r)
  | _ => []
def lenQ (as : List Int) (v : Int) (gs : List Int) : Int := (gs.map (adv as)).sum + (kerns v gs).sum
def letsFrom (as : List Int) (v : Int) : Int → List Int → List (Int × Int × Int)
  | _, [] => []
  | b, [g] => [(g, adv as g, b)]
  | b, g :: h :: r => (g, adv as g, b) :: letsFrom as v (b + adv as g + ker v g h) (h :: r)
def glys (xs : List Nat) : List Int := xs.map fun (x : Nat) => gly (x : Int)
theorem letters_g (w : World) {need : Led} {X : Addr} {as : List Int} {v : Int} {ds : List Dat} {xs : List Nat} {t : Tok} (hx : xs.length ≤ 3) (hf : FnG w need X as v ds) : GS w 307 5 48 [.ref X, .str ⟨xs.toArray⟩ t] need (fun r tl => ∃ (T R : Addr) (vs : List Value) (k n : Nat) (t : Tok), r = .ref T ∧ (T, tup [.ref R, .int (lenQ as v (glys xs)) t] k) ∈ tl ∧ (R, listOf vs.toArray n) ∈ tl ∧ All2 (fun u d => LetIn w tl u d.1 d.2.1 d.2.2) vs (letsFrom as v 0 (glys xs))) := by
  match xs, hx with
  | [], _ => exact (letters_0 w hf).mono (fun _ h => h) fun r tl ⟨T, R, k, n, t, e, m1, m2, _⟩ => ⟨T, R, [], k, n, t, e, m1, m2, .nil⟩
  | [x0], _ => exact (letters_1 w hf).mono (fun _ h => h) fun r tl ⟨T, R, v0, k, n, t, e, m1, m2, l0⟩ => ⟨T, R, [v0], k, n, t, e, m1, m2, .cons l0 .nil⟩
  | [x0, x1], _ => exact (letters_2 w hf).mono (fun _ h => h) fun r tl ⟨T, R, v0, v1, k, n, t, e, m1, m2, l0, l1⟩ => ⟨T, R, [v0, v1], k, n, t, e, m1, m2, .cons l0 (.cons l1 .nil)⟩
  | [x0, x1, x2], _ => exact (letters_3 w hf).mono (fun _ h => h) fun r tl ⟨T, R, v0, v1, v2, k, n, t, e, m1, m2, l0, l1, l2⟩ => ⟨T, R, [v0, v1, v2], k, n, t, e, m1, m2, .cons l0 (.cons l1 (.cons l2 .nil))⟩
structure Six where
  x0 : Int
  y0 : Int
  x1 : Int
  y1 : Int
  x2 : Int
  y2 : Int
def six (ds : List Dat) (g : Int) : Six := match ds[g.toNat]? with
  | some (.list [.tuple [.int x0, .int y0], .tuple [.int x1, .int y1], .tuple [.int x2, .int y2]]) => ⟨x0, y0, x1, y1, x2, y2⟩
  | _ => ⟨0, 0, 0, 0, 0, 0⟩
def DsOK (ds : List Dat) : Prop := ∀ g : Int, 0 ≤ g → g < 4 → ds[g.toNat]? = some (.list [ptD (six ds g).x0 (six ds g).y0, ptD (six ds g).x1 (six ds g).y1, ptD (six ds g).x2 (six ds g).y2])
structure LD where
  e : Rat
  o : Six
inductive LineIn (w : World) (s f : Rat) (l : Led) (v : Value) (d : LD) : Prop
  | mk (T : Addr) (sv mv : Value) (k : Nat) (h0 : v = .ref T) (h1 : (T, tup [sv, mv] k) ∈ l) (h2 : DatIn l sv (segD d.o.x0 d.o.y0 d.o.x1 d.o.y1 d.o.x2 d.o.y2)) (h3 : MatIn w l mv s d.e f) : LineIn w s f l v d
theorem MatIn.mono {w : World} {i j : Led} {v : Value} {s e f : Rat} (h : MatIn w i v s e f) (hs : ∀ p ∈ i, p ∈ j) : MatIn w j v s e f := by
  obtain ⟨X, D, A, B, C, G, E, F, n, ka, kb, kc, kg, ke, kf, u1, u2, u3, u4, u5, u6, a1, a2, b1, b2, c1, c2, g1, g2, e1, e2, f1, f2, rfl, m1, m2, m3, m4, m5, m6, m7, m8⟩ := h
  exact ⟨X, D, A, B, C, G, E, F, n, ka, kb, kc, kg, ke, kf, u1, u2, u3, u4, u5, u6, a1, a2, b1, b2, c1, c2, g1, g2, e1, e2, f1, f2, rfl, hs _ m1, hs _ m2, hs _ m3, hs _ m4, hs _ m5, hs _ m6, hs _ m7, hs _ m8⟩
theorem LineIn.mono (w : World) (s f : Rat) : ∀ l l' v d, (∀ p ∈ l, p ∈ l') → LineIn w s f l v d → LineIn w s f l' v d := fun _ _ _ _ hs ⟨T, sv, mv, k, e, m, h1, h2⟩ => ⟨T, sv, mv, k, e, hs _ m, h1.mono hs, h2.mono hs⟩
def linesQ (ds : List Dat) (b s : Rat) (ls : List (Int × Int × Int)) : List LD := ls.map fun l => ⟨b + s * (l.2.2 : Rat), six ds l.1⟩
theorem glys_ok (xs : List Nat) : ∀ g ∈ glys xs, 0 ≤ g ∧ g < 4 := fun g hg => by
  obtain ⟨x, _, rfl⟩ := List.mem_map.mp hg
  exact ⟨gly_lo _, gly_hi _⟩
theorem letsFrom_length {as : List Int} {v : Int} : ∀ {gs : List Int} {b : Int}, (letsFrom as v b gs).length = gs.length
  | [], _ => rfl
  | [g], _ => rfl
  | g :: g' :: r, b => by
    show (letsFrom as v _ (g' :: r)).length + 1 = _
    rw [letsFrom_length]; rfl
theorem fnG_out {w : World} {led : Led} {f4 : Addr} {ds : List Dat} (hds : DsOK ds) (g4 : ∀ g t x0 y0 x1 y1 x2 y2, 0 ≤ g → g < 4 → ds[g.toNat]? = some (.list [ptD x0 y0, ptD x1 y1, ptD x2 y2]) → GS w f4 4 32 [.int g t] led (fun r tl => OutIn w tl r x0 y0 x1 y1 x2 y2)) :
    ∀ g t, 0 ≤ g → g < 4 → GS w f4 4 32 [.int g t] led (fun r tl => OutIn w tl r (six ds g).x0 (six ds g).y0 (six ds g).x1 (six ds g).y1 (six ds g).x2 (six ds g).y2) := fun g t h0 h1 => g4 g t _ _ _ _ _ _ h0 h1 (hds g h0 h1)
theorem sub3 {a b c : Addr × Obj} {t l : Led} (h1 : a ∈ l) (h2 : b ∈ l) (h3 : c ∈ l) (h : ∀ p ∈ t, p ∈ l) : ∀ p ∈ [a, b, c] ++ t, p ∈ l := List.forall_mem_append.mpr ⟨allC h1 (allC h2 (allC h3 allN)), h⟩
theorem subR {t n l : Led} (h : ∀ p ∈ t, p ∈ l) : ∀ p ∈ t, p ∈ n ++ l := fun p hp => List.mem_append_right _ (h p hp)
theorem ratHd {A : Addr} {q : Rat} {t u : Tok} {k : Nat} {l : Led} : RatIn ((A, tup [.int q.num t, .int q.den u] k) :: l) (.ref A) q := ⟨A, t, u, k, rfl, .head _⟩
theorem ratTl {v : Value} {q : Rat} {p : Addr × Obj} {l : Led} (h : RatIn l v q) : RatIn (p :: l) v q := let ⟨A, t, u, k, e, m⟩ := h; ⟨A, t, u, k, e, .tail _ m⟩
theorem lineI {w : World} {s f e : Rat} {l : Led} {T : Addr} {sv mv : Value} {k : Nat} {o : Six} (m : (T, tup [sv, mv] k) ∈ l) (h1 : DatIn l sv (segD o.x0 o.y0 o.x1 o.y1 o.x2 o.y2)) (h2 : MatIn w l mv s e f) : LineIn w s f l (.ref T) ⟨e, o⟩ := ⟨T, sv, mv, k, rfl, m, h1, h2⟩
theorem datMono {i j : Led} {v : Value} {d : Dat} (h : DatIn i v d) (hs : ∀ p ∈ i, p ∈ j) : DatIn j v d := h.mono hs
theorem datL {i : Led} {R : Addr} {vs : List Value} {ds : List Dat} {n : Nat} (hm : (R, listOf vs.toArray n) ∈ i) (h : DatAll i vs ds) : DatIn i (.ref R) (.list ds) := .list hm h
end N11
section P1
abbrev IntsIn (vs : List Value) (ns : List Int) : Prop := All2 (fun v n => ∃ t, v = .int n t) vs ns
def lawGo (as : List Int) (v : Int) : Int → Int → List Int → List Int × Int
  | k, _, [] => ([], k)
  | k, p, g :: r => ((k + ker v p g) :: (lawGo as v (k + ker v p g + adv as g) g r).1, (lawGo as v (k + ker v p g + adv as g) g r).2)
def lawAll (as : List Int) (v : Int) : List Int → List Int × Int
  | [] => ([], 0)
  | g :: r => (0 :: (lawGo as v (0 + adv as g) g r).1, (lawGo as v (0 + adv as g) g r).2)
theorem ker_look (v l r : Int) : (PySem.Spec.lookup (encTuple PyData.int [l, r]) (KerD v)).getD (PySem.PyData.int 0) = PySem.PyData.int (ker v l r) := by
  simp only [KerD, PySem.Spec.lookup, same_encTuple PyProof.V.same_int, ker]
  have e1 : (([1, 2] : List Int) = [l, r]) = (l = 1 ∧ r = 2) := by simp [eq_comm]
  have e2 : (([2, 2] : List Int) = [l, r]) = (l = 2 ∧ r = 2) := by simp [eq_comm]
  have e3 : (([0, 1] : List Int) = [l, r]) = (l = 0 ∧ r = 1) := by simp [eq_comm]
  simp only [e1, e2, e3, decide_eq_true_eq]
  split
  · rfl
  · split
    · rfl
    · split <;> rfl
theorem adv_at {as : List Int} {avs : List Value} {g : Int} (hI : IntsIn avs as) (hl : as.length = 4) (h0 : 0 ≤ g) (h4 : g < 4) : ∃ t, avs.toArray[g.toNat]? = some (.int (adv as g) t) := by
  have hlt : g.toNat < as.length := by omega
  have hlt' : g.toNat < avs.length := by rw [hI.length]; exact hlt
  obtain ⟨t, e⟩ := hI.at (List.getElem?_eq_getElem hlt') (List.getElem?_eq_getElem hlt)
  refine ⟨t, ?_⟩
  rw [List.getElem?_toArray, List.getElem?_eq_getElem hlt', e]
  unfold adv
  rw [List.getD_eq_getElem?_getD, List.getElem?_eq_getElem hlt]; rfl
theorem kget {w : World} {A : Around} {E : Value → Shared → Prop} {s : Shared} {h₀ : Heap} {L K a : Addr} {news need : Led} {v l r : Int} {t1 t2 t3 : Tok} {k : Nat} {Q : Value → Shared → Prop} (N : News h₀ L s.heap news) (T : TupTab (intKind PySem.Challenge.rw_on0243_01.row.prog w) PyData.int need K (KerD v)) (hs : ∀ p ∈ need, p ∈ news) (hka : (a, tup [.int l t1, .int r t2] k) ∈ news) (hu : A.units + 1 < cLine)
    (h : ∀ t tk, Q (.int (ker v l r) t) { s with toks := tk }) : wpAny (model PySem.Challenge.rw_on0243_01.row.prog w) A (call (.builtin "dict.get") [.ref K, .ref a, .int 0 t3]) Q E s := by
  refine call_get2_tupTab_eq (knd := intKind _ _) (enc := PyData.int) PyProof.V.same_int hu N (TupTab_mono T hs) hka ⟨rfl, _, _, rfl, .cons (by simp [intKind, Value.isInt]) (.cons (by simp [intKind, Value.isInt]) .nil)⟩ (.int _ _) (ker_look v l r) fun x hx => ?_
  obtain ⟨t, rfl⟩ := PyProof.V.Flat.int_inv hx
  exact h _ _
theorem kget_meth {w : World} {A : Around} {E : Value → Shared → Prop} {s : Shared} {h₀ : Heap} {L K : Addr} {news need : Led} {v : Int} {pl : Sem Bool} {Q : Value × List Value → Shared → Prop} (N : News h₀ L s.heap news) (T : TupTab (intKind PySem.Challenge.rw_on0243_01.row.prog w) PyData.int need K (KerD v)) (hs : ∀ p ∈ need, p ∈ news)
    (h : Q (.builtin "dict.get", [.ref K]) s) : wpAny (model PySem.Challenge.rw_on0243_01.row.prog w) A (getMethod (.ref K) "get" pl) Q E s := getMethod_tupTab_get N (TupTab_mono T hs) h
end P1
section R11
section
variable {V : Vis} {c : Ctx V} {σ : St}
theorem r_aTupI {n1 n2 : Str} {p1 p2 tp : Pos} {tk : Nat} {T : Addr} {a b : Value} {Q : Unit → St → Prop} {s : Shared} (I : Inv c σ s) (hT : IsTup s.heap T #[a, b]) (h : Run c σ (storeName V.env n1 a) (KPut c V.env n2 b Q)) :
    wpAny (model rprog V.w) c.A (assign (.Tuple [.Name n1 p1, .Name n2 p2] tk tp) V.env (.ref T)) (fun r s' => ∃ σ', Inv c σ' s' ∧ Q r σ') c.E s := by
  obtain ⟨ce, I⟩ := I
  refine unpackN_ (items := #[a, b]) I.F I.N hT rfl rfl rfl fun h' F' N' => ?_
  exact (r_aC (r_aName (h.mono fun _ _ h => r_aC (r_aName (h.mono fun _ _ h => r_aN h)))) : Run c σ (assignInOrder ((assignEach [.Name n1 p1, .Name n2 p2] V.env).map (·.2)) [a, b]) Q) _ (Inv.same I F' N')
abbrev KEnu (V : Vis) (n1 n2 : Str) (body : List Stmt) (Q : Flow → St → Prop) : Value → St → Prop := fun v σ => ∃ R vs n, v = .ref R ∧ (R, listOf (List.toArray vs) n) ∈ σ.fl ++ V.nd ∧ ForE V n1 n2 body (R, listOf vs.toArray n) Q 0 vs σ
theorem k_enu {n1 n2 : Str} {body : List Stmt} {Q : Flow → St → Prop} {R : Addr} {vs : List Value} {n : Nat} (hm : (R, listOf vs.toArray n) ∈ σ.fl ++ V.nd) (h : ForE V n1 n2 body (R, listOf vs.toArray n) Q 0 vs σ) : KEnu V n1 n2 body Q (.ref R) σ := ⟨R, vs, n, rfl, hm, h⟩
theorem r_forE {n1 n2 y : Str} {p1 p2 p tp pos cpos : Pos} {tk : Nat} {e : PySem.Expr} {body : List Stmt} {Q : Flow → St → Prop} (hx : (isL V n1 && isL V n2 && isG V y && noStar e) = true) (hn : nsIn (hd.heap_39 V.w.params) mainGlobals y = some none) (hb : bootBuiltins y = some (.type "enumerate")) (hm : (y == "__name__") = false) (h : Run c σ (eval e V.env) (KEnu V n1 n2 body Q)) :
    Run c σ (exec (.For (.Tuple [.Name n1 p1, .Name n2 p2] tk tp) (.Call (.Name y p) [e] [] cpos) body [] pos) V.env) Q := fun s I => by
  simp only [Bool.and_eq_true] at hx
  obtain ⟨⟨⟨h1, h1'⟩, h2⟩, h3⟩ := hx
  have hV : V.cp.isEmpty = true := by
    simp only [isL, Bool.and_eq_true] at h1
    exact h1.1.1
  have e0 := env_top hV
  have hL : V.env.locals = V.L := by rw [e0]
  have key : wpAny (model rprog V.w) c.A (eval (.Call (.Name y p) [e] [] cpos) V.env) (fun xv s₁ => wpAny (model rprog V.w) c.A (pyIter xv) (fun it s₂ => TurnsAt rprog V.w c.A c.g V.env (.Tuple [.Name n1 p1, .Name n2 p2] tk tp) body (fun f s' => ∃ σ', Inv c σ' s' ∧ Q f σ') c.E it s₂) c.E s₁) c.E s := by
    have st : Run c σ (eval (.Name y p) V.env) (fun f σ₁ => f = .type "enumerate" ∧ σ₁ = σ) := r_blt h2 hn hb hm ⟨rfl, rfl⟩
    refine Call_ (st.on I fun f σ₁ s₁ I₁ h₁ => ?_) eval_callN
    obtain ⟨rfl, rfl⟩ := h₁
    refine Pv.callWith_type1 (args_cons (h.on I₁ fun v σ₂ s₂ I₂ h₂ => args_nil ?_) (star_of h3)) (star_of h3) rfl
    obtain ⟨R, vs, n, rfl, hm', h₂⟩ := h₂
    obtain ⟨ce₂, I₂⟩ := I₂
    have hmem : (R, listOf vs.toArray n) ∈ ledOf c ce₂ σ₂ := List.mem_append_right _ (List.mem_append_right _ (List.mem_append_right _ hm'))
    refine ktu_enum (m₀ := σ₂.m) (news := ledOf c ce₂ σ₂) rfl (hL ▸ I₂.F) (hL ▸ I₂.N) hmem rfl rfl rfl fun A hA => ?_
    refine items_rest (c := c) (T := fun xs σ => ∃ i us, xs = enumItems i us ∧ ForE V n1 n2 body (R, listOf vs.toArray n) Q i us σ) s₂ I₂.R (by simp) (fun _ _ _ _ => trivial) ?_ ?_ hL _ σ₂ ce₂ I₂.st (fun p hp b hb => ?_) ⟨0, vs, rfl, h₂⟩
    · rintro σ ⟨i, us, e, h⟩
      cases us with
      | nil => exact h
      | cons => cases e
    · rintro a r σ ⟨i, us, e, h⟩ v c' s' ha _ _ I'
      cases us with
      | nil => cases e
      | cons u us =>
        cases e
        obtain ⟨T, t, rfl, hT⟩ := ha
        refine wpAny_mono (r_aTupI I' hT (r_store h1 (r_store h1' (Q := fun _ σ₂ => Run c' σ₂ (execs body V.env) (TurnE (V := V) (R, listOf vs.toArray n) (ForE V n1 n2 body (R, listOf vs.toArray n) Q (i + 1) us) Q)) (h c' t)))) (fun _ s₂ ⟨σ₂, I₂, h₂⟩ => ?_) fun _ _ e => e
        refine Run.on h₂ I₂ fun f σ₃ s₃ I₃ h₃ => ⟨σ₃, I₃, ?_⟩
        cases f with
        | next => exact ⟨h₃.1, i + 1, us, rfl, h₃.2⟩
        | cont => exact ⟨h₃.1, i + 1, us, rfl, h₃.2⟩
        | _ => exact h₃
    · have hl := hA p hp
      have : b = A + 1 ∨ b = A := by simpa using hb
      rcases this with rfl | rfl
      · exact Nat.ne_of_lt (Nat.lt_succ_of_lt hl)
      · exact Nat.ne_of_lt hl
  have hcp := List.isEmpty_iff.mp hV
  have I0 := I
  obtain ⟨ce, I⟩ := I
  exact For_turns (h₀ := c.g) (m := σ.m) (hL ▸ I.F) key (fun _ => rfl) (by rw [e0]; exact c.P hcp)
section
variable {n1 n2 : Str} {body : List Stmt} {src : Addr × Obj} {Q : Flow → St → Prop} {i j : Nat} {v : Value} {vs : List Value}
theorem k_forEN (h : Q .next σ) : ForE V n1 n2 body src Q i [] σ := h
theorem k_forEC (e : i + 1 = j) (h : ∀ (c : Ctx V) (t : Tok), let σ' := (σ.put n1 (.int (i : Int) t)).put n2 v; Run c σ' (execs body V.env) (TurnE (V := V) src (ForE V n1 n2 body src Q j vs) Q)) : ForE V n1 n2 body src Q i (v :: vs) σ := by subst e; exact h
end
theorem incN0 : 0 + 1 = 1 := rfl
theorem incN1 : 1 + 1 = 2 := rfl
theorem incN2 : 2 + 1 = 3 := rfl
theorem r_kmeth {K : Addr} {need : Led} {v : Int} {pl : Sem Bool} {Q : Value × List Value → St → Prop} (T : TupTab (intKind rprog V.w) PyData.int need K (KerD v)) (hs : ∀ p ∈ need, Has V σ p) (h : Q (.builtin "dict.get", [.ref K]) σ) : Run c σ (getMethod (.ref K) "get" pl) Q := fun s I => by
  obtain ⟨ce, I⟩ := I
  exact kget_meth I.N T (fun p hp => I.news (hs p hp)) ⟨σ, ⟨ce, I⟩, h⟩
theorem r_kget {K a : Addr} {need : Led} {v l r : Int} {t1 t2 t3 : Tok} {k : Nat} {Q : Value → St → Prop} (T : TupTab (intKind rprog V.w) PyData.int need K (KerD v)) (hs : ∀ p ∈ need, Has V σ p) (ha : Has V σ (a, tup [.int l t1, .int r t2] k)) (hu : Nat.ble 3 V.U = true) (h : ∀ t, Q (.int (ker v l r) t) σ) : Run c σ (call (.builtin "dict.get") [.ref K, .ref a, .int 0 t3]) Q := fun s I => by
  have h1 := c.hu
  have h2 := Nat.le_of_ble_eq_true hu
  obtain ⟨ce, I⟩ := I
  exact kget I.N T (fun p hp => I.news (hs p hp)) (I.news ha) (by show c.un + 1 < cLine; omega) fun t tk => ⟨σ, Inv.toks ⟨ce, I⟩, h t⟩
theorem r_itemAt {value slice : PySem.Expr} {t : Addr} {vs : List Value} {i : Int} {u : Tok} {n : Nat} {x : Value} {Q : Value → St → Prop} (hm : Has V σ (t, listOf vs.toArray n)) (h0 : 0 ≤ i) (h1 : i < 1000000) (hx : vs[i.toNat]? = some x) (hp : plainS slice = true) (h : Q x σ) : Run c σ (subscriptTail value slice (.ref t) (.int i u)) Q := r_itemL hm h0 h1 hx h hp
end
end R11
section R12
-- texts and dicts of texts
theorem strK (prog : Program) (w : World) (k : Str) (t : Tok) : (PySem.strKind prog w).is k (.str k t) = true := by
  show Value.isStrOf k (.str k t) = true
  simp [Value.isStrOf]
theorem map1 {l : List (Str × Tok)} {a : Str} (h : l.map (fun x => x.1) = [a]) : ∃ t, l = [(a, t)] := by
  match l, h with
  | [(x, t)], h => cases h; exact ⟨t, rfl⟩
theorem map2 {l : List (Str × Tok)} {a b : Str} (h : l.map (fun x => x.1) = [a, b]) : ∃ t u, l = [(a, t), (b, u)] := by
  match l, h with
  | [(x, t), (y, u)], h => cases h; exact ⟨t, u, rfl⟩
theorem map3 {l : List (Str × Tok)} {a b d : Str} (h : l.map (fun x => x.1) = [a, b, d]) : ∃ t u v, l = [(a, t), (b, u), (d, v)] := by
  match l, h with
  | [(x, t), (y, u), (z, v)], h => cases h; exact ⟨t, u, v, rfl⟩
section
variable {V : Vis} {c : Ctx V} {σ : St}
theorem r_mSplit {x : Str} {t : Tok} {pl : Sem Bool} {Q : Value × List Value → St → Prop} (h : Q (.builtin "str.split", [.str x t]) σ) : Run c σ (getMethod (.str x t) "split" pl) Q := fun _ I => GM.split ⟨σ, I, h⟩
theorem r_mStrip {x : Str} {t : Tok} {pl : Sem Bool} {Q : Value × List Value → St → Prop} (h : Q (.builtin "str.strip", [.str x t]) σ) : Run c σ (getMethod (.str x t) "strip" pl) Q := fun _ I => GM.strip ⟨σ, I, h⟩
theorem r_mJoin {x : Str} {t : Tok} {pl : Sem Bool} {Q : Value × List Value → St → Prop} (h : Q (.builtin "str.join", [.str x t]) σ) : Run c σ (getMethod (.str x t) "join" pl) Q := fun _ I => GM.join ⟨σ, I, h⟩
theorem r_split {x y : Str} {t u : Tok} {Q : Value → St → Prop} (hx : x.length ≤ 1000) (hy : (y.length == 0) = false) (h : ∀ D (l : List (Str × Tok)), l.map (fun x => x.1) = Txt.split x y → Q (.ref D) (σ.imm D (listOf (strValues l).toArray 0))) : Run c σ (call (.builtin "str.split") [.str x t, .str y u]) Q := fun s I => by
  obtain ⟨ce, I⟩ := I
  exact KSpl.split1 I.F I.N hy (fun D l h' k e _ F' N' hl => ⟨_, I.imm (h' := h') (k := k) F' N' fun p hp => Nat.ne_of_lt (hl p hp), h D l e⟩) (by rw [sizeLine_eq]; omega)
theorem r_split0 {x : Str} {t : Tok} {Q : Value → St → Prop} (hx : x.length ≤ 1000) (h : ∀ D (l : List (Str × Tok)), l.map (fun x => x.1) = Txt.words x → Q (.ref D) (σ.imm D (listOf (strValues l).toArray 0))) : Run c σ (call (.builtin "str.split") [.str x t]) Q := fun s I => by
  obtain ⟨ce, I⟩ := I
  exact KSpl.split0 I.F I.N (fun D l h' k e _ F' N' hl => ⟨_, I.imm (h' := h') (k := k) F' N' fun p hp => Nat.ne_of_lt (hl p hp), h D l e⟩) (by rw [sizeLine_eq]; omega)
theorem r_splitA {x y a : Str} {t u : Tok} {Q : Value → St → Prop} (e : Txt.split x y = [a]) (hx : x.length ≤ 1000) (hy : (y.length == 0) = false) (h : ∀ D t1, let σ' := σ.imm D (listOf [.str a t1].toArray 0); Q (.ref D) σ') : Run c σ (call (.builtin "str.split") [.str x t, .str y u]) Q := r_split hx hy fun D l h' => by
  obtain ⟨t1, rfl⟩ := map1 (h'.trans e); exact h D t1
theorem r_splitB {x y a b : Str} {t u : Tok} {Q : Value → St → Prop} (e : Txt.split x y = [a, b]) (hx : x.length ≤ 1000) (hy : (y.length == 0) = false) (h : ∀ D t1 t2, let σ' := σ.imm D (listOf [.str a t1, .str b t2].toArray 0); Q (.ref D) σ') : Run c σ (call (.builtin "str.split") [.str x t, .str y u]) Q := r_split hx hy fun D l h' => by
  obtain ⟨t1, t2, rfl⟩ := map2 (h'.trans e); exact h D t1 t2
theorem r_splitC {x y a b d : Str} {t u : Tok} {Q : Value → St → Prop} (e : Txt.split x y = [a, b, d]) (hx : x.length ≤ 1000) (hy : (y.length == 0) = false) (h : ∀ D t1 t2 t3, let σ' := σ.imm D (listOf [.str a t1, .str b t2, .str d t3].toArray 0); Q (.ref D) σ') : Run c σ (call (.builtin "str.split") [.str x t, .str y u]) Q := r_split hx hy fun D l h' => by
  obtain ⟨t1, t2, t3, rfl⟩ := map3 (h'.trans e); exact h D t1 t2 t3
theorem r_strip {x y z : Str} {t u : Tok} {Q : Value → St → Prop} (e : Txt.stripChars x z = y) (hx : x.length ≤ 1000) (h : ∀ t, Q (.str y t) σ) : Run c σ (call (.builtin "str.strip") [.str x t, .str z u]) Q := fun s I => KXw.stripChars e (by rw [sizeLine_eq]; omega) fun t' k => ⟨σ, I.toks, h t'⟩
theorem r_joinW {x : Str} {t : Tok} {D : Addr} {l : List (Str × Tok)} {ws : List Str} {n : Nat} {Q : Value → St → Prop} (hm : Has V σ (D, listOf (strValues l).toArray n)) (e : l.map (fun x => x.1) = ws) (hx : Nat.ble x.length 16 = true) (hl : Nat.ble ((ws.map fun x => x.length).sum + ws.length) 10000 = true) (h : ∀ t, Q (.str (Txt.join x ws) t) σ) : Run c σ (call (.builtin "str.join") [.str x t, .ref D]) Q := fun s I => by
  obtain ⟨ce, I⟩ := I
  have hl := Nat.le_of_ble_eq_true hl
  have hs : ∀ l : List (Str × Tok), StrsAre (strValues l) (l.map (fun x => x.1)) := fun l => by
    induction l with
    | nil => exact .nil
    | cons p r ih => exact .cons _ _ ih
  exact join_listW ⟨_, hm.get I, rfl, n, rfl⟩ (e ▸ hs l) (Nat.le_of_ble_eq_true hx) (Nat.le_trans hl (by decide)) fun t' k => ⟨σ, Inv.toks ⟨ce, I⟩, h t'⟩
theorem r_inD {d : Addr} {o : Obj} {kvs : List (Str × Value)} {k : Str} {t : Tok} {Q : Value → St → Prop} (hm : Has V σ (d, o)) (hD : o.IsDictOf (PySem.strKind rprog V.w) kvs) (lo : (d == sysModules) = false) (h : Q (.bool (valueAt kvs k).isSome) σ) : Run c σ (compareOp .In (.str k t) (.ref d)) Q := fun s I => by
  obtain ⟨ce, I⟩ := I
  exact kda_in I.N (I.news hm) hD lo (strK _ _ k t) _ rfl ⟨σ, Inv.toks ⟨ce, I⟩, h⟩
theorem r_itemD {value slice : PySem.Expr} {d : Addr} {o : Obj} {kvs : List (Str × Value)} {k : Str} {t : Tok} {Q : Value → St → Prop} (hm : Has V σ (d, o)) (hD : o.IsDictOf (PySem.strKind rprog V.w) kvs) (hv : (valueAt kvs k).isSome = true)
    (hs : subscripted slice false (.ref d) (.str k t) = operate [.ref d, .str k t] (getItem (.ref d) (.str k t))) (hl : ∀ r, letTemporaryGo value (.ref d) r = pure ()) (h : Q ((valueAt kvs k).getD .none) σ) : Run c σ (subscriptTail value slice (.ref d) (.str k t)) Q := fun s I => by
  obtain ⟨ce, I⟩ := I
  obtain ⟨v, e⟩ := Option.isSome_iff_exists.mp hv
  rw [e] at h
  exact kda_item I.N (I.news hm) hD (strK _ _ k t) e ⟨σ, Inv.toks ⟨ce, I⟩, h⟩ hs hl
theorem r_mGet {d : Addr} {o : Obj} {kvs : List (Str × Value)} {pl : Sem Bool} {Q : Value × List Value → St → Prop} (hm : Has V σ (d, o)) (hD : o.IsDictOf (PySem.strKind rprog V.w) kvs) (h : Q (.builtin "dict.get", [.ref d]) σ) : Run c σ (getMethod (.ref d) "get" pl) Q := fun s I => by
  obtain ⟨ce, I⟩ := I
  exact kdg_method I.N (I.news hm) hD ⟨σ, ⟨ce, I⟩, h⟩
theorem r_getD {d : Addr} {o : Obj} {kvs : List (Str × Value)} {k : Str} {t : Tok} {Q : Value → St → Prop} (hm : Has V σ (d, o)) (hD : o.IsDictOf (PySem.strKind rprog V.w) kvs) (lo : (d == sysModules) = false) (h : Q ((valueAt kvs k).getD .none) σ) : Run c σ (call (.builtin "dict.get") [.ref d, .str k t]) Q := fun s I => by
  obtain ⟨ce, I⟩ := I
  exact kdg_get1 I.N (I.news hm) hD lo (strK _ _ k t) _ rfl ⟨σ, Inv.toks ⟨ce, I⟩, h⟩
end
end R12
section R13
section
variable {V : Vis} {c : Ctx V} {σ : St}
theorem r_gsK {f : Addr} {D U : Nat} {vs : List Value} {need : Led} {Post : Value → Led → Prop} {Q : Value → St → Prop} {x : Str} {a : Addr} (hx : V.cl.lookup x = some a) (hf : ¬ (V.fenv.kindOf x = some .free)) (S : ∀ o, o.data = .cell (σ.cm x) → GS V.w f D U vs ((a, o) :: need) Post) (hn : ∀ p ∈ need, Has V σ p) (hd : Nat.ble D V.D = true) (hu : Nat.ble U V.U = true)
    (h : ∀ r tl, Post r tl → let σ' := σ.add tl; Q r σ') : Run c σ (call (.ref f) vs) Q := fun s I => by
  obtain ⟨ce, I⟩ := I
  have h1 := c.hd
  have h2 := c.hu
  have h3 := Nat.le_of_ble_eq_true hd
  have h4 := Nat.le_of_ble_eq_true hu
  obtain ⟨o, ho, hdat⟩ := I.C x a hx
  rw [if_neg hf] at ho
  have hm : (a, o) ∈ ledOf c ce σ := List.mem_append_right _ (List.mem_append_left _ ho)
  refine gs_use (S o hdat) c.B I.F c.BO I.N (fun p hp => ?_) c.hk (by omega) (by omega) fun r tl h' tk' F' N' O P => ⟨_, I.add F' N' O, h r tl P⟩
  rcases List.mem_cons.mp hp with rfl | hp
  · exact loose_led (env := V.fenv) c.B I.F I.N rfl _ hm
  · exact I.loose (hn p hp)
theorem lam_inv {P f : Addr} {oP oP' fo : Obj} {cds rest mt' ce : Led} {s : Shared} {h' : Heap} {tk : Nat} (I : InvC c σ ce s) (u : Rep P oP oP' σ.mt mt') (hrest : rest = c.hid ++ (ce ++ (σ.mt.filter (fun p => !decide (p.1 = P)) ++ (σ.fl ++ V.nd)))) (F' : Fr c.g V.L h' σ.m) (N' : News c.g V.L h' ((f, fo) :: (P, oP') :: (cds ++ rest)))
    (hO : ∀ p ∈ cds, LCg.Off1 p.1 ((P, oP) :: rest)) (hf : LCg.Off1 f ((P, oP) :: (cds ++ rest))) : Inv c ⟨σ.m, σ.cm, mt', [(f, fo)] :: cds :: σ.im⟩ { s with heap := h', toks := tk } := by
  have key : ∀ p ∈ c.hid ++ (ce ++ mt'), p.1 = P ∨ p ∈ rest := fun p hp => by
    subst hrest
    simp only [List.mem_append] at hp ⊢
    rcases hp with h | h | h
    · simp [h]
    · simp [h]
    · rcases u.of (I.mtnd) p h with rfl | ⟨h1, h2⟩
      · exact .inl rfl
      · exact .inr (.inr (.inr (.inl (List.mem_filter.mpr ⟨h1, by simpa using h2⟩))))
  have key2 : ∀ p ∈ σ.fl ++ V.nd, p ∈ rest := fun p hp => by
    subst hrest
    exact List.mem_append_right _ (List.mem_append_right _ (List.mem_append_right _ hp))
  have offn : ∀ q ∈ (f, fo) :: cds, ∀ p, (p.1 = P ∨ p ∈ rest) → p.1 ≠ q.1 := fun q hq p hp => by
    rcases List.mem_cons.mp hq with rfl | hq
    · rcases hp with e | hp
      · rw [e]; exact off1_mem hf (P, oP) (.head _)
      · exact off1_mem hf p (.tail _ (List.mem_append_right _ hp))
    · rcases hp with e | hp
      · rw [e]; exact off1_mem (hO q hq) (P, oP) (.head _)
      · exact off1_mem (hO q hq) p (.tail _ hp)
  have efl : ∀ p, p ∈ (⟨σ.m, σ.cm, mt', [(f, fo)] :: cds :: σ.im⟩ : St).fl → p ∈ (f, fo) :: cds ∨ p ∈ σ.fl := fun p hp => by
    have hp : p ∈ (f, fo) :: (cds ++ σ.im.flatten) := hp
    rcases List.mem_cons.mp hp with rfl | hp
    · exact .inl (.head _)
    · rcases List.mem_append.mp hp with hp | hp
      · exact .inl (.tail _ hp)
      · exact .inr hp
  refine ⟨ce, F', fun p hp => ?_, I.C, ⟨?_, fun p hp q hq => ?_⟩, fun p hp => ?_, I.K, I.R⟩
  · have hp : p ∈ c.hid ++ (ce ++ (mt' ++ (((f, fo) :: (cds ++ σ.im.flatten)) ++ V.nd))) := hp
    have hr : p ∈ rest → News c.g V.L h' ((f, fo) :: (P, oP') :: (cds ++ rest)) → h'.get? p.1 = some p.2 ∧ _ := fun hr N => N p (.tail _ (.tail _ (List.mem_append_right _ hr)))
    rcases List.mem_append.mp hp with h | hp
    · exact N' p (.tail _ (.tail _ (List.mem_append_right _ (hrest ▸ List.mem_append_left _ h))))
    rcases List.mem_append.mp hp with h | hp
    · exact N' p (.tail _ (.tail _ (List.mem_append_right _ (hrest ▸ List.mem_append_right _ (List.mem_append_left _ h)))))
    rcases List.mem_append.mp hp with h | hp
    · rcases u.of (I.mtnd) p h with rfl | ⟨h1, h2⟩
      · exact N' _ (.tail _ (.head _))
      · exact N' p (.tail _ (.tail _ (List.mem_append_right _ (hrest ▸ List.mem_append_right _ (List.mem_append_right _ (List.mem_append_left _ (List.mem_filter.mpr ⟨h1, by simpa using h2⟩)))))))
    rcases List.mem_append.mp hp with h | hp
    · rcases List.mem_cons.mp h with rfl | h
      · exact N' _ (.head _)
      rcases List.mem_append.mp h with h | h
      · exact N' p (.tail _ (.tail _ (List.mem_append_left _ h)))
      · exact N' p (.tail _ (.tail _ (List.mem_append_right _ (key2 p (List.mem_append_left _ h)))))
    · exact N' p (.tail _ (.tail _ (List.mem_append_right _ (key2 p (List.mem_append_right _ hp)))))
  · have h1 := I.S.1
    show ((c.hid ++ (ce ++ mt')).map (·.1)).Nodup
    rw [List.map_append, List.map_append, u.keys, ← List.map_append, ← List.map_append]
    exact h1
  · rcases List.mem_append.mp hq with hq | hq
    · rcases efl q hq with hq | hq
      · exact offn q hq p (key p hp)
      · rcases List.mem_append.mp hp with hp | hp
        · exact I.S.2 p (List.mem_append_left _ hp) q (List.mem_append_left _ hq)
        rcases List.mem_append.mp hp with hp | hp
        · exact I.S.2 p (List.mem_append_right _ (List.mem_append_left _ hp)) q (List.mem_append_left _ hq)
        · obtain ⟨p', hp', e⟩ := List.mem_map.mp (u.keys ▸ List.mem_map_of_mem (f := (·.1)) hp : p.1 ∈ σ.mt.map (·.1))
          exact fun e' => I.S.2 p' (List.mem_append_right _ (List.mem_append_right _ hp')) q (List.mem_append_left _ hq) (e.trans e')
    · rcases List.mem_append.mp hp with hp | hp
      · exact I.S.2 p (List.mem_append_left _ hp) q (List.mem_append_right _ hq)
      rcases List.mem_append.mp hp with hp | hp
      · exact I.S.2 p (List.mem_append_right _ (List.mem_append_left _ hp)) q (List.mem_append_right _ hq)
      · obtain ⟨p', hp', e⟩ := List.mem_map.mp (u.keys ▸ List.mem_map_of_mem (f := (·.1)) hp : p.1 ∈ σ.mt.map (·.1))
        exact fun e' => I.S.2 p' (List.mem_append_right _ (List.mem_append_right _ hp')) q (List.mem_append_right _ hq) (e.trans e')
  · rcases efl p hp with hp | hp
    · exact off1_of fun q hq => offn p hp q (.inr (key2 q (List.mem_append_right _ hq)))
    · exact I.O p hp
theorem r_lamN {params : Arguments} {body : PySem.Expr} {scope : Scope} {pos : Pos} {Q : Value → St → Prop} {P k : Addr} {ps : Array Value} {clos : List (Str × Addr)} {qual : Str} {mt' : Obj → Led} (hV : V.cp.isEmpty = true) (hd : defaultsOf params V.env = ([], [])) (hq : V.env.qual ++ Str.ofString "<lambda>" = qual) (hcd : V.ccd = .ref k) (hC : CodeHd c.base k P) (u : ∀ oP', Rep P (tabObj ps) oP' σ.mt (mt' oP')) (ht : TriplesOk ps.toList) (hn : codeAmong pos ps.toList = none) (hcl : closureFor scope V.fenv = pure clos)
    (h : ∀ f fo c' oc vs t pm ctv, fo = kla_obj (Str.ofString "<lambda>") qual params body scope clos pm c' ctv → oc.data = .fields vs → vs[1]? = some (.str qual t) → let σ' : St := ⟨σ.m, σ.cm, mt' (tabObj (ps ++ #[rawInt pos.line, rawInt pos.col, .ref c'])), [(f, fo)] :: [(c', oc)] :: σ.im⟩; Q (.ref f) σ') : Run c σ (eval (.Lambda params body scope pos) V.env) Q := fun s I => by
  have T := I.T
  have X := I.X
  obtain ⟨ce, I⟩ := I
  refine kla_eval hd ?_
  rw [hq, env_top hV]
  have st := Below.stays c.B
  have hrest : ∀ p ∈ c.hid ++ (ce ++ (σ.mt.filter (fun p => !decide (p.1 = P)) ++ (σ.fl ++ V.nd))), p.1 ≠ P := fun p hp => by
    have hPm := (u (tabObj ps)).mem
    have h1 := I.S.1
    rw [List.map_append, List.map_append, List.nodup_append] at h1
    rcases List.mem_append.mp hp with hp | hp
    · exact h1.2.2 _ (List.mem_map_of_mem hp) P (List.mem_append_right _ (List.mem_map_of_mem (f := (·.1)) hPm))
    rcases List.mem_append.mp hp with hp | hp
    · exact (List.nodup_append.mp h1.2.1).2.2 _ (List.mem_map_of_mem hp) P (List.mem_map_of_mem (f := (·.1)) hPm)
    rcases List.mem_append.mp hp with hp | hp
    · simpa using (List.mem_filter.mp hp).2
    · exact fun e => I.S.2 _ (List.mem_append_right _ (List.mem_append_right _ hPm)) p hp e.symm
  have N0 : News c.g V.L s.heap ((P, tabObj ps) :: (c.hid ++ (ce ++ (σ.mt.filter (fun p => !decide (p.1 = P)) ++ (σ.fl ++ V.nd))))) := fun p hp => I.N p (by
    rcases List.mem_cons.mp hp with rfl | hp
    · exact List.mem_append_right _ (List.mem_append_right _ (List.mem_append_left _ (u (tabObj ps)).mem))
    · simp only [List.mem_append, List.mem_filter] at hp ⊢
      rcases hp with h | h | h | h | h <;> simp [h])
  refine kla_nest I.F N0 T (hC.keeps st) hcd (.head hrest) ht hn hcl fun f c' oc vs t ctv h' tk F' N' d1 d2 l1 l2 => ?_
  refine ⟨_, lam_inv (cds := [(c', oc)]) (h' := h') (tk := tk) I (u _) rfl F' (fun p hp => N' p ?_) (fun p hp => ?_) (off1_of fun q hq => ?_), h f _ c' oc vs t ((c.mg "__name__").getD .none) ctv rfl d1 d2⟩
  · rcases List.mem_cons.mp hp with rfl | hp
    · exact .head _
    rcases List.mem_cons.mp hp with rfl | hp
    · exact .tail _ (.tail _ (.head _))
    rcases List.mem_cons.mp hp with rfl | hp
    · exact .tail _ (.head _)
    · exact .tail _ (.tail _ (.tail _ hp))
  · rw [List.mem_singleton.mp hp]
    exact off1_of fun q hq => Nat.ne_of_lt (l1 q hq)
  · rcases List.mem_cons.mp hq with rfl | hq
    · exact Nat.ne_of_lt (Nat.lt_trans (l1 _ (.head _)) l2)
    rcases List.mem_cons.mp hq with rfl | hq
    · exact Nat.ne_of_lt l2
    · exact Nat.ne_of_lt (Nat.lt_trans (l1 q (.tail _ hq)) l2)
end
end R13
section R14
theorem gs_lam_run {w : World} {f : Addr} {D U : Nat} {vs : List Value} {need : Led} {Post : Value → Led → Prop} {name qual : Str} {params : Arguments} {body : PySem.Expr} {scope : Scope} {cl : List (Str × Addr)} {pm ctv : Value} {c' : Addr} {oc : Obj} {vc : Array Value} {tq : Tok} {binds : List (Str × Value)} (cm : Str → Option Value)
    (ho : (f, kla_obj name qual params body scope cl pm c' ctv) ∈ need) (hc : (c', oc) ∈ need) (hdc : oc.data = .fields vc) (hq : vc[1]? = some (.str qual tq)) (hbind : bindArgs (kla_fn name qual params body scope cl pm (.ref c') ctv) ⟨vs, []⟩ = pure binds)
    (hC : ∀ x a, cl.lookup x = some a → scope.names.lookup x = some .free ∧ ∃ o, (a, o) ∈ need ∧ o.data = .cell (cm x))
    (hb : ((binds.all fun x => decide (scope.names.lookup x.1 = some .local)) && !scope.isCoroutine && !scope.isGenerator && decide (scope.kind = .function) && scope.names.all (fun x => !decide (x.2 = .cell)) && Nat.blt 0 D && Nat.blt 2 U) = true)
    (h : ∀ L, let V : Vis := ⟨w, D - 1, U - 3, qual, scope, L, f, .ref c', cl, need, []⟩; ∀ c : Ctx V, let σ : St := ⟨fun y => binds.reverse.lookup y, cm, [], []⟩; Run c σ (eval body V.env) (fun v σ' => Post v (σ'.mt ++ σ'.fl))) : GS w f D U vs need Post := by
  simp only [Bool.and_eq_true, Bool.not_eq_true', decide_eq_true_eq] at hb
  obtain ⟨⟨⟨⟨⟨⟨c1, c2⟩, c3⟩, c4⟩, c5⟩, c6⟩, c7⟩ := hb
  have hD : 0 < D := Nat.le_of_ble_eq_true c6
  have hU : 2 < U := Nat.le_of_ble_eq_true c7
  have hcell : ∀ x ∈ scope.names, x.2 ≠ .cell := fun x hx => by
    have := List.all_eq_true.mp c5 x hx
    simpa using this
  refine gs_lam (sub := need) (fun _ h => h) ho hc hdc hq hbind (locs c1) ?_ c2 c3 c4 hcell hD
  intro mean mg mb dp un gd cn cs L a ccd cl0 outer base g L' h₁ s Q E hk hdp hun BO LG hret F' N' B' X' T' l
  let V : Vis := ⟨w, D - 1, U - 3, qual, scope, L', f, .ref c', cl, need, []⟩
  let c : Ctx V := { mean, mg, mb, dp := dp + 1, un := un + 3, gd, outer := envX cn cs L a ccd cl0 :: outer, A₀ := ktrTop dp un gd cn cs L a ccd cl0 outer, base, g, E := (fun e s' => wpAny (model PySem.Challenge.rw_on0243_01.row.prog w) ((ktrTop dp un gd cn cs L a ccd cl0 outer).deeper (envX qual scope L' f (.ref c') cl)) (leaving (envX qual scope L' f (.ref c') cl) e) (fun _ s'' => E e s'') (fun e' s'' => E e' s'') s'), s₀ := s, hid := [], BO, B := B', hk := c4, hd := (by show dp + 1 + (D - 1) < _; omega), hu := (by show un + 3 + (U - 3) < _; omega), P := fun _ => by passes_own }
  have I : InvC c ⟨fun y => binds.reverse.lookup y, cm, [], []⟩ [] { s with heap := h₁, toks := s.toks + binds.length } :=
    ⟨F', N', (fun x a hx => by
      obtain ⟨hf, o, ho, hd⟩ := hC x a hx
      have hf : V.fenv.kindOf x = some .free := hf
      exact ⟨o, by rw [if_pos hf]; exact ho, hd⟩), ⟨List.nodup_nil, fun _ h => nomatch h⟩, (fun _ h => nomatch h), (fun _ h => nomatch h), rfl, rfl, rfl⟩
  refine wpAny_mono (h L' c _ ⟨_, I⟩) (fun v s' hq => ?_) fun _ _ e => e
  obtain ⟨σ', ⟨ce, J⟩, hp⟩ := hq
  obtain ⟨r1, r2, r3⟩ := J.R
  have e : s' = { s with heap := s'.heap, toks := s'.toks } := by cases s'; cases s; cases r1; cases r2; cases r3; rfl
  have key := hret v [] (σ'.mt ++ σ'.fl) _ s'.heap s'.toks σ'.m J.F J.N rfl (fun _ h => nomatch h) (fun p hp => ?_) (fun p hp => ?_) (fun p hp => ?_) hp
  · rw [← e] at key
    exact key
  · exact List.mem_append_right _ (List.mem_append_right _ (List.mem_append_right _ (List.mem_append_right _ hp)))
  · refine List.mem_append_right _ (List.mem_append_right _ ?_)
    rw [← List.append_assoc]
    exact List.mem_append_left _ hp
  · rcases List.mem_append.mp hp with hp | hp
    · exact off1_of fun q hq => fun e => J.S.2 p (List.mem_append_right _ (List.mem_append_right _ hp)) q (List.mem_append_right _ hq) e.symm
    · exact J.O p hp
def EndMC (cl : List (Str × Addr)) (mt0 : Led) (Post : Value → Led → Led → Prop) (fl : Flow) (σ : St) : Prop := ∃ nm mt', σ.mt = nm ++ mt' ∧ mt'.map (·.1) = mt0.map (·.1) ∧ ∀ ce : Led, (∀ x a, cl.lookup x = some a → ∃ o, (a, o) ∈ ce ∧ o.data = .cell (σ.cm x)) → Post (flowV fl) mt' (nm ++ (σ.fl ++ ce))
theorem endMC_ret {V : Vis} {c : Ctx V} {mt0 : Led} {Post : Value → Led → Led → Prop} {s s' : Shared} {fl : Flow} {Q : Value → Shared → Prop} {need : Led} (hnd : V.nd = need) (hs : c.s₀ = s) (hcl : ∀ x a, V.cl.lookup x = some a → ¬ (V.fenv.kindOf x = some .free))
    (hret : ∀ (r : Value) (mt' tl big : Led) (h' : Heap) (tk' : Nat) (m' : Str → Option Value), Fr c.g V.L h' m' → News c.g V.L h' big → mt'.map (·.1) = mt0.map (·.1) → (∀ p ∈ mt', p ∈ big) → (∀ p ∈ need, p ∈ big) → (∀ p ∈ tl, p ∈ big) → (∀ p ∈ tl, LCg.Off1 p.1 (mt0 ++ need)) → Post r mt' tl → Q r { s with heap := h', toks := tk' })
    (h : ∃ σ', Inv c σ' s' ∧ EndMC V.cl mt0 Post fl σ') : Q (flowV fl) s' := by
  subst hs; subst hnd
  obtain ⟨σ', ⟨ce, J⟩, nm, mt', e1, e2, hp⟩ := h
  have hp := hp ce fun x a hx => by
    have := J.C x a hx
    rw [if_neg (hcl x a hx)] at this
    exact this
  obtain ⟨r1, r2, r3⟩ := J.R
  have e : s' = { c.s₀ with heap := s'.heap, toks := s'.toks } := by
    cases s'
    have r1 := r1; have r2 := r2; have r3 := r3
    simp only at r1 r2 r3
    subst r1; subst r2; subst r3; rfl
  have hb : ∀ p, p ∈ σ'.mt ++ (σ'.fl ++ V.nd) → p ∈ c.hid ++ (ce ++ (σ'.mt ++ (σ'.fl ++ V.nd))) := fun p hp => List.mem_append_right _ (List.mem_append_right _ hp)
  have hS := J.S.1
  rw [List.map_append, List.map_append, List.nodup_append] at hS
  have hS3 := (List.nodup_append.mp hS.2.1).2.2
  have hS2 := (List.nodup_append.mp hS.2.1).2.1
  rw [e1, List.map_append, List.nodup_append] at hS2
  have key := hret (flowV fl) mt' (nm ++ (σ'.fl ++ ce)) _ s'.heap s'.toks σ'.m J.F J.N e2 (fun p hp => hb p (List.mem_append_left _ (e1 ▸ List.mem_append_right _ hp))) (fun p hp => hb p (List.mem_append_right _ (List.mem_append_right _ hp))) (fun p hp => ?_) (fun p hp => off1_of fun q hq e => ?_) hp
  · rw [← e] at key; exact key
  · rcases List.mem_append.mp hp with hp | hp
    · exact hb p (List.mem_append_left _ (e1 ▸ List.mem_append_left _ hp))
    rcases List.mem_append.mp hp with hp | hp
    · exact hb p (List.mem_append_right _ (List.mem_append_left _ hp))
    · exact List.mem_append_right _ (List.mem_append_left _ hp)
  · have hq' : (∃ q' ∈ mt', q'.1 = q.1) ∨ q ∈ V.nd := by
      rcases List.mem_append.mp hq with hq | hq
      · have : q.1 ∈ mt'.map (·.1) := e2 ▸ List.mem_map_of_mem hq
        obtain ⟨q', hq', e'⟩ := List.mem_map.mp this
        exact .inl ⟨q', hq', e'⟩
      · exact .inr hq
    rcases List.mem_append.mp hp with hp | hp
    · rcases hq' with ⟨q', hq', e'⟩ | hq
      · exact hS2.2.2 _ (List.mem_map_of_mem hp) _ (List.mem_map_of_mem hq') (e'.trans e).symm
      · exact J.S.2 p (List.mem_append_right _ (List.mem_append_right _ (e1 ▸ List.mem_append_left _ hp))) q (List.mem_append_right _ hq) e.symm
    rcases List.mem_append.mp hp with hp | hp
    · rcases hq' with ⟨q', hq', e'⟩ | hq
      · exact J.S.2 q' (List.mem_append_right _ (List.mem_append_right _ (e1 ▸ List.mem_append_right _ hq'))) p (List.mem_append_left _ hp) (e'.trans e)
      · exact off1_mem (J.O p hp) q hq e
    · rcases hq' with ⟨q', hq', e'⟩ | hq
      · exact hS3 _ (List.mem_map_of_mem hp) _ (List.mem_map_of_mem (f := (·.1)) (e1 ▸ List.mem_append_right nm hq' : q' ∈ σ'.mt)) (e'.trans e).symm
      · exact J.S.2 p (List.mem_append_right _ (List.mem_append_left _ hp)) q (List.mem_append_right _ hq) e.symm
theorem gmCC_of_run {w : World} {f : Addr} {D U : Nat} {vs : List Value} {mt0 need : Led} {Post : Value → Led → Led → Prop}
    {name qual : Str} {params : Arguments} {body : List Stmt} {scope : Scope} {dV kV doc pm cdv ct oc : Value} {an od : Option Addr} {osl : Array (Option Value)} {binds : List (Str × Value)}
    (hdis : ∀ p ∈ mt0, ∀ q ∈ need, p.1 ≠ q.1) (hnm : (mt0.map (·.1)).Nodup)
    (ho : (hd.heap_39 w.params).lookup f = some ⟨oc, od, .func (fnOf name qual params body scope dV kV doc pm an cdv ct), osl⟩) (hcd : codeIn (hd.heap_39 w.params) cdv qual = true)
    (hbind : ∀ s : Shared, (hd.heap_39 w.params).In s.heap → BindsTo s (fnOf name qual params body scope dV kV doc pm an cdv ct) ⟨vs, []⟩ binds)
    (hc : ((binds.all fun y => scope.names.lookup y.1 == some .local || scope.names.lookup y.1 == some .cell) && !scope.isCoroutine && !scope.isGenerator && decide (scope.kind = .function) && scope.names.all (fun x => !decide (x.2 = .free)) && decide (((cellsFrom 0 scope.names []).map (·.1)).Nodup) && Nat.blt 0 D && Nat.blt 2 U) = true)
    (h : ∀ L, let V : Vis := ⟨w, D - 1, U - 3, qual, scope, L, f, cdv, cellsFrom (L + 1) scope.names [], need, []⟩; ∀ c : Ctx V, let σ : St := ⟨bindL (fun x => scope.names.lookup x) binds fun _ => none, bindC (fun x => scope.names.lookup x) binds fun _ => none, mt0, []⟩; Run c σ (execs body V.env) (EndMC (cellsFrom (L + 1) scope.names []) mt0 Post)) : GM w f D U vs mt0 need Post := by
  simp only [Bool.and_eq_true, Bool.not_eq_true', decide_eq_true_eq] at hc
  obtain ⟨⟨⟨⟨⟨⟨⟨c1, c2⟩, c3⟩, c4⟩, c5⟩, c8⟩, c6⟩, c7⟩ := hc
  have hD : 0 < D := Nat.le_of_ble_eq_true c6
  have hU : 2 < U := Nat.le_of_ble_eq_true c7
  refine gm_defC (mt := mt0) (sub := need) (fun _ h => h) hdis ho hcd hbind c1 c8 ?_ c2 c3 c4 hD
  intro mean mg mb dp un gd cn cs L a ccd cl outer base g L' h₁ tk cells s Q E hk hdp hun BO LG hret F' N' Y B' X' T' l
  let V : Vis := ⟨w, D - 1, U - 3, qual, scope, L', f, cdv, cellsFrom (L' + 1) scope.names [], need, []⟩
  let c : Ctx V := { mean, mg, mb, dp := dp + 1, un := un + 3, gd, outer := envX cn cs L a ccd cl :: outer, A₀ := ktrTop dp un gd cn cs L a ccd cl outer, base, g, E := (fun e s' => wpAny (model PySem.Challenge.rw_on0243_01.row.prog w) ((ktrTop dp un gd cn cs L a ccd cl outer).deeper (envOfC qual scope L' f cdv)) (leaving (envOfC qual scope L' f cdv) e) (fun _ s'' => E e s'') (fun e' s'' => E e' s'') s'), s₀ := s, hid := [], BO, B := B', hk := c4, hd := (by show dp + 1 + (D - 1) < _; omega), hu := (by show un + 3 + (U - 3) < _; omega), P := fun _ => by passes_own }
  have hk2 : cells.map (·.1) = (cellsFrom (L' + 1) scope.names []).map (·.2) := cellsAre_keys Y
  have hgt : ∀ p ∈ cells, L' < p.1 := fun p hp => by
    have : p.1 ∈ (cellsFrom (L' + 1) scope.names []).map (·.2) := hk2 ▸ List.mem_map_of_mem hp
    obtain ⟨q, hq, e⟩ := List.mem_map.mp this
    rcases cellsFrom_ge _ _ _ q hq with h | h
    · cases h
    · rw [← e]; exact h
  have I : InvC c ⟨bindL (fun x => scope.names.lookup x) binds fun _ => none, bindC (fun x => scope.names.lookup x) binds fun _ => none, mt0, []⟩ cells { s with heap := h₁, toks := tk } := by
    refine ⟨F', N', fun x a hx => ?_, ⟨?_, fun p hp q hq => ?_⟩, (fun _ h => nomatch h), (fun _ h => nomatch h), rfl, rfl, rfl⟩
    · have hf : ¬ (V.fenv.kindOf x = some .free) := fun e => by
        have e : scope.names.lookup x = some .free := e
        have := List.all_eq_true.mp c5 _ (lookup_mem e)
        simp at this
      rw [if_neg hf]
      exact cellsAre_mem Y x a (lookup_mem hx)
    · show ((cells ++ mt0).map (·.1)).Nodup
      rw [List.map_append, List.nodup_append]
      refine ⟨hk2 ▸ cells_nodup, hnm, fun a ha b hb e => ?_⟩
      obtain ⟨p, hp, rfl⟩ := List.mem_map.mp ha
      obtain ⟨q, hq, rfl⟩ := List.mem_map.mp hb
      have h1 := hgt p hp
      have h2 := l q (List.mem_append_left _ hq)
      rw [e] at h1
      exact absurd h1 (Nat.lt_asymm h2)
    · have hp : p ∈ cells ++ mt0 := hp
      rcases List.mem_append.mp hp with hp | hp
      · have h1 := hgt p hp
        have h2 := l q (List.mem_append_right _ hq)
        exact Nat.ne_of_gt (Nat.lt_trans h2 h1)
      · exact hdis p hp q hq
  refine wpAny_mono (h L' c _ ⟨_, I⟩) (fun fl s' hq => ?_) fun _ _ e => e
  have key := endMC_ret (c := c) rfl rfl (fun x a hx e => by
    have e : scope.names.lookup x = some .free := e
    have := List.all_eq_true.mp c5 _ (lookup_mem e)
    simp at this) hret hq
  cases fl <;> exact key
end R14
section R15
theorem updF_pre {d : Addr} {o : Obj} {post : Led} (h2 : ∀ p ∈ post, p.1 ≠ d) : ∀ {pre : Led}, (∀ p ∈ pre, p.1 ≠ d) → UpdF d o (pre ++ (d, o) :: post) (fun o' => pre ++ (d, o') :: post)
  | [], _ => .head h2
  | _ :: _, h => .tail (h _ (.head _)) (updF_pre h2 fun p hp => h p (.tail _ hp))
section
variable {V : Vis} {c : Ctx V} {σ : St}
theorem r_dict0 {pos : Pos} {Q : Value → St → Prop} (h : ∀ d o, (d == sysModules) = false → o.IsDictOf (PySem.strKind rprog V.w) [] → o.IsDictOf (intKind rprog V.w) [] → let σ' := σ.imm d o; Q (.ref d) σ') : Run c σ (eval (.Dict [] [] pos) V.env) Q := fun s I => by
  have T := I.T
  obtain ⟨ce, I⟩ := I
  exact newDict_K I.F I.N (Top.nolimit T) fun d h' o F' N' l lo a _ b _ => ⟨_, I.imm (k := s.toks) F' N' fun p hp => Nat.ne_of_lt (l p hp), h d o lo a b⟩
abbrev KDictK {K : Type} (d : Addr) (o : Obj) (ok : List (Value × Value) → Bool) (prs : List (Value × Value) → List (K × Value)) (is : Obj → List (K × Value) → Prop) (Q : Value → St → Prop) : List (Value × Value) → St → Prop := fun vs σ₁ => ok vs = true ∧ ((prs vs).map (·.1)).Nodup ∧ ∃ mt₁, σ₁.mt = (d, o) :: mt₁ ∧ ∀ o', is o' (prs vs) → Q (.ref d) ⟨σ₁.m, σ₁.cm, mt₁, [(d, o')] :: σ₁.im⟩
theorem k_dictK {K : Type} {d : Addr} {o : Obj} {ok : List (Value × Value) → Bool} {prs : List (Value × Value) → List (K × Value)} {is : Obj → List (K × Value) → Prop} {Q : Value → St → Prop} {vs : List (Value × Value)} {kvs : List (K × Value)} {mt₁ : Led} (h1 : ok vs = true) (e1 : prs vs = kvs) (h2 : (kvs.map (·.1)).Nodup) (e : σ.mt = (d, o) :: mt₁) (h : ∀ o', is o' kvs → let σ' : St := ⟨σ.m, σ.cm, mt₁, [(d, o')] :: σ.im⟩; Q (.ref d) σ') : KDictK d o ok prs is Q vs σ := ⟨h1, e1 ▸ h2, mt₁, e, e1 ▸ h⟩
theorem dict_up {ce mt₁ : Led} {d : Addr} {o : Obj} {s : Shared} (I : InvC c σ ce s) (e : σ.mt = (d, o) :: mt₁) : (∀ p ∈ c.hid ++ ce, p.1 ≠ d) ∧ ∀ p ∈ mt₁ ++ (σ.fl ++ V.nd), p.1 ≠ d := by
  have h1 := I.S.1
  rw [e, ← List.append_assoc, List.map_append, List.nodup_append] at h1
  refine ⟨fun p hp => h1.2.2 _ (List.mem_map_of_mem hp) d (.head _), fun p hp => ?_⟩
  rcases List.mem_append.mp hp with hp | hp
  · exact fun e' => (List.nodup_cons.mp h1.2.1).1 (List.mem_map.mpr ⟨p, hp, e'⟩)
  · exact fun e' => I.S.2 (d, o) (List.mem_append_right _ (List.mem_append_right _ (e ▸ .head _))) p hp e'.symm
theorem dict_inv {ce mt₁ : Led} {d : Addr} {o o' : Obj} {s : Shared} {h' : Heap} {k : Nat} (I : InvC c σ ce s) (e : σ.mt = (d, o) :: mt₁) (F' : Fr c.g V.L h' σ.m) (N' : News c.g V.L h' ((c.hid ++ ce) ++ (d, o') :: (mt₁ ++ (σ.fl ++ V.nd)))) : Inv c ⟨σ.m, σ.cm, mt₁, [(d, o')] :: σ.im⟩ { s with heap := h', toks := k } := by
  have u : Rep d o o' σ.mt ((d, o') :: mt₁) := e ▸ .head
  have J := I.chg (k := k) u F' (by rw [List.append_assoc] at N'; exact N')
  exact weak_freeze (m := σ.m) (cm := σ.cm) (mt := mt₁) (im := σ.im) _ J
theorem r_dictS {keys : List (Option PySem.Expr)} {values : List PySem.Expr} {pos : Pos} {Q : Value → St → Prop} (hk : (strLits keys && keys.all (·.isSome) && !keys.isEmpty && keys.length == values.length && Nat.ble keys.length 15) = true)
    (h : ∀ d o, (d == sysModules) = false → o.IsDictOf (PySem.strKind rprog V.w) [] → let σ' := σ.mut d o; Run c σ' (evalPairs (pairTrees keys values V.env pos)) (KDictK d o allStrKeys strPairs (fun o' kvs => o'.IsDictOf (PySem.strKind rprog V.w) kvs) Q)) : Run c σ (eval (.Dict keys values pos) V.env) Q := fun s I => by
  have T := I.T
  obtain ⟨ce, I⟩ := I
  simp only [Bool.and_eq_true, Bool.not_eq_true', beq_iff_eq] at hk
  obtain ⟨⟨⟨⟨k1, k2⟩, k3⟩, k4⟩, k5⟩ := hk
  refine kdn_str k1 I.F I.N (Top.nolimit T) k2 k4 (fun e => by rw [e] at k3; cases k3) (Nat.le_of_ble_eq_true k5) fun d h' o F' N' l lo hD => ?_
  refine (h d o lo hD).on (I.mut (k := s.toks) F' N' fun p hp => Nat.ne_of_lt (l p hp)) fun vs σ₁ s₁ I₁ ⟨h1, h2, mt₁, e, h3⟩ => ?_
  obtain ⟨ce₁, I₁⟩ := I₁
  have up := dict_up I₁ e
  have N₁ : News c.g V.L s₁.heap ((c.hid ++ ce₁) ++ (d, o) :: (mt₁ ++ (σ₁.fl ++ V.nd))) := by
    have := I₁.N
    rw [e] at this
    rw [List.append_assoc]; exact this
  exact kdn_made_str I₁.F N₁ (updF_pre up.2 up.1) hD h1 h2 fun h'' o' F'' N'' hD' => ⟨_, dict_inv I₁ e F'' N'', h3 o' hD'⟩
theorem r_dictI {keys : List (Option PySem.Expr)} {values : List PySem.Expr} {pos : Pos} {Q : Value → St → Prop} (hk : (intLits keys && keys.all (·.isSome) && !keys.isEmpty && keys.length == values.length && Nat.ble keys.length 15) = true)
    (h : ∀ d o, (d == sysModules) = false → o.IsDictOf (intKind rprog V.w) [] → let σ' := σ.mut d o; Run c σ' (evalPairs (pairTrees keys values V.env pos)) (KDictK d o allIntKeys intKeyPairs (fun o' kvs => o'.IsDictOf (intKind rprog V.w) kvs) Q)) : Run c σ (eval (.Dict keys values pos) V.env) Q := fun s I => by
  have T := I.T
  obtain ⟨ce, I⟩ := I
  simp only [Bool.and_eq_true, Bool.not_eq_true', beq_iff_eq] at hk
  obtain ⟨⟨⟨⟨k1, k2⟩, k3⟩, k4⟩, k5⟩ := hk
  refine kdn_int k1 I.F I.N (Top.nolimit T) k2 k4 (fun e => by rw [e] at k3; cases k3) (Nat.le_of_ble_eq_true k5) fun d h' o F' N' l lo hD => ?_
  refine (h d o lo hD).on (I.mut (k := s.toks) F' N' fun p hp => Nat.ne_of_lt (l p hp)) fun vs σ₁ s₁ I₁ ⟨h1, h2, mt₁, e, h3⟩ => ?_
  obtain ⟨ce₁, I₁⟩ := I₁
  have up := dict_up I₁ e
  have N₁ : News c.g V.L s₁.heap ((c.hid ++ ce₁) ++ (d, o) :: (mt₁ ++ (σ₁.fl ++ V.nd))) := by
    have := I₁.N
    rw [e] at this
    rw [List.append_assoc]; exact this
  exact kdn_made_int I₁.F N₁ (updF_pre up.2 up.1) hD h1 h2 fun h'' o' F'' N'' hD' => ⟨_, dict_inv I₁ e F'' N'', h3 o' hD'⟩
abbrev KPairs (c : Ctx V) (env : Env) (ks : List (Option PySem.Expr)) (vs : List PySem.Expr) (pos : Pos) (kv : Value) (Q : List (Value × Value) → St → Prop) : Value → St → Prop := fun vv σ => Run c σ (evalPairs (pairTrees ks vs env pos)) (fun r σ => Q ((kv, vv) :: r) σ)
abbrev KPairV (c : Ctx V) (env : Env) (v : PySem.Expr) (ks : List (Option PySem.Expr)) (vs : List PySem.Expr) (pos : Pos) (Q : List (Value × Value) → St → Prop) : Value → St → Prop := fun kv σ => Run c σ (eval v env) (KPairs c env ks vs pos kv Q)
theorem r_pairC {env : Env} {k v : PySem.Expr} {ks : List (Option PySem.Expr)} {vs : List PySem.Expr} {pos : Pos} {Q : List (Value × Value) → St → Prop} (h : Run c σ (eval k env) (KPairV c env v ks vs pos Q)) : Run c σ (evalPairs (pairTrees (some k :: ks) (v :: vs) env pos)) Q := fun _ I =>
  pairTrees_cons_walk (h.on I fun _ _ _ I₁ h₁ => h₁.on I₁ fun _ _ s₂ I₂ h₂ => h₂.on I₂ fun _ σ₃ _ I₃ h₃ => ⟨σ₃, I₃, h₃⟩)
theorem r_pairN {env : Env} {pos : Pos} {Q : List (Value × Value) → St → Prop} (h : Q [] σ) : Run c σ (evalPairs (pairTrees [] [] env pos)) Q := fun _ I => pairTrees_nil_walk ⟨σ, I, h⟩
theorem r_inS {x y : Str} {t u : Tok} {Q : Value → St → Prop} (h : Q (.bool !(Builtin.Str.occurrences x y 0 x.length 1).isEmpty) σ) : Run c σ (compareOp .In (.str y u) (.str x t)) Q := fun _ I => in_str ⟨σ, I, h⟩
end
theorem prs1 {a : Str} {t : Tok} {x : Value} : strPairs [(.str a t, x)] = [(a, x)] := rfl
theorem prs2 {a b : Str} {t u : Tok} {x y : Value} : strPairs [(.str a t, x), (.str b u, y)] = [(a, x), (b, y)] := rfl
theorem prs3 {a b d : Str} {t u v : Tok} {x y z : Value} : strPairs [(.str a t, x), (.str b u, y), (.str d v, z)] = [(a, x), (b, y), (d, z)] := rfl
theorem irs3 {a b d : Int} {t u v : Tok} {x y z : Value} : intKeyPairs [(.int a t, x), (.int b u, y), (.int d v, z)] = [(a, x), (b, y), (d, z)] := rfl
end R15
section R16
def CmpP (V : Vis) (scope : Scope) (cl : List (Str × Addr)) (x x₂ : Str) (elt : PySem.Expr) (m : Str → Option Value) (Q : List Value → St → Prop) : List (Value × Value) → List Value → St → Prop
  | [], ys, σ => Q ys σ
  | (a, b) :: r, ys, σ => ∀ (C : Addr) (c : Ctx (V.comp scope cl C [(x, a), (x₂, b)])), Run c σ (eval elt (V.comp scope cl C [(x, a), (x₂, b)]).env) (fun y σ' => σ'.m = m ∧ CmpP V scope cl x x₂ elt m Q r (ys ++ [y]) σ')
section
variable {V : Vis} {c : Ctx V} {σ : St}
theorem cmpP_rest {scope : Scope} {cl : List (Str × Addr)} {x x₂ : Str} {elt : PySem.Expr} {Q : List Value → St → Prop} {Fin : List Value → Led → Prop} {R : Addr} {n : Nat} {vs : List Value} (s : Shared) (hR : s.gens = c.s₀.gens ∧ s.drawn = c.s₀.drawn ∧ s.os = c.s₀.os) (m : Str → Option Value) (hxx : x ≠ x₂)
    (hS : (R, listOf vs.toArray n) ∈ V.nd) (fin : ∀ ys σ ce, InvS c σ ce → σ.m = m → Q ys σ → Fin ys (ledOf c ce σ)) :
    ∀ (r : List (Value × Value)) (i : Nat) (ys : List Value) (σ : St) (ce : Led), (∀ j p, r[j]? = some p → ∃ T k, vs[i + j]? = some (.ref T) ∧ (T, tup [p.1, p.2] k) ∈ V.nd) → InvS c σ ce → σ.m = m → CmpP V scope cl x x₂ elt m Q r ys σ →
      LCp.CompRestP rprog V.w c.A c.g V.L m V.env elt x x₂ scope cl s (LCg.SrcAt c.g R vs.toArray) (fun i v => vs.toArray[i]? = some v) Fin r.length i ys (ledOf c ce σ) := by
  intro r
  induction r with
  | nil => intro i ys σ ce _ J hm h; exact fin ys σ ce J hm h
  | cons a r ih =>
    intro i ys σ ce hT J hm h v hv
    obtain ⟨a, b⟩ := a
    obtain ⟨T, k, hv', hT0⟩ := hT 0 _ rfl
    have e : v = .ref T := by
      have hv : vs.toArray[i]? = some v := hv
      rw [List.getElem?_toArray] at hv
      rw [Nat.add_zero, hv] at hv'
      exact Option.some.inj hv'
    have up : ∀ p, p ∈ V.nd → ∀ ce σ, p ∈ ledOf c ce σ := fun p hp ce σ => List.mem_append_right _ (List.mem_append_right _ (List.mem_append_right _ (List.mem_append_right _ hp)))
    refine ⟨T, _, a, b, k, e, up _ hT0 ce σ, rfl, rfl, ?_⟩
    intro I oI C oC D m₂ h' tk E' hC hx hx2 F N off ne
    let c' := c.comp scope cl C [(x, a), (x₂, b)] [(I, oI), (C, oC), (D, LCg.lst ys)] E' s
    have I' : InvC c' σ ce { s with heap := h', toks := tk } := by
      refine ⟨hm ▸ F, N, J.C, sep_hid J.S ne off, J.O, fun k hk => ?_, hR⟩
      rcases List.mem_cons.mp hk with rfl | hk
      · refine ⟨oC, m₂, .tail _ (.head _), hC, fun y u hy => ?_⟩
        have hy : List.lookup y [(x, a), (x₂, b)] = some u := hy
        rw [List.lookup_cons] at hy
        cases e : y == x
        · rw [e] at hy
          have hy : List.lookup y [(x₂, b)] = some u := hy
          rw [List.lookup_cons] at hy
          cases e2 : y == x₂
          · rw [e2] at hy; cases hy
          · rw [e2] at hy
            rw [beq_iff_eq.mp e2, ← Option.some.inj hy]; exact hx2
        · rw [e] at hy
          rw [beq_iff_eq.mp e, ← Option.some.inj hy]; exact hx
      · obtain ⟨oC', m', h1, h2⟩ := J.K k hk
        exact ⟨oC', m', .tail _ (.tail _ (.tail _ h1)), h2⟩
    refine wpAny_mono (h C c' _ ⟨ce, I'⟩) (fun y s₂ h₂ => ?_) fun _ _ e => e
    obtain ⟨σ₂, ⟨ce₂, I₂⟩, hm₂, h₂⟩ := h₂
    have z := off3_of_hid (V := V) (c := c) (c' := c') (σ := σ₂) (ce := ce₂) rfl rfl I₂.S
    have J₂ : InvS c σ₂ ce₂ := ⟨I₂.C, z.1, I₂.O, J.K⟩
    exact ⟨s₂.heap, s₂.toks, ledOf c ce₂ σ₂, eqS (s := { s with heap := h', toks := tk }) I₂.R hR, hm₂ ▸ I₂.F, I₂.N, z.2, srcAt_intro (up _ hS _ _), ih (i + 1) (ys ++ [y]) σ₂ ce₂ (fun j p hj => by
      obtain ⟨T, k, h1, h2⟩ := hT (j + 1) p hj
      exact ⟨T, k, by rw [← h1]; congr 1; omega, h2⟩) J₂ hm₂ h₂⟩
abbrev KCompP (V : Vis) (scope : Scope) (cl : List (Str × Addr)) (x x₂ : Str) (elt : PySem.Expr) (m : Str → Option Value) (Q : List Value → St → Prop) : Value → St → Prop := fun xv σ => σ.m = m ∧ ∃ (R : Addr) (vs : List Value) (n : Nat) (ps : List (Value × Value)), xv = .ref R ∧ (R, listOf (List.toArray vs) n) ∈ V.nd ∧ Nat.ble vs.length 1000 = true ∧ vs.length = List.length ps ∧ (∀ (j : Nat) (p : Value × Value), ps[j]? = some p → ∃ (T : Addr) (k : Nat), vs[j]? = some (.ref T) ∧ (T, tup [p.1, p.2] k) ∈ V.nd) ∧ CmpP V scope cl x x₂ elt m Q ps [] σ
theorem r_compP {elt iter : PySem.Expr} {x x₂ : Str} {px px₂ tp pos : Pos} {tk : Nat} {scope : Scope} {cl : List (Str × Addr)} {Q : Value → St → Prop} (hk : (compOK scope x && compOK scope x₂ && !(x == x₂)) = true) (hc : closureFor scope V.env = pure cl) (hs : ∀ x, foldedSetIterable iter V.env x = pure x) (h : Run c σ (eval iter V.env) (KCompP V scope cl x x₂ elt σ.m (KMade Q))) :
    Run c σ (eval (.ListComp elt [⟨.Tuple [.Name x px, .Name x₂ px₂] tk tp, iter, [], 0⟩] scope pos) V.env) Q := fun s I => by
  simp only [Bool.and_eq_true, Bool.not_eq_true', beq_eq_false_iff_ne, ne_eq] at hk
  obtain ⟨⟨hk1, hk2⟩, hxx⟩ := hk
  obtain ⟨k1, k2, k3, k4⟩ := compOK_of hk1
  obtain ⟨_, _, _, k5⟩ := compOK_of hk2
  have I0 := I
  obtain ⟨ce, I⟩ := I
  refine LCp.ListComp_P I.F hc k1 k2 k3 k4 k5 hxx (h.on I0 fun xv σ₁ s₁ I₁ h₁ => ?_) hs
  obtain ⟨hm, R, vs, n, ps, rfl, hR, hz, hl, hT, h₁⟩ := h₁
  obtain ⟨ce₁, I₁⟩ := I₁
  have hsz : vs.toArray.size ≤ sizeLine := by rw [List.size_toArray]; exact sz_of hz (by decide)
  have hmR : (R, listOf vs.toArray n) ∈ ledOf c ce₁ σ₁ := List.mem_append_right _ (List.mem_append_right _ (List.mem_append_right _ (List.mem_append_right _ hR)))
  refine LCp.SrcLP.ledger (its := vs.toArray) (k := n) (news := ledOf c ce₁ σ₁) rfl (hm ▸ I₁.F) I₁.N hmR hsz fun g => ?_
  have e : vs.toArray.size = ps.length := by rw [List.size_toArray]; exact hl
  rw [e]
  refine cmpP_rest (n := n) (s := { s₁ with heap := g }) I₁.R σ.m hxx hR ?_ ps 0 [] σ₁ ce₁ (fun j p hj => by rw [Nat.zero_add]; exact hT j p hj) I₁.st hm h₁
  intro ys σ' ce' J hm' hQ D h' tk F N O
  have I' : InvC c σ' ce' { s₁ with heap := h', toks := tk } := J.at (hm' ▸ F) (fun p hp => N p (.tail _ hp)) I₁.R
  exact ⟨_, I'.imm (h' := h') (k := tk) (hm' ▸ F) N (fun p hp => off1_mem O p hp), hQ D⟩
theorem k_compP3 {scope : Scope} {cl : List (Str × Addr)} {x x₂ : Str} {elt : PySem.Expr} {m : Str → Option Value} {Q : List Value → St → Prop} {R T0 T1 T2 : Addr} {n k0 k1 k2 : Nat} {a0 b0 a1 b1 a2 b2 : Value} (hR : (R, listOf [.ref T0, .ref T1, .ref T2].toArray n) ∈ V.nd) (h0 : (T0, tup [a0, b0] k0) ∈ V.nd) (h1 : (T1, tup [a1, b1] k1) ∈ V.nd) (h2 : (T2, tup [a2, b2] k2) ∈ V.nd) (hm : σ.m = m) (h : CmpP V scope cl x x₂ elt m Q [(a0, b0), (a1, b1), (a2, b2)] [] σ) : KCompP V scope cl x x₂ elt m Q (.ref R) σ :=
  ⟨hm, R, _, n, _, rfl, hR, rfl, rfl, fun j p hj => by
    match j, hj with
    | 0, hj => cases hj; exact ⟨T0, k0, rfl, h0⟩
    | 1, hj => cases hj; exact ⟨T1, k1, rfl, h1⟩
    | 2, hj => cases hj; exact ⟨T2, k2, rfl, h2⟩, h⟩
section
variable {scope : Scope} {cl : List (Str × Addr)} {x x₂ : Str} {elt : PySem.Expr} {m : Str → Option Value} {Q : List Value → St → Prop} {a b y : Value} {r : List (Value × Value)} {ys zs : List Value}
abbrev KEltP (V : Vis) (scope : Scope) (cl : List (Str × Addr)) (x x₂ : Str) (elt : PySem.Expr) (m : Str → Option Value) (Q : List Value → St → Prop) (r : List (Value × Value)) (ys : List Value) : Value → St → Prop := fun y σ' => σ'.m = m ∧ CmpP V scope cl x x₂ elt m Q r (ys ++ [y]) σ'
theorem k_cmpPN (h : Q ys σ) : CmpP V scope cl x x₂ elt m Q [] ys σ := h
theorem k_cmpPC (h : ∀ (C : Addr) (c : Ctx (V.comp scope cl C [(x, a), (x₂, b)])), Run c σ (eval elt (V.comp scope cl C [(x, a), (x₂, b)]).env) (KEltP V scope cl x x₂ elt m Q r ys)) : CmpP V scope cl x x₂ elt m Q ((a, b) :: r) ys σ := h
theorem k_eltP (hm : σ.m = m) (e : ys ++ [y] = zs) (h : CmpP V scope cl x x₂ elt m Q r zs σ) : KEltP V scope cl x x₂ elt m Q r ys y σ := ⟨hm, e ▸ h⟩
end
theorem intK (prog : Program) (w : World) (k : Int) (t : Tok) : (intKind prog w).is k (.int k t) = true := by simp [intKind, Value.isInt]
theorem r_mGetI {d : Addr} {o : Obj} {kvs : List (Int × Value)} {pl : Sem Bool} {Q : Value × List Value → St → Prop} (hm : Has V σ (d, o)) (hD : o.IsDictOf (intKind rprog V.w) kvs) (h : Q (.builtin "dict.get", [.ref d]) σ) : Run c σ (getMethod (.ref d) "get" pl) Q := fun s I => by
  obtain ⟨ce, I⟩ := I
  exact kdg_method I.N (I.news hm) hD ⟨σ, ⟨ce, I⟩, h⟩
theorem r_getI2 {d : Addr} {o : Obj} {kvs : List (Int × Value)} {k : Int} {t : Tok} {df : Value} {Q : Value → St → Prop} (hm : Has V σ (d, o)) (hD : o.IsDictOf (intKind rprog V.w) kvs) (lo : (d == sysModules) = false) (h : Q ((valueAt kvs k).getD df) σ) : Run c σ (call (.builtin "dict.get") [.ref d, .int k t, df]) Q := fun s I => by
  obtain ⟨ce, I⟩ := I
  exact kdg_get2 I.N (I.news hm) hD lo (intK _ _ k t) _ rfl ⟨σ, Inv.toks ⟨ce, I⟩, h⟩
theorem r_getS2 {d : Addr} {o : Obj} {kvs : List (Str × Value)} {k : Str} {t : Tok} {df : Value} {Q : Value → St → Prop} (hm : Has V σ (d, o)) (hD : o.IsDictOf (PySem.strKind rprog V.w) kvs) (lo : (d == sysModules) = false) (h : Q ((valueAt kvs k).getD df) σ) : Run c σ (call (.builtin "dict.get") [.ref d, .str k t, df]) Q := fun s I => by
  obtain ⟨ce, I⟩ := I
  exact kdg_get2 I.N (I.news hm) hD lo (strK _ _ k t) _ rfl ⟨σ, Inv.toks ⟨ce, I⟩, h⟩
end
end R16
section R17
section
variable {V : Vis} {c : Ctx V} {σ : St}
inductive KDictT (V : Vis) (d : Addr) (o : Obj) (Q : Value → St → Prop) (vs : List (Value × Value)) (σ₁ : St) : Prop
  | mk (K1 K2 K3 : Addr) (k1 k2 k3 : Obj) (v : Int) (tv t2 t3 : Tok) (mt₁ : Led) (h0 : vs = [(.ref K1, .int v tv), (.ref K2, .int (-7) t2), (.ref K3, .int 12 t3)]) (h1 : σ₁.mt = (d, o) :: mt₁) (h2 : (K1, k1) ∈ σ₁.fl ++ V.nd) (h3 : (K2, k2) ∈ σ₁.fl ++ V.nd) (h4 : (K3, k3) ∈ σ₁.fl ++ V.nd)
    (h5 : TupKeyObj (intKind rprog V.w) [1, 2] k1) (h6 : TupKeyObj (intKind rprog V.w) [2, 2] k2) (h7 : TupKeyObj (intKind rprog V.w) [0, 1] k3) (h8 : ∀ o', TupTab (intKind rprog V.w) PyData.int [(d, o'), (K1, k1), (K2, k2), (K3, k3)] d (KerD v) → Q (.ref d) ⟨σ₁.m, σ₁.cm, mt₁, [(d, o')] :: σ₁.im⟩) : KDictT V d o Q vs σ₁
theorem k_dictT {d : Addr} {o : Obj} {Q : Value → St → Prop} {K1 K2 K3 : Addr} {v : Int} {a1 a2 a3 a4 a5 a6 tv t2 t3 : Tok} {j1 j2 j3 : Nat} {mt₁ : Led} (e : σ.mt = (d, o) :: mt₁) (m1 : (K1, tup [.int 1 a1, .int 2 a2] j1) ∈ σ.fl ++ V.nd) (m2 : (K2, tup [.int 2 a3, .int 2 a4] j2) ∈ σ.fl ++ V.nd) (m3 : (K3, tup [.int 0 a5, .int 1 a6] j3) ∈ σ.fl ++ V.nd)
    (h : ∀ o', TupTab (intKind rprog V.w) PyData.int [(d, o'), (K1, tup [.int 1 a1, .int 2 a2] j1), (K2, tup [.int 2 a3, .int 2 a4] j2), (K3, tup [.int 0 a5, .int 1 a6] j3)] d (KerD v) → let σ' : St := ⟨σ.m, σ.cm, mt₁, [(d, o')] :: σ.im⟩; Q (.ref d) σ') : KDictT V d o Q [(.ref K1, .int v tv), (.ref K2, .int (-7) t2), (.ref K3, .int 12 t3)] σ :=
  ⟨K1, K2, K3, _, _, _, v, tv, t2, t3, mt₁, rfl, e, m1, m2, m3, ⟨rfl, _, _, rfl, .cons rfl (.cons rfl .nil)⟩, ⟨rfl, _, _, rfl, .cons rfl (.cons rfl .nil)⟩, ⟨rfl, _, _, rfl, .cons rfl (.cons rfl .nil)⟩, h⟩
theorem r_dictT {keys : List (Option PySem.Expr)} {values : List PySem.Expr} {pos : Pos} {Q : Value → St → Prop} (hk : (tupFirst keys && keys.all (·.isSome) && !keys.isEmpty && keys.length == values.length && Nat.ble keys.length 15) = true) (hu : Nat.ble 3 V.U = true)
    (h : ∀ d o, (d == sysModules) = false → o.IsDictOf (intKind rprog V.w) [] → let σ' := σ.mut d o; Run c σ' (evalPairs (pairTrees keys values V.env pos)) (KDictT V d o Q)) : Run c σ (eval (.Dict keys values pos) V.env) Q := fun s I => by
  have T := I.T
  obtain ⟨ce, I⟩ := I
  simp only [Bool.and_eq_true, Bool.not_eq_true', beq_iff_eq] at hk
  obtain ⟨⟨⟨⟨k1, k2⟩, k3⟩, k4⟩, k5⟩ := hk
  have h1 := c.hu
  have h2 := Nat.le_of_ble_eq_true hu
  refine dict_tupK k1 I.F I.N (Top.nolimit T) k2 k4 (fun e => by rw [e] at k3; cases k3) (Nat.le_of_ble_eq_true k5) fun d h' o F' N' l lo hD => ?_
  refine (h d o lo hD).on (I.mut (k := s.toks) F' N' fun p hp => Nat.ne_of_lt (l p hp)) fun vs σ₁ s₁ I₁ ⟨K1, K2, K3, q1, q2, q3, v, tv, t2, t3, mt₁, ev, e, m1, m2, m3, w1, w2, w3, h3⟩ => ?_
  obtain ⟨ce₁, I₁⟩ := I₁
  subst ev
  have up := dict_up I₁ e
  have N₁ : News c.g V.L s₁.heap ((d, o) :: ((c.hid ++ ce₁) ++ (mt₁ ++ (σ₁.fl ++ V.nd)))) := fun p hp => I₁.N p (by
    rw [e]
    simp only [List.mem_cons, List.mem_append] at hp ⊢
    rcases hp with h | (h | h) | h | h | h <;> simp [h])
  have inr : ∀ p, p ∈ σ₁.fl ++ V.nd → p ∈ (c.hid ++ ce₁) ++ (mt₁ ++ (σ₁.fl ++ V.nd)) := fun p hp => List.mem_append_right _ (List.mem_append_right _ hp)
  refine kern_made I₁.F N₁ .head (fun p hp => ?_) lo hD (inr _ m1) (inr _ m2) (inr _ m3) w1 w2 w3 (by show c.un < cLine; omega) fun h'' o' tk F'' N'' TT => ⟨_, dict_inv I₁ e F'' (fun p hp => N'' p ?_), h3 o' TT⟩
  · rcases List.mem_append.mp hp with hp | hp
    · exact up.1 p hp
    · exact up.2 p hp
  · simp only [List.mem_cons, List.mem_append] at hp ⊢
    rcases hp with (h | h) | h | h | h | h <;> simp [h]
end
end R17
section P2
def Tab1 (led : Led) (oP : Obj) : Prop := (∃ (c1 : Addr) (o1 : Obj), oP = tabObj #[rawInt 238, rawInt 17, .ref c1] ∧ (c1, o1) ∈ led ∧ CodeO o1) ∨ TabFull led oP
def Tab2 (led : Led) (oP : Obj) : Prop := (∃ (c1 c2 : Addr) (o1 o2 : Obj), oP = tabObj #[rawInt 238, rawInt 17, .ref c1, rawInt 239, rawInt 19, .ref c2] ∧ (c1, o1) ∈ led ∧ (c2, o2) ∈ led ∧ CodeO o1 ∧ CodeO o2) ∨ TabFull led oP
def Tab3 (led : Led) (oP : Obj) : Prop := (∃ (c1 c2 c3 : Addr) (o1 o2 o3 : Obj), oP = tabObj #[rawInt 238, rawInt 17, .ref c1, rawInt 239, rawInt 19, .ref c2, rawInt 240, rawInt 16, .ref c3] ∧ (c1, o1) ∈ led ∧ (c2, o2) ∈ led ∧ (c3, o3) ∈ led ∧ CodeO o1 ∧ CodeO o2 ∧ CodeO o3) ∨ TabFull led oP
def TabStep (pos : Pos) (T : Led → Obj → Prop) (G : Led) (oP : Obj) : Prop :=
  (∃ ps : Array Value, oP = tabObj ps ∧ TriplesOk ps.toList ∧ codeAmong pos ps.toList = none ∧ ∀ c o, CodeO o → T ((c, o) :: G) (tabObj (ps ++ #[rawInt pos.line, rawInt pos.col, .ref c]))) ∨
  (∃ (ps : Array Value) (c : Addr) (o : Obj), oP = tabObj ps ∧ TriplesOk ps.toList ∧ codeAmong pos ps.toList = some (.ref c) ∧ (c, o) ∈ G ∧ CodeO o ∧ T G oP)
section
variable {G : Led} {oP : Obj} {pos : Pos}
theorem tab_step1 (h : TabSt G oP) (h1 : pos.line = 238) (h2 : pos.col = 17) : TabStep pos Tab1 G oP := by
  rcases h with rfl | h
  · exact .inl ⟨_, rfl, by kn_triples, by rfl, fun c o ho => by rw [h1, h2]; exact .inl ⟨c, o, rfl, .head _, ho⟩⟩
  · have h0 := h
    obtain ⟨c1, c2, c3, c4, o1, o2, o3, o4, rfl, m1, m2, m3, m4, q1, q2, q3, q4⟩ := h
    exact .inr ⟨_, c1, o1, rfl, by kn_triples, by simp [codeAmong, rawInt, h1, h2], m1, q1, .inr h0⟩
theorem tab_step2 (h : Tab1 G oP) (h1 : pos.line = 239) (h2 : pos.col = 19) : TabStep pos Tab2 G oP := by
  rcases h with ⟨c1, o1, rfl, m1, q1⟩ | h
  · exact .inl ⟨_, rfl, by kn_triples, by simp [codeAmong, rawInt, h1, h2], fun c o ho => by rw [h1, h2]; exact .inl ⟨c1, c, o1, o, rfl, .tail _ m1, .head _, q1, ho⟩⟩
  · have h0 := h
    obtain ⟨c1, c2, c3, c4, o1, o2, o3, o4, rfl, m1, m2, m3, m4, q1, q2, q3, q4⟩ := h
    exact .inr ⟨_, c2, o2, rfl, by kn_triples, by simp [codeAmong, rawInt, h1, h2], m2, q2, .inr h0⟩
theorem tab_step3 (h : Tab2 G oP) (h1 : pos.line = 240) (h2 : pos.col = 16) : TabStep pos Tab3 G oP := by
  rcases h with ⟨c1, c2, o1, o2, rfl, m1, m2, q1, q2⟩ | h
  · exact .inl ⟨_, rfl, by kn_triples, by simp [codeAmong, rawInt, h1, h2], fun c o ho => by rw [h1, h2]; exact .inl ⟨c1, c2, c, o1, o2, o, rfl, .tail _ m1, .tail _ m2, .head _, q1, q2, ho⟩⟩
  · have h0 := h
    obtain ⟨c1, c2, c3, c4, o1, o2, o3, o4, rfl, m1, m2, m3, m4, q1, q2, q3, q4⟩ := h
    exact .inr ⟨_, c3, o3, rfl, by kn_triples, by simp [codeAmong, rawInt, h1, h2], m3, q3, .inr h0⟩
theorem tab_step4 (h : Tab3 G oP) (h1 : pos.line = 241) (h2 : pos.col = 19) : TabStep pos TabFull G oP := by
  rcases h with ⟨c1, c2, c3, o1, o2, o3, rfl, m1, m2, m3, q1, q2, q3⟩ | h
  · exact .inl ⟨_, rfl, by kn_triples, by simp [codeAmong, rawInt, h1, h2], fun c o ho => by rw [h1, h2]; exact ⟨c1, c2, c3, c, o1, o2, o3, o, rfl, .tail _ m1, .tail _ m2, .tail _ m3, .head _, q1, q2, q3, ho⟩⟩
  · have h0 := h
    obtain ⟨c1, c2, c3, c4, o1, o2, o3, o4, rfl, m1, m2, m3, m4, q1, q2, q3, q4⟩ := h
    exact .inr ⟨_, c4, o4, rfl, by kn_triples, by simp [codeAmong, rawInt, h1, h2], m4, q4, h0⟩
end
section
variable {M : Model} {A : Around} {E : Value → Shared → Prop} {s : Shared} {h₀ : Heap} {L a c P : Addr} {m mg mb : Str → Option Value} {cn : Str} {cs : Scope} {ccd : Value} {cl : List (Str × Addr)} {news rest G : Led} {p : Program} {loose : List Str} {mean : ExcName → Option Value} {name qual : Str} {params : Arguments} {body : PySem.Expr} {scope : Scope} {oP : Obj} {pos : Pos} {firstLine : Nat} {clos : List (Str × Addr)}
theorem lam_any {T : Led → Obj → Prop} {Q : Value → Shared → Prop} (hT : TabStep pos T G oP) (F : Fr h₀ L s.heap m) (N : News h₀ L s.heap news) (k : Pick P oP news rest) (hne : ∀ p ∈ rest, p.1 ≠ P) (hG : ∀ p ∈ G, p ∈ rest) (Tp : Top p loose mean mg mb h₀) (C : CodeHd h₀ c P) (hcd : ccd = .ref c) (hq : qual = Str.ofString "_law_font.<locals>.<lambda>")
    (hcl : closureFor scope (envX cn cs L a ccd cl) = pure clos)
    (h : ∀ f c' oc vs t ctv cds oP' h' tk, Fr h₀ L h' m → News h₀ L h' ((f, kla_obj name qual params body scope clos ((mg "__name__").getD .none) c' ctv) :: (P, oP') :: (cds ++ rest)) →
      (c', oc) ∈ cds ++ G → oc.data = .fields vs → vs[1]? = some (.str qual t) → T (cds ++ G) oP' → (∀ p ∈ cds, LCg.Off1 p.1 ((P, oP) :: rest)) → LCg.Off1 f ((P, oP) :: (cds ++ rest)) → Q (.ref f) { s with heap := h', toks := tk }) :
    wpAny M A (makeFunction name qual params (.expr body) scope (envX cn cs L a ccd cl) [] [] [] pos firstLine) Q E s := by
  subst hq
  rcases hT with ⟨ps, rfl, ht, hn, hT⟩ | ⟨ps, c0, o0, rfl, ht, hn, hm, hc, hT⟩
  · refine kla_nest F (news_pick N k) Tp C hcd (.head hne) ht hn hcl fun f c' oc vs t ctv h' tk F' N' d1 d2 l1 l2 => ?_
    refine h f c' oc vs t ctv [(c', oc)] _ h' tk F' (fun p hp => N' p ?_) (.head _) d1 d2 (hT c' oc ⟨vs, t, d1, d2⟩) (fun p hp => ?_) ?_
    · rcases List.mem_cons.mp hp with rfl | hp
      · exact .head _
      · rcases List.mem_cons.mp hp with rfl | hp
        · exact .tail _ (.tail _ (.head _))
        · rcases List.mem_cons.mp hp with rfl | hp
          · exact .tail _ (.head _)
          · exact .tail _ (.tail _ (.tail _ hp))
    · rw [List.mem_singleton.mp hp]
      exact off1_of fun q hq => Nat.ne_of_lt (l1 q hq)
    · refine off1_of fun q hq => ?_
      rcases List.mem_cons.mp hq with rfl | hq
      · exact Nat.ne_of_lt (Nat.lt_trans (l1 _ (.head _)) l2)
      · rcases List.mem_cons.mp hq with rfl | hq
        · exact Nat.ne_of_lt l2
        · exact Nat.ne_of_lt (Nat.lt_trans (l1 _ (.tail _ hq)) l2)
  · obtain ⟨vs, t, d1, d2⟩ := hc
    refine kla_hit F (news_pick N k) Tp C hcd (.head _) ht hn hcl fun f ctv h' tk F' N' l1 => ?_
    exact h f c0 o0 vs t ctv [] _ h' tk F' N' hm d1 d2 hT (fun p hp => nomatch hp) (off1_of fun q hq => Nat.ne_of_lt (l1 q hq))
end
section
variable {i j : Led} {oP : Obj}
end
def Mono (T : Led → Obj → Prop) : Prop := ∀ i j oP, (∀ p ∈ i, p ∈ j) → T i oP → T j oP
theorem mono4 : Mono TabFull := fun _ _ _ hs h => h.mono hs
theorem adv_bounds {a0 a2 a3 : Int} (b0 : -1000 ≤ a0) (b1 : a0 ≤ 1000) (b2 : -1000 ≤ a2) (b3 : a2 ≤ 1000) (b4 : -1000 ≤ a3) (b5 : a3 ≤ 1000) : ∀ a ∈ [a0, 500, a2, a3], -1000 ≤ a ∧ a ≤ 1000 := by
  intro a ha
  simp only [List.mem_cons, List.not_mem_nil, or_false] at ha
  rcases ha with rfl | rfl | rfl | rfl <;> omega
end P2
section R18
section
variable {V : Vis} {c : Ctx V} {σ : St}
theorem r_lamA {params : Arguments} {body : PySem.Expr} {scope : Scope} {pos : Pos} {Q : Value → St → Prop} {P k : Addr} {oP : Obj} {clos : List (Str × Addr)} {mt' : Obj → Led} {T : Led → Obj → Prop} {G : Led} (hT : TabStep pos T G oP) (hG : ∀ p ∈ G, p ∈ σ.fl ++ V.nd) (hV : V.cp.isEmpty = true) (hd : defaultsOf params V.env = ([], [])) (hq : V.env.qual ++ Str.ofString "<lambda>" = Str.ofString "_law_font.<locals>.<lambda>") (hcd : V.ccd = .ref k) (hC : CodeHd c.base k P) (u : ∀ oP', Rep P oP oP' σ.mt (mt' oP')) (hcl : closureFor scope V.fenv = pure clos)
    (h : ∀ f fo c' oc vs t pm ctv cds oP', fo = kla_obj (Str.ofString "<lambda>") (Str.ofString "_law_font.<locals>.<lambda>") params body scope clos pm c' ctv → oc.data = .fields vs → vs[1]? = some (.str (Str.ofString "_law_font.<locals>.<lambda>") t) → let σ' : St := ⟨σ.m, σ.cm, mt' oP', [(f, fo)] :: cds :: σ.im⟩; T (cds ++ G) oP' → (c', oc) ∈ cds ++ G → Q (.ref f) σ') : Run c σ (eval (.Lambda params body scope pos) V.env) Q := fun s I => by
  have Tp := I.T
  obtain ⟨ce, I⟩ := I
  refine kla_eval hd ?_
  rw [hq, env_top hV]
  have st := Below.stays c.B
  have hPm := (u oP).mem
  have hrest : ∀ p ∈ c.hid ++ (ce ++ (σ.mt.filter (fun p => !decide (p.1 = P)) ++ (σ.fl ++ V.nd))), p.1 ≠ P := fun p hp => by
    have h1 := I.S.1
    rw [List.map_append, List.map_append, List.nodup_append] at h1
    rcases List.mem_append.mp hp with hp | hp
    · exact h1.2.2 _ (List.mem_map_of_mem hp) P (List.mem_append_right _ (List.mem_map_of_mem (f := (·.1)) hPm))
    rcases List.mem_append.mp hp with hp | hp
    · exact (List.nodup_append.mp h1.2.1).2.2 _ (List.mem_map_of_mem hp) P (List.mem_map_of_mem (f := (·.1)) hPm)
    rcases List.mem_append.mp hp with hp | hp
    · simpa using (List.mem_filter.mp hp).2
    · exact fun e => I.S.2 _ (List.mem_append_right _ (List.mem_append_right _ hPm)) p hp e.symm
  have N0 : News c.g V.L s.heap ((P, oP) :: (c.hid ++ (ce ++ (σ.mt.filter (fun p => !decide (p.1 = P)) ++ (σ.fl ++ V.nd))))) := fun p hp => I.N p (by
    rcases List.mem_cons.mp hp with rfl | hp
    · exact List.mem_append_right _ (List.mem_append_right _ (List.mem_append_left _ hPm))
    · simp only [List.mem_append, List.mem_filter] at hp ⊢
      rcases hp with h | h | h | h | h <;> simp [h])
  refine lam_any hT I.F N0 .head hrest (fun p hp => List.mem_append_right _ (List.mem_append_right _ (List.mem_append_right _ (hG p hp)))) Tp (hC.keeps st) hcd rfl hcl fun f c' oc vs t ctv cds oP' h' tk F' N' mc d1 d2 hT' hO hf => ?_
  exact ⟨_, lam_inv (h' := h') (tk := tk) I (u _) rfl F' N' hO hf, h f _ c' oc vs t ((c.mg "__name__").getD .none) ctv cds oP' rfl d1 d2 hT' mc⟩
end
end R18
section N12
abbrev LinesP (w : World) (need : Led) (ds : List Dat) (s q b : Rat) (ls : List (Int × Int × Int)) (r : Value) (tl : Led) : Prop := ∃ (R : Addr) (vs : List Value) (n : Nat), r = .ref R ∧ (R, listOf vs.toArray n) ∈ tl ∧ All2 (LineIn w s q (need ++ tl)) vs (linesQ ds b s ls)
theorem lines_0 (w : World) {need : Led} {X : Addr} {as : List Int} {v : Int} {ds : List Dat} {units : Int} {pv zv : Value} {a : Str} {t1 t2 t3 : Tok} {p q z : Rat} (hf : FnG w need X as v ds) (hds : DsOK ds) (hp : PtIn need pv p q) (hz : RatIn need zv z) (ha : AnchOK a) (hu : 0 < units) (hu' : units < 2 ^ 62) (sb : ScB (z / (units : Rat))) (bz : Bd 4 z) (bp : Bd 4 p) :
    GS w 322 8 80 [.ref X, .int units t1, .str ⟨#[]⟩ t2, pv, zv, .str a t3] need (LinesP w need ds (z / (units : Rat)) q (p + z / (units : Rat) * shiftQ a (lenQ as v (glys []))) (letsFrom as v 0 (glys []))) := by
  k_with "r call" => ((fail_if_success (k_extra "off N12")); (first
    | ((with_reducible refine' r_gs (letters_0 _ ?za) (fun _ h => hasNd h) ?zd ?zu ?_); (case za => with_reducible assumption); (case zd => exact rfl); (case zu => exact rfl); intro r9 tl9 P9 σ9; obtain ⟨T9, R9, k9, n9, t9, e9, m9, m8, -⟩ := P9; subst e9)
    | ((with_reducible refine' r_gs (shift_g _ ?za) (fun _ h => hasNd h) ?zd ?zu ?_); (case za => with_reducible assumption); (case zd => exact rfl); (case zu => exact rfl); intro r9 tl9 P9 σ9; obtain ⟨A9, q9, q8, k9, e9, m9⟩ := P9; subst e9)
    | k_extra "r q"
    | ((with_reducible refine' r_gs (segs_g _ ?za) ?zn ?zd ?zu ?_); (case za => with_reducible assumption); (case zn => (intro p9 hp9; k_extra "r mem")); (case zd => exact rfl); (case zu => exact rfl); intro r9 tl9 P9 σ9)
    | ((with_reducible refine' r_gs (lmat_g _ (ratHd ..) (ratTl (ratHd ..)) (ratTl (ratTl (ratHd ..)))) (allC ?za (allC ?zb (allC ?ze allN))) ?zd ?zu ?_); (case za => k_extra "r mem"); (case zb => k_extra "r mem"); (case ze => k_extra "r mem"); (case zd => exact rfl); (case zu => exact rfl); intro r9 tl9 P9 σ9)
    | ((with_reducible refine' r_gs (g4 _ _ ?za ?zb) (fun _ h => hasNd h) ?zd ?zu ?_); (case za => with_reducible assumption); (case zb => with_reducible assumption); (case zd => exact rfl); (case zu => exact rfl); intro r9 tl9 P9 σ9)
    | k_extra "r leaf"))
  k_with "r ou" => ((fail_if_success (k_extra "off N12")); (first
    | (refine' List.mem_append_left _ ?yr; (case yr => with_reducible assumption))
    | (refine' List.mem_append_right _ ?yr; (case yr => k_extra "r out"))))
  k_with "r lo" => ((fail_if_success (k_extra "off N12")); ((refine' subR ?yr; (case yr => k_extra "r sub"))))
  have hf' := hf
  obtain ⟨DX, f1, f2, f3, f4, n, u1, u2, u3, u4, u5, u6, c1, c2, d1, d2, d3, d4, m1, m2, m3, m4, m5, m6, -, -, -, g4⟩ := hf'
  replace g4 := fnG_out hds g4
  obtain ⟨P, e1, e2, w1, w2, w3, w4, k, k1, k2, rfl, n1, n2, n3⟩ := hp
  obtain ⟨Z, w5, w6, k3, rfl, n4⟩ := hz
  have q1 : 0 < (units : Rat).num := by rw [Rat.num_intCast]; exact hu
  have q2 : (units : Rat).num < 2 ^ 62 := by rw [Rat.num_intCast]; exact hu'
  have q3 : (z.den : Int) < 2 ^ 62 := bz.out (by decide)
  have q4 : ((units : Rat).den : Int) < 2 ^ 62 := Bd.int.out (by decide)
  have np := sb.lo
  have np' := sb.hi
  have q5 : ((z / (units : Rat)).den : Int) < 2 ^ 62 := sb.den.out (by decide)
  have q6 : ((shiftQ a (([] : List Int).sum + ([] : List Int).sum)).den : Int) < 2 ^ 62 := shiftB.out (by decide)
  have q7 : (p.den : Int) < 2 ^ 62 := bp.out (by decide)
  have q8 : ((z / (units : Rat) * shiftQ a (([] : List Int).sum + ([] : List Int).sum)).den : Int) < 2 ^ 62 := (sb.den.mul shiftB).out (by decide)
  have q10 : ((p + z / (units : Rat) * shiftQ a (([] : List Int).sum + ([] : List Int).sum)).den : Int) < 2 ^ 62 := (bp.add (sb.den.mul shiftB)).out (by decide)
  k_extra "r enter"
  k_extra "r go"
  refine ⟨_, _, _, rfl, by k_extra "r out", ?_⟩
  show All2 _ _ []
  exact .nil
theorem lines_1 (w : World) {need : Led} {X : Addr} {as : List Int} {v : Int} {ds : List Dat} {x0 : Nat} {units : Int} {pv zv : Value} {a : Str} {t1 t2 t3 : Tok} {p q z : Rat} (hf : FnG w need X as v ds) (hds : DsOK ds) (hp : PtIn need pv p q) (hz : RatIn need zv z) (ha : AnchOK a) (hu : 0 < units) (hu' : units < 2 ^ 62) (sb : ScB (z / (units : Rat))) (bz : Bd 4 z) (bp : Bd 4 p) :
    GS w 322 8 80 [.ref X, .int units t1, .str ⟨#[x0]⟩ t2, pv, zv, .str a t3] need (LinesP w need ds (z / (units : Rat)) q (p + z / (units : Rat) * shiftQ a (lenQ as v (glys [x0]))) (letsFrom as v 0 (glys [x0]))) := by
  k_with "r call" => ((fail_if_success (k_extra "off N12")); (first
    | ((with_reducible refine' r_gs (letters_1 _ ?za) (fun _ h => hasNd h) ?zd ?zu ?_); (case za => with_reducible assumption); (case zd => exact rfl); (case zu => exact rfl); intro r9 tl9 P9 σ9; obtain ⟨T9, R9, v0, k9, n9, t9, e9, m9, m8, ⟨Y0, E0, i0, y01, y02, y03, y04, y05, y06, rfl, o0, p0⟩⟩ := P9; subst e9)
    | ((with_reducible refine' r_gs (shift_g _ ?za) (fun _ h => hasNd h) ?zd ?zu ?_); (case za => with_reducible assumption); (case zd => exact rfl); (case zu => exact rfl); intro r9 tl9 P9 σ9; obtain ⟨A9, q9, q8, k9, e9, m9⟩ := P9; subst e9)
    | k_extra "r q"
    | ((with_reducible refine' r_gs (segs_g _ ?za) ?zn ?zd ?zu ?_); (case za => with_reducible assumption); (case zn => (intro p9 hp9; k_extra "r mem")); (case zd => exact rfl); (case zu => exact rfl); intro r9 tl9 P9 σ9)
    | ((with_reducible refine' r_gs (lmat_g _ (ratHd ..) (ratTl (ratHd ..)) (ratTl (ratTl (ratHd ..)))) (allC ?za (allC ?zb (allC ?ze allN))) ?zd ?zu ?_); (case za => k_extra "r mem"); (case zb => k_extra "r mem"); (case ze => k_extra "r mem"); (case zd => exact rfl); (case zu => exact rfl); intro r9 tl9 P9 σ9)
    | ((with_reducible refine' r_gs (g4 _ _ ?za ?zb) (fun _ h => hasNd h) ?zd ?zu ?_); (case za => with_reducible assumption); (case zb => with_reducible assumption); (case zd => exact rfl); (case zu => exact rfl); intro r9 tl9 P9 σ9)
    | k_extra "r leaf"))
  k_with "r ou" => ((fail_if_success (k_extra "off N12")); (first
    | (refine' List.mem_append_left _ ?yr; (case yr => with_reducible assumption))
    | (refine' List.mem_append_right _ ?yr; (case yr => k_extra "r out"))))
  k_with "r lo" => ((fail_if_success (k_extra "off N12")); ((refine' subR ?yr; (case yr => k_extra "r sub"))))
  have hf' := hf
  obtain ⟨DX, f1, f2, f3, f4, n, u1, u2, u3, u4, u5, u6, c1, c2, d1, d2, d3, d4, m1, m2, m3, m4, m5, m6, -, -, -, g4⟩ := hf'
  replace g4 := fnG_out hds g4
  obtain ⟨P, e1, e2, w1, w2, w3, w4, k, k1, k2, rfl, n1, n2, n3⟩ := hp
  obtain ⟨Z, w5, w6, k3, rfl, n4⟩ := hz
  have q1 : 0 < (units : Rat).num := by rw [Rat.num_intCast]; exact hu
  have q2 : (units : Rat).num < 2 ^ 62 := by rw [Rat.num_intCast]; exact hu'
  have q3 : (z.den : Int) < 2 ^ 62 := bz.out (by decide)
  have q4 : ((units : Rat).den : Int) < 2 ^ 62 := Bd.int.out (by decide)
  have np := sb.lo
  have np' := sb.hi
  have q5 : ((z / (units : Rat)).den : Int) < 2 ^ 62 := sb.den.out (by decide)
  have q6 : ((shiftQ a (([(adv as (gly x0))] : List Int).sum + ([] : List Int).sum)).den : Int) < 2 ^ 62 := shiftB.out (by decide)
  have q7 : (p.den : Int) < 2 ^ 62 := bp.out (by decide)
  have q8 : ((z / (units : Rat) * shiftQ a (([(adv as (gly x0))] : List Int).sum + ([] : List Int).sum)).den : Int) < 2 ^ 62 := (sb.den.mul shiftB).out (by decide)
  have q10 : ((p + z / (units : Rat) * shiftQ a (([(adv as (gly x0))] : List Int).sum + ([] : List Int).sum)).den : Int) < 2 ^ 62 := (bp.add (sb.den.mul shiftB)).out (by decide)
  have l0 := gly_lo x0
  have h0 := gly_hi x0
  have a0 : (((0 : Int) : Rat).den : Int) < 2 ^ 62 := Bd.int.out (by decide)
  have b0 : ((z / (units : Rat) * ((0 : Int) : Rat)).den : Int) < 2 ^ 62 := (sb.den.mul Bd.int).out (by decide)
  k_extra "r enter"
  k_extra "r go"
  refine ⟨_, _, _, rfl, by k_extra "r out", ?_⟩
  show All2 _ _ [(⟨p + z / (units : Rat) * shiftQ a (([(adv as (gly x0))] : List Int).sum + ([] : List Int).sum) + z / (units : Rat) * ((0 : Int) : Rat), six ds (gly x0)⟩ : LD)]
  exact .cons (lineI (by k_extra "r ou") (datMono (by with_reducible assumption) (by k_extra "r lo")) (MatIn.mono (by with_reducible assumption) (sub3 (by k_extra "r ou") (by k_extra "r ou") (by k_extra "r ou") (by k_extra "r lo")))) (.nil)
theorem lines_2 (w : World) {need : Led} {X : Addr} {as : List Int} {v : Int} {ds : List Dat} {x0 x1 : Nat} {units : Int} {pv zv : Value} {a : Str} {t1 t2 t3 : Tok} {p q z : Rat} (hf : FnG w need X as v ds) (hds : DsOK ds) (hp : PtIn need pv p q) (hz : RatIn need zv z) (ha : AnchOK a) (hu : 0 < units) (hu' : units < 2 ^ 62) (sb : ScB (z / (units : Rat))) (bz : Bd 4 z) (bp : Bd 4 p) :
    GS w 322 8 80 [.ref X, .int units t1, .str ⟨#[x0, x1]⟩ t2, pv, zv, .str a t3] need (LinesP w need ds (z / (units : Rat)) q (p + z / (units : Rat) * shiftQ a (lenQ as v (glys [x0, x1]))) (letsFrom as v 0 (glys [x0, x1]))) := by
  k_with "r call" => ((fail_if_success (k_extra "off N12")); (first
    | ((with_reducible refine' r_gs (letters_2 _ ?za) (fun _ h => hasNd h) ?zd ?zu ?_); (case za => with_reducible assumption); (case zd => exact rfl); (case zu => exact rfl); intro r9 tl9 P9 σ9; obtain ⟨T9, R9, v0, v1, k9, n9, t9, e9, m9, m8, ⟨Y0, E0, i0, y01, y02, y03, y04, y05, y06, rfl, o0, p0⟩, ⟨Y1, E1, i1, y11, y12, y13, y14, y15, y16, rfl, o1, p1⟩⟩ := P9; subst e9)
    | ((with_reducible refine' r_gs (shift_g _ ?za) (fun _ h => hasNd h) ?zd ?zu ?_); (case za => with_reducible assumption); (case zd => exact rfl); (case zu => exact rfl); intro r9 tl9 P9 σ9; obtain ⟨A9, q9, q8, k9, e9, m9⟩ := P9; subst e9)
    | k_extra "r q"
    | ((with_reducible refine' r_gs (segs_g _ ?za) ?zn ?zd ?zu ?_); (case za => with_reducible assumption); (case zn => (intro p9 hp9; k_extra "r mem")); (case zd => exact rfl); (case zu => exact rfl); intro r9 tl9 P9 σ9)
    | ((with_reducible refine' r_gs (lmat_g _ (ratHd ..) (ratTl (ratHd ..)) (ratTl (ratTl (ratHd ..)))) (allC ?za (allC ?zb (allC ?ze allN))) ?zd ?zu ?_); (case za => k_extra "r mem"); (case zb => k_extra "r mem"); (case ze => k_extra "r mem"); (case zd => exact rfl); (case zu => exact rfl); intro r9 tl9 P9 σ9)
    | ((with_reducible refine' r_gs (g4 _ _ ?za ?zb) (fun _ h => hasNd h) ?zd ?zu ?_); (case za => with_reducible assumption); (case zb => with_reducible assumption); (case zd => exact rfl); (case zu => exact rfl); intro r9 tl9 P9 σ9)
    | k_extra "r leaf"))
  k_with "r ou" => ((fail_if_success (k_extra "off N12")); (first
    | (refine' List.mem_append_left _ ?yr; (case yr => with_reducible assumption))
    | (refine' List.mem_append_right _ ?yr; (case yr => k_extra "r out"))))
  k_with "r lo" => ((fail_if_success (k_extra "off N12")); ((refine' subR ?yr; (case yr => k_extra "r sub"))))
  have hf' := hf
  obtain ⟨DX, f1, f2, f3, f4, n, u1, u2, u3, u4, u5, u6, c1, c2, d1, d2, d3, d4, m1, m2, m3, m4, m5, m6, -, -, -, g4⟩ := hf'
  replace g4 := fnG_out hds g4
  obtain ⟨P, e1, e2, w1, w2, w3, w4, k, k1, k2, rfl, n1, n2, n3⟩ := hp
  obtain ⟨Z, w5, w6, k3, rfl, n4⟩ := hz
  have q1 : 0 < (units : Rat).num := by rw [Rat.num_intCast]; exact hu
  have q2 : (units : Rat).num < 2 ^ 62 := by rw [Rat.num_intCast]; exact hu'
  have q3 : (z.den : Int) < 2 ^ 62 := bz.out (by decide)
  have q4 : ((units : Rat).den : Int) < 2 ^ 62 := Bd.int.out (by decide)
  have np := sb.lo
  have np' := sb.hi
  have q5 : ((z / (units : Rat)).den : Int) < 2 ^ 62 := sb.den.out (by decide)
  have q6 : ((shiftQ a (([(adv as (gly x0)), (adv as (gly x1))] : List Int).sum + ([(ker v (gly x0) (gly x1))] : List Int).sum)).den : Int) < 2 ^ 62 := shiftB.out (by decide)
  have q7 : (p.den : Int) < 2 ^ 62 := bp.out (by decide)
  have q8 : ((z / (units : Rat) * shiftQ a (([(adv as (gly x0)), (adv as (gly x1))] : List Int).sum + ([(ker v (gly x0) (gly x1))] : List Int).sum)).den : Int) < 2 ^ 62 := (sb.den.mul shiftB).out (by decide)
  have q10 : ((p + z / (units : Rat) * shiftQ a (([(adv as (gly x0)), (adv as (gly x1))] : List Int).sum + ([(ker v (gly x0) (gly x1))] : List Int).sum)).den : Int) < 2 ^ 62 := (bp.add (sb.den.mul shiftB)).out (by decide)
  have l0 := gly_lo x0
  have h0 := gly_hi x0
  have a0 : (((0 : Int) : Rat).den : Int) < 2 ^ 62 := Bd.int.out (by decide)
  have b0 : ((z / (units : Rat) * ((0 : Int) : Rat)).den : Int) < 2 ^ 62 := (sb.den.mul Bd.int).out (by decide)
  have l1 := gly_lo x1
  have h1 := gly_hi x1
  have a1 : (((0 + (adv as (gly x0)) + (ker v (gly x0) (gly x1)) : Int) : Rat).den : Int) < 2 ^ 62 := Bd.int.out (by decide)
  have b1 : ((z / (units : Rat) * ((0 + (adv as (gly x0)) + (ker v (gly x0) (gly x1)) : Int) : Rat)).den : Int) < 2 ^ 62 := (sb.den.mul Bd.int).out (by decide)
  k_extra "r enter"
  k_extra "r go"
  refine ⟨_, _, _, rfl, by k_extra "r out", ?_⟩
  show All2 _ _ [(⟨p + z / (units : Rat) * shiftQ a (([(adv as (gly x0)), (adv as (gly x1))] : List Int).sum + ([(ker v (gly x0) (gly x1))] : List Int).sum) + z / (units : Rat) * ((0 : Int) : Rat), six ds (gly x0)⟩ : LD), (⟨p + z / (units : Rat) * shiftQ a (([(adv as (gly x0)), (adv as (gly x1))] : List Int).sum + ([(ker v (gly x0) (gly x1))] : List Int).sum) + z / (units : Rat) * ((0 + (adv as (gly x0)) + (ker v (gly x0) (gly x1)) : Int) : Rat), six ds (gly x1)⟩ : LD)]
  exact .cons (lineI (by k_extra "r ou") (datMono (by with_reducible assumption) (by k_extra "r lo")) (MatIn.mono (by with_reducible assumption) (sub3 (by k_extra "r ou") (by k_extra "r ou") (by k_extra "r ou") (by k_extra "r lo")))) (.cons (lineI (by k_extra "r ou") (datMono (by with_reducible assumption) (by k_extra "r lo")) (MatIn.mono (by with_reducible assumption) (sub3 (by k_extra "r ou") (by k_extra "r ou") (by k_extra "r ou") (by k_extra "r lo")))) (.nil))
theorem lines_3 (w : World) {need : Led} {X : Addr} {as : List Int} {v : Int} {ds : List Dat} {x0 x1 x2 : Nat} {units : Int} {pv zv : Value} {a : Str} {t1 t2 t3 : Tok} {p q z : Rat} (hf : FnG w need X as v ds) (hds : DsOK ds) (hp : PtIn need pv p q) (hz : RatIn need zv z) (ha : AnchOK a) (hu : 0 < units) (hu' : units < 2 ^ 62) (sb : ScB (z / (units : Rat))) (bz : Bd 4 z) (bp : Bd 4 p) :
    GS w 322 8 80 [.ref X, .int units t1, .str ⟨#[x0, x1, x2]⟩ t2, pv, zv, .str a t3] need (LinesP w need ds (z / (units : Rat)) q (p + z / (units : Rat) * shiftQ a (lenQ as v (glys [x0, x1, x2]))) (letsFrom as v 0 (glys [x0, x1, x2]))) := by
  k_with "r call" => ((fail_if_success (k_extra "off N12")); (first
    | ((with_reducible refine' r_gs (letters_3 _ ?za) (fun _ h => hasNd h) ?zd ?zu ?_); (case za => with_reducible assumption); (case zd => exact rfl); (case zu => exact rfl); intro r9 tl9 P9 σ9; obtain ⟨T9, R9, v0, v1, v2, k9, n9, t9, e9, m9, m8, ⟨Y0, E0, i0, y01, y02, y03, y04, y05, y06, rfl, o0, p0⟩, ⟨Y1, E1, i1, y11, y12, y13, y14, y15, y16, rfl, o1, p1⟩, ⟨Y2, E2, i2, y21, y22, y23, y24, y25, y26, rfl, o2, p2⟩⟩ := P9; subst e9)
    | ((with_reducible refine' r_gs (shift_g _ ?za) (fun _ h => hasNd h) ?zd ?zu ?_); (case za => with_reducible assumption); (case zd => exact rfl); (case zu => exact rfl); intro r9 tl9 P9 σ9; obtain ⟨A9, q9, q8, k9, e9, m9⟩ := P9; subst e9)
    | k_extra "r q"
    | ((with_reducible refine' r_gs (segs_g _ ?za) ?zn ?zd ?zu ?_); (case za => with_reducible assumption); (case zn => (intro p9 hp9; k_extra "r mem")); (case zd => exact rfl); (case zu => exact rfl); intro r9 tl9 P9 σ9)
    | ((with_reducible refine' r_gs (lmat_g _ (ratHd ..) (ratTl (ratHd ..)) (ratTl (ratTl (ratHd ..)))) (allC ?za (allC ?zb (allC ?ze allN))) ?zd ?zu ?_); (case za => k_extra "r mem"); (case zb => k_extra "r mem"); (case ze => k_extra "r mem"); (case zd => exact rfl); (case zu => exact rfl); intro r9 tl9 P9 σ9)
    | ((with_reducible refine' r_gs (g4 _ _ ?za ?zb) (fun _ h => hasNd h) ?zd ?zu ?_); (case za => with_reducible assumption); (case zb => with_reducible assumption); (case zd => exact rfl); (case zu => exact rfl); intro r9 tl9 P9 σ9)
    | k_extra "r leaf"))
  k_with "r ou" => ((fail_if_success (k_extra "off N12")); (first
    | (refine' List.mem_append_left _ ?yr; (case yr => with_reducible assumption))
    | (refine' List.mem_append_right _ ?yr; (case yr => k_extra "r out"))))
  k_with "r lo" => ((fail_if_success (k_extra "off N12")); ((refine' subR ?yr; (case yr => k_extra "r sub"))))
  have hf' := hf
  obtain ⟨DX, f1, f2, f3, f4, n, u1, u2, u3, u4, u5, u6, c1, c2, d1, d2, d3, d4, m1, m2, m3, m4, m5, m6, -, -, -, g4⟩ := hf'
  replace g4 := fnG_out hds g4
  obtain ⟨P, e1, e2, w1, w2, w3, w4, k, k1, k2, rfl, n1, n2, n3⟩ := hp
  obtain ⟨Z, w5, w6, k3, rfl, n4⟩ := hz
  have q1 : 0 < (units : Rat).num := by rw [Rat.num_intCast]; exact hu
  have q2 : (units : Rat).num < 2 ^ 62 := by rw [Rat.num_intCast]; exact hu'
  have q3 : (z.den : Int) < 2 ^ 62 := bz.out (by decide)
  have q4 : ((units : Rat).den : Int) < 2 ^ 62 := Bd.int.out (by decide)
  have np := sb.lo
  have np' := sb.hi
  have q5 : ((z / (units : Rat)).den : Int) < 2 ^ 62 := sb.den.out (by decide)
  have q6 : ((shiftQ a (([(adv as (gly x0)), (adv as (gly x1)), (adv as (gly x2))] : List Int).sum + ([(ker v (gly x0) (gly x1)), (ker v (gly x1) (gly x2))] : List Int).sum)).den : Int) < 2 ^ 62 := shiftB.out (by decide)
  have q7 : (p.den : Int) < 2 ^ 62 := bp.out (by decide)
  have q8 : ((z / (units : Rat) * shiftQ a (([(adv as (gly x0)), (adv as (gly x1)), (adv as (gly x2))] : List Int).sum + ([(ker v (gly x0) (gly x1)), (ker v (gly x1) (gly x2))] : List Int).sum)).den : Int) < 2 ^ 62 := (sb.den.mul shiftB).out (by decide)
  have q10 : ((p + z / (units : Rat) * shiftQ a (([(adv as (gly x0)), (adv as (gly x1)), (adv as (gly x2))] : List Int).sum + ([(ker v (gly x0) (gly x1)), (ker v (gly x1) (gly x2))] : List Int).sum)).den : Int) < 2 ^ 62 := (bp.add (sb.den.mul shiftB)).out (by decide)
  have l0 := gly_lo x0
  have h0 := gly_hi x0
  have a0 : (((0 : Int) : Rat).den : Int) < 2 ^ 62 := Bd.int.out (by decide)
  have b0 : ((z / (units : Rat) * ((0 : Int) : Rat)).den : Int) < 2 ^ 62 := (sb.den.mul Bd.int).out (by decide)
  have l1 := gly_lo x1
  have h1 := gly_hi x1
  have a1 : (((0 + (adv as (gly x0)) + (ker v (gly x0) (gly x1)) : Int) : Rat).den : Int) < 2 ^ 62 := Bd.int.out (by decide)
  have b1 : ((z / (units : Rat) * ((0 + (adv as (gly x0)) + (ker v (gly x0) (gly x1)) : Int) : Rat)).den : Int) < 2 ^ 62 := (sb.den.mul Bd.int).out (by decide)
  have l2 := gly_lo x2
  have h2 := gly_hi x2
  have a2 : (((0 + (adv as (gly x0)) + (ker v (gly x0) (gly x1)) + (adv as (gly x1)) + (ker v (gly x1) (gly x2)) : Int) : Rat).den : Int) < 2 ^ 62 := Bd.int.out (by decide)
  have b2 : ((z / (units : Rat) * ((0 + (adv as (gly x0)) + (ker v (gly x0) (gly x1)) + (adv as (gly x1)) + (ker v (gly x1) (gly x2)) : Int) : Rat)).den : Int) < 2 ^ 62 := (sb.den.mul Bd.int).out (by decide)
  k_extra "r enter"
  k_extra "r go"
  refine ⟨_, _, _, rfl, by k_extra "r out", ?_⟩
  show All2 _ _ [(⟨p + z / (units : Rat) * shiftQ a (([(adv as (gly x0)), (adv as (gly x1)), (adv as (gly x2))] : List Int).sum + ([(ker v (gly x0) (gly x1)), (ker v (gly x1) (gly x2))] : List Int).sum) + z / (units : Rat) * ((0 : Int) : Rat), six ds (gly x0)⟩ : LD), (⟨p + z / (units : Rat) * shiftQ a (([(adv as (gly x0)), (adv as (gly x1)), (adv as (gly x2))] : List Int).sum + ([(ker v (gly x0) (gly x1)), (ker v (gly x1) (gly x2))] : List Int).sum) + z / (units : Rat) * ((0 + (adv as (gly x0)) + (ker v (gly x0) (gly x1)) : Int) : Rat), six ds (gly x1)⟩ : LD), (⟨p + z / (units : Rat) * shiftQ a (([(adv as (gly x0)), (adv as (gly x1)), (adv as (gly x2))] : List Int).sum + ([(ker v (gly x0) (gly x1)), (ker v (gly x1) (gly x2))] : List Int).sum) + z / (units : Rat) * ((0 + (adv as (gly x0)) + (ker v (gly x0) (gly x1)) + (adv as (gly x1)) + (ker v (gly x1) (gly x2)) : Int) : Rat), six ds (gly x2)⟩ : LD)]
  exact .cons (lineI (by k_extra "r ou") (datMono (by with_reducible assumption) (by k_extra "r lo")) (MatIn.mono (by with_reducible assumption) (sub3 (by k_extra "r ou") (by k_extra "r ou") (by k_extra "r ou") (by k_extra "r lo")))) (.cons (lineI (by k_extra "r ou") (datMono (by with_reducible assumption) (by k_extra "r lo")) (MatIn.mono (by with_reducible assumption) (sub3 (by k_extra "r ou") (by k_extra "r ou") (by k_extra "r ou") (by k_extra "r lo")))) (.cons (lineI (by k_extra "r ou") (datMono (by with_reducible assumption) (by k_extra "r lo")) (MatIn.mono (by with_reducible assumption) (sub3 (by k_extra "r ou") (by k_extra "r ou") (by k_extra "r ou") (by k_extra "r lo")))) (.nil)))
theorem lines_g (w : World) {need : Led} {X : Addr} {as : List Int} {v : Int} {ds : List Dat} {xs : List Nat} {units : Int} {pv zv : Value} {a : Str} {t1 t2 t3 : Tok} {p q z : Rat} (hx : xs.length ≤ 3) (hf : FnG w need X as v ds) (hds : DsOK ds) (hp : PtIn need pv p q) (hz : RatIn need zv z) (ha : AnchOK a) (hu : 0 < units) (hu' : units < 2 ^ 62) (sb : ScB (z / (units : Rat))) (bz : Bd 4 z) (bp : Bd 4 p) :
    GS w 322 8 80 [.ref X, .int units t1, .str ⟨xs.toArray⟩ t2, pv, zv, .str a t3] need (LinesP w need ds (z / (units : Rat)) q (p + z / (units : Rat) * shiftQ a (lenQ as v (glys xs))) (letsFrom as v 0 (glys xs))) := by
  match xs, hx with
  | [], _ => exact lines_0 w hf hds hp hz ha hu hu' sb bz bp
  | [x0], _ => exact lines_1 w hf hds hp hz ha hu hu' sb bz bp
  | [x0, x1], _ => exact lines_2 w hf hds hp hz ha hu hu' sb bz bp
  | [x0, x1, x2], _ => exact lines_3 w hf hds hp hz ha hu hu' sb bz bp
theorem off_N12 : True := by
  k_with "off N12" => skip
  exact trivial
end N12
section N13
def ledL (s f : Rat) (d : LD) : List Dat := [.tuple [.str (Str.ofString "move"), dP (s * d.o.x0 + 0 * d.o.y0 + d.e) (0 * d.o.x0 + -s * d.o.y0 + f)], .tuple [.str (Str.ofString "line"), dP (s * d.o.x1 + 0 * d.o.y1 + d.e) (0 * d.o.x1 + -s * d.o.y1 + f)], .tuple [.str (Str.ofString "line"), dP (s * d.o.x2 + 0 * d.o.y2 + d.e) (0 * d.o.x2 + -s * d.o.y2 + f)], .tuple [.str (Str.ofString "line"), dP (s * d.o.x0 + 0 * d.o.y0 + d.e) (0 * d.o.x0 + -s * d.o.y0 + f)], .tuple [.str (Str.ofString "close")]]
theorem datApp {i : Led} {vs us : List Value} {ds es : List Dat} (h1 : DatAll i vs ds) (h2 : DatAll i us es) : DatAll i (vs ++ us) (ds ++ es) := ((All2.ofDats h1).append (All2.ofDats h2)).dats
theorem datAllMono {i j : Led} {v : List Value} {d : List Dat} (h : DatAll i v d) (hs : ∀ p ∈ i, p ∈ j) : DatAll j v d := h.mono hs
theorem mbI {s e f : Rat} {x y : Int} (sb : ScB s) (be : Bd 40 e) (bf : Bd 4 f) : MB s e f (x : Rat) (y : Rat) := ⟨sb, Bd.int, Bd.int, be, bf⟩
theorem ledL_g (w : World) {need : Led} {sv mv : Value} {s e f : Rat} {o : Six} (hs : DatIn need sv (segD o.x0 o.y0 o.x1 o.y1 o.x2 o.y2)) (hm : MatIn w need mv s e f) (sb : ScB s) (be : Bd 40 e) (bf : Bd 4 f) : GS w 371 8 64 [sv, mv] need (fun r tl => ∃ (R : Addr) (v1 v2 v3 v4 v5 : Value) (n : Nat), r = .ref R ∧ (R, listOf #[v1, v2, v3, v4, v5] n) ∈ tl ∧ DatAll tl [v1, v2, v3, v4, v5] (ledL s f ⟨e, o⟩)) :=
  (ledseg_g w hs hm (mbI sb be bf) (mbI sb be bf) (mbI sb be bf)).mono (fun _ h => h) fun _ _ h => dat5 h
theorem all_0 (w : World) {need : Led} {R : Addr} {n : Nat} {s f : Rat} (hm : (R, listOf #[] n) ∈ need)  (sb : ScB s) (bf : Bd 4 f) :
    GS w 378 10 80 [.ref R] need (fun r tl => DatIn tl r (.list (([] : List LD).map (ledL s f)).flatten)) := by
  k_with "r call" => ((fail_if_success (k_extra "off N13")); (first
    | ((with_reducible refine' r_gs (ledL_g _ ?za ?zb ?ze ?zf ?zg) (fun _ h => hasNd h) ?zd ?zu ?_); (case za => with_reducible assumption); (case zb => with_reducible assumption); (case ze => with_reducible assumption); (case zf => with_reducible assumption); (case zg => with_reducible assumption); (case zd => exact rfl); (case zu => exact rfl); intro r9 tl9 P9 σ9; obtain ⟨R9, x1, x2, x3, x4, x5, n9, e9, m9, h9⟩ := P9; subst e9)
    | k_extra "r leaf"))
  k_extra "r enter"
  k_extra "r go"
  refine datL (by k_extra "r out") ?_
  show DatAll _ _ []
  exact .nil
theorem all_1 (w : World) {need : Led} {R : Addr} {v0 : Value} {n : Nat} {s f : Rat} {l0 : LD} (hm : (R, listOf #[v0] n) ∈ need) (h0 : LineIn w s f need v0 l0) (b0 : Bd 40 l0.e) (sb : ScB s) (bf : Bd 4 f) :
    GS w 378 10 80 [.ref R] need (fun r tl => DatIn tl r (.list (([l0] : List LD).map (ledL s f)).flatten)) := by
  obtain ⟨T0, s0, m0, k0, rfl, t0, d0, a0⟩ := h0
  k_extra "r enter"
  k_extra "r go"
  refine datL (by k_extra "r out") ?_
  show DatAll _ _ ([] ++ ledL s f l0)
  exact (datApp .nil (datAllMono (by with_reducible assumption) (by k_extra "r sub")))
theorem all_2 (w : World) {need : Led} {R : Addr} {v0 v1 : Value} {n : Nat} {s f : Rat} {l0 l1 : LD} (hm : (R, listOf #[v0, v1] n) ∈ need) (h0 : LineIn w s f need v0 l0) (b0 : Bd 40 l0.e) (h1 : LineIn w s f need v1 l1) (b1 : Bd 40 l1.e) (sb : ScB s) (bf : Bd 4 f) :
    GS w 378 10 80 [.ref R] need (fun r tl => DatIn tl r (.list (([l0, l1] : List LD).map (ledL s f)).flatten)) := by
  obtain ⟨T0, s0, m0, k0, rfl, t0, d0, a0⟩ := h0
  obtain ⟨T1, s1, m1, k1, rfl, t1, d1, a1⟩ := h1
  k_extra "r enter"
  k_extra "r go"
  refine datL (by k_extra "r out") ?_
  show DatAll _ _ (([] ++ ledL s f l0) ++ ledL s f l1)
  exact (datApp (datApp .nil (datAllMono (by with_reducible assumption) (by k_extra "r sub"))) (datAllMono (by with_reducible assumption) (by k_extra "r sub")))
theorem all_3 (w : World) {need : Led} {R : Addr} {v0 v1 v2 : Value} {n : Nat} {s f : Rat} {l0 l1 l2 : LD} (hm : (R, listOf #[v0, v1, v2] n) ∈ need) (h0 : LineIn w s f need v0 l0) (b0 : Bd 40 l0.e) (h1 : LineIn w s f need v1 l1) (b1 : Bd 40 l1.e) (h2 : LineIn w s f need v2 l2) (b2 : Bd 40 l2.e) (sb : ScB s) (bf : Bd 4 f) :
    GS w 378 10 80 [.ref R] need (fun r tl => DatIn tl r (.list (([l0, l1, l2] : List LD).map (ledL s f)).flatten)) := by
  obtain ⟨T0, s0, m0, k0, rfl, t0, d0, a0⟩ := h0
  obtain ⟨T1, s1, m1, k1, rfl, t1, d1, a1⟩ := h1
  obtain ⟨T2, s2, m2, k2, rfl, t2, d2, a2⟩ := h2
  k_extra "r enter"
  k_extra "r go"
  refine datL (by k_extra "r out") ?_
  show DatAll _ _ ((([] ++ ledL s f l0) ++ ledL s f l1) ++ ledL s f l2)
  exact (datApp (datApp (datApp .nil (datAllMono (by with_reducible assumption) (by k_extra "r sub"))) (datAllMono (by with_reducible assumption) (by k_extra "r sub"))) (datAllMono (by with_reducible assumption) (by k_extra "r sub")))
theorem all_g (w : World) {need : Led} {R : Addr} {vs : List Value} {n : Nat} {s f : Rat} {ls : List LD} (hm : (R, listOf vs.toArray n) ∈ need) (hL : All2 (LineIn w s f need) vs ls) (hlen : vs.length ≤ 3) (sb : ScB s) (hb : ∀ d ∈ ls, Bd 40 d.e) (bf : Bd 4 f) :
    GS w 378 10 80 [.ref R] need (fun r tl => DatIn tl r (.list (ls.map (ledL s f)).flatten)) := by
  cases hL with
  | nil => exact all_0 w hm sb bf
  | cons h1 hL => cases hL with
    | nil => exact all_1 w hm h1 (hb _ (.head _)) sb bf
    | cons h2 hL => cases hL with
      | nil => exact all_2 w hm h1 (hb _ (.head _)) h2 (hb _ (.tail _ (.head _))) sb bf
      | cons h3 hL => cases hL with
        | nil => exact all_3 w hm h1 (hb _ (.head _)) h2 (hb _ (.tail _ (.head _))) h3 (hb _ (.tail _ (.tail _ (.head _)))) sb bf
        | cons h4 hL => simp only [List.length_cons] at hlen; omega
theorem off_N13 : True := by
  k_with "off N13" => skip
  exact trivial
end N13
section N14
theorem length_g (w : World) {need : Led} {X : Addr} {as : List Int} {v : Int} {ds : List Dat} {xs : List Nat} {units : Int} {zv : Value} {t1 t2 : Tok} {z : Rat} (hx : xs.length ≤ 3) (hf : FnG w need X as v ds) (hz : RatIn need zv z) (hu : 0 < units) (hu' : units < 2 ^ 62) (sb : ScB (z / (units : Rat))) (bz : Bd 4 z) :
    GS w 329 8 80 [.ref X, .int units t1, .str ⟨xs.toArray⟩ t2, zv] need (fun r tl => RatIn tl r (z / (units : Rat) * (lenQ as v (glys xs) : Rat))) := by
  k_with "r call" => ((fail_if_success (k_extra "off N14")); (first
    | ((with_reducible refine' r_gs (letters_g _ ?zb ?za) (fun _ h => hasNd h) ?zd ?zu ?_); (case zb => with_reducible assumption); (case za => with_reducible assumption); (case zd => exact rfl); (case zu => exact rfl); intro r9 tl9 P9 σ9; obtain ⟨T9, R9, v9, k9, n9, t9, e9, m9, m8, a9⟩ := P9; subst e9)
    | ((with_reducible refine' r_gs (shift_g _ ?za) (fun _ h => hasNd h) ?zd ?zu ?_); (case za => with_reducible assumption); (case zd => exact rfl); (case zu => exact rfl); intro r9 tl9 P9 σ9; obtain ⟨A9, q9, q8, k9, e9, m9⟩ := P9; subst e9)
    | k_extra "r q"
    | k_extra "r leaf"))
  obtain ⟨Z, w5, w6, k3, rfl, n4⟩ := hz
  have q1 : 0 < (units : Rat).num := by rw [Rat.num_intCast]; exact hu
  have q2 : (units : Rat).num < 2 ^ 62 := by rw [Rat.num_intCast]; exact hu'
  have q3 : (z.den : Int) < 2 ^ 62 := bz.out (by decide)
  have q4 : ((units : Rat).den : Int) < 2 ^ 62 := Bd.int.out (by decide)
  have np := sb.lo
  have np' := sb.hi
  have q5 : ((z / (units : Rat)).den : Int) < 2 ^ 62 := sb.den.out (by decide)
  have q6 : ((lenQ as v (glys xs) : Rat).den : Int) < 2 ^ 62 := Bd.int.out (by decide)
  k_extra "r enter"
  k_extra "r go"
  exact ratIn (by k_extra "r out")
theorem end_g (w : World) {need : Led} {X : Addr} {as : List Int} {v : Int} {ds : List Dat} {xs : List Nat} {units : Int} {pv zv : Value} {a : Str} {t1 t2 t3 : Tok} {p q z : Rat} (hx : xs.length ≤ 3) (hf : FnG w need X as v ds) (hp : PtIn need pv p q) (hz : RatIn need zv z) (ha : AnchOK a) (hu : 0 < units) (hu' : units < 2 ^ 62) (sb : ScB (z / (units : Rat))) (bz : Bd 4 z) (bp : Bd 4 p) :
    GS w 337 8 80 [.ref X, .int units t1, .str ⟨xs.toArray⟩ t2, pv, zv, .str a t3] need (fun r tl => PtIn (need ++ tl) r (p + z / (units : Rat) * ((lenQ as v (glys xs) : Rat) + shiftQ a (lenQ as v (glys xs)))) q) := by
  k_with "r ou" => ((fail_if_success (k_extra "off N14")); (first
    | (refine' List.mem_append_left _ ?yr; (case yr => with_reducible assumption))
    | (refine' List.mem_append_right _ ?yr; (case yr => k_extra "r out"))))
  obtain ⟨P, e1, e2, w1, w2, w3, w4, k, k1, k2, rfl, n1, n2, n3⟩ := hp
  obtain ⟨Z, w5, w6, k3, rfl, n4⟩ := hz
  have q1 : 0 < (units : Rat).num := by rw [Rat.num_intCast]; exact hu
  have q2 : (units : Rat).num < 2 ^ 62 := by rw [Rat.num_intCast]; exact hu'
  have q3 : (z.den : Int) < 2 ^ 62 := bz.out (by decide)
  have q4 : ((units : Rat).den : Int) < 2 ^ 62 := Bd.int.out (by decide)
  have np := sb.lo
  have np' := sb.hi
  have q5 : ((z / (units : Rat)).den : Int) < 2 ^ 62 := sb.den.out (by decide)
  have q6 : ((lenQ as v (glys xs) : Rat).den : Int) < 2 ^ 62 := Bd.int.out (by decide)
  have q7 : (p.den : Int) < 2 ^ 62 := bp.out (by decide)
  have q9 : ((shiftQ a (lenQ as v (glys xs))).den : Int) < 2 ^ 62 := shiftB.out (by decide)
  have q10 : ((((lenQ as v (glys xs) : Rat) + shiftQ a (lenQ as v (glys xs)))).den : Int) < 2 ^ 62 := (Bd.add Bd.int shiftB).out (by decide)
  have q8 : ((z / (units : Rat) * ((lenQ as v (glys xs) : Rat) + shiftQ a (lenQ as v (glys xs)))).den : Int) < 2 ^ 62 := (sb.den.mul (Bd.add Bd.int shiftB)).out (by decide)
  k_extra "r enter"
  k_extra "r go"
  exact ptIn (by k_extra "r ou") (by k_extra "r ou") (by k_extra "r ou")
theorem off_N14 : True := by
  k_with "off N14" => skip
  exact trivial
end N14
section N15
theorem low_more {a b : Int} {n : Nat} (h1 : 0 ≤ a) (h2 : 0 ≤ b) (h5 : b ≠ 0) (hn : n + 1 ≤ 300) (h4 : LowInv (2 ^ 128) (300 - (n + 1)) a b) : LowInv (2 ^ 128) (300 - n) b (Int.fmod a b) := by
  have e : 300 - n = 300 - (n + 1) + 1 := by omega
  rw [e]
  exact low_turn h1 h2 h5 h4
theorem low_g (w : World) {need : Led} {x y : Int} {t1 t2 : Tok} (hy : 0 < y) (hY : y < 2 ^ 128) : GS w 420 1 16 [.int x t1, .int y t2] need (fun r tl => RatIn tl r (Rat.divInt x y)) := by
  k_with "r call" => ((fail_if_success (k_extra "off N15")); (k_extra "r leaf"))
  k_with "r turn" => ((fail_if_success (k_extra "off N15")); (first | with_reducible refine k_turnJ ?_ | with_reducible refine k_turnJB ?_))
  have hg := frac_gcd_pos (t := x) hy
  have hp := noPy (t := x) hy hY
  have hg0 : ((Int.gcd x y : Nat) : Int) ≠ 0 := by omega
  k_extra "r enter"
  k_extra "r go"
  k_with "r name" => ((fail_if_success (k_extra "off N15")); (first
    | ((with_reducible refine' r_loc ?za ?zb ?_); (case za => exact rfl); (case zb => exact htop))
    | ((with_reducible refine' r_loc ?za ?zb ?_); (case za => exact rfl); (case zb => exact hbot))
    | ((with_reducible refine' r_loc ?za ?zb ?_); (case za => exact rfl); (case zb => exact hone))
    | ((with_reducible refine' r_loc ?za ?zb ?_); (case za => exact rfl); (case zb => exact hoth))))
  have fin : ∀ (im : List Led) (m0 : Str → Option Value) (a b : Int) (t : Tok), m0 (Str.ofString "top") = some (.int x t1) → m0 (Str.ofString "bottom") = some (.int y t2) → m0 (Str.ofString "one") = some (.int a t) → 0 ≤ a → Int.gcd a b = Int.gcd x y → b = 0 → Q9 .next ⟨m0, fun _ => none, [], im⟩ := by
    intro im m0 a b t htop hbot hone h1 h3 h2
    have ea : a = ((Int.gcd x y : Nat) : Int) := cd_end h3 h1 (by omega) (by omega)
    subst ea
    refine k9.next ?_
    k_extra "r go"
    exact ratIn0 (by k_extra "r out") (frac_num hy) (frac_den hy)
  clear k9
  refine' k_rngJ (fun n σ' => n ≤ 300 ∧ ∃ im m0 a b t u, σ' = (⟨m0, fun _ => none, [], im⟩ : St) ∧ m0 (Str.ofString "top") = some (.int x t1) ∧ m0 (Str.ofString "bottom") = some (.int y t2) ∧ m0 (Str.ofString "one") = some (.int a t) ∧ m0 (Str.ofString "other") = some (.int b u) ∧ 0 ≤ a ∧ 0 ≤ b ∧ Int.gcd a b = Int.gcd x y ∧ LowInv (2 ^ 128) (300 - n) a b) ?hn ?hk ?h0 ?hd ?_
  case hn => omega
  case hk => exact rfl
  case h0 =>
    obtain ⟨q1, q2, q3, q4⟩ := low_word0 (x := x) hy hY
    exact ⟨Nat.le_refl _, _, _, _, _, _, _, rfl, rfl, rfl, rfl, rfl, q1, q2, q3, q4⟩
  case hd =>
    rintro σ' ⟨-, im, m0, a, b, t, u, rfl, e1, e2, e3, e4, q1, q2, q3, q4⟩
    exact fin _ _ _ _ _ e1 e2 e3 q1 q3 (low_done (B := 2 ^ 128) (by decide) q2 q4)
  rintro n σ' ⟨q0, im, m0, a, b, t, u, rfl, htop, hbot, hone, hoth, q1, q2, q3, q4⟩ i c9 t9 σ9
  k_extra "r go"
  · exact fin _ _ _ _ _ htop hbot hone q1 q3 h9
  · obtain ⟨p1, p2, p3⟩ := cd_turn q3 (show 0 < b by omega)
    exact ⟨by omega, _, _, _, _, _, _, rfl, htop, hbot, rfl, rfl, p1, p2, p3, low_more q1 q2 h9 q0 q4⟩
theorem lsum_g (w : World) {need : Led} {u v : Value} {p q : Rat} (hu : RatIn need u p) (hv : RatIn need v q) (bp : (p.den : Int) < 2 ^ 62) (bq : (q.den : Int) < 2 ^ 62) : GS w 427 2 24 [u, v] need (fun r tl => RatIn tl r (p + q)) := by
  k_with "r call" => ((fail_if_success (k_extra "off N15")); (((with_reducible refine' r_gsR (low_g _ ?za ?zb) (fun _ h => hasNd h) ?zd ?zu ?_); (case za => with_reducible assumption); (case zb => with_reducible assumption); (case zd => exact rfl); (case zu => exact rfl); intro A9 t8 t9 k9 σ9)))
  obtain ⟨a, ta1, ta2, ka, rfl, ha⟩ := hu
  obtain ⟨b, tb1, tb2, kb, rfl, hb⟩ := hv
  have p1 := den_pos p
  have p2 := den_pos q
  have m1 : IntMulOk p.num (q.den : Int) := mulOk_right (by omega) (by omega)
  have m2 : IntMulOk q.num (p.den : Int) := mulOk_right (by omega) (by omega)
  have m3 : IntMulOk (p.den : Int) (q.den : Int) := mulOk_right (by omega) (by omega)
  have d1 : 0 < (p.den : Int) * (q.den : Int) := Int.mul_pos p1 p2
  have d2 : (p.den : Int) * (q.den : Int) < 2 ^ 128 := mul_lt_128 p1 p2 bp bq
  k_extra "r enter"
  k_extra "r go"
  exact ratIn0 (by k_extra "r out") (by rw [add_frac]) (by rw [add_frac])
theorem ltimes_g (w : World) {need : Led} {u v : Value} {p q : Rat} (hu : RatIn need u p) (hv : RatIn need v q) (np : -(2 ^ 62) < p.num) (np' : p.num < 2 ^ 62) (bp : (p.den : Int) < 2 ^ 62) (bq : (q.den : Int) < 2 ^ 62) : GS w 434 2 24 [u, v] need (fun r tl => RatIn tl r (p * q)) := by
  obtain ⟨a, ta1, ta2, ka, rfl, ha⟩ := hu
  obtain ⟨b, tb1, tb2, kb, rfl, hb⟩ := hv
  have p1 := den_pos p
  have p2 := den_pos q
  have m1 : IntMulOk p.num q.num := mulOk_left (by omega) (by omega)
  have m3 : IntMulOk (p.den : Int) (q.den : Int) := mulOk_right (by omega) (by omega)
  have d1 : 0 < (p.den : Int) * (q.den : Int) := Int.mul_pos p1 p2
  have d2 : (p.den : Int) * (q.den : Int) < 2 ^ 128 := mul_lt_128 p1 p2 bp bq
  k_extra "r enter"
  k_extra "r go"
  exact ratIn0 (by k_extra "r out") (by rw [mul_frac]) (by rw [mul_frac])
theorem off_N15 : True := by
  k_with "off N15" => skip
  exact trivial
end N15
section N16
theorem noPyS {x y : Int} (h : y.natAbs < 2 ^ 64) : Builtin.divisionGoesByPylong x y = false := by
  unfold Builtin.divisionGoesByPylong
  have : (if (y == 0) = true then 0 else y.natAbs.log2 / 30 + 1) ≤ 300 := by
    split
    · omega
    · have h2 : y.natAbs.log2 < 64 := by
        by_cases h0 : y.natAbs = 0
        · rw [h0]; decide
        · exact (Nat.log2_lt h0).mpr h
      omega
  show (decide ((if (y == 0) = true then 0 else y.natAbs.log2 / 30 + 1) > 300) && _) = false
  rw [decide_eq_false (by omega), Bool.false_and]
theorem setI0 {a b v : Value} : ki_setL [a, b] (Int.toNat 0) v = some [v, b] := rfl
theorem setI1 {a b v : Value} : ki_setL [a, b] (Int.toNat 1) v = some [a, v] := rfl
theorem sqOk (z : Int) : IntMulOk (Int.fmod z 2147483647) (Int.fmod z 2147483647) := by
  have h1 := Int.fmod_nonneg_of_pos z (b := 2147483647) (by decide)
  have h2 := Int.fmod_lt_of_pos z (b := 2147483647) (by decide)
  exact mulOk_right (by omega) (by omega)
theorem take_g (w : World) {S : Addr} {o : Obj} {top : Int} {t1 : Tok} (hS : SrcObj S o) (h0 : 0 < top) (h1 : top < 1000000) : GM w 406 1 8 [.ref S, .int top t1] [(S, o)] [] (fun r mt' tl => tl = [] ∧ ∃ o', mt' = [(S, o')] ∧ SrcObj S o' ∧ ∃ x t, r = .int x t ∧ 0 ≤ x ∧ x < top) := by
  k_with "r call" => ((fail_if_success (k_extra "off N16")); (k_extra "r leaf"))
  k_with "r leaf" => ((fail_if_success (k_extra "off N16")); (first
    | ((with_reducible refine' r_setI ?za ?zb ?ze ?zf ?_); (case za => decide); (case zb => decide); (case zf => k_extra "r rep"); (case ze => first | exact setI0 | exact setI1); intro σ9)
    | ((with_reducible refine' r_itemL ?za ?zf ?zg ?zb ?_ ?ze); (case za => k_extra "r mem"); (case zf => decide); (case zg => decide); (case zb => first | exact g20 | exact g21); (case ze => exact rfl))
    | ((with_reducible refine' r_mul ?zm ?_); (case zm => first | with_reducible assumption | exact sqOk _); intro t9)))
  obtain ⟨a, b, ta, tb, n, rfl, hb0, hb1⟩ := hS
  have n0 : top ≠ 0 := by omega
  have np : ∀ x : Int, Builtin.divisionGoesByPylong x top = false := fun x => noPyS (by omega)
  have np2 : ∀ x : Int, Builtin.divisionGoesByPylong x 32 = false := fun x => noPyS (by decide)
  have m1 : IntMulOk b 39373 := mulOk_right (by omega) (by omega)
  refine' gm_of_run (fun _ _ _ h => nomatch h) ?hnm ?ho ?hcd ?hb ?hc ?_
  case hnm => simp
  case ho => k_is
  case hcd => k_is
  case hb => (intro s9 X9; first | exact BindsTo.of_eq rfl | exact binds_K X9 rfl (by k_is) rfl rfl rfl)
  case hc => exact rfl
  intro L9 V9 c9 σ9
  k_extra "r go"
  · exact ⟨[], _, rfl, rfl, rfl, _, rfl, srcObj hb0 hb1, _, _, rfl, Int.fmod_nonneg_of_pos _ h0, Int.fmod_lt_of_pos _ h0⟩
  · exact ⟨[], _, rfl, rfl, rfl, _, rfl, srcObj (Int.fmod_nonneg_of_pos _ (by decide)) (Int.fmod_lt_of_pos _ (by decide)), _, _, rfl, Int.fmod_nonneg_of_pos _ h0, Int.fmod_lt_of_pos _ h0⟩
section
variable {V : Vis} {c : Ctx V} {σ : St} {Q : Value → St → Prop}
theorem unAdd {s : Shared} (I : Inv c (σ.add []) s) : Inv c σ s := let ⟨ce, I⟩ := I; ⟨ce, ⟨I.F, I.N, I.C, I.S, I.O, I.K, I.R⟩⟩
theorem r_take {S : Addr} {o : Obj} {top : Int} {t1 : Tok} {mt' : Obj → Led} (hS : SrcObj S o) (h0 : 0 < top) (h1 : top < 1000000) (u : ∀ o', Rep S o o' σ.mt (mt' o')) (hd : Nat.ble 1 V.D = true) (hu : Nat.ble 8 V.U = true)
    (h : ∀ x t o', 0 ≤ x → x < top → SrcObj S o' → let σ' := σ.chg (mt' o'); Q (.int x t) σ') : Run c σ (call (.ref 406) [.ref S, .int top t1]) Q := fun s I => by
  refine wpAny_mono (r_gm1 (Q := fun v σ₁ => ∃ x t o', v = .int x t ∧ σ₁ = (σ.chg (mt' o')).add [] ∧ 0 ≤ x ∧ x < top ∧ SrcObj S o') (take_g _ hS h0 h1) u (fun _ h => nomatch h) hd hu (fun r o' tl ⟨e, o'', e2, hS', x, t, e3, x0, x1⟩ => by subst e; cases e2; exact ⟨x, t, _, e3, rfl, x0, x1, hS'⟩) s I) (fun v s₁ ⟨σ₁, I₁, x, t, o', e1, e2, x0, x1, hS'⟩ => ?_) fun _ _ e => e
  subst e1 e2
  exact ⟨_, unAdd I₁, h x t o' x0 x1 hS'⟩
theorem r_itemAny {value slice : PySem.Expr} {t : Addr} {vs : List Value} {i : Int} {u : Tok} {n : Nat} (hm : Has V σ (t, listOf vs.toArray n)) (h0 : 0 ≤ i) (h1 : i < (vs.length : Int)) (h2 : (vs.length : Int) < 1000000) (hp : plainS slice = true) (h : ∀ x, x ∈ vs → Q x σ) : Run c σ (subscriptTail value slice (.ref t) (.int i u)) Q := fun s I => by
  obtain ⟨ce, I⟩ := I
  exact item_any I.N (I.news hm) h0 h1 (by omega) (fun v hv => ⟨σ, ⟨ce, I⟩, h v hv⟩) (plainS_eq hp)
end
theorem one_g (w : World) {S T : Addr} {o : Obj} {need : Led} {vs : List Value} {n : Nat} (hS : SrcObj S o) (hT : (T, listOf vs.toArray n) ∈ need) (hne : ∀ p ∈ [(S, o)], ∀ q ∈ need, p.1 ≠ q.1) (h0 : 0 < (vs.length : Int)) (h1 : (vs.length : Int) < 1000000) : GM w 413 2 16 [.ref S, .ref T] [(S, o)] need (fun r mt' tl => tl = [] ∧ ∃ o', mt' = [(S, o')] ∧ SrcObj S o' ∧ r ∈ vs) := by
  k_with "r call" => ((fail_if_success (k_extra "off N16")); (first
    | ((with_reducible refine' r_take ?zs ?ze ?zf ?zr ?zd ?zu ?_); (case zs => with_reducible assumption); (case ze => with_reducible assumption); (case zf => with_reducible assumption); (case zr => exact fun _ => Rep.head); (case zd => exact rfl); (case zu => exact rfl); intro x9 t9 o9 l9 h9 S9 σ9)
    | ((with_reducible refine' r_len ?za ?zb ?_); (case za => k_extra "r mem"); (case zb => omega); intro t9)
    | k_extra "r leaf"))
  k_with "r leaf" => ((fail_if_success (k_extra "off N16")); (((with_reducible refine' r_itemAny ?za ?zb ?ze ?zf ?zg ?_); (case za => k_extra "r mem"); (case zb => with_reducible assumption); (case ze => with_reducible assumption); (case zf => with_reducible assumption); (case zg => exact rfl); intro v9 h9)))
  refine' gm_of_run ?hdis ?hnm ?ho ?hcd ?hb ?hc ?_
  case hdis => exact hne
  case hnm => simp
  case ho => k_is
  case hcd => k_is
  case hb => (intro s9 X9; first | exact BindsTo.of_eq rfl | exact binds_K X9 rfl (by k_is) rfl rfl rfl)
  case hc => exact rfl
  intro L9 V9 c9 σ9
  k_extra "r go"
  exact ⟨[], _, rfl, rfl, rfl, _, rfl, by assumption, by assumption⟩
section
variable {V : Vis} {c : Ctx V} {σ : St} {Q : Value → St → Prop}
theorem r_one {S T : Addr} {o : Obj} {vs : List Value} {n : Nat} {mt' : Obj → Led} (hS : SrcObj S o) (hT : (T, listOf vs.toArray n) ∈ σ.fl ++ V.nd) (h0 : (!vs.isEmpty && Nat.ble vs.length 1000) = true) (u : ∀ o', Rep S o o' σ.mt (mt' o')) (hd : Nat.ble 2 V.D = true) (hu : Nat.ble 16 V.U = true)
    (h : ∀ r o', r ∈ vs → SrcObj S o' → let σ' := σ.chg (mt' o'); Q r σ') : Run c σ (call (.ref 413) [.ref S, .ref T]) Q := fun s I => by
  simp only [Bool.and_eq_true, Bool.not_eq_true'] at h0
  have h2 := Nat.le_of_ble_eq_true h0.2
  have h1 : vs.length ≠ 0 := by
    cases vs with
    | nil => cases h0.1
    | cons => simp
  have hne : S ≠ T := by
    obtain ⟨ce, I⟩ := I
    exact I.S.2 (S, o) (List.mem_append_right _ (List.mem_append_right _ (u o).mem)) (T, _) hT
  refine wpAny_mono (r_gm1 (Q := fun v σ₁ => ∃ o', σ₁ = (σ.chg (mt' o')).add [] ∧ v ∈ vs ∧ SrcObj S o') (one_g _ (need := [(T, listOf vs.toArray n)]) hS (.head _) (allC (allC hne allN) allN) (by omega) (by omega)) u (allC hT allN) hd hu (fun r o' tl ⟨e, o'', e2, hS', hr⟩ => by subst e; cases e2; exact ⟨_, rfl, hr, hS'⟩) s I) (fun v s₁ ⟨σ₁, I₁, o', e2, hv, hS'⟩ => ?_) fun _ _ e => e
  subst e2
  exact ⟨_, unAdd I₁, h v o' hv hS'⟩
end
theorem off_N16 : True := by
  k_with "off N16" => skip
  exact trivial
end N16
section N17
section
variable {V : Vis} {c : Ctx V} {σ : St} {Q : Value → St → Prop} {A B : Addr} {p q : Rat} {a1 a2 b1 b2 : Tok} {j k : Nat}
theorem ratI {l : Led} {A : Addr} {x : Int} {t u : Tok} {k : Nat} (m : (A, tup [.int x t, .int 1 u] k) ∈ l) : RatIn l (.ref A) (x : Rat) := ratIn0 m (by simp) (by simp)
theorem r_lsum (h1 : Has V σ (A, tup [.int p.num a1, .int p.den a2] j)) (h2 : Has V σ (B, tup [.int q.num b1, .int q.den b2] k)) (bp : (p.den : Int) < 2 ^ 62) (bq : (q.den : Int) < 2 ^ 62) (hd : Nat.ble 2 V.D = true) (hu : Nat.ble 24 V.U = true)
    (h : ∀ C t1 t2 i, let σ' := σ.imm C (tup [.int (p + q).num t1, .int (p + q).den t2] i); Q (.ref C) σ') : Run c σ (call (.ref 427) [.ref A, .ref B]) Q := r_gsR (lsum_g _ (hasR h1) (hasR h2) bp bq) (fun _ h => h) hd hu h
theorem r_lsumI {y : Int} (h1 : Has V σ (A, tup [.int p.num a1, .int p.den a2] j)) (h2 : Has V σ (B, tup [.int y b1, .int 1 b2] k)) (bp : (p.den : Int) < 2 ^ 62) (hd : Nat.ble 2 V.D = true) (hu : Nat.ble 24 V.U = true)
    (h : ∀ C t1 t2 i, let σ' := σ.imm C (tup [.int (p + (y : Rat)).num t1, .int (p + (y : Rat)).den t2] i); Q (.ref C) σ') : Run c σ (call (.ref 427) [.ref A, .ref B]) Q := r_gsR (lsum_g _ (hasR h1) (ratI h2) bp (Bd.int.out (by decide))) (fun _ h => h) hd hu h
theorem r_ltimes (h1 : Has V σ (A, tup [.int p.num a1, .int p.den a2] j)) (h2 : Has V σ (B, tup [.int q.num b1, .int q.den b2] k)) (np : -(2 ^ 62) < p.num) (np' : p.num < 2 ^ 62) (bp : (p.den : Int) < 2 ^ 62) (bq : (q.den : Int) < 2 ^ 62) (hd : Nat.ble 2 V.D = true) (hu : Nat.ble 24 V.U = true)
    (h : ∀ C t1 t2 i, let σ' := σ.imm C (tup [.int (p * q).num t1, .int (p * q).den t2] i); Q (.ref C) σ') : Run c σ (call (.ref 434) [.ref A, .ref B]) Q := r_gsR (ltimes_g _ (hasR h1) (hasR h2) np np' bp bq) (fun _ h => h) hd hu h
theorem r_ltimesI {y : Int} (h1 : Has V σ (A, tup [.int p.num a1, .int p.den a2] j)) (h2 : Has V σ (B, tup [.int y b1, .int 1 b2] k)) (np : -(2 ^ 62) < p.num) (np' : p.num < 2 ^ 62) (bp : (p.den : Int) < 2 ^ 62) (hd : Nat.ble 2 V.D = true) (hu : Nat.ble 24 V.U = true)
    (h : ∀ C t1 t2 i, let σ' := σ.imm C (tup [.int (p * (y : Rat)).num t1, .int (p * (y : Rat)).den t2] i); Q (.ref C) σ') : Run c σ (call (.ref 434) [.ref A, .ref B]) Q := r_gsR (ltimes_g _ (hasR h1) (ratI h2) np np' bp (Bd.int.out (by decide))) (fun _ h => h) hd hu h
end
def lawP (p q s b : Rat) (t : Int × Int) : Dat := dP (p + s * (b + (t.1 : Rat))) (q + s * ((0 - t.2 : Int) : Rat))
def lawL (p q s b : Rat) (o : Six) : List Dat := [.tuple [.str (Str.ofString "move"), lawP p q s b (o.x0, o.y0)], .tuple [.str (Str.ofString "line"), lawP p q s b (o.x1, o.y1)], .tuple [.str (Str.ofString "line"), lawP p q s b (o.x2, o.y2)], .tuple [.str (Str.ofString "line"), lawP p q s b (o.x0, o.y0)], .tuple [.str (Str.ofString "close")]]
theorem ptL_of {i : Led} {v : Value} {x y : Int} (h : DatIn i v (ptD x y)) : ∃ (T : Addr) (t u : Tok) (k : Nat), v = .ref T ∧ (T, tup [.int x t, .int y u] k) ∈ i := by
  cases h with
  | tuple hm hd => cases hd with
    | cons h1 hd => cases hd with
      | cons h2 hd => cases h1; cases h2; cases hd; exact ⟨_, _, _, _, rfl, hm⟩
theorem ptsL_of {i : Led} {v : Value} {x0 y0 x1 y1 x2 y2 : Int} (h : DatIn i v (.list [ptD x0 y0, ptD x1 y1, ptD x2 y2])) : ∃ (R T0 T1 T2 : Addr) (t0 u0 t1 u1 t2 u2 : Tok) (n k0 k1 k2 : Nat), v = .ref R ∧ (R, listOf #[.ref T0, .ref T1, .ref T2] n) ∈ i ∧ (T0, tup [.int x0 t0, .int y0 u0] k0) ∈ i ∧ (T1, tup [.int x1 t1, .int y1 u1] k1) ∈ i ∧ (T2, tup [.int x2 t2, .int y2 u2] k2) ∈ i := by
  cases h with
  | list hm hd => cases hd with
    | cons h1 hd => cases hd with
      | cons h2 hd => cases hd with
        | cons h3 hd =>
          cases hd
          obtain ⟨T0, t0, u0, k0, rfl, m0⟩ := ptL_of h1
          obtain ⟨T1, t1, u1, k1, rfl, m1⟩ := ptL_of h2
          obtain ⟨T2, t2, u2, k2, rfl, m2⟩ := ptL_of h3
          exact ⟨_, T0, T1, T2, t0, u0, t1, u1, t2, u2, _, k0, k1, k2, rfl, hm, m0, m1, m2⟩
theorem stepD {i : Led} {T D A B : Addr} {n : Str} {t t1 t2 t3 t4 : Tok} {k k0 k1 k2 : Nat} {p q : Rat} (h1 : (T, tup [.str n t, .ref D] k) ∈ i) (h2 : (D, tup [.ref A, .ref B] k0) ∈ i) (h3 : (A, tup [.int p.num t1, .int p.den t2] k1) ∈ i) (h4 : (B, tup [.int q.num t3, .int q.den t4] k2) ∈ i) : DatIn i (.ref T) (.tuple [.str n, dP p q]) := .tuple h1 (.cons (.str _ _) (.cons (ptIn h2 h3 h4).dat .nil))
theorem closeD {i : Led} {T : Addr} {n : Str} {t : Tok} {k : Nat} (h1 : (T, tup [.str n t] k) ∈ i) : DatIn i (.ref T) (.tuple [.str n]) := .tuple h1 (.cons (.str _ _) .nil)
theorem lawlines_g (w : World) {need : Led} {qv pv sv bv : Value} {p q s b : Rat} {o : Six} (ho : DatIn need qv (.list [ptD o.x0 o.y0, ptD o.x1 o.y1, ptD o.x2 o.y2])) (hp : PtIn need pv p q) (hs : RatIn need sv s) (hb : RatIn need bv b) (sb : ScB s) (bp : Bd 4 p) (bq : Bd 4 q) (bb : Bd 24 b) :
    GS w 453 5 48 [qv, pv, sv, bv] need (fun r tl => DatIn tl r (.list (lawL p q s b o))) := by
  k_with "r lq" => ((fail_if_success (k_extra "off N17")); (first
    | ((with_reducible refine' r_lsum ?za ?zb ?ze ?zf ?zd ?zu ?_); (case za => k_extra "r mem"); (case zb => k_extra "r mem"); (case ze => with_reducible assumption); (case zf => with_reducible assumption); (case zd => exact rfl); (case zu => exact rfl); intro A9 t8 t9 k9 σ9)
    | ((with_reducible refine' r_lsumI ?za ?zb ?ze ?zd ?zu ?_); (case za => k_extra "r mem"); (case zb => k_extra "r mem"); (case ze => with_reducible assumption); (case zd => exact rfl); (case zu => exact rfl); intro A9 t8 t9 k9 σ9)
    | ((with_reducible refine' r_ltimes ?za ?zb ?zg ?zh ?ze ?zf ?zd ?zu ?_); (case za => k_extra "r mem"); (case zb => k_extra "r mem"); (case zg => with_reducible assumption); (case zh => with_reducible assumption); (case ze => with_reducible assumption); (case zf => with_reducible assumption); (case zd => exact rfl); (case zu => exact rfl); intro A9 t8 t9 k9 σ9)
    | ((with_reducible refine' r_ltimesI ?za ?zb ?zg ?zh ?ze ?zd ?zu ?_); (case za => k_extra "r mem"); (case zb => k_extra "r mem"); (case zg => with_reducible assumption); (case zh => with_reducible assumption); (case ze => with_reducible assumption); (case zd => exact rfl); (case zu => exact rfl); intro A9 t8 t9 k9 σ9)))
  k_with "r call" => ((fail_if_success (k_extra "off N17")); (first
    | k_extra "r lq"
    | k_extra "r leaf"))
  k_with "r list" => ((fail_if_success (k_extra "off N17")); (((with_reducible refine' r_newL1 ?za ?_); (case za => exact rfl); intro D9 σ9)))
  obtain ⟨R, T0, T1, T2, t0, u0, t1, u1, t2, u2, n, k0, k1, k2, rfl, r1, r2, r3, r4⟩ := ptsL_of ho
  obtain ⟨P, e1, e2, w1, w2, w3, w4, k, k1, k2, rfl, n1, n2, n3⟩ := hp
  obtain ⟨S, w5, w6, k3, rfl, n4⟩ := hs
  obtain ⟨B, w7, w8, k4, rfl, n5⟩ := hb
  have np := sb.lo
  have np' := sb.hi
  have q1 : (s.den : Int) < 2 ^ 62 := sb.den.out (by decide)
  have q2 : (p.den : Int) < 2 ^ 62 := bp.out (by decide)
  have q3 : (q.den : Int) < 2 ^ 62 := bq.out (by decide)
  have q4 : (b.den : Int) < 2 ^ 62 := bb.out (by decide)
  have qa : ∀ x : Int, ((b + (x : Rat)).den : Int) < 2 ^ 62 := fun x => (bb.add Bd.int).out (by decide)
  have qb : ∀ x : Int, ((s * (b + (x : Rat))).den : Int) < 2 ^ 62 := fun x => (sb.den.mul (bb.add Bd.int)).out (by decide)
  have qc : ∀ x : Int, ((s * ((0 - x : Int) : Rat)).den : Int) < 2 ^ 62 := fun x => (sb.den.mul Bd.int).out (by decide)
  have qd := qa o.x0
  have qe := qa o.x1
  have qf := qa o.x2
  have qg := qb o.x0
  have qh := qb o.x1
  have qi := qb o.x2
  have qj := qc o.y0
  have qk := qc o.y1
  have ql := qc o.y2
  clear qa qb qc
  k_extra "r enter"
  k_extra "r go"
  exact datL (by k_extra "r out") (.cons (stepD (by k_extra "r out") (by k_extra "r out") (by k_extra "r out") (by k_extra "r out")) (.cons (stepD (by k_extra "r out") (by k_extra "r out") (by k_extra "r out") (by k_extra "r out")) (.cons (stepD (by k_extra "r out") (by k_extra "r out") (by k_extra "r out") (by k_extra "r out")) (.cons (stepD (by k_extra "r out") (by k_extra "r out") (by k_extra "r out") (by k_extra "r out")) (.cons (closeD (by k_extra "r out")) .nil)))))
theorem off_N17 : True := by
  k_with "off N17" => skip
  exact trivial
end N17
section N18
theorem adv_get {as : List Int} {avs : List Value} {g : Int} (hI : IntsIn avs as) (hl : as.length = 4) (h0 : 0 ≤ g) (h4 : g < 4) : ∃ t, avs[g.toNat]? = some (.int (adv as g) t) := by
  obtain ⟨t, e⟩ := adv_at hI hl h0 h4
  exact ⟨t, by simpa using e⟩
abbrev LawbP (as : List Int) (v : Int) (gs : List Int) (r : Value) (tl : Led) : Prop := ∃ (T R : Addr) (bvs : List Value) (k n : Nat) (t : Tok), r = .ref T ∧ (T, tup [.ref R, .int (lawAll as v gs).2 t] k) ∈ tl ∧ (R, listOf bvs.toArray n) ∈ tl ∧ IntsIn bvs (lawAll as v gs).1
theorem lawb_0 (w : World) {need : Led} {G A K : Addr} {avs : List Value} {nG nA : Nat} {as : List Int} {v : Int} (hG : (G, listOf #[] nG) ∈ need) (hA : (A, listOf avs.toArray nA) ∈ need) (hT : TupTab (intKind rprog w) PyData.int need K (KerD v)) (ia : IntsIn avs as) (hl : as.length = 4) :
    GS w 446 3 24 [.ref G, .ref A, .ref K] need (LawbP as v []) := by
  k_with "r call" => ((fail_if_success (k_extra "off N18")); (first
    | ((with_reducible refine' r_kget hT (fun _ h => hasNd h) ?za ?zu ?_); (case za => k_extra "r mem"); (case zu => exact rfl); intro t9)
    | k_extra "r leaf"))
  k_with "r leaf" => ((fail_if_success (k_extra "off N18")); (first
    | ((with_reducible refine' r_kmeth hT (fun _ h => hasNd h) ?_))
    | ((with_reducible refine' r_itemAt ?za ?zb ?ze ?zf ?zg ?_); (case za => k_extra "r mem"); (case zb => with_reducible assumption); (case ze => omega); (case zf => with_reducible assumption); (case zg => exact rfl))))
  k_extra "r enter"
  k_extra "r go"
  exact ⟨_, _, _, _, _, _, rfl, by k_extra "r out", by k_extra "r out", .nil⟩
theorem lawb_1 (w : World) {need : Led} {G A K : Addr} {avs : List Value} {nG nA : Nat} {as : List Int} {v g0 : Int} {s0 : Tok} (hG : (G, listOf #[.int g0 s0] nG) ∈ need) (hA : (A, listOf avs.toArray nA) ∈ need) (hT : TupTab (intKind rprog w) PyData.int need K (KerD v)) (ia : IntsIn avs as) (hl : as.length = 4) (l0 : 0 ≤ g0) (h0 : g0 < 4) :
    GS w 446 3 24 [.ref G, .ref A, .ref K] need (LawbP as v [g0]) := by
  obtain ⟨a0, e0⟩ := adv_get ia hl l0 h0
  k_extra "r enter"
  k_extra "r go"
  exact ⟨_, _, _, _, _, _, rfl, by k_extra "r out", by k_extra "r out", (.cons ⟨_, rfl⟩ .nil)⟩
theorem lawb_2 (w : World) {need : Led} {G A K : Addr} {avs : List Value} {nG nA : Nat} {as : List Int} {v g0 g1 : Int} {s0 s1 : Tok} (hG : (G, listOf #[.int g0 s0, .int g1 s1] nG) ∈ need) (hA : (A, listOf avs.toArray nA) ∈ need) (hT : TupTab (intKind rprog w) PyData.int need K (KerD v)) (ia : IntsIn avs as) (hl : as.length = 4) (l0 : 0 ≤ g0) (h0 : g0 < 4) (l1 : 0 ≤ g1) (h1 : g1 < 4) :
    GS w 446 3 24 [.ref G, .ref A, .ref K] need (LawbP as v [g0, g1]) := by
  obtain ⟨a0, e0⟩ := adv_get ia hl l0 h0
  obtain ⟨a1, e1⟩ := adv_get ia hl l1 h1
  k_extra "r enter"
  k_extra "r go"
  exact ⟨_, _, _, _, _, _, rfl, by k_extra "r out", by k_extra "r out", (.cons ⟨_, rfl⟩ (.cons ⟨_, rfl⟩ .nil))⟩
theorem lawb_3 (w : World) {need : Led} {G A K : Addr} {avs : List Value} {nG nA : Nat} {as : List Int} {v g0 g1 g2 : Int} {s0 s1 s2 : Tok} (hG : (G, listOf #[.int g0 s0, .int g1 s1, .int g2 s2] nG) ∈ need) (hA : (A, listOf avs.toArray nA) ∈ need) (hT : TupTab (intKind rprog w) PyData.int need K (KerD v)) (ia : IntsIn avs as) (hl : as.length = 4) (l0 : 0 ≤ g0) (h0 : g0 < 4) (l1 : 0 ≤ g1) (h1 : g1 < 4) (l2 : 0 ≤ g2) (h2 : g2 < 4) :
    GS w 446 3 24 [.ref G, .ref A, .ref K] need (LawbP as v [g0, g1, g2]) := by
  obtain ⟨a0, e0⟩ := adv_get ia hl l0 h0
  obtain ⟨a1, e1⟩ := adv_get ia hl l1 h1
  obtain ⟨a2, e2⟩ := adv_get ia hl l2 h2
  k_extra "r enter"
  k_extra "r go"
  exact ⟨_, _, _, _, _, _, rfl, by k_extra "r out", by k_extra "r out", (.cons ⟨_, rfl⟩ (.cons ⟨_, rfl⟩ (.cons ⟨_, rfl⟩ .nil)))⟩
theorem lawb_g (w : World) {need : Led} {G A K : Addr} {gvs avs : List Value} {nG nA : Nat} {gs as : List Int} {v : Int} (hG : (G, listOf gvs.toArray nG) ∈ need) (hA : (A, listOf avs.toArray nA) ∈ need) (hT : TupTab (intKind rprog w) PyData.int need K (KerD v)) (ig : IntsIn gvs gs) (ia : IntsIn avs as) (hl : as.length = 4) (hg : ∀ g ∈ gs, 0 ≤ g ∧ g < 4) (hlen : gs.length ≤ 3) :
    GS w 446 3 24 [.ref G, .ref A, .ref K] need (LawbP as v gs) := by
  cases ig with
  | nil => exact lawb_0 w hG hA hT ia hl
  | cons i1 ig =>
    obtain ⟨t1, rfl⟩ := i1
    have b1 := hg _ (.head _)
    cases ig with
    | nil => exact lawb_1 w hG hA hT ia hl b1.1 b1.2
    | cons i2 ig =>
      obtain ⟨t2, rfl⟩ := i2
      have b2 := hg _ (.tail _ (.head _))
      cases ig with
      | nil => exact lawb_2 w hG hA hT ia hl b1.1 b1.2 b2.1 b2.2
      | cons i3 ig =>
        obtain ⟨t3, rfl⟩ := i3
        have b3 := hg _ (.tail _ (.tail _ (.head _)))
        cases ig with
        | nil => exact lawb_3 w hG hA hT ia hl b1.1 b1.2 b2.1 b2.2 b3.1 b3.2
        | cons _ _ => simp only [List.length_cons] at hlen; omega
theorem off_N18 : True := by
  k_with "off N18" => skip
  exact trivial
end N18
section N19
inductive LookIn (w : World) (led : Led) (X : Addr) (names : Str) : Prop
  | mk (DX f : Addr) (n : Nat) (u1 u2 u3 : Tok) (c1 c2 : Value) (d : FuncData) (h0 : (X, instObj 215 DX) ∈ led) (h1 : (DX, dictOf [key w "contours" u1 c1, key w "instructions" u2 c2, key w "text" u3 (.ref f)] n) ∈ led) (h2 : (f, fnO d) ∈ led) (h3 : ∀ t, GS w f 2 16 [.str (Str.ofString "font-family") t] led (fun r _ => ∃ t, r = .str names t)) : LookIn w led X names
def fontQ (kvs : List (Str × Value)) : List Str → Value
  | [] => (valueAt kvs (Str.ofString "")).getD .none
  | q :: r => if (valueAt kvs q).isSome = true then (valueAt kvs q).getD .none else fontQ kvs r
theorem fontT {kvs : List (Str × Value)} {q : Str} {r : List Str} (h : (valueAt kvs q).isSome = true) : (valueAt kvs q).getD .none = fontQ kvs (q :: r) := by rw [fontQ, if_pos h]
theorem fontF {kvs : List (Str × Value)} {q : Str} {r : List Str} {v : Value} (h : (valueAt kvs q).isSome = false) (e : v = fontQ kvs r) : v = fontQ kvs (q :: r) := by rw [fontQ, if_neg (by rw [h]; exact Bool.false_ne_true), e]
theorem font_g1 (w : World) {need : Led} {FD X : Addr} {oD : Obj} {kvs : List (Str × Value)} {names p0 q0 : Str} (hl : names.length ≤ 1000) (hs : Txt.split names (Str.ofString ",") = [p0]) (l0 : p0.length ≤ 1000) (e0 : Txt.stripChars p0 (Str.ofString " '\"") = q0) (hL : LookIn w need X names) (m0 : (FD, oD) ∈ need) (hD : oD.IsDictOf (PySem.strKind rprog w) kvs) (lo : (FD == sysModules) = false) : GS w 392 4 32 [.ref FD, .ref X] need (fun r _ => r = fontQ kvs [q0]) := by
  k_with "r call" => ((fail_if_success (k_extra "off N19")); (first
    | ((with_reducible refine' r_gs (g1 _) (fun _ h => hasNd h) ?zd ?zu ?_); (case zd => exact rfl); (case zu => exact rfl); intro r9 tl9 P9 σ9; obtain ⟨t9, e9⟩ := P9; subst e9)
    | ((with_reducible refine' r_splitA ?za ?zb ?ze ?_); (case za => with_reducible assumption); (case zb => with_reducible assumption); (case ze => decide +kernel); intro D9 t9 σ9)
    | ((with_reducible refine' r_splitB ?za ?zb ?ze ?_); (case za => with_reducible assumption); (case zb => with_reducible assumption); (case ze => decide +kernel); intro D9 t8 t9 σ9)
    | ((with_reducible refine' r_splitC ?za ?zb ?ze ?_); (case za => with_reducible assumption); (case zb => with_reducible assumption); (case ze => decide +kernel); intro D9 t7 t8 t9 σ9)
    | ((with_reducible refine' r_strip ?za ?zb ?_); (case za => with_reducible assumption); (case zb => with_reducible assumption); intro t9)
    | ((with_reducible refine' r_getD ?za ?zh ?zl ?_); (case zh => exact hD); (case zl => exact lo); (case za => k_extra "r mem"))
    | k_extra "r leaf"))
  k_with "r leaf" => ((fail_if_success (k_extra "off N19")); (first
    | with_reducible refine r_mSplit ?_
    | with_reducible refine r_mStrip ?_
    | ((with_reducible refine' r_mGet ?za ?zh ?_); (case zh => exact hD); (case za => k_extra "r mem"))
    | ((with_reducible refine' r_inD ?za ?zh ?zl ?_); (case zh => exact hD); (case zl => exact lo); (case za => k_extra "r mem"))
    | ((with_reducible refine' r_itemD ?za ?zh ?zb ?ze ?zf ?_); (case zh => exact hD); (case za => k_extra "r mem"); (case zb => with_reducible assumption); (case ze => exact rfl); (case zf => exact fun _ => rfl))))
  k_with "r ite" => ((fail_if_success (k_extra "off N19")); ((with_reducible refine r_ite ?_ ?_ <;> intro h9)))
  obtain ⟨DX, f, n', v1, v2, v3, c1, c2, d, m1, m2, m3, g1⟩ := hL
  k_extra "r enter"
  k_extra "r go"
  · exact fontT (by with_reducible assumption)
  · exact (fontF (by with_reducible assumption) rfl)
theorem font_g2 (w : World) {need : Led} {FD X : Addr} {oD : Obj} {kvs : List (Str × Value)} {names p0 p1 q0 q1 : Str} (hl : names.length ≤ 1000) (hs : Txt.split names (Str.ofString ",") = [p0, p1]) (l0 : p0.length ≤ 1000) (e0 : Txt.stripChars p0 (Str.ofString " '\"") = q0) (l1 : p1.length ≤ 1000) (e1 : Txt.stripChars p1 (Str.ofString " '\"") = q1) (hL : LookIn w need X names) (m0 : (FD, oD) ∈ need) (hD : oD.IsDictOf (PySem.strKind rprog w) kvs) (lo : (FD == sysModules) = false) : GS w 392 4 32 [.ref FD, .ref X] need (fun r _ => r = fontQ kvs [q0, q1]) := by
  obtain ⟨DX, f, n', v1, v2, v3, c1, c2, d, m1, m2, m3, g1⟩ := hL
  k_extra "r enter"
  k_extra "r go"
  · exact fontT (by with_reducible assumption)
  · exact (fontF (by with_reducible assumption) (fontT (by with_reducible assumption)))
  · exact (fontF (by with_reducible assumption) (fontF (by with_reducible assumption) rfl))
theorem font_g3 (w : World) {need : Led} {FD X : Addr} {oD : Obj} {kvs : List (Str × Value)} {names p0 p1 p2 q0 q1 q2 : Str} (hl : names.length ≤ 1000) (hs : Txt.split names (Str.ofString ",") = [p0, p1, p2]) (l0 : p0.length ≤ 1000) (e0 : Txt.stripChars p0 (Str.ofString " '\"") = q0) (l1 : p1.length ≤ 1000) (e1 : Txt.stripChars p1 (Str.ofString " '\"") = q1) (l2 : p2.length ≤ 1000) (e2 : Txt.stripChars p2 (Str.ofString " '\"") = q2) (hL : LookIn w need X names) (m0 : (FD, oD) ∈ need) (hD : oD.IsDictOf (PySem.strKind rprog w) kvs) (lo : (FD == sysModules) = false) : GS w 392 4 32 [.ref FD, .ref X] need (fun r _ => r = fontQ kvs [q0, q1, q2]) := by
  obtain ⟨DX, f, n', v1, v2, v3, c1, c2, d, m1, m2, m3, g1⟩ := hL
  k_extra "r enter"
  k_extra "r go"
  · exact fontT (by with_reducible assumption)
  · exact (fontF (by with_reducible assumption) (fontT (by with_reducible assumption)))
  · exact (fontF (by with_reducible assumption) (fontF (by with_reducible assumption) (fontT (by with_reducible assumption))))
  · exact (fontF (by with_reducible assumption) (fontF (by with_reducible assumption) (fontF (by with_reducible assumption) rfl)))
theorem off_N19 : True := by
  k_with "off N19" => skip
  exact trivial
end N19
section N20
theorem plain_g (w : World) {need : Led} {X D : Addr} {n : Nat} {u1 u2 u3 u4 t : Tok} {c1 c2 c3 : Value} {x : Str} (hl : x.length ≤ 1000) (hb : Nat.ble (((Txt.words x).map fun x => x.length).sum + (Txt.words x).length) 10000 = true) (m1 : (X, instObj 362 D) ∈ need) (m2 : (D, dictOf [key w "name" u1 c1, key w "attributes" u2 c2, key w "children" u3 c3, key w "text" u4 (.str x t)] n) ∈ need) : GS w 385 2 16 [.ref X] need (fun r _ => ∃ t, r = .str (Txt.join (Str.ofString " ") (Txt.words x)) t) := by
  k_with "r call" => ((fail_if_success (k_extra "off N20")); (first
    | ((with_reducible refine' r_split0 ?za ?_); (case za => with_reducible assumption); intro D9 l9 e9)
    | ((with_reducible refine' r_joinW ?za ?zb ?ze ?zf ?_); (case za => k_extra "r mem"); (case zb => with_reducible assumption); (case ze => decide +kernel); (case zf => with_reducible assumption); intro t9)
    | k_extra "r leaf"))
  k_with "r leaf" => ((fail_if_success (k_extra "off N20")); (first
    | with_reducible refine r_mSplit ?_
    | with_reducible refine r_mJoin ?_))
  k_extra "r enter"
  k_extra "r go"
  exact ⟨_, rfl⟩
theorem off_N20 : True := by
  k_with "off N20" => skip
  exact trivial
end N20
section N21
section
variable {V : Vis} {c : Ctx V} {σ : St} {Q : Value → St → Prop}
theorem r_newOutM {a : Value} (hd : Nat.ble 3 V.D = true) (hu : Nat.ble 6 V.U = true)
    (h : ∀ X dx u1 u2 e, let σ' := (σ.imm X (instObj 215 dx)).mut dx (dictOf [key V.w "contours" u1 a, key V.w "instructions" u2 e] 2); Q (.ref X) σ') : Run c σ (call (.ref 215) [a]) Q := by
  refine' Run.post (K := fun v σ₁ => ∃ X dx u1 u2 e, v = .ref X ∧ σ₁ = ⟨σ.m, σ.cm, (dx, dictOf [key V.w "contours" u1 a, key V.w "instructions" u2 e] 2) :: σ.mt, [(X, instObj 215 dx)] :: σ.im⟩) (r_new ⟨by k_is, by k_is, by k_is⟩ ?zo ?zc ?zb ?zh hd hu ?zm ?_) ?_
  case zo => k_is
  case zc => k_is
  case zb => (intro X9 s9 Z9; first | exact BindsTo.of_eq rfl | exact binds_K Z9 rfl (by k_is) rfl rfl rfl)
  case zh => exact rfl
  case zm => exact fun _ => rfl
  · intro X dx L V' c' σ'
    k_extra "r go"
    exact ⟨rfl, X, dx, _, _, _, rfl, rfl⟩
  · rintro v σ₁ ⟨X, dx, u1, u2, e, rfl, rfl⟩
    exact ⟨_, (fun _ I => I), h X dx u1 u2 e⟩
theorem r_newOut {a : Value} (hd : Nat.ble 3 V.D = true) (hu : Nat.ble 6 V.U = true)
    (h : ∀ X dx u1 u2 e, let σ' := (σ.imm X (instObj 215 dx)).imm dx (dictOf [key V.w "contours" u1 a, key V.w "instructions" u2 e] 2); Q (.ref X) σ') : Run c σ (call (.ref 215) [a]) Q := by
  refine' Run.post (K := fun v σ₁ => ∃ X dx u1 u2 e, v = .ref X ∧ σ₁ = ⟨σ.m, σ.cm, (dx, dictOf [key V.w "contours" u1 a, key V.w "instructions" u2 e] 2) :: σ.mt, [(X, instObj 215 dx)] :: σ.im⟩) (r_newOutM hd hu fun X dx u1 u2 e => ⟨X, dx, u1, u2, e, rfl, rfl⟩) ?_
  rintro v σ₁ ⟨X, dx, u1, u2, e, rfl, rfl⟩
  exact ⟨_, weak_freeze, h X dx u1 u2 e⟩
theorem r_newEl {a b : Value} (hd : Nat.ble 3 V.D = true) (hu : Nat.ble 6 V.U = true)
    (h : ∀ X dx A u1 u2 u3 u4 t, let σ' := ((σ.imm X (instObj 362 dx)).mut dx (dictOf [key V.w "name" u1 a, key V.w "attributes" u2 b, key V.w "children" u3 (.ref A), key V.w "text" u4 (.str (Str.ofString "") t)] 4)).mut A (listOf [].toArray 0); Q (.ref X) σ') : Run c σ (call (.ref 362) [a, b]) Q := by
  refine' Run.post (K := fun v σ₁ => ∃ X dx A u1 u2 u3 u4 t, v = .ref X ∧ σ₁ = ⟨σ.m, σ.cm, (A, listOf [].toArray 0) :: (dx, dictOf [key V.w "name" u1 a, key V.w "attributes" u2 b, key V.w "children" u3 (.ref A), key V.w "text" u4 (.str (Str.ofString "") t)] 4) :: σ.mt, [(X, instObj 362 dx)] :: σ.im⟩) (r_new ⟨by k_is, by k_is, by k_is⟩ ?zo ?zc ?zb ?zh hd hu ?zm ?_) ?_
  case zo => k_is
  case zc => k_is
  case zb => (intro X9 s9 Z9; first | exact BindsTo.of_eq rfl | exact binds_K Z9 rfl (by k_is) rfl rfl rfl)
  case zh => exact rfl
  case zm => exact fun _ => rfl
  · intro X dx L V' c' σ'
    k_extra "r go"
    exact ⟨rfl, X, dx, _, _, _, _, _, _, rfl, rfl⟩
  · rintro v σ₁ ⟨X, dx, A, u1, u2, u3, u4, t, rfl, rfl⟩
    exact ⟨_, (fun _ I => I), h X dx A u1 u2 u3 u4 t⟩
end
end N21
section N22
def FamOK (w : World) (names : Str) : Prop := ∃ (qs : List Str) (b : Bool), (!(Builtin.Str.occurrences names (Str.ofString "A b") 0 names.length 1).isEmpty) = b ∧
  (∀ {need : Led} {FD X : Addr} {oD : Obj} {kvs : List (Str × Value)}, LookIn w need X names → (FD, oD) ∈ need → oD.IsDictOf (PySem.strKind rprog w) kvs → (FD == sysModules) = false → GS w 392 4 32 [.ref FD, .ref X] need (fun r _ => r = fontQ kvs qs)) ∧
  (match b with | true => ∀ t1 t2, fontQ [(Str.ofString "Plain", .int 1 t1), (Str.ofString "A b", .int 2 t2)] qs = .int 2 t2 | false => ∀ t1 t2, fontQ [(Str.ofString "Plain", .int 1 t1), (Str.ofString "A b", .int 2 t2)] qs = .int 1 t1) ∧ fontQ [] qs = .none ∧ ∀ t, fontQ [(Str.ofString "", .int 7 t)] qs = .int 7 t
theorem fam1 (w : World) : FamOK w (Str.ofString "None, 'A b', Plain") := ⟨[Str.ofString "None", Str.ofString "A b", Str.ofString "Plain"], true, by decide +kernel, fun hL m hD lo => font_g3 w (by decide +kernel) (p0 := Str.ofString "None") (p1 := Str.ofString " 'A b'") (p2 := Str.ofString " Plain") (by decide +kernel) (by decide +kernel) (by decide +kernel) (by decide +kernel) (by decide +kernel) (by decide +kernel) (by decide +kernel) hL m hD lo, fun _ _ => rfl, rfl, fun _ => rfl⟩
theorem fam2 (w : World) : FamOK w (Str.ofString "Plain,None") := ⟨[Str.ofString "Plain", Str.ofString "None"], false, by decide +kernel, fun hL m hD lo => font_g2 w (by decide +kernel) (p0 := Str.ofString "Plain") (p1 := Str.ofString "None") (by decide +kernel) (by decide +kernel) (by decide +kernel) (by decide +kernel) (by decide +kernel) hL m hD lo, fun _ _ => rfl, rfl, fun _ => rfl⟩
theorem fam3 (w : World) : FamOK w (Str.ofString " \"A b\" ") := ⟨[Str.ofString "A b"], true, by decide +kernel, fun hL m hD lo => font_g1 w (by decide +kernel) (p0 := Str.ofString " \"A b\" ") (by decide +kernel) (by decide +kernel) (by decide +kernel) hL m hD lo, fun _ _ => rfl, rfl, fun _ => rfl⟩
theorem fam4 (w : World) : FamOK w (Str.ofString "'Plain '") := ⟨[Str.ofString "Plain"], false, by decide +kernel, fun hL m hD lo => font_g1 w (by decide +kernel) (p0 := Str.ofString "'Plain '") (by decide +kernel) (by decide +kernel) (by decide +kernel) hL m hD lo, fun _ _ => rfl, rfl, fun _ => rfl⟩
theorem fam_mem {w : World} {v : Value} {t1 t2 t3 t4 : Tok} (h : v ∈ [.str (Str.ofString "None, 'A b', Plain") t1, .str (Str.ofString "Plain,None") t2, .str (Str.ofString " \"A b\" ") t3, .str (Str.ofString "'Plain '") t4]) : ∃ x t, v = .str x t ∧ FamOK w x := by
  simp only [List.mem_cons, List.not_mem_nil, or_false] at h
  rcases h with rfl | rfl | rfl | rfl
  · exact ⟨_, _, rfl, fam1 w⟩
  · exact ⟨_, _, rfl, fam2 w⟩
  · exact ⟨_, _, rfl, fam3 w⟩
  · exact ⟨_, _, rfl, fam4 w⟩
def TextOK (x : Str) : Prop := ∃ b : Bool, (!(Builtin.Str.occurrences x (Str.ofString "c") 0 x.length 1).isEmpty) = b ∧ x.length ≤ 1000 ∧ Nat.ble (((Txt.words x).map fun x => x.length).sum + (Txt.words x).length) 10000 = true ∧ match b with | true => Txt.join (Str.ofString " ") (Txt.words x) = Str.ofString "a b c" | false => Txt.join (Str.ofString " ") (Txt.words x) = Str.ofString ""
theorem text_mem {v : Value} {t1 t2 t3 : Tok} (h : v ∈ [.str (Str.ofString "  a  b\n\tc ") t1, .str (Str.ofString "") t2, .str (Str.ofString " \n ") t3]) : ∃ x t, v = .str x t ∧ TextOK x := by
  simp only [List.mem_cons, List.not_mem_nil, or_false] at h
  rcases h with rfl | rfl | rfl
  · exact ⟨_, _, rfl, true, by decide +kernel, by decide +kernel, by decide +kernel, (by decide +kernel : Txt.join (Str.ofString " ") (Txt.words (Str.ofString "  a  b\n\tc ")) = Str.ofString "a b c")⟩
  · exact ⟨_, _, rfl, false, by decide +kernel, by decide +kernel, by decide +kernel, (by decide +kernel : Txt.join (Str.ofString " ") (Txt.words (Str.ofString "")) = Str.ofString "")⟩
  · exact ⟨_, _, rfl, false, by decide +kernel, by decide +kernel, by decide +kernel, (by decide +kernel : Txt.join (Str.ofString " ") (Txt.words (Str.ofString " \n ")) = Str.ofString "")⟩
theorem r_fontof {V : Vis} {c : Ctx V} {σ : St} {FD X DX f k a : Addr} {oD fo oc : Obj} {kvs : List (Str × Value)} {qs : List Str} {names : Str} {tn : Tok} {n : Nat} {u1 u2 u3 : Tok} {c1 c2 v : Value} {d : FuncData} {x : Str} {Q : Value → St → Prop} (hx : V.cl.lookup x = some a) (hf : ¬ (V.fenv.kindOf x = some .free)) (hcm : σ.cm x = some (.str names tn))
    (hF : ∀ {need : Led} {FD X : Addr} {oD : Obj} {kvs : List (Str × Value)}, LookIn V.w need X names → (FD, oD) ∈ need → oD.IsDictOf (PySem.strKind rprog V.w) kvs → (FD == sysModules) = false → GS V.w 392 4 32 [.ref FD, .ref X] need (fun r _ => r = fontQ kvs qs))
    (hLam : ∀ (led : Led) (o : Obj) (t : Tok), (f, fo) ∈ led → (k, oc) ∈ led → (a, o) ∈ led → o.data = .cell (some (.str names tn)) → GS V.w f 2 16 [.str (Str.ofString "font-family") t] led (fun r _ => ∃ t, r = .str names t)) (hfo : fo = fnO d)
    (mX : Has V σ (X, instObj 215 DX)) (mD : Has V σ (DX, dictOf [key V.w "contours" u1 c1, key V.w "instructions" u2 c2, key V.w "text" u3 (.ref f)] n)) (mf : Has V σ (f, fo)) (mk : Has V σ (k, oc)) (m0 : Has V σ (FD, oD)) (hD : oD.IsDictOf (PySem.strKind rprog V.w) kvs) (lo : (FD == sysModules) = false) (e : fontQ kvs qs = v) (hd : Nat.ble 4 V.D = true) (hu : Nat.ble 32 V.U = true)
    (h : ∀ tl, let σ' := σ.add tl; Q v σ') : Run c σ (call (.ref 392) [.ref FD, .ref X]) Q :=
  r_gsK (need := [(FD, oD), (X, instObj 215 DX), (DX, dictOf [key V.w "contours" u1 c1, key V.w "instructions" u2 c2, key V.w "text" u3 (.ref f)] n), (f, fo), (k, oc)]) hx hf (fun o ho => hF ⟨DX, f, n, u1, u2, u3, c1, c2, d, .tail _ (.tail _ (.head _)), .tail _ (.tail _ (.tail _ (.head _))), hfo ▸ .tail _ (.tail _ (.tail _ (.tail _ (.head _)))), fun t => hLam _ o t (.tail _ (.tail _ (.tail _ (.tail _ (.head _))))) (.tail _ (.tail _ (.tail _ (.tail _ (.tail _ (.head _)))))) (.head _) (hcm ▸ ho)⟩ (.tail _ (.head _)) hD lo) (allC m0 (allC mX (allC mD (allC mf (allC mk allN))))) hd hu fun r tl hr => by
    have hr : r = v := hr.trans e
    subst hr; exact h tl
theorem boolEq {a b : Str} (h : a = b) : Value.bool (a == b) = .bool true := by rw [h]; simp
theorem look1 {x y : Str} {a b : Addr} (h : List.lookup x [(y, b)] = some a) : x = y ∧ a = b := by
  rw [List.lookup_cons] at h
  cases e : x == y
  · rw [e] at h; cases h
  · rw [e] at h; cases h; exact ⟨beq_iff_eq.mp e, rfl⟩
theorem fam_g (w : World) {S : Addr} {o : Obj} (hS : SrcObj S o) (hSP : S ≠ 460) : GM w 465 10 80 [.ref S] [(S, o), (460, tabObj #[])] [] (fun r mt' tl => ∃ o' ps, mt' = [(S, o'), (460, tabObj ps)] ∧ r = .bool true) := by
  k_with "r list" => ((fail_if_success (k_extra "off N22")); (((with_reducible refine' r_newL1 ?za ?_); (case za => exact rfl); intro D9 σ9)))
  k_with "r list" => ((fail_if_success (k_extra "off N22")); (((with_reducible refine' r_newM ?za ?_); (case za => exact rfl); intro D9 σ9)))
  k_with "r list" => ((fail_if_success (k_extra "off N22")); (((with_reducible refine' r_newL1 ?za ?_); (case za => exact rfl); intro D9 σ9)))
  k_with "r call" => ((fail_if_success (k_extra "off N22")); (first
    | ((with_reducible refine' r_one ?zs ?zt ?ze ?zr ?zd ?zu ?_); (case zs => with_reducible assumption); (case zt => k_extra "r memI"); (case ze => exact rfl); (case zr => (intro o8; k_extra "r rep")); (case zd => exact rfl); (case zu => exact rfl); intro v9 o9 hv9 hS9 σ9; first
        | (obtain ⟨x9, tx9, ex9, qs9, b9, hb9, hF9, hQ9, hR9, hT9⟩ := fam_mem (w := w) hv9; subst ex9; cases b9)
        | (obtain ⟨x8, tx8, ex8, b8, hb8, hl8, hw8, hj8⟩ := text_mem hv9; subst ex8; cases b8))
    | ((with_reducible refine' r_newOutM ?zd ?zu ?_); (case zd => exact rfl); (case zu => exact rfl); intro X9 dx9 u8 u9 e9 σ9)
    | ((with_reducible refine' r_newEl ?zd ?zu ?_); (case zd => exact rfl); (case zu => exact rfl); intro X9 dx9 A9 u6 u7 u8 u9 t9 σ9)
    | k_extra "r leaf"))
  k_with "r lam" => ((fail_if_success (k_extra "off N22")); (((with_reducible refine' r_lamN ?za ?zb ?ze ?zf ?zg ?zh ?zi ?zj ?zk ?_); (case za => exact rfl); (case zb => exact rfl); (case ze => exact rfl); (case zf => exact rfl); (case zg => exact Ctx.BO c9 |>.code2); (case zh => (intro o8; k_extra "r rep")); (case zi => kn_triples); (case zj => exact rfl); (case zk => exact rfl); intro lf9 fo9 ck9 oc9 vs9 tq9 pm9 ct9 hf9 hd9 hq9 σ9)))
  refine' gmC_of_run ?hdis ?hnm ?ho ?hcd ?hb ?hc ?_
  case hdis => exact fun _ _ _ h => nomatch h
  case hnm => simp [hSP]
  case ho => k_is
  case hcd => k_is
  case hb => (intro s9 X9; first | exact BindsTo.of_eq rfl | exact binds_K X9 rfl (by k_is) rfl rfl rfl)
  case hc => exact rfl
  intro L9 V9 c9 σ9
  k_extra "r go"
  all_goals
    have hLam : ∀ (led : Led) (o : Obj) (t : Tok), (lf9, fo9) ∈ led → (ck9, oc9) ∈ led → (L9 + 1, o) ∈ led → o.data = .cell (some (.str x9 tx9)) → GS V9.w lf9 2 16 [.str (Str.ofString "font-family") t] led (fun r _ => ∃ t, r = .str x9 t) := by
      intro led o t m1 m2 m3 ho
      subst hf9
      refine' gs_lam_run (fun _ => some (.str x9 tx9)) m1 m2 hd9 hq9 ?hb ?hC ?hb2 ?_
      case hb => exact rfl
      case hC => (intro x a hx; obtain ⟨rfl, rfl⟩ := look1 hx; exact ⟨rfl, o, m3, ho⟩)
      case hb2 => exact rfl
      intro L8 V8 c8 σ8
      k_extra "r go"
      exact ⟨_, rfl⟩
  k_with "r call" => ((fail_if_success (k_extra "off N22")); (first
    | ((with_reducible refine' r_fontof (x := Str.ofString "names") ?za ?zb ?ze ?zf hLam ?zg ?zh ?zi ?zj ?zk ?zl ?zm ?zn ?zo ?zd ?zu ?_); (case za => exact rfl); (case zb => exact of_decide_eq_false rfl); (case ze => exact rfl); (case zf => exact hF9); (case zg => exact hf9); (case zh => k_extra "r mem"); (case zi => k_extra "r mem"); (case zj => k_extra "r mem"); (case zk => k_extra "r mem"); (case zl => k_extra "r mem"); (case zm => with_reducible assumption); (case zn => with_reducible assumption); (case zo => first | exact hQ9 _ _ | exact hR9 | exact hT9 _); (case zd => exact rfl); (case zu => exact rfl); intro tl9 σ9)
    | ((with_reducible refine' r_gs (plain_g _ hl8 hw8 (List.mem_cons_self ..) (List.mem_cons_of_mem _ (List.mem_cons_self ..))) (allC ?za (allC ?zb allN)) ?zd ?zu ?_); (case za => k_extra "r mem"); (case zb => k_extra "r mem"); (case zd => exact rfl); (case zu => exact rfl); intro r9 tl9 P9 σ9; obtain ⟨t9, e9⟩ := P9; subst e9)))
  all_goals k_extra "r go"
  all_goals exact ⟨[_, _, _, _], _, rfl, rfl, _, _, rfl, boolEq hj8⟩
theorem off_N22 : True := by
  k_with "off N22" => skip
  exact trivial
end N22
section N23
inductive FontG (w : World) (led tl : Led) (r : Value) (as : List Int) (v : Int) (ds : List Dat) : Prop
  | mk (g0 : as.length = 4) (g1 : (∀ a ∈ as, -1000 ≤ a ∧ a ≤ 1000)) (g2 : (v = -80 ∨ v = 30 ∨ v = 0)) (g3 : ds.length = 4) (g4 : (∀ d ∈ ds, PtsD d)) (R X A O KD : Addr) (k nA nO : Nat) (va vo : List Value) (h0 : r = .ref R) (h1 : (R, tup [.ref X, .ref A, .ref O, .ref KD] k) ∈ tl) (h2 : (A, listOf va.toArray nA) ∈ tl) (h3 : IntsIn va as) (h4 : (O, listOf vo.toArray nO) ∈ tl) (h5 : DatAll tl vo ds) (h6 : TupTab (intKind rprog w) PyData.int tl KD (KerD v)) (h7 : FnG w (led ++ tl) X as v ds) : FontG w led tl r as v ds
theorem allApp {a b c : Led} (h1 : ∀ p ∈ a, p ∈ c) (h2 : ∀ p ∈ b, p ∈ c) : ∀ p ∈ a ++ b, p ∈ c := List.forall_mem_append.mpr ⟨h1, h2⟩
theorem qualF : (Str.ofString "_law_font" ++ Str.ofString ".<locals>.") ++ Str.ofString "<lambda>" = Str.ofString "_law_font.<locals>.<lambda>" := by decide +kernel
theorem setI41 {a b d e v : Value} : ki_setL [a, b, d, e] (Int.toNat 1) v = some [a, v, d, e] := rfl
theorem ptsI {i : Led} {R T0 T1 T2 : Addr} {x0 y0 x1 y1 x2 y2 : Int} {t0 u0 t1 u1 t2 u2 : Tok} {n k0 k1 k2 : Nat} (hR : (R, listOf #[.ref T0, .ref T1, .ref T2] n) ∈ i) (h0 : (T0, tup [.int x0 t0, .int y0 u0] k0) ∈ i) (h1 : (T1, tup [.int x1 t1, .int y1 u1] k1) ∈ i) (h2 : (T2, tup [.int x2 t2, .int y2 u2] k2) ∈ i) : DatIn i (.ref R) (.list [ptD x0 y0, ptD x1 y1, ptD x2 y2]) :=
  .list hR (.cons (.tuple h0 (.cons (.int _ _) (.cons (.int _ _) .nil))) (.cons (.tuple h1 (.cons (.int _ _) (.cons (.int _ _) .nil))) (.cons (.tuple h2 (.cons (.int _ _) (.cons (.int _ _) .nil))) .nil)))
theorem ptsD {x0 y0 x1 y1 x2 y2 : Int} : PtsD (.list [ptD x0 y0, ptD x1 y1, ptD x2 y2]) := ⟨_, _, _, rfl, ⟨_, _, rfl⟩, ⟨_, _, rfl⟩, ⟨_, _, rfl⟩⟩
theorem advI {n : Int} (h : AdvD (.int n)) : -1000 ≤ n ∧ n ≤ 1000 := by
  obtain ⟨m, e, h1, h2⟩ := h
  cases e; exact ⟨h1, h2⟩
theorem fontG_mk {w : World} {led tl : Led} {a0 a2 a3 v : Int} {d0 d1 d2 d3 : Dat} {R X A O KD : Addr} {k nA nO : Nat} {v0 v1 v2 v3 o0 o1 o2 o3 : Value} (mR : (R, tup [.ref X, .ref A, .ref O, .ref KD] k) ∈ tl) (mA : (A, listOf [v0, v1, v2, v3].toArray nA) ∈ tl) (mO : (O, listOf [o0, o1, o2, o3].toArray nO) ∈ tl) (hi : IntsIn [v0, v1, v2, v3] [a0, 500, a2, a3])
    (b0 : AdvD (.int a0)) (b2 : AdvD (.int a2)) (b3 : AdvD (.int a3)) (hv : v = -80 ∨ v = 30 ∨ v = 0) (hD : DatAll tl [o0, o1, o2, o3] [d0, d1, d2, d3]) (hP : PtsD d0 ∧ PtsD d1 ∧ PtsD d2 ∧ PtsD d3) (hT : TupTab (intKind rprog w) PyData.int tl KD (KerD v)) (hF : FnG w (led ++ tl) X [a0, 500, a2, a3] v [d0, d1, d2, d3]) : ∃ as v ds, FontG w led tl (.ref R) as v ds := by
  have c0 := advI b0
  have c2 := advI b2
  have c3 := advI b3
  refine ⟨[a0, 500, a2, a3], v, [d0, d1, d2, d3], rfl, adv_bounds c0.1 c0.2 c2.1 c2.2 c3.1 c3.2, hv, rfl, fun d hd => ?_, R, X, A, O, KD, k, nA, nO, _, _, rfl, mR, mA, hi, mO, hD, hT, hF⟩
  simp only [List.mem_cons, List.not_mem_nil, or_false] at hd
  rcases hd with rfl | rfl | rfl | rfl
  · exact hP.1
  · exact hP.2.1
  · exact hP.2.2.1
  · exact hP.2.2.2
theorem glyVal {c : Int} {t1 t2 t3 t : Tok} : ∃ t', (valueAt [((97 : Int), Value.int 1 t1), (98, Value.int 2 t2), (32, Value.int 3 t3)] c).getD (Value.int 0 t) = Value.int (gly c) t' := by
  by_cases h1 : c = 97
  · subst h1; exact ⟨_, rfl⟩
  · by_cases h2 : c = 98
    · subst h2; exact ⟨_, rfl⟩
    · by_cases h3 : c = 32
      · subst h3; exact ⟨_, rfl⟩
      · refine ⟨t, ?_⟩
        have e1 : ¬ ((97 : Int) = c) := fun e => h1 e.symm
        have e2 : ¬ ((98 : Int) = c) := fun e => h2 e.symm
        have e3 : ¬ ((32 : Int) = c) := fun e => h3 e.symm
        simp [valueAt, gly, h1, h2, h3, e1, e2, e3]
theorem dat_at {fp : Led} {d : Dat} : ∀ {vs : List Value} {ds : List Dat} (i : Nat), DatAll fp vs ds → ds[i]? = some d → ∃ v, vs[i]? = some v ∧ DatIn fp v d := by
  intro vs
  induction vs with
  | nil => intro ds i h e; cases h; cases e
  | cons v vs ih =>
    intro ds i h e
    cases h with
    | cons h1 h2 =>
      cases i with
      | zero => cases e; exact ⟨v, rfl, h1⟩
      | succ i => simpa using ih i h2 (by simpa using e)
theorem pt_of' {i : Led} {v : Value} {x y : Int} (h : DatIn i v (ptD x y)) : ∃ (T : Addr) (t u : Tok) (k : Nat), v = .ref T ∧ (T, tup [.int x t, .int y u] k) ∈ i := by
  cases h with
  | tuple hm hd => cases hd with
    | cons h1 hd => cases hd with
      | cons h2 hd => cases h1; cases h2; cases hd; exact ⟨_, _, _, _, rfl, hm⟩
theorem pts_of' {i : Led} {v : Value} {x0 y0 x1 y1 x2 y2 : Int} (h : DatIn i v (.list [ptD x0 y0, ptD x1 y1, ptD x2 y2])) : ∃ (R T0 T1 T2 : Addr) (t0 u0 t1 u1 t2 u2 : Tok) (n k0 k1 k2 : Nat), v = .ref R ∧ (R, listOf #[.ref T0, .ref T1, .ref T2] n) ∈ i ∧ (T0, tup [.int x0 t0, .int y0 u0] k0) ∈ i ∧ (T1, tup [.int x1 t1, .int y1 u1] k1) ∈ i ∧ (T2, tup [.int x2 t2, .int y2 u2] k2) ∈ i := by
  cases h with
  | list hm hd => cases hd with
    | cons h1 hd => cases hd with
      | cons h2 hd => cases hd with
        | cons h3 hd =>
          cases hd
          obtain ⟨T0, t0, u0, k0, rfl, m0⟩ := pt_of' h1
          obtain ⟨T1, t1, u1, k1, rfl, m1⟩ := pt_of' h2
          obtain ⟨T2, t2, u2, k2, rfl, m2⟩ := pt_of' h3
          exact ⟨_, T0, T1, T2, t0, u0, t1, u1, t2, u2, _, k0, k1, k2, rfl, hm, m0, m1, m2⟩
theorem inB {a b c d e : Led} {p : Addr × Obj} (hB : a ++ (b ++ (c ++ d)) = e) (h : p ∈ d) : p ∈ e := hB ▸ List.mem_append_right _ (List.mem_append_right _ (List.mem_append_right _ h))
theorem font_g (w : World) {S : Addr} {o oP : Obj} {need : Led} (hS : SrcObj S o) (hTab : TabSt need oP) (hdis : ∀ p ∈ [(S, o), (436, oP)], ∀ q ∈ need, p.1 ≠ q.1) (hSP : S ≠ 436) : GM w 439 4 32 [.ref S] [(S, o), (436, oP)] need (fun r mt' tl => ∃ o' oP', mt' = [(S, o'), (436, oP')] ∧ SrcObj S o' ∧ TabFull (need ++ tl) oP' ∧ ∃ as v ds, FontG w need tl r as v ds) := by
  k_with "r list" => ((fail_if_success (k_extra "off N23")); (((with_reducible refine' r_newM ?za ?_); (case za => exact rfl); intro D9 σ9)))
  k_with "r list" => ((fail_if_success (k_extra "off N23")); (((with_reducible refine' r_newL1 ?za ?_); (case za => exact rfl); intro D9 σ9)))
  k_with "r eval" => ((fail_if_success (k_extra "off N23")); (((with_reducible refine' r_compM ?za ?zb ?zf ?_); (case za => exact rfl); (case zb => exact rfl); (case zf => exact fun _ => rfl))))
  k_with "r call" => ((fail_if_success (k_extra "off N23")); (first
    | ((with_reducible refine' r_one ?zs ?zt ?ze ?zr ?zd ?zu ?_); (case zs => with_reducible assumption); (case zt => k_extra "r memI"); (case ze => exact rfl); (case zr => (intro o8; k_extra "r rep")); (case zd => exact rfl); (case zu => exact rfl); intro v9 o9 hv9 hS9 σ9; first
        | (obtain ⟨n9, t9, e9, hn9⟩ := adv_mem hv9; subst e9)
        | (obtain ⟨kn9, t9, e9, hk9⟩ := int3_mem hv9; subst e9))
    | ((with_reducible refine' r_take ?zs ?ze ?zf ?zr ?zd ?zu ?_); (case zs => with_reducible assumption); (case ze => decide); (case zf => decide); (case zr => (intro o8; k_extra "r rep")); (case zd => exact rfl); (case zu => exact rfl); intro x9 t9 o9 l9 h9 S9 σ9)
    | ((with_reducible refine' r_newOutM ?zd ?zu ?_); (case zd => exact rfl); (case zu => exact rfl); intro X9 dx9 u8 u9 e9 σ9)
    | k_extra "r leaf"))
  k_with "r leaf" => ((fail_if_success (k_extra "off N23")); (((with_reducible refine' r_setI ?za ?zb ?ze ?zf ?_); (case za => decide); (case zb => decide); (case zf => k_extra "r rep"); (case ze => exact setI41); intro σ9)))
  k_with "r subG" => ((fail_if_success (k_extra "off N23")); (first
    | exact fun _ h => List.mem_append_right _ h
    | ((with_reducible refine' allApp ?yg1 ?yg2); (case yg1 => (intro p9 hp9; (with_reducible refine' List.mem_append_left _ ?yg3); (case yg3 => k_extra "r seg"))); (case yg2 => k_extra "r subG"))))
  k_with "r lam" => ((fail_if_success (k_extra "off N23")); (first
    | ((with_reducible refine' r_lamA (T := Tab1) ?zt ?zm ?za ?zb ?ze ?zf ?zg ?zh ?zk ?_); (case zt => exact tab_step1 hTab rfl rfl); (case zm => k_extra "r subG"); (case za => exact rfl); (case zb => exact rfl); (case ze => exact qualF); (case zf => exact rfl); (case zg => exact (Ctx.BO _).code1); (case zh => (intro o8; k_extra "r rep")); (case zk => exact rfl); intro lf1 fo1 ck1 oc1 vs1 tq1 pm1 ct1 cds1 oP1 hf1 hd1 hq1 σ9 hT1 hc1)
    | ((with_reducible refine' r_lamA (T := Tab2) ?zt ?zm ?za ?zb ?ze ?zf ?zg ?zh ?zk ?_); (case zt => exact tab_step2 hT1 rfl rfl); (case zm => k_extra "r subG"); (case za => exact rfl); (case zb => exact rfl); (case ze => exact qualF); (case zf => exact rfl); (case zg => exact (Ctx.BO _).code1); (case zh => (intro o8; k_extra "r rep")); (case zk => exact rfl); intro lf2 fo2 ck2 oc2 vs2 tq2 pm2 ct2 cds2 oP2 hf2 hd2 hq2 σ9 hT2 hc2)
    | ((with_reducible refine' r_lamA (T := Tab3) ?zt ?zm ?za ?zb ?ze ?zf ?zg ?zh ?zk ?_); (case zt => exact tab_step3 hT2 rfl rfl); (case zm => k_extra "r subG"); (case za => exact rfl); (case zb => exact rfl); (case ze => exact qualF); (case zf => exact rfl); (case zg => exact (Ctx.BO _).code1); (case zh => (intro o8; k_extra "r rep")); (case zk => exact rfl); intro lf3 fo3 ck3 oc3 vs3 tq3 pm3 ct3 cds3 oP3 hf3 hd3 hq3 σ9 hT3 hc3)
    | ((with_reducible refine' r_lamA (T := TabFull) ?zt ?zm ?za ?zb ?ze ?zf ?zg ?zh ?zk ?_); (case zt => exact tab_step4 hT3 rfl rfl); (case zm => k_extra "r subG"); (case za => exact rfl); (case zb => exact rfl); (case ze => exact qualF); (case zf => exact rfl); (case zg => exact (Ctx.BO _).code1); (case zh => (intro o8; k_extra "r rep")); (case zk => exact rfl); intro lf4 fo4 ck4 oc4 vs4 tq4 pm4 ct4 cds4 oP4 hf4 hd4 hq4 σ9 hT4 hc4)))
  refine' gmCC_of_run ?hdis ?hnm ?ho ?hcd ?hb ?hc ?_
  case hdis => exact hdis
  case hnm => simp [hSP]
  case ho => k_is
  case hcd => k_is
  case hb => (intro s9 X9; first | exact BindsTo.of_eq rfl | exact binds_K X9 rfl (by k_is) rfl rfl rfl)
  case hc => exact rfl
  intro L9 V9 c9 σ9
  k_extra "r go"
  k_with "r oc" => ((fail_if_success (k_extra "off N23")); (first
    | (refine' List.mem_append_right _ ?yo; (case yo => (refine' List.mem_append_left _ ?yp; (case yp => k_extra "r in"))))
    | (refine' List.mem_append_left _ ?yo; (case yo => k_extra "r mt"))))
  have G1 : ∀ led : Led, (lf1, fo1) ∈ led → (ck1, oc1) ∈ led → ∀ c t, GS w lf1 2 16 [.int c t] led (fun r _ => ∃ t, r = .int (gly c) t) := by
    intro led m1 m2 cc tt
    rw [hf1] at m1
    k_with "r call" => ((fail_if_success (k_extra "off N23")); (first
      | ((with_reducible refine' r_getI2 ?za hK9 lo9 ?_); (case za => k_extra "r mem"))
      | k_extra "r leaf"))
    k_with "r leaf" => ((fail_if_success (k_extra "off N23")); (((with_reducible refine' r_mGetI ?za hK9 ?_); (case za => k_extra "r mem"))))
    refine' gs_lam_run (fun _ => none) m1 m2 hd1 hq1 ?hb ?hC ?hb2 ?_
    case hb => exact rfl
    case hC => (intro x a hx; exact nomatch hx)
    case hb2 => exact rfl
    intro L8 V8 c8 σ8
    k_extra "r go"
    exact glyVal
  have G2 : ∀ (led : Led) (aX A : Addr) (o : Obj) (va : List Value) (n : Nat) (as : List Int), V9.cl.lookup (Str.ofString "advances") = some aX → (lf2, fo2) ∈ led → (ck2, oc2) ∈ led → (aX, o) ∈ led → o.data = .cell (some (.ref A)) → (A, listOf va.toArray n) ∈ led → IntsIn va as → as.length = 4 → ∀ g t, 0 ≤ g → g < 4 → GS w lf2 2 16 [.int g t] led (fun r _ => ∃ t, r = .int (adv as g) t) := by
    intro led aX A o va n as hX m1 m2 m3 hd m4 hi hl g tt h0 h4
    rw [hf2] at m1
    obtain ⟨ta, ea⟩ := adv_get hi hl h0 h4
    k_with "r leaf" => ((fail_if_success (k_extra "off N23")); (((with_reducible refine' r_itemAt ?za ?zb ?ze ?zf ?zg ?_); (case za => k_extra "r mem"); (case zb => with_reducible assumption); (case ze => omega); (case zf => with_reducible assumption); (case zg => exact rfl))))
    refine' gs_lam_run (fun _ => some (.ref A)) m1 m2 hd2 hq2 ?hb ?hC ?hb2 ?_
    case hb => exact rfl
    case hC => (intro x a hx; obtain ⟨rfl, rfl⟩ := look1 hx; have e9 : some _ = some aX := hX; exact ⟨rfl, o, (Option.some.inj e9) ▸ m3, hd⟩)
    case hb2 => exact rfl
    intro L8 V8 c8 σ8
    k_extra "r go"
    exact ⟨_, rfl⟩
  have G3 : ∀ (led need' : Led) (aX K : Addr) (o : Obj) (v : Int), V9.cl.lookup (Str.ofString "kerns") = some aX → (lf3, fo3) ∈ led → (ck3, oc3) ∈ led → (aX, o) ∈ led → o.data = .cell (some (.ref K)) → TupTab (intKind rprog w) PyData.int led K (KerD v) → ∀ l r t u, GS w lf3 2 16 [.int l t, .int r u] led (fun r' _ => ∃ t, r' = .int (ker v l r) t) := by
    intro led need' aX K o v hX m1 m2 m3 hd hT l r t u
    rw [hf3] at m1
    k_with "r call" => ((fail_if_success (k_extra "off N23")); (first
      | ((with_reducible refine' r_kget hT (fun _ h => hasNd h) ?za ?zu ?_); (case za => k_extra "r mem"); (case zu => exact rfl); intro t9)
      | k_extra "r leaf"))
    k_with "r leaf" => ((fail_if_success (k_extra "off N23")); (((with_reducible refine' r_kmeth hT (fun _ h => hasNd h) ?_))))
    refine' gs_lam_run (fun _ => some (.ref K)) m1 m2 hd3 hq3 ?hb ?hC ?hb2 ?_
    case hb => exact rfl
    case hC => (intro x a hx; obtain ⟨rfl, rfl⟩ := look1 hx; have e9 : some _ = some aX := hX; exact ⟨rfl, o, (Option.some.inj e9) ▸ m3, hd⟩)
    case hb2 => exact rfl
    intro L8 V8 c8 σ8
    k_extra "r go"
    exact ⟨_, rfl⟩
  have G4 : ∀ (led : Led) (aX O : Addr) (o : Obj) (vo : List Value) (n : Nat) (ds : List Dat), V9.cl.lookup (Str.ofString "outlines") = some aX → (lf4, fo4) ∈ led → (ck4, oc4) ∈ led → (aX, o) ∈ led → o.data = .cell (some (.ref O)) → (O, listOf vo.toArray n) ∈ led → DatAll led vo ds → ∀ g t x0 y0 x1 y1 x2 y2, 0 ≤ g → g < 4 → ds[g.toNat]? = some (.list [ptD x0 y0, ptD x1 y1, ptD x2 y2]) → GS w lf4 4 32 [.int g t] led (fun r tl => OutIn w tl r x0 y0 x1 y1 x2 y2) := by
    intro led aX O o vo n ds hX m1 m2 m3 hd m4 hD g tt x0 y0 x1 y1 x2 y2 h0 h4 hg
    rw [hf4] at m1
    obtain ⟨vg, eg, hv⟩ := dat_at g.toNat hD hg
    obtain ⟨R, T0, T1, T2, t0, u0, t1, u1, t2, u2, n, k0, k1, k2, rfl, r1, r2, r3, r4⟩ := pts_of' hv
    k_with "r leaf" => ((fail_if_success (k_extra "off N23")); (((with_reducible refine' r_itemAt ?za ?zb ?ze ?zf ?zg ?_); (case za => k_extra "r mem"); (case zb => with_reducible assumption); (case ze => omega); (case zf => with_reducible assumption); (case zg => exact rfl))))
    k_with "r list" => ((fail_if_success (k_extra "off N23")); (((with_reducible refine' r_newL1 ?za ?_); (case za => exact rfl); intro D9 σ9)))
    k_with "r call" => ((fail_if_success (k_extra "off N23")); (first
      | ((with_reducible refine' r_newOut ?zd ?zu ?_); (case zd => exact rfl); (case zu => exact rfl); intro X9 dx9 u8 u9 e9 σ9)
      | k_extra "r leaf"))
    refine' gs_lam_run (fun _ => some (.ref O)) m1 m2 hd4 hq4 ?hb ?hC ?hb2 ?_
    case hb => exact rfl
    case hC => (intro x a hx; obtain ⟨rfl, rfl⟩ := look1 hx; have e9 : some _ = some aX := hX; exact ⟨rfl, o, (Option.some.inj e9) ▸ m3, hd⟩)
    case hb2 => exact rfl
    intro L8 V8 c8 σ8
    k_extra "r go"
    exact ⟨_, _, _, _, _, _, _, _, _, _, _, _, _, _, _, _, _, _, _, _, _, _, rfl, by k_extra "r out", by k_extra "r out", by k_extra "r out", by k_extra "r out", by k_extra "r out", by k_extra "r out", by k_extra "r out"⟩
  refine ⟨[_, _, _, _], _, rfl, rfl, fun ce hce => ?_⟩
  obtain ⟨oA, mA, dA⟩ := hce (Str.ofString "advances") _ rfl
  obtain ⟨oO, mO, dO⟩ := hce (Str.ofString "outlines") _ rfl
  obtain ⟨oK, mK, dK⟩ := hce (Str.ofString "kerns") _ rfl
  clear hce
  refine ⟨_, _, rfl, by with_reducible assumption, ?_, fontG_mk (by k_extra "r oc") (by k_extra "r oc") (by k_extra "r oc") (.cons ⟨_, rfl⟩ (.cons ⟨_, rfl⟩ (.cons ⟨_, rfl⟩ (.cons ⟨_, rfl⟩ .nil)))) (by with_reducible assumption) (by with_reducible assumption) (by with_reducible assumption) hk9 (.cons (ptsI (by k_extra "r oc") (by k_extra "r oc") (by k_extra "r oc") (by k_extra "r oc")) (.cons (ptsI (by k_extra "r oc") (by k_extra "r oc") (by k_extra "r oc") (by k_extra "r oc")) (.cons (ptsI (by k_extra "r oc") (by k_extra "r oc") (by k_extra "r oc") (by k_extra "r oc")) (.cons (ptsI (by k_extra "r oc") (by k_extra "r oc") (by k_extra "r oc") (by k_extra "r oc")) .nil)))) ⟨ptsD, ptsD, ptsD, ptsD⟩ (TupTab_mono hK9 (allC (by k_extra "r oc") (allC (by k_extra "r oc") (allC (by k_extra "r oc") (allC (by k_extra "r oc") allN))))) ?_⟩
  k_with "r bo" => ((fail_if_success (k_extra "off N23")); ((refine' List.mem_append_right _ ?yq; (case yq => k_extra "r oc"))))
  k_with "r tab" => ((fail_if_success (k_extra "off N23")); (first
    | exact fun _ h => List.mem_append_left _ h
    | (refine' allApp ?yt1 ?yt2; (case yt1 => (intro p9 hp9; refine' List.mem_append_right _ (List.mem_append_right _ (List.mem_append_left _ ?yt3)); (case yt3 => k_extra "r seg"))); (case yt2 => k_extra "r tab"))))
  · refine' mono4 _ _ _ ?hs hT4
    case hs => k_extra "r tab"
  · generalize hB : need ++ _ = BIG
    have hsub : ∀ p ∈ cds4 ++ (cds3 ++ (cds2 ++ (cds1 ++ need))), p ∈ BIG := by rw [← hB]; k_extra "r tab"
    have C4 := hsub _ hc4
    have C3 := hsub _ (List.mem_append_right _ hc3)
    have C2 := hsub _ (List.mem_append_right _ (List.mem_append_right _ hc2))
    have C1 := hsub _ (List.mem_append_right _ (List.mem_append_right _ (List.mem_append_right _ hc1)))
    have M1 : (lf1, fo1) ∈ BIG := by rw [← hB]; k_extra "r bo"
    have M2 : (lf2, fo2) ∈ BIG := by rw [← hB]; k_extra "r bo"
    have M3 : (lf3, fo3) ∈ BIG := by rw [← hB]; k_extra "r bo"
    have M4 : (lf4, fo4) ∈ BIG := by rw [← hB]; k_extra "r bo"
    have mA' := inB hB mA
    have mO' := inB hB mO
    have mK' := inB hB mK
    k_with "r bB" => ((fail_if_success (k_extra "off N23")); ((rw [← hB]; k_extra "r bo")))
    exact ⟨_, lf1, lf2, lf3, lf4, _, _, _, _, _, _, _, _, _, _, _, _, _, by k_extra "r bB", by k_extra "r bB", by rw [hf1] at M1; exact M1, by rw [hf2] at M2; exact M2, by rw [hf3] at M3; exact M3, by rw [hf4] at M4; exact M4, fun c t => G1 _ M1 C1 c t, fun g t h0 h4 => G2 _ _ _ _ _ _ _ rfl M2 C2 mA' dA (by k_extra "r bB") (.cons ⟨_, rfl⟩ (.cons ⟨_, rfl⟩ (.cons ⟨_, rfl⟩ (.cons ⟨_, rfl⟩ .nil)))) rfl g t h0 h4, G3 _ [] _ _ _ _ rfl M3 C3 mK' dK (TupTab_mono hK9 (allC (by k_extra "r bB") (allC (by k_extra "r bB") (allC (by k_extra "r bB") (allC (by k_extra "r bB") allN))))), fun g t x0 y0 x1 y1 x2 y2 h0 h4 hg => G4 _ _ _ _ _ _ _ rfl M4 C4 mO' dO (by k_extra "r bB") (.cons (ptsI (by k_extra "r bB") (by k_extra "r bB") (by k_extra "r bB") (by k_extra "r bB")) (.cons (ptsI (by k_extra "r bB") (by k_extra "r bB") (by k_extra "r bB") (by k_extra "r bB")) (.cons (ptsI (by k_extra "r bB") (by k_extra "r bB") (by k_extra "r bB") (by k_extra "r bB")) (.cons (ptsI (by k_extra "r bB") (by k_extra "r bB") (by k_extra "r bB") (by k_extra "r bB")) .nil)))) g t x0 y0 x1 y1 x2 y2 h0 h4 hg⟩
theorem off_N23 : True := by
  k_with "off N23" => skip
  exact trivial
end N23
section P3
section
variable {prog : Program} {w : World} {A : Around} {E : Value → Shared → Prop} {s : Shared} {h₀ : Heap} {L d : Addr} {news n1 n2 : Led} {o : Obj} {Q : Value → Shared → Prop}
theorem sign_val (c : Nat) (v1 v2 v3 : Value) : valueAt [(Str.ofString "a", v1), (Str.ofString "b", v2), (Str.ofString " ", v3)] (Str.mk #[c]) = if c = 97 then some v1 else if c = 98 then some v2 else if c = 32 then some v3 else none := by
  have e1 : Str.ofString "a" = Str.mk #[97] := rfl
  have e2 : Str.ofString "b" = Str.mk #[98] := rfl
  have e3 : Str.ofString " " = Str.mk #[32] := rfl
  unfold valueAt
  simp only [List.find?_cons, List.find?_nil, e1, e2, e3, Str.mk.injEq, Array.mk.injEq, List.cons.injEq, and_true]
  by_cases h1 : c = 97
  · subst h1; simp
  · by_cases h2 : c = 98
    · subst h2; simp
    · by_cases h3 : c = 32
      · subst h3; simp
      · simp [h1, h2, h3, Ne.symm h1, Ne.symm h2, Ne.symm h3]
theorem same_ne {a b : Value} {x : Dat} (N : News h₀ L s.heap news) (ha : DatIn n1 a x) (sa : ∀ p ∈ n1, p ∈ news) (hb : DatIn n2 b x) (sb : ∀ p ∈ n2, p ∈ news) (hk : kqdOk 9 x = true) (hu : A.units + 64 < cLine) (h : Q (.bool false) s) : wpAny (model prog w) A (compareOp .NotEq a b) Q E s := by
  obtain ⟨as, ra⟩ := kqd_in N 9 (ha.mono sa) hk
  obtain ⟨bs, rb⟩ := kqd_in N 9 (hb.mono sb) hk
  have la := kqd_lay 9 x hk
  have e : PyData.eqv (kqdP x) (kqdP x) = true := (kqd_eqv 9 x x 9 hk hk).mpr rfl
  refine ne_dataH ra rb ?_ ?_ hu (by rw [e]; exact h)
  · unfold SeqAt.shaped; rw [la.1, Bool.true_and]; exact decide_eq_true (Nat.le_trans la.2 (by decide))
  · unfold SeqAt.shaped; rw [la.1, Bool.true_and]; exact decide_eq_true (Nat.le_trans la.2 (by decide))
theorem same_eq {a b : Value} {x : Dat} (N : News h₀ L s.heap news) (ha : DatIn n1 a x) (sa : ∀ p ∈ n1, p ∈ news) (hb : DatIn n2 b x) (sb : ∀ p ∈ n2, p ∈ news) (hk : kqdOk 9 x = true) (hu : A.units + 64 < cLine) (h : Q (.bool true) s) : wpAny (model prog w) A (compareOp .Eq a b) Q E s := by
  obtain ⟨as, ra⟩ := kqd_in N 9 (ha.mono sa) hk
  obtain ⟨bs, rb⟩ := kqd_in N 9 (hb.mono sb) hk
  have la := kqd_lay 9 x hk
  have e : PyData.eqv (kqdP x) (kqdP x) = true := (kqd_eqv 9 x x 9 hk hk).mpr rfl
  refine eq_dataH ra rb ?_ ?_ hu (by rw [e]; exact h)
  · unfold SeqAt.shaped; rw [la.1, Bool.true_and]; exact decide_eq_true (Nat.le_trans la.2 (by decide))
  · unfold SeqAt.shaped; rw [la.1, Bool.true_and]; exact decide_eq_true (Nat.le_trans la.2 (by decide))
theorem kq_law {β : Type} {p q s : Rat} {f : β → Rat} {g : β → Six} {ls : List β} : kqdOk 9 (.list (ls.map fun l => lawL p q s (f l) (g l)).flatten) = true := by
  simp only [kqdOk, List.all_eq_true, List.mem_flatten, List.mem_map]
  rintro x ⟨_, ⟨l, _, rfl⟩, hx⟩
  simp only [lawL, List.mem_cons, List.not_mem_nil, or_false] at hx
  have h1 : PyData.strOk (Str.ofString "move") = true := by decide +kernel
  have h2 : PyData.strOk (Str.ofString "line") = true := by decide +kernel
  have h3 : PyData.strOk (Str.ofString "close") = true := by decide +kernel
  rcases hx with rfl | rfl | rfl | rfl | rfl <;> simp [kqdOk, lawP, dP, dR, h1, h2, h3]
def letD (l : Int × Int × Int) : Dat := .tuple [.int l.1, .int l.2.1, .int l.2.2]
theorem kq_lets {ls : List (Int × Int × Int)} : kqdOk 9 (.list (ls.map letD)) = true := by
  simp only [kqdOk, List.all_eq_true, List.mem_map]
  rintro x ⟨l, _, rfl⟩
  rfl
end
theorem list_ref {i : Led} {v : Value} {ds : List Dat} (h : DatIn i v (.list ds)) : ∃ (a : Addr) (vs : List Value) (n : Nat), v = .ref a ∧ (a, listOf vs.toArray n) ∈ i ∧ DatAll i vs ds := by
  cases h with
  | list hm hd => exact ⟨_, _, _, rfl, hm, hd⟩
theorem dsOK_of {ds : List Dat} (hl : ds.length = 4) (hV : ∀ d ∈ ds, PtsD d) : DsOK ds := by
  intro g h0 h4
  have hlt : g.toNat < ds.length := by omega
  have hd : ds[g.toNat]? = some ds[g.toNat] := List.getElem?_eq_getElem hlt
  obtain ⟨p0, p1, p2, e, ⟨x0, y0, e0⟩, ⟨x1, y1, e1⟩, ⟨x2, y2, e2⟩⟩ := hV _ (List.getElem_mem hlt)
  subst e0 e1 e2
  unfold six
  rw [hd, e]
  rfl
theorem glys_at {xs : List Nat} {i : Nat} {g : Int} (h : (glys xs)[i]? = some g) : 0 ≤ g ∧ g < 4 := glys_ok xs g (List.mem_of_getElem? h)
end P3
section P4
theorem num_den (z : Rat) : (z.num : Rat) / ((z.den : Int) : Rat) = z := by
  rw [← Rat.divInt_eq_div]
  exact Rat.num_divInt_den z
theorem low_scale (z : Rat) (u : Int) : Rat.divInt z.num ((z.den : Int) * u) = z / (u : Rat) := by
  rw [Rat.divInt_eq_div, Rat.intCast_mul]
  conv => rhs; rw [← num_den z]
  grind
theorem num_le {a b : Int} (ha : 0 ≤ a) (hb : 0 < b) : 0 ≤ (Rat.divInt a b).num ∧ (Rat.divInt a b).num ≤ a := by
  rw [Rat.num_divInt, Int.sign_eq_one_of_pos hb, Int.one_mul]
  exact ⟨Int.ediv_nonneg ha (Int.natCast_nonneg _), Int.ediv_le_self _ ha⟩
theorem den_le {a b : Int} (hb : 0 < b) : (Rat.divInt a b).den ≤ b.toNat := by
  rw [Rat.den_divInt, if_neg (by omega)]
  exact Nat.le_trans (Nat.div_le_self _ _) (by omega)
theorem bd_low {a b : Int} {n : Nat} (hb : 0 < b) (h : b.toNat < 2 ^ n) : Bd n (Rat.divInt a b) := ⟨Nat.lt_of_le_of_lt (den_le hb) h⟩
theorem scB_of {a n u : Int} (ha : 0 ≤ a) (ha' : a < 100) (hn : n = 1 ∨ n = 3) (hu : u = 1000 ∨ u = 2048) : ScB (Rat.divInt a n / (u : Rat)) := by
  have hn0 : 0 < n := by omega
  have hu0 : 0 < u := by omega
  have e : Rat.divInt a n / (u : Rat) = Rat.divInt a (n * u) := by
    rw [Rat.divInt_eq_div, Rat.divInt_eq_div, Rat.intCast_mul]; grind
  have hnu : 0 < n * u := Int.mul_pos hn0 hu0
  rw [e]
  have h1 := num_le ha hnu
  refine ⟨by omega, by omega, bd_low hnu ?_⟩
  rcases hn with rfl | rfl <;> rcases hu with rfl | rfl <;> decide
theorem go_lets (as : List Int) (v : Int) : ∀ (r : List Int) (b g : Int) (i : Nat) (l : Int × Int × Int), (letsFrom as v b (g :: r))[i]? = some l → (g :: r)[i]? = some l.1 ∧ l.2.1 = adv as l.1 ∧ (b :: (lawGo as v (b + adv as g) g r).1)[i]? = some l.2.2 := by
  intro r
  induction r with
  | nil =>
    intro b g i l h
    cases i with
    | zero => cases h; exact ⟨rfl, rfl, rfl⟩
    | succ i => simp [letsFrom] at h
  | cons h r ih =>
    intro b g i l hl
    cases i with
    | zero => cases hl; exact ⟨rfl, rfl, rfl⟩
    | succ i =>
      have := ih (b + adv as g + ker v g h) h i l hl
      exact this
theorem lets_at {as : List Int} {v : Int} {gs : List Int} {i : Nat} {l : Int × Int × Int} (h : (letsFrom as v 0 gs)[i]? = some l) : gs[i]? = some l.1 ∧ l.2.1 = adv as l.1 ∧ (lawAll as v gs).1[i]? = some l.2.2 := by
  cases gs with
  | nil => simp [letsFrom] at h
  | cons g r => exact go_lets as v r 0 g i l h
theorem go_len (as : List Int) (v : Int) : ∀ (r : List Int) (b g : Int), (lawGo as v (b + adv as g) g r).2 = b + lenQ as v (g :: r) := by
  intro r
  induction r with
  | nil => intro b g; simp [lawGo, lenQ, kerns]
  | cons h r ih =>
    intro b g
    show (lawGo as v (b + adv as g + ker v g h + adv as h) h r).2 = _
    rw [ih]
    simp only [lenQ, kerns, List.map_cons, List.sum_cons]
    omega
theorem law_len (as : List Int) (v : Int) (gs : List Int) : (lawAll as v gs).2 = lenQ as v gs := by
  cases gs with
  | nil => rfl
  | cons g r =>
    show (lawGo as v (0 + adv as g) g r).2 = _
    rw [go_len, Int.zero_add]
theorem led_x (p s sh b : Rat) (x y : Int) : s * (x : Rat) + 0 * (y : Rat) + (p + s * sh + s * b) = p + s * (sh + b + (x : Rat)) := by grind
theorem led_y (q s : Rat) (x y : Int) : 0 * (x : Rat) + -s * (y : Rat) + q = q + s * ((0 - y : Int) : Rat) := by
  rw [Rat.intCast_sub]; grind
theorem led_law {ds : List Dat} {p q s sh : Rat} {ls : List (Int × Int × Int)} : (linesQ ds (p + s * sh) s ls).map (ledL s q) = ls.map (fun l => lawL p q s (sh + (l.2.2 : Rat)) (six ds l.1)) := by
  unfold linesQ
  rw [List.map_map]
  refine List.map_congr_left fun l _ => ?_
  simp only [Function.comp_apply, ledL, lawL, lawP, led_x, led_y]
end P4
section R19
section
variable {V : Vis} {c : Ctx V} {σ : St} {Q : Value → St → Prop}
theorem r_neD {a b : Value} {x : Dat} {n1 n2 : Led} (ha : DatIn n1 a x) (sa : ∀ p ∈ n1, Has V σ p) (hb : DatIn n2 b x) (sb : ∀ p ∈ n2, Has V σ p) (hk : kqdOk 9 x = true) (hu : Nat.ble 68 V.U = true) (h : Q (.bool false) σ) : Run c σ (compareOp .NotEq a b) Q := fun s I => by
  have h1 := c.hu
  have h2 := Nat.le_of_ble_eq_true hu
  have I0 := I
  obtain ⟨ce, I⟩ := I
  exact same_ne I.N ha (fun p hp => I.news (sa p hp)) hb (fun p hp => I.news (sb p hp)) hk (by show c.un + 64 < cLine; omega) ⟨σ, I0, h⟩
theorem r_eqD {a b : Value} {x : Dat} {n1 n2 : Led} (ha : DatIn n1 a x) (sa : ∀ p ∈ n1, Has V σ p) (hb : DatIn n2 b x) (sb : ∀ p ∈ n2, Has V σ p) (hk : kqdOk 9 x = true) (hu : Nat.ble 68 V.U = true) (h : Q (.bool true) σ) : Run c σ (compareOp .Eq a b) Q := fun s I => by
  have h1 := c.hu
  have h2 := Nat.le_of_ble_eq_true hu
  have I0 := I
  obtain ⟨ce, I⟩ := I
  exact same_eq I.N ha (fun p hp => I.news (sa p hp)) hb (fun p hp => I.news (sb p hp)) hk (by show c.un + 64 < cLine; omega) ⟨σ, I0, h⟩
theorem r_anch {value slice : PySem.Expr} {d : Addr} {o : Obj} {a : Str} {u : Tok} {A1 A2 A3 : Addr} {len : Int} {w1 w2 w3 w4 w5 w6 : Tok} {k1 k2 k3 : Nat} {B : Led} (hp : Has V σ (d, o)) (hd : o.IsDictOf (PySem.strKind rprog V.w) [(Str.ofString "start", .ref A1), (Str.ofString "middle", .ref A2), (Str.ofString "end", .ref A3)]) (ha : AnchOK a)
    (m1 : (A1, tup [.int 0 w1, .int 1 w2] k1) ∈ B) (m2 : (A2, tup [.int (Rat.divInt (0 - len) 2).num w3, .int (Rat.divInt (0 - len) 2).den w4] k2) ∈ B) (m3 : (A3, tup [.int (0 - len) w5, .int 1 w6] k3) ∈ B) (hs : plainS slice = true)
    (h : ∀ D t1 t2 k, (D, tup [.int (shiftQ a len).num t1, .int (shiftQ a len).den t2] k) ∈ B → Q (.ref D) σ) : Run c σ (subscriptTail value slice (.ref d) (.str a u)) Q := fun s I => by
  obtain ⟨ce, I⟩ := I
  rcases ha with rfl | rfl | rfl
  · exact kdt_tail I.N (I.news hp) hd (kdt_getItem I.N (I.news hp) hd (strKind_is _ _ _ _) (by rfl) ⟨σ, Inv.toks ⟨ce, I⟩, h A1 w1 w2 k1 (by simpa [shiftQ] using m1)⟩) (plainS_eq hs)
  · refine kdt_tail I.N (I.news hp) hd (kdt_getItem I.N (I.news hp) hd (strKind_is _ _ _ _) (by rfl) ⟨σ, Inv.toks ⟨ce, I⟩, h A2 w3 w4 k2 ?_⟩) (plainS_eq hs)
    have e : shiftQ (Str.ofString "middle") len = Rat.divInt (0 - len) 2 := rfl
    rw [e]; exact m2
  · refine kdt_tail I.N (I.news hp) hd (kdt_getItem I.N (I.news hp) hd (strKind_is _ _ _ _) (by rfl) ⟨σ, Inv.toks ⟨ce, I⟩, h A3 w5 w6 k3 ?_⟩) (plainS_eq hs)
    have e : shiftQ (Str.ofString "end") len = ((0 - len : Int) : Rat) := rfl
    rw [e]; simpa using m3
end
end R19
section R20
section
variable {prog : Program} {w : World} {A : Around} {E : Value → Shared → Prop} {s : Shared} {h₀ : Heap} {L : Addr} {m : Str → Option Value} {env : Env}
def RestE (prog : Program) (w : World) (A : Around) (h₀ : Heap) (L : Addr) (m : Str → Option Value) (env : Env) (elt : PySem.Expr) (x x₂ : Str) (scope : Scope) (cl : List (Str × Addr)) (vs : List Value) (S : Led → Prop) (s₂ : Shared) (Fin : List Value → Led → Prop) : Nat → Nat → List Value → Led → Prop
  | 0, _, ys, led => Fin ys led
  | r + 1, i, ys, led => ∀ v t e oe it oi C oC D m₂ h tk (E' : Value → Shared → Prop), vs[i]? = some v → LCg.NsObj oC m₂ → m₂ x = some (.int (i : Int) t) → m₂ x₂ = some v → Fr h₀ L h m → News h₀ L h ([(e, oe), (it, oi), (C, oC), (D, LCg.lst ys)] ++ led) → (∀ p ∈ led, p.1 ≠ e ∧ p.1 ≠ it ∧ p.1 ≠ C ∧ p.1 ≠ D) → [e, it, C, D].Nodup →
    wpAny (model prog w) A (eval elt (compEnvC scope cl C env)) (fun y s' => ∃ (h' : Heap) (tk' : Nat) (led' : Led), s' = { s₂ with heap := h', toks := tk' } ∧ Fr h₀ L h' m ∧ News h₀ L h' ([(e, oe), (it, oi), (C, oC), (D, LCg.lst ys)] ++ led') ∧ (∀ p ∈ led', p.1 ≠ e ∧ p.1 ≠ it ∧ p.1 ≠ C ∧ p.1 ≠ D) ∧ S led' ∧
      RestE prog w A h₀ L m env elt x x₂ scope cl vs S s₂ Fin r (i + 1) (ys ++ [y]) led') E' { s₂ with heap := h, toks := tk }
def CompSrcE (prog : Program) (w : World) (A : Around) (h₀ : Heap) (L : Addr) (m : Str → Option Value) (env : Env) (elt : PySem.Expr) (x x₂ : Str) (scope : Scope) (cl : List (Str × Addr)) (Fin : Shared → List Value → Led → Prop) (xv : Value) (s₁ : Shared) : Prop :=
  ∃ (e it l : Addr) (vs : List Value) (nl : Nat) (led : Led), xv = .ref e ∧ e ≠ it ∧ l ≠ e ∧ l ≠ it ∧ (∃ old, IsEnum s₁.heap e it 0 old) ∧ s₁.heap.IsListIter it l 0 ∧ Fr h₀ L s₁.heap m ∧ News h₀ L s₁.heap led ∧ (l, listOf vs.toArray nl) ∈ led ∧ (∀ p ∈ led, p.1 ≠ e ∧ p.1 ≠ it) ∧
    vs.length ≤ sizeLine ∧ L ≠ e ∧ L ≠ it ∧ h₀.get? e = none ∧ h₀.get? it = none ∧ A.handled = none ∧ ∀ s₂ : Shared, (∃ h, s₂ = { s₁ with heap := h }) → RestE prog w A h₀ L m env elt x x₂ scope cl vs (fun led => (l, listOf vs.toArray nl) ∈ led) s₂ (Fin s₂) vs.length 0 [] led
theorem srcE_enum {elt : PySem.Expr} {x x₂ : Str} {scope : Scope} {cl : List (Str × Addr)} {Fin : Shared → List Value → Led → Prop} {l : Addr} {vs : List Value} {nl : Nat} {led : Led} (hh : A.handled = none) (F : Fr h₀ L s.heap m) (N : News h₀ L s.heap led) (hl : (l, listOf vs.toArray nl) ∈ led) (hsz : vs.length ≤ sizeLine)
    (K : ∀ s₂ : Shared, (∃ h, s₂ = { s with heap := h }) → RestE prog w A h₀ L m env elt x x₂ scope cl vs (fun led => (l, listOf vs.toArray nl) ∈ led) s₂ (Fin s₂) vs.length 0 [] led) :
    wpAny (model prog w) A (call (.type "enumerate") [.ref l]) (CompSrcE prog w A h₀ L m env elt x x₂ scope cl Fin) E s := by
  have hL : s.heap.IsList l vs.toArray := ⟨_, N.get hl, rfl, nl, rfl⟩
  have hlt : l < s.heap.objs.size := Heap.lt_size (N.get hl)
  have fresh₀ : ∀ a, s.heap.objs.size ≤ a → h₀.get? a = none := fun a ha => by
    cases e : h₀.get? a with
    | none => rfl
    | some o' => exact absurd (Heap.lt_size (F.keep a o' e)) (Nat.not_lt.mpr ha)
  refine call_enumerate_list hL fun h' he hi hs hk => ?_
  refine ⟨s.heap.objs.size + 1, s.heap.objs.size, l, vs, nl, led, rfl, Nat.succ_ne_self _, Nat.ne_of_lt (Nat.lt_succ_of_lt hlt), Nat.ne_of_lt hlt, ⟨_, he⟩, hi, F.keeps hk, N.grown hk, hl, fun p hp => ?_, hsz, Nat.ne_of_lt (Nat.lt_succ_of_lt F.ns.lt), Nat.ne_of_lt F.ns.lt, fresh₀ _ (Nat.le_succ _), fresh₀ _ (Nat.le_refl _), hh, fun s₂ ⟨g, e⟩ => K s₂ ⟨g, e⟩⟩
  have := Heap.lt_size (N p hp).1
  exact ⟨Nat.ne_of_lt (Nat.lt_succ_of_lt this), Nat.ne_of_lt this⟩
theorem fr_but2 {h h' : Heap} {wr : List Addr} (F : Fr h₀ L h m) (hk : ∀ b o, b ∉ wr → h.get? b = some o → h'.get? b = some o) (hL : L ∉ wr) (h0 : ∀ b ∈ wr, h₀.get? b = none) : Fr h₀ L h' m :=
  ⟨F.ns.at' fun o e => hk L o hL e, fun b o e => hk b o (fun hm => by rw [h0 b hm] at e; cases e) (F.keep b o e), F.above⟩
theorem block_E {elt iter : PySem.Expr} {x x₂ : Str} {px px₂ tp : Pos} {tk} {scope : Scope} {cl : List (Str × Addr)} {pos : Pos} {s₂ : Shared} {e it l : Addr} {vs : List Value} {nl : Nat} {led : Led} {Fin : Shared → List Value → Led → Prop} {RR : Value → Addr → Result → Shared → Prop}
    (hei : e ≠ it) (hle : l ≠ e) (hli : l ≠ it) (hst : (∃ old, IsEnum s₂.heap e it 0 old) ∧ s₂.heap.IsListIter it l 0) (F : Fr h₀ L s₂.heap m) (N : News h₀ L s₂.heap led) (hl : (l, listOf vs.toArray nl) ∈ led) (off : ∀ p ∈ led, p.1 ≠ e ∧ p.1 ≠ it) (hsz : vs.length ≤ sizeLine) (hLe : L ≠ e) (hLi : L ≠ it) (he0 : h₀.get? e = none) (hi0 : h₀.get? it = none) (hh : A.handled = none)
    (hcell : ∀ y ∈ scope.names, y.2 ≠ .cell) (hkind : scope.kind = .function) (hx : scope.names.lookup x = some .local) (hx₂ : scope.names.lookup x₂ = some .local) (hxx : x ≠ x₂)
    (K : RestE prog w A h₀ L m env elt x x₂ scope cl vs (fun led => (l, listOf vs.toArray nl) ∈ led) s₂ (Fin s₂) vs.length 0 [] led)
    (hRR : ∀ D C h tk m' ys news', Fr h₀ L h m → News h₀ L h ((D, LCg.lst ys) :: news') → LCg.Off1 D news' → h.Ns C m' → h₀.get? C = none → h₀.get? D = none → C ≠ L → D ≠ L → C ≠ D → (∀ p ∈ news', p.1 ≠ C) → Fin s₂ ys news' → RR (.ref D) C (.ok .next) { s₂ with heap := h, toks := tk }) :
    wpAny (model prog w) A (newList []) (fun acc s₃ => wpAny (model prog w) A (newFunctionEnv scope env.globals cl [] env.qual none .none (some env)) (fun cenv s₄ =>
      codeAny (model prog w) A (.compStart (.ListComp elt [⟨.Tuple [.Name x px, .Name x₂ px₂] tk tp, iter, [], 0⟩] scope pos) 0 (.ref e) acc { cenv with scope := relabel scope env }) (RR acc cenv.locals) s₄) E s₃) E s₂ := by
  have W := WalksT.enumerate (prog := prog) (w := w) hh e it l hei hle hli vs.toArray
  refine wpAny_newObj_type (wpAny_newFunctionEnv hcell (by intro y hy; simp at hy) (fun h₁ hns₁ hsb₁ => ?_) hkind)
  dsimp only at hns₁ hsb₁ ⊢
  generalize hH2 : s₂.heap.push { cls := .type "list", dict := none, data := .seq ([] : List Value).toArray } = H2 at hns₁ hsb₁ ⊢
  have hC : H2.objs.size = s₂.heap.objs.size + 1 := by rw [← hH2, Heap.size_push]
  have hDC : s₂.heap.objs.size ≠ H2.objs.size := by rw [hC]; exact Nat.ne_of_lt (Nat.lt_succ_self _)
  have below : ∀ b, b < s₂.heap.objs.size → b ≠ H2.objs.size ∧ b ≠ s₂.heap.objs.size := fun b hb => ⟨by rw [hC]; exact Nat.ne_of_lt (Nat.lt_succ_of_lt hb), Nat.ne_of_lt hb⟩
  have helt : e < s₂.heap.objs.size := by obtain ⟨old, q⟩ := hst.1; exact Heap.lt_size q
  have hilt : it < s₂.heap.objs.size := by obtain ⟨o, q, _⟩ := hst.2; exact Heap.lt_size q
  have old : ∀ b o, s₂.heap.get? b = some o → h₁.get? b = some o := fun b o e => hsb₁.extBut b o (below b (Heap.lt_size e)).1 (Heap.get?_push_of_some _ (hH2 ▸ Heap.get?_push_of_some _ e))
  have hacc : h₁.get? s₂.heap.objs.size = some (LCg.lst []) := hsb₁.extBut _ _ hDC (Heap.get?_push_of_some _ (hH2 ▸ Heap.get?_push_size _ rfl))
  have fresh : ∀ a, s₂.heap.objs.size ≤ a → s₂.heap.get? a = none := fun a ha => by
    cases e : s₂.heap.get? a with
    | none => rfl
    | some o' => exact absurd (Heap.lt_size e) (Nat.not_lt.mpr ha)
  have fresh₀ : ∀ a, s₂.heap.objs.size ≤ a → h₀.get? a = none := fun a ha => by
    cases e : h₀.get? a with
    | none => rfl
    | some o' => have := F.keep a o' e; rw [fresh a ha] at this; cases this
  have hD₀ : h₀.get? s₂.heap.objs.size = none := fresh₀ _ (Nat.le_refl _)
  have hC₀ : h₀.get? H2.objs.size = none := fresh₀ _ (by rw [hC]; exact Nat.le_succ _)
  have hLlt : L < s₂.heap.objs.size := F.ns.lt
  have hDL : s₂.heap.objs.size ≠ L := Ne.symm (below L hLlt).2
  have hCL : H2.objs.size ≠ L := Ne.symm (below L hLlt).1
  have hCe : e ≠ H2.objs.size := (below e helt).1
  have hCi : it ≠ H2.objs.size := (below it hilt).1
  have hDe : e ≠ s₂.heap.objs.size := (below e helt).2
  have hDi : it ≠ s₂.heap.objs.size := (below it hilt).2
  have offL : ∀ p ∈ led, p.1 ≠ H2.objs.size ∧ p.1 ≠ s₂.heap.objs.size := fun p hp => below _ (Heap.lt_size (N p hp).1)
  have wr1 : ∀ b, b ≠ e → b ≠ it → b ∉ [e, it] := fun b h1 h2 hm => by
    rcases List.mem_cons.mp hm with q | hm
    · exact h1 q
    · exact h2 (List.mem_singleton.mp hm)
  have stL : ∀ {h : Heap} {led' : Led}, News h₀ L h led' → (l, listOf vs.toArray nl) ∈ led' → h.IsList l vs.toArray := fun N hl => ⟨_, N.get hl, rfl, nl, rfl⟩
  generalize hDD : s₂.heap.objs.size = D at *
  generalize hCC : H2.objs.size = C at *
  have loop : ∀ s₃ : Shared, s₃ = { s₂ with heap := h₁, toks := s₂.toks + ([] : List (Str × Value)).length } →
      codeAny (model prog w) A (.compLoop (.ListComp elt [⟨.Tuple [.Name x px, .Name x₂ px₂] tk tp, iter, [], 0⟩] scope pos) 0 (.ref e) (.ref D) (compEnvC scope cl C env)) (RR (.ref D) C) s₃ := by
    rintro s₃ rfl
    refine LCp.codeAny_compLoop_pair
      (fun k s' => ∃ h' tk i ys m' led', s' = { s₂ with heap := h', toks := tk } ∧ i ≤ vs.length ∧ k = vs.length + 1 - i ∧ ys.length = i ∧ (∃ old, IsEnum h' e it i old) ∧ h'.IsListIter it l i ∧ Fr h₀ L h' m ∧ h'.Ns C m' ∧ News h₀ L h' ((D, LCg.lst ys) :: led') ∧
        (∀ p ∈ led', p.1 ≠ e ∧ p.1 ≠ it ∧ p.1 ≠ C ∧ p.1 ≠ D) ∧ (l, listOf vs.toArray nl) ∈ led' ∧ RestE prog w A h₀ L m env elt x x₂ scope cl vs (fun led => (l, listOf vs.toArray nl) ∈ led) s₂ (Fin s₂) (vs.length - i) i ys led') ?_ (vs.length + 1)
      ⟨h₁, _, 0, [], _, led, rfl, Nat.zero_le _, rfl, rfl, hst.1.elim fun o q => ⟨o, old _ _ q⟩, hst.2.at fun o q => old _ _ q, F.keeps old, hns₁, fun p hp => ?_, (fun p hp => ⟨(off p hp).1, (off p hp).2, (offL p hp).1, (offL p hp).2⟩), hl, K⟩
    · rintro k s' ⟨h', tk, i, ys, m', led', rfl, hi, rfl, hyl, hen, hit, F', hn', N', offAll, hl', hR⟩
      have hstW : (∃ old, IsEnum h' e it i old) ∧ h'.IsListIter it l i ∧ h'.IsList l vs.toArray := ⟨hen, hit, stL (fun p hp => N' p (.tail _ hp)) hl'⟩
      by_cases hlt : i < vs.length
      · refine W.item i _ _ _ (by simpa using hlt) hstW fun T vals h₂ tk₂ hP _ hT hMid hk₂ => ?_
        obtain ⟨t, v, hv, rfl⟩ := hP
        have hv' : vs[i]? = some v := by simpa using hv
        have hTw := W.apart i T h₂ hMid
        refine W.go _ _ _ i T _ _ _ hMid fun h₃ hst₃ hk₃ => ?_
        have hT₃ : IsTup h₃ T #[.int i t, v] := by
          obtain ⟨o, q1, q2⟩ := hT
          exact ⟨o, hk₃ _ _ hTw q1, q2⟩
        refine assign_Tuple_tuple hh hT₃ rfl rfl fun h₅ he => ?_
        have he' : ∀ b o, h₃.get? b = some o → h₅.get? b = some o := fun b o e => he b o (Nat.ne_of_lt (Heap.lt_size e)) e
        have hkA : ∀ b o, b ∉ [e, it] → h'.get? b = some o → h₅.get? b = some o := fun b o hb q => he' _ _ (hk₃ b o hb (hk₂ b o hb q))
        have hnA : h₅.Ns C m' := hn'.at' fun o q => hkA _ o (wr1 _ (Ne.symm hCe) (Ne.symm hCi)) q
        refine assignInOrder_cons (wpAny_assign_Name (wpAny_storeName_local (lookup_relabel_local hx) hnA (fun h₆ hn₆ hs₆ => ?_) (by simp [compEnvC, relabel, hkind])))
        refine assignInOrder_cons (wpAny_assign_Name (wpAny_storeName_local (lookup_relabel_local hx₂) hn₆ (fun h₇ hn₇ hs₇ => ?_) (by simp [compEnvC, relabel, hkind])))
        refine assignInOrder_nil ?_
        have old3 : ∀ b o, b ≠ C → h₅.get? b = some o → h₇.get? b = some o := fun b o hb q => hs₇.extBut b o hb (hs₆.extBut b o hb q)
        have oldA : ∀ b o, b ≠ C → b ∉ [e, it] → h'.get? b = some o → h₇.get? b = some o := fun b o hb hw q => old3 b o hb (hkA b o hw q)
        have hst₇ : (∃ old, IsEnum h₇ e it (i + 1) old) ∧ h₇.IsListIter it l (i + 1) := by
          obtain ⟨⟨o, q⟩, q2, _⟩ := hst₃
          exact ⟨⟨o, old3 _ _ hCe (he' _ _ q)⟩, q2.at fun o q => old3 _ _ hCi (he' _ _ q)⟩
        obtain ⟨oC, heC, hoC⟩ := LCg.ns_obj hn₇
        obtain ⟨⟨oE, hE⟩, oI, hI, hI2⟩ := hst₇
        have hLw : L ∉ [e, it] := wr1 _ hLe hLi
        have h0w : ∀ b ∈ [e, it], h₀.get? b = none := fun b hb => by
          rcases List.mem_cons.mp hb with rfl | hb
          · exact he0
          · rw [List.mem_singleton.mp hb]; exact hi0
        have F₇ : Fr h₀ L h₇ m := ((fr_but2 F' hkA hLw h0w).change hs₆ hCL hC₀).change hs₇ hCL hC₀
        have N₇ : News h₀ L h₇ ((e, _) :: (it, oI) :: (C, oC) :: (D, LCg.lst ys) :: led') := fun p hp => by
          rcases List.mem_cons.mp hp with rfl | hp
          · exact ⟨hE, Ne.symm hLe, he0⟩
          · rcases List.mem_cons.mp hp with rfl | hp
            · exact ⟨hI, Ne.symm hLi, hi0⟩
            · rcases List.mem_cons.mp hp with rfl | hp
              · exact ⟨heC, hCL, hC₀⟩
              · have z := N' p hp
                refine ⟨oldA _ _ ?_ ?_ z.1, z.2⟩
                · rcases List.mem_cons.mp hp with rfl | hp
                  · exact hDC
                  · exact (offAll p hp).2.2.1
                · rcases List.mem_cons.mp hp with rfl | hp
                  · exact wr1 _ (Ne.symm hDe) (Ne.symm hDi)
                  · exact wr1 _ (offAll p hp).1 (offAll p hp).2.1
        obtain ⟨r, hr⟩ : ∃ r, vs.length - i = r + 1 := ⟨vs.length - (i + 1), by omega⟩
        rw [hr] at hR
        refine wpAny_mono (hR v t e _ it oI C oC D _ h₇ _ _ hv' hoC (by simp [hxx]) (by simp) F₇ N₇ offAll (by simp only [List.nodup_cons, List.mem_cons, List.not_mem_nil, or_false, not_or, List.nodup_nil, and_true, not_false_eq_true]; exact ⟨⟨hei, hCe, hDe⟩, ⟨hCi, hDi⟩, Ne.symm hDC⟩)) (fun y s₄ h₄ => ?_) fun _ _ e => e
        obtain ⟨h₄, tk₄, led₄, rfl, F₄, N₄, off₄, hl₄, hR₄⟩ := h₄
        simp only [List.cons_append, List.nil_append] at N₄
        have zE := (N₄ _ (.head _)).1
        have zI := (N₄ _ (.tail _ (.head _))).1
        have zC := (N₄ _ (.tail _ (.tail _ (.head _)))).1
        have zD := (N₄ _ (.tail _ (.tail _ (.tail _ (.head _))))).1
        have N₄' : News h₀ L h₄ led₄ := fun p hp => N₄ p (.tail _ (.tail _ (.tail _ (.tail _ hp))))
        refine append_at (hsz := by show ys.toArray.size ≤ sizeLine; rw [List.size_toArray, hyl]; exact Nat.le_trans hi hsz) zD fun h₈ hs₈ hD₈ => ?_
        refine ⟨vs.length + 1 - (i + 1), by omega, h₈, tk₄, i + 1, ys ++ [y], _, led₄, rfl, hlt, rfl, by rw [List.length_append, List.length_singleton, hyl], ⟨_, hs₈.extBut _ _ hDe zE⟩, ⟨oI, hs₈.extBut _ _ hDi zI, hI2⟩, F₄.change hs₈ hDL hD₀,
          (hoC.ns zC).sameBut hs₈ (Ne.symm hDC), fun p hp => ?_, off₄, hl₄, ?_⟩
        · rcases List.mem_cons.mp hp with rfl | hp
          · exact ⟨hD₈.trans (congrArg some (LCg.lst_snoc ys y)), hDL, hD₀⟩
          · exact ⟨hs₈.extBut _ _ (off₄ p hp).2.2.2 (N₄' p hp).1, (N₄' p hp).2⟩
        · have e2 : vs.length - (i + 1) = r := by omega
          rw [e2]; exact hR₄
      · obtain rfl : i = vs.length := Nat.le_antisymm hi (Nat.not_lt.mp hlt)
        rw [Nat.sub_self] at hR
        refine W.done _ _ _ (by simpa using hstW) fun h₂ tk₂ hk₂ => ?_
        have h0w : ∀ b ∈ [e, it], h₀.get? b = none := fun b hb => by
          rcases List.mem_cons.mp hb with rfl | hb
          · exact he0
          · rw [List.mem_singleton.mp hb]; exact hi0
        refine hRR _ _ h₂ tk₂ _ ys led' (fr_but2 F' hk₂ (wr1 _ hLe hLi) h0w) (fun p hp => ⟨hk₂ _ _ ?_ (N' p hp).1, (N' p hp).2⟩) (off1_of fun p hp => (offAll p hp).2.2.2) (hn'.at' fun o q => hk₂ _ o (wr1 _ (Ne.symm hCe) (Ne.symm hCi)) q) hC₀ hD₀ hCL hDL (Ne.symm hDC) (fun p hp => (offAll p hp).2.2.1) hR
        rcases List.mem_cons.mp hp with rfl | hp
        · exact wr1 _ (Ne.symm hDe) (Ne.symm hDi)
        · exact wr1 _ (offAll p hp).1 (offAll p hp).2.1
    · rcases List.mem_cons.mp hp with rfl | hp
      · exact ⟨hacc, hDL, hD₀⟩
      · exact ⟨old _ _ (N p hp).1, (N p hp).2⟩
  refine codeAny_compStart_list (loop _ rfl) (W.self 0 _ _ _ ?_ (loop _ rfl))
  exact ⟨hst.1.elim fun o q => ⟨o, old _ _ q⟩, hst.2.at fun o q => old _ _ q, stL (N.grown old) hl⟩
theorem ListComp_E {elt iter : PySem.Expr} {x x₂ : Str} {px px₂ tp : Pos} {tk} {scope : Scope} {cl : List (Str × Addr)} {pos : Pos} {Q : Value → Shared → Prop} (_F₀ : Fr h₀ L s.heap m)
    (hclos : closureFor scope env = pure cl) (hcell : ∀ y ∈ scope.names, y.2 ≠ .cell) (hkind : scope.kind = .function)
    (hnames : ∀ y ∈ scope.names, y.2 = .local → scope.names.lookup y.1 = some .local) (hx : scope.names.lookup x = some .local) (hx₂ : scope.names.lookup x₂ = some .local) (hxx : x ≠ x₂)
    (h : wpAny (model prog w) A (eval iter env) (CompSrcE prog w A h₀ L m env elt x x₂ scope cl (fun s₂ => LCg.FinE h₀ L m s₂ Q)) E s)
    (hs : ∀ x, foldedSetIterable iter env x = pure x := by intro _; rfl) :
    wpAny (model prog w) A (eval (.ListComp elt [⟨.Tuple [.Name x px, .Name x₂ px₂] tk tp, iter, [], 0⟩] scope pos) env) Q E s := by
  rw [eval_ListComp]
  refine wpAny_comprehension_free (use := none) rfl hs hclos hkind hnames (wpAny_mono h (fun xv s₁ h₁ => ?_) fun _ _ e => e)
  obtain ⟨e, it, l, vs, nl, led, rfl, hei, hle, hli, hen, hit, F, N, hl, off, hsz, hLe, hLi, he0, hi0, hh, K⟩ := h₁
  refine (WalksT.enumerate (prog := prog) (w := w) hh e it l hei hle hli vs.toArray).self 0 _ _ _ ⟨hen, hit, ⟨_, N.get hl, rfl, nl, rfl⟩⟩ ?_
  refine block_E (Fin := fun s₂ => LCg.FinE h₀ L m s₂ Q) hei hle hli ⟨hen, hit⟩ F N hl off hsz hLe hLi he0 hi0 hh hcell hkind hx hx₂ hxx (K _ ⟨s₁.heap, rfl⟩) ?_
  intro D C h tk m' ys news' F' N' o1 hn hC₀ hD₀ hCL hDL hCD offC fin
  refine ⟨m', hn, fun h'' hs'' => fin D h'' tk (F'.change hs'' hCL hC₀) (fun p hp => ?_) o1⟩
  refine ⟨hs''.extBut _ _ ?_ (N' p hp).1, (N' p hp).2⟩
  rcases List.mem_cons.mp hp with rfl | hp
  · exact Ne.symm hCD
  · exact offC p hp
end
end R20
section R21
section
variable {V : Vis} {c : Ctx V} {σ : St}
theorem sep_hidX {X ce : Led} (S : Sep (c.hid ++ (ce ++ σ.mt)) (σ.fl ++ V.nd)) (nd : (X.map (·.1)).Nodup) (off : ∀ p ∈ ledOf c ce σ, ∀ q ∈ X, p.1 ≠ q.1) : Sep ((X ++ c.hid) ++ (ce ++ σ.mt)) (σ.fl ++ V.nd) := by
  have up1 : ∀ p ∈ c.hid ++ (ce ++ σ.mt), p ∈ ledOf c ce σ := fun p hp => by
    simp only [ledOf, List.mem_append] at hp ⊢
    rcases hp with h | h | h <;> simp only [h, true_or, or_true]
  have up2 : ∀ p ∈ σ.fl ++ V.nd, p ∈ ledOf c ce σ := fun p hp => List.mem_append_right _ (List.mem_append_right _ (List.mem_append_right _ hp))
  refine ⟨?_, fun p hp q hq => ?_⟩
  · rw [List.append_assoc, List.map_append]
    refine List.nodup_append.mpr ⟨nd, S.1, fun a ha b hb e => ?_⟩
    obtain ⟨q, hq, rfl⟩ := List.mem_map.mp ha
    obtain ⟨p, hp, rfl⟩ := List.mem_map.mp hb
    exact off p (up1 p hp) q hq e.symm
  · rw [List.append_assoc] at hp
    rcases List.mem_append.mp hp with hp | hp
    · exact fun e => off q (up2 q hq) p hp e.symm
    · exact S.2 p hp q hq
theorem off_of_hidX {X ce : Led} {V' : Vis} {c' : Ctx V'} (hn : V'.nd = V.nd) (hh : c'.hid = X ++ c.hid) (S : Sep (c'.hid ++ (ce ++ σ.mt)) (σ.fl ++ V'.nd)) :
    Sep (c.hid ++ (ce ++ σ.mt)) (σ.fl ++ V.nd) ∧ ∀ p ∈ ledOf c ce σ, ∀ q ∈ X, p.1 ≠ q.1 := by
  rw [hh, hn, List.append_assoc] at S
  obtain ⟨S1, S2⟩ := S
  rw [List.map_append] at S1
  obtain ⟨_, s2, s3⟩ := List.nodup_append.mp S1
  refine ⟨⟨s2, fun p hp q hq => S2 p (List.mem_append_right _ hp) q hq⟩, fun p hp q hq => ?_⟩
  have : p ∈ (c.hid ++ (ce ++ σ.mt)) ∨ p ∈ σ.fl ++ V.nd := by
    simp only [ledOf, List.mem_append] at hp ⊢
    rcases hp with h | h | h | h | h <;> simp only [h, true_or, or_true]
  rcases this with hp | hp
  · exact fun e => s3 _ (List.mem_map_of_mem hq) _ (List.mem_map_of_mem hp) e.symm
  · exact fun e => S2 q (List.mem_append_left _ hq) p hp e.symm
def CmpE (V : Vis) (scope : Scope) (cl : List (Str × Addr)) (x x₂ : Str) (elt : PySem.Expr) (m : Str → Option Value) (src : Addr × Obj) (Q : List Value → St → Prop) : Nat → List Value → List Value → St → Prop
  | _, [], ys, σ => Q ys σ
  | i, v :: r, ys, σ => ∀ (t : Tok) (C : Addr) (c : Ctx (V.comp scope cl C [(x, .int (i : Int) t), (x₂, v)])), Run c σ (eval elt (V.comp scope cl C [(x, .int (i : Int) t), (x₂, v)]).env) (fun y σ' => σ'.m = m ∧ src ∈ σ'.fl ++ V.nd ∧ CmpE V scope cl x x₂ elt m src Q (i + 1) r (ys ++ [y]) σ')
theorem cmpE_rest {scope : Scope} {cl : List (Str × Addr)} {x x₂ : Str} {elt : PySem.Expr} {Q : List Value → St → Prop} {Fin : List Value → Led → Prop} {src : Addr × Obj} {vs : List Value} (s : Shared) (hR : s.gens = c.s₀.gens ∧ s.drawn = c.s₀.drawn ∧ s.os = c.s₀.os) (m : Str → Option Value)
    (fin : ∀ ys σ ce, InvS c σ ce → σ.m = m → Q ys σ → Fin ys (ledOf c ce σ)) :
    ∀ (r : List Value) (i : Nat) (ys : List Value) (σ : St) (ce : Led), vs.drop i = r → InvS c σ ce → σ.m = m → CmpE V scope cl x x₂ elt m src Q i r ys σ →
      RestE rprog V.w c.A c.g V.L m V.env elt x x₂ scope cl vs (fun led => src ∈ led) s Fin r.length i ys (ledOf c ce σ) := by
  intro r
  induction r with
  | nil => intro i ys σ ce _ J hm h; exact fin ys σ ce J hm h
  | cons u r ih =>
    intro i ys σ ce hd J hm h v t e oe it oi C oC D m₂ h' tk E' hv hC hx hx2 F N off ne
    have hd0 : vs[i]? = some u := by
      have := congrArg (·[0]?) hd
      simpa [List.getElem?_drop] using this
    have e1 : v = u := by rw [hv] at hd0; exact Option.some.inj hd0
    subst e1
    have hd' : vs.drop (i + 1) = r := by
      have := congrArg List.tail hd
      rw [List.tail_drop] at this
      exact this
    let X : Led := [(e, oe), (it, oi), (C, oC), (D, LCg.lst ys)]
    let c' := c.comp scope cl C [(x, .int (i : Int) t), (x₂, v)] X E' s
    have offX : ∀ p ∈ ledOf c ce σ, ∀ q ∈ X, p.1 ≠ q.1 := fun p hp q hq => by
      have z := off p hp
      have hq : q ∈ [(e, oe), (it, oi), (C, oC), (D, LCg.lst ys)] := hq
      rcases List.mem_cons.mp hq with rfl | hq
      · exact z.1
      rcases List.mem_cons.mp hq with rfl | hq
      · exact z.2.1
      rcases List.mem_cons.mp hq with rfl | hq
      · exact z.2.2.1
      rw [List.mem_singleton.mp hq]
      exact z.2.2.2
    have I' : InvC c' σ ce { s with heap := h', toks := tk } := by
      refine ⟨hm ▸ F, ?_, J.C, sep_hidX J.S ne offX, J.O, fun k hk => ?_, hR⟩
      · show News c.g V.L h' ((X ++ c.hid) ++ (ce ++ (σ.mt ++ (σ.fl ++ V.nd))))
        rw [List.append_assoc]; exact N
      rcases List.mem_cons.mp hk with rfl | hk
      · refine ⟨oC, m₂, .tail _ (.tail _ (.head _)), hC, fun y u hy => ?_⟩
        have hy : List.lookup y [(x, .int (i : Int) t), (x₂, v)] = some u := hy
        rw [List.lookup_cons] at hy
        cases e : y == x
        · rw [e] at hy
          have hy : List.lookup y [(x₂, v)] = some u := hy
          rw [List.lookup_cons] at hy
          cases e2 : y == x₂
          · rw [e2] at hy; cases hy
          · rw [e2] at hy
            rw [beq_iff_eq.mp e2, ← Option.some.inj hy]; exact hx2
        · rw [e] at hy
          rw [beq_iff_eq.mp e, ← Option.some.inj hy]; exact hx
      · obtain ⟨oC', m', h1, h2⟩ := J.K k hk
        exact ⟨oC', m', List.mem_append_right X h1, h2⟩
    refine wpAny_mono (h t C c' _ ⟨ce, I'⟩) (fun y s₂ h₂ => ?_) fun _ _ e => e
    obtain ⟨σ₂, ⟨ce₂, I₂⟩, hm₂, hs₂, h₂⟩ := h₂
    have z := off_of_hidX (V := V) (c := c) (c' := c') (X := X) (σ := σ₂) (ce := ce₂) rfl rfl I₂.S
    have J₂ : InvS c σ₂ ce₂ := ⟨I₂.C, z.1, I₂.O, J.K⟩
    have N₂ : News c.g V.L s₂.heap (X ++ ledOf c ce₂ σ₂) := by
      have : News c.g V.L s₂.heap ((X ++ c.hid) ++ (ce₂ ++ (σ₂.mt ++ (σ₂.fl ++ V.nd)))) := I₂.N
      rw [List.append_assoc] at this
      exact this
    refine ⟨s₂.heap, s₂.toks, ledOf c ce₂ σ₂, eqS (s := { s with heap := h', toks := tk }) I₂.R hR, hm₂ ▸ I₂.F, N₂, fun p hp => ?_, ?_, ih (i + 1) (ys ++ [y]) σ₂ ce₂ hd' J₂ hm₂ h₂⟩
    · have z := z.2 p hp
      exact ⟨z _ (.head _), z _ (.tail _ (.head _)), z _ (.tail _ (.tail _ (.head _))), z _ (.tail _ (.tail _ (.tail _ (.head _))))⟩
    · exact List.mem_append_right _ (List.mem_append_right _ (List.mem_append_right _ hs₂))
abbrev KCompE (V : Vis) (scope : Scope) (cl : List (Str × Addr)) (x x₂ : Str) (elt : PySem.Expr) (m : Str → Option Value) (Q : List Value → St → Prop) : Value → St → Prop := fun xv σ => σ.m = m ∧ ∃ (R : Addr) (vs : List Value) (n : Nat), xv = .ref R ∧ (R, listOf (List.toArray vs) n) ∈ σ.fl ++ V.nd ∧ Nat.ble vs.length 1000 = true ∧ CmpE V scope cl x x₂ elt m (R, listOf vs.toArray n) Q 0 vs [] σ
theorem r_compE {e elt : PySem.Expr} {x x₂ y : Str} {px px₂ tp p pos cpos : Pos} {tk : Nat} {scope : Scope} {cl : List (Str × Addr)} {Q : Value → St → Prop} (hk : (compOK scope x && compOK scope x₂ && !(x == x₂) && isG V y && noStar e && V.cp.isEmpty) = true) (hc : closureFor scope V.env = pure cl) (hn : nsIn (hd.heap_39 V.w.params) mainGlobals y = some none) (hb : bootBuiltins y = some (.type "enumerate")) (hm : (y == "__name__") = false) (h : Run c σ (eval e V.env) (KCompE V scope cl x x₂ elt σ.m (KMade Q))) :
    Run c σ (eval (.ListComp elt [⟨.Tuple [.Name x px, .Name x₂ px₂] tk tp, .Call (.Name y p) [e] [] cpos, [], 0⟩] scope pos) V.env) Q := fun s I => by
  simp only [Bool.and_eq_true, Bool.not_eq_true', beq_eq_false_iff_ne, ne_eq] at hk
  obtain ⟨⟨⟨⟨⟨hk1, hk2⟩, hxx⟩, hg⟩, hst⟩, hcp⟩ := hk
  obtain ⟨k1, k2, k3, k4⟩ := compOK_of hk1
  obtain ⟨_, _, _, k5⟩ := compOK_of hk2
  have I0 := I
  obtain ⟨ce, I⟩ := I
  have st : Run c σ (eval (.Name y p) V.env) (fun f σ₁ => f = .type "enumerate" ∧ σ₁ = σ) := r_blt hg hn hb hm ⟨rfl, rfl⟩
  refine ListComp_E I.F hc k1 k2 k3 k4 k5 hxx (Call_ (st.on I0 fun f σ₁ s₁ I₁ h₁ => ?_) eval_callN) fun _ => rfl
  obtain ⟨rfl, rfl⟩ := h₁
  refine Pv.callWith_type1 (args_cons (h.on I₁ fun v σ₂ s₂ I₂ h₂ => args_nil ?_) (star_of hst)) (star_of hst) rfl
  obtain ⟨hm', R, vs, n, rfl, hR, hz, h₂⟩ := h₂
  obtain ⟨ce₂, I₂⟩ := I₂
  have hmem : (R, listOf vs.toArray n) ∈ ledOf c ce₂ σ₂ := List.mem_append_right _ (List.mem_append_right _ (List.mem_append_right _ hR))
  refine srcE_enum rfl (hm' ▸ I₂.F) I₂.N hmem (sz_of hz (by decide)) ?_
  rintro s₃ ⟨g, rfl⟩
  refine cmpE_rest (s := { s₂ with heap := g }) I₂.R σ₁.m ?_ vs 0 [] σ₂ ce₂ List.drop_zero I₂.st hm' h₂
  intro ys σ' ce' J hm' hQ D h' tk F N O
  have I' : InvC c σ' ce' { s₂ with heap := h', toks := tk } := J.at (hm' ▸ F) (fun p hp => N p (.tail _ hp)) I₂.R
  exact ⟨_, I'.imm (h' := h') (k := tk) (hm' ▸ F) N (fun p hp => off1_mem O p hp), hQ D⟩
section
variable {scope : Scope} {cl : List (Str × Addr)} {x x₂ : Str} {elt : PySem.Expr} {m : Str → Option Value} {src : Addr × Obj} {Q : List Value → St → Prop} {v y : Value} {r : List Value} {ys zs : List Value} {i j : Nat}
end
end
end R21
section R22
def Wk (σ' σ : St) : Prop := σ'.m = σ.m ∧ σ'.cm = σ.cm ∧ σ'.mt.Sublist σ.mt ∧ ∀ p ∈ σ'.fl, p ∈ σ.fl
theorem Wk.refl {σ : St} : Wk σ σ := ⟨rfl, rfl, List.Sublist.refl _, fun _ h => h⟩
theorem Wk.imms {σ' σ : St} {D : Addr} {o : Obj} (h : Wk σ' σ) : Wk (σ'.imm D o) (σ.imm D o) := ⟨h.1, h.2.1, h.2.2.1, fun p hp => by
  have hp : p ∈ (D, o) :: σ'.fl := hp
  show p ∈ (D, o) :: σ.fl
  rcases List.mem_cons.mp hp with e | hp
  · exact e ▸ .head _
  · exact .tail _ (h.2.2.2 p hp)⟩
section
variable {V : Vis} {c : Ctx V} {σ σ' : St} {α : Type}
theorem Inv.weak {s : Shared} (h : Wk σ' σ) (I : Inv c σ s) : Inv c σ' s := by
  obtain ⟨h1, h2, h3, h4⟩ := h
  obtain ⟨ce, I⟩ := I
  have h5 : ∀ p ∈ σ'.fl ++ V.nd, p ∈ σ.fl ++ V.nd := fun p hp => by
    rcases List.mem_append.mp hp with hp | hp
    · exact List.mem_append_left _ (h4 p hp)
    · exact List.mem_append_right _ hp
  have h6 : (c.hid ++ (ce ++ σ'.mt)).Sublist (c.hid ++ (ce ++ σ.mt)) := (h3.append_left _).append_left _
  refine ⟨ce, h1 ▸ I.F, fun p hp => I.N p ?_, h2 ▸ I.C, ⟨(h6.map _).nodup I.S.1, fun p hp q hq => I.S.2 p (h6.subset hp) q (h5 q hq)⟩, fun p hp => I.O p (h4 p hp), I.K, I.R⟩
  simp only [List.mem_append] at hp ⊢
  rcases hp with h | h | h | h | h
  · exact .inl h
  · exact .inr (.inl h)
  · exact .inr (.inr (.inl (h3.subset h)))
  · exact .inr (.inr (.inr (.inl (h4 _ h))))
  · exact .inr (.inr (.inr (.inr h)))
theorem Run.weak {t : Sem α} {Q : α → St → Prop} (h : Run c σ t (fun r σ₁ => ∃ σ₂, Wk σ₂ σ₁ ∧ Q r σ₂)) : Run c σ t Q := fun s I => h.on I fun a σ₁ s₁ I₁ ⟨σ₂, hw, hq⟩ => ⟨σ₂, Inv.weak hw I₁, hq⟩
theorem Run.preW {t : Sem α} {Q : α → St → Prop} (hw : Wk σ' σ) (h : Run c σ' t Q) : Run c σ t Q := fun s I => h s (Inv.weak hw I)
abbrev UpTo (Q : α → St → Prop) : α → St → Prop := fun r σ₁ => ∃ σ₂, Wk σ₂ σ₁ ∧ Q r σ₂
abbrev KMadeU (Q : Value → St → Prop) : List Value → St → Prop := UpTo (KMade Q)
theorem made_up {Q : Value → St → Prop} {ys : List Value} (h : KMadeU Q ys σ) : KMade (UpTo Q) ys σ := fun D => by
  obtain ⟨σ₂, hw, hq⟩ := h
  exact ⟨_, hw.imms, hq D⟩
theorem cmpL_mono {scope : Scope} {cl : List (Str × Addr)} {x : Str} {elt : PySem.Expr} {m : Str → Option Value} {src : Option (Addr × Obj)} {Q Q' : List Value → St → Prop} (hQ : ∀ ys σ, Q ys σ → Q' ys σ) : ∀ {r : List Itm} {ys : List Value} {σ : St}, CmpL V scope cl x elt m src Q r ys σ → CmpL V scope cl x elt m src Q' r ys σ
  | [], ys, σ, h => hQ ys σ h
  | .val v :: r, ys, σ, h => fun C c => (h C c).mono fun y σ' h => ⟨h.1, h.2.1, cmpL_mono hQ h.2.2⟩
  | .tok f :: r, ys, σ, h => fun t C c => (h t C c).mono fun y σ' h => ⟨h.1, h.2.1, cmpL_mono hQ h.2.2⟩
theorem r_compW {elt iter : PySem.Expr} {x : Str} {px pos : Pos} {scope : Scope} {cl : List (Str × Addr)} {Q : Value → St → Prop} (hk : compOK scope x = true) (hc : closureFor scope V.env = pure cl) (hs : ∀ x, foldedSetIterable iter V.env x = pure x) (h : Run c σ (eval iter V.env) (KComp V scope cl x elt σ.m (KMadeU Q))) :
    Run c σ (eval (.ListComp elt [⟨.Name x px, iter, [], 0⟩] scope pos) V.env) Q :=
  Run.weak (r_comp hk hc hs (h.mono fun xv σ₁ ⟨h1, xs, src, h2, h3⟩ => ⟨h1, xs, src, h2, cmpL_mono (fun ys σ h => made_up h) h3⟩))
theorem cmpE_mono {scope : Scope} {cl : List (Str × Addr)} {x x₂ : Str} {elt : PySem.Expr} {m : Str → Option Value} {src : Addr × Obj} {Q Q' : List Value → St → Prop} (hQ : ∀ ys σ, Q ys σ → Q' ys σ) : ∀ {r : List Value} {i : Nat} {ys : List Value} {σ : St}, CmpE V scope cl x x₂ elt m src Q i r ys σ → CmpE V scope cl x x₂ elt m src Q' i r ys σ
  | [], _, ys, σ, h => hQ ys σ h
  | v :: r, _, ys, σ, h => fun t C c => (h t C c).mono fun y σ' h => ⟨h.1, h.2.1, cmpE_mono hQ h.2.2⟩
theorem r_compEW {e elt : PySem.Expr} {x x₂ y : Str} {px px₂ tp p pos cpos : Pos} {tk : Nat} {scope : Scope} {cl : List (Str × Addr)} {Q : Value → St → Prop} (hk : (compOK scope x && compOK scope x₂ && !(x == x₂) && isG V y && noStar e && V.cp.isEmpty) = true) (hc : closureFor scope V.env = pure cl) (hn : nsIn (hd.heap_39 V.w.params) mainGlobals y = some none) (hb : bootBuiltins y = some (.type "enumerate")) (hm : (y == "__name__") = false) (h : Run c σ (eval e V.env) (KCompE V scope cl x x₂ elt σ.m (KMadeU Q))) :
    Run c σ (eval (.ListComp elt [⟨.Tuple [.Name x px, .Name x₂ px₂] tk tp, .Call (.Name y p) [e] [] cpos, [], 0⟩] scope pos) V.env) Q :=
  Run.weak (r_compE hk hc hn hb hm (h.mono fun xv σ₁ ⟨h1, R, vs, n, h2, h3, h4, h5⟩ => ⟨h1, R, vs, n, h2, h3, h4, cmpE_mono (fun ys σ h => made_up h) h5⟩))
theorem cmpS_ind {scope : Scope} {cl : List (Str × Addr)} {x : Str} {elt : PySem.Expr} {m : Str → Option Value} {Q : List Value → St → Prop} {P : Nat → Value → Prop} {xs : List Nat} (τ : St) (hm : τ.m = m)
    (turn : ∀ (k : Nat) (t : Tok) (C : Addr) (c : Ctx (V.comp scope cl C [(x, .str ⟨#[k]⟩ t)])), Run c τ (eval elt (V.comp scope cl C [(x, .str ⟨#[k]⟩ t)]).env) (fun y σ₁ => P k y ∧ Wk τ σ₁)) (done : ∀ ys, All2 (fun y k => P k y) ys xs → Q ys τ) :
    ∀ (r : List Nat) (pre : List Nat) (ys : List Value), pre ++ r = xs → All2 (fun y k => P k y) ys pre → CmpL V scope cl x elt m none Q (r.map fun k => .tok fun t => .str ⟨#[k]⟩ t) ys τ
  | [], pre, ys, e, h => by
    rw [List.append_nil] at e
    exact done ys (e ▸ h)
  | k :: r, pre, ys, e, h => fun t C c => Run.weak ((turn k t C c).mono fun y σ₁ ⟨hP, hw₁⟩ => ⟨τ, hw₁, hm, fun _ hp => (nomatch hp), cmpS_ind τ hm turn done r (pre ++ [k]) (ys ++ [y]) (by rw [List.append_assoc]; exact e) (h.snoc hP)⟩)
theorem k_compSI {scope : Scope} {cl : List (Str × Addr)} {x : Str} {elt : PySem.Expr} {Q : List Value → St → Prop} {t : Tok} (P : Nat → Value → Prop) {xs : List Nat} (hz : xs.length ≤ 1000)
    (turn : ∀ (k : Nat) (t : Tok) (C : Addr) (c : Ctx (V.comp scope cl C [(x, .str ⟨#[k]⟩ t)])), Run c σ (eval elt (V.comp scope cl C [(x, .str ⟨#[k]⟩ t)]).env) (fun y σ₁ => P k y ∧ Wk σ σ₁)) (done : ∀ ys, All2 (fun y k => P k y) ys xs → Q ys σ) : KComp V scope cl x elt σ.m Q (.str ⟨xs.toArray⟩ t) σ :=
  ⟨rfl, _, _, .str (Nat.ble_eq_true_of_le hz), cmpS_ind σ rfl turn done xs [] [] rfl .nil⟩
theorem wk_add {tl : Led} (h : ∀ p ∈ tl, p ∈ σ.fl) : Wk (σ.add tl) σ := ⟨rfl, rfl, List.Sublist.refl _, fun p hp => by
  have hp : p ∈ tl ++ σ.fl := hp
  rcases List.mem_append.mp hp with hp | hp
  · exact h p hp
  · exact hp⟩
theorem wk_add0 : Wk (σ.add []) σ := wk_add fun _ h => (nomatch h)
theorem wk_adds1 {b : Led} {D : Addr} {o : Obj} : Wk (σ.add ([(D, o)] ++ b)) ((σ.add b).imm D o) := ⟨rfl, rfl, List.Sublist.refl _, fun p hp => hp⟩
theorem mem_addR {tl : Led} {p : Addr × Obj} (h : p ∈ σ.fl ++ V.nd) : p ∈ (σ.add tl).fl ++ V.nd := by
  show p ∈ (tl ++ σ.fl) ++ V.nd
  rw [List.append_assoc]
  exact List.mem_append_right _ h
theorem cmpV_ind {β : Type} {scope : Scope} {cl : List (Str × Addr)} {x : Str} {elt : PySem.Expr} {m : Str → Option Value} {src : Addr × Obj} {Q : List Value → St → Prop} {R : Value → β → Prop} (D : β → Dat) {bs : List β} (τ : St) (hm : τ.m = m) (hs : src ∈ τ.fl ++ V.nd)
    (turn : ∀ (v : Value) (b : β), R v b → ∀ (tl : Led) (C : Addr) (c : Ctx (V.comp scope cl C [(x, v)])), Run c (τ.add tl) (eval elt (V.comp scope cl C [(x, v)]).env) (fun y σ₁ => ∃ a, DatIn a y (D b) ∧ Wk (τ.add (a ++ tl)) σ₁)) (done : ∀ ys tl, DatAll tl ys (bs.map D) → Q ys (τ.add tl)) :
    ∀ (vs : List Value) (r pre : List β) (ys : List Value) (tl : Led) (σ : St), pre ++ r = bs → All2 R vs r → DatAll tl ys (pre.map D) → Wk (τ.add tl) σ → CmpL V scope cl x elt m (some src) (UpTo Q) (vs.map .val) ys σ
  | [], r, pre, ys, tl, σ, e, hr, h, hw => by
    cases hr
    rw [List.append_nil] at e
    exact ⟨_, hw, done ys tl (e ▸ h)⟩
  | v :: vs, r, pre, ys, tl, σ, e, hr, h, hw => by
    cases hr with
    | @cons _ b _ r h1 h2 =>
      exact fun C c => Run.preW hw (Run.weak ((turn v b h1 tl C c).mono fun y σ₁ ⟨a, hP, hw₁⟩ => ⟨τ.add (a ++ tl), hw₁, hm, fun p hp => by cases hp; exact mem_addR hs, cmpV_ind D τ hm hs turn done vs r (pre ++ [b]) (ys ++ [y]) (a ++ tl) (τ.add (a ++ tl)) (by rw [List.append_assoc]; exact e) h2
        (by rw [List.map_append]; exact (((All2.ofDats h).mono fun _ _ h => h.mono fun p hp => List.mem_append_right _ hp).append (.cons (hP.mono fun p hp => List.mem_append_left _ hp) .nil)).dats) Wk.refl⟩))
theorem k_compVI {β : Type} {scope : Scope} {cl : List (Str × Addr)} {x : Str} {elt : PySem.Expr} {Q : List Value → St → Prop} {L : Addr} {n : Nat} {R : Value → β → Prop} (D : β → Dat) {vs : List Value} {bs : List β} (hL : (L, listOf vs.toArray n) ∈ σ.fl ++ V.nd) (hA : All2 R vs bs) (hz : vs.length ≤ 1000)
    (turn : ∀ (v : Value) (b : β), R v b → ∀ (tl : Led) (C : Addr) (c : Ctx (V.comp scope cl C [(x, v)])), Run c (σ.add tl) (eval elt (V.comp scope cl C [(x, v)]).env) (fun y σ₁ => ∃ a, DatIn a y (D b) ∧ Wk (σ.add (a ++ tl)) σ₁)) (done : ∀ ys tl, DatAll tl ys (bs.map D) → Q ys (σ.add tl)) : KComp V scope cl x elt σ.m (UpTo Q) (.ref L) σ :=
  ⟨rfl, _, _, .list hL (Nat.ble_eq_true_of_le hz), cmpV_ind D σ rfl hL turn done vs bs [] [] [] σ rfl hA .nil wk_add0⟩
theorem cmpE_ind {β : Type} {scope : Scope} {cl : List (Str × Addr)} {x x₂ : Str} {elt : PySem.Expr} {m : Str → Option Value} {src : Addr × Obj} {Q : List Value → St → Prop} {R : Nat → Value → β → Prop} (D : β → Dat) {bs : List β} (τ : St) (hm : τ.m = m) (hs : src ∈ τ.fl ++ V.nd)
    (turn : ∀ (i : Nat) (v : Value) (b : β), R i v b → ∀ (t : Tok) (tl : Led) (C : Addr) (c : Ctx (V.comp scope cl C [(x, .int (i : Int) t), (x₂, v)])), Run c (τ.add tl) (eval elt (V.comp scope cl C [(x, .int (i : Int) t), (x₂, v)]).env) (fun y σ₁ => ∃ a, DatIn a y (D b) ∧ Wk (τ.add (a ++ tl)) σ₁)) (done : ∀ ys tl, DatAll tl ys (bs.map D) → Q ys (τ.add tl)) :
    ∀ (vs : List Value) (i : Nat) (r pre : List β) (ys : List Value) (tl : Led) (σ : St), pre ++ r = bs → vs.length = r.length → (∀ j v b, vs[j]? = some v → r[j]? = some b → R (i + j) v b) → DatAll tl ys (pre.map D) → Wk (τ.add tl) σ → CmpE V scope cl x x₂ elt m src (UpTo Q) i vs ys σ
  | [], _, r, pre, ys, tl, σ, e, hl, _, h, hw => by
    obtain rfl : r = [] := List.length_eq_zero_iff.mp hl.symm
    rw [List.append_nil] at e
    exact ⟨_, hw, done ys tl (e ▸ h)⟩
  | v :: vs, i, [], pre, ys, tl, σ, e, hl, hR, h, hw => by cases hl
  | v :: vs, i, b :: r, pre, ys, tl, σ, e, hl, hR, h, hw => fun t C c => Run.preW hw (Run.weak ((turn i v b (hR 0 v b rfl rfl) t tl C c).mono fun y σ₁ ⟨a, hP, hw₁⟩ => ⟨τ.add (a ++ tl), hw₁, hm, mem_addR hs, cmpE_ind D τ hm hs turn done vs (i + 1) r (pre ++ [b]) (ys ++ [y]) (a ++ tl) (τ.add (a ++ tl)) (by rw [List.append_assoc]; exact e) (Nat.succ.inj hl)
      (fun j v b h1 h2 => by have := hR (j + 1) v b h1 h2; rw [Nat.add_assoc, Nat.add_comm 1]; exact this)
      (by rw [List.map_append]; exact (((All2.ofDats h).mono fun _ _ h => h.mono fun p hp => List.mem_append_right _ hp).append (.cons (hP.mono fun p hp => List.mem_append_left _ hp) .nil)).dats) Wk.refl⟩))
theorem k_compEI {β : Type} {scope : Scope} {cl : List (Str × Addr)} {x x₂ : Str} {elt : PySem.Expr} {Q : List Value → St → Prop} {L : Addr} {n : Nat} (R : Nat → Value → β → Prop) (D : β → Dat) {vs : List Value} {bs : List β} (hL : (L, listOf vs.toArray n) ∈ σ.fl ++ V.nd) (hl : vs.length = bs.length) (hA : ∀ j v b, vs[j]? = some v → bs[j]? = some b → R j v b) (hz : vs.length ≤ 1000)
    (turn : ∀ (i : Nat) (v : Value) (b : β), R i v b → ∀ (t : Tok) (tl : Led) (C : Addr) (c : Ctx (V.comp scope cl C [(x, .int (i : Int) t), (x₂, v)])), Run c (σ.add tl) (eval elt (V.comp scope cl C [(x, .int (i : Int) t), (x₂, v)]).env) (fun y σ₁ => ∃ a, DatIn a y (D b) ∧ Wk (σ.add (a ++ tl)) σ₁)) (done : ∀ ys tl, DatAll tl ys (bs.map D) → Q ys (σ.add tl)) : KCompE V scope cl x x₂ elt σ.m (UpTo Q) (.ref L) σ :=
  ⟨rfl, L, vs, n, rfl, hL, Nat.ble_eq_true_of_le hz, cmpE_ind D σ rfl hL turn done vs 0 bs [] [] [] σ rfl hl (fun j v b h1 h2 => by rw [Nat.zero_add]; exact hA j v b h1 h2) .nil wk_add0⟩
end
end R22
section R23
def St.due (τ : St) (n1 n2 : Str) (D : Addr) (A B : Option Value) (zs : List Value) (n : Nat) (tl : Led) : St := { m := fun y => if y = n2 then B else if y = n1 then A else τ.m y, cm := τ.cm, mt := (D, listOf zs.toArray n) :: τ.mt, im := tl :: τ.im }
section
variable {V : Vis} {c : Ctx V} {σ τ : St} {n1 n2 : Str} {D : Addr}
theorem due_puts {A B : Option Value} {zs : List Value} {n : Nat} {tl : Led} {x v : Value} (h : Wk (τ.due n1 n2 D A B zs n tl) σ) : Wk (τ.due n1 n2 D (some x) (some v) zs n tl) ((σ.put n1 x).put n2 v) := by
  refine ⟨?_, h.2⟩
  show (fun y => if y = n2 then some v else if y = n1 then some x else τ.m y) = (fun y => if y = n2 then some v else if y = n1 then some x else σ.m y)
  rw [← h.1]
  funext y
  show _ = (if y = n2 then some v else if y = n1 then some x else if y = n2 then B else if y = n1 then A else τ.m y)
  by_cases h2 : y = n2
  · rw [if_pos h2, if_pos h2]
  · rw [if_neg h2, if_neg h2]
    by_cases h1 : y = n1
    · rw [if_pos h1, if_pos h1]
    · rw [if_neg h1, if_neg h1, if_neg h2, if_neg h1]
theorem forE_ind {β : Type} {body : List Stmt} {src : Addr × Obj} {Q : Flow → St → Prop} {R : Nat → Value → β → Prop} (Dl : β → List Dat) {bs : List β} (hs : src ∈ τ.fl ++ V.nd)
    (turn : ∀ (i : Nat) (v : Value) (b : β), R i v b → ∀ (zs : List Value) (n : Nat) (tl : Led), zs.length = 5 * i → ∀ (c : Ctx V) (t : Tok), Run c (τ.due n1 n2 D (some (.int (i : Int) t)) (some v) zs n tl) (execs body V.env) (fun f σ₁ => f = .next ∧ ∃ us n' a, us.length = 5 ∧ DatAll a us (Dl b) ∧ Wk (τ.due n1 n2 D (some (.int (i : Int) t)) (some v) (zs ++ us) n' (a ++ tl)) σ₁))
    (done : ∀ A B zs n tl, DatAll tl zs (bs.map Dl).flatten → Q .next (τ.due n1 n2 D A B zs n tl)) :
    ∀ (vs : List Value) (i : Nat) (r pre : List β) (A B : Option Value) (zs : List Value) (n : Nat) (tl : Led) (σ : St), pre ++ r = bs → vs.length = r.length → (∀ j v b, vs[j]? = some v → r[j]? = some b → R (i + j) v b) → zs.length = 5 * i → DatAll tl zs (pre.map Dl).flatten → Wk (τ.due n1 n2 D A B zs n tl) σ → ForE V n1 n2 body src (UpTo Q) i vs σ
  | [], _, r, pre, A, B, zs, n, tl, σ, e, hl, _, _, h, hw => by
    obtain rfl : r = [] := List.length_eq_zero_iff.mp hl.symm
    rw [List.append_nil] at e
    exact ⟨_, hw, done A B zs n tl (e ▸ h)⟩
  | v :: vs, i, [], pre, A, B, zs, n, tl, σ, e, hl, hR, hz, h, hw => by cases hl
  | v :: vs, i, b :: r, pre, A, B, zs, n, tl, σ, e, hl, hR, hz, h, hw => fun c t => Run.preW (due_puts hw) ((turn i v b (hR 0 v b rfl rfl) zs n tl hz c t).mono fun f σ₁ ⟨hf, us, n', a, hu, hd, hw₁⟩ => by
      subst hf
      refine ⟨?_, forE_ind Dl hs turn done vs (i + 1) r (pre ++ [b]) _ _ (zs ++ us) n' (a ++ tl) σ₁ (by rw [List.append_assoc]; exact e) (Nat.succ.inj hl) (fun j v b h1 h2 => by have := hR (j + 1) v b h1 h2; rw [Nat.add_assoc, Nat.add_comm 1]; exact this) (by rw [List.length_append, hz, hu]; omega) ?_ hw₁⟩
      · rcases List.mem_append.mp hs with h | h
        · exact List.mem_append_left _ (hw₁.2.2.2 _ (List.mem_append_right _ h))
        · exact List.mem_append_right _ h
      · rw [List.map_append, List.flatten_append]
        refine datApp ?_ ?_
        · exact ((All2.ofDats h).mono fun _ _ h => h.mono fun p hp => List.mem_append_right _ hp).dats
        · rw [List.map_singleton, List.flatten_singleton]
          exact ((All2.ofDats hd).mono fun _ _ h => h.mono fun p hp => List.mem_append_left _ hp).dats)
theorem due0 (h1 : τ.m n1 = none) (h2 : τ.m n2 = none) : Wk (τ.due n1 n2 D none none [] 0 []) (τ.mut D (listOf #[] 0)) := by
  refine ⟨?_, rfl, List.Sublist.refl _, fun p hp => hp⟩
  funext y
  show (if y = n2 then none else if y = n1 then none else τ.m y) = τ.m y
  by_cases e2 : y = n2
  · rw [if_pos e2, e2, h2]
  · rw [if_neg e2]
    by_cases e1 : y = n1
    · rw [if_pos e1, e1, h1]
    · rw [if_neg e1]
theorem r_forEW {y : Str} {p1 p2 p tp pos cpos : Pos} {tk : Nat} {e : PySem.Expr} {body : List Stmt} {Q : Flow → St → Prop} (hx : (isL V n1 && isL V n2 && isG V y && noStar e) = true) (hn : nsIn (hd.heap_39 V.w.params) mainGlobals y = some none) (hb : bootBuiltins y = some (.type "enumerate")) (hm : (y == "__name__") = false) (h : Run c σ (eval e V.env) (KEnu V n1 n2 body (UpTo Q))) :
    Run c σ (exec (.For (.Tuple [.Name n1 p1, .Name n2 p2] tk tp) (.Call (.Name y p) [e] [] cpos) body [] pos) V.env) Q := Run.weak (r_forE hx hn hb hm h)
theorem k_forEI {β : Type} {body : List Stmt} {Q : Flow → St → Prop} {L : Addr} {n : Nat} (τ : St) (R : Nat → Value → β → Prop) (Dl : β → List Dat) {vs : List Value} {bs : List β} (hL' : (L, listOf vs.toArray n) ∈ τ.fl ++ V.nd) (hw : Wk (τ.due n1 n2 D none none [] 0 []) σ) (hl : vs.length = bs.length) (hA : ∀ j v b, vs[j]? = some v → bs[j]? = some b → R j v b)
    (turn : ∀ (i : Nat) (v : Value) (b : β), R i v b → ∀ (zs : List Value) (n : Nat) (tl : Led), zs.length = 5 * i → ∀ (c : Ctx V) (t : Tok), Run c (τ.due n1 n2 D (some (.int (i : Int) t)) (some v) zs n tl) (execs body V.env) (fun f σ₁ => f = .next ∧ ∃ us n' a, us.length = 5 ∧ DatAll a us (Dl b) ∧ Wk (τ.due n1 n2 D (some (.int (i : Int) t)) (some v) (zs ++ us) n' (a ++ tl)) σ₁))
    (done : ∀ A B zs n tl, DatAll tl zs (bs.map Dl).flatten → Q .next (τ.due n1 n2 D A B zs n tl)) : ForE V n1 n2 body (L, listOf vs.toArray n) (UpTo Q) 0 vs σ :=
  forE_ind Dl hL' turn done vs 0 bs [] none none [] 0 [] σ rfl hl (fun j v b h1 h2 => by rw [Nat.zero_add]; exact hA j v b h1 h2) rfl .nil hw
theorem wk_due3 {m cm : Str → Option Value} {mt a b d tl : Led} {im : List Led} : Wk ⟨m, cm, mt, (a ++ tl) :: im⟩ ⟨m, cm, mt, a :: b :: d :: tl :: im⟩ := ⟨rfl, rfl, .refl _, fun p hp => by
  have hp : p ∈ (a ++ tl) ++ im.flatten := hp
  show p ∈ a ++ (b ++ (d ++ (tl ++ im.flatten)))
  simp only [List.mem_append] at hp ⊢
  rcases hp with (h | h) | h <;> simp only [h, true_or, or_true]⟩
end
end R23
section N24
theorem FnG.mono {w : World} {i j : Led} {X : Addr} {as : List Int} {v : Int} {ds : List Dat} (h : FnG w i X as v ds) (hs : ∀ p ∈ i, p ∈ j) : FnG w j X as v ds :=
  let ⟨DX, f1, f2, f3, f4, n, u1, u2, u3, u4, u5, u6, c1, c2, d1, d2, d3, d4, m1, m2, m3, m4, m5, m6, g1, g2, g3, g4⟩ := h
  ⟨DX, f1, f2, f3, f4, n, u1, u2, u3, u4, u5, u6, c1, c2, d1, d2, d3, d4, hs _ m1, hs _ m2, hs _ m3, hs _ m4, hs _ m5, hs _ m6, fun c t => (g1 c t).mono hs fun _ _ h => h, fun g t h0 h4 => (g2 g t h0 h4).mono hs fun _ _ h => h, fun l r t u => (g3 l r t u).mono hs fun _ _ h => h, fun g t x0 y0 x1 y1 x2 y2 h0 h4 hg => (g4 g t x0 y0 x1 y1 x2 y2 h0 h4 hg).mono hs fun _ _ h => h⟩
theorem glySign {k : Nat} {t1 t2 t3 t : Tok} : ∃ t', (valueAt [(Str.ofString "a", Value.int 1 t1), (Str.ofString "b", .int 2 t2), (Str.ofString " ", .int 3 t3)] (Str.mk #[k])).getD (.int 0 t) = .int (gly (k : Int)) t' := by
  rw [sign_val]
  by_cases h1 : k = 97
  · subst h1; exact ⟨_, rfl⟩
  · by_cases h2 : k = 98
    · subst h2; exact ⟨_, rfl⟩
    · by_cases h3 : k = 32
      · subst h3; exact ⟨_, rfl⟩
      · have h1' : ¬ (k : Int) = 97 := by omega
        have h2' : ¬ (k : Int) = 98 := by omega
        have h3' : ¬ (k : Int) = 32 := by omega
        exact ⟨t, by simp [gly, h1, h2, h3, h1', h2', h3']⟩
theorem gly_ints {ys : List Value} {xs : List Nat} (h : All2 (fun y (k : Nat) => ∃ t, y = .int (gly (k : Int)) t) ys xs) : IntsIn ys (glys xs) := by
  induction h with
  | nil => exact .nil
  | cons h _ ih => exact .cons h ih
theorem hasN {V : Vis} {σ : St} {p : Addr × Obj} (h : p ∈ σ.fl ++ V.nd) : p ∈ σ.fl ++ V.nd := h
theorem hasFl {V : Vis} {σ : St} {p : Addr × Obj} (h : p ∈ σ.fl ++ V.nd) : Has V σ p := List.mem_append_right _ h
theorem two_mem {a b : Int} {v : Value} {t1 t2 : Tok} (h : v ∈ [.int a t1, .int b t2]) : ∃ n t, (n = a ∨ n = b) ∧ v = .int n t := by
  simp only [List.mem_cons, List.not_mem_nil, or_false] at h
  rcases h with rfl | rfl
  · exact ⟨_, _, .inl rfl, rfl⟩
  · exact ⟨_, _, .inr rfl, rfl⟩
theorem r_low {V : Vis} {c : Ctx V} {σ : St} {Q : Value → St → Prop} {x y : Int} {t1 t2 : Tok} (hy : 0 < y) (hY : y < 2 ^ 128) (hd : Nat.ble 1 V.D = true) (hu : Nat.ble 16 V.U = true)
    (h : ∀ C t1 t2 i, let σ' := σ.imm C (tup [.int (Rat.divInt x y).num t1, .int (Rat.divInt x y).den t2] i); Q (.ref C) σ') : Run c σ (call (.ref 420) [.int x t1, .int y t2]) Q := r_gsR (low_g (need := []) _ hy hY) (fun _ h => nomatch h) hd hu h
theorem r_lowS {V : Vis} {c : Ctx V} {σ : St} {Q : Value → St → Prop} {z : Rat} {y : Int} {t1 t2 : Tok} (hy : 0 < (z.den : Int) * y ∧ (z.den : Int) * y < 2 ^ 128) (hd : Nat.ble 1 V.D = true) (hu : Nat.ble 16 V.U = true)
    (h : ∀ s : Rat, s = z / (y : Rat) → ∀ C t1 t2 i, let σ' := σ.imm C (tup [.int s.num t1, .int s.den t2] i); Q (.ref C) σ') : Run c σ (call (.ref 420) [.int z.num t1, .int ((z.den : Int) * y) t2]) Q := r_low hy.1 hy.2 hd hu (h _ (low_scale z y))
theorem r_lowP {V : Vis} {c : Ctx V} {σ : St} {Q : Value → St → Prop} {x y : Int} {t1 t2 : Tok} (hy : 0 < y) (hY : y < 16) (hd : Nat.ble 1 V.D = true) (hu : Nat.ble 16 V.U = true)
    (h : ∀ s : Rat, Bd 4 s → ∀ C t1 t2 i, let σ' := σ.imm C (tup [.int s.num t1, .int s.den t2] i); Q (.ref C) σ') : Run c σ (call (.ref 420) [.int x t1, .int y t2]) Q := r_low hy (by omega) hd hu (h _ (bd_low hy (by omega)))
def SizeOK (z : Rat) : Prop := Bd 4 z ∧ ∀ u : Int, u = 1000 ∨ u = 2048 → 0 < u ∧ u < 2 ^ 62 ∧ (0 < (z.den : Int) * u ∧ (z.den : Int) * u < 2 ^ 128) ∧ ScB (z / (u : Rat))
theorem sizeOK {x n : Int} (h0 : 0 ≤ x) (h1 : x < 60) (hn : n = 1 ∨ n = 3) : SizeOK (Rat.divInt (1 + x) n) := by
  have hn0 : 0 < n := by omega
  have hd0 := (Rat.divInt (1 + x) n).den_pos
  have hd1 := den_le (a := 1 + x) hn0
  have e1 : ((Rat.divInt (1 + x) n).den : Int) = 1 ∨ ((Rat.divInt (1 + x) n).den : Int) = 2 ∨ ((Rat.divInt (1 + x) n).den : Int) = 3 := by omega
  refine ⟨bd_low hn0 ?_, fun u hu => ⟨by omega, by omega, ⟨?_, ?_⟩, scB_of (a := 1 + x) (by omega) (by omega) hn hu⟩⟩
  · rcases hn with rfl | rfl <;> decide
  · rcases e1 with e | e | e <;> rw [e] <;> omega
  · rcases e1 with e | e | e <;> rw [e] <;> omega
theorem r_lowZ {V : Vis} {c : Ctx V} {σ : St} {Q : Value → St → Prop} {x n : Int} {t1 t2 : Tok} (h0 : 0 ≤ x) (h1 : x < 60) (hn : n = 1 ∨ n = 3) (hd : Nat.ble 1 V.D = true) (hu : Nat.ble 16 V.U = true)
    (h : ∀ z : Rat, SizeOK z → ∀ C t1 t2 i, let σ' := σ.imm C (tup [.int z.num t1, .int z.den t2] i); Q (.ref C) σ') : Run c σ (call (.ref 420) [.int (1 + x) t1, .int n t2]) Q := r_low (by omega) (by omega) hd hu (h _ (sizeOK h0 h1 hn))
theorem ext_ok {tl : Led} {zs us : List Value} {i : Nat} {p q s b : Rat} {o : Six} (hz : zs.length = 5 * i) (hi : i < 4) (h : DatAll tl us (lawL p q s b o)) : Nat.ble (zs.length + us.length) 1000 = true ∧ us.isEmpty = false ∧ us.length = 5 := by
  have e : us.length = 5 := (All2.ofDats h).length
  refine ⟨Nat.ble_eq_true_of_le (by omega), ?_, e⟩
  cases us with
  | nil => cases e
  | cons => rfl
theorem ints_at {n : Int} {i : Nat} : ∀ {vs : List Value} {ns : List Int}, IntsIn vs ns → ns[i]? = some n → ∃ t, vs[i]? = some (.int n t) := by
  intro vs ns h
  induction h generalizing i with
  | nil => intro e; cases e
  | cons h _ ih =>
    intro e
    cases i with
    | zero => cases e; obtain ⟨t, rfl⟩ := h; exact ⟨t, rfl⟩
    | succ i => simpa using ih (by simpa using e)
theorem r_anchW {V : Vis} {c : Ctx V} {σ : St} {Q : Value → St → Prop} {value slice : PySem.Expr} {d : Addr} {o : Obj} {a : Str} {u : Tok} {A1 A2 A3 : Addr} {len : Int} {w1 w2 w3 w4 w5 w6 : Tok} {k1 k2 k3 : Nat} (hp : Has V σ (d, o)) (hd : o.IsDictOf (PySem.strKind rprog V.w) [(Str.ofString "start", .ref A1), (Str.ofString "middle", .ref A2), (Str.ofString "end", .ref A3)]) (ha : AnchOK a)
    (m1 : (A1, tup [.int 0 w1, .int 1 w2] k1) ∈ σ.fl) (m2 : (A2, tup [.int (Rat.divInt (0 - len) 2).num w3, .int (Rat.divInt (0 - len) 2).den w4] k2) ∈ σ.fl) (m3 : (A3, tup [.int (0 - len) w5, .int 1 w6] k3) ∈ σ.fl) (hs : plainS slice = true)
    (h : ∀ D t1 t2 k, let σ' := σ.imm D (tup [.int (shiftQ a len).num t1, .int (shiftQ a len).den t2] k); Q (.ref D) σ') : Run c σ (subscriptTail value slice (.ref d) (.str a u)) Q :=
  Run.weak (r_anch hp hd ha m1 m2 m3 hs fun D t1 t2 k m => ⟨σ.imm D (tup [.int (shiftQ a len).num t1, .int (shiftQ a len).den t2] k), ⟨rfl, rfl, .refl _, fun p hp => by
    rcases List.mem_cons.mp (show p ∈ _ :: σ.fl from hp) with rfl | hp
    · exact m
    · exact hp⟩, h D t1 t2 k⟩)
theorem wk_im1 {σ : St} {D : Addr} {o : Obj} : Wk σ (σ.imm D o) := ⟨rfl, rfl, .refl _, fun _ h => .tail _ h⟩
theorem lines_bd {ds : List Dat} {p s : Rat} {a : Str} {len : Int} {ls : List (Int × Int × Int)} (bp : Bd 4 p) (sb : ScB s) : ∀ d ∈ linesQ ds (p + s * shiftQ a len) s ls, Bd 40 d.e := by
  intro d hd
  obtain ⟨l, _, rfl⟩ := List.mem_map.mp hd
  exact ((bp.add (sb.den.mul shiftB)).add (sb.den.mul Bd.int)).le (by decide)
theorem linesMono {w : World} {s f : Rat} {i j : Led} {vs : List Value} {ls : List LD} (h : All2 (LineIn w s f i) vs ls) (hs : ∀ p ∈ i, p ∈ j) : All2 (LineIn w s f j) vs ls := h.mono fun _ _ h => LineIn.mono _ _ _ _ _ _ _ hs h
theorem datTl {p : Addr × Obj} {i : Led} {vs : List Value} {ds : List Dat} (h : DatAll i vs ds) : DatAll (p :: i) vs ds := ((All2.ofDats h).mono fun _ _ h => h.mono fun p hp => .tail _ hp).dats
theorem r_neDue {V : Vis} {c : Ctx V} {σ : St} {Q : Value → St → Prop} {D : Addr} {a : Value} {n1 tl : Led} {zs : List Value} {n : Nat} {ds : List Dat} (ha : DatIn n1 a (.list ds)) (sa : ∀ p ∈ n1, Has V σ p) (hm : Has V σ (D, listOf zs.toArray n)) (hZ : DatAll tl zs ds) (st : ∀ p ∈ tl, Has V σ p) (hk : kqdOk 9 (.list ds) = true) (hu : Nat.ble 68 V.U = true) (h : Q (.bool false) σ) : Run c σ (compareOp .NotEq a (.ref D)) Q := r_neD ha sa (DatIn.list (.head _) (datTl hZ)) (allC hm st) hk hu h
theorem r_neLL {V : Vis} {c : Ctx V} {σ : St} {Q : Value → St → Prop} {D D' : Addr} {tl tl' : Led} {zs zs' : List Value} {n n' : Nat} {ds : List Dat} (hm : Has V σ (D, listOf zs.toArray n)) (hZ : DatAll tl zs ds) (st : ∀ p ∈ tl, Has V σ p) (hm' : Has V σ (D', listOf zs'.toArray n')) (hZ' : DatAll tl' zs' ds) (st' : ∀ p ∈ tl', Has V σ p) (hk : kqdOk 9 (.list ds) = true) (hu : Nat.ble 68 V.U = true) (h : Q (.bool false) σ) : Run c σ (compareOp .NotEq (.ref D) (.ref D')) Q := r_neD (DatIn.list (.head _) (datTl hZ)) (allC hm st) (DatIn.list (.head _) (datTl hZ')) (allC hm' st') hk hu h
theorem kqdRat {q : Rat} : kqdOk 9 (dR q) = true := rfl
theorem kqdPt {p q : Rat} : kqdOk 9 (dP p q) = true := rfl
theorem rat_comm {p s a b : Rat} : p + s * (a + b) = p + s * (b + a) := by rw [Rat.add_comm a b]
theorem letT {T : Addr} {g a b : Int} {t1 t2 t3 : Tok} {k : Nat} : DatIn [(T, tup [.int g t1, .int a t2, .int b t3] k)] (.ref T) (letD (g, a, b)) := .tuple (.head _) (.cons (.int _ _) (.cons (.int _ _) (.cons (.int _ _) .nil)))
theorem r_neX {V : Vis} {c : Ctx V} {σ : St} {Q : Value → St → Prop} {x : Int} {t1 t2 : Tok} (hu : Nat.ble 68 V.U = true) (h : Q (.bool false) σ) : Run c σ (compareOp .NotEq (.int x t1) (.int x t2)) Q := r_neD (n1 := []) (n2 := []) (.int _ _) (fun _ h => nomatch h) (.int _ _) (fun _ h => nomatch h) rfl hu h
theorem r_neRat {V : Vis} {c : Ctx V} {σ : St} {Q : Value → St → Prop} {a : Value} {B : Addr} {n1 : Led} {q : Rat} {t1 t2 : Tok} {k : Nat} (ha : RatIn n1 a q) (sa : ∀ p ∈ n1, Has V σ p) (hm : Has V σ (B, tup [.int q.num t1, .int q.den t2] k)) (hu : Nat.ble 68 V.U = true) (h : Q (.bool false) σ) : Run c σ (compareOp .NotEq a (.ref B)) Q := r_neD ha.dat sa (RatIn.dat (i := [_]) (ratIn (.head _))) (allC hm allN) kqdRat hu h
theorem r_eqPt {V : Vis} {c : Ctx V} {σ : St} {Q : Value → St → Prop} {a : Value} {T A B : Addr} {n1 : Led} {p q : Rat} {t1 t2 t3 t4 : Tok} {k k1 k2 : Nat} (ha : PtIn n1 a p q) (sa : ∀ p ∈ n1, Has V σ p) (m1 : Has V σ (T, tup [.ref A, .ref B] k)) (m2 : Has V σ (A, tup [.int p.num t1, .int p.den t2] k1)) (m3 : Has V σ (B, tup [.int q.num t3, .int q.den t4] k2)) (hu : Nat.ble 68 V.U = true) (h : Q (.bool true) σ) : Run c σ (compareOp .Eq a (.ref T)) Q := r_eqD ha.dat sa (PtIn.dat (i := [_, _, _]) (ptIn (.head _) (.tail _ (.head _)) (.tail _ (.tail _ (.head _))))) (allC m1 (allC m2 (allC m3 allN))) kqdPt hu h
theorem im_ix {σ : St} {tl : Led} (h : ∃ n : Nat, σ.im[n]? = some tl) : ∀ p ∈ tl, p ∈ σ.fl := fun _ m => seg_ix m h
theorem row_g (w : World) {S : Addr} {o oP : Obj} {need : Led} {xs : List Nat} {a : Str} {t u : Tok} (hS : SrcObj S o) (hTab : TabSt need oP) (hdis : ∀ p ∈ [(S, o), (436, oP)], ∀ q ∈ need, p.1 ≠ q.1) (hSP : S ≠ 436) (hx : xs.length ≤ 3) (ha : AnchOK a) : GM w 458 12 100 [.ref S, .str ⟨xs.toArray⟩ t, .str a u] [(S, o), (436, oP)] need (fun r mt' tl => ∃ o' oP', mt' = [(S, o'), (436, oP')] ∧ SrcObj S o' ∧ TabFull (need ++ tl) oP' ∧ r = .bool true) := by
  k_with "r lq" => ((fail_if_success (k_extra "off N24")); (first
    | ((with_reducible refine' r_lsum ?za ?zb ?ze ?zf ?zd ?zu ?_); (case za => k_extra "r mem"); (case zb => k_extra "r mem"); (case ze => with_reducible assumption); (case zf => with_reducible assumption); (case zd => exact rfl); (case zu => exact rfl); intro A9 t8 t9 k9 σ9)
    | ((with_reducible refine' r_lsumI ?za ?zb ?ze ?zd ?zu ?_); (case za => k_extra "r mem"); (case zb => k_extra "r mem"); (case ze => with_reducible assumption); (case zd => exact rfl); (case zu => exact rfl); intro A9 t8 t9 k9 σ9)
    | ((with_reducible refine' r_ltimes ?za ?zb ?zg ?zh ?ze ?zf ?zd ?zu ?_); (case za => k_extra "r mem"); (case zb => k_extra "r mem"); (case zg => with_reducible assumption); (case zh => with_reducible assumption); (case ze => with_reducible assumption); (case zf => with_reducible assumption); (case zd => exact rfl); (case zu => exact rfl); intro A9 t8 t9 k9 σ9)
    | ((with_reducible refine' r_ltimesI ?za ?zb ?zg ?zh ?ze ?zd ?zu ?_); (case za => k_extra "r mem"); (case zb => k_extra "r mem"); (case zg => with_reducible assumption); (case zh => with_reducible assumption); (case ze => with_reducible assumption); (case zd => exact rfl); (case zu => exact rfl); intro A9 t8 t9 k9 σ9)))
  k_with "r list" => ((fail_if_success (k_extra "off N24")); (((with_reducible refine' r_newM ?za ?_); (case za => exact rfl); intro D9 σ9)))
  k_with "r list" => ((fail_if_success (k_extra "off N24")); (((with_reducible refine' r_newL1 ?za ?_); (case za => exact rfl); intro D9 σ9)))
  k_with "r leaf" => ((fail_if_success (k_extra "off N24")); (((with_reducible refine' r_anchW ?za hK9 ha ?zm ?zn ?zk ?zf ?_); (case za => k_extra "r mem"); (case zm => k_extra "r in"); (case zn => k_extra "r in"); (case zk => k_extra "r in"); (case zf => exact rfl); intro Sh w7 w8 kS σ9)))
  k_with "r exec" => ((fail_if_success (k_extra "off N24")); (((with_reducible refine' r_forEW ?ze ?zf ?zg ?zh ?_); (case ze => exact rfl); (case zf => k_is); (case zg => exact blt_enumerate); (case zh => exact rfl))))
  k_with "r eval" => ((fail_if_success (k_extra "off N24")); (((with_reducible refine' r_compW ?za ?zb ?zf ?_); (case za => exact rfl); (case zb => exact rfl); (case zf => exact fun _ => rfl))))
  k_with "r eval" => ((fail_if_success (k_extra "off N24")); (((with_reducible refine' r_compEW ?za ?zb ?ze ?zf ?zg ?_); (case za => exact rfl); (case zb => exact rfl); (case ze => k_is); (case zf => exact blt_enumerate); (case zg => exact rfl))))
  k_with "r leaf" => ((fail_if_success (k_extra "off N24")); (((with_reducible refine' r_neDue PA ?zs ?zm hZ ?zt kq_law ?zu ?_); (case zs => k_extra "r segH"); (case zm => k_extra "r mem"); (case zt => k_extra "r segH"); (case zu => exact rfl))))
  k_with "r leaf" => ((fail_if_success (k_extra "off N24")); (((with_reducible refine' r_neLL ?zm hY ?zn ?zs hY2 ?zt kq_lets ?zu ?_); (case zm => k_extra "r mem"); (case zn => k_extra "r segH"); (case zs => k_extra "r mem"); (case zt => k_extra "r segH"); (case zu => exact rfl))))
  k_with "r leaf" => ((fail_if_success (k_extra "off N24")); (((with_reducible refine' r_neRat PW ?zs ?zt ?zu ?_); (case zs => k_extra "r segH"); (case zt => k_extra "r mem"); (case zu => exact rfl))))
  k_with "r leaf" => ((fail_if_success (k_extra "off N24")); (((with_reducible refine' r_neX ?zu ?_); (case zu => exact rfl))))
  k_with "r leaf" => ((fail_if_success (k_extra "off N24")); (((with_reducible refine' r_eqPt PE ?zs ?zm ?zn ?zt ?zu ?_); (case zs => k_extra "r segE"); (case zm => k_extra "r mem"); (case zn => k_extra "r mem"); (case zt => k_extra "r mem"); (case zu => exact rfl))))
  k_with "r segE" => ((fail_if_success (k_extra "off N24")); ((refine' List.forall_mem_append.mpr ⟨?yg, ?yh⟩; (case yg => exact fun _ h => hasFl (mem_addR h)); (case yh => k_extra "r segH"))))
  k_with "r segF" => ((fail_if_success (k_extra "off N24")); ((refine' im_ix ?ybs; (case ybs => k_extra "r ix"))))
  k_with "r need" => ((fail_if_success (k_extra "off N24")); ((refine' List.forall_mem_append.mpr ⟨fun _ h => List.mem_append_right _ h, ?yg⟩; (case yg => k_extra "r segN"))))
  k_with "r grow" => ((fail_if_success (k_extra "off N24")); ((refine' List.forall_mem_append.mpr ⟨?yg, ?yh⟩; (case yg => exact fun _ h => mem_addR h); (case yh => k_extra "r segN"))))
  k_with "r pt" => ((fail_if_success (k_extra "off N24")); (((refine' ptIn ?yp ?yq ?yr); (case yp => k_extra "r memI"); (case yq => k_extra "r memI"); (case yr => k_extra "r memI"))))
  k_with "r rat" => ((fail_if_success (k_extra "off N24")); (((refine' ratIn ?yp); (case yp => k_extra "r memI"))))
  k_with "r call" => ((fail_if_success (k_extra "off N24")); (first
    | ((with_reducible refine' r_gm2 (font_g _ ?zs ?zt ?ze hSP) ?zr ?zq hSP ?zp ?zn ?zd ?zu ?_); (case zs => with_reducible assumption); (case zt => with_reducible assumption); (case ze => with_reducible assumption); (case zr => (intro o8 o7; k_extra "r rep")); (case zq => (intro o8 o7; k_extra "r rep")); (case zp => k_extra "r mt"); (case zn => exact fun _ h => List.mem_append_right _ h); (case zd => exact rfl); (case zu => exact rfl); intro r9 o9 oP9 tlF PF; obtain ⟨o2, oP2, eF, hS2, hTF, as, v, ds, hal, hab, hv, hdl, hPt, Rf, X, A, O, KD, kf, nA, nO, va, vo, rF, mRf, mA, iA, mO, dO, hKT, hF⟩ := PF; cases eF; subst rF; intro σ9)
    | ((with_reducible refine' r_gs (lawb_g _ (hasN ?zm) (hasN ?zn) (TupTab_mono hKT ?zs) ig iA hal (glys_ok _) ?zl) (fun _ h => hasFl h) ?zd ?zu ?_); (case zm => k_extra "r memI"); (case zn => k_extra "r memI"); (case zs => k_extra "r segN"); (case zl => rw [← ig.length]; exact hgl); (case zd => exact rfl); (case zu => exact rfl); intro r9 tl9 P9 σ9; obtain ⟨TB, RB, bvs, kB, nB, tB, e9, mTB, mRB, iB⟩ := P9; subst e9)
    | ((with_reducible refine' r_gs (lines_g _ hx (hF.mono ?zf) hds ?zp ?zz ha u0 u1 ?zb bz bp) (fun _ h => hasFl h) ?zd ?zu ?_); (case zf => k_extra "r need"); (case zp => k_extra "r pt"); (case zz => k_extra "r rat"); (case zb => rw [← es]; exact sb); (case zd => exact rfl); (case zu => exact rfl); intro r9 tlL PL σ9; rw [← es, ← hlq] at PL; obtain ⟨RL, vL, nL, e9, mRL, aL⟩ := PL; subst e9)
    | ((with_reducible refine' r_gs (all_g _ (hasN ?zm) (linesMono aL ?zf) ?zl sb ?zb bq) (fun _ h => hasFl h) ?zd ?zu ?_); (case zm => k_extra "r memI"); (case zf => k_extra "r grow"); (case zl => (rw [aL.length]; unfold linesQ; rw [List.length_map, hlen]; exact hgl)); (case zb => exact lines_bd bp sb); (case zd => exact rfl); (case zu => exact rfl); intro r9 tlA PA σ9; rw [led_law] at PA; obtain ⟨aA, usA, nA9, e9, mA9, dA9⟩ := list_ref PA; subst e9)
    | ((with_reducible refine' r_gs (letters_g _ hx (hF.mono ?zf)) (fun _ h => hasFl h) ?zd ?zu ?_); (case zf => k_extra "r need"); (case zd => exact rfl); (case zu => exact rfl); intro r9 tlT PT σ9; rw [← hlq] at PT; obtain ⟨TT, RT, vT, kT, nT, tT, e9, mTT, mRT, aT⟩ := PT; subst e9)
    | ((with_reducible refine' r_gs (length_g _ hx (hF.mono ?zf) ?zz u0 u1 ?zb bz) (fun _ h => hasFl h) ?zd ?zu ?_); (case zf => k_extra "r need"); (case zz => k_extra "r rat"); (case zb => rw [← es]; exact sb); (case zd => exact rfl); (case zu => exact rfl); intro r9 tlW PW σ9; rw [← es, ← hlq] at PW; obtain ⟨aW, bW1, bW2, kW, e9, mW⟩ := id PW; subst e9)
    | ((with_reducible refine' r_gs (end_g _ hx (hF.mono ?zf) ?zp ?zz ha u0 u1 ?zb bz bp) (fun _ h => hasFl h) ?zd ?zu ?_); (case zf => k_extra "r need"); (case zp => k_extra "r pt"); (case zz => k_extra "r rat"); (case zb => rw [← es]; exact sb); (case zd => exact rfl); (case zu => exact rfl); intro r9 tlE PE σ9; rw [← es, ← hlq, rat_comm] at PE; obtain ⟨aE, bE1, bE2, bE3, bE4, bE5, bE6, kE1, kE2, kE3, e9, mE1, mE2, mE3⟩ := id PE; subst e9)
    | ((with_reducible refine' r_take ?zs ?ze ?zf ?zr ?zd ?zu ?_); (case zs => with_reducible assumption); (case ze => decide); (case zf => decide); (case zr => (intro o8; k_extra "r rep")); (case zd => exact rfl); (case zu => exact rfl); intro x9 t9 o9 l9 h9 S9 σ9)
    | ((with_reducible refine' r_one ?zs ?zt ?ze ?zr ?zd ?zu ?_); (case zs => with_reducible assumption); (case zt => k_extra "r memI"); (case ze => exact rfl); (case zr => (intro o8; k_extra "r rep")); (case zd => exact rfl); (case zu => exact rfl); intro v9 o9 hv9 hS9 σ9; obtain ⟨n9, t9, hn9, e9⟩ := two_mem hv9; subst e9)
    | ((with_reducible refine' r_lowZ ?zx ?zy ?zn ?zd ?zu ?_); (case zx => with_reducible assumption); (case zy => with_reducible assumption); (case zn => with_reducible assumption); (case zd => exact rfl); (case zu => exact rfl); intro z hz A9 t8 t9 k9 σ9)
    | ((with_reducible refine' r_lowS ?zy ?zd ?zu ?_); (case zy => with_reducible assumption); (case zd => exact rfl); (case zu => exact rfl); intro s es A9 t8 t9 k9 σ9)
    | ((with_reducible refine' r_lowP (y := 4) ?zy ?zY ?zd ?zu ?_); (case zy => decide); (case zY => decide); (case zd => exact rfl); (case zu => exact rfl); intro p bp A9 t8 t9 k9 σ9)
    | ((with_reducible refine' r_lowP (y := 3) ?zy ?zY ?zd ?zu ?_); (case zy => decide); (case zY => decide); (case zd => exact rfl); (case zu => exact rfl); intro q bq A9 t8 t9 k9 σ9)
    | ((with_reducible refine' r_low (y := 2) ?zy ?zY ?zd ?zu ?_); (case zy => decide); (case zY => decide); (case zd => exact rfl); (case zu => exact rfl); intro A9 t8 t9 k9 σ9)
    | ((with_reducible refine' r_gs (lawlines_g _ ?zk ?zm ?zn ?zl ?zs ?ze ?zf ?zb) (fun _ h => hasFl h) ?zd ?zu ?_); (case zk => exact hvg.mono (by k_extra "r segN")); (case zm => k_extra "r pt"); (case zn => k_extra "r rat"); (case zl => k_extra "r rat"); (case zs => with_reducible assumption); (case ze => with_reducible assumption); (case zf => with_reducible assumption); (case zb => exact bsh _); (case zd => exact rfl); (case zu => exact rfl); intro r9 tl9 P9 σ9; obtain ⟨a9, us9, n9, e9, m9, d9⟩ := list_ref P9; subst e9; obtain ⟨x7, x8, x6⟩ := ext_ok hzs hi d9)
    | k_extra "r lq"
    | k_extra "r leaf"))
  refine' gmC_of_run ?hdis ?hnm ?ho ?hcd ?hb ?hc ?_
  case hdis => exact hdis
  case hnm => simp [hSP]
  case ho => k_is
  case hcd => k_is
  case hb => (intro s9 X9; first | exact BindsTo.of_eq rfl | exact binds_K X9 rfl (by k_is) rfl rfl rfl)
  case hc => exact rfl
  intro L9 V9 c9 σ9
  k_extra "r go"
  refine' k_compSI (fun k y => ∃ t, y = .int (gly (k : Int)) t) (by omega) ?turn ?done
  case turn =>
    intro kc tc C8 c8
    k_with "r call" => ((fail_if_success (k_extra "off N24")); (first
      | ((with_reducible refine' r_getS2 ?za hK9 lo9 ?_); (case za => k_extra "r mem"))
      | k_extra "r leaf"))
    k_with "r leaf" => ((fail_if_success (k_extra "off N24")); (((with_reducible refine' r_mGet ?za hK9 ?_); (case za => k_extra "r mem"))))
    k_extra "r go"
    exact ⟨glySign, wk_im1⟩
  intro gvs ig G σ9
  have ig : IntsIn gvs (glys xs) := gly_ints ig
  have hgl : gvs.length ≤ 3 := by rw [ig.length]; unfold glys; rw [List.length_map]; exact hx
  k_extra "r go"
  (rename (_ = (1000 : Int) ∨ _ = (2048 : Int)) => hu1)
  obtain ⟨u0, u1, c1, sbz⟩ := hz.2 _ hu1
  have bz := hz.1
  k_extra "r go"
  have sb : ScB s := by rw [es]; exact sbz
  have np := sb.lo
  have np' := sb.hi
  have bs : (s.den : Int) < 2 ^ 62 := sb.den.out (by decide)
  have bsh : ∀ b : Int, Bd 24 (shiftQ a (lawAll as v (glys xs)).2 + (b : Rat)) := fun b => (shiftB.add Bd.int).le (by decide)
  have bsi : ((shiftQ a (lawAll as v (glys xs)).2).den : Int) < 2 ^ 62 := shiftB.out (by decide)
  have bqq : (p.den : Int) < 2 ^ 62 := bp.out (by decide)
  have bsw : ((shiftQ a (lawAll as v (glys xs)).2 + ((lawAll as v (glys xs)).2 : Rat)).den : Int) < 2 ^ 62 := (shiftB.add Bd.int).out (by decide)
  have bsx : ((s * (shiftQ a (lawAll as v (glys xs)).2 + ((lawAll as v (glys xs)).2 : Rat))).den : Int) < 2 ^ 62 := (sb.den.mul (shiftB.add Bd.int)).out (by decide)
  have hlq := law_len as v (glys xs)
  have hds := dsOK_of hdl hPt
  have hlen : (letsFrom as v 0 (glys xs)).length = gvs.length := by rw [letsFrom_length, ig.length]
  refine' k_forEI (D := D9) ⟨σ9.m, σ9.cm, σ9.mt.tail, σ9.im⟩ (fun i v l => i < 4 ∧ (∃ t, v = .int l.1 t) ∧ (∃ t, bvs[i]? = some (.int l.2.2 t)) ∧ 0 ≤ l.1 ∧ l.1 < 4) (fun l => lawL p q s (shiftQ a (lawAll as v (glys xs)).2 + (l.2.2 : Rat)) (six ds l.1)) (bs := letsFrom as v 0 (glys xs)) ?hL ?hw hlen.symm ?hA ?turn2 ?done2
  case hL => k_extra "r memI"
  case hw => exact due0 rfl rfl
  case hA =>
    intro j u l hj hl
    obtain ⟨e1, -, e3⟩ := lets_at hl
    have := glys_at e1
    exact ⟨by have := (List.getElem?_eq_some_iff.mp hj).1; omega, ig.at hj e1, ints_at iB e3, this.1, this.2⟩
  case turn2 =>
    rintro i u ⟨g, ad, b⟩ ⟨hi, ⟨t1, rfl⟩, ⟨t2, e2⟩, g0, g4⟩ zs n tl hzs c8 t8
    obtain ⟨vg, eg, hvg⟩ := dat_at g.toNat dO (hds g g0 g4)
    dsimp only
    k_with "r leaf" => ((fail_if_success (k_extra "off N24")); (first
      | ((with_reducible refine' r_itemAt ?za ?zb ?ze ?zf ?zg ?_); (case za => k_extra "r mem"); (case zb => with_reducible assumption); (case ze => omega); (case zf => with_reducible assumption); (case zg => exact rfl))
      | ((with_reducible refine' r_itemAt ?za ?zb ?ze ?zf ?zg ?_); (case za => k_extra "r mem"); (case zb => omega); (case ze => omega); (case zf => rw [Int.toNat_natCast]; exact e2); (case zg => exact rfl))
      | ((with_reducible refine' r_extend ?za ?zb ?ze ?zf ?zg ?_); (case za => k_extra "r mem"); (case ze => k_extra "r rep"); (case zb => exact rfl); (case zf => exact x7); (case zg => exact x8); intro σ9)))
    k_extra "r go"

    exact ⟨rfl, _, _, tl9, x6, d9, wk_due3⟩
  case done2 =>
    intro A9 B9 zs nz tlz hZ
    k_extra "r go"
    refine' k_compVI (R := fun v (l : Int × Int × Int) => LetIn w tlT v l.1 l.2.1 l.2.2) letD ?hL3 aT ?hz3 ?turn3 ?done3
    case hL3 => k_extra "r memI"
    case hz3 => rw [aT.length, hlen]; omega
    case turn3 =>
      rintro vl ⟨g, ad, b⟩ ⟨Xl, Dl, nl, y1, y2, y3, y4, y5, y6, rfl, m1, m2⟩ tl C8 c8
      k_extra "r go"
      exact ⟨_, letT, wk_adds1⟩
    case done3 =>
    intro ys tlY hY DY σ9
    k_extra "r go"
    refine' k_compEI (fun i v (l : Int × Int × Int) => i < 4 ∧ (∃ t, v = .int l.1 t) ∧ (∃ t, bvs[i]? = some (.int l.2.2 t)) ∧ (∃ t, va[l.1.toNat]? = some (.int l.2.1 t)) ∧ 0 ≤ l.1 ∧ l.1 < 4) letD (bs := letsFrom as v 0 (glys xs)) ?hL4 hlen.symm ?hA4 ?hz4 ?turn4 ?done4
    case hL4 => k_extra "r memI"
    case hz4 => omega
    case hA4 =>
      intro j u l hj hl
      obtain ⟨e1, e2, e3⟩ := lets_at hl
      have := glys_at e1
      exact ⟨by have := (List.getElem?_eq_some_iff.mp hj).1; omega, ig.at hj e1, ints_at iB e3, e2 ▸ adv_get iA hal this.1 this.2, this.1, this.2⟩
    case turn4 =>
      rintro i u ⟨g, ad, b⟩ ⟨hi, ⟨t1, rfl⟩, ⟨t2, e2⟩, ⟨t3, e3⟩, g0, g4⟩ t8 tl C8 c8
      dsimp only
      k_extra "r go"
      exact ⟨_, letT, wk_adds1⟩
    case done4 =>
    intro ys2 tl2 hY2 D2 σ9
    k_extra "r go"
    refine' ⟨[_], _, rfl, rfl, _, _, rfl, by with_reducible assumption, mono4 _ _ _ ?hs hTF, rfl⟩
    case hs => exact List.forall_mem_append.mpr ⟨fun _ h => List.mem_append_left _ h, fun p hp => List.mem_append_right _ (List.mem_append_right _ ((by k_extra "r segF" : ∀ p ∈ tlF, p ∈ St.fl σ9) p hp))⟩
theorem off_N24 : True := by
  k_with "off N24" => skip
  exact trivial
end N24
section P6
theorem law_pool_spec (w : World) {l : Addr} {vals : List Value} {ns : List Int} {news : Led} {t1 : Tok} : ∀ (mean : ExcName → Option Value) (mg mb : Str → Option Value) (dp un : Nat) (gd : Option (List Code)) (cn : Str) (cs : Scope) (a : Addr) (ccd : Value) (cl : List (Str × Addr)) (outer : List Env) (A₀ : Around) (base h₀ : Heap) (L : Addr) (m : Str → Option Value) (s : Shared) (Q E : Value → Shared → Prop),
    base.IsList l vals.toArray → IntsAre vals ns → ¬ (63 : Nat) < ns.length → Below A₀ base outer h₀ → Fr h₀ L s.heap m → (hd.heap_39 w.params).In h₀ → News h₀ L s.heap news → Top topProg vG mean mg mb h₀ → cs.kind = .function → dp + 1 < recursionLimit → un + 16 < cLine →
    (∀ (S : Addr) (o : Obj) (h' : Heap) (tk' : Nat), Fr h₀ L h' m → News h₀ L h' ((S, o) :: news) → (∀ p ∈ news, p.1 < S) → SrcObj S o → Q (.ref S) { s with heap := h', toks := tk' }) →
    wpAny (model PySem.Challenge.rw_on0243_01.row.prog w) (ktrTop dp un gd cn cs L a ccd cl outer) (call (.ref 399) [.ref l, .int 0 t1]) Q E s := by
  k_fill
  intro mean mg mb dp un gd cn cs ad ccd cl outer A₀ base h₀ L m s Q E hL hI hlen B F X N T hk hd hu hret
  have hvl : vals.length = ns.length := hI.length
  refine wpAny_call ?_
  k_dflt (refine' code_def ?k1 ?k2 ?k3 ?k4 ?k5 ?kA ?kF ?kK ?k6 ?k7 ?k8 ?k9 ?kB ?_ ?c2 ?c3 ?c4 ?c5; (case kA => exact rfl); (case kF => exact rfl); (case kK => first | exact rfl | assumption); (case k1 => k_asm); (case k2 => k_asm); (case k3 => k_asm); (case k4 => k_asm); (case k5 => k_asm); (case k6 => k_is); (case k7 => k_is); (case k8 => ktr_room); (case k9 => first | exact BindsTo.of_eq rfl | exact binds_K (by k_in) rfl (by k_is) rfl rfl rfl); (case c5 => decide); (case kB => exact locs rfl); (case c2 => exact rfl); (case c3 => exact rfl); (case c4 => exact rfl); k_whole; intro g' L' h' FG' F' N' B' X' T'; (try dsimp only); (try k_lift B'); (try k_fold))
  k_steps
  all_goals (refine hret _ _ _ _ (by assumption) (by assumption) (by assumption) (srcObj (Int.fmod_nonneg_of_pos _ (by decide)) (Int.fmod_lt_of_pos _ (by decide))))
end P6
section R24
section
variable {V : Vis} {c : Ctx V} {σ : St}
theorem r_pool {l : Addr} {vals : List Value} {ns : List Int} {t1 : Tok} {Q : Value → St → Prop} (hL : c.base.IsList l vals.toArray) (hI : IntsAre vals ns) (hlen : ¬ (63 : Nat) < ns.length) (hd : Nat.ble 1 V.D = true) (hu : Nat.ble 16 V.U = true)
    (h : ∀ S o, SrcObj S o → (∀ p ∈ σ.mt, @Ne Nat p.1 S) → let σ' := σ.mut S o; Q (.ref S) σ') : Run c σ (call (.ref 399) [.ref l, .int 0 t1]) Q := fun s I => by
  have X := I.X
  have T := I.T
  obtain ⟨ce, I⟩ := I
  have h1 := c.hd
  have h2 := c.hu
  have h3 := Nat.le_of_ble_eq_true hd
  have h4 := Nat.le_of_ble_eq_true hu
  refine law_pool_spec V.w c.mean c.mg c.mb c.dp c.un c.gd V.cn V.cs V.a V.ccd V.cl c.outer c.A₀ c.base c.g V.L σ.m s _ c.E hL hI hlen c.B I.F X I.N T c.hk (by omega) (by omega) fun S o h' tk' F' N' lt hS => ?_
  have off : ∀ p ∈ c.hid ++ (ce ++ (σ.mt ++ (σ.fl ++ V.nd))), p.1 ≠ S := fun p hp => Nat.ne_of_lt (lt p hp)
  exact ⟨_, I.mut (h' := h') (k := tk') F' N' off, h S o hS fun p hp => off p (List.mem_append_right _ (List.mem_append_right _ (List.mem_append_left _ hp)))⟩
theorem r_gm2d {f : Addr} {D U : Nat} {vs : List Value} {need : Led} {Post : Value → Led → Led → Prop} {S P : Addr} {o oP : Obj} {mt1 mt' : Obj → Obj → Led} {Q : Value → St → Prop} (G : (∀ p ∈ [(S, o), (P, oP)], ∀ q ∈ need, p.1 ≠ q.1) → GM V.w f D U vs [(S, o), (P, oP)] need Post) (u : ∀ o' oP', Rep S o o' σ.mt (mt1 o' oP')) (u2 : ∀ o' oP', Rep P oP oP' (mt1 o' oP') (mt' o' oP')) (hSP : S ≠ P) (hP : (P, oP) ∈ σ.mt) (hn : ∀ p ∈ need, p ∈ σ.fl ++ V.nd) (hd : Nat.ble D V.D = true) (hu : Nat.ble U V.U = true)
    (h : ∀ r o' oP' tl, Post r [(S, o'), (P, oP')] tl → let σ' := (σ.chg (mt' o' oP')).add tl; Q r σ') : Run c σ (call (.ref f) vs) Q := fun s I => by
  refine r_gm2 (G ?_) u u2 hSP hP hn hd hu h s I
  obtain ⟨ce, I⟩ := I
  have key : ∀ p ∈ σ.mt, ∀ q ∈ need, p.1 ≠ q.1 := fun p hp q hq => I.S.2 p (List.mem_append_right _ (List.mem_append_right _ hp)) q (hn q hq)
  intro p hp
  rcases List.mem_cons.mp hp with rfl | hp
  · exact key _ (u o oP).mem
  · rw [List.mem_singleton.mp hp]; exact key _ hP
abbrev KSlS (i : Int) (Q : Value → St → Prop) : Value → St → Prop := fun v σ => ∃ y t, v = .str y t ∧ y.length ≤ 1000 ∧ ∀ t, Q (.str (Txt.slice y none (some i)) t) σ
theorem r_slS {x : Str} {xp p : Pos} {i : Int} {k : Nat} {ip pos : Pos} {Q : Value → St → Prop} (h : Run c σ (eval (.Name x xp) V.env) (KSlS i Q)) : Run c σ (eval (.Subscript (.Name x xp) (.Slice none (some (.Constant (.int i) k ip)) none p) pos) V.env) Q := fun s I =>
  Subscript_ (h.on I fun o σ₁ s₁ I₁ h₁ => by
    obtain ⟨y, t, rfl, hz, h₁⟩ := h₁
    obtain ⟨ce, I₁⟩ := I₁
    refine wpAny_Slice (evalPart_none_step (evalPart_some_step (wpAny_Constant_int (evalPart_none_step ?_))))
    exact slice_strN_ns (s := { s₁ with toks := s₁.toks + 1 }) I₁.F I₁.N (fun h' t' k F' N' => ⟨σ₁, Inv.same (s := { s₁ with toks := s₁.toks + 1 }) (I₁.keeps I₁.F I₁.N rfl rfl rfl) F' N', h₁ t'⟩) rfl (fun _ => rfl) (by rw [sizeLine_eq]; omega))
theorem k_slS {y : Str} {t : Tok} {i : Int} {Q : Value → St → Prop} (hz : y.length ≤ 1000) (h : ∀ t, Q (.str (Txt.slice y none (some i)) t) σ) : KSlS i Q (.str y t) σ := ⟨y, t, rfl, hz, h⟩
theorem r_addS {x y z : Str} {t u : Tok} {Q : Value → St → Prop} (e : x ++ y = z) (hz : x.length + y.length ≤ 1000) (h : ∀ t, Q (.str z t) σ) : Run c σ (binaryOp .Add (.str x t) (.str y u)) Q := fun s I => by
  subst e
  exact add_str (fun t' tk => ⟨σ, I.toks, h t'⟩) (by rw [sizeLine_eq]; omega)
theorem r_joinG {x y : Str} {t : Tok} {D : Addr} {ys : List Value} {ws : List Str} {n : Nat} {Q : Value → St → Prop} (hm : Has V σ (D, listOf ys.toArray n)) (hs : StrsAre ys ws) (hl : (ws.map (·.length)).sum + ws.length * x.length ≤ 16777216) (e : Txt.join x ws = y) (h : ∀ t, Q (.str y t) σ) : Run c σ (call (.builtin "str.join") [.str x t, .ref D]) Q := fun s I => by
  subst e
  obtain ⟨ce, I⟩ := I
  exact join_list (items := ys.toArray) ⟨_, hm.get I, rfl, n, rfl⟩ hs hl fun t' k => ⟨σ, Inv.toks ⟨ce, I⟩, h t'⟩
theorem cmpR_ind {scope : Scope} {cl : List (Str × Addr)} {x : Str} {elt : PySem.Expr} {m : Str → Option Value} {Q : List Value → St → Prop} {J : Type} {P : Value → Prop} {N : Nat} (τ : J → St) (hm : ∀ j, (τ j).m = m)
    (turn : ∀ (j : J) (a : Int) (t : Tok) (C : Addr) (c : Ctx (V.comp scope cl C [(x, .int a t)])), Run c (τ j) (eval elt (V.comp scope cl C [(x, .int a t)]).env) (fun y σ₁ => P y ∧ ∃ j', Wk (τ j') σ₁)) (done : ∀ (j : J) ys, ys.length = N → (∀ y ∈ ys, P y) → Q ys (τ j)) :
    ∀ (n : Nat) (a : Int) (ys : List Value) (j : J), ys.length + n = N → (∀ y ∈ ys, P y) → CmpL V scope cl x elt m none Q (itmR a n) ys (τ j)
  | 0, a, ys, j, e, h => done j ys e h
  | n + 1, a, ys, j, e, h => fun t C c => Run.weak ((turn j a t C c).mono fun y σ₁ ⟨hP, j', hw⟩ => ⟨τ j', hw, hm j', fun _ hp => (nomatch hp), cmpR_ind τ hm turn done n (a + 1) (ys ++ [y]) j' (by rw [List.length_append, List.length_singleton]; omega) fun z hz => by
      rcases List.mem_append.mp hz with hz | hz
      · exact h z hz
      · rw [List.mem_singleton.mp hz]; exact hP⟩)
theorem k_compRI {scope : Scope} {cl : List (Str × Addr)} {x : Str} {elt : PySem.Expr} {m : Str → Option Value} {Q : List Value → St → Prop} {J : Type} {R : Addr} {n : Int} {t u v : Tok} (P : Value → Prop) (τ : J → St) (j : J) (hR : (R, rngO n t u v) ∈ (τ j).fl ++ V.nd) (hz : -1000 ≤ n ∧ n ≤ 1000) (hm : ∀ j, (τ j).m = m)
    (turn : ∀ (j : J) (a : Int) (t : Tok) (C : Addr) (c : Ctx (V.comp scope cl C [(x, .int a t)])), Run c (τ j) (eval elt (V.comp scope cl C [(x, .int a t)]).env) (fun y σ₁ => P y ∧ ∃ j', Wk (τ j') σ₁)) (done : ∀ (j : J) ys, ys.length = n.toNat → (∀ y ∈ ys, P y) → Q ys (τ j)) : KComp V scope cl x elt m Q (.ref R) (τ j) :=
  ⟨hm j, _, _, .rng hR hz rfl, cmpR_ind τ hm turn done n.toNat 0 [] j (by simp) (fun _ h => nomatch h)⟩
end
def LawK (f : Flow) (σ : St) : Prop := f = .ret (.bool true) ∧ ∃ ps ps', (460, tabObj ps) ∈ σ.mt ∧ (436, tabObj ps') ∈ σ.mt
theorem law_entry {w : World} {mean : ExcName → Option Value} {mg mb : Str → Option Value} {dp un D U : Nat} {gd : Option (List Code)} {cn : Str} {scope : Scope} {L a : Addr} {ccd : Value} {outer : List Env} {A₀ : Around} {base g h₁ : Heap} {tk : Nat} {E : Value → Shared → Prop} {Q : Flow → Shared → Prop} {s : Shared} {m cm : Str → Option Value} {body : List Stmt} {cells mt0 : Led}
    (B : Below A₀ base outer g) (BO : BaseOK w mean mg mb base) (hc : (decide (scope.kind = .function) && scope.names.all (fun x => !decide (x.2 = .free)) && Nat.blt 0 D && Nat.blt 0 U) = true) (hd : dp + D < recursionLimit) (hu : un + U < cLine) (F : Fr g L h₁ m) (Y : CellsAre cm (cellsFrom (L + 1) scope.names []) cells) (N : News g L h₁ (cells ++ mt0)) (hnm : (mt0.map (·.1)).Nodup) (l : ∀ p ∈ mt0, p.1 < L)
    (P : PassesOwn (model rprog w) (ktrTop dp un gd cn scope L a ccd (cellsFrom (L + 1) scope.names []) outer) (envX cn scope L a ccd (cellsFrom (L + 1) scope.names [])) E)
    (h : let V : Vis := ⟨w, D, U, cn, scope, L, a, ccd, cellsFrom (L + 1) scope.names [], [], []⟩; ∀ c : Ctx V, c.base = base → let σ : St := ⟨m, cm, mt0, []⟩; Run c σ (execs body V.env) LawK)
    (fin : ∀ (h' : Heap) (tk' : Nat) (m' : Str → Option Value) ps ps', Fr g L h' m' → News g L h' [(460, tabObj ps), (436, tabObj ps')] → Q (.ret (.bool true)) { s with heap := h', toks := tk' }) :
    wpAny (model rprog w) (ktrTop dp un gd cn scope L a ccd (cellsFrom (L + 1) scope.names []) outer) (execs body (envX cn scope L a ccd (cellsFrom (L + 1) scope.names []))) Q E { s with heap := h₁, toks := tk } := by
  simp only [Bool.and_eq_true, decide_eq_true_eq] at hc
  obtain ⟨⟨⟨c4, c5⟩, c6⟩, c7⟩ := hc
  let V : Vis := ⟨w, D, U, cn, scope, L, a, ccd, cellsFrom (L + 1) scope.names [], [], []⟩
  let c : Ctx V := { mean, mg, mb, dp, un, gd, outer, A₀, base, g, E, s₀ := s, hid := [], BO, B, hk := c4, hd, hu, P := fun _ => P }
  have hk2 : cells.map (·.1) = (cellsFrom (L + 1) scope.names []).map (·.2) := cellsAre_keys Y
  have hgt : ∀ p ∈ cells, L < p.1 := fun p hp => by
    have : p.1 ∈ (cellsFrom (L + 1) scope.names []).map (·.2) := hk2 ▸ List.mem_map_of_mem hp
    obtain ⟨q, hq, e⟩ := List.mem_map.mp this
    rcases cellsFrom_ge _ _ _ q hq with h | h
    · cases h
    · rw [← e]; exact h
  have I : InvC c ⟨m, cm, mt0, []⟩ cells { s with heap := h₁, toks := tk } := by
    refine ⟨F, fun p hp => N p ?_, fun x a hx => ?_, ⟨?_, fun p hp q hq => (nomatch hq)⟩, (fun _ h => nomatch h), (fun _ h => nomatch h), rfl, rfl, rfl⟩
    · have hp : p ∈ cells ++ (mt0 ++ []) := hp
      rw [List.append_nil] at hp
      exact hp
    · have hf : ¬ (V.fenv.kindOf x = some .free) := fun e => by
        have e : scope.names.lookup x = some .free := e
        have := List.all_eq_true.mp c5 _ (lookup_mem e)
        simp at this
      rw [if_neg hf]
      exact cellsAre_mem Y x a (lookup_mem hx)
    · show ((cells ++ mt0).map (·.1)).Nodup
      rw [List.map_append, List.nodup_append]
      refine ⟨hk2 ▸ cells_nodup, hnm, fun a ha b hb e => ?_⟩
      obtain ⟨p, hp, rfl⟩ := List.mem_map.mp ha
      obtain ⟨q, hq, rfl⟩ := List.mem_map.mp hb
      have h1 := hgt p hp
      have h2 := l q hq
      rw [e] at h1
      exact absurd h1 (Nat.lt_asymm h2)
  refine wpAny_mono (h c rfl _ ⟨_, I⟩) (fun fl s' hq => ?_) fun _ _ e => e
  obtain ⟨σ', ⟨ce, J⟩, rfl, ps, ps', m1, m2⟩ := hq
  have e := eqS (s := s) J.R ⟨rfl, rfl, rfl⟩
  rw [e]
  refine fin _ _ _ ps ps' J.F fun p hp => ?_
  have key : ∀ p ∈ σ'.mt, p ∈ c.hid ++ (ce ++ (σ'.mt ++ (σ'.fl ++ V.nd))) := fun p hp => List.mem_append_right _ (List.mem_append_right _ (List.mem_append_left _ hp))
  rcases List.mem_cons.mp hp with rfl | hp
  · exact J.N _ (key _ m1)
  · rw [List.mem_singleton.mp hp]; exact J.N _ (key _ m2)
end R24
section N25
theorem sign4_mem {v : Value} {t1 t2 t3 t4 : Tok} (h : v ∈ [.str (Str.ofString "a") t1, .str (Str.ofString "b") t2, .str (Str.ofString " ") t3, .str (Str.ofString "z") t4]) : ∃ c t, v = .str ⟨#[c]⟩ t := by
  simp only [List.mem_cons, List.not_mem_nil, or_false] at h
  rcases h with rfl | rfl | rfl | rfl
  · exact ⟨97, _, rfl⟩
  · exact ⟨98, _, rfl⟩
  · exact ⟨32, _, rfl⟩
  · exact ⟨122, _, rfl⟩
theorem join_signs {cs : List Nat} (h : cs.length ≤ 2) : Txt.join (Str.ofString "") (cs.map fun c => (⟨#[c]⟩ : Str)) = ⟨cs.toArray⟩ := by
  match cs, h with
  | [], _ => rfl
  | [a], _ => rfl
  | [a, b], _ => rfl
theorem join_room {cs : List Nat} (h : cs.length ≤ 2) : ((cs.map fun c => (⟨#[c]⟩ : Str)).map (·.length)).sum + (cs.map fun c => (⟨#[c]⟩ : Str)).length * (Str.ofString "").length ≤ 16777216 := by
  match cs, h with
  | [], _ => decide
  | [a], _ => exact Nat.le_of_ble_eq_true rfl
  | [a, b], _ => exact Nat.le_of_ble_eq_true rfl
theorem slice_ab (cs : List Nat) (h : cs.length ≤ 2) : Str.ofString "ab" ++ Txt.slice ⟨cs.toArray⟩ none (some 1) = ⟨(97 :: 98 :: cs.take 1).toArray⟩ := by
  match cs, h with
  | [], _ => rfl
  | [a], _ => rfl
  | [a, b], _ => rfl
theorem startend_mem {v : Value} {t1 t2 : Tok} (h : v ∈ [.str (Str.ofString "start") t1, .str (Str.ofString "end") t2]) : ∃ a t, v = .str a t ∧ AnchOK a ∧ (a == Str.ofString "middle") = false := by
  simp only [List.mem_cons, List.not_mem_nil, or_false] at h
  rcases h with rfl | rfl
  · exact ⟨_, _, rfl, .inl rfl, by decide +kernel⟩
  · exact ⟨_, _, rfl, .inr (.inr rfl), by decide +kernel⟩
theorem base_ok {w : World} {mean : ExcName → Option Value} {mg mb : Str → Option Value} {base : Heap} (X : (hd.heap_39 w.params).In base) (T : Top topProg vG mean mg mb base) (c1 : CodeHd base 438 436) (c2 : CodeHd base 464 460) : BaseOK w mean mg mb base := ⟨X, T, c1, c2⟩
theorem signs_strs : ∀ {ys : List Value}, (∀ y ∈ ys, ∃ c t, y = .str ⟨#[c]⟩ t) → ∃ cs : List Nat, cs.length = ys.length ∧ StrsAre ys (cs.map fun c => (⟨#[c]⟩ : Str))
  | [], _ => ⟨[], rfl, .nil⟩
  | y :: ys, h => by
    obtain ⟨c, t, rfl⟩ := h _ (.head _)
    obtain ⟨cs, h1, h2⟩ := signs_strs fun y hy => h y (.tail _ hy)
    exact ⟨c :: cs, by simp [h1], .cons _ _ h2⟩
theorem tabSt0 : TabSt [] (tabObj #[]) := .inl rfl
theorem tabStF {l : Led} {oP : Obj} (h : TabFull l oP) : TabSt l oP := .inr h
theorem anchMid : AnchOK (Str.ofString "middle") := .inr (.inl rfl)
theorem the_law : PySem.Challenge.rw_on0243_01.Holds := hd (by
  k_go0
  all_goals try k_fold
  dsimp only
  refine' law_entry (D := 14) (U := 110) (dp := 302) (un := 7) (gd := some []) (outer := []) ?B (base_ok ?zX ?zT ?z1 ?z2) ?hc ?zd ?zu ?F ?Y ?N ?hnm ?l ?P ?h ?fin
  case B => assumption
  case zX => assumption
  case zT => assumption
  case z1 => assumption
  case z2 => assumption
  case hc => exact rfl
  case zd => decide
  case zu => decide
  case F => assumption
  case Y => assumption
  case N => assumption
  case hnm => decide
  case l => (intro p9 hp9; simp only [List.mem_cons, List.not_mem_nil, or_false] at hp9; rcases hp9 with e9 | e9 <;> (subst e9; rename (_ < _ ∧ _ < _) => l9; first | exact l9.1 | exact l9.2))
  case P => passes_own
  case fin =>
    intro h8 tk8 m8 ps8 pt8 F8 N8
    k_steps
  case h =>
    intro V9 c9 hb9 σ9
    k_with "r list" => ((fail_if_success (k_extra "off N25")); (((with_reducible refine' r_newL1 ?za ?_); (case za => exact rfl); intro D9 σ9)))
    k_with "r call" => ((fail_if_success (k_extra "off N25")); (first
      | ((with_reducible refine' r_pool ?zl ?zi ?zn ?zd ?zu ?_); (case zl => (rw [hb9]; assumption)); (case zi => assumption); (case zn => (intro h8; omega)); (case zd => exact rfl); (case zu => exact rfl); intro S o9 hS9 hne σ9)
      | ((with_reducible refine' r_take ?zs ?ze ?zf ?zr ?zd ?zu ?_); (case zs => with_reducible assumption); (case ze => decide); (case zf => decide); (case zr => (intro o8; k_extra "r rep")); (case zd => exact rfl); (case zu => exact rfl); intro x9 t9 o9 l9 h9 S9 σ9)
      | ((with_reducible refine' r_one ?zs ?zt ?ze ?zr ?zd ?zu ?_); (case zs => with_reducible assumption); (case zt => k_extra "r memI"); (case ze => exact rfl); (case zr => (intro o8; k_extra "r rep")); (case zd => exact rfl); (case zu => exact rfl); intro v9 o9 hv9 hS9 σ9; first
        | (obtain ⟨c9, t9, e9⟩ := sign4_mem hv9; subst e9)
        | (obtain ⟨an, tan, ev9, han, hnm⟩ := startend_mem hv9; subst ev9))
      | k_extra "r leaf"))
    k_with "r call" => ((fail_if_success (k_extra "off N25")); (first
      | ((with_reducible refine' r_gm2d (fun hd9 => row_g _ ?zs tabSt0 hd9 ?zf hcs3 anchMid) ?zr ?zq ?zg ?zp allN ?zd ?zu ?_); (case zs => with_reducible assumption); (case zf => exact hS436); (case zg => exact hS436); (case zr => (intro o8 o7; k_extra "r rep")); (case zq => (intro o8 o7; k_extra "r rep")); (case zp => k_extra "r mt"); (case zd => exact rfl); (case zu => exact rfl); intro r9 o9 oP9 tl1 PF; obtain ⟨o2, oP2, eF, hS2, hTF, rF⟩ := PF; cases eF; subst rF; intro σ9)
      | ((with_reducible refine' r_gm2d (fun hd9 => row_g _ ?zs (tabStF hTF) hd9 ?zf hcs2 han) ?zr ?zq ?zg ?zp ?zn ?zd ?zu ?_); (case zs => with_reducible assumption); (case zf => exact hS436); (case zg => exact hS436); (case zr => (intro o8 o7; k_extra "r rep")); (case zq => (intro o8 o7; k_extra "r rep")); (case zp => k_extra "r mt"); (case zn => (show ∀ p ∈ [] ++ tl1, p ∈ _; k_extra "r segN")); (case zd => exact rfl); (case zu => exact rfl); intro r9 o9 oP9 tl3 PF; obtain ⟨o4, oP4, eF, hS4, hTF4, rF⟩ := PF; cases eF; subst rF; intro σ9)
      | ((with_reducible refine' r_gm2 (fam_g _ ?zs ?zf) ?zr ?zq ?zg ?zp allN ?zd ?zu ?_); (case zs => with_reducible assumption); (case zf => exact hS460); (case zg => exact hS460); (case zr => (intro o8 o7; k_extra "r rep")); (case zq => (intro o8 o7; k_extra "r rep")); (case zp => k_extra "r mt"); (case zd => exact rfl); (case zu => exact rfl); intro r9 o9 oP9 tl5 PF; obtain ⟨o6, ps6, eF, rF⟩ := PF; cases eF; subst rF; intro σ9)
      | k_extra "r leaf"))
    k_with "r eval" => ((fail_if_success (k_extra "off N25")); (((with_reducible refine' r_slS ?_))))
    k_with "r leaf" => ((fail_if_success (k_extra "off N25")); (first
      | ((with_reducible refine' k_slS ?zz ?_); (case zz => exact hln); intro t9)
      | ((with_reducible refine' r_addS (slice_ab _ hcs2') ?zz ?_); (case zz => exact hln2); intro t9)
      | ((with_reducible refine' r_joinG ?zm hst (join_room hcs2') (join_signs hcs2') ?_); (case zm => k_extra "r mem"); intro t9)))
    k_extra "r go"
    refine' k_compRI (J := { o // SrcObj S o }) (fun y => ∃ c t, y = .str ⟨#[c]⟩ t) (fun j => σ9.chg ((S, j.1) :: [(460, tabObj #[]), (436, tabObj #[])])) ⟨o9, S9⟩ ?hR5 ?hz5 ?hm5 ?turn5 ?done5
    case hR5 => k_extra "r memI"
    case hz5 => omega
    case hm5 => exact fun _ => rfl
    case turn5 =>
      intro j5 a5 t5 C5 c5
      have hj5 := j5.2
      k_extra "r go"
      exact ⟨⟨_, _, rfl⟩, ⟨_, by with_reducible assumption⟩, ⟨rfl, rfl, .refl _, fun _ h => .tail _ h⟩⟩
    case done5 =>
      intro j5 ys5 hl5 hs5 D5 σ9
      have hj5 := j5.2
      obtain ⟨cs, hcs, hst⟩ := signs_strs hs5
      have hcs2' : cs.length ≤ 2 := by omega
      have hcs2 : cs.length ≤ 3 := by omega
      have hcs3 : (97 :: 98 :: cs.take 1).length ≤ 3 := by
        rw [List.length_cons, List.length_cons, List.length_take]; omega
      have hln : (Str.mk cs.toArray).length ≤ 1000 := by
        show cs.toArray.size ≤ 1000
        rw [List.size_toArray]; omega
      have hln2 : (Str.ofString "ab").length + (Txt.slice ⟨cs.toArray⟩ none (some 1)).length ≤ 1000 := by
        have h1 := PyProof.Txt.length_slice_le ⟨cs.toArray⟩ none (some 1)
        have h2 : (Str.ofString "ab").length = 2 := by decide +kernel
        have h3 : (Str.mk cs.toArray).length ≤ 2 := by
          show cs.toArray.size ≤ 2
          rw [List.size_toArray]; omega
        omega
      have hS436 : S ≠ 436 := fun e => hne (436, tabObj #[]) (.tail _ (.head _)) e.symm
      have hS460 : S ≠ 460 := fun e => hne (460, tabObj #[]) (.head _) e.symm
      k_extra "r go"
      obtain ⟨f1, f2, f3, f4, f5, f6, f7, f8, eT, -⟩ := hTF4
      subst eT
      exact ⟨rfl, _, _, by k_extra "r mt", by k_extra "r mt"⟩)
theorem off_N25 : True := by
  k_with "off N25" => skip
  exact trivial
end N25
end Mine
theorem PySem.Challenge.cw_on0243_01_holds : PySem.Challenge.rw_on0243_01.Holds := by
  exact Mine.the_law
