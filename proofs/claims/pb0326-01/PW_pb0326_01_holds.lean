import PyProof.Rows.All
import Wide.All
import OpenK.AllK
import Wide.FinOn
import PySem.Challenge.RW_pb0326_01
open PySem PySem.W PyProof.Rows PySem.Spec PySem.Calls
set_option Elab.async false
set_option maxRecDepth 100000
set_option maxHeartbeats 8000000
set_option compiler.extract_closed false
section
-- OfNat gives the numeral itself here; by it the head is checked whole, not in pieces (a smaller compiled file)
local instance Mine.steps : OfNat Nat 1958 := ⟨1958⟩
open_top hd for PySem.Challenge.rw_pb0326_01
end
theorem Mine.off_A1 : True := by
  w_top off
  trivial
namespace Mine
noncomputable def Ctr (w : World) (mean : ExcName → Option Value) (mg mb : Str → Option Value) (f : Addr) (vs : List Value) (news : List (Addr × Obj)) (kd ku : Nat) (Post : Value → List (Addr × Obj) → Prop) : Prop :=
  ∀ (dp un : Nat) (gd : Option (List Code)) (cn : Str) (cs : Scope) (a : Addr) (ccd : Value) (cl : List (Str × Addr)) (outer : List Env) (A₀ : Around) (base h₀ : Heap) (L : Addr) (m : Str → Option Value) (s : Shared) (Q E : Value → Shared → Prop),
    Below A₀ base outer h₀ → Fr h₀ L s.heap m → (hd.heap_39 w.params).In h₀ → News h₀ L s.heap news → Top hd.view_39 (looseW hd.view_39 [Str.ofString "EVERYTHING", Str.ofString "HELD"]) mean mg mb h₀ → cs.kind = .function → dp + kd < recursionLimit → un + ku < cLine →
    (∀ r news' h' tk', Fr h₀ L h' m → News h₀ L h' news' → Post r news' → Q r { s with heap := h', toks := tk' }) →
    wpAny (model PySem.Challenge.pw_pb0326_01 w) (ktrTop dp un gd cn cs L a ccd cl outer) (call (.ref f) vs) Q E s
section
variable {w : World} {mean : ExcName → Option Value} {mg mb : Str → Option Value} {news : List (Addr × Obj)}
theorem Ctr.use {f : Addr} {vs : List Value} {kd ku : Nat} {Post : Value → List (Addr × Obj) → Prop}
    {dp un : Nat} {gd : Option (List Code)} {cn : Str} {cs : Scope} {a : Addr} {ccd : Value} {cl : List (Str × Addr)} {outer : List Env} {A₀ : Around} {base h₀ : Heap} {L : Addr} {m : Str → Option Value} {s : Shared} {Q E : Value → Shared → Prop}
    (B : Below A₀ base outer h₀) (F : Fr h₀ L s.heap m) (X : (hd.heap_39 w.params).In h₀) (N : News h₀ L s.heap news) (T : Top hd.view_39 (looseW hd.view_39 [Str.ofString "EVERYTHING", Str.ofString "HELD"]) mean mg mb h₀) (hk : cs.kind = .function)
    (C : Ctr w mean mg mb f vs news kd ku Post) (hdp : dp + kd < recursionLimit) (hun : un + ku < cLine)
    (ret : ∀ r news' h' tk', Fr h₀ L h' m → News h₀ L h' news' → Post r news' → Q r { s with heap := h', toks := tk' }) :
    wpAny (model PySem.Challenge.pw_pb0326_01 w) (ktrTop dp un gd cn cs L a ccd cl outer) (call (.ref f) vs) Q E s := C _ _ _ _ _ _ _ _ _ _ _ _ _ _ _ _ _ B F X N T hk hdp hun ret
end
theorem news_sub {h₀ h : Heap} {L : Addr} {news news' : List (Addr × Obj)} (N : News h₀ L h news') (hs : ∀ p ∈ news, p ∈ news') : News h₀ L h news := fun p hp => N p (hs p hp)
/-- what a scalar function leaves -/
noncomputable def Sca (news : List (Addr × Obj)) (R : Tok → Value) (r : Value) (nw : List (Addr × Obj)) : Prop := nw = news ∧ ∃ t, r = R t

theorem end_bool {news : List (Addr × Obj)} {b c : Bool} (h : c = b) : Sca news (fun _ => .bool b) (.bool c) news := ⟨rfl, 0, by rw [h]⟩
theorem end_int {news : List (Addr × Obj)} {x y : Int} {t : Tok} (h : y = x) : Sca news (fun t => .int x t) (.int y t) news := ⟨rfl, t, by rw [h]⟩

inductive Ins where
  | op (nm : Str) (a b c : Int)
  | br (nm cd : Str) (x y : Int)
noncomputable def tupO (vs : List Value) (n : Nat) : Obj := { cls := .type "tuple", data := .seq vs.toArray n }
noncomputable def regForms : List Str := ["LSL", "ASR", "ROR", "AND", "ANN", "IOR", "XOR", "ADD", "SUB", "MUL", "DIV"]
noncomputable def immForms : List Str := ["ADDI", "SUBI", "MULI", "DIVI"]
noncomputable def opNames : List Str := ["MOV", "ADD", "SUB", "MUL", "DIV", "LSL", "AND", "MOVI", "ADDI", "SUBI", "MULI", "DIVI", "MOVH", "GETH", "LDR", "LDB", "STR", "STB"]
noncomputable def regOps : List Str := ["MOV", "ADD", "SUB", "MUL", "DIV", "LSL", "AND"]
noncomputable def brNames : List Str := ["B", "BL", "BLR", "BR", "TRAP"]
noncomputable def conds : List Str := ["AL", "EQ", "LT", "NV"]
noncomputable def Ins.ok : Ins → Prop
  | .op nm a b c => nm ∈ opNames ∧ (0 ≤ a ∧ a ≤ 17) ∧ (0 ≤ b ∧ b ≤ 17) ∧ 0 ≤ c ∧ (nm ∈ regOps → c ≤ 17)
  | .br nm cd x _ => nm ∈ brNames ∧ cd ∈ conds ∧ (nm = "BLR" ∨ nm = "BR" → 0 ≤ x ∧ x ≤ 17) ∧ (nm = "TRAP" → 0 ≤ x)
noncomputable def InsAt (news : List (Addr × Obj)) (ra : Addr) : Ins → Prop
  | .op nm a b c => ∃ t1 t2 t3 t4 n, (ra, ({ cls := .type "tuple", data := .seq #[.str nm t1, .int a t2, .int b t3, .int c t4] n } : Obj)) ∈ news
  | .br nm cd x y => ∃ t1 t2 t3 t4 n, (ra, ({ cls := .type "tuple", data := .seq #[.str nm t1, .str cd t2, .int x t3, .int y t4] n } : Obj)) ∈ news

theorem InsAt.mono {news news' : List (Addr × Obj)} {ra : Addr} : ∀ {r : Ins}, InsAt news ra r → (∀ p ∈ news, p ∈ news') → InsAt news' ra r
  | .op .., h, hs => h.imp fun _ h => h.imp fun _ h => h.imp fun _ h => h.imp fun _ h => h.imp fun _ h => hs _ h
  | .br .., h, hs => h.imp fun _ h => h.imp fun _ h => h.imp fun _ h => h.imp fun _ h => h.imp fun _ h => hs _ h
noncomputable def fallsB (nm cd : Str) (x y : Int) : Bool := if (nm == "B" || nm == "BR") = true then cd != "AL" else if (nm == "TRAP" && cd == "AL") = true then (x == 0 && y != 9) else true
noncomputable def Ins.falls : Ins → Bool
  | .op .. => true
  | .br nm cd x y => fallsB nm cd x y
noncomputable def Ins.isBr : Ins → Bool
  | .op .. => false
  | .br .. => true
noncomputable def Ins.isB : Ins → Bool
  | .op .. => false
  | .br nm _ _ _ => nm == "B"
noncomputable def Ins.jumps : Ins → Bool
  | .op .. => false
  | .br _ cd _ _ => cd != "NV"
noncomputable def Ins.off : Ins → Int
  | .op .. => 0
  | .br _ _ x _ => x
noncomputable def Ins.isBR : Ins → Bool
  | .op .. => false
  | .br nm _ x _ => nm == "BR" && x != 15
/-- a way leaves the rows -/
noncomputable def unk (r : Ins) (i n : Int) : Bool := r.isBR || (r.isB && !(decide (0 ≤ i + 1 + r.off) && decide (i + 1 + r.off < n))) || (r.falls && decide (n ≤ i + 1))
noncomputable def condB (cd : Str) : Bool := cd != "AL" && cd != "NV"
noncomputable def Ins.setsF : Ins → Bool
  | .op nm _ _ _ => (["MOV", "MOVI", "MOVH", "GETH"] : List Str).any (· == nm) || regForms.any (· == nm) || immForms.any (· == nm)
  | .br .. => false
noncomputable def memO (nm : Str) (a b : Int) : Int := if (nm == "STR" || nm == "STB") = true then Builtin.bitOr (2 ^ b.toNat) (2 ^ a.toNat) else 2 ^ b.toNat
noncomputable def Ins.mem : Ins → Int
  | .op nm a b _ => memO nm a b
  | .br .. => 0
noncomputable def readsO (nm : Str) (a b c : Int) : Int :=
  if ((["LDR", "LDB", "STR", "STB"] : List Str).any (· == nm)) = true then memO nm a b
  else if (nm == "MOV") = true then 2 ^ c.toNat
  else if (nm == "GETH") = true then 65536
  else if (regForms.any (· == nm)) = true then Builtin.bitOr (2 ^ b.toNat) (2 ^ c.toNat)
  else if (immForms.any (· == nm)) = true then 2 ^ b.toNat else 0
noncomputable def readsB (nm cd : Str) (x : Int) : Int :=
  let m0 : Int := if condB cd = true then 131072 else 0
  let m1 : Int := if (nm == "BL" || nm == "BLR" || (nm == "TRAP" && x == 0)) = true then Builtin.bitOr m0 26624 else m0
  let m2 : Int := if (nm == "BLR" || nm == "BR") = true then Builtin.bitOr m1 (2 ^ x.toNat) else m1
  if (nm == "BR" && x == 15) = true then Builtin.bitOr (Builtin.bitOr m2 26624) 1 else m2
noncomputable def Ins.reads : Ins → Int
  | .op nm a b c => readsO nm a b c
  | .br nm cd x _ => readsB nm cd x
noncomputable def writesO (nm : Str) (a : Int) (sf : Bool) : Int :=
  if (nm == "LDR" || nm == "LDB") = true then 2 ^ a.toNat
  else if sf = true then
    (if ((["MUL", "MULI", "DIV", "DIVI"] : List Str).any (· == nm)) = true then Builtin.bitOr (Builtin.bitOr (2 ^ a.toNat) 131072) 65536 else Builtin.bitOr (2 ^ a.toNat) 131072)
  else 0
noncomputable def writesB (nm cd : Str) (x y : Int) : Int :=
  if (nm == "BL" || nm == "BLR") = true then (if (cd == "AL") = true then 235519 else 0)
  else if (nm == "TRAP") = true then (if (cd == "AL" && x == 0 && y == 2) = true then 1 else 0)
  else 0
noncomputable def Ins.writes : Ins → Int
  | .op nm a b c => writesO nm a (Ins.setsF (.op nm a b c))
  | .br nm cd x y => writesB nm cd x y
theorem op_not : ∀ nm ∈ opNames, (nm == ("B" : Str)) = false ∧ (nm == ("BR" : Str)) = false ∧ (nm == ("BL" : Str)) = false ∧ (nm == ("BLR" : Str)) = false ∧ (nm == ("TRAP" : Str)) = false ∧ ((["B", "BL", "BR", "BLR", "TRAP"] : List Str).any (· == nm)) = false := by decide
theorem setsF_br (nm cd : Str) (x y : Int) : (Ins.br nm cd x y).setsF = false := rfl
theorem falls_op (nm : Str) (a b c : Int) : (Ins.op nm a b c).falls = true := rfl
theorem reg_of : ∀ nm ∈ opNames, ((nm == ("MOV" : Str)) = true ∨ (regForms.any (· == nm)) = true) → nm ∈ regOps := by decide
theorem c_low (nm : Str) (c : Int) (hn : nm ∈ opNames) (h : nm ∈ regOps → c ≤ 17) : ((nm == ("MOV" : Str)) = true ∨ (regForms.any (· == nm)) = true) → c ≤ 17 := fun q => h (reg_of nm hn q)
theorem c_l {p q : Bool} {c : Int} (h : p = true ∨ q = true → c ≤ 17) (hp : p = true) : c ≤ 17 := h (.inl hp)
theorem c_r {p q : Bool} {c : Int} (h : p = true ∨ q = true → c ≤ 17) (hp : q = true) : c ≤ 17 := h (.inr hp)
theorem br_low (nm : Str) (x : Int) (h : nm = "BLR" ∨ nm = "BR" → 0 ≤ x ∧ x ≤ 17) : ((nm == ("BLR" : Str)) || (nm == ("BR" : Str))) = true → 0 ≤ x ∧ x ≤ 17 := fun q => h (by simpa using q)
theorem op_all : ∀ nm ∈ opNames, nm ∈ opNames ++ brNames := fun _ h => List.mem_append.mpr (.inl h)
theorem br_all : ∀ nm ∈ brNames, nm ∈ opNames ++ brNames := fun _ h => List.mem_append.mpr (.inr h)
theorem br_not : ∀ nm ∈ brNames, (nm == ("MOV" : Str)) = false ∧ (nm == ("GETH" : Str)) = false ∧ (nm == ("LDR" : Str)) = false ∧ (nm == ("LDB" : Str)) = false ∧ (nm == ("STR" : Str)) = false ∧ (nm == ("STB" : Str)) = false ∧ (regForms.any (· == nm)) = false ∧ (immForms.any (· == nm)) = false ∧ ((["MOV", "MOVI", "MOVH", "GETH"] : List Str).any (· == nm)) = false ∧ ((["LDR", "LDB", "STR", "STB"] : List Str).any (· == nm)) = false ∧ ((["B", "BL", "BR", "BLR", "TRAP"] : List Str).any (· == nm)) = true := by decide
/-- a goal told by a name (obtain then states the name, not the goal) -/
theorem foldG {T : Prop} (h : let G : Prop := T; G) : T := h
/-- a place where the walk halts -/
noncomputable def Halt (P : Prop) : Prop := P
theorem Halt.out {P : Prop} (h : Halt P) : P := h
theorem Halt.in_ {P : Prop} (h : P) : Halt P := h
end Mine
theorem Mine.off_P1 : True := by
  w_top off
  trivial
namespace Mine
/-- bit k of an int -/
noncomputable def tb (x : Int) (k : Nat) : Bool := decide (x / 2 ^ k % 2 = 1)
theorem tb_zero (x : Int) : tb x 0 = decide (x % 2 = 1) := by simp [tb]
theorem tb_succ (x : Int) (k : Nat) : tb x (k + 1) = tb (x / 2) k := by
  unfold tb
  have : x / 2 ^ (k + 1) = x / 2 / 2 ^ k := by
    rw [Int.ediv_ediv_of_nonneg (by decide), Int.pow_succ, Int.mul_comm]
  rw [this]
theorem tb_and (k : Nat) : ∀ x y : Int, tb (Builtin.bitAnd x y) k = (tb x k && tb y k) := by
  induction k with
  | zero =>
    intro x y
    rw [tb_zero, tb_zero, tb_zero, kbt_halves x y, ← Bool.decide_and]
    apply decide_eq_decide.mpr
    split <;> omega
  | succ k ih =>
    intro x y
    rw [tb_succ, tb_succ, tb_succ, ← ih]
    have : Builtin.bitAnd x y / 2 = Builtin.bitAnd (x / 2) (y / 2) := by
      rw [kbt_halves x y]
      split <;> omega
    rw [this]
theorem tb_not (k : Nat) : ∀ x : Int, tb (Builtin.bitNot x) k = !tb x k := by
  induction k with
  | zero =>
    intro x
    have e : Builtin.bitNot x = -x - 1 := rfl
    rw [tb_zero, tb_zero, e, ← decide_not]
    apply decide_eq_decide.mpr
    omega
  | succ k ih =>
    intro x
    have e : Builtin.bitNot x = -x - 1 := rfl
    have e2 : Builtin.bitNot (x / 2) = -(x / 2) - 1 := rfl
    rw [tb_succ, tb_succ, ← ih]
    have : Builtin.bitNot x / 2 = Builtin.bitNot (x / 2) := by rw [e, e2]; omega
    rw [this]
theorem tb_or (k : Nat) (x y : Int) : tb (Builtin.bitOr x y) k = (tb x k || tb y k) := by
  unfold Builtin.bitOr
  rw [tb_not, tb_and, tb_not, tb_not]
  cases tb x k <;> cases tb y k <;> rfl
theorem tb_nil (k : Nat) : tb 0 k = false := by simp [tb]
theorem tb_pow : ∀ (a k : Nat), tb (2 ^ a) k = decide (k = a)
  | 0, 0 => by decide
  | 0, k + 1 => by rw [tb_succ, show ((2 : Int) ^ 0) / 2 = 0 by decide, tb_nil]; simp
  | a + 1, 0 => by
    rw [tb_zero]
    apply decide_eq_decide.mpr
    rw [Int.pow_succ]
    omega
  | a + 1, k + 1 => by
    rw [tb_succ, show ((2 : Int) ^ (a + 1)) / 2 = 2 ^ a by rw [Int.pow_succ]; omega, tb_pow a k]
    apply decide_eq_decide.mpr
    omega
theorem le_of_tb : ∀ (m : Nat) (x y : Int), 0 ≤ x → x < 2 ^ m → 0 ≤ y → (∀ k, k < m → tb x k = true → tb y k = true) → x ≤ y
  | 0, x, y, h0, h1, hy, _ => by
    rw [Int.pow_zero] at h1
    omega
  | m + 1, x, y, h0, h1, hy, h => by
    rw [Int.pow_succ] at h1
    have ih := le_of_tb m (x / 2) (y / 2) (by omega) (by omega) (by omega) (fun k hk hx => by
      have := h (k + 1) (by omega) (by rw [tb_succ]; exact hx)
      rwa [tb_succ] at this)
    have h2 := h 0 (by omega)
    rw [tb_zero, tb_zero, decide_eq_true_eq, decide_eq_true_eq] at h2
    omega
theorem eq_of_tb {m : Nat} {x y : Int} (h0 : 0 ≤ x) (h1 : x < 2 ^ m) (h2 : 0 ≤ y) (h3 : y < 2 ^ m) (h : ∀ k, k < m → tb x k = tb y k) : x = y :=
  Int.le_antisymm (le_of_tb m x y h0 h1 h2 fun k hk e => (h k hk) ▸ e) (le_of_tb m y x h2 h3 h0 fun k hk e => (h k hk).symm ▸ e)
/-- a mask of 18 bits -/
noncomputable def In18 (x : Int) : Prop := 0 ≤ x ∧ x < 262144
theorem or_nat (x y : Int) (hx : 0 ≤ x) (hy : 0 ≤ y) : Builtin.bitOr x y = ((x.toNat ||| y.toNat : Nat) : Int) := by
  have e1 : Builtin.bitNot x = -x - 1 := rfl
  have e2 : Builtin.bitNot y = -y - 1 := rfl
  have e3 : Builtin.bitNot (Builtin.bitNot x) = x := by show -(-x - 1) - 1 = x; omega
  have e4 : Builtin.bitNot (Builtin.bitNot y) = y := by show -(-y - 1) - 1 = y; omega
  unfold Builtin.bitOr
  rw [bitAnd_nn (show ¬ 0 ≤ Builtin.bitNot x by rw [e1]; omega) (show ¬ 0 ≤ Builtin.bitNot y by rw [e2]; omega), e3, e4]
  show -(-((x.toNat ||| y.toNat : Nat) : Int) - 1) - 1 = _
  omega
theorem In18.or {x y : Int} (hx : In18 x) (hy : In18 y) : In18 (Builtin.bitOr x y) := by
  rw [or_nat x y hx.1 hy.1]
  have h := @Nat.or_lt_two_pow x.toNat y.toNat 18 (by have := hx.2; have := hx.1; omega) (by have := hy.2; have := hy.1; omega)
  refine ⟨by omega, ?_⟩
  have e : (2 : Nat) ^ 18 = 262144 := by decide
  rw [e] at h
  omega
theorem In18.and {x y : Int} (hx : In18 x) : In18 (Builtin.bitAnd x y) := by
  have h := bitAnd_range y hx.1
  rw [bitAnd_comm] at h
  have := hx.2
  exact ⟨h.1, by omega⟩
theorem In18.pow {a : Nat} (h : a ≤ 17) : In18 (2 ^ a) := by
  have h1 := kbt_pos a
  have h2 : (2 : Nat) ^ a ≤ 2 ^ 17 := Nat.pow_le_pow_right (by decide) h
  have h3 := kbt_cast a
  have e : (2 : Nat) ^ 17 = 131072 := by decide
  rw [e] at h2
  exact ⟨by omega, by omega⟩
theorem In18.eq {x y : Int} (hx : In18 x) (hy : In18 y) (h : ∀ k, k < 18 → tb x k = tb y k) : x = y :=
  eq_of_tb (m := 18) hx.1 hx.2 hy.1 hy.2 h
theorem In18.le {x y : Int} (hx : In18 x) (hy : In18 y) (h : ∀ k, k < 18 → tb x k = true → tb y k = true) : x ≤ y :=
  le_of_tb 18 x y hx.1 hx.2 hy.1 h
theorem In18.zero : In18 0 := ⟨by decide, by decide⟩
theorem In18.all : In18 262143 := ⟨by decide, by decide⟩
theorem tb_all : ∀ k, k < 18 → tb 262143 k = true := by decide
/-- above bit 17 nothing -/
theorem In18.hi {x : Int} (h : In18 x) {k : Nat} (hk : tb x k = true) : k < 18 := by
  by_cases hh : k < 18
  · exact hh
  · exfalso
    have h2 : (2 : Nat) ^ 18 ≤ 2 ^ k := Nat.pow_le_pow_right (by decide) (by omega)
    have h3 := kbt_cast k
    have e : (2 : Nat) ^ 18 = 262144 := by decide
    rw [e] at h2
    have h4 : x / 2 ^ k = 0 := Int.ediv_eq_zero_of_lt h.1 (by have := h.2; omega)
    simp [tb, h4] at hk
theorem reads18 {r : Ins} (h : r.ok) : In18 r.reads := by
  cases r with
  | op nm a b c =>
    obtain ⟨hn, ha, hb, hc0, hc⟩ := h
    have hcl := c_low nm c hn hc
    have pa : In18 (2 ^ a.toNat) := In18.pow (by omega)
    have pb : In18 (2 ^ b.toNat) := In18.pow (by omega)
    show In18 (readsO nm a b c)
    unfold readsO memO
    split
    · split
      · exact pb.or pa
      · exact pb
    · split
      · exact In18.pow (by have := hcl (.inl (by assumption)); omega)
      · split
        · exact ⟨by decide, by decide⟩
        · split
          · exact pb.or (In18.pow (by have := hcl (.inr (by assumption)); omega))
          · split
            · exact pb
            · exact In18.zero
  | br nm cd x y =>
    obtain ⟨hn, hcd, hx, hx2⟩ := h
    show In18 (readsB nm cd x)
    unfold readsB
    have c0 : In18 (if condB cd = true then 131072 else 0) := by split <;> exact ⟨by decide, by decide⟩
    have c1 : In18 26624 := ⟨by decide, by decide⟩
    have c2 : In18 1 := ⟨by decide, by decide⟩
    generalize (if condB cd = true then (131072 : Int) else 0) = m0 at c0
    have d1 : In18 (if (nm == "BL" || nm == "BLR" || (nm == "TRAP" && x == 0)) = true then Builtin.bitOr m0 26624 else m0) := by
      split
      · exact c0.or c1
      · exact c0
    simp only []
    generalize (if (nm == "BL" || nm == "BLR" || (nm == "TRAP" && x == 0)) = true then Builtin.bitOr m0 26624 else m0) = m1 at d1
    have d2 : In18 (if (nm == "BLR" || nm == "BR") = true then Builtin.bitOr m1 (2 ^ x.toNat) else m1) := by
      split
      · rename_i hh
        have := br_low nm x hx hh
        exact d1.or (In18.pow (by omega))
      · exact d1
    generalize (if (nm == "BLR" || nm == "BR") = true then Builtin.bitOr m1 (2 ^ x.toNat) else m1) = m2 at d2
    split
    · exact (d2.or c1).or c2
    · exact d2
noncomputable def lbF (r : Ins) (a : Int) : Int := Builtin.bitOr (Builtin.bitAnd a (Builtin.bitNot r.writes)) r.reads
theorem tb_lb (r : Ins) (a : Int) (k : Nat) : tb (lbF r a) k = ((tb a k && !tb r.writes k) || tb r.reads k) := by
  unfold lbF
  rw [tb_or, tb_and, tb_not]
theorem lb18 {r : Ins} {a : Int} (h : r.ok) (ha : In18 a) : In18 (lbF r a) := ha.and.or (reads18 h)
noncomputable def joinF (u : Bool) (B : List Int) (f : List Int) : Int := f.foldl (fun acc t => Builtin.bitOr acc (B.getD t.toNat 0)) (if u = true then 262143 else 0)
theorem tb_fold (B : List Int) (k : Nat) : ∀ (f : List Int) (a : Int), tb (f.foldl (fun acc t => Builtin.bitOr acc (B.getD t.toNat 0)) a) k = (tb a k || f.any fun t => tb (B.getD t.toNat 0) k)
  | [], a => by simp
  | t :: f, a => by
    rw [List.foldl_cons, tb_fold B k f, tb_or, List.any_cons, Bool.or_assoc]
theorem fold18 {B : List Int} (hB : ∀ b ∈ B, In18 b) : ∀ (f : List Int) (a : Int), In18 a → In18 (f.foldl (fun acc t => Builtin.bitOr acc (B.getD t.toNat 0)) a)
  | [], _, h => h
  | t :: f, a, h => by
    rw [List.foldl_cons]
    refine fold18 hB f _ (h.or ?_)
    rw [List.getD_eq_getElem?_getD]
    cases e : B[t.toNat]? with
    | none => exact In18.zero
    | some b => exact hB b (List.mem_of_getElem? e)
theorem join18 {u : Bool} {B f : List Int} (hB : ∀ b ∈ B, In18 b) : In18 (joinF u B f) := fold18 hB f _ (by split <;> first | exact In18.all | exact In18.zero)
theorem tb_join (u : Bool) (B f : List Int) (k : Nat) (hk : k < 18) : tb (joinF u B f) k = (u || f.any fun t => tb (B.getD t.toNat 0) k) := by
  unfold joinF
  rw [tb_fold]
  cases u
  · simp [tb_nil]
  · simp [tb_all k hk]
end Mine
theorem Mine.off_P2 : True := by
  w_top off
  trivial
namespace Mine
/-- some way of control from i reads k before it is set anew -/
inductive Live (rs : List Ins) (fol : List (List Int)) (k : Nat) : Nat → Prop
  | rd {i : Nat} {r : Ins} (h : rs[i]? = some r) (hr : tb r.reads k = true) : Live rs fol k i
  | lost {i : Nat} {r : Ins} (h : rs[i]? = some r) (hw : tb r.writes k = false) (hu : unk r i rs.length = true) : Live rs fol k i
  | step {i j : Nat} {r : Ins} {f : List Int} (h : rs[i]? = some r) (hw : tb r.writes k = false) (hf : fol[i]? = some f) (hj : (j : Int) ∈ f) (hl : Live rs fol k j) : Live rs fol k i
structure WOk (rs : List Ins) (fol : List (List Int)) : Prop where
  ok : ∀ (i : Nat) r, rs[i]? = some r → r.ok
  lf : fol.length = rs.length
  fr : ∀ (i : Nat) f, fol[i]? = some f → ∀ t ∈ f, 0 ≤ t ∧ t < (rs.length : Int)
structure WInv (rs : List Ins) (fol : List (List Int)) (B A W : List Int) (wt : List Bool) : Prop where
  lB : B.length = rs.length
  lA : A.length = rs.length
  lT : wt.length = rs.length
  b18 : ∀ b ∈ B, In18 b
  sound : ∀ (i : Nat) b k, B[i]? = some b → k < 18 → tb b k = true → Live rs fol k i
  asc : ∀ (i : Nat) r f b, rs[i]? = some r → fol[i]? = some f → B[i]? = some b → ∀ k, k < 18 → tb b k = true → tb (lbF r (joinF (unk r i rs.length) B f)) k = true
  nodup : W.Nodup
  wIn : ∀ x ∈ W, 0 ≤ x ∧ x < (rs.length : Int)
  wtW : ∀ i : Nat, (i : Int) ∈ W ↔ wt[i]? = some true
  done : ∀ (i : Nat) r f, rs[i]? = some r → fol[i]? = some f → wt[i]? = some false → A[i]? = some (joinF (unk r i rs.length) B f) ∧ B[i]? = some (lbF r (joinF (unk r i rs.length) B f))
noncomputable def wSum (B : List Int) : Nat := (B.map fun b => (262144 - b).toNat).sum
noncomputable def wMu (B W : List Int) : Nat := 9 * wSum B + W.length
theorem wSum_set : ∀ {B : List Int} {i : Nat} {b h : Int}, B[i]? = some b → b < h → h < 262144 → wSum (B.set i h) + 1 ≤ wSum B
  | [], _, _, _, e, _, _ => by simp at e
  | b0 :: B, 0, b, h, e, h1, h2 => by
    simp only [List.getElem?_cons_zero, Option.some.injEq] at e
    subst e
    simp only [wSum, List.set_cons_zero, List.map_cons, List.sum_cons]
    omega
  | b0 :: B, i + 1, b, h, e, h1, h2 => by
    simp only [List.getElem?_cons_succ] at e
    have ih := wSum_set e h1 h2
    simp only [wSum, List.set_cons_succ, List.map_cons, List.sum_cons] at ih ⊢
    omega
theorem len_le_of_nodup {W : List Int} {n : Nat} (h : W.Nodup) (hin : ∀ x ∈ W, 0 ≤ x ∧ x < (n : Int)) : W.length ≤ n := by
  have h1 := h.length_le_of_subset (l₂ := (List.range n).map Int.ofNat) (fun x hx => by
    obtain ⟨a, b⟩ := hin x hx
    exact List.mem_map.mpr ⟨x.toNat, List.mem_range.mpr (by omega), by show ((x.toNat : Nat) : Int) = x; omega⟩)
  simpa using h1
noncomputable def stepE (p : List Int × List Bool) (e : Int) : List Int × List Bool := if p.2.getD e.toNat false = true then p else (p.1 ++ [e], p.2.set e.toNat true)
structure EOk (n : Nat) (p : List Int × List Bool) : Prop where
  nodup : p.1.Nodup
  wIn : ∀ x ∈ p.1, 0 ≤ x ∧ x < (n : Int)
  wtW : ∀ i : Nat, (i : Int) ∈ p.1 ↔ p.2[i]? = some true
  lT : p.2.length = n
theorem EOk.step {n : Nat} {p : List Int × List Bool} (h : EOk n p) {e : Int} (he : 0 ≤ e ∧ e < (n : Int)) :
    EOk n (stepE p e) ∧ ∀ i : Nat, (stepE p e).2[i]? = some true ↔ p.2[i]? = some true ∨ (i : Int) = e := by
  obtain ⟨W, wt⟩ := p
  obtain ⟨en, rfl⟩ : ∃ en : Nat, e = en := ⟨e.toNat, by omega⟩
  unfold stepE
  have hlt : en < wt.length := by have := h.lT; simp only at this; omega
  by_cases hc : wt.getD en false = true
  · simp only [Int.toNat_natCast, hc, if_true]
    refine ⟨h, fun i => ⟨.inl, ?_⟩⟩
    rintro (h1 | h1)
    · exact h1
    · have : i = en := by omega
      subst this
      rw [List.getD_eq_getElem?_getD, List.getElem?_eq_getElem hlt] at hc
      rw [List.getElem?_eq_getElem hlt]
      exact congrArg some hc
  · simp only [Int.toNat_natCast, hc, if_false, Bool.false_eq_true]
    have hno : (en : Int) ∉ W := fun hm => hc (by
      have := (h.wtW en).mp hm
      rw [List.getD_eq_getElem?_getD, this]
      rfl)
    have key : ∀ i : Nat, (wt.set en true)[i]? = some true ↔ wt[i]? = some true ∨ (i : Int) = en := by
      intro i
      by_cases hi : i = en
      · subst hi
        simp [hlt]
      · rw [List.getElem?_set_ne (Ne.symm hi)]
        constructor
        · exact .inl
        · rintro (h1 | h1)
          · exact h1
          · omega
    refine ⟨⟨?_, ?_, ?_, by simp [h.lT]⟩, key⟩
    · show (W ++ [(en : Int)]).Nodup
      rw [List.nodup_append]
      refine ⟨h.nodup, by simp, ?_⟩
      intro a ha b hb
      rw [List.mem_singleton.mp hb]
      exact fun q => hno (q ▸ ha)
    · intro x hx
      rcases List.mem_append.mp hx with hx | hx
      · exact h.wIn x hx
      · rw [List.mem_singleton.mp hx]
        exact he
    · intro i
      show (i : Int) ∈ W ++ [(en : Int)] ↔ _
      rw [key i, List.mem_append, List.mem_singleton]
      have := h.wtW i
      simp only at this
      rw [this]
theorem EOk.fold {n : Nat} : ∀ {E : List Int} {p : List Int × List Bool}, EOk n p → (∀ e ∈ E, 0 ≤ e ∧ e < (n : Int)) →
    EOk n (E.foldl stepE p) ∧ ∀ i : Nat, (E.foldl stepE p).2[i]? = some true ↔ p.2[i]? = some true ∨ (i : Int) ∈ E
  | [], p, h, _ => ⟨h, fun i => by simp⟩
  | e :: E, p, h, hE => by
    have h1 := h.step (hE e (.head _))
    have h2 := EOk.fold (E := E) h1.1 fun x hx => hE x (.tail _ hx)
    refine ⟨h2.1, fun i => ?_⟩
    rw [List.foldl_cons, h2.2 i, h1.2 i, List.mem_cons]
    constructor
    · rintro ((a | a) | a)
      · exact .inl a
      · exact .inr (.inl a)
      · exact .inr (.inr a)
    · rintro (a | a | a)
      · exact .inl (.inl a)
      · exact .inl (.inr a)
      · exact .inr a
section
variable {rs : List Ins} {fol : List (List Int)} {B A W W1 : List Int} {wt : List Bool} {i : Nat} {r : Ins} {f : List Int} {b : Int}
/-- behind the pop -/
theorem WInv.pop (H : WInv rs fol B A W wt) (hW : W = W1 ++ [(i : Int)]) : EOk rs.length (W1, wt.set i false) := by
  subst hW
  have hn := H.nodup
  rw [List.nodup_append] at hn
  have hi : (i : Int) ∉ W1 := fun h => hn.2.2 _ h _ (by simp) rfl
  have hlt : i < wt.length := by
    have := H.wIn i (by simp)
    rw [H.lT]
    omega
  refine ⟨hn.1, fun x hx => H.wIn x (List.mem_append_left _ hx), fun j => ?_, by simp [H.lT]⟩
  by_cases hj : j = i
  · subst hj
    show (j : Int) ∈ W1 ↔ (wt.set j false)[j]? = some true
    simp [hlt, hi]
  · show (j : Int) ∈ W1 ↔ (wt.set i false)[j]? = some true
    rw [List.getElem?_set_ne (Ne.symm hj), ← H.wtW j, List.mem_append, List.mem_singleton]
    constructor
    · exact .inl
    · rintro (h | h)
      · exact h
      · omega
theorem join_same {u : Bool} {h : Int} (hn : (i : Int) ∉ f) (hf : ∀ t ∈ f, 0 ≤ t) : joinF u (B.set i h) f = joinF u B f := by
  unfold joinF
  have key : ∀ (l : List Int) (a : Int), (∀ t ∈ l, t ∈ f) → l.foldl (fun acc t => Builtin.bitOr acc ((B.set i h).getD t.toNat 0)) a = l.foldl (fun acc t => Builtin.bitOr acc (B.getD t.toNat 0)) a := by
    intro l
    induction l with
    | nil => intro a _; rfl
    | cons t l ih =>
      intro a hl
      have ht := hl t (.head _)
      have e : (B.set i h).getD t.toNat 0 = B.getD t.toNat 0 := by
        rw [List.getD_eq_getElem?_getD, List.getD_eq_getElem?_getD, List.getElem?_set_ne]
        intro q
        apply hn
        have := hf t ht
        rw [show (i : Int) = t by omega]
        exact ht
      rw [List.foldl_cons, List.foldl_cons, e]
      exact ih _ fun x hx => hl x (.tail _ hx)
  exact key f _ fun _ h => h
theorem join_mono {u : Bool} {h : Int} {k : Nat} (hk : k < 18) (hb : B[i]? = some b) (hs : tb b k = true → tb h k = true) (ht : tb (joinF u B f) k = true) : tb (joinF u (B.set i h) f) k = true := by
  rw [tb_join _ _ _ _ hk] at ht ⊢
  rw [Bool.or_eq_true] at ht ⊢
  rcases ht with ht | ht
  · exact .inl ht
  · refine .inr ?_
    rw [List.any_eq_true] at ht ⊢
    obtain ⟨t, h1, h2⟩ := ht
    refine ⟨t, h1, ?_⟩
    rw [List.getD_eq_getElem?_getD] at h2 ⊢
    have hlt : i < B.length := by
      by_cases q : i < B.length
      · exact q
      · rw [List.getElem?_eq_none (by omega)] at hb; cases hb
    by_cases q : i = t.toNat
    · rw [← q] at h2 ⊢
      rw [hb] at h2
      simp only [hlt, List.getElem?_set_self, Option.getD_some] at h2 ⊢
      exact hs h2
    · rw [List.getElem?_set_ne q]
      exact h2
theorem lb_mono {a a' : Int} {k : Nat} (h : tb a k = true → tb a' k = true) (ht : tb (lbF r a) k = true) : tb (lbF r a') k = true := by
  rw [tb_lb] at ht ⊢
  simp only [Bool.or_eq_true, Bool.and_eq_true] at ht ⊢
  rcases ht with ⟨h1, h2⟩ | h1
  · exact .inl ⟨h h1, h2⟩
  · exact .inr h1
theorem lb_live (K : WOk rs fol) (H : WInv rs fol B A W wt) (hr : rs[i]? = some r) (hf : fol[i]? = some f) {k : Nat} (hk : k < 18) (ht : tb (lbF r (joinF (unk r i rs.length) B f)) k = true) : Live rs fol k i := by
  rw [tb_lb] at ht
  simp only [Bool.or_eq_true, Bool.and_eq_true, Bool.not_eq_true'] at ht
  rcases ht with ⟨h1, h2⟩ | h1
  · rw [tb_join _ _ _ _ hk, Bool.or_eq_true] at h1
    rcases h1 with h1 | h1
    · exact .lost hr h2 h1
    · rw [List.any_eq_true] at h1
      obtain ⟨t, h3, h4⟩ := h1
      have h5 := K.fr i f hf t h3
      obtain ⟨tn, rfl⟩ : ∃ tn : Nat, t = tn := ⟨t.toNat, by omega⟩
      have hlt : tn < B.length := by rw [H.lB]; omega
      rw [Int.toNat_natCast, List.getD_eq_getElem?_getD, List.getElem?_eq_getElem hlt] at h4
      exact .step hr h2 hf h3 (H.sound tn _ k (List.getElem?_eq_getElem hlt) hk h4)
  · exact .rd hr h1
/-- nothing has changed -/
theorem WInv.same (K : WOk rs fol) (H : WInv rs fol B A W wt) (hW : W = W1 ++ [(i : Int)]) (hr : rs[i]? = some r) (hf : fol[i]? = some f) (hb : B[i]? = some (lbF r (joinF (unk r i rs.length) B f))) :
    WInv rs fol B (A.set i (joinF (unk r i rs.length) B f)) W1 (wt.set i false) ∧ wMu B W1 < wMu B W := by
  have E := H.pop hW
  refine ⟨⟨H.lB, by simp [H.lA], E.lT, H.b18, H.sound, H.asc, E.nodup, E.wIn, E.wtW, ?_⟩, by subst hW; simp [wMu]⟩
  intro j r' f' hr' hf' hj
  have hlt : j < A.length := by
    rw [H.lA]
    by_cases q : j < rs.length
    · exact q
    · rw [List.getElem?_eq_none (by omega)] at hr'; cases hr'
  by_cases q : j = i
  · subst q
    rw [hr] at hr'
    rw [hf] at hf'
    cases hr'
    cases hf'
    exact ⟨by simp [hlt], hb⟩
  · rw [List.getElem?_set_ne (Ne.symm q)] at hj ⊢
    exact H.done j r' f' hr' hf' hj
/-- the row's mask has grown: those ahead of it wait -/
theorem WInv.grown (K : WOk rs fol) (H : WInv rs fol B A W wt) (hn8 : rs.length ≤ 8) (hW : W = W1 ++ [(i : Int)]) (hr : rs[i]? = some r) (hf : fol[i]? = some f) (hb : B[i]? = some b) (hne : lbF r (joinF (unk r i rs.length) B f) ≠ b)
    {E : List Int} (hE : ∀ x : Int, x ∈ E ↔ ∃ (y : Nat) (fx : List Int), x = y ∧ y < rs.length ∧ fol[y]? = some fx ∧ (i : Int) ∈ fx) :
    let p := E.foldl stepE (W1, wt.set i false)
    WInv rs fol (B.set i (lbF r (joinF (unk r i rs.length) B f))) (A.set i (joinF (unk r i rs.length) B f)) p.1 p.2 ∧ wMu (B.set i (lbF r (joinF (unk r i rs.length) B f))) p.1 < wMu B W := by
  intro p
  have hEr : ∀ e ∈ E, 0 ≤ e ∧ e < (rs.length : Int) := fun e he => by
    obtain ⟨y, _, rfl, hy, _⟩ := (hE e).mp he
    omega
  have F := EOk.fold (H.pop hW) hEr
  have hB18 := H.b18
  have ha18 : In18 (joinF (unk r i rs.length) B f) := join18 hB18
  have hh18 : In18 (lbF r (joinF (unk r i rs.length) B f)) := lb18 (K.ok i r hr) ha18
  have hb18 : In18 b := hB18 b (List.mem_of_getElem? hb)
  have hsub : ∀ k, k < 18 → tb b k = true → tb (lbF r (joinF (unk r i rs.length) B f)) k = true := fun k hk => H.asc i r f b hr hf hb k hk
  have hlt : b < lbF r (joinF (unk r i rs.length) B f) := by
    have := In18.le hb18 hh18 hsub
    omega
  have hiB : i < B.length := by
    by_cases q : i < B.length
    · exact q
    · rw [List.getElem?_eq_none (by omega)] at hb; cases hb
  have hfin : ∀ (j : Nat), p.2[j]? = some false → (wt.set i false)[j]? = some false ∧ (j : Int) ∉ E := by
    intro j hj
    have h1 := F.2 j
    have hno : ¬ (p.2[j]? = some true) := by rw [hj]; intro q; cases q
    have h2 := fun q => hno (h1.mpr q)
    refine ⟨?_, fun q => h2 (.inr q)⟩
    have hjl : j < p.2.length := by
      by_cases q : j < p.2.length
      · exact q
      · rw [List.getElem?_eq_none (by omega)] at hj; cases hj
    have hjl2 : j < (wt.set i false).length := by
      have e1 := F.1.lT
      have e2 := (H.pop hW).lT
      simp only at e2
      rw [e2, ← e1]
      exact hjl
    rw [List.getElem?_eq_getElem hjl2]
    cases hv : (wt.set i false)[j] with
    | false => rfl
    | true => exact absurd (.inl (by rw [List.getElem?_eq_getElem hjl2, hv])) h2
  refine ⟨⟨by simp [H.lB], by simp [H.lA], F.1.lT, ?_, ?_, ?_, F.1.nodup, F.1.wIn, F.1.wtW, ?_⟩, ?_⟩
  · intro x hx
    rcases List.mem_or_eq_of_mem_set hx with hx | hx
    · exact hB18 x hx
    · rw [hx]; exact hh18
  · intro j x k hx hk ht
    by_cases q : j = i
    · subst q
      rw [List.getElem?_set_self hiB] at hx
      cases hx
      exact lb_live K H hr hf hk ht
    · rw [List.getElem?_set_ne (Ne.symm q)] at hx
      exact H.sound j x k hx hk ht
  · intro j r' f' x hr' hf' hx k hk ht
    refine lb_mono (join_mono hk hb (hsub k hk)) ?_
    by_cases q : j = i
    · subst q
      rw [hr] at hr'
      rw [hf] at hf'
      cases hr'
      cases hf'
      rw [List.getElem?_set_self hiB] at hx
      cases hx
      exact ht
    · rw [List.getElem?_set_ne (Ne.symm q)] at hx
      exact H.asc j r' f' x hr' hf' hx k hk ht
  · intro j r' f' hr' hf' hj
    obtain ⟨hj1, hj2⟩ := hfin j hj
    have hjn : j < rs.length := by
      by_cases q : j < rs.length
      · exact q
      · rw [List.getElem?_eq_none (by omega)] at hr'; cases hr'
    have hif : (i : Int) ∉ f' := fun q => hj2 ((hE j).mpr ⟨j, f', rfl, hjn, hf', q⟩)
    rw [join_same hif fun t ht => (K.fr j f' hf' t ht).1]
    by_cases q : j = i
    · subst q
      rw [hr] at hr'
      rw [hf] at hf'
      cases hr'
      cases hf'
      exact ⟨by simp [H.lA, hjn], by simp [hiB]⟩
    · rw [List.getElem?_set_ne (Ne.symm q)] at hj1
      rw [List.getElem?_set_ne (Ne.symm q), List.getElem?_set_ne (Ne.symm q)]
      exact H.done j r' f' hr' hf' hj1
  · have h1 := wSum_set hb hlt hh18.2
    have h2 := len_le_of_nodup F.1.nodup F.1.wIn
    subst hW
    simp only [wMu, List.length_append, List.length_singleton]
    have h3 : p.1.length ≤ 8 := Nat.le_trans h2 hn8
    show 9 * wSum (B.set i (lbF r (joinF (unk r i rs.length) B f))) + p.1.length < _
    omega
/-- what stands behind the while -/
noncomputable def LiveOk (rs : List Ins) (fol : List (List Int)) (B A : List Int) : Prop :=
  B.length = rs.length ∧ A.length = rs.length ∧ (∀ (i : Nat) b, B[i]? = some b → ∀ k, k < 18 → (tb b k = true ↔ Live rs fol k i)) ∧
  ∀ (i : Nat) r f a, rs[i]? = some r → fol[i]? = some f → A[i]? = some a → ∀ k, k < 18 → (tb a k = true ↔ unk r i rs.length = true ∨ ∃ j : Nat, (j : Int) ∈ f ∧ Live rs fol k j)
theorem WInv.fin (K : WOk rs fol) (H : WInv rs fol B A [] wt) : LiveOk rs fol B A := by
  have hno : ∀ i : Nat, i < rs.length → wt[i]? = some false := by
    intro i hi
    have hlt : i < wt.length := by rw [H.lT]; exact hi
    rw [List.getElem?_eq_getElem hlt]
    cases hv : wt[i] with
    | false => rfl
    | true =>
      have := (H.wtW i).mpr (by rw [List.getElem?_eq_getElem hlt, hv])
      simp at this
  have hget : ∀ i : Nat, i < rs.length → ∃ f, fol[i]? = some f := fun i hi => ⟨fol[i]'(by rw [K.lf]; exact hi), by simp [K.lf, hi]⟩
  have comp : ∀ k, k < 18 → ∀ i, Live rs fol k i → ∀ b, B[i]? = some b → tb b k = true := by
    intro k hk i hl
    induction hl with
    | @rd i r h hr =>
      intro b hb
      have hi : i < rs.length := by
        by_cases q : i < rs.length
        · exact q
        · rw [List.getElem?_eq_none (by omega)] at h; cases h
      obtain ⟨f, hf⟩ := hget i hi
      have := (H.done i r f h hf (hno i hi)).2
      rw [hb] at this
      cases this
      rw [tb_lb, hr]
      simp
    | @lost i r h hw hu =>
      intro b hb
      have hi : i < rs.length := by
        by_cases q : i < rs.length
        · exact q
        · rw [List.getElem?_eq_none (by omega)] at h; cases h
      obtain ⟨f, hf⟩ := hget i hi
      have := (H.done i r f h hf (hno i hi)).2
      rw [hb] at this
      cases this
      rw [tb_lb, hw, tb_join _ _ _ _ hk, hu]
      simp
    | @step i j r f h hw hf hj hl ih =>
      intro b hb
      have hi : i < rs.length := by
        by_cases q : i < rs.length
        · exact q
        · rw [List.getElem?_eq_none (by omega)] at h; cases h
      have := (H.done i r f h hf (hno i hi)).2
      rw [hb] at this
      cases this
      have hjr := K.fr i f hf j hj
      have hjB : j < B.length := by rw [H.lB]; omega
      have hbj := ih _ (List.getElem?_eq_getElem hjB)
      rw [tb_lb, hw, tb_join _ _ _ _ hk]
      have : (f.any fun t => tb (B.getD t.toNat 0) k) = true := by
        rw [List.any_eq_true]
        refine ⟨j, hj, ?_⟩
        rw [Int.toNat_natCast, List.getD_eq_getElem?_getD, List.getElem?_eq_getElem hjB]
        exact hbj
      rw [this]
      simp
  refine ⟨H.lB, H.lA, fun i b hb k hk => ⟨H.sound i b k hb hk, fun hl => comp k hk i hl b hb⟩, ?_⟩
  intro i r f a hr hf ha k hk
  have hi : i < rs.length := by
    by_cases q : i < rs.length
    · exact q
    · rw [List.getElem?_eq_none (by omega)] at hr; cases hr
  have := (H.done i r f hr hf (hno i hi)).1
  rw [ha] at this
  cases this
  rw [tb_join _ _ _ _ hk, Bool.or_eq_true, List.any_eq_true]
  constructor
  · rintro (h | ⟨t, h1, h2⟩)
    · exact .inl h
    · have h5 := K.fr i f hf t h1
      obtain ⟨tn, rfl⟩ : ∃ tn : Nat, t = tn := ⟨t.toNat, by omega⟩
      have hlt : tn < B.length := by rw [H.lB]; omega
      rw [Int.toNat_natCast, List.getD_eq_getElem?_getD, List.getElem?_eq_getElem hlt] at h2
      exact .inr ⟨tn, h1, H.sound tn _ k (List.getElem?_eq_getElem hlt) hk h2⟩
  · rintro (h | ⟨j, h1, h2⟩)
    · exact .inl h
    · have h5 := K.fr i f hf j h1
      have hlt : j < B.length := by rw [H.lB]; omega
      refine .inr ⟨j, h1, ?_⟩
      rw [Int.toNat_natCast, List.getD_eq_getElem?_getD, List.getElem?_eq_getElem hlt]
      exact comp k hk j h2 _ (List.getElem?_eq_getElem hlt)
theorem WInv.start (K : WOk rs fol) : WInv rs fol (List.replicate rs.length 0) (List.replicate rs.length 0) (rangeKs 0 rs.length) (List.replicate rs.length true) := by
  refine ⟨by simp, by simp, by simp, ?_, ?_, ?_, ?_, ?_, ?_, ?_⟩
  · intro b hb
    rw [(List.mem_replicate.mp hb).2]
    exact In18.zero
  · intro i b k hb hk ht
    have := List.mem_of_getElem? hb
    rw [(List.mem_replicate.mp this).2, tb_nil] at ht
    cases ht
  · intro i r f b hr hf hb k hk ht
    have := List.mem_of_getElem? hb
    rw [(List.mem_replicate.mp this).2, tb_nil] at ht
    cases ht
  · unfold rangeKs
    rw [List.nodup_iff_pairwise_ne, List.pairwise_map]
    exact (List.nodup_iff_pairwise_ne.mp List.nodup_range).imp fun h => by omega
  · intro x hx
    have := mem_rangeKs hx
    omega
  · intro i
    rw [List.getElem?_replicate]
    constructor
    · intro h
      have := mem_rangeKs h
      rw [if_pos (by omega)]
    · intro h
      split at h
      · unfold rangeKs
        exact List.mem_map.mpr ⟨i, List.mem_range.mpr (by assumption), by omega⟩
      · cases h
  · intro i r f hr hf h
    rw [List.getElem?_replicate] at h
    split at h <;> cases h
end
end Mine
theorem Mine.off_A2 : True := by
  w_top off
  trivial
local macro_rules | `(tactic| walk_at "exec If") => `(tactic| (k_here; refine wpAny_If ?_))
local macro_rules | `(tactic| walk_at "eval Call") => `(tactic| (k_here; refine Call_ ?_))
local macro_rules | `(tactic| k_mem) => `(tactic| ((repeat (first | (with_reducible exact List.mem_cons_self) | (with_reducible assumption) | (with_reducible refine' List.mem_cons_of_mem _ ?_) | (with_reducible refine' List.mem_append_right _ ?_))); done))
local macro_rules | `(tactic| walk_at "subscriptTail") => `(tactic| (k_here; (with_reducible show wpAny _ _ (subscriptTail _ _ (Value.ref _) (Value.int _ _)) _ _ _); k_dflt (refine' item_tupleT ?t ?a ?b ?c ?d ?_; (case t => exact News.isTup (by k_asm) (by (repeat (first | (with_reducible exact List.mem_cons_self) | (with_reducible assumption) | (with_reducible refine' List.mem_cons_of_mem _ ?_) | (with_reducible refine' List.mem_append_right _ ?_))); done)); (case a => decide); (case b => decide); (case c => rfl); (case d => rfl); k_whole)))
local macro_rules | `(tactic| walk_at "eval Name") => `(tactic| (k_here; (with_reducible show wpAny _ _ (eval (Expr.Name _ _) (envOf _ _ _ _ _)) _ _ _); name_kind "globalImplicit"; (with_reducible rename Fr _ _ _ _ => kF); k_dflt (refine' name_K kF ?k1 ?k2 ?k3 ?_; (case k1 => k_asm); (case k2 => k_asm); (case k3 => k_is); k_whole)))
local macro_rules | `(tactic| walk_at "eval Name") => `(tactic| (k_here; (with_reducible show wpAny _ _ (eval (Expr.Name _ _) (envOf _ _ _ _ _)) _ _ _); name_kind "globalImplicit"; name_is_builtin; (with_reducible rename Fr _ _ _ _ => kF); k_dflt (refine' name_B kF ?k1 ?k2 ?k3 ?k4 ?k5 ?_; (case k1 => k_asm); (case k2 => k_asm); (case k3 => k_is); (case k4 => boot_by_name); (case k5 => decide); k_whole)))
local macro_rules | `(tactic| walk_at "ite") => `(tactic| first | with_reducible refine ite_tt ?_ | with_reducible refine ite_ff ?_)
local macro_rules | `(tactic| walk_at "eval Name") => `(tactic| (k_here; (with_reducible show wpAny _ _ (eval (Expr.Name _ _) (envOf _ _ _ _ _)) _ _ _); name_kind "local"; k_dflt (refine' ld ?k1 ?k2 ?_; (case k1 => k_asm); (case k2 => exact rfl); k_whole)))
local macro_rules | `(tactic| walk_at "KCj") => `(tactic| (kpf_tidy; first | done | ((refine' kcj_end (t := (0 : Nat)) ?kce ?kv rfl ?kF ?kN ?kin); (case kv => with_unfolding_all rfl); (case kF => k_asm); (case kN => k_asm); (case kin => first | exact fun _ hp => hp | kcj_in); (case kce => kpf_eq)) | ((refine' kcj_end ?kce ?kv rfl ?kF ?kN ?kin); (case kv => with_unfolding_all rfl); (case kF => k_asm); (case kN => k_asm); (case kin => first | exact fun _ hp => hp | kcj_in); (case kce => kpf_eq)) | (exfalso; omega)))
local macro_rules | `(tactic| walk_at "call ref") => `(tactic| (k_here; refine Mine.Halt.out ?_))
namespace Mine
section
variable {w : World} {mean : ExcName → Option Value} {mg mb : Str → Option Value} {news : List (Addr × Obj)}
theorem bit_spec (k : Int) (t : Tok) (h0 : 0 ≤ k) (h1 : k ≤ 17) : Ctr w mean mg mb 49 [.int k t] news 2 20 (Sca news fun t => .int (2 ^ k.toNat) t) := by
  intro dp un gd cn cs a ccd cl outer A₀ base h₀ L m s Q E B F X N T hk hdp hun hret
  refine wpAny_call ?_
  k_dflt (refine' code_def (binds := [(Str.ofString "register", .int k t)]) ?k1 ?k2 ?k3 ?k4 ?k5 ?kA ?kF ?kK ?k6 ?k7 ?k8 ?k9 ?kB ?_ ?c2 ?c3 ?c4 ?c5; (( (case kA => exact rfl); (case kF => exact rfl); (case kK => assumption); (case k1 => k_asm); (case k2 => k_asm); (case k3 => k_asm); (case k4 => k_asm); (case k5 => k_asm); (case k6 => k_is); (case k7 => k_is); (case k8 => ktr_room); (case k9 => exact BindsTo.of_eq (by with_unfolding_all rfl)); (case c5 => decide); (case kB => exact locs rfl); (case c2 => exact rfl); (case c3 => exact rfl); (case c4 => exact rfl); k_whole; intro g' L' h' FG' F' N' B' X' T'; (try simp only [List.reverse_cons, List.reverse_nil, List.nil_append, List.cons_append] at F'); (try dsimp only); (try k_fold))))
  k_steps
  exact hret _ _ _ _ (by k_asm) (by k_asm) ⟨rfl, _, by rw [Int.one_mul]⟩
theorem irf_spec (x : Str) (t : Tok) : Ctr w mean mg mb 56 [.str x t] news 2 20 (Sca news fun _ => .bool (regForms.any (· == x))) := by
  intro dp un gd cn cs a ccd cl outer A₀ base h₀ L m s Q E B F X N T hk hdp hun hret
  refine wpAny_call ?_
  k_dflt (refine' code_def (binds := [(Str.ofString "name", .str x t)]) ?k1 ?k2 ?k3 ?k4 ?k5 ?kA ?kF ?kK ?k6 ?k7 ?k8 ?k9 ?kB ?_ ?c2 ?c3 ?c4 ?c5; (( (case kA => exact rfl); (case kF => exact rfl); (case kK => assumption); (case k1 => k_asm); (case k2 => k_asm); (case k3 => k_asm); (case k4 => k_asm); (case k5 => k_asm); (case k6 => k_is); (case k7 => k_is); (case k8 => ktr_room); (case k9 => exact BindsTo.of_eq (by with_unfolding_all rfl)); (case c5 => decide); (case kB => exact locs rfl); (case c2 => exact rfl); (case c3 => exact rfl); (case c4 => exact rfl); k_whole; intro g' L' h' FG' F' N' B' X' T'; (try simp only [List.reverse_cons, List.reverse_nil, List.nil_append, List.cons_append] at F'); (try dsimp only); (try k_fold))))
  k_steps
  exact hret _ news _ _ (by k_asm) (news_sub (by assumption) (by ((intro p hp; repeat (first | exact hp | apply List.mem_cons_of_mem))))) ⟨rfl, 0, rfl⟩
theorem ends_I : ∀ x ∈ opNames ++ brNames, Txt.endswith x (Str.ofString "I") = true → x = Str.ofString "MOVI" ∨ x = Str.ofString "ADDI" ∨ x = Str.ofString "SUBI" ∨ x = Str.ofString "MULI" ∨ x = Str.ofString "DIVI" := by decide +kernel
theorem ends_no : ∀ x ∈ opNames ++ brNames, Txt.endswith x (Str.ofString "I") = false → (immForms.any (· == x)) = false := by decide +kernel
theorem iif_spec (x : Str) (t : Tok) (hx : x ∈ opNames ++ brNames) : Ctr w mean mg mb 63 [.str x t] news 4 40 (Sca news fun _ => .bool (immForms.any (· == x))) := by
  intro dp un gd cn cs a ccd cl outer A₀ base h₀ L m s Q E B F X N T hk hdp hun hret
  refine wpAny_call ?_
  k_dflt (refine' code_def (binds := [(Str.ofString "name", .str x t)]) ?k1 ?k2 ?k3 ?k4 ?k5 ?kA ?kF ?kK ?k6 ?k7 ?k8 ?k9 ?kB ?_ ?c2 ?c3 ?c4 ?c5; (( (case kA => exact rfl); (case kF => exact rfl); (case kK => assumption); (case k1 => k_asm); (case k2 => k_asm); (case k3 => k_asm); (case k4 => k_asm); (case k5 => k_asm); (case k6 => k_is); (case k7 => k_is); (case k8 => ktr_room); (case k9 => exact BindsTo.of_eq (by with_unfolding_all rfl)); (case c5 => decide); (case kB => exact locs rfl); (case c2 => exact rfl); (case c3 => exact rfl); (case c4 => exact rfl); k_whole; intro g' L' h' FG' F' N' B' X' T'; (try simp only [List.reverse_cons, List.reverse_nil, List.nil_append, List.cons_append] at F'); (try dsimp only); (try k_fold))))
  k_steps
  · rcases ends_I x hx (by assumption) with h | h | h | h | h
    all_goals (subst h; k_steps)
    all_goals (refine Halt.in_ ?_; k_dflt (refine' Mine.Ctr.use ?B ?F ?X ?N ?T ?K (Mine.irf_spec _ _) ?d ?u ?_; (case B => k_asm); (case F => k_asm); (case X => k_asm); (case N => k_asm); (case T => k_asm); (case K => first | exact rfl | assumption); (case d => ktr_room); (case u => ktr_units)); ((intro r' news' h' tk' F' N' hp'; k_dflt (obtain ⟨he', t', hr'⟩ := hp'); replace he' := Eq.symm he'; subst he'; (try simp only [Mine.setsF_br, Mine.falls_op] at hr'); subst hr'; (try dsimp only); (try k_fold))); k_steps)
    all_goals exact hret _ _ _ _ (by k_asm) (by k_asm) ⟨rfl, 0, by rfl⟩
  · exact hret _ _ _ _ (by k_asm) (by k_asm) ⟨rfl, 0, by rw [ends_no x hx (by assumption)]; simp_all⟩
end
end Mine
theorem Mine.off_Q0 : True := by
  w_top off
  trivial
namespace Mine
section
variable {prog : Program} {w : World} {A : Around} {E : Value → Shared → Prop} {s : Shared} {name : Str} {scope : Scope} {L a : Addr} {cd : Value} {h₀ : Heap} {m : Str → Option Value} {x : Str} {p1 p2 p3 p4 p5 : Pos} {whole : Sem Value} {news : List (Addr × Obj)} {v c : Str} {t : Tok} {y i k0 : Int} {k k' : Nat} {r : Addr} {l : List Value} {j : Nat} {u : Value} {es : List PySem.Expr} {cs : List Str}
/-- steps that are met often, each taken at once -/
theorem q_sub {Q : Value → Shared → Prop} (F : Fr h₀ L s.heap m) (hx : m x = some (.ref r)) (hk : scope.kind = ScopeKind.function) (hl : (envOf name scope L a cd).kindOf x = some NameKind.local) (hd : (x == Str.ofString "__debug__") = false) (T : IsTup s.heap r l.toArray) (hj : seqIndex? k0 l.length = some j) (h0 : -2 ^ 63 ≤ k0) (h1 : k0 < 2 ^ 63) (hv : l[j]? = some u) (hQ : Q u { s with toks := s.toks + 1 }) :
    wpAny (model prog w) A (eval (.Subscript (.Name x p1) (.Constant (.int k0) k p2) p3) (envOf name scope L a cd)) Q E s :=
  Subscript_ (ld F hx (wpAny_Constant_int (item_tupleT T h0 h1 hj hv hQ (by with_unfolding_all rfl))) hk hl hd)
theorem q_eqs {Q : Bool → Shared → Prop} (F : Fr h₀ L s.heap m) (hx : m x = some (.str v t)) (hk : scope.kind = ScopeKind.function) (hl : (envOf name scope L a cd).kindOf x = some NameKind.local) (hd : (x == Str.ofString "__debug__") = false) (hQ : Q (v == c) { s with toks := s.toks + 1 }) :
    wpAny (model prog w) A (PySem.isTrue (.Compare (.Name x p1) [.Eq] [(.Constant (.str c) k' p4)] p5) (envOf name scope L a cd) whole) Q E s :=
  wpAny_isTrue_Compare1 (ld F hx (Constant_str (eq_str (wpAny_truthy_bool hQ))) hk hl hd) rfl
theorem q_seqs {Q : Bool → Shared → Prop} (F : Fr h₀ L s.heap m) (hx : m x = some (.ref r)) (hk : scope.kind = ScopeKind.function) (hl : (envOf name scope L a cd).kindOf x = some NameKind.local) (hd : (x == Str.ofString "__debug__") = false) (T : IsTup s.heap r l.toArray) (hj : seqIndex? k0 l.length = some j) (h0 : -2 ^ 63 ≤ k0) (h1 : k0 < 2 ^ 63) (hv : l[j]? = some (.str v t)) (hQ : Q (v == c) { s with toks := s.toks + 1 + 1 }) :
    wpAny (model prog w) A (PySem.isTrue (.Compare (.Subscript (.Name x p1) (.Constant (.int k0) k p2) p3) [.Eq] [(.Constant (.str c) k' p4)] p5) (envOf name scope L a cd) whole) Q E s :=
  wpAny_isTrue_Compare1 (q_sub F hx hk hl hd T hj h0 h1 hv (Constant_str (eq_str (wpAny_truthy_bool hQ)))) rfl
theorem q_nes {Q : Bool → Shared → Prop} (F : Fr h₀ L s.heap m) (hx : m x = some (.str v t)) (hk : scope.kind = ScopeKind.function) (hl : (envOf name scope L a cd).kindOf x = some NameKind.local) (hd : (x == Str.ofString "__debug__") = false) (hQ : Q (v != c) { s with toks := s.toks + 1 }) :
    wpAny (model prog w) A (PySem.isTrue (.Compare (.Name x p1) [.NotEq] [(.Constant (.str c) k' p4)] p5) (envOf name scope L a cd) whole) Q E s :=
  wpAny_isTrue_Compare1 (ld F hx (Constant_str (ne_str (wpAny_truthy_bool hQ))) hk hl hd) rfl
theorem q_snes {Q : Bool → Shared → Prop} (F : Fr h₀ L s.heap m) (hx : m x = some (.ref r)) (hk : scope.kind = ScopeKind.function) (hl : (envOf name scope L a cd).kindOf x = some NameKind.local) (hd : (x == Str.ofString "__debug__") = false) (T : IsTup s.heap r l.toArray) (hj : seqIndex? k0 l.length = some j) (h0 : -2 ^ 63 ≤ k0) (h1 : k0 < 2 ^ 63) (hv : l[j]? = some (.str v t)) (hQ : Q (v != c) { s with toks := s.toks + 1 + 1 }) :
    wpAny (model prog w) A (PySem.isTrue (.Compare (.Subscript (.Name x p1) (.Constant (.int k0) k p2) p3) [.NotEq] [(.Constant (.str c) k' p4)] p5) (envOf name scope L a cd) whole) Q E s :=
  wpAny_isTrue_Compare1 (q_sub F hx hk hl hd T hj h0 h1 hv (Constant_str (ne_str (wpAny_truthy_bool hQ)))) rfl
theorem q_eqi {Q : Bool → Shared → Prop} (F : Fr h₀ L s.heap m) (hx : m x = some (.int y t)) (hk : scope.kind = ScopeKind.function) (hl : (envOf name scope L a cd).kindOf x = some NameKind.local) (hd : (x == Str.ofString "__debug__") = false) (hQ : Q (y == i) { s with toks := s.toks + 1 }) :
    wpAny (model prog w) A (PySem.isTrue (.Compare (.Name x p1) [.Eq] [(.Constant (.int i) k' p4)] p5) (envOf name scope L a cd) whole) Q E s :=
  wpAny_isTrue_Compare1 (ld F hx (wpAny_Constant_int (eq_int (wpAny_truthy_bool hQ))) hk hl hd) rfl
theorem q_seqi {Q : Bool → Shared → Prop} (F : Fr h₀ L s.heap m) (hx : m x = some (.ref r)) (hk : scope.kind = ScopeKind.function) (hl : (envOf name scope L a cd).kindOf x = some NameKind.local) (hd : (x == Str.ofString "__debug__") = false) (T : IsTup s.heap r l.toArray) (hj : seqIndex? k0 l.length = some j) (h0 : -2 ^ 63 ≤ k0) (h1 : k0 < 2 ^ 63) (hv : l[j]? = some (.int y t)) (hQ : Q (y == i) { s with toks := s.toks + 1 + 1 }) :
    wpAny (model prog w) A (PySem.isTrue (.Compare (.Subscript (.Name x p1) (.Constant (.int k0) k p2) p3) [.Eq] [(.Constant (.int i) k' p4)] p5) (envOf name scope L a cd) whole) Q E s :=
  wpAny_isTrue_Compare1 (q_sub F hx hk hl hd T hj h0 h1 hv (wpAny_Constant_int (eq_int (wpAny_truthy_bool hQ)))) rfl
theorem q_nei {Q : Bool → Shared → Prop} (F : Fr h₀ L s.heap m) (hx : m x = some (.int y t)) (hk : scope.kind = ScopeKind.function) (hl : (envOf name scope L a cd).kindOf x = some NameKind.local) (hd : (x == Str.ofString "__debug__") = false) (hQ : Q (y != i) { s with toks := s.toks + 1 }) :
    wpAny (model prog w) A (PySem.isTrue (.Compare (.Name x p1) [.NotEq] [(.Constant (.int i) k' p4)] p5) (envOf name scope L a cd) whole) Q E s :=
  wpAny_isTrue_Compare1 (ld F hx (wpAny_Constant_int (ne_int (wpAny_truthy_bool hQ))) hk hl hd) rfl
theorem q_snei {Q : Bool → Shared → Prop} (F : Fr h₀ L s.heap m) (hx : m x = some (.ref r)) (hk : scope.kind = ScopeKind.function) (hl : (envOf name scope L a cd).kindOf x = some NameKind.local) (hd : (x == Str.ofString "__debug__") = false) (T : IsTup s.heap r l.toArray) (hj : seqIndex? k0 l.length = some j) (h0 : -2 ^ 63 ≤ k0) (h1 : k0 < 2 ^ 63) (hv : l[j]? = some (.int y t)) (hQ : Q (y != i) { s with toks := s.toks + 1 + 1 }) :
    wpAny (model prog w) A (PySem.isTrue (.Compare (.Subscript (.Name x p1) (.Constant (.int k0) k p2) p3) [.NotEq] [(.Constant (.int i) k' p4)] p5) (envOf name scope L a cd) whole) Q E s :=
  wpAny_isTrue_Compare1 (q_sub F hx hk hl hd T hj h0 h1 hv (wpAny_Constant_int (ne_int (wpAny_truthy_bool hQ)))) rfl
theorem q_lti {Q : Bool → Shared → Prop} (F : Fr h₀ L s.heap m) (hx : m x = some (.int y t)) (hk : scope.kind = ScopeKind.function) (hl : (envOf name scope L a cd).kindOf x = some NameKind.local) (hd : (x == Str.ofString "__debug__") = false) (hQ : Q (decide (y < i)) { s with toks := s.toks + 1 }) :
    wpAny (model prog w) A (PySem.isTrue (.Compare (.Name x p1) [.Lt] [(.Constant (.int i) k' p4)] p5) (envOf name scope L a cd) whole) Q E s :=
  wpAny_isTrue_Compare1 (ld F hx (wpAny_Constant_int (lt_int (wpAny_truthy_bool hQ))) hk hl hd) rfl
theorem q_slti {Q : Bool → Shared → Prop} (F : Fr h₀ L s.heap m) (hx : m x = some (.ref r)) (hk : scope.kind = ScopeKind.function) (hl : (envOf name scope L a cd).kindOf x = some NameKind.local) (hd : (x == Str.ofString "__debug__") = false) (T : IsTup s.heap r l.toArray) (hj : seqIndex? k0 l.length = some j) (h0 : -2 ^ 63 ≤ k0) (h1 : k0 < 2 ^ 63) (hv : l[j]? = some (.int y t)) (hQ : Q (decide (y < i)) { s with toks := s.toks + 1 + 1 }) :
    wpAny (model prog w) A (PySem.isTrue (.Compare (.Subscript (.Name x p1) (.Constant (.int k0) k p2) p3) [.Lt] [(.Constant (.int i) k' p4)] p5) (envOf name scope L a cd) whole) Q E s :=
  wpAny_isTrue_Compare1 (q_sub F hx hk hl hd T hj h0 h1 hv (wpAny_Constant_int (lt_int (wpAny_truthy_bool hQ)))) rfl
theorem q_gti {Q : Bool → Shared → Prop} (F : Fr h₀ L s.heap m) (hx : m x = some (.int y t)) (hk : scope.kind = ScopeKind.function) (hl : (envOf name scope L a cd).kindOf x = some NameKind.local) (hd : (x == Str.ofString "__debug__") = false) (hQ : Q (decide (y > i)) { s with toks := s.toks + 1 }) :
    wpAny (model prog w) A (PySem.isTrue (.Compare (.Name x p1) [.Gt] [(.Constant (.int i) k' p4)] p5) (envOf name scope L a cd) whole) Q E s :=
  wpAny_isTrue_Compare1 (ld F hx (wpAny_Constant_int (gt_int (wpAny_truthy_bool hQ))) hk hl hd) rfl
theorem q_sgti {Q : Bool → Shared → Prop} (F : Fr h₀ L s.heap m) (hx : m x = some (.ref r)) (hk : scope.kind = ScopeKind.function) (hl : (envOf name scope L a cd).kindOf x = some NameKind.local) (hd : (x == Str.ofString "__debug__") = false) (T : IsTup s.heap r l.toArray) (hj : seqIndex? k0 l.length = some j) (h0 : -2 ^ 63 ≤ k0) (h1 : k0 < 2 ^ 63) (hv : l[j]? = some (.int y t)) (hQ : Q (decide (y > i)) { s with toks := s.toks + 1 + 1 }) :
    wpAny (model prog w) A (PySem.isTrue (.Compare (.Subscript (.Name x p1) (.Constant (.int k0) k p2) p3) [.Gt] [(.Constant (.int i) k' p4)] p5) (envOf name scope L a cd) whole) Q E s :=
  wpAny_isTrue_Compare1 (q_sub F hx hk hl hd T hj h0 h1 hv (wpAny_Constant_int (gt_int (wpAny_truthy_bool hQ)))) rfl
inductive CS : List PySem.Expr → List Str → Prop
  | nil : CS [] []
  | cons {es : List PySem.Expr} {cs : List Str} (c : Str) (k : Nat) (p : Pos) (h : CS es cs) : CS (.Constant (.str c) k p :: es) (c :: cs)
inductive CI : List PySem.Expr → List Int → Prop
  | nil : CI [] []
  | cons {es : List PySem.Expr} {cs : List Int} (c : Int) (k : Nat) (p : Pos) (h : CI es cs) : CI (.Constant (.int c) k p :: es) (c :: cs)
theorem spl_strs {M : Model} {env : Env} {pos : Pos} (h : CS es cs) : ∀ {s : Shared} {Q : List Value → Shared → Prop}, (∀ vs n, StrsAre vs cs → vs.length = cs.length → Q vs { s with toks := n }) → wpAny M A (spliced (backTo pos (starEach es env))) Q E s := by
  induction h with
  | nil => intro s Q hQ; exact spliced_none (hQ [] s.toks .nil rfl)
  | cons c k p _ ih => intro s Q hQ; exact spliced_more (Constant_str (ih fun vs n hv hn => hQ (_ :: vs) n (.cons _ _ hv) (by simp [hn]))) rfl
theorem spl_ints {M : Model} {env : Env} {pos : Pos} {ns : List Int} (h : CI es ns) : ∀ {s : Shared} {Q : List Value → Shared → Prop}, (∀ vs n, IntsAre vs ns → vs.length = ns.length → Q vs { s with toks := n }) → wpAny M A (spliced (backTo pos (starEach es env))) Q E s := by
  induction h with
  | nil => intro s Q hQ; exact spliced_none (hQ [] s.toks .nil rfl)
  | cons c k p _ ih => intro s Q hQ; exact spliced_more (wpAny_Constant_int (ih fun vs n hv hn => hQ (_ :: vs) n (.cons _ _ hv) (by simp [hn]))) rfl
theorem q_ins {Q : Bool → Shared → Prop} (F : Fr h₀ L s.heap m) (hx : m x = some (.str v t)) (hk : scope.kind = ScopeKind.function) (hl : (envOf name scope L a cd).kindOf x = some NameKind.local) (hd : (x == Str.ofString "__debug__") = false) (N : News h₀ L s.heap news) (hc : CS es cs) (hs : cs.length ≤ sizeLine) (hQ : ∀ h' n, Fr h₀ L h' m → News h₀ L h' news → Q (cs.any (· == v)) { s with heap := h', toks := n }) :
    wpAny (model prog w) A (PySem.isTrue (.Compare (.Name x p1) [.In] [.Tuple es k' p4] p5) (envOf name scope L a cd) whole) Q E s :=
  wpAny_isTrue_Compare1 (ld F hx (Tuple_ (spl_strs hc fun vs n hv hn => kup_newTuple F N (fun D h' F' N' _ => in_tuple_strs (News.isTup N' (.head _)) hv (wpAny_truthy_bool (hQ h' n F' (fun p hp => N' p (.tail _ hp))))) (by rw [hn]; exact hs))) hk hl hd) rfl
theorem q_sins {Q : Bool → Shared → Prop} (F : Fr h₀ L s.heap m) (hx : m x = some (.ref r)) (hk : scope.kind = ScopeKind.function) (hl : (envOf name scope L a cd).kindOf x = some NameKind.local) (hd : (x == Str.ofString "__debug__") = false) (T : IsTup s.heap r l.toArray) (hj : seqIndex? k0 l.length = some j) (h0 : -2 ^ 63 ≤ k0) (h1 : k0 < 2 ^ 63) (hv : l[j]? = some (.str v t)) (N : News h₀ L s.heap news) (hc : CS es cs) (hs : cs.length ≤ sizeLine) (hQ : ∀ h' n, Fr h₀ L h' m → News h₀ L h' news → Q (cs.any (· == v)) { s with heap := h', toks := n }) :
    wpAny (model prog w) A (PySem.isTrue (.Compare (.Subscript (.Name x p1) (.Constant (.int k0) k p2) p3) [.In] [.Tuple es k' p4] p5) (envOf name scope L a cd) whole) Q E s :=
  wpAny_isTrue_Compare1 (q_sub F hx hk hl hd T hj h0 h1 hv (Tuple_ (spl_strs hc fun vs n hv hn => kup_newTuple F N (fun D h' F' N' _ => in_tuple_strs (News.isTup N' (.head _)) hv (wpAny_truthy_bool (hQ h' n F' (fun p hp => N' p (.tail _ hp))))) (by rw [hn]; exact hs)))) rfl
theorem q_nins {Q : Bool → Shared → Prop} (F : Fr h₀ L s.heap m) (hx : m x = some (.str v t)) (hk : scope.kind = ScopeKind.function) (hl : (envOf name scope L a cd).kindOf x = some NameKind.local) (hd : (x == Str.ofString "__debug__") = false) (N : News h₀ L s.heap news) (hc : CS es cs) (hs : cs.length ≤ sizeLine) (hQ : ∀ h' n, Fr h₀ L h' m → News h₀ L h' news → Q (!cs.any (· == v)) { s with heap := h', toks := n }) :
    wpAny (model prog w) A (PySem.isTrue (.Compare (.Name x p1) [.NotIn] [.Tuple es k' p4] p5) (envOf name scope L a cd) whole) Q E s :=
  wpAny_isTrue_Compare1 (ld F hx (Tuple_ (spl_strs hc fun vs n hv hn => kup_newTuple F N (fun D h' F' N' _ => notin_tuple_strs (News.isTup N' (.head _)) hv (wpAny_truthy_bool (hQ h' n F' (fun p hp => N' p (.tail _ hp))))) (by rw [hn]; exact hs))) hk hl hd) rfl
theorem q_snins {Q : Bool → Shared → Prop} (F : Fr h₀ L s.heap m) (hx : m x = some (.ref r)) (hk : scope.kind = ScopeKind.function) (hl : (envOf name scope L a cd).kindOf x = some NameKind.local) (hd : (x == Str.ofString "__debug__") = false) (T : IsTup s.heap r l.toArray) (hj : seqIndex? k0 l.length = some j) (h0 : -2 ^ 63 ≤ k0) (h1 : k0 < 2 ^ 63) (hv : l[j]? = some (.str v t)) (N : News h₀ L s.heap news) (hc : CS es cs) (hs : cs.length ≤ sizeLine) (hQ : ∀ h' n, Fr h₀ L h' m → News h₀ L h' news → Q (!cs.any (· == v)) { s with heap := h', toks := n }) :
    wpAny (model prog w) A (PySem.isTrue (.Compare (.Subscript (.Name x p1) (.Constant (.int k0) k p2) p3) [.NotIn] [.Tuple es k' p4] p5) (envOf name scope L a cd) whole) Q E s :=
  wpAny_isTrue_Compare1 (q_sub F hx hk hl hd T hj h0 h1 hv (Tuple_ (spl_strs hc fun vs n hv hn => kup_newTuple F N (fun D h' F' N' _ => notin_tuple_strs (News.isTup N' (.head _)) hv (wpAny_truthy_bool (hQ h' n F' (fun p hp => N' p (.tail _ hp))))) (by rw [hn]; exact hs)))) rfl
theorem q_ilist {M : Model} {env : Env} {ns : List Int} {Q : Value → Shared → Prop} (F : Fr h₀ L s.heap m) (N : News h₀ L s.heap news) (hc : CI es ns) (hs : ns.length ≤ sizeLine) (hQ : ∀ D h' vs n, Fr h₀ L h' m → News h₀ L h' ((D, W.listOf vs.toArray 0) :: news) → IntsAre vs ns → (∀ p : Addr × Obj, p ∈ news → p.1 < D) → Q (.ref D) { s with heap := h', toks := n }) :
    wpAny M A (eval (.List es p1) env) Q E s :=
  List_ (spl_ints hc fun vs n hv hn => newList_K F N (fun D h' F' N' hlt => hQ D h' vs n F' N' hv hlt) (by rw [hn]; exact hs))
theorem q_slist {M : Model} {env : Env} {Q : Value → Shared → Prop} (F : Fr h₀ L s.heap m) (N : News h₀ L s.heap news) (hc : CS es cs) (hs : cs.length ≤ sizeLine) (hQ : ∀ D h' vs n, Fr h₀ L h' m → News h₀ L h' ((D, W.listOf vs.toArray 0) :: news) → StrsAre vs cs → (∀ p : Addr × Obj, p ∈ news → p.1 < D) → Q (.ref D) { s with heap := h', toks := n }) :
    wpAny M A (eval (.List es p1) env) Q E s :=
  List_ (spl_strs hc fun vs n hv hn => newList_K F N (fun D h' F' N' hlt => hQ D h' vs n F' N' hv hlt) (by rw [hn]; exact hs))
end
end Mine
theorem Mine.off_W0 : True := by
  w_top off
  trivial
namespace Mine
/-! Pure functions, told without states: the frame's names m and the ledger news alone. -/
section
variable {w : World} {A : Around} {h₀ : Heap} {L a : Addr} {cn : Str} {cs : Scope} {cd : Value} {m : Str → Option Value} {news : List (Addr × Obj)}
/-- the expression gives a value of R and leaves names and ledger -/
noncomputable def Ev (w : World) (A : Around) (h₀ : Heap) (L : Addr) (env : Env) (m : Str → Option Value) (news : List (Addr × Obj)) (e : PySem.Expr) (R : Value → Prop) : Prop :=
  ∀ (E : Value → Shared → Prop) (s : Shared) (Q : Value → Shared → Prop), Fr h₀ L s.heap m → News h₀ L s.heap news → (∀ v h n, R v → Fr h₀ L h m → News h₀ L h news → Q v { s with heap := h, toks := n }) → wpAny (model PySem.Challenge.pw_pb0326_01 w) A (eval e env) Q E s
/-- the test gives b -/
noncomputable def Bt (w : World) (A : Around) (h₀ : Heap) (L : Addr) (env : Env) (m : Str → Option Value) (news : List (Addr × Obj)) (e : PySem.Expr) (b : Bool) : Prop :=
  ∀ (whole : Sem Value) (_ : (∃ op es p, e = PySem.Expr.BoolOp op es p) ∨ whole = eval e env) (E : Value → Shared → Prop) (s : Shared) (Q : Bool → Shared → Prop), Fr h₀ L s.heap m → News h₀ L s.heap news → (∀ h n, Fr h₀ L h m → News h₀ L h news → Q b { s with heap := h, toks := n }) → wpAny (model PySem.Challenge.pw_pb0326_01 w) A (PySem.isTrue e env whole) Q E s
/-- the arguments give these values -/
noncomputable def Es (w : World) (A : Around) (h₀ : Heap) (L : Addr) (env : Env) (m : Str → Option Value) (news : List (Addr × Obj)) (pos : Pos) (es : List PySem.Expr) (vs : List Value) : Prop :=
  ∀ (E : Value → Shared → Prop) (s : Shared) (Q : List Value → Shared → Prop), Fr h₀ L s.heap m → News h₀ L s.heap news → (∀ h n, Fr h₀ L h m → News h₀ L h news → Q vs { s with heap := h, toks := n }) → wpAny (model PySem.Challenge.pw_pb0326_01 w) A (spliced (backTo pos (starEach es env))) Q E s
/-- the statements return a value of R -/
noncomputable def Ex (w : World) (A : Around) (h₀ : Heap) (L : Addr) (env : Env) (m : Str → Option Value) (news : List (Addr × Obj)) (ss : List Stmt) (R : Value → Prop) : Prop :=
  ∀ (E : Value → Shared → Prop) (s : Shared) (Q : Flow → Shared → Prop), Fr h₀ L s.heap m → News h₀ L s.heap news → (∀ v m' h n, R v → Fr h₀ L h m' → News h₀ L h news → Q (.ret v) { s with heap := h, toks := n }) → wpAny (model PySem.Challenge.pw_pb0326_01 w) A (execs ss env) Q E s
/-- calls of proved functions are at hand -/
noncomputable def Calls (w : World) (mean : ExcName → Option Value) (mg mb : Str → Option Value) (A : Around) (h₀ : Heap) (L : Addr) (news : List (Addr × Obj)) (kd ku : Nat) : Prop :=
  ∀ (f : Addr) (vs : List Value) (R : Tok → Value) (kd' ku' : Nat), Ctr w mean mg mb f vs news kd' ku' (Sca news R) → kd' ≤ kd → ku' ≤ ku → ∀ (m : Str → Option Value) (E : Value → Shared → Prop) (s : Shared) (Q : Value → Shared → Prop), Fr h₀ L s.heap m → News h₀ L s.heap news → (∀ h n t, Fr h₀ L h m → News h₀ L h news → Q (R t) { s with heap := h, toks := n }) → wpAny (model PySem.Challenge.pw_pb0326_01 w) A (call (.ref f) vs) Q E s
noncomputable def IsI (i : Int) (v : Value) : Prop := ∃ t, v = .int i t
noncomputable def IsSt (x : Str) (v : Value) : Prop := ∃ t, v = .str x t
noncomputable def IsB (b : Bool) (v : Value) : Prop := v = .bool b
noncomputable def upd (m : Str → Option Value) (x : Str) (v : Value) : Str → Option Value := fun y => if y = x then some v else m y
theorem Calls.mk {mean : ExcName → Option Value} {mg mb : Str → Option Value} {dp un : Nat} {gd : Option (List Code)} {ccd : Value} {cl : List (Str × Addr)} {outer : List Env} {A₀ : Around} {base : Heap} {kd ku : Nat}
    (B : Below A₀ base outer h₀) (X : (hd.heap_39 w.params).In h₀) (T : Top hd.view_39 (looseW hd.view_39 [Str.ofString "EVERYTHING", Str.ofString "HELD"]) mean mg mb h₀) (hk : cs.kind = .function) (hdp : dp + kd < recursionLimit) (hun : un + ku < cLine) :
    Calls w mean mg mb (ktrTop dp un gd cn cs L a ccd cl outer) h₀ L news kd ku := by
  intro f vs R kd' ku' C h1 h2 m E s Q F N ret
  refine C dp un gd cn cs a ccd cl outer A₀ base h₀ L m s Q E B F X N T hk (by omega) (by omega) ?_
  intro r news' h' tk' F' N' hp
  obtain ⟨he, t, hr⟩ := hp
  subst he
  subst hr
  exact ret h' tk' t F' N'
variable {R : Value → Prop}
theorem Ev.name {x : Str} {p : Pos} {v : Value} (hx : m x = some v) (hv : R v) (hk : cs.kind = ScopeKind.function) (hl : (envOf cn cs L a cd).kindOf x = some NameKind.local) (hd : (x == Str.ofString "__debug__") = false) : Ev w A h₀ L (envOf cn cs L a cd) m news (.Name x p) R :=
  fun _ s _ F N q => ld F hx (q _ s.heap s.toks hv F N) hk hl hd
theorem Ev.glob {mg mb : Str → Option Value} {p : Program} {loose : List Str} {x : Str} {ps : Pos} {v : Value} (X : (hd.heap_39 w.params).In h₀) (T : TopRead p loose mg mb h₀) (hn : nsIn (hd.heap_39 w.params) mainGlobals x = some (some v)) (hv : R v) (hk : cs.kind = ScopeKind.function) (hl : (envOf cn cs L a cd).kindOf x = some NameKind.globalImplicit) (hd : (x == Str.ofString "__debug__") = false) : Ev w A h₀ L (envOf cn cs L a cd) m news (.Name x ps) R :=
  fun _ s _ F N q => name_K F X T hn (q _ s.heap s.toks hv F N) hk hl hd
theorem Ev.constI {env : Env} {i : Int} {k : Nat} {p : Pos} : Ev w A h₀ L env m news (.Constant (.int i) k p) (IsI i) :=
  fun _ s _ F N q => wpAny_Constant_int (q _ s.heap (s.toks + 1) ⟨_, rfl⟩ F N)
theorem Ev.constS {env : Env} {c : Str} {k : Nat} {p : Pos} : Ev w A h₀ L env m news (.Constant (.str c) k p) (IsSt c) :=
  fun _ s _ F N q => Constant_str (q _ s.heap (s.toks + 1) ⟨_, rfl⟩ F N)
theorem Ev.constB {env : Env} {b : Bool} {k : Nat} {p : Pos} : Ev w A h₀ L env m news (.Constant (.bool b) k p) (IsB b) :=
  fun _ s _ F N q => Constant_bool (q _ s.heap s.toks rfl F N)
theorem Ev.sub {x : Str} {k0 : Int} {k : Nat} {p1 p2 p3 : Pos} {r : Addr} {l : List Value} {n j : Nat} {u : Value} (hx : m x = some (.ref r)) (hm : (r, ({ cls := .type "tuple", data := .seq l.toArray n } : Obj)) ∈ news) (hj : seqIndex? k0 l.length = some j) (hu : l[j]? = some u) (hv : R u) (h0 : -2 ^ 63 ≤ k0) (h1 : k0 < 2 ^ 63) (hk : cs.kind = ScopeKind.function) (hl : (envOf cn cs L a cd).kindOf x = some NameKind.local) (hd : (x == Str.ofString "__debug__") = false) : Ev w A h₀ L (envOf cn cs L a cd) m news (.Subscript (.Name x p1) (.Constant (.int k0) k p2) p3) R :=
  fun _ s _ F N q => q_sub F hx hk hl hd (News.isTup N hm) hj h0 h1 hu (q _ s.heap (s.toks + 1) hv F N)
theorem Ev.bitor {env : Env} {l r : PySem.Expr} {p : Pos} {i j : Int} (h1 : Ev w A h₀ L env m news l (IsI i)) (h2 : Ev w A h₀ L env m news r (IsI j)) : Ev w A h₀ L env m news (.BinOp l .BitOr r p) (IsI (Builtin.bitOr i j)) := by
  intro E s Q F N q
  refine wpAny_BinOp (h1 E s _ F N ?_)
  rintro _ h n ⟨t, rfl⟩ F1 N1
  refine h2 E _ _ F1 N1 ?_
  rintro _ h n ⟨t, rfl⟩ F2 N2
  exact or_int (q _ _ _ ⟨_, rfl⟩ F2 N2)
theorem Ev.bitand {env : Env} {l r : PySem.Expr} {p : Pos} {i j : Int} (h1 : Ev w A h₀ L env m news l (IsI i)) (h2 : Ev w A h₀ L env m news r (IsI j)) : Ev w A h₀ L env m news (.BinOp l .BitAnd r p) (IsI (Builtin.bitAnd i j)) := by
  intro E s Q F N q
  refine wpAny_BinOp (h1 E s _ F N ?_)
  rintro _ h n ⟨t, rfl⟩ F1 N1
  refine h2 E _ _ F1 N1 ?_
  rintro _ h n ⟨t, rfl⟩ F2 N2
  exact and_int (q _ _ _ ⟨_, rfl⟩ F2 N2)
theorem Ev.inv {env : Env} {l : PySem.Expr} {p : Pos} {i : Int} (h1 : Ev w A h₀ L env m news l (IsI i)) : Ev w A h₀ L env m news (.UnaryOp .Invert l p) (IsI (Builtin.bitNot i)) := by
  intro E s Q F N q
  refine UnaryOp_ (h1 E s _ F N ?_)
  rintro _ h n ⟨t, rfl⟩ F1 N1
  exact invert_int (q _ _ _ ⟨_, rfl⟩ F1 N1)
theorem Ev.add {env : Env} {l r : PySem.Expr} {p : Pos} {i j : Int} (h1 : Ev w A h₀ L env m news l (IsI i)) (h2 : Ev w A h₀ L env m news r (IsI j)) : Ev w A h₀ L env m news (.BinOp l .Add r p) (IsI (i + j)) := by
  intro E s Q F N q
  refine wpAny_BinOp (h1 E s _ F N ?_)
  rintro _ h n ⟨t, rfl⟩ F1 N1
  refine h2 E _ _ F1 N1 ?_
  rintro _ h n ⟨t, rfl⟩ F2 N2
  exact add_int (q _ _ _ ⟨_, rfl⟩ F2 N2)
theorem Ev.eqS {env : Env} {l r : PySem.Expr} {p : Pos} {x y : Str} (h1 : Ev w A h₀ L env m news l (IsSt x)) (h2 : Ev w A h₀ L env m news r (IsSt y)) (hb : behindInMarks .Eq r = false := by rfl) : Ev w A h₀ L env m news (.Compare l [.Eq] [r] p) (IsB (x == y)) := by
  intro E s Q F N q
  refine wpAny_Compare1 (h1 E s _ F N ?_) hb
  rintro _ h n ⟨t, rfl⟩ F1 N1
  refine h2 E _ _ F1 N1 ?_
  rintro _ h n ⟨t, rfl⟩ F2 N2
  exact eq_str (q _ _ _ rfl F2 N2)
theorem Ev.neS {env : Env} {l r : PySem.Expr} {p : Pos} {x y : Str} (h1 : Ev w A h₀ L env m news l (IsSt x)) (h2 : Ev w A h₀ L env m news r (IsSt y)) (hb : behindInMarks .NotEq r = false := by rfl) : Ev w A h₀ L env m news (.Compare l [.NotEq] [r] p) (IsB (x != y)) := by
  intro E s Q F N q
  refine wpAny_Compare1 (h1 E s _ F N ?_) hb
  rintro _ h n ⟨t, rfl⟩ F1 N1
  refine h2 E _ _ F1 N1 ?_
  rintro _ h n ⟨t, rfl⟩ F2 N2
  exact ne_str (q _ _ _ rfl F2 N2)
theorem Ev.eqI {env : Env} {l r : PySem.Expr} {p : Pos} {x y : Int} (h1 : Ev w A h₀ L env m news l (IsI x)) (h2 : Ev w A h₀ L env m news r (IsI y)) (hb : behindInMarks .Eq r = false := by rfl) : Ev w A h₀ L env m news (.Compare l [.Eq] [r] p) (IsB (x == y)) := by
  intro E s Q F N q
  refine wpAny_Compare1 (h1 E s _ F N ?_) hb
  rintro _ h n ⟨t, rfl⟩ F1 N1
  refine h2 E _ _ F1 N1 ?_
  rintro _ h n ⟨t, rfl⟩ F2 N2
  exact eq_int (q _ _ _ rfl F2 N2)
theorem Ev.neI {env : Env} {l r : PySem.Expr} {p : Pos} {x y : Int} (h1 : Ev w A h₀ L env m news l (IsI x)) (h2 : Ev w A h₀ L env m news r (IsI y)) (hb : behindInMarks .NotEq r = false := by rfl) : Ev w A h₀ L env m news (.Compare l [.NotEq] [r] p) (IsB (x != y)) := by
  intro E s Q F N q
  refine wpAny_Compare1 (h1 E s _ F N ?_) hb
  rintro _ h n ⟨t, rfl⟩ F1 N1
  refine h2 E _ _ F1 N1 ?_
  rintro _ h n ⟨t, rfl⟩ F2 N2
  exact ne_int (q _ _ _ rfl F2 N2)
theorem Ev.inS {env : Env} {l : PySem.Expr} {es : List PySem.Expr} {ys : List Str} {k : Nat} {p p' : Pos} {x : Str} (h1 : Ev w A h₀ L env m news l (IsSt x)) (hc : CS es ys) (hs : ys.length ≤ sizeLine) : Ev w A h₀ L env m news (.Compare l [.In] [.Tuple es k p'] p) (IsB (ys.any (· == x))) := by
  intro E s Q F N q
  refine wpAny_Compare1 (h1 E s _ F N ?_) rfl
  rintro _ h n ⟨t, rfl⟩ F1 N1
  refine Tuple_ (spl_strs hc fun vs n hv hn => kup_newTuple F1 N1 (fun D h' F' N' _ => in_tuple_strs (News.isTup N' (.head _)) hv (q _ _ _ rfl F' (fun p hp => N' p (.tail _ hp)))) (by rw [hn]; exact hs))
theorem Ev.andB {env : Env} {e1 e2 : PySem.Expr} {es : List PySem.Expr} {p : Pos} {b c : Bool} (h1 : Ev w A h₀ L env m news e1 (IsB b)) (h2 : Ev w A h₀ L env m news (.BoolOp .And (e2 :: es) p) (IsB c)) : Ev w A h₀ L env m news (.BoolOp .And (e1 :: e2 :: es) p) (IsB (b && c)) := by
  intro E s Q F N q
  refine BoolOp_and (h1 E s _ F N ?_)
  rintro _ h n rfl F1 N1
  refine wpAny_truthy_bool ?_
  cases b
  · exact q _ _ _ rfl F1 N1
  · exact h2 E _ _ F1 N1 fun v h n hv => q v h n hv
theorem Ev.orB {env : Env} {e1 e2 : PySem.Expr} {es : List PySem.Expr} {p : Pos} {b c : Bool} (h1 : Ev w A h₀ L env m news e1 (IsB b)) (h2 : Ev w A h₀ L env m news (.BoolOp .Or (e2 :: es) p) (IsB c)) : Ev w A h₀ L env m news (.BoolOp .Or (e1 :: e2 :: es) p) (IsB (b || c)) := by
  intro E s Q F N q
  refine BoolOp_or (h1 E s _ F N ?_)
  rintro _ h n rfl F1 N1
  refine wpAny_truthy_bool ?_
  cases b
  · exact h2 E _ _ F1 N1 fun v h n hv => q v h n hv
  · exact q _ _ _ rfl F1 N1
theorem Ev.oneB {env : Env} {op : BoolOp} {e1 : PySem.Expr} {p : Pos} (h1 : Ev w A h₀ L env m news e1 R) : Ev w A h₀ L env m news (.BoolOp op [e1] p) R := fun E s Q F N q => BoolOp_one (h1 E s Q F N q)
theorem Es.nil {env : Env} {pos : Pos} : Es w A h₀ L env m news pos [] [] := fun _ s _ F N q => args_nil (q s.heap s.toks F N)
theorem Es.cons {env : Env} {pos : Pos} {e : PySem.Expr} {es : List PySem.Expr} {v : Value} {vs : List Value} (h1 : Ev w A h₀ L env m news e (· = v)) (h2 : Es w A h₀ L env m news pos es vs) (hs : starEach (e :: es) env = (false, eval e env) :: starEach es env := by rfl) : Es w A h₀ L env m news pos (e :: es) (v :: vs) := by
  intro E s Q F N q
  refine args_cons (h1 E s _ F N ?_) hs
  rintro _ h n rfl F1 N1
  exact h2 E _ _ F1 N1 fun h n => q h n
/-- a call of a proved function -/
theorem Ev.call {mean : ExcName → Option Value} {mg mb : Str → Option Value} {kd ku kd' ku' : Nat} {p : Program} {loose : List Str} {x : Str} {ps ps' : Pos} {f : Addr} {e : PySem.Expr} {es : List PySem.Expr} {v : Value} {vs : List Value} {R' : Tok → Value} (hC : Calls w mean mg mb A h₀ L news kd ku) (X : (hd.heap_39 w.params).In h₀) (T : TopRead p loose mg mb h₀)
    (C : Ctr w mean mg mb f (v :: vs) news kd' ku' (Sca news R')) (ha : Es w A h₀ L (envOf cn cs L a cd) m news ps' (e :: es) (v :: vs)) (hR : ∀ t, R (R' t)) (hn : nsIn (hd.heap_39 w.params) mainGlobals x = some (some (.ref f))) (hkeep : keepIn (hd.heap_39 w.params) (.ref f) = true) (h1 : kd' ≤ kd) (h2 : ku' ≤ ku) (hk : cs.kind = ScopeKind.function) (hl : (envOf cn cs L a cd).kindOf x = some NameKind.globalImplicit) (hd : (x == Str.ofString "__debug__") = false)
    (s1 : eval (PySem.Expr.Call (.Name x ps) (e :: es) [] ps') (envOf cn cs L a cd) = (do let f ← eval (.Name x ps) (envOf cn cs L a cd); callWith ps' f [] (backTo ps' (starEach (e :: es) (envOf cn cs L a cd))) (backToKw ps' (keywordEach [] (envOf cn cs L a cd)))) := by rfl)
    (s2 : starEach (e :: es) (envOf cn cs L a cd) = (false, eval e (envOf cn cs L a cd)) :: starEach es (envOf cn cs L a cd) := by rfl) (s3 : ((backTo ps' (starEach es (envOf cn cs L a cd))).any fun x => x.1) = false := by rfl) :
    Ev w A h₀ L (envOf cn cs L a cd) m news (.Call (.Name x ps) (e :: es) [] ps') R := by
  intro E s Q F N q
  refine Call_ (name_K F X T hn ?_ hk hl hd) s1
  refine callWith_K X hkeep ?_ s2 s3
  refine ha E _ _ F N fun h n F1 N1 => ⟨Frag.In.keeps X (Fr.keep F1), ?_⟩
  exact hC f (v :: vs) R' kd' ku' C h1 h2 m E _ _ F1 N1 fun h n t F2 N2 => q _ h n (hR t) F2 N2
theorem Bt.of {env : Env} {e : PySem.Expr} {b : Bool} (h : Ev w A h₀ L env m news e (IsB b)) (hn : ∀ op es p, e ≠ PySem.Expr.BoolOp op es p) (hp : ∀ whole, PySem.isTrue e env whole = (do let v ← whole; standAt e.pos; holding [v] (truthy v))) : Bt w A h₀ L env m news e b := by
  intro whole hw E s Q F N q
  rcases hw with ⟨op, es, p, hw⟩ | rfl
  · exact absurd hw (hn op es p)
  refine isTrue_plain (h E s _ F N ?_) (hp _)
  rintro _ h n rfl F1 N1
  exact wpAny_truthy_bool (q h n F1 N1)
theorem Bt.cmp {env : Env} {l r : PySem.Expr} {op : CmpOp} {p : Pos} {b : Bool} (h : ∀ (E : Value → Shared → Prop) (s : Shared) (Q : Value → Shared → Prop), Fr h₀ L s.heap m → News h₀ L s.heap news → (∀ h n, Fr h₀ L h m → News h₀ L h news → Q (.bool b) { s with heap := h, toks := n }) → wpAny (model PySem.Challenge.pw_pb0326_01 w) A (eval l env) (fun a s₁ => wpAny (model PySem.Challenge.pw_pb0326_01 w) A (eval r env) (fun b s₂ => wpAny (model PySem.Challenge.pw_pb0326_01 w) A (compareOp op a b) Q E s₂) E s₁) E s) (hb : behindInMarks op r = false) : Bt w A h₀ L env m news (.Compare l [op] [r] p) b :=
  fun _ _ E s Q F N q => wpAny_isTrue_Compare1 (h E s (fun c s₃ => wpAny (model PySem.Challenge.pw_pb0326_01 w) A (truthy c) Q E s₃) F N fun h n F N => wpAny_truthy_bool (q h n F N)) hb
theorem Bt.eqS {env : Env} {l r : PySem.Expr} {p : Pos} {x y : Str} (h1 : Ev w A h₀ L env m news l (IsSt x)) (h2 : Ev w A h₀ L env m news r (IsSt y)) (hb : behindInMarks .Eq r = false := by rfl) : Bt w A h₀ L env m news (.Compare l [.Eq] [r] p) (x == y) := by
  refine Bt.cmp (fun E s Q F N q => h1 E s _ F N ?_) hb
  rintro _ h n ⟨t, rfl⟩ F1 N1
  refine h2 E _ _ F1 N1 ?_
  rintro _ h n ⟨t, rfl⟩ F2 N2
  exact eq_str (q _ _ F2 N2)
theorem Bt.neS {env : Env} {l r : PySem.Expr} {p : Pos} {x y : Str} (h1 : Ev w A h₀ L env m news l (IsSt x)) (h2 : Ev w A h₀ L env m news r (IsSt y)) (hb : behindInMarks .NotEq r = false := by rfl) : Bt w A h₀ L env m news (.Compare l [.NotEq] [r] p) (x != y) := by
  refine Bt.cmp (fun E s Q F N q => h1 E s _ F N ?_) hb
  rintro _ h n ⟨t, rfl⟩ F1 N1
  refine h2 E _ _ F1 N1 ?_
  rintro _ h n ⟨t, rfl⟩ F2 N2
  exact ne_str (q _ _ F2 N2)
theorem Bt.eqI {env : Env} {l r : PySem.Expr} {p : Pos} {x y : Int} (h1 : Ev w A h₀ L env m news l (IsI x)) (h2 : Ev w A h₀ L env m news r (IsI y)) (hb : behindInMarks .Eq r = false := by rfl) : Bt w A h₀ L env m news (.Compare l [.Eq] [r] p) (x == y) := by
  refine Bt.cmp (fun E s Q F N q => h1 E s _ F N ?_) hb
  rintro _ h n ⟨t, rfl⟩ F1 N1
  refine h2 E _ _ F1 N1 ?_
  rintro _ h n ⟨t, rfl⟩ F2 N2
  exact eq_int (q _ _ F2 N2)
theorem Bt.inS {env : Env} {l : PySem.Expr} {es : List PySem.Expr} {ys : List Str} {k : Nat} {p p' : Pos} {x : Str} (h1 : Ev w A h₀ L env m news l (IsSt x)) (hc : CS es ys) (hs : ys.length ≤ sizeLine) : Bt w A h₀ L env m news (.Compare l [.In] [.Tuple es k p'] p) (ys.any (· == x)) := by
  refine Bt.cmp (fun E s Q F N q => h1 E s _ F N ?_) rfl
  rintro _ h n ⟨t, rfl⟩ F1 N1
  refine Tuple_ (spl_strs hc fun vs n hv hn => kup_newTuple F1 N1 (fun D h' F' N' _ => in_tuple_strs (News.isTup N' (.head _)) hv (q _ _ F' (fun p hp => N' p (.tail _ hp)))) (by rw [hn]; exact hs))
theorem Bt.or {env : Env} {e : PySem.Expr} {es : List PySem.Expr} {p : Pos} {b c : Bool} (h1 : Bt w A h₀ L env m news e b) (h2 : Bt w A h₀ L env m news (.BoolOp .Or es p) c) : Bt w A h₀ L env m news (.BoolOp .Or (e :: es) p) (b || c) := by
  intro whole hw E s Q F N q
  refine isTrue_or (h1 _ (.inr rfl) E s _ F N fun h n F1 N1 => ?_)
  cases b
  · exact h2 _ (.inl ⟨_, _, _, rfl⟩) E _ _ F1 N1 fun h n => q h n
  · exact q h n F1 N1
theorem Bt.and {env : Env} {e : PySem.Expr} {es : List PySem.Expr} {p : Pos} {b c : Bool} (h1 : Bt w A h₀ L env m news e b) (h2 : Bt w A h₀ L env m news (.BoolOp .And es p) c) : Bt w A h₀ L env m news (.BoolOp .And (e :: es) p) (b && c) := by
  intro whole hw E s Q F N q
  refine isTrue_and (h1 _ (.inr rfl) E s _ F N fun h n F1 N1 => ?_)
  cases b
  · exact q h n F1 N1
  · exact h2 _ (.inl ⟨_, _, _, rfl⟩) E _ _ F1 N1 fun h n => q h n
theorem Bt.orN {env : Env} {p : Pos} : Bt w A h₀ L env m news (.BoolOp .Or [] p) false := fun _ _ _ s _ F N q => isTrue_or_nil (q s.heap s.toks F N)
theorem Bt.andN {env : Env} {p : Pos} : Bt w A h₀ L env m news (.BoolOp .And [] p) true := fun _ _ _ s _ F N q => isTrue_and_nil (q s.heap s.toks F N)
theorem Bt.not {env : Env} {e : PySem.Expr} {p : Pos} {b : Bool} (h1 : Bt w A h₀ L env m news e b) : Bt w A h₀ L env m news (.UnaryOp .Not e p) (!b) :=
  fun _ _ E s _ F N q => isTrue_not (h1 _ (.inr rfl) E s _ F N fun h n F1 N1 => q h n F1 N1)
theorem Ev.ite {env : Env} {e x y : PySem.Expr} {p : Pos} {b : Bool} {i j : Int} (h : Bt w A h₀ L env m news e b) (h1 : b = true → Ev w A h₀ L env m news x (IsI i)) (h2 : b = false → Ev w A h₀ L env m news y (IsI j)) : Ev w A h₀ L env m news (.IfExp e x y p) (IsI (if b = true then i else j)) := by
  intro E s Q F N q
  refine IfExp_ (h _ (.inr rfl) E s _ F N fun h n F1 N1 => ?_)
  cases b
  · exact h2 rfl E _ _ F1 N1 fun v h n hv => q v h n hv
  · exact h1 rfl E _ _ F1 N1 fun v h n hv => q v h n hv
theorem Ex.ret {env : Env} {e : PySem.Expr} {p : Pos} {rest : List Stmt} (h : Ev w A h₀ L env m news e R) : Ex w A h₀ L env m news (.Return (some e) p :: rest) R :=
  fun E s _ F N q => wpAny_execs_cons (wpAny_Return_some (h E s _ F N fun v h n hv F1 N1 => q v m h n hv F1 N1))
theorem Ex.if {env : Env} {e : PySem.Expr} {p : Pos} {b : Bool} {body rest : List Stmt} (h : Bt w A h₀ L env m news e b) (h1 : b = true → Ex w A h₀ L env m news body R) (h2 : b = false → Ex w A h₀ L env m news rest R) : Ex w A h₀ L env m news (.If e body [] p :: rest) R := by
  intro E s Q F N q
  refine wpAny_execs_cons (wpAny_If (h _ (.inr rfl) E s _ F N fun h n F1 N1 => ?_))
  cases b
  · exact wpAny_execs_nil (h2 rfl E _ _ F1 N1 fun v m' h n hv => q v m' h n hv)
  · exact h1 rfl E _ _ F1 N1 fun v m' h n hv => q v m' h n hv
theorem Ex.set {x : Str} {e : PySem.Expr} {p p' : Pos} {rest : List Stmt} {R' : Value → Prop} (he : Ev w A h₀ L (envOf cn cs L a cd) m news e R') (h : ∀ v, R' v → Ex w A h₀ L (envOf cn cs L a cd) (upd m x v) news rest R) (hk : cs.kind = ScopeKind.function) (hl : (envOf cn cs L a cd).kindOf x = some NameKind.local) (hw : swapsWith e (some (PySem.Expr.Name x p')) p.line (envOf cn cs L a cd) = pure false) : Ex w A h₀ L (envOf cn cs L a cd) m news (.Assign [.Name x p'] e p :: rest) R := by
  intro E s Q F N q
  refine wpAny_execs_cons (wpAny_Assign_Name (he E s _ F N fun v h1 n hv F1 N1 => ?_) hw)
  refine storeX_L (cl := []) F1 N1 (fun h' F2 N2 => ?_) hk hl
  exact h v hv E _ _ F2 N2 fun v m' h n hv => q v m' h n hv
/-- if test: x = e, behind which x holds an int either way -/
theorem Ex.ifset {x : Str} {e e1 : PySem.Expr} {p p1 p2 : Pos} {b : Bool} {i j : Int} {t : Tok} {rest : List Stmt} (hb : Bt w A h₀ L (envOf cn cs L a cd) m news e b) (hx : m x = some (.int j t)) (he : b = true → Ev w A h₀ L (envOf cn cs L a cd) m news e1 (IsI i)) (h : ∀ t, Ex w A h₀ L (envOf cn cs L a cd) (upd m x (.int (if b = true then i else j) t)) news rest R) (hk : cs.kind = ScopeKind.function) (hl : (envOf cn cs L a cd).kindOf x = some NameKind.local) (hw : swapsWith e1 (some (PySem.Expr.Name x p1)) p2.line (envOf cn cs L a cd) = pure false) : Ex w A h₀ L (envOf cn cs L a cd) m news (.If e [.Assign [.Name x p1] e1 p2] [] p :: rest) R := by
  intro E s Q F N q
  refine wpAny_execs_cons (wpAny_If (hb _ (.inr rfl) E s _ F N fun h1 n F1 N1 => ?_))
  cases b
  · refine wpAny_execs_nil ?_
    have hm : upd m x (.int j t) = m := by
      funext y
      unfold upd
      by_cases hy : y = x
      · rw [if_pos hy, hy, hx]
      · rw [if_neg hy]
    have h2 := h t
    simp only [Bool.false_eq_true, if_false] at h2
    rw [hm] at h2
    exact h2 E _ _ F1 N1 fun v m' h n hv => q v m' h n hv
  · refine wpAny_execs_cons (wpAny_Assign_Name (he rfl E _ _ F1 N1 fun v h1 n hv F1 N1 => ?_) hw)
    obtain ⟨t1, rfl⟩ := hv
    refine storeX_L (cl := []) F1 N1 (fun h' F2 N2 => ?_) hk hl
    refine wpAny_execs_nil ?_
    have h2 := h t1
    simp only [if_true] at h2
    exact h2 E _ _ F2 N2 fun v m' h n hv => q v m' h n hv
/-- the contract of a def whose body is told by Ex -/
theorem Ex.ctr {mean : ExcName → Option Value} {mg mb : Str → Option Value} {f : Addr} {vs : List Value} {kd ku : Nat} {Rt : Tok → Value} {name qual : Str} {params : Arguments} {body : List Stmt} {scope : Scope} {dV kV doc pm cdv ct oc : Value} {an od : Option Addr} {osl : Array (Option Value)} (binds : List (Str × Value))
    (hf : List.lookup f (hd.heap_39 w.params) = some { cls := oc, dict := od, data := Data.func (fnOf name qual params body scope dV kV doc pm an cdv ct), slots := osl }) (hcd : codeIn (hd.heap_39 w.params) cdv qual = true)
    (hb : ∀ s, BindsTo s (fnOf name qual params body scope dV kV doc pm an cdv ct) { pos := vs, kw := [] } binds) (hloc : ∀ y : Str × Value, y ∈ binds → List.lookup y.1 scope.names = some NameKind.local) (c2 : scope.isCoroutine = false) (c3 : scope.isGenerator = false) (c4 : scope.kind = ScopeKind.function) (c5 : ∀ x : Str × NameKind, x ∈ scope.names → x.2 ≠ NameKind.cell)
    (hx : ∀ (A : Around) (h₀ : Heap) (L : Addr), Calls w mean mg mb A h₀ L news kd ku → (hd.heap_39 w.params).In h₀ → TopRead hd.view_39 (looseW hd.view_39 [Str.ofString "EVERYTHING", Str.ofString "HELD"]) mg mb h₀ → Ex w A h₀ L (envOf qual scope L f cdv) (fun y => List.lookup y binds.reverse) news body (fun v => ∃ t, v = Rt t)) :
    Ctr w mean mg mb f vs news (kd + 1) (ku + 3) (Sca news Rt) := by
  intro dp un gd cn cs a ccd cl outer A₀ base h₀ L m s Q E B F X N T hk hdp hun hret
  refine wpAny_call ?_
  refine code_def (binds := binds) B F X N T rfl rfl hk hf hcd (Nat.lt_of_le_of_lt (Nat.le_add_right dp _) hdp) (hb _) hloc ?_ c2 c3 c4 c5
  intro g L' h' FG F' N' B' X' T'
  have hC : Calls w mean mg mb (Around.deeper (ktrTop dp un gd cn cs L a ccd cl outer) (envOf qual scope L' f cdv)) g L' news kd ku :=
    Calls.mk (cs := scope) (cn := qual) (a := f) (ccd := cdv) (cl := []) (dp := dp + 1) (un := un + 3) (gd := gd) (outer := envX cn cs L a ccd cl :: outer) B' X' T' c4 (by omega) (by omega)
  refine hx _ g L' hC X' (topRead_of T') _ _ _ F' N' ?_
  rintro _ m' h n ⟨t, rfl⟩ F2 N2
  refine leaveK_ F2 N2 fun F3 N3 => ?_
  exact hret _ _ _ _ F3 N3 ⟨rfl, t, rfl⟩
theorem Ev.mono {env : Env} {e : PySem.Expr} {R' : Value → Prop} (h : Ev w A h₀ L env m news e R') (hr : ∀ v, R' v → R v) : Ev w A h₀ L env m news e R := fun E s Q F N q => h E s Q F N fun v h n hv => q v h n (hr v hv)
theorem Bt.or1 {env : Env} {e : PySem.Expr} {p : Pos} {b : Bool} (h1 : Bt w A h₀ L env m news e b) : Bt w A h₀ L env m news (.BoolOp .Or [e] p) b := by
  have := h1.or (es := []) (p := p) Bt.orN
  rwa [Bool.or_false] at this
theorem Bt.and1 {env : Env} {e : PySem.Expr} {p : Pos} {b : Bool} (h1 : Bt w A h₀ L env m news e b) : Bt w A h₀ L env m news (.BoolOp .And [e] p) b := by
  have := h1.and (es := []) (p := p) Bt.andN
  rwa [Bool.and_true] at this
theorem Bt.andF {env : Env} {e : PySem.Expr} {es : List PySem.Expr} {p : Pos} {b : Bool} (h1 : Bt w A h₀ L env m news e b) (hb : b = false) : Bt w A h₀ L env m news (.BoolOp .And (e :: es) p) false := by
  subst hb
  intro whole hw E s Q F N q
  exact isTrue_and (h1 _ (.inr rfl) E s _ F N fun h n F1 N1 => q h n F1 N1)
/-- a test that is asked where it counts only under a condition -/
theorem Bt.andG {env : Env} {e : PySem.Expr} {es : List PySem.Expr} {p : Pos} {b c : Bool} (h1 : Bt w A h₀ L env m news e b) (h2 : b = true → Bt w A h₀ L env m news (.BoolOp .And es p) c) : Bt w A h₀ L env m news (.BoolOp .And (e :: es) p) (b && c) := by
  cases b
  · exact Bt.andF h1 rfl
  · exact Bt.and h1 (h2 rfl)
theorem Ev.callI {mean : ExcName → Option Value} {mg mb : Str → Option Value} {kd ku kd' ku' : Nat} {p : Program} {loose : List Str} {x : Str} {ps ps' : Pos} {f : Addr} {e : PySem.Expr} {i : Int} {R' : Tok → Value} (hC : Calls w mean mg mb A h₀ L news kd ku) (X : (hd.heap_39 w.params).In h₀) (T : TopRead p loose mg mb h₀)
    (C : ∀ t, Ctr w mean mg mb f [.int i t] news kd' ku' (Sca news R')) (ha : Ev w A h₀ L (envOf cn cs L a cd) m news e (IsI i)) (hR : ∀ t, R (R' t)) (hn : nsIn (hd.heap_39 w.params) mainGlobals x = some (some (.ref f))) (hkeep : keepIn (hd.heap_39 w.params) (.ref f) = true) (h1 : kd' ≤ kd) (h2 : ku' ≤ ku) (hk : cs.kind = ScopeKind.function) (hl : (envOf cn cs L a cd).kindOf x = some NameKind.globalImplicit) (hd : (x == Str.ofString "__debug__") = false)
    (s1 : eval (PySem.Expr.Call (.Name x ps) [e] [] ps') (envOf cn cs L a cd) = (do let f ← eval (.Name x ps) (envOf cn cs L a cd); callWith ps' f [] (backTo ps' (starEach [e] (envOf cn cs L a cd))) (backToKw ps' (keywordEach [] (envOf cn cs L a cd)))) := by rfl)
    (s2 : starEach [e] (envOf cn cs L a cd) = (false, eval e (envOf cn cs L a cd)) :: starEach [] (envOf cn cs L a cd) := by rfl) (s3 : ((backTo ps' (starEach [] (envOf cn cs L a cd))).any fun x => x.1) = false := by rfl) :
    Ev w A h₀ L (envOf cn cs L a cd) m news (.Call (.Name x ps) [e] [] ps') R := by
  intro E s Q F N q
  refine Call_ (name_K F X T hn ?_ hk hl hd) s1
  refine callWith_K X hkeep ?_ s2 s3
  refine args_cons (ha E _ _ F N ?_) s2
  rintro _ h n ⟨t, rfl⟩ F1 N1
  refine args_nil ⟨Frag.In.keeps X (Fr.keep F1), ?_⟩
  exact hC f _ R' kd' ku' (C t) h1 h2 m E _ _ F1 N1 fun h n t F2 N2 => q _ h n (hR t) F2 N2
theorem Ev.call0 {mean : ExcName → Option Value} {mg mb : Str → Option Value} {kd ku kd' ku' : Nat} {p : Program} {loose : List Str} {x : Str} {ps ps' : Pos} {f : Addr} {R' : Tok → Value} (hC : Calls w mean mg mb A h₀ L news kd ku) (X : (hd.heap_39 w.params).In h₀) (T : TopRead p loose mg mb h₀)
    (C : Ctr w mean mg mb f [] news kd' ku' (Sca news R')) (hR : ∀ t, R (R' t)) (hn : nsIn (hd.heap_39 w.params) mainGlobals x = some (some (.ref f))) (hkeep : keepIn (hd.heap_39 w.params) (.ref f) = true) (h1 : kd' ≤ kd) (h2 : ku' ≤ ku) (hk : cs.kind = ScopeKind.function) (hl : (envOf cn cs L a cd).kindOf x = some NameKind.globalImplicit) (hd : (x == Str.ofString "__debug__") = false)
    (s1 : eval (PySem.Expr.Call (.Name x ps) [] [] ps') (envOf cn cs L a cd) = (do let f ← eval (.Name x ps) (envOf cn cs L a cd); callWith ps' f [] (backTo ps' (starEach [] (envOf cn cs L a cd))) (backToKw ps' (keywordEach [] (envOf cn cs L a cd)))) := by rfl) :
    Ev w A h₀ L (envOf cn cs L a cd) m news (.Call (.Name x ps) [] [] ps') R := by
  intro E s Q F N q
  refine Call_ (name_K F X T hn ?_ hk hl hd) s1
  refine callWith_K0 (Frag.In.keeps X (Fr.keep F)) hkeep ?_
  exact hC f _ R' kd' ku' C h1 h2 m E _ _ F N fun h n t F2 N2 => q _ h n (hR t) F2 N2
end
end Mine
theorem Mine.off_A3w : True := by
  w_top off
  trivial
local macro_rules | `(tactic| walk_at "es") => `(tactic| first | exact Mine.Es.nil | (exact Mine.Es.cons (by (first | exact Mine.Ev.constI | exact Mine.Ev.constS | exact Mine.Ev.constB | exact Mine.Ev.name rfl ⟨_, rfl⟩ rfl rfl (by decide) | exact Mine.Ev.name rfl rfl rfl rfl (by decide) | exact Mine.Ev.sub rfl (by k_mem) rfl rfl ⟨_, rfl⟩ (by decide) (by decide) rfl rfl (by decide) | exact Mine.Ev.sub rfl (by k_mem) rfl rfl rfl (by decide) (by decide) rfl rfl (by decide) | exact Mine.Ev.glob (by assumption) (by assumption) (by k_is) ⟨_, rfl⟩ rfl rfl (by decide) | exact Mine.Ev.glob (by assumption) (by assumption) (by k_is) rfl rfl rfl (by decide) | fail "ev")) (by walk_at "es") rfl))
namespace Mine
section
variable {w : World} {mean : ExcName → Option Value} {mg mb : Str → Option Value} {news : List (Addr × Obj)}
theorem isc_spec (x : Str) (t : Tok) : Ctr w mean mg mb 70 [.str x t] news 2 20 (Sca news fun _ => .bool (condB x)) := by
  refine' Ex.ctr (kd := 1) (ku := 17) [(Str.ofString "cond", .str x t)] ?_ ?_ ?_ ?_ ?_ ?_ ?_ ?_ ?_
  (((all_goals (try k_is)); (intro s; exact BindsTo.of_eq (by with_unfolding_all rfl)); (exact locs rfl); (exact rfl); (exact rfl); (exact rfl); decide))
  intro A h₀ L hC X T
  refine Ex.ret (Ev.mono (Ev.andB (Ev.neS (x := x) ?_ Ev.constS) (Ev.oneB (Ev.neS (x := x) ?_ Ev.constS))) fun v hv => ⟨0, hv⟩)
  all_goals (first | exact Mine.Ev.constI | exact Mine.Ev.constS | exact Mine.Ev.constB | exact Mine.Ev.name rfl ⟨_, rfl⟩ rfl rfl (by decide) | exact Mine.Ev.name rfl rfl rfl rfl (by decide) | exact Mine.Ev.sub rfl (by k_mem) rfl rfl ⟨_, rfl⟩ (by decide) (by decide) rfl rfl (by decide) | exact Mine.Ev.sub rfl (by k_mem) rfl rfl rfl (by decide) (by decide) rfl rfl (by decide) | exact Mine.Ev.glob (by assumption) (by assumption) (by k_is) ⟨_, rfl⟩ rfl rfl (by decide) | exact Mine.Ev.glob (by assumption) (by assumption) (by k_is) rfl rfl rfl (by decide) | fail "ev")
theorem ft_spec (r : Ins) (ra : Addr) (hr : InsAt news ra r) (hok : r.ok) : Ctr w mean mg mb 28 [.ref ra] news 3 30 (Sca news fun t => .bool r.falls) := by
  refine' Ex.ctr (kd := 2) (ku := 27) [(Str.ofString "row", .ref ra)] ?_ ?_ ?_ ?_ ?_ ?_ ?_ ?_ ?_
  (((all_goals (try k_is)); (intro s; exact BindsTo.of_eq (by with_unfolding_all rfl)); (exact locs rfl); (exact rfl); (exact rfl); (exact rfl); decide))
  intro A h₀ L hC X T
  cases r with
  | op nm ra1 rb1 rc1 =>
    obtain ⟨t1, t2, t3, t4, n, hm⟩ := hr
    obtain ⟨n1, n2, n3, n4, n5, n6⟩ := op_not nm hok.1
    refine Ex.set (R' := (· = .str nm t1)) (by (first | exact Mine.Ev.constI | exact Mine.Ev.constS | exact Mine.Ev.constB | exact Mine.Ev.name rfl ⟨_, rfl⟩ rfl rfl (by decide) | exact Mine.Ev.name rfl rfl rfl rfl (by decide) | exact Mine.Ev.sub rfl (by k_mem) rfl rfl ⟨_, rfl⟩ (by decide) (by decide) rfl rfl (by decide) | exact Mine.Ev.sub rfl (by k_mem) rfl rfl rfl (by decide) (by decide) rfl rfl (by decide) | exact Mine.Ev.glob (by assumption) (by assumption) (by k_is) ⟨_, rfl⟩ rfl rfl (by decide) | exact Mine.Ev.glob (by assumption) (by assumption) (by k_is) rfl rfl rfl (by decide) | fail "ev")) (fun v hv => ?_) rfl rfl rfl
    subst hv
    refine Ex.if (Bt.or (by ((exact Mine.Bt.eqS (by (first | exact Mine.Ev.constI | exact Mine.Ev.constS | exact Mine.Ev.constB | exact Mine.Ev.name rfl ⟨_, rfl⟩ rfl rfl (by decide) | exact Mine.Ev.name rfl rfl rfl rfl (by decide) | exact Mine.Ev.sub rfl (by k_mem) rfl rfl ⟨_, rfl⟩ (by decide) (by decide) rfl rfl (by decide) | exact Mine.Ev.sub rfl (by k_mem) rfl rfl rfl (by decide) (by decide) rfl rfl (by decide) | exact Mine.Ev.glob (by assumption) (by assumption) (by k_is) ⟨_, rfl⟩ rfl rfl (by decide) | exact Mine.Ev.glob (by assumption) (by assumption) (by k_is) rfl rfl rfl (by decide) | fail "ev")) (by (first | exact Mine.Ev.constI | exact Mine.Ev.constS | exact Mine.Ev.constB | exact Mine.Ev.name rfl ⟨_, rfl⟩ rfl rfl (by decide) | exact Mine.Ev.name rfl rfl rfl rfl (by decide) | exact Mine.Ev.sub rfl (by k_mem) rfl rfl ⟨_, rfl⟩ (by decide) (by decide) rfl rfl (by decide) | exact Mine.Ev.sub rfl (by k_mem) rfl rfl rfl (by decide) (by decide) rfl rfl (by decide) | exact Mine.Ev.glob (by assumption) (by assumption) (by k_is) ⟨_, rfl⟩ rfl rfl (by decide) | exact Mine.Ev.glob (by assumption) (by assumption) (by k_is) rfl rfl rfl (by decide) | fail "ev")) rfl))) (Bt.or1 (by ((exact Mine.Bt.eqS (by (first | exact Mine.Ev.constI | exact Mine.Ev.constS | exact Mine.Ev.constB | exact Mine.Ev.name rfl ⟨_, rfl⟩ rfl rfl (by decide) | exact Mine.Ev.name rfl rfl rfl rfl (by decide) | exact Mine.Ev.sub rfl (by k_mem) rfl rfl ⟨_, rfl⟩ (by decide) (by decide) rfl rfl (by decide) | exact Mine.Ev.sub rfl (by k_mem) rfl rfl rfl (by decide) (by decide) rfl rfl (by decide) | exact Mine.Ev.glob (by assumption) (by assumption) (by k_is) ⟨_, rfl⟩ rfl rfl (by decide) | exact Mine.Ev.glob (by assumption) (by assumption) (by k_is) rfl rfl rfl (by decide) | fail "ev")) (by (first | exact Mine.Ev.constI | exact Mine.Ev.constS | exact Mine.Ev.constB | exact Mine.Ev.name rfl ⟨_, rfl⟩ rfl rfl (by decide) | exact Mine.Ev.name rfl rfl rfl rfl (by decide) | exact Mine.Ev.sub rfl (by k_mem) rfl rfl ⟨_, rfl⟩ (by decide) (by decide) rfl rfl (by decide) | exact Mine.Ev.sub rfl (by k_mem) rfl rfl rfl (by decide) (by decide) rfl rfl (by decide) | exact Mine.Ev.glob (by assumption) (by assumption) (by k_is) ⟨_, rfl⟩ rfl rfl (by decide) | exact Mine.Ev.glob (by assumption) (by assumption) (by k_is) rfl rfl rfl (by decide) | fail "ev")) rfl))))) (fun h => absurd h (by rw [n1, n2]; decide)) fun _ => ?_
    refine Ex.if (Bt.andF (by ((exact Mine.Bt.eqS (by (first | exact Mine.Ev.constI | exact Mine.Ev.constS | exact Mine.Ev.constB | exact Mine.Ev.name rfl ⟨_, rfl⟩ rfl rfl (by decide) | exact Mine.Ev.name rfl rfl rfl rfl (by decide) | exact Mine.Ev.sub rfl (by k_mem) rfl rfl ⟨_, rfl⟩ (by decide) (by decide) rfl rfl (by decide) | exact Mine.Ev.sub rfl (by k_mem) rfl rfl rfl (by decide) (by decide) rfl rfl (by decide) | exact Mine.Ev.glob (by assumption) (by assumption) (by k_is) ⟨_, rfl⟩ rfl rfl (by decide) | exact Mine.Ev.glob (by assumption) (by assumption) (by k_is) rfl rfl rfl (by decide) | fail "ev")) (by (first | exact Mine.Ev.constI | exact Mine.Ev.constS | exact Mine.Ev.constB | exact Mine.Ev.name rfl ⟨_, rfl⟩ rfl rfl (by decide) | exact Mine.Ev.name rfl rfl rfl rfl (by decide) | exact Mine.Ev.sub rfl (by k_mem) rfl rfl ⟨_, rfl⟩ (by decide) (by decide) rfl rfl (by decide) | exact Mine.Ev.sub rfl (by k_mem) rfl rfl rfl (by decide) (by decide) rfl rfl (by decide) | exact Mine.Ev.glob (by assumption) (by assumption) (by k_is) ⟨_, rfl⟩ rfl rfl (by decide) | exact Mine.Ev.glob (by assumption) (by assumption) (by k_is) rfl rfl rfl (by decide) | fail "ev")) rfl))) n5) (fun h => absurd h (by decide)) fun _ => ?_
    exact Ex.ret (Ev.mono Ev.constB fun v hv => ⟨0, hv⟩)
  | br nm cd rx1 ry1 =>
    obtain ⟨t1, t2, t3, t4, n, hm⟩ := hr
    refine Ex.set (R' := (· = .str nm t1)) (by (first | exact Mine.Ev.constI | exact Mine.Ev.constS | exact Mine.Ev.constB | exact Mine.Ev.name rfl ⟨_, rfl⟩ rfl rfl (by decide) | exact Mine.Ev.name rfl rfl rfl rfl (by decide) | exact Mine.Ev.sub rfl (by k_mem) rfl rfl ⟨_, rfl⟩ (by decide) (by decide) rfl rfl (by decide) | exact Mine.Ev.sub rfl (by k_mem) rfl rfl rfl (by decide) (by decide) rfl rfl (by decide) | exact Mine.Ev.glob (by assumption) (by assumption) (by k_is) ⟨_, rfl⟩ rfl rfl (by decide) | exact Mine.Ev.glob (by assumption) (by assumption) (by k_is) rfl rfl rfl (by decide) | fail "ev")) (fun v hv => ?_) rfl rfl rfl
    subst hv
    refine Ex.if (Bt.or (by ((exact Mine.Bt.eqS (by (first | exact Mine.Ev.constI | exact Mine.Ev.constS | exact Mine.Ev.constB | exact Mine.Ev.name rfl ⟨_, rfl⟩ rfl rfl (by decide) | exact Mine.Ev.name rfl rfl rfl rfl (by decide) | exact Mine.Ev.sub rfl (by k_mem) rfl rfl ⟨_, rfl⟩ (by decide) (by decide) rfl rfl (by decide) | exact Mine.Ev.sub rfl (by k_mem) rfl rfl rfl (by decide) (by decide) rfl rfl (by decide) | exact Mine.Ev.glob (by assumption) (by assumption) (by k_is) ⟨_, rfl⟩ rfl rfl (by decide) | exact Mine.Ev.glob (by assumption) (by assumption) (by k_is) rfl rfl rfl (by decide) | fail "ev")) (by (first | exact Mine.Ev.constI | exact Mine.Ev.constS | exact Mine.Ev.constB | exact Mine.Ev.name rfl ⟨_, rfl⟩ rfl rfl (by decide) | exact Mine.Ev.name rfl rfl rfl rfl (by decide) | exact Mine.Ev.sub rfl (by k_mem) rfl rfl ⟨_, rfl⟩ (by decide) (by decide) rfl rfl (by decide) | exact Mine.Ev.sub rfl (by k_mem) rfl rfl rfl (by decide) (by decide) rfl rfl (by decide) | exact Mine.Ev.glob (by assumption) (by assumption) (by k_is) ⟨_, rfl⟩ rfl rfl (by decide) | exact Mine.Ev.glob (by assumption) (by assumption) (by k_is) rfl rfl rfl (by decide) | fail "ev")) rfl))) (Bt.or1 (by ((exact Mine.Bt.eqS (by (first | exact Mine.Ev.constI | exact Mine.Ev.constS | exact Mine.Ev.constB | exact Mine.Ev.name rfl ⟨_, rfl⟩ rfl rfl (by decide) | exact Mine.Ev.name rfl rfl rfl rfl (by decide) | exact Mine.Ev.sub rfl (by k_mem) rfl rfl ⟨_, rfl⟩ (by decide) (by decide) rfl rfl (by decide) | exact Mine.Ev.sub rfl (by k_mem) rfl rfl rfl (by decide) (by decide) rfl rfl (by decide) | exact Mine.Ev.glob (by assumption) (by assumption) (by k_is) ⟨_, rfl⟩ rfl rfl (by decide) | exact Mine.Ev.glob (by assumption) (by assumption) (by k_is) rfl rfl rfl (by decide) | fail "ev")) (by (first | exact Mine.Ev.constI | exact Mine.Ev.constS | exact Mine.Ev.constB | exact Mine.Ev.name rfl ⟨_, rfl⟩ rfl rfl (by decide) | exact Mine.Ev.name rfl rfl rfl rfl (by decide) | exact Mine.Ev.sub rfl (by k_mem) rfl rfl ⟨_, rfl⟩ (by decide) (by decide) rfl rfl (by decide) | exact Mine.Ev.sub rfl (by k_mem) rfl rfl rfl (by decide) (by decide) rfl rfl (by decide) | exact Mine.Ev.glob (by assumption) (by assumption) (by k_is) ⟨_, rfl⟩ rfl rfl (by decide) | exact Mine.Ev.glob (by assumption) (by assumption) (by k_is) rfl rfl rfl (by decide) | fail "ev")) rfl))))) (fun h => ?_) fun h => ?_
    · refine Ex.ret (Ev.mono (Ev.neS (x := cd) (by (first | exact Mine.Ev.constI | exact Mine.Ev.constS | exact Mine.Ev.constB | exact Mine.Ev.name rfl ⟨_, rfl⟩ rfl rfl (by decide) | exact Mine.Ev.name rfl rfl rfl rfl (by decide) | exact Mine.Ev.sub rfl (by k_mem) rfl rfl ⟨_, rfl⟩ (by decide) (by decide) rfl rfl (by decide) | exact Mine.Ev.sub rfl (by k_mem) rfl rfl rfl (by decide) (by decide) rfl rfl (by decide) | exact Mine.Ev.glob (by assumption) (by assumption) (by k_is) ⟨_, rfl⟩ rfl rfl (by decide) | exact Mine.Ev.glob (by assumption) (by assumption) (by k_is) rfl rfl rfl (by decide) | fail "ev")) Ev.constS) fun v hv => ⟨0, ?_⟩)
      rw [hv]
      show Value.bool _ = .bool (fallsB _ _ _ _)
      rw [fallsB, if_pos h]
    refine Ex.if (Bt.and (by ((exact Mine.Bt.eqS (by (first | exact Mine.Ev.constI | exact Mine.Ev.constS | exact Mine.Ev.constB | exact Mine.Ev.name rfl ⟨_, rfl⟩ rfl rfl (by decide) | exact Mine.Ev.name rfl rfl rfl rfl (by decide) | exact Mine.Ev.sub rfl (by k_mem) rfl rfl ⟨_, rfl⟩ (by decide) (by decide) rfl rfl (by decide) | exact Mine.Ev.sub rfl (by k_mem) rfl rfl rfl (by decide) (by decide) rfl rfl (by decide) | exact Mine.Ev.glob (by assumption) (by assumption) (by k_is) ⟨_, rfl⟩ rfl rfl (by decide) | exact Mine.Ev.glob (by assumption) (by assumption) (by k_is) rfl rfl rfl (by decide) | fail "ev")) (by (first | exact Mine.Ev.constI | exact Mine.Ev.constS | exact Mine.Ev.constB | exact Mine.Ev.name rfl ⟨_, rfl⟩ rfl rfl (by decide) | exact Mine.Ev.name rfl rfl rfl rfl (by decide) | exact Mine.Ev.sub rfl (by k_mem) rfl rfl ⟨_, rfl⟩ (by decide) (by decide) rfl rfl (by decide) | exact Mine.Ev.sub rfl (by k_mem) rfl rfl rfl (by decide) (by decide) rfl rfl (by decide) | exact Mine.Ev.glob (by assumption) (by assumption) (by k_is) ⟨_, rfl⟩ rfl rfl (by decide) | exact Mine.Ev.glob (by assumption) (by assumption) (by k_is) rfl rfl rfl (by decide) | fail "ev")) rfl))) (Bt.and1 (by ((exact Mine.Bt.eqS (by (first | exact Mine.Ev.constI | exact Mine.Ev.constS | exact Mine.Ev.constB | exact Mine.Ev.name rfl ⟨_, rfl⟩ rfl rfl (by decide) | exact Mine.Ev.name rfl rfl rfl rfl (by decide) | exact Mine.Ev.sub rfl (by k_mem) rfl rfl ⟨_, rfl⟩ (by decide) (by decide) rfl rfl (by decide) | exact Mine.Ev.sub rfl (by k_mem) rfl rfl rfl (by decide) (by decide) rfl rfl (by decide) | exact Mine.Ev.glob (by assumption) (by assumption) (by k_is) ⟨_, rfl⟩ rfl rfl (by decide) | exact Mine.Ev.glob (by assumption) (by assumption) (by k_is) rfl rfl rfl (by decide) | fail "ev")) (by (first | exact Mine.Ev.constI | exact Mine.Ev.constS | exact Mine.Ev.constB | exact Mine.Ev.name rfl ⟨_, rfl⟩ rfl rfl (by decide) | exact Mine.Ev.name rfl rfl rfl rfl (by decide) | exact Mine.Ev.sub rfl (by k_mem) rfl rfl ⟨_, rfl⟩ (by decide) (by decide) rfl rfl (by decide) | exact Mine.Ev.sub rfl (by k_mem) rfl rfl rfl (by decide) (by decide) rfl rfl (by decide) | exact Mine.Ev.glob (by assumption) (by assumption) (by k_is) ⟨_, rfl⟩ rfl rfl (by decide) | exact Mine.Ev.glob (by assumption) (by assumption) (by k_is) rfl rfl rfl (by decide) | fail "ev")) rfl))))) (fun h2 => ?_) fun h2 => ?_
    · refine Ex.ret (Ev.mono (Ev.andB (Ev.eqI (x := rx1) (by (first | exact Mine.Ev.constI | exact Mine.Ev.constS | exact Mine.Ev.constB | exact Mine.Ev.name rfl ⟨_, rfl⟩ rfl rfl (by decide) | exact Mine.Ev.name rfl rfl rfl rfl (by decide) | exact Mine.Ev.sub rfl (by k_mem) rfl rfl ⟨_, rfl⟩ (by decide) (by decide) rfl rfl (by decide) | exact Mine.Ev.sub rfl (by k_mem) rfl rfl rfl (by decide) (by decide) rfl rfl (by decide) | exact Mine.Ev.glob (by assumption) (by assumption) (by k_is) ⟨_, rfl⟩ rfl rfl (by decide) | exact Mine.Ev.glob (by assumption) (by assumption) (by k_is) rfl rfl rfl (by decide) | fail "ev")) Ev.constI) (Ev.oneB (Ev.neI (x := ry1) (y := 9) (by (first | exact Mine.Ev.constI | exact Mine.Ev.constS | exact Mine.Ev.constB | exact Mine.Ev.name rfl ⟨_, rfl⟩ rfl rfl (by decide) | exact Mine.Ev.name rfl rfl rfl rfl (by decide) | exact Mine.Ev.sub rfl (by k_mem) rfl rfl ⟨_, rfl⟩ (by decide) (by decide) rfl rfl (by decide) | exact Mine.Ev.sub rfl (by k_mem) rfl rfl rfl (by decide) (by decide) rfl rfl (by decide) | exact Mine.Ev.glob (by assumption) (by assumption) (by k_is) ⟨_, rfl⟩ rfl rfl (by decide) | exact Mine.Ev.glob (by assumption) (by assumption) (by k_is) rfl rfl rfl (by decide) | fail "ev")) (by (first | exact Mine.Ev.constI | exact Mine.Ev.constS | exact Mine.Ev.constB | exact Mine.Ev.name rfl ⟨_, rfl⟩ rfl rfl (by decide) | exact Mine.Ev.name rfl rfl rfl rfl (by decide) | exact Mine.Ev.sub rfl (by k_mem) rfl rfl ⟨_, rfl⟩ (by decide) (by decide) rfl rfl (by decide) | exact Mine.Ev.sub rfl (by k_mem) rfl rfl rfl (by decide) (by decide) rfl rfl (by decide) | exact Mine.Ev.glob (by assumption) (by assumption) (by k_is) ⟨_, rfl⟩ rfl rfl (by decide) | exact Mine.Ev.glob (by assumption) (by assumption) (by k_is) rfl rfl rfl (by decide) | fail "ev"))))) fun v hv => ⟨0, ?_⟩)
      rw [hv]
      show Value.bool _ = .bool (fallsB _ _ _ _)
      rw [fallsB, if_neg (by rw [h]; decide), if_pos h2]
    · refine Ex.ret (Ev.mono Ev.constB fun v hv => ⟨0, ?_⟩)
      rw [hv]
      show Value.bool _ = .bool (fallsB _ _ _ _)
      rw [fallsB, if_neg (by rw [h]; decide), if_neg (by rw [h2]; decide)]
theorem sf_spec (r : Ins) (ra : Addr) (hr : InsAt news ra r) (hok : r.ok) : Ctr w mean mg mb 77 [.ref ra] news 6 60 (Sca news fun t => .bool r.setsF) := by
  refine' Ex.ctr (kd := 5) (ku := 57) [(Str.ofString "row", .ref ra)] ?_ ?_ ?_ ?_ ?_ ?_ ?_ ?_ ?_
  (((all_goals (try k_is)); (intro s; exact BindsTo.of_eq (by with_unfolding_all rfl)); (exact locs rfl); (exact rfl); (exact rfl); (exact rfl); decide))
  intro A h₀ L hC X T
  cases r with
  | op nm ra1 rb1 rc1 =>
    obtain ⟨t1, t2, t3, t4, n, hm⟩ := hr
    refine Ex.set (R' := (· = .str nm t1)) (by (first | exact Mine.Ev.constI | exact Mine.Ev.constS | exact Mine.Ev.constB | exact Mine.Ev.name rfl ⟨_, rfl⟩ rfl rfl (by decide) | exact Mine.Ev.name rfl rfl rfl rfl (by decide) | exact Mine.Ev.sub rfl (by k_mem) rfl rfl ⟨_, rfl⟩ (by decide) (by decide) rfl rfl (by decide) | exact Mine.Ev.sub rfl (by k_mem) rfl rfl rfl (by decide) (by decide) rfl rfl (by decide) | exact Mine.Ev.glob (by assumption) (by assumption) (by k_is) ⟨_, rfl⟩ rfl rfl (by decide) | exact Mine.Ev.glob (by assumption) (by assumption) (by k_is) rfl rfl rfl (by decide) | fail "ev")) (fun v hv => ?_) rfl rfl rfl
    subst hv
    refine Ex.if (by ((exact Mine.Bt.inS (by (first | exact Mine.Ev.constI | exact Mine.Ev.constS | exact Mine.Ev.constB | exact Mine.Ev.name rfl ⟨_, rfl⟩ rfl rfl (by decide) | exact Mine.Ev.name rfl rfl rfl rfl (by decide) | exact Mine.Ev.sub rfl (by k_mem) rfl rfl ⟨_, rfl⟩ (by decide) (by decide) rfl rfl (by decide) | exact Mine.Ev.sub rfl (by k_mem) rfl rfl rfl (by decide) (by decide) rfl rfl (by decide) | exact Mine.Ev.glob (by assumption) (by assumption) (by k_is) ⟨_, rfl⟩ rfl rfl (by decide) | exact Mine.Ev.glob (by assumption) (by assumption) (by k_is) rfl rfl rfl (by decide) | fail "ev")) (by (repeat (first | exact Mine.CS.nil | apply Mine.CS.cons))) (Nat.le_of_ble_eq_true rfl)))) (fun h => ?_) fun h => ?_
    · refine Ex.ret (Ev.mono Ev.constB fun v hv => ⟨0, ?_⟩)
      rw [hv]
      show Value.bool _ = .bool (_ || _ || _)
      rw [h]
      rfl
    · refine Ex.ret (Ev.mono (Ev.orB (b := regForms.any (· == nm)) (c := immForms.any (· == nm)) (Ev.call hC X T (irf_spec nm t1) (by walk_at "es") (fun t => rfl) (by k_is) (by k_is) (by decide) (by decide) rfl rfl (by decide)) (Ev.oneB (Ev.call hC X T (iif_spec nm t1 (op_all nm hok.1)) (by walk_at "es") (fun t => rfl) (by k_is) (by k_is) (by decide) (by decide) rfl rfl (by decide)))) fun v hv => ⟨0, ?_⟩)
      rw [hv]
      show Value.bool _ = .bool (_ || _ || _)
      rw [h]
      rfl
  | br nm cd rx1 ry1 =>
    obtain ⟨t1, t2, t3, t4, n, hm⟩ := hr
    obtain ⟨n1, n2, n3, n4, n5, n6, n7, n8, n9, n10, n11⟩ := br_not nm hok.1
    refine Ex.set (R' := (· = .str nm t1)) (by (first | exact Mine.Ev.constI | exact Mine.Ev.constS | exact Mine.Ev.constB | exact Mine.Ev.name rfl ⟨_, rfl⟩ rfl rfl (by decide) | exact Mine.Ev.name rfl rfl rfl rfl (by decide) | exact Mine.Ev.sub rfl (by k_mem) rfl rfl ⟨_, rfl⟩ (by decide) (by decide) rfl rfl (by decide) | exact Mine.Ev.sub rfl (by k_mem) rfl rfl rfl (by decide) (by decide) rfl rfl (by decide) | exact Mine.Ev.glob (by assumption) (by assumption) (by k_is) ⟨_, rfl⟩ rfl rfl (by decide) | exact Mine.Ev.glob (by assumption) (by assumption) (by k_is) rfl rfl rfl (by decide) | fail "ev")) (fun v hv => ?_) rfl rfl rfl
    subst hv
    refine Ex.if (by ((exact Mine.Bt.inS (by (first | exact Mine.Ev.constI | exact Mine.Ev.constS | exact Mine.Ev.constB | exact Mine.Ev.name rfl ⟨_, rfl⟩ rfl rfl (by decide) | exact Mine.Ev.name rfl rfl rfl rfl (by decide) | exact Mine.Ev.sub rfl (by k_mem) rfl rfl ⟨_, rfl⟩ (by decide) (by decide) rfl rfl (by decide) | exact Mine.Ev.sub rfl (by k_mem) rfl rfl rfl (by decide) (by decide) rfl rfl (by decide) | exact Mine.Ev.glob (by assumption) (by assumption) (by k_is) ⟨_, rfl⟩ rfl rfl (by decide) | exact Mine.Ev.glob (by assumption) (by assumption) (by k_is) rfl rfl rfl (by decide) | fail "ev")) (by (repeat (first | exact Mine.CS.nil | apply Mine.CS.cons))) (Nat.le_of_ble_eq_true rfl)))) (fun h => ?_) fun h => ?_
    · refine Ex.ret (Ev.mono Ev.constB fun v hv => ⟨0, ?_⟩)
      rw [hv]
      rw [n9] at h
      exact absurd h (by decide)
    · refine Ex.ret (Ev.mono (Ev.orB (b := regForms.any (· == nm)) (c := immForms.any (· == nm)) (Ev.call hC X T (irf_spec nm t1) (by walk_at "es") (fun t => rfl) (by k_is) (by k_is) (by decide) (by decide) rfl rfl (by decide)) (Ev.oneB (Ev.call hC X T (iif_spec nm t1 (br_all nm hok.1)) (by walk_at "es") (fun t => rfl) (by k_is) (by k_is) (by decide) (by decide) rfl rfl (by decide)))) fun v hv => ⟨0, ?_⟩)
      rw [hv]
      rw [n7, n8]
      rfl
theorem cj_spec (r : Ins) (ra : Addr) (hr : InsAt news ra r) (_ : r.ok) (hx : r.isBr = true) : Ctr w mean mg mb 35 [.ref ra] news 3 30 (Sca news fun t => .bool r.jumps) := by
  refine' Ex.ctr (kd := 2) (ku := 27) [(Str.ofString "row", .ref ra)] ?_ ?_ ?_ ?_ ?_ ?_ ?_ ?_ ?_
  (((all_goals (try k_is)); (intro s; exact BindsTo.of_eq (by with_unfolding_all rfl)); (exact locs rfl); (exact rfl); (exact rfl); (exact rfl); decide))
  intro A h₀ L hC X T
  cases r with
  | op nm ra1 rb1 rc1 => exact absurd hx (by simp [Ins.isBr])
  | br nm cd rx1 ry1 =>
    obtain ⟨t1, t2, t3, t4, n, hm⟩ := hr
    exact Ex.ret (Ev.mono (Ev.neS (x := cd) (by (first | exact Mine.Ev.constI | exact Mine.Ev.constS | exact Mine.Ev.constB | exact Mine.Ev.name rfl ⟨_, rfl⟩ rfl rfl (by decide) | exact Mine.Ev.name rfl rfl rfl rfl (by decide) | exact Mine.Ev.sub rfl (by k_mem) rfl rfl ⟨_, rfl⟩ (by decide) (by decide) rfl rfl (by decide) | exact Mine.Ev.sub rfl (by k_mem) rfl rfl rfl (by decide) (by decide) rfl rfl (by decide) | exact Mine.Ev.glob (by assumption) (by assumption) (by k_is) ⟨_, rfl⟩ rfl rfl (by decide) | exact Mine.Ev.glob (by assumption) (by assumption) (by k_is) rfl rfl rfl (by decide) | fail "ev")) Ev.constS) fun v hv => ⟨0, hv⟩)
theorem to_spec (r : Ins) (ra : Addr) (i : Int) (ti : Tok) (hr : InsAt news ra r) (_ : r.ok) (hx : r.isBr = true) : Ctr w mean mg mb 21 [.ref ra, .int i ti] news 3 30 (Sca news fun t => .int (i + 1 + r.off) t) := by
  refine' Ex.ctr (kd := 2) (ku := 27) [(Str.ofString "row", .ref ra), (Str.ofString "index", .int i ti)] ?_ ?_ ?_ ?_ ?_ ?_ ?_ ?_ ?_
  (((all_goals (try k_is)); (intro s; exact BindsTo.of_eq (by with_unfolding_all rfl)); (exact locs rfl); (exact rfl); (exact rfl); (exact rfl); decide))
  intro A h₀ L hC X T
  cases r with
  | op nm ra1 rb1 rc1 => exact absurd hx (by simp [Ins.isBr])
  | br nm cd rx1 ry1 =>
    obtain ⟨t1, t2, t3, t4, n, hm⟩ := hr
    exact Ex.ret (Ev.add (Ev.add (i := i) (by (first | exact Mine.Ev.constI | exact Mine.Ev.constS | exact Mine.Ev.constB | exact Mine.Ev.name rfl ⟨_, rfl⟩ rfl rfl (by decide) | exact Mine.Ev.name rfl rfl rfl rfl (by decide) | exact Mine.Ev.sub rfl (by k_mem) rfl rfl ⟨_, rfl⟩ (by decide) (by decide) rfl rfl (by decide) | exact Mine.Ev.sub rfl (by k_mem) rfl rfl rfl (by decide) (by decide) rfl rfl (by decide) | exact Mine.Ev.glob (by assumption) (by assumption) (by k_is) ⟨_, rfl⟩ rfl rfl (by decide) | exact Mine.Ev.glob (by assumption) (by assumption) (by k_is) rfl rfl rfl (by decide) | fail "ev")) Ev.constI) (j := rx1) (by (first | exact Mine.Ev.constI | exact Mine.Ev.constS | exact Mine.Ev.constB | exact Mine.Ev.name rfl ⟨_, rfl⟩ rfl rfl (by decide) | exact Mine.Ev.name rfl rfl rfl rfl (by decide) | exact Mine.Ev.sub rfl (by k_mem) rfl rfl ⟨_, rfl⟩ (by decide) (by decide) rfl rfl (by decide) | exact Mine.Ev.sub rfl (by k_mem) rfl rfl rfl (by decide) (by decide) rfl rfl (by decide) | exact Mine.Ev.glob (by assumption) (by assumption) (by k_is) ⟨_, rfl⟩ rfl rfl (by decide) | exact Mine.Ev.glob (by assumption) (by assumption) (by k_is) rfl rfl rfl (by decide) | fail "ev")))
theorem mr_spec (r : Ins) (ra : Addr) (hr : InsAt news ra r) (hok : r.ok) (hx : r.isBr = false) : Ctr w mean mg mb 84 [.ref ra] news 4 40 (Sca news fun t => .int r.mem t) := by
  refine' Ex.ctr (kd := 3) (ku := 37) [(Str.ofString "row", .ref ra)] ?_ ?_ ?_ ?_ ?_ ?_ ?_ ?_ ?_
  (((all_goals (try k_is)); (intro s; exact BindsTo.of_eq (by with_unfolding_all rfl)); (exact locs rfl); (exact rfl); (exact rfl); (exact rfl); decide))
  intro A h₀ L hC X T
  cases r with
  | br nm cd rx1 ry1 => exact absurd hx (by simp [Ins.isBr])
  | op nm ra1 rb1 rc1 =>
    obtain ⟨t1, t2, t3, t4, n, hm⟩ := hr
    obtain ⟨hn, ⟨ha0, ha1⟩, ⟨hb0, hb1⟩, hc0, hc1⟩ := hok
    refine Ex.set (R' := IsI (2 ^ rb1.toNat)) (Ev.call hC X T (bit_spec _ _ hb0 hb1) (by walk_at "es") (fun t => ⟨t, rfl⟩) (by k_is) (by k_is) (by decide) (by decide) rfl rfl (by decide)) (fun v hv => ?_) rfl rfl rfl
    obtain ⟨t5, rfl⟩ := hv
    refine Ex.ifset (Bt.or (by ((exact Mine.Bt.eqS (by (first | exact Mine.Ev.constI | exact Mine.Ev.constS | exact Mine.Ev.constB | exact Mine.Ev.name rfl ⟨_, rfl⟩ rfl rfl (by decide) | exact Mine.Ev.name rfl rfl rfl rfl (by decide) | exact Mine.Ev.sub rfl (by k_mem) rfl rfl ⟨_, rfl⟩ (by decide) (by decide) rfl rfl (by decide) | exact Mine.Ev.sub rfl (by k_mem) rfl rfl rfl (by decide) (by decide) rfl rfl (by decide) | exact Mine.Ev.glob (by assumption) (by assumption) (by k_is) ⟨_, rfl⟩ rfl rfl (by decide) | exact Mine.Ev.glob (by assumption) (by assumption) (by k_is) rfl rfl rfl (by decide) | fail "ev")) (by (first | exact Mine.Ev.constI | exact Mine.Ev.constS | exact Mine.Ev.constB | exact Mine.Ev.name rfl ⟨_, rfl⟩ rfl rfl (by decide) | exact Mine.Ev.name rfl rfl rfl rfl (by decide) | exact Mine.Ev.sub rfl (by k_mem) rfl rfl ⟨_, rfl⟩ (by decide) (by decide) rfl rfl (by decide) | exact Mine.Ev.sub rfl (by k_mem) rfl rfl rfl (by decide) (by decide) rfl rfl (by decide) | exact Mine.Ev.glob (by assumption) (by assumption) (by k_is) ⟨_, rfl⟩ rfl rfl (by decide) | exact Mine.Ev.glob (by assumption) (by assumption) (by k_is) rfl rfl rfl (by decide) | fail "ev")) rfl))) (Bt.or1 (by ((exact Mine.Bt.eqS (by (first | exact Mine.Ev.constI | exact Mine.Ev.constS | exact Mine.Ev.constB | exact Mine.Ev.name rfl ⟨_, rfl⟩ rfl rfl (by decide) | exact Mine.Ev.name rfl rfl rfl rfl (by decide) | exact Mine.Ev.sub rfl (by k_mem) rfl rfl ⟨_, rfl⟩ (by decide) (by decide) rfl rfl (by decide) | exact Mine.Ev.sub rfl (by k_mem) rfl rfl rfl (by decide) (by decide) rfl rfl (by decide) | exact Mine.Ev.glob (by assumption) (by assumption) (by k_is) ⟨_, rfl⟩ rfl rfl (by decide) | exact Mine.Ev.glob (by assumption) (by assumption) (by k_is) rfl rfl rfl (by decide) | fail "ev")) (by (first | exact Mine.Ev.constI | exact Mine.Ev.constS | exact Mine.Ev.constB | exact Mine.Ev.name rfl ⟨_, rfl⟩ rfl rfl (by decide) | exact Mine.Ev.name rfl rfl rfl rfl (by decide) | exact Mine.Ev.sub rfl (by k_mem) rfl rfl ⟨_, rfl⟩ (by decide) (by decide) rfl rfl (by decide) | exact Mine.Ev.sub rfl (by k_mem) rfl rfl rfl (by decide) (by decide) rfl rfl (by decide) | exact Mine.Ev.glob (by assumption) (by assumption) (by k_is) ⟨_, rfl⟩ rfl rfl (by decide) | exact Mine.Ev.glob (by assumption) (by assumption) (by k_is) rfl rfl rfl (by decide) | fail "ev")) rfl))))) rfl (fun h => Ev.bitor (i := 2 ^ rb1.toNat) (j := 2 ^ ra1.toNat) (by (first | exact Mine.Ev.constI | exact Mine.Ev.constS | exact Mine.Ev.constB | exact Mine.Ev.name rfl ⟨_, rfl⟩ rfl rfl (by decide) | exact Mine.Ev.name rfl rfl rfl rfl (by decide) | exact Mine.Ev.sub rfl (by k_mem) rfl rfl ⟨_, rfl⟩ (by decide) (by decide) rfl rfl (by decide) | exact Mine.Ev.sub rfl (by k_mem) rfl rfl rfl (by decide) (by decide) rfl rfl (by decide) | exact Mine.Ev.glob (by assumption) (by assumption) (by k_is) ⟨_, rfl⟩ rfl rfl (by decide) | exact Mine.Ev.glob (by assumption) (by assumption) (by k_is) rfl rfl rfl (by decide) | fail "ev")) (Ev.call hC X T (bit_spec _ _ ha0 ha1) (by walk_at "es") (fun t => ⟨t, rfl⟩) (by k_is) (by k_is) (by decide) (by decide) rfl rfl (by decide))) (fun t6 => ?_) rfl rfl rfl
    exact Ex.ret (by (first | exact Mine.Ev.constI | exact Mine.Ev.constS | exact Mine.Ev.constB | exact Mine.Ev.name rfl ⟨_, rfl⟩ rfl rfl (by decide) | exact Mine.Ev.name rfl rfl rfl rfl (by decide) | exact Mine.Ev.sub rfl (by k_mem) rfl rfl ⟨_, rfl⟩ (by decide) (by decide) rfl rfl (by decide) | exact Mine.Ev.sub rfl (by k_mem) rfl rfl rfl (by decide) (by decide) rfl rfl (by decide) | exact Mine.Ev.glob (by assumption) (by assumption) (by k_is) ⟨_, rfl⟩ rfl rfl (by decide) | exact Mine.Ev.glob (by assumption) (by assumption) (by k_is) rfl rfl rfl (by decide) | fail "ev"))
theorem br_spec (r : Ins) (ra : Addr) (hr : InsAt news ra r) (hok : r.ok) (hx : r.isBr = true) : Ctr w mean mg mb 91 [.ref ra] news 4 60 (Sca news fun t => .int r.reads t) := by
  refine' Ex.ctr (kd := 3) (ku := 57) [(Str.ofString "row", .ref ra)] ?_ ?_ ?_ ?_ ?_ ?_ ?_ ?_ ?_
  (((all_goals (try k_is)); (intro s; exact BindsTo.of_eq (by with_unfolding_all rfl)); (exact locs rfl); (exact rfl); (exact rfl); (exact rfl); decide))
  intro A h₀ L hC X T
  cases r with
  | op nm ra1 rb1 rc1 => exact absurd hx (by simp [Ins.isBr])
  | br nm cd rx1 ry1 =>
    obtain ⟨t1, t2, t3, t4, n, hm⟩ := hr
    obtain ⟨hn, hcd, hx1, hx2⟩ := hok
    have hlow := br_low nm rx1 hx1
    refine Ex.set (R' := IsI 0) (by (first | exact Mine.Ev.constI | exact Mine.Ev.constS | exact Mine.Ev.constB | exact Mine.Ev.name rfl ⟨_, rfl⟩ rfl rfl (by decide) | exact Mine.Ev.name rfl rfl rfl rfl (by decide) | exact Mine.Ev.sub rfl (by k_mem) rfl rfl ⟨_, rfl⟩ (by decide) (by decide) rfl rfl (by decide) | exact Mine.Ev.sub rfl (by k_mem) rfl rfl rfl (by decide) (by decide) rfl rfl (by decide) | exact Mine.Ev.glob (by assumption) (by assumption) (by k_is) ⟨_, rfl⟩ rfl rfl (by decide) | exact Mine.Ev.glob (by assumption) (by assumption) (by k_is) rfl rfl rfl (by decide) | fail "ev")) (fun v hv => ?_) rfl rfl rfl
    obtain ⟨t5, rfl⟩ := hv
    refine Ex.ifset (b := condB cd) (i := 131072) (Bt.of (Ev.call hC X T (isc_spec cd t2) (by walk_at "es") (fun t => rfl) (by k_is) (by k_is) (by decide) (by decide) rfl rfl (by decide)) (fun _ _ _ h => nomatch h) (fun _ => rfl)) rfl (fun h => (Ev.call hC X T (bit_spec 17 _ (by decide) (by decide)) (by walk_at "es") (fun t => ⟨t, congrArg (Value.int · t) (by decide)⟩) (by k_is) (by k_is) (by decide) (by decide) rfl rfl (by decide))) (fun t6 => ?_) rfl rfl rfl
    refine Ex.set (R' := (· = .str nm t1)) (by (first | exact Mine.Ev.constI | exact Mine.Ev.constS | exact Mine.Ev.constB | exact Mine.Ev.name rfl ⟨_, rfl⟩ rfl rfl (by decide) | exact Mine.Ev.name rfl rfl rfl rfl (by decide) | exact Mine.Ev.sub rfl (by k_mem) rfl rfl ⟨_, rfl⟩ (by decide) (by decide) rfl rfl (by decide) | exact Mine.Ev.sub rfl (by k_mem) rfl rfl rfl (by decide) (by decide) rfl rfl (by decide) | exact Mine.Ev.glob (by assumption) (by assumption) (by k_is) ⟨_, rfl⟩ rfl rfl (by decide) | exact Mine.Ev.glob (by assumption) (by assumption) (by k_is) rfl rfl rfl (by decide) | fail "ev")) (fun v hv => ?_) rfl rfl rfl
    subst hv
    refine Ex.ifset (Bt.or (by ((exact Mine.Bt.eqS (by (first | exact Mine.Ev.constI | exact Mine.Ev.constS | exact Mine.Ev.constB | exact Mine.Ev.name rfl ⟨_, rfl⟩ rfl rfl (by decide) | exact Mine.Ev.name rfl rfl rfl rfl (by decide) | exact Mine.Ev.sub rfl (by k_mem) rfl rfl ⟨_, rfl⟩ (by decide) (by decide) rfl rfl (by decide) | exact Mine.Ev.sub rfl (by k_mem) rfl rfl rfl (by decide) (by decide) rfl rfl (by decide) | exact Mine.Ev.glob (by assumption) (by assumption) (by k_is) ⟨_, rfl⟩ rfl rfl (by decide) | exact Mine.Ev.glob (by assumption) (by assumption) (by k_is) rfl rfl rfl (by decide) | fail "ev")) (by (first | exact Mine.Ev.constI | exact Mine.Ev.constS | exact Mine.Ev.constB | exact Mine.Ev.name rfl ⟨_, rfl⟩ rfl rfl (by decide) | exact Mine.Ev.name rfl rfl rfl rfl (by decide) | exact Mine.Ev.sub rfl (by k_mem) rfl rfl ⟨_, rfl⟩ (by decide) (by decide) rfl rfl (by decide) | exact Mine.Ev.sub rfl (by k_mem) rfl rfl rfl (by decide) (by decide) rfl rfl (by decide) | exact Mine.Ev.glob (by assumption) (by assumption) (by k_is) ⟨_, rfl⟩ rfl rfl (by decide) | exact Mine.Ev.glob (by assumption) (by assumption) (by k_is) rfl rfl rfl (by decide) | fail "ev")) rfl))) (Bt.or (by ((exact Mine.Bt.eqS (by (first | exact Mine.Ev.constI | exact Mine.Ev.constS | exact Mine.Ev.constB | exact Mine.Ev.name rfl ⟨_, rfl⟩ rfl rfl (by decide) | exact Mine.Ev.name rfl rfl rfl rfl (by decide) | exact Mine.Ev.sub rfl (by k_mem) rfl rfl ⟨_, rfl⟩ (by decide) (by decide) rfl rfl (by decide) | exact Mine.Ev.sub rfl (by k_mem) rfl rfl rfl (by decide) (by decide) rfl rfl (by decide) | exact Mine.Ev.glob (by assumption) (by assumption) (by k_is) ⟨_, rfl⟩ rfl rfl (by decide) | exact Mine.Ev.glob (by assumption) (by assumption) (by k_is) rfl rfl rfl (by decide) | fail "ev")) (by (first | exact Mine.Ev.constI | exact Mine.Ev.constS | exact Mine.Ev.constB | exact Mine.Ev.name rfl ⟨_, rfl⟩ rfl rfl (by decide) | exact Mine.Ev.name rfl rfl rfl rfl (by decide) | exact Mine.Ev.sub rfl (by k_mem) rfl rfl ⟨_, rfl⟩ (by decide) (by decide) rfl rfl (by decide) | exact Mine.Ev.sub rfl (by k_mem) rfl rfl rfl (by decide) (by decide) rfl rfl (by decide) | exact Mine.Ev.glob (by assumption) (by assumption) (by k_is) ⟨_, rfl⟩ rfl rfl (by decide) | exact Mine.Ev.glob (by assumption) (by assumption) (by k_is) rfl rfl rfl (by decide) | fail "ev")) rfl))) (Bt.or1 (Bt.and (by ((exact Mine.Bt.eqS (by (first | exact Mine.Ev.constI | exact Mine.Ev.constS | exact Mine.Ev.constB | exact Mine.Ev.name rfl ⟨_, rfl⟩ rfl rfl (by decide) | exact Mine.Ev.name rfl rfl rfl rfl (by decide) | exact Mine.Ev.sub rfl (by k_mem) rfl rfl ⟨_, rfl⟩ (by decide) (by decide) rfl rfl (by decide) | exact Mine.Ev.sub rfl (by k_mem) rfl rfl rfl (by decide) (by decide) rfl rfl (by decide) | exact Mine.Ev.glob (by assumption) (by assumption) (by k_is) ⟨_, rfl⟩ rfl rfl (by decide) | exact Mine.Ev.glob (by assumption) (by assumption) (by k_is) rfl rfl rfl (by decide) | fail "ev")) (by (first | exact Mine.Ev.constI | exact Mine.Ev.constS | exact Mine.Ev.constB | exact Mine.Ev.name rfl ⟨_, rfl⟩ rfl rfl (by decide) | exact Mine.Ev.name rfl rfl rfl rfl (by decide) | exact Mine.Ev.sub rfl (by k_mem) rfl rfl ⟨_, rfl⟩ (by decide) (by decide) rfl rfl (by decide) | exact Mine.Ev.sub rfl (by k_mem) rfl rfl rfl (by decide) (by decide) rfl rfl (by decide) | exact Mine.Ev.glob (by assumption) (by assumption) (by k_is) ⟨_, rfl⟩ rfl rfl (by decide) | exact Mine.Ev.glob (by assumption) (by assumption) (by k_is) rfl rfl rfl (by decide) | fail "ev")) rfl))) (Bt.and1 (Bt.eqI (x := rx1) (y := 0) (by (first | exact Mine.Ev.constI | exact Mine.Ev.constS | exact Mine.Ev.constB | exact Mine.Ev.name rfl ⟨_, rfl⟩ rfl rfl (by decide) | exact Mine.Ev.name rfl rfl rfl rfl (by decide) | exact Mine.Ev.sub rfl (by k_mem) rfl rfl ⟨_, rfl⟩ (by decide) (by decide) rfl rfl (by decide) | exact Mine.Ev.sub rfl (by k_mem) rfl rfl rfl (by decide) (by decide) rfl rfl (by decide) | exact Mine.Ev.glob (by assumption) (by assumption) (by k_is) ⟨_, rfl⟩ rfl rfl (by decide) | exact Mine.Ev.glob (by assumption) (by assumption) (by k_is) rfl rfl rfl (by decide) | fail "ev")) Ev.constI rfl)))))) rfl (fun h => Ev.bitor (j := 26624) (by (first | exact Mine.Ev.constI | exact Mine.Ev.constS | exact Mine.Ev.constB | exact Mine.Ev.name rfl ⟨_, rfl⟩ rfl rfl (by decide) | exact Mine.Ev.name rfl rfl rfl rfl (by decide) | exact Mine.Ev.sub rfl (by k_mem) rfl rfl ⟨_, rfl⟩ (by decide) (by decide) rfl rfl (by decide) | exact Mine.Ev.sub rfl (by k_mem) rfl rfl rfl (by decide) (by decide) rfl rfl (by decide) | exact Mine.Ev.glob (by assumption) (by assumption) (by k_is) ⟨_, rfl⟩ rfl rfl (by decide) | exact Mine.Ev.glob (by assumption) (by assumption) (by k_is) rfl rfl rfl (by decide) | fail "ev")) (by (first | exact Mine.Ev.constI | exact Mine.Ev.constS | exact Mine.Ev.constB | exact Mine.Ev.name rfl ⟨_, rfl⟩ rfl rfl (by decide) | exact Mine.Ev.name rfl rfl rfl rfl (by decide) | exact Mine.Ev.sub rfl (by k_mem) rfl rfl ⟨_, rfl⟩ (by decide) (by decide) rfl rfl (by decide) | exact Mine.Ev.sub rfl (by k_mem) rfl rfl rfl (by decide) (by decide) rfl rfl (by decide) | exact Mine.Ev.glob (by assumption) (by assumption) (by k_is) ⟨_, rfl⟩ rfl rfl (by decide) | exact Mine.Ev.glob (by assumption) (by assumption) (by k_is) rfl rfl rfl (by decide) | fail "ev"))) (fun t7 => ?_) rfl rfl rfl
    refine Ex.ifset (Bt.or (by ((exact Mine.Bt.eqS (by (first | exact Mine.Ev.constI | exact Mine.Ev.constS | exact Mine.Ev.constB | exact Mine.Ev.name rfl ⟨_, rfl⟩ rfl rfl (by decide) | exact Mine.Ev.name rfl rfl rfl rfl (by decide) | exact Mine.Ev.sub rfl (by k_mem) rfl rfl ⟨_, rfl⟩ (by decide) (by decide) rfl rfl (by decide) | exact Mine.Ev.sub rfl (by k_mem) rfl rfl rfl (by decide) (by decide) rfl rfl (by decide) | exact Mine.Ev.glob (by assumption) (by assumption) (by k_is) ⟨_, rfl⟩ rfl rfl (by decide) | exact Mine.Ev.glob (by assumption) (by assumption) (by k_is) rfl rfl rfl (by decide) | fail "ev")) (by (first | exact Mine.Ev.constI | exact Mine.Ev.constS | exact Mine.Ev.constB | exact Mine.Ev.name rfl ⟨_, rfl⟩ rfl rfl (by decide) | exact Mine.Ev.name rfl rfl rfl rfl (by decide) | exact Mine.Ev.sub rfl (by k_mem) rfl rfl ⟨_, rfl⟩ (by decide) (by decide) rfl rfl (by decide) | exact Mine.Ev.sub rfl (by k_mem) rfl rfl rfl (by decide) (by decide) rfl rfl (by decide) | exact Mine.Ev.glob (by assumption) (by assumption) (by k_is) ⟨_, rfl⟩ rfl rfl (by decide) | exact Mine.Ev.glob (by assumption) (by assumption) (by k_is) rfl rfl rfl (by decide) | fail "ev")) rfl))) (Bt.or1 (by ((exact Mine.Bt.eqS (by (first | exact Mine.Ev.constI | exact Mine.Ev.constS | exact Mine.Ev.constB | exact Mine.Ev.name rfl ⟨_, rfl⟩ rfl rfl (by decide) | exact Mine.Ev.name rfl rfl rfl rfl (by decide) | exact Mine.Ev.sub rfl (by k_mem) rfl rfl ⟨_, rfl⟩ (by decide) (by decide) rfl rfl (by decide) | exact Mine.Ev.sub rfl (by k_mem) rfl rfl rfl (by decide) (by decide) rfl rfl (by decide) | exact Mine.Ev.glob (by assumption) (by assumption) (by k_is) ⟨_, rfl⟩ rfl rfl (by decide) | exact Mine.Ev.glob (by assumption) (by assumption) (by k_is) rfl rfl rfl (by decide) | fail "ev")) (by (first | exact Mine.Ev.constI | exact Mine.Ev.constS | exact Mine.Ev.constB | exact Mine.Ev.name rfl ⟨_, rfl⟩ rfl rfl (by decide) | exact Mine.Ev.name rfl rfl rfl rfl (by decide) | exact Mine.Ev.sub rfl (by k_mem) rfl rfl ⟨_, rfl⟩ (by decide) (by decide) rfl rfl (by decide) | exact Mine.Ev.sub rfl (by k_mem) rfl rfl rfl (by decide) (by decide) rfl rfl (by decide) | exact Mine.Ev.glob (by assumption) (by assumption) (by k_is) ⟨_, rfl⟩ rfl rfl (by decide) | exact Mine.Ev.glob (by assumption) (by assumption) (by k_is) rfl rfl rfl (by decide) | fail "ev")) rfl))))) rfl (fun h => Ev.bitor (j := 2 ^ rx1.toNat) (by (first | exact Mine.Ev.constI | exact Mine.Ev.constS | exact Mine.Ev.constB | exact Mine.Ev.name rfl ⟨_, rfl⟩ rfl rfl (by decide) | exact Mine.Ev.name rfl rfl rfl rfl (by decide) | exact Mine.Ev.sub rfl (by k_mem) rfl rfl ⟨_, rfl⟩ (by decide) (by decide) rfl rfl (by decide) | exact Mine.Ev.sub rfl (by k_mem) rfl rfl rfl (by decide) (by decide) rfl rfl (by decide) | exact Mine.Ev.glob (by assumption) (by assumption) (by k_is) ⟨_, rfl⟩ rfl rfl (by decide) | exact Mine.Ev.glob (by assumption) (by assumption) (by k_is) rfl rfl rfl (by decide) | fail "ev")) (Ev.call hC X T (bit_spec _ _ (hlow h).1 (hlow h).2) (by walk_at "es") (fun t => ⟨t, rfl⟩) (by k_is) (by k_is) (by decide) (by decide) rfl rfl (by decide))) (fun t8 => ?_) rfl rfl rfl
    refine Ex.ifset (Bt.and (by ((exact Mine.Bt.eqS (by (first | exact Mine.Ev.constI | exact Mine.Ev.constS | exact Mine.Ev.constB | exact Mine.Ev.name rfl ⟨_, rfl⟩ rfl rfl (by decide) | exact Mine.Ev.name rfl rfl rfl rfl (by decide) | exact Mine.Ev.sub rfl (by k_mem) rfl rfl ⟨_, rfl⟩ (by decide) (by decide) rfl rfl (by decide) | exact Mine.Ev.sub rfl (by k_mem) rfl rfl rfl (by decide) (by decide) rfl rfl (by decide) | exact Mine.Ev.glob (by assumption) (by assumption) (by k_is) ⟨_, rfl⟩ rfl rfl (by decide) | exact Mine.Ev.glob (by assumption) (by assumption) (by k_is) rfl rfl rfl (by decide) | fail "ev")) (by (first | exact Mine.Ev.constI | exact Mine.Ev.constS | exact Mine.Ev.constB | exact Mine.Ev.name rfl ⟨_, rfl⟩ rfl rfl (by decide) | exact Mine.Ev.name rfl rfl rfl rfl (by decide) | exact Mine.Ev.sub rfl (by k_mem) rfl rfl ⟨_, rfl⟩ (by decide) (by decide) rfl rfl (by decide) | exact Mine.Ev.sub rfl (by k_mem) rfl rfl rfl (by decide) (by decide) rfl rfl (by decide) | exact Mine.Ev.glob (by assumption) (by assumption) (by k_is) ⟨_, rfl⟩ rfl rfl (by decide) | exact Mine.Ev.glob (by assumption) (by assumption) (by k_is) rfl rfl rfl (by decide) | fail "ev")) rfl))) (Bt.and1 (Bt.eqI (x := rx1) (y := 15) (by (first | exact Mine.Ev.constI | exact Mine.Ev.constS | exact Mine.Ev.constB | exact Mine.Ev.name rfl ⟨_, rfl⟩ rfl rfl (by decide) | exact Mine.Ev.name rfl rfl rfl rfl (by decide) | exact Mine.Ev.sub rfl (by k_mem) rfl rfl ⟨_, rfl⟩ (by decide) (by decide) rfl rfl (by decide) | exact Mine.Ev.sub rfl (by k_mem) rfl rfl rfl (by decide) (by decide) rfl rfl (by decide) | exact Mine.Ev.glob (by assumption) (by assumption) (by k_is) ⟨_, rfl⟩ rfl rfl (by decide) | exact Mine.Ev.glob (by assumption) (by assumption) (by k_is) rfl rfl rfl (by decide) | fail "ev")) (by (first | exact Mine.Ev.constI | exact Mine.Ev.constS | exact Mine.Ev.constB | exact Mine.Ev.name rfl ⟨_, rfl⟩ rfl rfl (by decide) | exact Mine.Ev.name rfl rfl rfl rfl (by decide) | exact Mine.Ev.sub rfl (by k_mem) rfl rfl ⟨_, rfl⟩ (by decide) (by decide) rfl rfl (by decide) | exact Mine.Ev.sub rfl (by k_mem) rfl rfl rfl (by decide) (by decide) rfl rfl (by decide) | exact Mine.Ev.glob (by assumption) (by assumption) (by k_is) ⟨_, rfl⟩ rfl rfl (by decide) | exact Mine.Ev.glob (by assumption) (by assumption) (by k_is) rfl rfl rfl (by decide) | fail "ev")) rfl))) rfl (fun h => Ev.bitor (j := 1) (Ev.bitor (j := 26624) (by (first | exact Mine.Ev.constI | exact Mine.Ev.constS | exact Mine.Ev.constB | exact Mine.Ev.name rfl ⟨_, rfl⟩ rfl rfl (by decide) | exact Mine.Ev.name rfl rfl rfl rfl (by decide) | exact Mine.Ev.sub rfl (by k_mem) rfl rfl ⟨_, rfl⟩ (by decide) (by decide) rfl rfl (by decide) | exact Mine.Ev.sub rfl (by k_mem) rfl rfl rfl (by decide) (by decide) rfl rfl (by decide) | exact Mine.Ev.glob (by assumption) (by assumption) (by k_is) ⟨_, rfl⟩ rfl rfl (by decide) | exact Mine.Ev.glob (by assumption) (by assumption) (by k_is) rfl rfl rfl (by decide) | fail "ev")) (by (first | exact Mine.Ev.constI | exact Mine.Ev.constS | exact Mine.Ev.constB | exact Mine.Ev.name rfl ⟨_, rfl⟩ rfl rfl (by decide) | exact Mine.Ev.name rfl rfl rfl rfl (by decide) | exact Mine.Ev.sub rfl (by k_mem) rfl rfl ⟨_, rfl⟩ (by decide) (by decide) rfl rfl (by decide) | exact Mine.Ev.sub rfl (by k_mem) rfl rfl rfl (by decide) (by decide) rfl rfl (by decide) | exact Mine.Ev.glob (by assumption) (by assumption) (by k_is) ⟨_, rfl⟩ rfl rfl (by decide) | exact Mine.Ev.glob (by assumption) (by assumption) (by k_is) rfl rfl rfl (by decide) | fail "ev"))) (Ev.callI hC X T (fun t => bit_spec 0 t (by decide) (by decide)) Ev.constI (fun t => ⟨t, congrArg (Value.int · t) (by decide)⟩) (by k_is) (by k_is) (by decide) (by decide) rfl rfl (by decide))) (fun t9 => ?_) rfl rfl rfl
    refine Ex.ret (Ev.mono (R' := IsI (readsB nm cd rx1)) ?_ fun v hv => hv)
    rw [readsB]
    simp only [Bool.or_assoc]
    (first | exact Mine.Ev.constI | exact Mine.Ev.constS | exact Mine.Ev.constB | exact Mine.Ev.name rfl ⟨_, rfl⟩ rfl rfl (by decide) | exact Mine.Ev.name rfl rfl rfl rfl (by decide) | exact Mine.Ev.sub rfl (by k_mem) rfl rfl ⟨_, rfl⟩ (by decide) (by decide) rfl rfl (by decide) | exact Mine.Ev.sub rfl (by k_mem) rfl rfl rfl (by decide) (by decide) rfl rfl (by decide) | exact Mine.Ev.glob (by assumption) (by assumption) (by k_is) ⟨_, rfl⟩ rfl rfl (by decide) | exact Mine.Ev.glob (by assumption) (by assumption) (by k_is) rfl rfl rfl (by decide) | fail "ev")
end
end Mine
theorem Mine.off_A4w : True := by
  w_top off
  trivial
namespace Mine
section
variable {w : World} {mean : ExcName → Option Value} {mg mb : Str → Option Value} {news : List (Addr × Obj)}
theorem rd_spec (r : Ins) (ra : Addr) (hr : InsAt news ra r) (hok : r.ok) : Ctr w mean mg mb 98 [.ref ra] news 6 80 (Sca news fun t => .int r.reads t) := by
  refine' Ex.ctr (kd := 5) (ku := 77) [(Str.ofString "row", .ref ra)] ?_ ?_ ?_ ?_ ?_ ?_ ?_ ?_ ?_
  (((all_goals (try k_is)); (intro s; exact BindsTo.of_eq (by with_unfolding_all rfl)); (exact locs rfl); (exact rfl); (exact rfl); (exact rfl); decide))
  intro A h₀ L hC X T
  cases r with
  | op nm ra1 rb1 rc1 =>
    have hr2 := hr
    have hok2 := hok
    obtain ⟨t1, t2, t3, t4, n, hm⟩ := hr
    obtain ⟨n1, n2, n3, n4, n5, n6⟩ := op_not nm hok.1
    obtain ⟨hn, ⟨ha0, ha1⟩, ⟨hb0, hb1⟩, hc0, hc1⟩ := hok
    have hcl := c_low nm rc1 hn hc1
    refine Ex.set (R' := (· = .str nm t1)) (by (first | exact Mine.Ev.constI | exact Mine.Ev.constS | exact Mine.Ev.constB | exact Mine.Ev.name rfl ⟨_, rfl⟩ rfl rfl (by decide) | exact Mine.Ev.name rfl rfl rfl rfl (by decide) | exact Mine.Ev.sub rfl (by k_mem) rfl rfl ⟨_, rfl⟩ (by decide) (by decide) rfl rfl (by decide) | exact Mine.Ev.sub rfl (by k_mem) rfl rfl rfl (by decide) (by decide) rfl rfl (by decide) | exact Mine.Ev.glob (by assumption) (by assumption) (by k_is) ⟨_, rfl⟩ rfl rfl (by decide) | exact Mine.Ev.glob (by assumption) (by assumption) (by k_is) rfl rfl rfl (by decide) | fail "ev")) (fun v hv => ?_) rfl rfl rfl
    subst hv
    show Ex _ _ _ _ _ _ _ _ (fun v => ∃ t, v = .int (readsO nm ra1 rb1 rc1) t)
    refine Ex.if (by ((exact Mine.Bt.inS (by (first | exact Mine.Ev.constI | exact Mine.Ev.constS | exact Mine.Ev.constB | exact Mine.Ev.name rfl ⟨_, rfl⟩ rfl rfl (by decide) | exact Mine.Ev.name rfl rfl rfl rfl (by decide) | exact Mine.Ev.sub rfl (by k_mem) rfl rfl ⟨_, rfl⟩ (by decide) (by decide) rfl rfl (by decide) | exact Mine.Ev.sub rfl (by k_mem) rfl rfl rfl (by decide) (by decide) rfl rfl (by decide) | exact Mine.Ev.glob (by assumption) (by assumption) (by k_is) ⟨_, rfl⟩ rfl rfl (by decide) | exact Mine.Ev.glob (by assumption) (by assumption) (by k_is) rfl rfl rfl (by decide) | fail "ev")) (by (repeat (first | exact Mine.CS.nil | apply Mine.CS.cons))) (Nat.le_of_ble_eq_true rfl)))) (fun h1 => ?_) fun h1 => ?_
    · refine Ex.ret (Ev.mono (R' := IsI (memO nm ra1 rb1)) (Ev.call hC X T (mr_spec (.op nm ra1 rb1 rc1) ra hr2 hok2 rfl) (by walk_at "es") (fun t => ⟨t, rfl⟩) (by k_is) (by k_is) (by decide) (by decide) rfl rfl (by decide)) fun v hv => ?_)
      obtain ⟨t9, rfl⟩ := hv
      exact ⟨t9, congrArg (Value.int · t9) (by symm; rw [readsO, if_pos h1])⟩
    refine Ex.if (by ((exact Mine.Bt.inS (by (first | exact Mine.Ev.constI | exact Mine.Ev.constS | exact Mine.Ev.constB | exact Mine.Ev.name rfl ⟨_, rfl⟩ rfl rfl (by decide) | exact Mine.Ev.name rfl rfl rfl rfl (by decide) | exact Mine.Ev.sub rfl (by k_mem) rfl rfl ⟨_, rfl⟩ (by decide) (by decide) rfl rfl (by decide) | exact Mine.Ev.sub rfl (by k_mem) rfl rfl rfl (by decide) (by decide) rfl rfl (by decide) | exact Mine.Ev.glob (by assumption) (by assumption) (by k_is) ⟨_, rfl⟩ rfl rfl (by decide) | exact Mine.Ev.glob (by assumption) (by assumption) (by k_is) rfl rfl rfl (by decide) | fail "ev")) (by (repeat (first | exact Mine.CS.nil | apply Mine.CS.cons))) (Nat.le_of_ble_eq_true rfl)))) (fun h2 => absurd h2 (by rw [n6]; decide)) fun _ => ?_
    refine Ex.if (by ((exact Mine.Bt.eqS (by (first | exact Mine.Ev.constI | exact Mine.Ev.constS | exact Mine.Ev.constB | exact Mine.Ev.name rfl ⟨_, rfl⟩ rfl rfl (by decide) | exact Mine.Ev.name rfl rfl rfl rfl (by decide) | exact Mine.Ev.sub rfl (by k_mem) rfl rfl ⟨_, rfl⟩ (by decide) (by decide) rfl rfl (by decide) | exact Mine.Ev.sub rfl (by k_mem) rfl rfl rfl (by decide) (by decide) rfl rfl (by decide) | exact Mine.Ev.glob (by assumption) (by assumption) (by k_is) ⟨_, rfl⟩ rfl rfl (by decide) | exact Mine.Ev.glob (by assumption) (by assumption) (by k_is) rfl rfl rfl (by decide) | fail "ev")) (by (first | exact Mine.Ev.constI | exact Mine.Ev.constS | exact Mine.Ev.constB | exact Mine.Ev.name rfl ⟨_, rfl⟩ rfl rfl (by decide) | exact Mine.Ev.name rfl rfl rfl rfl (by decide) | exact Mine.Ev.sub rfl (by k_mem) rfl rfl ⟨_, rfl⟩ (by decide) (by decide) rfl rfl (by decide) | exact Mine.Ev.sub rfl (by k_mem) rfl rfl rfl (by decide) (by decide) rfl rfl (by decide) | exact Mine.Ev.glob (by assumption) (by assumption) (by k_is) ⟨_, rfl⟩ rfl rfl (by decide) | exact Mine.Ev.glob (by assumption) (by assumption) (by k_is) rfl rfl rfl (by decide) | fail "ev")) rfl))) (fun h3 => ?_) fun h3 => ?_
    · refine Ex.ret (Ev.mono (R' := IsI (2 ^ rc1.toNat)) (Ev.call hC X T (bit_spec _ _ hc0 (c_l hcl h3)) (by walk_at "es") (fun t => ⟨t, rfl⟩) (by k_is) (by k_is) (by decide) (by decide) rfl rfl (by decide)) fun v hv => ?_)
      obtain ⟨t9, rfl⟩ := hv
      exact ⟨t9, congrArg (Value.int · t9) (by symm; rw [readsO, if_neg (by rw [h1]; decide), if_pos h3])⟩
    refine Ex.if (by ((exact Mine.Bt.eqS (by (first | exact Mine.Ev.constI | exact Mine.Ev.constS | exact Mine.Ev.constB | exact Mine.Ev.name rfl ⟨_, rfl⟩ rfl rfl (by decide) | exact Mine.Ev.name rfl rfl rfl rfl (by decide) | exact Mine.Ev.sub rfl (by k_mem) rfl rfl ⟨_, rfl⟩ (by decide) (by decide) rfl rfl (by decide) | exact Mine.Ev.sub rfl (by k_mem) rfl rfl rfl (by decide) (by decide) rfl rfl (by decide) | exact Mine.Ev.glob (by assumption) (by assumption) (by k_is) ⟨_, rfl⟩ rfl rfl (by decide) | exact Mine.Ev.glob (by assumption) (by assumption) (by k_is) rfl rfl rfl (by decide) | fail "ev")) (by (first | exact Mine.Ev.constI | exact Mine.Ev.constS | exact Mine.Ev.constB | exact Mine.Ev.name rfl ⟨_, rfl⟩ rfl rfl (by decide) | exact Mine.Ev.name rfl rfl rfl rfl (by decide) | exact Mine.Ev.sub rfl (by k_mem) rfl rfl ⟨_, rfl⟩ (by decide) (by decide) rfl rfl (by decide) | exact Mine.Ev.sub rfl (by k_mem) rfl rfl rfl (by decide) (by decide) rfl rfl (by decide) | exact Mine.Ev.glob (by assumption) (by assumption) (by k_is) ⟨_, rfl⟩ rfl rfl (by decide) | exact Mine.Ev.glob (by assumption) (by assumption) (by k_is) rfl rfl rfl (by decide) | fail "ev")) rfl))) (fun h4 => ?_) fun h4 => ?_
    · refine Ex.ret (Ev.mono (R' := IsI (65536)) (Ev.call hC X T (bit_spec 16 _ (by decide) (by decide)) (by walk_at "es") (fun t => ⟨t, congrArg (Value.int · t) (by decide)⟩) (by k_is) (by k_is) (by decide) (by decide) rfl rfl (by decide)) fun v hv => ?_)
      obtain ⟨t9, rfl⟩ := hv
      exact ⟨t9, congrArg (Value.int · t9) (by symm; rw [readsO, if_neg (by rw [h1]; decide), if_neg (by rw [h3]; decide), if_pos h4])⟩
    refine Ex.if (b := regForms.any (· == nm)) (Bt.of (Ev.call hC X T (irf_spec nm t1) (by walk_at "es") (fun t => rfl) (by k_is) (by k_is) (by decide) (by decide) rfl rfl (by decide)) (fun _ _ _ h => nomatch h) (fun _ => rfl)) (fun h5 => ?_) fun h5 => ?_
    · refine Ex.ret (Ev.mono (R' := IsI (Builtin.bitOr (2 ^ rb1.toNat) (2 ^ rc1.toNat))) (Ev.bitor (i := 2 ^ rb1.toNat) (j := 2 ^ rc1.toNat) (Ev.call hC X T (bit_spec _ _ hb0 hb1) (by walk_at "es") (fun t => ⟨t, rfl⟩) (by k_is) (by k_is) (by decide) (by decide) rfl rfl (by decide)) (Ev.call hC X T (bit_spec _ _ hc0 (c_r hcl h5)) (by walk_at "es") (fun t => ⟨t, rfl⟩) (by k_is) (by k_is) (by decide) (by decide) rfl rfl (by decide))) fun v hv => ?_)
      obtain ⟨t9, rfl⟩ := hv
      exact ⟨t9, congrArg (Value.int · t9) (by symm; rw [readsO, if_neg (by rw [h1]; decide), if_neg (by rw [h3]; decide), if_neg (by rw [h4]; decide), if_pos h5])⟩
    refine Ex.if (b := immForms.any (· == nm)) (Bt.of (Ev.call hC X T (iif_spec nm t1 (op_all nm hn)) (by walk_at "es") (fun t => rfl) (by k_is) (by k_is) (by decide) (by decide) rfl rfl (by decide)) (fun _ _ _ h => nomatch h) (fun _ => rfl)) (fun h6 => ?_) fun h6 => ?_
    · refine Ex.ret (Ev.mono (R' := IsI (2 ^ rb1.toNat)) (Ev.call hC X T (bit_spec _ _ hb0 hb1) (by walk_at "es") (fun t => ⟨t, rfl⟩) (by k_is) (by k_is) (by decide) (by decide) rfl rfl (by decide)) fun v hv => ?_)
      obtain ⟨t9, rfl⟩ := hv
      exact ⟨t9, congrArg (Value.int · t9) (by symm; rw [readsO, if_neg (by rw [h1]; decide), if_neg (by rw [h3]; decide), if_neg (by rw [h4]; decide), if_neg (by rw [h5]; decide), if_pos h6])⟩
    · refine Ex.ret (Ev.mono (R' := IsI (0)) Ev.constI fun v hv => ?_)
      obtain ⟨t9, rfl⟩ := hv
      exact ⟨t9, congrArg (Value.int · t9) (by symm; rw [readsO, if_neg (by rw [h1]; decide), if_neg (by rw [h3]; decide), if_neg (by rw [h4]; decide), if_neg (by rw [h5]; decide), if_neg (by rw [h6]; decide)])⟩
  | br nm cd rx1 ry1 =>
    have hr2 := hr
    obtain ⟨t1, t2, t3, t4, n, hm⟩ := hr
    obtain ⟨n1, n2, n3, n4, n5, n6, n7, n8, n9, n10, n11⟩ := br_not nm hok.1
    refine Ex.set (R' := (· = .str nm t1)) (by (first | exact Mine.Ev.constI | exact Mine.Ev.constS | exact Mine.Ev.constB | exact Mine.Ev.name rfl ⟨_, rfl⟩ rfl rfl (by decide) | exact Mine.Ev.name rfl rfl rfl rfl (by decide) | exact Mine.Ev.sub rfl (by k_mem) rfl rfl ⟨_, rfl⟩ (by decide) (by decide) rfl rfl (by decide) | exact Mine.Ev.sub rfl (by k_mem) rfl rfl rfl (by decide) (by decide) rfl rfl (by decide) | exact Mine.Ev.glob (by assumption) (by assumption) (by k_is) ⟨_, rfl⟩ rfl rfl (by decide) | exact Mine.Ev.glob (by assumption) (by assumption) (by k_is) rfl rfl rfl (by decide) | fail "ev")) (fun v hv => ?_) rfl rfl rfl
    subst hv
    refine Ex.if (by ((exact Mine.Bt.inS (by (first | exact Mine.Ev.constI | exact Mine.Ev.constS | exact Mine.Ev.constB | exact Mine.Ev.name rfl ⟨_, rfl⟩ rfl rfl (by decide) | exact Mine.Ev.name rfl rfl rfl rfl (by decide) | exact Mine.Ev.sub rfl (by k_mem) rfl rfl ⟨_, rfl⟩ (by decide) (by decide) rfl rfl (by decide) | exact Mine.Ev.sub rfl (by k_mem) rfl rfl rfl (by decide) (by decide) rfl rfl (by decide) | exact Mine.Ev.glob (by assumption) (by assumption) (by k_is) ⟨_, rfl⟩ rfl rfl (by decide) | exact Mine.Ev.glob (by assumption) (by assumption) (by k_is) rfl rfl rfl (by decide) | fail "ev")) (by (repeat (first | exact Mine.CS.nil | apply Mine.CS.cons))) (Nat.le_of_ble_eq_true rfl)))) (fun h1 => absurd h1 (by rw [n10]; decide)) fun _ => ?_
    refine Ex.if (by ((exact Mine.Bt.inS (by (first | exact Mine.Ev.constI | exact Mine.Ev.constS | exact Mine.Ev.constB | exact Mine.Ev.name rfl ⟨_, rfl⟩ rfl rfl (by decide) | exact Mine.Ev.name rfl rfl rfl rfl (by decide) | exact Mine.Ev.sub rfl (by k_mem) rfl rfl ⟨_, rfl⟩ (by decide) (by decide) rfl rfl (by decide) | exact Mine.Ev.sub rfl (by k_mem) rfl rfl rfl (by decide) (by decide) rfl rfl (by decide) | exact Mine.Ev.glob (by assumption) (by assumption) (by k_is) ⟨_, rfl⟩ rfl rfl (by decide) | exact Mine.Ev.glob (by assumption) (by assumption) (by k_is) rfl rfl rfl (by decide) | fail "ev")) (by (repeat (first | exact Mine.CS.nil | apply Mine.CS.cons))) (Nat.le_of_ble_eq_true rfl)))) (fun _ => ?_) fun h2 => absurd h2 (by rw [n11]; decide)
    exact Ex.ret (Ev.call hC X T (br_spec (.br nm cd rx1 ry1) ra hr2 hok rfl) (by walk_at "es") (fun t => ⟨t, rfl⟩) (by k_is) (by k_is) (by decide) (by decide) rfl rfl (by decide))
theorem cw_spec : Ctr w mean mg mb 105 [] news 2 20 (Sca news fun t => .int 235519 t) := by
  refine' Ex.ctr (kd := 1) (ku := 17) [] ?_ ?_ ?_ ?_ ?_ ?_ ?_ ?_ ?_
  (((all_goals (try k_is)); (intro s; exact BindsTo.of_eq (by with_unfolding_all rfl)); (exact locs rfl); (exact rfl); (exact rfl); (exact rfl); decide))
  intro A h₀ L hC X T
  exact Ex.ret (Ev.mono (Ev.bitand (i := 262143) (j := Builtin.bitNot 26624) (by (first | exact Mine.Ev.constI | exact Mine.Ev.constS | exact Mine.Ev.constB | exact Mine.Ev.name rfl ⟨_, rfl⟩ rfl rfl (by decide) | exact Mine.Ev.name rfl rfl rfl rfl (by decide) | exact Mine.Ev.sub rfl (by k_mem) rfl rfl ⟨_, rfl⟩ (by decide) (by decide) rfl rfl (by decide) | exact Mine.Ev.sub rfl (by k_mem) rfl rfl rfl (by decide) (by decide) rfl rfl (by decide) | exact Mine.Ev.glob (by assumption) (by assumption) (by k_is) ⟨_, rfl⟩ rfl rfl (by decide) | exact Mine.Ev.glob (by assumption) (by assumption) (by k_is) rfl rfl rfl (by decide) | fail "ev")) (Ev.inv (by (first | exact Mine.Ev.constI | exact Mine.Ev.constS | exact Mine.Ev.constB | exact Mine.Ev.name rfl ⟨_, rfl⟩ rfl rfl (by decide) | exact Mine.Ev.name rfl rfl rfl rfl (by decide) | exact Mine.Ev.sub rfl (by k_mem) rfl rfl ⟨_, rfl⟩ (by decide) (by decide) rfl rfl (by decide) | exact Mine.Ev.sub rfl (by k_mem) rfl rfl rfl (by decide) (by decide) rfl rfl (by decide) | exact Mine.Ev.glob (by assumption) (by assumption) (by k_is) ⟨_, rfl⟩ rfl rfl (by decide) | exact Mine.Ev.glob (by assumption) (by assumption) (by k_is) rfl rfl rfl (by decide) | fail "ev")))) fun v hv => hv.elim fun t ht => ⟨t, ht.trans (congrArg (Value.int · t) (by decide))⟩)
theorem wr_spec (r : Ins) (ra : Addr) (hr : InsAt news ra r) (hok : r.ok) : Ctr w mean mg mb 112 [.ref ra] news 8 100 (Sca news fun t => .int r.writes t) := by
  refine' Ex.ctr (kd := 7) (ku := 97) [(Str.ofString "row", .ref ra)] ?_ ?_ ?_ ?_ ?_ ?_ ?_ ?_ ?_
  (((all_goals (try k_is)); (intro s; exact BindsTo.of_eq (by with_unfolding_all rfl)); (exact locs rfl); (exact rfl); (exact rfl); (exact rfl); decide))
  intro A h₀ L hC X T
  cases r with
  | op nm ra1 rb1 rc1 =>
    have hr2 := hr
    have hok2 := hok
    obtain ⟨t1, t2, t3, t4, n, hm⟩ := hr
    obtain ⟨n1, n2, n3, n4, n5, n6⟩ := op_not nm hok.1
    obtain ⟨hn, ⟨ha0, ha1⟩, ⟨hb0, hb1⟩, hc0, hc1⟩ := hok
    refine Ex.set (R' := (· = .str nm t1)) (by (first | exact Mine.Ev.constI | exact Mine.Ev.constS | exact Mine.Ev.constB | exact Mine.Ev.name rfl ⟨_, rfl⟩ rfl rfl (by decide) | exact Mine.Ev.name rfl rfl rfl rfl (by decide) | exact Mine.Ev.sub rfl (by k_mem) rfl rfl ⟨_, rfl⟩ (by decide) (by decide) rfl rfl (by decide) | exact Mine.Ev.sub rfl (by k_mem) rfl rfl rfl (by decide) (by decide) rfl rfl (by decide) | exact Mine.Ev.glob (by assumption) (by assumption) (by k_is) ⟨_, rfl⟩ rfl rfl (by decide) | exact Mine.Ev.glob (by assumption) (by assumption) (by k_is) rfl rfl rfl (by decide) | fail "ev")) (fun v hv => ?_) rfl rfl rfl
    subst hv
    show Ex _ _ _ _ _ _ _ _ (fun v => ∃ t, v = .int (writesO nm ra1 (Ins.setsF (.op nm ra1 rb1 rc1))) t)
    generalize hsf : Ins.setsF (.op nm ra1 rb1 rc1) = sf
    refine Ex.if (Bt.or (by ((exact Mine.Bt.eqS (by (first | exact Mine.Ev.constI | exact Mine.Ev.constS | exact Mine.Ev.constB | exact Mine.Ev.name rfl ⟨_, rfl⟩ rfl rfl (by decide) | exact Mine.Ev.name rfl rfl rfl rfl (by decide) | exact Mine.Ev.sub rfl (by k_mem) rfl rfl ⟨_, rfl⟩ (by decide) (by decide) rfl rfl (by decide) | exact Mine.Ev.sub rfl (by k_mem) rfl rfl rfl (by decide) (by decide) rfl rfl (by decide) | exact Mine.Ev.glob (by assumption) (by assumption) (by k_is) ⟨_, rfl⟩ rfl rfl (by decide) | exact Mine.Ev.glob (by assumption) (by assumption) (by k_is) rfl rfl rfl (by decide) | fail "ev")) (by (first | exact Mine.Ev.constI | exact Mine.Ev.constS | exact Mine.Ev.constB | exact Mine.Ev.name rfl ⟨_, rfl⟩ rfl rfl (by decide) | exact Mine.Ev.name rfl rfl rfl rfl (by decide) | exact Mine.Ev.sub rfl (by k_mem) rfl rfl ⟨_, rfl⟩ (by decide) (by decide) rfl rfl (by decide) | exact Mine.Ev.sub rfl (by k_mem) rfl rfl rfl (by decide) (by decide) rfl rfl (by decide) | exact Mine.Ev.glob (by assumption) (by assumption) (by k_is) ⟨_, rfl⟩ rfl rfl (by decide) | exact Mine.Ev.glob (by assumption) (by assumption) (by k_is) rfl rfl rfl (by decide) | fail "ev")) rfl))) (Bt.or1 (by ((exact Mine.Bt.eqS (by (first | exact Mine.Ev.constI | exact Mine.Ev.constS | exact Mine.Ev.constB | exact Mine.Ev.name rfl ⟨_, rfl⟩ rfl rfl (by decide) | exact Mine.Ev.name rfl rfl rfl rfl (by decide) | exact Mine.Ev.sub rfl (by k_mem) rfl rfl ⟨_, rfl⟩ (by decide) (by decide) rfl rfl (by decide) | exact Mine.Ev.sub rfl (by k_mem) rfl rfl rfl (by decide) (by decide) rfl rfl (by decide) | exact Mine.Ev.glob (by assumption) (by assumption) (by k_is) ⟨_, rfl⟩ rfl rfl (by decide) | exact Mine.Ev.glob (by assumption) (by assumption) (by k_is) rfl rfl rfl (by decide) | fail "ev")) (by (first | exact Mine.Ev.constI | exact Mine.Ev.constS | exact Mine.Ev.constB | exact Mine.Ev.name rfl ⟨_, rfl⟩ rfl rfl (by decide) | exact Mine.Ev.name rfl rfl rfl rfl (by decide) | exact Mine.Ev.sub rfl (by k_mem) rfl rfl ⟨_, rfl⟩ (by decide) (by decide) rfl rfl (by decide) | exact Mine.Ev.sub rfl (by k_mem) rfl rfl rfl (by decide) (by decide) rfl rfl (by decide) | exact Mine.Ev.glob (by assumption) (by assumption) (by k_is) ⟨_, rfl⟩ rfl rfl (by decide) | exact Mine.Ev.glob (by assumption) (by assumption) (by k_is) rfl rfl rfl (by decide) | fail "ev")) rfl))))) (fun h1 => ?_) fun h1 => ?_
    · refine Ex.ret (Ev.mono (R' := IsI (2 ^ ra1.toNat)) (Ev.call hC X T (bit_spec _ _ ha0 ha1) (by walk_at "es") (fun t => ⟨t, rfl⟩) (by k_is) (by k_is) (by decide) (by decide) rfl rfl (by decide)) fun v hv => ?_)
      obtain ⟨t9, rfl⟩ := hv
      exact ⟨t9, congrArg (Value.int · t9) (by symm; rw [writesO, if_pos h1])⟩
    refine Ex.if (Bt.or (by ((exact Mine.Bt.eqS (by (first | exact Mine.Ev.constI | exact Mine.Ev.constS | exact Mine.Ev.constB | exact Mine.Ev.name rfl ⟨_, rfl⟩ rfl rfl (by decide) | exact Mine.Ev.name rfl rfl rfl rfl (by decide) | exact Mine.Ev.sub rfl (by k_mem) rfl rfl ⟨_, rfl⟩ (by decide) (by decide) rfl rfl (by decide) | exact Mine.Ev.sub rfl (by k_mem) rfl rfl rfl (by decide) (by decide) rfl rfl (by decide) | exact Mine.Ev.glob (by assumption) (by assumption) (by k_is) ⟨_, rfl⟩ rfl rfl (by decide) | exact Mine.Ev.glob (by assumption) (by assumption) (by k_is) rfl rfl rfl (by decide) | fail "ev")) (by (first | exact Mine.Ev.constI | exact Mine.Ev.constS | exact Mine.Ev.constB | exact Mine.Ev.name rfl ⟨_, rfl⟩ rfl rfl (by decide) | exact Mine.Ev.name rfl rfl rfl rfl (by decide) | exact Mine.Ev.sub rfl (by k_mem) rfl rfl ⟨_, rfl⟩ (by decide) (by decide) rfl rfl (by decide) | exact Mine.Ev.sub rfl (by k_mem) rfl rfl rfl (by decide) (by decide) rfl rfl (by decide) | exact Mine.Ev.glob (by assumption) (by assumption) (by k_is) ⟨_, rfl⟩ rfl rfl (by decide) | exact Mine.Ev.glob (by assumption) (by assumption) (by k_is) rfl rfl rfl (by decide) | fail "ev")) rfl))) (Bt.or1 (by ((exact Mine.Bt.eqS (by (first | exact Mine.Ev.constI | exact Mine.Ev.constS | exact Mine.Ev.constB | exact Mine.Ev.name rfl ⟨_, rfl⟩ rfl rfl (by decide) | exact Mine.Ev.name rfl rfl rfl rfl (by decide) | exact Mine.Ev.sub rfl (by k_mem) rfl rfl ⟨_, rfl⟩ (by decide) (by decide) rfl rfl (by decide) | exact Mine.Ev.sub rfl (by k_mem) rfl rfl rfl (by decide) (by decide) rfl rfl (by decide) | exact Mine.Ev.glob (by assumption) (by assumption) (by k_is) ⟨_, rfl⟩ rfl rfl (by decide) | exact Mine.Ev.glob (by assumption) (by assumption) (by k_is) rfl rfl rfl (by decide) | fail "ev")) (by (first | exact Mine.Ev.constI | exact Mine.Ev.constS | exact Mine.Ev.constB | exact Mine.Ev.name rfl ⟨_, rfl⟩ rfl rfl (by decide) | exact Mine.Ev.name rfl rfl rfl rfl (by decide) | exact Mine.Ev.sub rfl (by k_mem) rfl rfl ⟨_, rfl⟩ (by decide) (by decide) rfl rfl (by decide) | exact Mine.Ev.sub rfl (by k_mem) rfl rfl rfl (by decide) (by decide) rfl rfl (by decide) | exact Mine.Ev.glob (by assumption) (by assumption) (by k_is) ⟨_, rfl⟩ rfl rfl (by decide) | exact Mine.Ev.glob (by assumption) (by assumption) (by k_is) rfl rfl rfl (by decide) | fail "ev")) rfl))))) (fun h2 => absurd h2 (by rw [n3, n4]; decide)) fun _ => ?_
    refine Ex.if (by ((exact Mine.Bt.eqS (by (first | exact Mine.Ev.constI | exact Mine.Ev.constS | exact Mine.Ev.constB | exact Mine.Ev.name rfl ⟨_, rfl⟩ rfl rfl (by decide) | exact Mine.Ev.name rfl rfl rfl rfl (by decide) | exact Mine.Ev.sub rfl (by k_mem) rfl rfl ⟨_, rfl⟩ (by decide) (by decide) rfl rfl (by decide) | exact Mine.Ev.sub rfl (by k_mem) rfl rfl rfl (by decide) (by decide) rfl rfl (by decide) | exact Mine.Ev.glob (by assumption) (by assumption) (by k_is) ⟨_, rfl⟩ rfl rfl (by decide) | exact Mine.Ev.glob (by assumption) (by assumption) (by k_is) rfl rfl rfl (by decide) | fail "ev")) (by (first | exact Mine.Ev.constI | exact Mine.Ev.constS | exact Mine.Ev.constB | exact Mine.Ev.name rfl ⟨_, rfl⟩ rfl rfl (by decide) | exact Mine.Ev.name rfl rfl rfl rfl (by decide) | exact Mine.Ev.sub rfl (by k_mem) rfl rfl ⟨_, rfl⟩ (by decide) (by decide) rfl rfl (by decide) | exact Mine.Ev.sub rfl (by k_mem) rfl rfl rfl (by decide) (by decide) rfl rfl (by decide) | exact Mine.Ev.glob (by assumption) (by assumption) (by k_is) ⟨_, rfl⟩ rfl rfl (by decide) | exact Mine.Ev.glob (by assumption) (by assumption) (by k_is) rfl rfl rfl (by decide) | fail "ev")) rfl))) (fun h3 => absurd h3 (by rw [n5]; decide)) fun _ => ?_
    refine Ex.if (b := !sf) (Bt.not (Bt.of (b := sf) (Ev.call hC X T (sf_spec (.op nm ra1 rb1 rc1) ra hr2 hok2) (by walk_at "es") (fun t => congrArg Value.bool hsf) (by k_is) (by k_is) (by decide) (by decide) rfl rfl (by decide)) (fun _ _ _ h => nomatch h) (fun _ => rfl))) (fun h4 => ?_) fun h4 => ?_
    · refine Ex.ret (Ev.mono (R' := IsI (0)) Ev.constI fun v hv => ?_)
      obtain ⟨t9, rfl⟩ := hv
      exact ⟨t9, congrArg (Value.int · t9) (by symm; rw [writesO, if_neg (by rw [h1]; decide), if_neg (by simpa using h4)])⟩
    refine Ex.set (R' := IsI (Builtin.bitOr (2 ^ ra1.toNat) 131072)) (Ev.bitor (i := 2 ^ ra1.toNat) (j := 131072) (Ev.call hC X T (bit_spec _ _ ha0 ha1) (by walk_at "es") (fun t => ⟨t, rfl⟩) (by k_is) (by k_is) (by decide) (by decide) rfl rfl (by decide)) (Ev.call hC X T (bit_spec 17 _ (by decide) (by decide)) (by walk_at "es") (fun t => ⟨t, congrArg (Value.int · t) (by decide)⟩) (by k_is) (by k_is) (by decide) (by decide) rfl rfl (by decide))) (fun v hv => ?_) rfl rfl rfl
    obtain ⟨t5, rfl⟩ := hv
    refine Ex.ifset (by ((exact Mine.Bt.inS (by (first | exact Mine.Ev.constI | exact Mine.Ev.constS | exact Mine.Ev.constB | exact Mine.Ev.name rfl ⟨_, rfl⟩ rfl rfl (by decide) | exact Mine.Ev.name rfl rfl rfl rfl (by decide) | exact Mine.Ev.sub rfl (by k_mem) rfl rfl ⟨_, rfl⟩ (by decide) (by decide) rfl rfl (by decide) | exact Mine.Ev.sub rfl (by k_mem) rfl rfl rfl (by decide) (by decide) rfl rfl (by decide) | exact Mine.Ev.glob (by assumption) (by assumption) (by k_is) ⟨_, rfl⟩ rfl rfl (by decide) | exact Mine.Ev.glob (by assumption) (by assumption) (by k_is) rfl rfl rfl (by decide) | fail "ev")) (by (repeat (first | exact Mine.CS.nil | apply Mine.CS.cons))) (Nat.le_of_ble_eq_true rfl)))) rfl (fun h => Ev.bitor (i := Builtin.bitOr (2 ^ ra1.toNat) 131072) (j := 65536) (by (first | exact Mine.Ev.constI | exact Mine.Ev.constS | exact Mine.Ev.constB | exact Mine.Ev.name rfl ⟨_, rfl⟩ rfl rfl (by decide) | exact Mine.Ev.name rfl rfl rfl rfl (by decide) | exact Mine.Ev.sub rfl (by k_mem) rfl rfl ⟨_, rfl⟩ (by decide) (by decide) rfl rfl (by decide) | exact Mine.Ev.sub rfl (by k_mem) rfl rfl rfl (by decide) (by decide) rfl rfl (by decide) | exact Mine.Ev.glob (by assumption) (by assumption) (by k_is) ⟨_, rfl⟩ rfl rfl (by decide) | exact Mine.Ev.glob (by assumption) (by assumption) (by k_is) rfl rfl rfl (by decide) | fail "ev")) (Ev.call hC X T (bit_spec 16 _ (by decide) (by decide)) (by walk_at "es") (fun t => ⟨t, congrArg (Value.int · t) (by decide)⟩) (by k_is) (by k_is) (by decide) (by decide) rfl rfl (by decide))) (fun t6 => ?_) rfl rfl rfl
    refine Ex.ret (Ev.mono (R' := (· = .int (if ((["MUL", "MULI", "DIV", "DIVI"] : List Str).any (· == nm)) = true then Builtin.bitOr (Builtin.bitOr (2 ^ ra1.toNat) 131072) 65536 else Builtin.bitOr (2 ^ ra1.toNat) 131072) t6)) (by (first | exact Mine.Ev.constI | exact Mine.Ev.constS | exact Mine.Ev.constB | exact Mine.Ev.name rfl ⟨_, rfl⟩ rfl rfl (by decide) | exact Mine.Ev.name rfl rfl rfl rfl (by decide) | exact Mine.Ev.sub rfl (by k_mem) rfl rfl ⟨_, rfl⟩ (by decide) (by decide) rfl rfl (by decide) | exact Mine.Ev.sub rfl (by k_mem) rfl rfl rfl (by decide) (by decide) rfl rfl (by decide) | exact Mine.Ev.glob (by assumption) (by assumption) (by k_is) ⟨_, rfl⟩ rfl rfl (by decide) | exact Mine.Ev.glob (by assumption) (by assumption) (by k_is) rfl rfl rfl (by decide) | fail "ev")) fun v hv => ⟨t6, hv.trans (congrArg (Value.int · t6) ?_)⟩)
    symm
    rw [writesO, if_neg (by rw [h1]; decide), if_pos (by simpa using h4)]
  | br nm cd rx1 ry1 =>
    have hr2 := hr
    have hok2 := hok
    obtain ⟨t1, t2, t3, t4, n, hm⟩ := hr
    obtain ⟨n1, n2, n3, n4, n5, n6, n7, n8, n9, n10, n11⟩ := br_not nm hok.1
    refine Ex.set (R' := (· = .str nm t1)) (by (first | exact Mine.Ev.constI | exact Mine.Ev.constS | exact Mine.Ev.constB | exact Mine.Ev.name rfl ⟨_, rfl⟩ rfl rfl (by decide) | exact Mine.Ev.name rfl rfl rfl rfl (by decide) | exact Mine.Ev.sub rfl (by k_mem) rfl rfl ⟨_, rfl⟩ (by decide) (by decide) rfl rfl (by decide) | exact Mine.Ev.sub rfl (by k_mem) rfl rfl rfl (by decide) (by decide) rfl rfl (by decide) | exact Mine.Ev.glob (by assumption) (by assumption) (by k_is) ⟨_, rfl⟩ rfl rfl (by decide) | exact Mine.Ev.glob (by assumption) (by assumption) (by k_is) rfl rfl rfl (by decide) | fail "ev")) (fun v hv => ?_) rfl rfl rfl
    subst hv
    show Ex _ _ _ _ _ _ _ _ (fun v => ∃ t, v = .int (writesB nm cd rx1 ry1) t)
    refine Ex.if (Bt.or (by ((exact Mine.Bt.eqS (by (first | exact Mine.Ev.constI | exact Mine.Ev.constS | exact Mine.Ev.constB | exact Mine.Ev.name rfl ⟨_, rfl⟩ rfl rfl (by decide) | exact Mine.Ev.name rfl rfl rfl rfl (by decide) | exact Mine.Ev.sub rfl (by k_mem) rfl rfl ⟨_, rfl⟩ (by decide) (by decide) rfl rfl (by decide) | exact Mine.Ev.sub rfl (by k_mem) rfl rfl rfl (by decide) (by decide) rfl rfl (by decide) | exact Mine.Ev.glob (by assumption) (by assumption) (by k_is) ⟨_, rfl⟩ rfl rfl (by decide) | exact Mine.Ev.glob (by assumption) (by assumption) (by k_is) rfl rfl rfl (by decide) | fail "ev")) (by (first | exact Mine.Ev.constI | exact Mine.Ev.constS | exact Mine.Ev.constB | exact Mine.Ev.name rfl ⟨_, rfl⟩ rfl rfl (by decide) | exact Mine.Ev.name rfl rfl rfl rfl (by decide) | exact Mine.Ev.sub rfl (by k_mem) rfl rfl ⟨_, rfl⟩ (by decide) (by decide) rfl rfl (by decide) | exact Mine.Ev.sub rfl (by k_mem) rfl rfl rfl (by decide) (by decide) rfl rfl (by decide) | exact Mine.Ev.glob (by assumption) (by assumption) (by k_is) ⟨_, rfl⟩ rfl rfl (by decide) | exact Mine.Ev.glob (by assumption) (by assumption) (by k_is) rfl rfl rfl (by decide) | fail "ev")) rfl))) (Bt.or1 (by ((exact Mine.Bt.eqS (by (first | exact Mine.Ev.constI | exact Mine.Ev.constS | exact Mine.Ev.constB | exact Mine.Ev.name rfl ⟨_, rfl⟩ rfl rfl (by decide) | exact Mine.Ev.name rfl rfl rfl rfl (by decide) | exact Mine.Ev.sub rfl (by k_mem) rfl rfl ⟨_, rfl⟩ (by decide) (by decide) rfl rfl (by decide) | exact Mine.Ev.sub rfl (by k_mem) rfl rfl rfl (by decide) (by decide) rfl rfl (by decide) | exact Mine.Ev.glob (by assumption) (by assumption) (by k_is) ⟨_, rfl⟩ rfl rfl (by decide) | exact Mine.Ev.glob (by assumption) (by assumption) (by k_is) rfl rfl rfl (by decide) | fail "ev")) (by (first | exact Mine.Ev.constI | exact Mine.Ev.constS | exact Mine.Ev.constB | exact Mine.Ev.name rfl ⟨_, rfl⟩ rfl rfl (by decide) | exact Mine.Ev.name rfl rfl rfl rfl (by decide) | exact Mine.Ev.sub rfl (by k_mem) rfl rfl ⟨_, rfl⟩ (by decide) (by decide) rfl rfl (by decide) | exact Mine.Ev.sub rfl (by k_mem) rfl rfl rfl (by decide) (by decide) rfl rfl (by decide) | exact Mine.Ev.glob (by assumption) (by assumption) (by k_is) ⟨_, rfl⟩ rfl rfl (by decide) | exact Mine.Ev.glob (by assumption) (by assumption) (by k_is) rfl rfl rfl (by decide) | fail "ev")) rfl))))) (fun h1 => absurd h1 (by rw [n3, n4]; decide)) fun _ => ?_
    refine Ex.if (Bt.or (by ((exact Mine.Bt.eqS (by (first | exact Mine.Ev.constI | exact Mine.Ev.constS | exact Mine.Ev.constB | exact Mine.Ev.name rfl ⟨_, rfl⟩ rfl rfl (by decide) | exact Mine.Ev.name rfl rfl rfl rfl (by decide) | exact Mine.Ev.sub rfl (by k_mem) rfl rfl ⟨_, rfl⟩ (by decide) (by decide) rfl rfl (by decide) | exact Mine.Ev.sub rfl (by k_mem) rfl rfl rfl (by decide) (by decide) rfl rfl (by decide) | exact Mine.Ev.glob (by assumption) (by assumption) (by k_is) ⟨_, rfl⟩ rfl rfl (by decide) | exact Mine.Ev.glob (by assumption) (by assumption) (by k_is) rfl rfl rfl (by decide) | fail "ev")) (by (first | exact Mine.Ev.constI | exact Mine.Ev.constS | exact Mine.Ev.constB | exact Mine.Ev.name rfl ⟨_, rfl⟩ rfl rfl (by decide) | exact Mine.Ev.name rfl rfl rfl rfl (by decide) | exact Mine.Ev.sub rfl (by k_mem) rfl rfl ⟨_, rfl⟩ (by decide) (by decide) rfl rfl (by decide) | exact Mine.Ev.sub rfl (by k_mem) rfl rfl rfl (by decide) (by decide) rfl rfl (by decide) | exact Mine.Ev.glob (by assumption) (by assumption) (by k_is) ⟨_, rfl⟩ rfl rfl (by decide) | exact Mine.Ev.glob (by assumption) (by assumption) (by k_is) rfl rfl rfl (by decide) | fail "ev")) rfl))) (Bt.or1 (by ((exact Mine.Bt.eqS (by (first | exact Mine.Ev.constI | exact Mine.Ev.constS | exact Mine.Ev.constB | exact Mine.Ev.name rfl ⟨_, rfl⟩ rfl rfl (by decide) | exact Mine.Ev.name rfl rfl rfl rfl (by decide) | exact Mine.Ev.sub rfl (by k_mem) rfl rfl ⟨_, rfl⟩ (by decide) (by decide) rfl rfl (by decide) | exact Mine.Ev.sub rfl (by k_mem) rfl rfl rfl (by decide) (by decide) rfl rfl (by decide) | exact Mine.Ev.glob (by assumption) (by assumption) (by k_is) ⟨_, rfl⟩ rfl rfl (by decide) | exact Mine.Ev.glob (by assumption) (by assumption) (by k_is) rfl rfl rfl (by decide) | fail "ev")) (by (first | exact Mine.Ev.constI | exact Mine.Ev.constS | exact Mine.Ev.constB | exact Mine.Ev.name rfl ⟨_, rfl⟩ rfl rfl (by decide) | exact Mine.Ev.name rfl rfl rfl rfl (by decide) | exact Mine.Ev.sub rfl (by k_mem) rfl rfl ⟨_, rfl⟩ (by decide) (by decide) rfl rfl (by decide) | exact Mine.Ev.sub rfl (by k_mem) rfl rfl rfl (by decide) (by decide) rfl rfl (by decide) | exact Mine.Ev.glob (by assumption) (by assumption) (by k_is) ⟨_, rfl⟩ rfl rfl (by decide) | exact Mine.Ev.glob (by assumption) (by assumption) (by k_is) rfl rfl rfl (by decide) | fail "ev")) rfl))))) (fun h2 => ?_) fun h2 => ?_
    · refine Ex.ret (Ev.mono (R' := IsI (if (cd == "AL") = true then 235519 else 0)) (Ev.ite (b := cd == "AL") (i := 235519) (j := 0) (by ((exact Mine.Bt.eqS (by (first | exact Mine.Ev.constI | exact Mine.Ev.constS | exact Mine.Ev.constB | exact Mine.Ev.name rfl ⟨_, rfl⟩ rfl rfl (by decide) | exact Mine.Ev.name rfl rfl rfl rfl (by decide) | exact Mine.Ev.sub rfl (by k_mem) rfl rfl ⟨_, rfl⟩ (by decide) (by decide) rfl rfl (by decide) | exact Mine.Ev.sub rfl (by k_mem) rfl rfl rfl (by decide) (by decide) rfl rfl (by decide) | exact Mine.Ev.glob (by assumption) (by assumption) (by k_is) ⟨_, rfl⟩ rfl rfl (by decide) | exact Mine.Ev.glob (by assumption) (by assumption) (by k_is) rfl rfl rfl (by decide) | fail "ev")) (by (first | exact Mine.Ev.constI | exact Mine.Ev.constS | exact Mine.Ev.constB | exact Mine.Ev.name rfl ⟨_, rfl⟩ rfl rfl (by decide) | exact Mine.Ev.name rfl rfl rfl rfl (by decide) | exact Mine.Ev.sub rfl (by k_mem) rfl rfl ⟨_, rfl⟩ (by decide) (by decide) rfl rfl (by decide) | exact Mine.Ev.sub rfl (by k_mem) rfl rfl rfl (by decide) (by decide) rfl rfl (by decide) | exact Mine.Ev.glob (by assumption) (by assumption) (by k_is) ⟨_, rfl⟩ rfl rfl (by decide) | exact Mine.Ev.glob (by assumption) (by assumption) (by k_is) rfl rfl rfl (by decide) | fail "ev")) rfl))) (fun _ => (Ev.call0 hC X T (cw_spec)  (fun t => ⟨t, rfl⟩) (by k_is) (by k_is) (by decide) (by decide) rfl rfl (by decide))) fun _ => Ev.constI) fun v hv => ?_)
      obtain ⟨t9, rfl⟩ := hv
      exact ⟨t9, congrArg (Value.int · t9) (by symm; rw [writesB, if_pos h2])⟩
    refine Ex.if (by ((exact Mine.Bt.eqS (by (first | exact Mine.Ev.constI | exact Mine.Ev.constS | exact Mine.Ev.constB | exact Mine.Ev.name rfl ⟨_, rfl⟩ rfl rfl (by decide) | exact Mine.Ev.name rfl rfl rfl rfl (by decide) | exact Mine.Ev.sub rfl (by k_mem) rfl rfl ⟨_, rfl⟩ (by decide) (by decide) rfl rfl (by decide) | exact Mine.Ev.sub rfl (by k_mem) rfl rfl rfl (by decide) (by decide) rfl rfl (by decide) | exact Mine.Ev.glob (by assumption) (by assumption) (by k_is) ⟨_, rfl⟩ rfl rfl (by decide) | exact Mine.Ev.glob (by assumption) (by assumption) (by k_is) rfl rfl rfl (by decide) | fail "ev")) (by (first | exact Mine.Ev.constI | exact Mine.Ev.constS | exact Mine.Ev.constB | exact Mine.Ev.name rfl ⟨_, rfl⟩ rfl rfl (by decide) | exact Mine.Ev.name rfl rfl rfl rfl (by decide) | exact Mine.Ev.sub rfl (by k_mem) rfl rfl ⟨_, rfl⟩ (by decide) (by decide) rfl rfl (by decide) | exact Mine.Ev.sub rfl (by k_mem) rfl rfl rfl (by decide) (by decide) rfl rfl (by decide) | exact Mine.Ev.glob (by assumption) (by assumption) (by k_is) ⟨_, rfl⟩ rfl rfl (by decide) | exact Mine.Ev.glob (by assumption) (by assumption) (by k_is) rfl rfl rfl (by decide) | fail "ev")) rfl))) (fun h3 => ?_) fun h3 => ?_
    · refine Ex.ret (Ev.mono (R' := IsI (if (cd == "AL" && (rx1 == 0 && ry1 == 2)) = true then 1 else 0)) (Ev.ite (b := cd == "AL" && (rx1 == 0 && ry1 == 2)) (i := 1) (j := 0) (Bt.and (by ((exact Mine.Bt.eqS (by (first | exact Mine.Ev.constI | exact Mine.Ev.constS | exact Mine.Ev.constB | exact Mine.Ev.name rfl ⟨_, rfl⟩ rfl rfl (by decide) | exact Mine.Ev.name rfl rfl rfl rfl (by decide) | exact Mine.Ev.sub rfl (by k_mem) rfl rfl ⟨_, rfl⟩ (by decide) (by decide) rfl rfl (by decide) | exact Mine.Ev.sub rfl (by k_mem) rfl rfl rfl (by decide) (by decide) rfl rfl (by decide) | exact Mine.Ev.glob (by assumption) (by assumption) (by k_is) ⟨_, rfl⟩ rfl rfl (by decide) | exact Mine.Ev.glob (by assumption) (by assumption) (by k_is) rfl rfl rfl (by decide) | fail "ev")) (by (first | exact Mine.Ev.constI | exact Mine.Ev.constS | exact Mine.Ev.constB | exact Mine.Ev.name rfl ⟨_, rfl⟩ rfl rfl (by decide) | exact Mine.Ev.name rfl rfl rfl rfl (by decide) | exact Mine.Ev.sub rfl (by k_mem) rfl rfl ⟨_, rfl⟩ (by decide) (by decide) rfl rfl (by decide) | exact Mine.Ev.sub rfl (by k_mem) rfl rfl rfl (by decide) (by decide) rfl rfl (by decide) | exact Mine.Ev.glob (by assumption) (by assumption) (by k_is) ⟨_, rfl⟩ rfl rfl (by decide) | exact Mine.Ev.glob (by assumption) (by assumption) (by k_is) rfl rfl rfl (by decide) | fail "ev")) rfl))) (Bt.and (Bt.eqI (x := rx1) (y := 0) (by (first | exact Mine.Ev.constI | exact Mine.Ev.constS | exact Mine.Ev.constB | exact Mine.Ev.name rfl ⟨_, rfl⟩ rfl rfl (by decide) | exact Mine.Ev.name rfl rfl rfl rfl (by decide) | exact Mine.Ev.sub rfl (by k_mem) rfl rfl ⟨_, rfl⟩ (by decide) (by decide) rfl rfl (by decide) | exact Mine.Ev.sub rfl (by k_mem) rfl rfl rfl (by decide) (by decide) rfl rfl (by decide) | exact Mine.Ev.glob (by assumption) (by assumption) (by k_is) ⟨_, rfl⟩ rfl rfl (by decide) | exact Mine.Ev.glob (by assumption) (by assumption) (by k_is) rfl rfl rfl (by decide) | fail "ev")) Ev.constI rfl) (Bt.and1 (Bt.eqI (x := ry1) (y := 2) (by (first | exact Mine.Ev.constI | exact Mine.Ev.constS | exact Mine.Ev.constB | exact Mine.Ev.name rfl ⟨_, rfl⟩ rfl rfl (by decide) | exact Mine.Ev.name rfl rfl rfl rfl (by decide) | exact Mine.Ev.sub rfl (by k_mem) rfl rfl ⟨_, rfl⟩ (by decide) (by decide) rfl rfl (by decide) | exact Mine.Ev.sub rfl (by k_mem) rfl rfl rfl (by decide) (by decide) rfl rfl (by decide) | exact Mine.Ev.glob (by assumption) (by assumption) (by k_is) ⟨_, rfl⟩ rfl rfl (by decide) | exact Mine.Ev.glob (by assumption) (by assumption) (by k_is) rfl rfl rfl (by decide) | fail "ev")) Ev.constI rfl)))) (fun _ => (Ev.callI hC X T (fun t => bit_spec 0 t (by decide) (by decide)) Ev.constI (fun t => ⟨t, congrArg (Value.int · t) (by decide)⟩) (by k_is) (by k_is) (by decide) (by decide) rfl rfl (by decide))) fun _ => Ev.constI) fun v hv => ?_)
      obtain ⟨t9, rfl⟩ := hv
      exact ⟨t9, congrArg (Value.int · t9) (by symm; rw [writesB, if_neg (by rw [h2]; decide), if_pos h3, Bool.and_assoc])⟩
    refine Ex.if (b := !false) (Bt.not (Bt.of (b := false) (Ev.call hC X T (sf_spec (.br nm cd rx1 ry1) ra hr2 hok2) (by walk_at "es") (fun t => rfl) (by k_is) (by k_is) (by decide) (by decide) rfl rfl (by decide)) (fun _ _ _ h => nomatch h) (fun _ => rfl))) (fun h4 => ?_) fun h4 => absurd h4 (by decide)
    refine Ex.ret (Ev.mono (R' := IsI (0)) Ev.constI fun v hv => ?_)
    obtain ⟨t9, rfl⟩ := hv
    exact ⟨t9, congrArg (Value.int · t9) (by symm; rw [writesB, if_neg (by rw [h2]; decide), if_neg (by rw [h3]; decide)])⟩
theorem lb_spec (r : Ins) (ra : Addr) (af : Int) (ta : Tok) (hr : InsAt news ra r) (hok : r.ok) : Ctr w mean mg mb 126 [.ref ra, .int af ta] news 10 130 (Sca news fun t => .int (Builtin.bitOr (Builtin.bitAnd af (Builtin.bitNot r.writes)) r.reads) t) := by
  refine' Ex.ctr (kd := 9) (ku := 127) [(Str.ofString "row", .ref ra), (Str.ofString "after", .int af ta)] ?_ ?_ ?_ ?_ ?_ ?_ ?_ ?_ ?_
  (((all_goals (try k_is)); (intro s; exact BindsTo.of_eq (by with_unfolding_all rfl)); (exact locs rfl); (exact rfl); (exact rfl); (exact rfl); decide))
  intro A h₀ L hC X T
  exact Ex.ret (Ev.bitor (Ev.bitand (i := af) (by (first | exact Mine.Ev.constI | exact Mine.Ev.constS | exact Mine.Ev.constB | exact Mine.Ev.name rfl ⟨_, rfl⟩ rfl rfl (by decide) | exact Mine.Ev.name rfl rfl rfl rfl (by decide) | exact Mine.Ev.sub rfl (by k_mem) rfl rfl ⟨_, rfl⟩ (by decide) (by decide) rfl rfl (by decide) | exact Mine.Ev.sub rfl (by k_mem) rfl rfl rfl (by decide) (by decide) rfl rfl (by decide) | exact Mine.Ev.glob (by assumption) (by assumption) (by k_is) ⟨_, rfl⟩ rfl rfl (by decide) | exact Mine.Ev.glob (by assumption) (by assumption) (by k_is) rfl rfl rfl (by decide) | fail "ev")) (Ev.inv (Ev.call hC X T (wr_spec r ra hr hok) (by walk_at "es") (fun t => ⟨t, rfl⟩) (by k_is) (by k_is) (by decide) (by decide) rfl rfl (by decide)))) (Ev.call hC X T (rd_spec r ra hr hok) (by walk_at "es") (fun t => ⟨t, rfl⟩) (by k_is) (by k_is) (by decide) (by decide) rfl rfl (by decide)))
end
end Mine
theorem Mine.off_A34m : True := by
  w_top off
  trivial
local macro_rules | `(tactic| walk_at "my row") => `(tactic| first | with_reducible assumption | exact Mine.InsAt.mono (by with_reducible assumption) (by ((intro p hp; repeat (first | exact hp | apply List.mem_cons_of_mem)))))
theorem Mine.off_A5 : True := by
  w_top off
  trivial
namespace Mine
/-- an item of a list of the ledger at a place that is not written -/
theorem item_in {prog : Program} {w : World} {A : Around} {E : Value → Shared → Prop} {s : Shared} {h₀ : Heap} {L l : Addr} {news : List (Addr × Obj)} {value slice : PySem.Expr} {vs : List Value} {n : Nat} {k : Int} {u : Tok} {v : Value} {Q : Value → Shared → Prop}
    (N : News h₀ L s.heap news) (hm : (l, listOf vs.toArray n) ∈ news) (hx : vs[k.toNat]? = some v) (h0 : 0 ≤ k) (hhi : k < 2 ^ 63) (h : Q v s)
    (hs : subscripted slice false (.ref l) (.int k u) = operate [.ref l, .int k u] (getItem (.ref l) (.int k u)) := by with_unfolding_all rfl) :
    wpAny (model prog w) A (subscriptTail value slice (.ref l) (.int k u)) Q E s :=
  have hl : s.heap.IsList l vs.toArray := ⟨_, N.get hm, rfl, n, rfl⟩
  tail_any hl.typeIs slot_list_getitem.lookup (wpAny_getItem_list hl h0 hhi (by simpa using hx) h) hs
theorem len_in {prog : Program} {w : World} {A : Around} {E : Value → Shared → Prop} {s : Shared} {h₀ : Heap} {L l : Addr} {news : List (Addr × Obj)} {vs : List Value} {n : Nat} {Q : Value → Shared → Prop}
    (N : News h₀ L s.heap news) (hm : (l, listOf vs.toArray n) ∈ news) (hfit : (vs.length : Int) < 2 ^ 63)
    (h : Q (.int (vs.length : Int) (s.toks + 1)) { s with toks := s.toks + 1 + 1 }) : wpAny (model prog w) A (call (.builtin "len") [.ref l]) Q E s :=
  have hl : s.heap.IsList l vs.toArray := ⟨_, N.get hm, rfl, n, rfl⟩
  len_list hl (by simpa using hfit) (by simpa using h)
theorem any_one {a b : Int} (h : ([a].any fun x => x == a + b) = true) : b = 0 := by
  simp only [List.any_cons, List.any_nil, Bool.or_false, beq_iff_eq] at h
  omega
theorem news_two {h₀ h : Heap} {L : Addr} {p q : Addr × Obj} {news : List (Addr × Obj)} (N : News h₀ L h (p :: q :: news)) : News h₀ L h (p :: news) := fun x hx => N x (by
  rcases List.mem_cons.mp hx with rfl | hx
  · exact .head _
  · exact .tail _ (.tail _ hx))
end Mine
local macro_rules | `(tactic| walk_at "call builtin:list.append") => `(tactic| (k_here; (with_reducible show wpAny _ _ (call (Value.builtin _) [Value.ref _, _]) _ _ _); k_dflt (refine' append_K ?k1 ?k2 ?k3 ?_ ?z; (case k1 => k_asm); (case k2 => k_asm); (case k3 => k_upd); (case z => exact Nat.le_of_ble_eq_true rfl); k_whole); intro h' F' N'; (try dsimp only at N'); (try k_sweep)))
local macro_rules | `(tactic| walk_at "call builtin:len") => `(tactic| (k_here; (with_reducible show wpAny _ _ (call (Value.builtin "len") [Value.ref _]) _ _ _); k_dflt (refine' Mine.len_in ?N ?m ?f ?_; (case N => k_asm); (case m => ((repeat (first | (with_reducible exact List.mem_cons_self) | (with_reducible assumption) | (with_reducible refine' List.mem_cons_of_mem _ ?_) | (with_reducible refine' List.mem_append_right _ ?_))); done)); (case f => first | omega | (simp; omega) | decide))))
local macro_rules | `(tactic| walk_at "subscriptTail") => `(tactic| (k_here; (with_reducible show wpAny _ _ (subscriptTail _ _ (Value.ref _) (Value.int _ _)) _ _ _); k_dflt (refine' Mine.item_in ?N ?m ?x ?a ?b ?_; (case N => k_asm); (case m => ((repeat (first | (with_reducible exact List.mem_cons_self) | (with_reducible assumption) | (with_reducible refine' List.mem_cons_of_mem _ ?_) | (with_reducible refine' List.mem_append_right _ ?_))); done)); (case x => k_asm); (case a => omega); (case b => omega))))
namespace Mine
section
variable {w : World} {mean : ExcName → Option Value} {mg mb : Str → Option Value} {news : List (Addr × Obj)}
noncomputable def SuccP (r : Ins) (i n x : Int) : Prop := (r.falls = true ∧ i + 1 < n ∧ x = i + 1) ∨ (r.isB = true ∧ r.jumps = true ∧ x = i + 1 + r.off ∧ 0 ≤ x ∧ x < n)
noncomputable def ListOut (news : List (Addr × Obj)) (P : List Int → Prop) (r : Value) (nw : List (Addr × Obj)) : Prop :=
  ∃ l us c ns, r = .ref l ∧ nw = (l, listOf us.toArray c) :: news ∧ (∀ p ∈ news, p.1 < l) ∧ IntsAre us ns ∧ P ns
end
end Mine
theorem Mine.off_A5w : True := by
  w_top off
  trivial
namespace Mine
section
variable {w : World} {A : Around} {h₀ : Heap} {L a : Addr} {cn : Str} {cs : Scope} {cd : Value} {m : Str → Option Value} {news : List (Addr × Obj)} {R : Value → Prop}
theorem Ev.item {x y : Str} {p1 p2 p3 : Pos} {l : Addr} {vs : List Value} {c : Nat} {i : Int} {t : Tok} {u : Value} (hx : m x = some (.ref l)) (hy : m y = some (.int i t)) (hm : (l, listOf vs.toArray c) ∈ news) (hu : vs[i.toNat]? = some u) (hv : R u) (h0 : 0 ≤ i) (h1 : i < 2 ^ 63) (hk : cs.kind = ScopeKind.function) (hl : (envOf cn cs L a cd).kindOf x = some NameKind.local) (hd : (x == Str.ofString "__debug__") = false) (hl2 : (envOf cn cs L a cd).kindOf y = some NameKind.local) (hd2 : (y == Str.ofString "__debug__") = false) : Ev w A h₀ L (envOf cn cs L a cd) m news (.Subscript (.Name x p1) (.Name y p2) p3) R :=
  fun _ s _ F N q => Subscript_ (ld F hx (ld F hy (item_in N hm hu h0 h1 (q _ s.heap s.toks hv F N) (by with_unfolding_all rfl)) hk hl2 hd2) hk hl hd)
theorem Ev.len {mg mb : Str → Option Value} {p : Program} {loose : List Str} {y : Str} {ps py ps' : Pos} {l : Addr} {vs : List Value} {c : Nat} (X : (hd.heap_39 w.params).In h₀) (T : TopRead p loose mg mb h₀) (hy : m y = some (.ref l)) (hm : (l, listOf vs.toArray c) ∈ news) (hs : (vs.length : Int) < 2 ^ 63) (hn : nsIn (hd.heap_39 w.params) mainGlobals (Str.ofString "len") = some none) (hbt : bootBuiltins (Str.ofString "len") = some (.builtin "len")) (hk : cs.kind = ScopeKind.function) (hl : (envOf cn cs L a cd).kindOf (Str.ofString "len") = some NameKind.globalImplicit) (hly : (envOf cn cs L a cd).kindOf y = some NameKind.local) (hdy : (y == Str.ofString "__debug__") = false)
    (s1 : eval (PySem.Expr.Call (.Name (Str.ofString "len") ps) [.Name y py] [] ps') (envOf cn cs L a cd) = (do let f ← eval (.Name (Str.ofString "len") ps) (envOf cn cs L a cd); callWith ps' f [] (backTo ps' (starEach [.Name y py] (envOf cn cs L a cd))) (backToKw ps' (keywordEach [] (envOf cn cs L a cd)))) := by rfl) :
    Ev w A h₀ L (envOf cn cs L a cd) m news (.Call (.Name (Str.ofString "len") ps) [.Name y py] [] ps') (IsI vs.length) := by
  intro E s Q F N q
  refine Call_ (name_B F X T hn hbt (by decide) ?_ hk hl (by decide)) s1
  refine PyProof.Rows.callWith_builtin1 ?_
  refine args_cons (ld F hy ?_ hk hly hdy) rfl
  refine args_nil ?_
  exact len_in N hm hs (q _ s.heap _ ⟨_, rfl⟩ F N)
theorem Ev.geI {env : Env} {l r : PySem.Expr} {p : Pos} {x y : Int} (h1 : Ev w A h₀ L env m news l (IsI x)) (h2 : Ev w A h₀ L env m news r (IsI y)) (hb : behindInMarks .GtE r = false := by rfl) : Ev w A h₀ L env m news (.Compare l [.GtE] [r] p) (IsB (decide (y ≤ x))) := by
  intro E s Q F N q
  refine wpAny_Compare1 (h1 E s _ F N ?_) hb
  rintro _ h n ⟨t, rfl⟩ F1 N1
  refine h2 E _ _ F1 N1 ?_
  rintro _ h n ⟨t, rfl⟩ F2 N2
  exact ge_int (q _ _ _ rfl F2 N2)
theorem Bt.neI {env : Env} {l r : PySem.Expr} {p : Pos} {x y : Int} (h1 : Ev w A h₀ L env m news l (IsI x)) (h2 : Ev w A h₀ L env m news r (IsI y)) (hb : behindInMarks .NotEq r = false := by rfl) : Bt w A h₀ L env m news (.Compare l [.NotEq] [r] p) (x != y) := by
  refine Bt.cmp (fun E s Q F N q => h1 E s _ F N ?_) hb
  rintro _ h n ⟨t, rfl⟩ F1 N1
  refine h2 E _ _ F1 N1 ?_
  rintro _ h n ⟨t, rfl⟩ F2 N2
  exact ne_int (q _ _ F2 N2)
/-- l <= r1 < r2 -/
theorem Bt.chain {env : Env} {l r1 r2 : PySem.Expr} {p : Pos} {x y z : Int} (h1 : Ev w A h₀ L env m news l (IsI x)) (h2 : Ev w A h₀ L env m news r1 (IsI y)) (h3 : Ev w A h₀ L env m news r2 (IsI z)) (hb : lastMarks [.LtE, .Lt] [r1, r2] = false) : Bt w A h₀ L env m news (.Compare l [.LtE, .Lt] [r1, r2] p) (decide (x ≤ y) && decide (y < z)) := by
  intro whole _ E s Q F N q
  refine isTrue_chain (h1 E s _ F N ?_) hb
  rintro _ h n ⟨t, rfl⟩ F1 N1
  refine test_link (h2 E _ _ F1 N1 ?_)
  rintro _ h n ⟨t, rfl⟩ F2 N2
  refine le_int (wpAny_truthy_bool ?_)
  by_cases hxy : x ≤ y
  · rw [if_pos (decide_eq_true hxy)]
    refine test_last (h3 E _ _ F2 N2 ?_)
    rintro _ h n ⟨t, rfl⟩ F3 N3
    refine lt_int (wpAny_truthy_bool ?_)
    have := q h n F3 N3
    rw [decide_eq_true hxy, Bool.true_and] at this
    exact this
  · rw [if_neg (by rw [decide_eq_false hxy]; decide)]
    have := q h n F2 N2
    rw [decide_eq_false hxy, Bool.false_and] at this
    exact this
end
section
variable {w : World} {mean : ExcName → Option Value} {mg mb : Str → Option Value} {news : List (Addr × Obj)}
theorem rowT {news : List (Addr × Obj)} {ra : Addr} {r : Ins} (h : InsAt news ra r) : ∃ nm v1 x y t1 t3 t4 n, ((∃ a t, r = .op nm a x y ∧ v1 = .int a t) ∨ (∃ cd t, r = .br nm cd x y ∧ v1 = .str cd t)) ∧ (ra, ({ cls := .type "tuple", data := .seq #[.str nm t1, v1, .int x t3, .int y t4] n } : Obj)) ∈ news := by
  cases r with
  | op nm a b c =>
    obtain ⟨t1, t2, t3, t4, n, h⟩ := h
    exact ⟨nm, _, b, c, t1, t3, t4, n, .inl ⟨a, t2, rfl, rfl⟩, h⟩
  | br nm cd x y =>
    obtain ⟨t1, t2, t3, t4, n, h⟩ := h
    exact ⟨nm, _, x, y, t1, t3, t4, n, .inr ⟨cd, t2, rfl, rfl⟩, h⟩
theorem lu_eq {r : Ins} {nm : Str} {x y i n : Int} {v1 : Value} (hok : r.ok) (hG : (∃ a t, r = .op nm a x y ∧ v1 = .int a t) ∨ (∃ cd t, r = .br nm cd x y ∧ v1 = .str cd t)) : r.isBR = (nm == "BR" && x != 15) ∧ r.isB = (nm == "B") ∧ ((nm == ("B" : Str)) = true → r.isBr = true) := by
  rcases hG with ⟨a, t, rfl, -⟩ | ⟨cd, t, rfl, -⟩
  · obtain ⟨n1, n2, -⟩ := op_not nm hok.1
    refine ⟨?_, ?_, fun h => ?_⟩
    · rw [n2]
      rfl
    · rw [n1]
      rfl
    · rw [n1] at h
      exact absurd h (by decide)
  · exact ⟨rfl, rfl, fun _ => rfl⟩
theorem lu_spec (r : Ins) (ra R : Addr) (refs : List Value) (nR : Nat) (i : Int) (ti : Tok) (hR : (R, listOf refs.toArray nR) ∈ news) (hx : refs[i.toNat]? = some (.ref ra)) (h0 : 0 ≤ i) (hi : i < refs.length) (hn8 : refs.length ≤ 8) (hr : InsAt news ra r) (hok : r.ok) :
    Ctr w mean mg mb 119 [.ref R, .int i ti] news 6 80 (Sca news fun _ => .bool (unk r i refs.length)) := by
  obtain ⟨nm, v1, x, y, t1, t3, t4, n, hG, hm⟩ := rowT hr
  obtain ⟨e1, e2, e3⟩ := lu_eq (i := i) (n := refs.length) hok hG
  refine' Ex.ctr (kd := 5) (ku := 77) [(Str.ofString "rows", .ref R), (Str.ofString "index", .int i ti)] ?_ ?_ ?_ ?_ ?_ ?_ ?_ ?_ ?_
  (((all_goals (try k_is)); (intro s; exact BindsTo.of_eq (by with_unfolding_all rfl)); (exact locs rfl); (exact rfl); (exact rfl); (exact rfl); decide))
  intro A h₀ L hC X T
  refine Ex.set (R' := (· = .ref ra)) (Ev.item rfl rfl hR hx rfl h0 (by omega) rfl rfl (by decide) rfl (by decide)) (fun v hv => ?_) rfl rfl rfl
  subst hv
  refine Ex.if (b := nm == "BR" && x != 15) (Bt.and (by ((exact Mine.Bt.eqS (by (first | exact Mine.Ev.constI | exact Mine.Ev.constS | exact Mine.Ev.constB | exact Mine.Ev.name rfl ⟨_, rfl⟩ rfl rfl (by decide) | exact Mine.Ev.name rfl rfl rfl rfl (by decide) | exact Mine.Ev.sub rfl (by k_mem) rfl rfl ⟨_, rfl⟩ (by decide) (by decide) rfl rfl (by decide) | exact Mine.Ev.sub rfl (by k_mem) rfl rfl rfl (by decide) (by decide) rfl rfl (by decide) | exact Mine.Ev.glob (by assumption) (by assumption) (by k_is) ⟨_, rfl⟩ rfl rfl (by decide) | exact Mine.Ev.glob (by assumption) (by assumption) (by k_is) rfl rfl rfl (by decide) | fail "ev")) (by (first | exact Mine.Ev.constI | exact Mine.Ev.constS | exact Mine.Ev.constB | exact Mine.Ev.name rfl ⟨_, rfl⟩ rfl rfl (by decide) | exact Mine.Ev.name rfl rfl rfl rfl (by decide) | exact Mine.Ev.sub rfl (by k_mem) rfl rfl ⟨_, rfl⟩ (by decide) (by decide) rfl rfl (by decide) | exact Mine.Ev.sub rfl (by k_mem) rfl rfl rfl (by decide) (by decide) rfl rfl (by decide) | exact Mine.Ev.glob (by assumption) (by assumption) (by k_is) ⟨_, rfl⟩ rfl rfl (by decide) | exact Mine.Ev.glob (by assumption) (by assumption) (by k_is) rfl rfl rfl (by decide) | fail "ev")) rfl))) (Bt.and1 (Bt.neI (x := x) (y := 15) (by (first | exact Mine.Ev.constI | exact Mine.Ev.constS | exact Mine.Ev.constB | exact Mine.Ev.name rfl ⟨_, rfl⟩ rfl rfl (by decide) | exact Mine.Ev.name rfl rfl rfl rfl (by decide) | exact Mine.Ev.sub rfl (by k_mem) rfl rfl ⟨_, rfl⟩ (by decide) (by decide) rfl rfl (by decide) | exact Mine.Ev.sub rfl (by k_mem) rfl rfl rfl (by decide) (by decide) rfl rfl (by decide) | exact Mine.Ev.glob (by assumption) (by assumption) (by k_is) ⟨_, rfl⟩ rfl rfl (by decide) | exact Mine.Ev.glob (by assumption) (by assumption) (by k_is) rfl rfl rfl (by decide) | fail "ev")) (by (first | exact Mine.Ev.constI | exact Mine.Ev.constS | exact Mine.Ev.constB | exact Mine.Ev.name rfl ⟨_, rfl⟩ rfl rfl (by decide) | exact Mine.Ev.name rfl rfl rfl rfl (by decide) | exact Mine.Ev.sub rfl (by k_mem) rfl rfl ⟨_, rfl⟩ (by decide) (by decide) rfl rfl (by decide) | exact Mine.Ev.sub rfl (by k_mem) rfl rfl rfl (by decide) (by decide) rfl rfl (by decide) | exact Mine.Ev.glob (by assumption) (by assumption) (by k_is) ⟨_, rfl⟩ rfl rfl (by decide) | exact Mine.Ev.glob (by assumption) (by assumption) (by k_is) rfl rfl rfl (by decide) | fail "ev")) rfl))) (fun h => ?_) fun h4 => ?_
  · refine Ex.ret (Ev.mono Ev.constB fun v hv => ⟨0, ?_⟩)
    rw [hv, unk, e1, h]
    rfl
  refine Ex.if (b := nm == "B" && !(decide (0 ≤ i + 1 + r.off) && decide (i + 1 + r.off < refs.length))) (Bt.andG (by ((exact Mine.Bt.eqS (by (first | exact Mine.Ev.constI | exact Mine.Ev.constS | exact Mine.Ev.constB | exact Mine.Ev.name rfl ⟨_, rfl⟩ rfl rfl (by decide) | exact Mine.Ev.name rfl rfl rfl rfl (by decide) | exact Mine.Ev.sub rfl (by k_mem) rfl rfl ⟨_, rfl⟩ (by decide) (by decide) rfl rfl (by decide) | exact Mine.Ev.sub rfl (by k_mem) rfl rfl rfl (by decide) (by decide) rfl rfl (by decide) | exact Mine.Ev.glob (by assumption) (by assumption) (by k_is) ⟨_, rfl⟩ rfl rfl (by decide) | exact Mine.Ev.glob (by assumption) (by assumption) (by k_is) rfl rfl rfl (by decide) | fail "ev")) (by (first | exact Mine.Ev.constI | exact Mine.Ev.constS | exact Mine.Ev.constB | exact Mine.Ev.name rfl ⟨_, rfl⟩ rfl rfl (by decide) | exact Mine.Ev.name rfl rfl rfl rfl (by decide) | exact Mine.Ev.sub rfl (by k_mem) rfl rfl ⟨_, rfl⟩ (by decide) (by decide) rfl rfl (by decide) | exact Mine.Ev.sub rfl (by k_mem) rfl rfl rfl (by decide) (by decide) rfl rfl (by decide) | exact Mine.Ev.glob (by assumption) (by assumption) (by k_is) ⟨_, rfl⟩ rfl rfl (by decide) | exact Mine.Ev.glob (by assumption) (by assumption) (by k_is) rfl rfl rfl (by decide) | fail "ev")) rfl))) fun h => Bt.and1 (Bt.not (Bt.chain Ev.constI (Ev.call hC X T (to_spec r ra i ti hr hok (e3 h)) (by walk_at "es") (fun t => ⟨t, rfl⟩) (by k_is) (by k_is) (by decide) (by decide) rfl rfl (by decide)) (Ev.len X T rfl hR (by omega) (by k_is) (by boot_by_name) rfl rfl rfl (by decide)) rfl))) (fun h => ?_) fun h5 => ?_
  · refine Ex.ret (Ev.mono Ev.constB fun v hv => ⟨0, ?_⟩)
    rw [hv, unk, e1, e2, h4, h]
    rfl
  refine Ex.ret (Ev.mono (Ev.andB (b := r.falls) (c := decide ((refs.length : Int) ≤ i + 1)) (Ev.call hC X T (ft_spec r ra hr hok) (by walk_at "es") (fun t => rfl) (by k_is) (by k_is) (by decide) (by decide) rfl rfl (by decide)) (Ev.oneB (Ev.geI (Ev.add (i := i) (by (first | exact Mine.Ev.constI | exact Mine.Ev.constS | exact Mine.Ev.constB | exact Mine.Ev.name rfl ⟨_, rfl⟩ rfl rfl (by decide) | exact Mine.Ev.name rfl rfl rfl rfl (by decide) | exact Mine.Ev.sub rfl (by k_mem) rfl rfl ⟨_, rfl⟩ (by decide) (by decide) rfl rfl (by decide) | exact Mine.Ev.sub rfl (by k_mem) rfl rfl rfl (by decide) (by decide) rfl rfl (by decide) | exact Mine.Ev.glob (by assumption) (by assumption) (by k_is) ⟨_, rfl⟩ rfl rfl (by decide) | exact Mine.Ev.glob (by assumption) (by assumption) (by k_is) rfl rfl rfl (by decide) | fail "ev")) Ev.constI) (Ev.len X T rfl hR (by omega) (by k_is) (by boot_by_name) rfl rfl rfl (by decide))))) fun v hv => ⟨0, ?_⟩)
  rw [hv, unk, e1, e2, h4, h5]
  rfl
end
end Mine
theorem Mine.off_A5s : True := by
  w_top off
  trivial
namespace Mine
/-! a list (found) that is filled and sorted -/
section
variable {w : World} {A : Around} {h₀ : Heap} {L a D : Addr} {cn : Str} {cs : Scope} {cd : Value} {m : Str → Option Value} {news : List (Addr × Obj)} {ns : List Int} {K : List Int → Prop}
noncomputable def Fx (w : World) (A : Around) (h₀ : Heap) (L D : Addr) (news : List (Addr × Obj)) (env : Env) (m : Str → Option Value) (ns : List Int) (ss : List Stmt) (K : List Int → Prop) : Prop :=
  ∀ (E : Value → Shared → Prop) (s : Shared) (Q : Flow → Shared → Prop) (us : List Value) (c : Nat), IntsAre us ns → Fr h₀ L s.heap m → News h₀ L s.heap ((D, listOf us.toArray c) :: news) → (∀ l us' c' ns' m' h n, K ns' → (∀ p ∈ news, p.1 < l) → IntsAre us' ns' → Fr h₀ L h m' → News h₀ L h ((l, listOf us'.toArray c') :: news) → Q (.ret (.ref l)) { s with heap := h, toks := n }) → wpAny (model PySem.Challenge.pw_pb0326_01 w) A (execs ss env) Q E s
theorem app_ints {us : List Value} {ns : List Int} {x : Int} {t : Tok} (h : IntsAre us ns) : IntsAre (us ++ [.int x t]) (ns ++ [x]) := by
  induction h with
  | nil => exact .cons x t .nil
  | cons k u _ ih => exact .cons k u ih
/-- the statement found.append(e) -/
theorem app_in {x : Str} {e : PySem.Expr} {p1 p2 p3 p4 : Pos} {i : Int} {us : List Value} {c : Nat} {E : Value → Shared → Prop} {s : Shared} {Q : Flow → Shared → Prop} (hi : IntsAre us ns) (hl : ns.length ≤ 1000) (hoff : ∀ p ∈ news, p.1 ≠ D) (hx : m x = some (.ref D)) (he : ∀ (us : List Value) (c : Nat), Ev w A h₀ L (envOf cn cs L a cd) m ((D, listOf us.toArray c) :: news) e (IsI i)) (hk : cs.kind = ScopeKind.function) (hlx : (envOf cn cs L a cd).kindOf x = some NameKind.local) (hd : (x == Str.ofString "__debug__") = false)
    {pl : Sem Bool} (s1 : eval ((PySem.Expr.Attribute (.Name x p1) (Str.ofString "append") p2).Call [e] [] p3) (envOf cn cs L a cd) = (do let ov ← eval (.Name x p1) (envOf cn cs L a cd); standAt p2.atName; let q ← holding [ov] (getMethod ov (Str.ofString "append") pl); match q with | (f, first) => callWith p3 f first (backTo p3 (starEach [e] (envOf cn cs L a cd))) []))
    (s5 : starEach [e] (envOf cn cs L a cd) = (false, eval e (envOf cn cs L a cd)) :: starEach [] (envOf cn cs L a cd))
    (s2 : interactive (envOf cn cs L a cd) = false) (s3 : swapsWith ((PySem.Expr.Attribute (.Name x p1) (Str.ofString "append") p2).Call [e] [] p3) none p4.line (envOf cn cs L a cd) = pure false)
    (F : Fr h₀ L s.heap m) (N : News h₀ L s.heap ((D, listOf us.toArray c) :: news))
    (q : ∀ us' h n, IntsAre us' (ns ++ [i]) → Fr h₀ L h m → News h₀ L h ((D, listOf us'.toArray (c + 1)) :: news) → Q .next { s with heap := h, toks := n }) :
    wpAny (model PySem.Challenge.pw_pb0326_01 w) A (exec (.Expr ((PySem.Expr.Attribute (.Name x p1) (Str.ofString "append") p2).Call [e] [] p3) p4) (envOf cn cs L a cd)) Q E s := by
  refine wpAny_Expr ?_ s2 s3
  refine MethodCall_ (ld F hx ?_ hk hlx hd) s1
  refine PySem.Calls.getMethod_list_append (N.get (.head _)) rfl rfl ?_
  refine PyProof.Rows.callWith_method1 ?_ s5 rfl
  refine args_cons (he us c E _ _ F N ?_) s5
  rintro _ h n ⟨t, rfl⟩ F1 N1
  refine args_nil ?_
  have hlen := hi.length
  refine append_K F1 N1 (.head hoff) (fun h' F2 N2 => ?_) (by rw [List.size_toArray, sizeLine_eq]; omega)
  rw [List.push_toArray] at N2
  exact q _ h' _ (app_ints hi) F2 N2
/-- if test: found.append(e) -/
theorem Fx.ifapp {x : Str} {e1 e : PySem.Expr} {p1 p2 p3 p4 p5 : Pos} {b : Bool} {i : Int} {rest : List Stmt} (hl : ns.length ≤ 1000) (hoff : ∀ p ∈ news, p.1 ≠ D) (hb : ∀ (us : List Value) (c : Nat), IntsAre us ns → Bt w A h₀ L (envOf cn cs L a cd) m ((D, listOf us.toArray c) :: news) e1 b) (hx : m x = some (.ref D)) (he : ∀ (us : List Value) (c : Nat), Ev w A h₀ L (envOf cn cs L a cd) m ((D, listOf us.toArray c) :: news) e (IsI i)) (h1 : b = true → Fx w A h₀ L D news (envOf cn cs L a cd) m (ns ++ [i]) rest K) (h2 : b = false → Fx w A h₀ L D news (envOf cn cs L a cd) m ns rest K) (hk : cs.kind = ScopeKind.function) (hlx : (envOf cn cs L a cd).kindOf x = some NameKind.local) (hd : (x == Str.ofString "__debug__") = false)
    {pl : Sem Bool} (s1 : eval ((PySem.Expr.Attribute (.Name x p1) (Str.ofString "append") p2).Call [e] [] p3) (envOf cn cs L a cd) = (do let ov ← eval (.Name x p1) (envOf cn cs L a cd); standAt p2.atName; let q ← holding [ov] (getMethod ov (Str.ofString "append") pl); match q with | (f, first) => callWith p3 f first (backTo p3 (starEach [e] (envOf cn cs L a cd))) []))
    (s5 : starEach [e] (envOf cn cs L a cd) = (false, eval e (envOf cn cs L a cd)) :: starEach [] (envOf cn cs L a cd))
    (s2 : interactive (envOf cn cs L a cd) = false) (s3 : swapsWith ((PySem.Expr.Attribute (.Name x p1) (Str.ofString "append") p2).Call [e] [] p3) none p4.line (envOf cn cs L a cd) = pure false) :
    Fx w A h₀ L D news (envOf cn cs L a cd) m ns (.If e1 [.Expr ((PySem.Expr.Attribute (.Name x p1) (Str.ofString "append") p2).Call [e] [] p3) p4] [] p5 :: rest) K := by
  intro E s Q us c hi F N q
  refine wpAny_execs_cons (wpAny_If (hb us c hi _ (.inr rfl) E s _ F N fun h n F1 N1 => ?_))
  cases b
  · exact wpAny_execs_nil (h2 rfl E _ _ us c hi F1 N1 fun l us' c' ns' m' h n hK => q l us' c' ns' m' h n hK)
  · refine wpAny_execs_cons (app_in hi hl hoff hx he hk hlx hd s1 s5 s2 s3 F1 N1 fun us' h n hi2 F2 N2 => ?_)
    exact wpAny_execs_nil (h1 rfl E _ _ us' (c + 1) hi2 F2 N2 fun l us' c' ns' m' h n hK => q l us' c' ns' m' h n hK)
/-- if test: x = e; if test2: found.append(e2) -/
theorem Fx.if2 {x y : Str} {e1 e e2 e3 : PySem.Expr} {p1 p2 p3 p4 p5 p6 p7 p8 : Pos} {b b2 : Bool} {i : Int} {rest : List Stmt} (hl : ns.length ≤ 1000) (hoff : ∀ p ∈ news, p.1 ≠ D) (hb : ∀ (us : List Value) (c : Nat), Bt w A h₀ L (envOf cn cs L a cd) m ((D, listOf us.toArray c) :: news) e1 b) (he : b = true → ∀ (us : List Value) (c : Nat), Ev w A h₀ L (envOf cn cs L a cd) m ((D, listOf us.toArray c) :: news) e (IsI i))
    (hb2 : b = true → ∀ t (us : List Value) (c : Nat), IntsAre us ns → Bt w A h₀ L (envOf cn cs L a cd) (upd m x (.int i t)) ((D, listOf us.toArray c) :: news) e3 b2) (hy : m y = some (.ref D)) (hyx : y ≠ x) (he2 : ∀ t (us : List Value) (c : Nat), Ev w A h₀ L (envOf cn cs L a cd) (upd m x (.int i t)) ((D, listOf us.toArray c) :: news) e2 (IsI i))
    (h1 : b = true → b2 = true → ∀ t, Fx w A h₀ L D news (envOf cn cs L a cd) (upd m x (.int i t)) (ns ++ [i]) rest K) (h2 : b = true → b2 = false → ∀ t, Fx w A h₀ L D news (envOf cn cs L a cd) (upd m x (.int i t)) ns rest K) (h3 : b = false → Fx w A h₀ L D news (envOf cn cs L a cd) m ns rest K) (hk : cs.kind = ScopeKind.function) (hlx : (envOf cn cs L a cd).kindOf x = some NameKind.local) (hly : (envOf cn cs L a cd).kindOf y = some NameKind.local) (hd : (y == Str.ofString "__debug__") = false) (hw : swapsWith e (some (PySem.Expr.Name x p6)) p7.line (envOf cn cs L a cd) = pure false)
    {pl : Sem Bool} (s1 : eval ((PySem.Expr.Attribute (.Name y p1) (Str.ofString "append") p2).Call [e2] [] p3) (envOf cn cs L a cd) = (do let ov ← eval (.Name y p1) (envOf cn cs L a cd); standAt p2.atName; let q ← holding [ov] (getMethod ov (Str.ofString "append") pl); match q with | (f, first) => callWith p3 f first (backTo p3 (starEach [e2] (envOf cn cs L a cd))) []))
    (s5 : starEach [e2] (envOf cn cs L a cd) = (false, eval e2 (envOf cn cs L a cd)) :: starEach [] (envOf cn cs L a cd))
    (s2 : interactive (envOf cn cs L a cd) = false) (s3 : swapsWith ((PySem.Expr.Attribute (.Name y p1) (Str.ofString "append") p2).Call [e2] [] p3) none p4.line (envOf cn cs L a cd) = pure false) :
    Fx w A h₀ L D news (envOf cn cs L a cd) m ns (.If e1 [.Assign [.Name x p6] e p7, .If e3 [.Expr ((PySem.Expr.Attribute (.Name y p1) (Str.ofString "append") p2).Call [e2] [] p3) p4] [] p8] [] p5 :: rest) K := by
  intro E s Q us c hi F N q
  refine wpAny_execs_cons (wpAny_If (hb us c _ (.inr rfl) E s _ F N fun h n F1 N1 => ?_))
  cases b
  · exact wpAny_execs_nil (h3 rfl E _ _ us c hi F1 N1 fun l us' c' ns' m' h n hK => q l us' c' ns' m' h n hK)
  · refine wpAny_execs_cons (wpAny_Assign_Name (he rfl us c E _ _ F1 N1 fun v h n hv F2 N2 => ?_) hw)
    obtain ⟨t, rfl⟩ := hv
    refine storeX_L (cl := []) F2 N2 (fun h' F3 N3 => ?_) hk hlx
    refine wpAny_execs_cons (wpAny_If (hb2 rfl t us c hi _ (.inr rfl) E _ _ F3 N3 fun h n F4 N4 => ?_))
    cases b2
    · exact wpAny_execs_nil (wpAny_execs_nil (h2 rfl rfl t E _ _ us c hi F4 N4 fun l us' c' ns' m' h n hK => q l us' c' ns' m' h n hK))
    · refine wpAny_execs_cons (app_in hi hl hoff (by unfold upd; rw [if_neg hyx]; exact hy) (he2 t) hk hly hd s1 s5 s2 s3 F4 N4 fun us' h n hi2 F5 N5 => ?_)
      exact wpAny_execs_nil (wpAny_execs_nil (h1 rfl rfl t E _ _ us' (c + 1) hi2 F5 N5 fun l us' c' ns' m' h n hK => q l us' c' ns' m' h n hK))
/-- return sorted(found) -/
theorem Fx.ret {mg mb : Str → Option Value} {p : Program} {loose : List Str} {y : Str} {ps py ps' p1 : Pos} {rest : List Stmt} (X : (hd.heap_39 w.params).In h₀) (T : TopRead p loose mg mb h₀) (hl : ns.length < 64) (hy : m y = some (.ref D)) (hK : ∀ ns', ns'.length = ns.length → (∀ x, x ∈ ns' ↔ x ∈ ns) → K ns') (hn : nsIn (hd.heap_39 w.params) mainGlobals (Str.ofString "sorted") = some none) (hbt : bootBuiltins (Str.ofString "sorted") = some (.builtin "sorted")) (hk : cs.kind = ScopeKind.function) (hlx : (envOf cn cs L a cd).kindOf (Str.ofString "sorted") = some NameKind.globalImplicit) (hly : (envOf cn cs L a cd).kindOf y = some NameKind.local) (hdy : (y == Str.ofString "__debug__") = false)
    (s1 : eval (PySem.Expr.Call (.Name (Str.ofString "sorted") ps) [.Name y py] [] ps') (envOf cn cs L a cd) = (do let f ← eval (.Name (Str.ofString "sorted") ps) (envOf cn cs L a cd); callWith ps' f [] (backTo ps' (starEach [.Name y py] (envOf cn cs L a cd))) (backToKw ps' (keywordEach [] (envOf cn cs L a cd)))) := by rfl) :
    Fx w A h₀ L D news (envOf cn cs L a cd) m ns (.Return (some (.Call (.Name (Str.ofString "sorted") ps) [.Name y py] [] ps')) p1 :: rest) K := by
  intro E s Q us c hi F N q
  refine wpAny_execs_cons (wpAny_Return_some (Call_ (name_B F X T hn hbt (by decide) ?_ hk hlx (by decide)) s1))
  refine PyProof.Rows.callWith_builtin1 ?_
  refine args_cons (ld F hy ?_ hk hly hdy) rfl
  refine args_nil ?_
  refine kso_sorted F N (News.isList N (.head _)) hi hl fun D' vs' ns' c' h' F2 N2 hlt hv hlen hperm _ _ => ?_
  exact q D' vs' c' ns' _ h' _ (hK ns' hlen fun x => hperm.mem_iff) (fun p hp => hlt p (.tail _ hp)) hv F2 (fun p hp => N2 p (by
    rcases List.mem_cons.mp hp with rfl | hp
    · exact .head _
    · exact .tail _ (.tail _ hp)))
theorem Bt.ltI {env : Env} {l r : PySem.Expr} {p : Pos} {x y : Int} (h1 : Ev w A h₀ L env m news l (IsI x)) (h2 : Ev w A h₀ L env m news r (IsI y)) (hb : behindInMarks .Lt r = false := by rfl) : Bt w A h₀ L env m news (.Compare l [.Lt] [r] p) (decide (x < y)) := by
  refine Bt.cmp (fun E s Q F N q => h1 E s _ F N ?_) hb
  rintro _ h n ⟨t, rfl⟩ F1 N1
  refine h2 E _ _ F1 N1 ?_
  rintro _ h n ⟨t, rfl⟩ F2 N2
  exact lt_int (q _ _ F2 N2)
theorem Bt.leI {env : Env} {l r : PySem.Expr} {p : Pos} {x y : Int} (h1 : Ev w A h₀ L env m news l (IsI x)) (h2 : Ev w A h₀ L env m news r (IsI y)) (hb : behindInMarks .LtE r = false := by rfl) : Bt w A h₀ L env m news (.Compare l [.LtE] [r] p) (decide (x ≤ y)) := by
  refine Bt.cmp (fun E s Q F N q => h1 E s _ F N ?_) hb
  rintro _ h n ⟨t, rfl⟩ F1 N1
  refine h2 E _ _ F1 N1 ?_
  rintro _ h n ⟨t, rfl⟩ F2 N2
  exact le_int (q _ _ F2 N2)
theorem Bt.ninI {y z : Str} {py pz p : Pos} {l : Addr} {vs : List Value} {c : Nat} {i : Int} {t : Tok} (hy : m y = some (.int i t)) (hz : m z = some (.ref l)) (hm : (l, listOf vs.toArray c) ∈ news) (hi : IntsAre vs ns) (hk : cs.kind = ScopeKind.function) (hl : (envOf cn cs L a cd).kindOf y = some NameKind.local) (hd : (y == Str.ofString "__debug__") = false) (hl2 : (envOf cn cs L a cd).kindOf z = some NameKind.local) (hd2 : (z == Str.ofString "__debug__") = false) : Bt w A h₀ L (envOf cn cs L a cd) m news (.Compare (.Name y py) [.NotIn] [.Name z pz] p) (!ns.any (· == i)) :=
  Bt.cmp (fun _ s _ F N q => ld F hy (ld F hz (notin_list_ints (News.isList N hm) hi (q s.heap s.toks F N)) hk hl2 hd2) hk hl hd) rfl
/-- a def that begins: x0 = e0; x1 = [] -/
theorem Fx.ctr {mean : ExcName → Option Value} {mg mb : Str → Option Value} {f : Addr} {vs : List Value} {kd ku : Nat} {name qual : Str} {params : Arguments} {body rest : List Stmt} {scope : Scope} {dV kV doc pm cdv ct oc : Value} {an od : Option Addr} {osl : Array (Option Value)} {x0 x1 : Str} {e0 : PySem.Expr} {p0 p1 p2 p3 p4 : Pos} {v0 : Value} (binds : List (Str × Value))
    (hf : List.lookup f (hd.heap_39 w.params) = some { cls := oc, dict := od, data := Data.func (fnOf name qual params body scope dV kV doc pm an cdv ct), slots := osl }) (hcd : codeIn (hd.heap_39 w.params) cdv qual = true)
    (hb : ∀ s, BindsTo s (fnOf name qual params body scope dV kV doc pm an cdv ct) { pos := vs, kw := [] } binds) (hloc : ∀ y : Str × Value, y ∈ binds → List.lookup y.1 scope.names = some NameKind.local) (c2 : scope.isCoroutine = false) (c3 : scope.isGenerator = false) (c4 : scope.kind = ScopeKind.function) (c5 : ∀ x : Str × NameKind, x ∈ scope.names → x.2 ≠ NameKind.cell)
    (hbody : body = .Assign [.Name x0 p0] e0 p1 :: .Assign [.Name x1 p2] (.List [] p3) p4 :: rest)
    (he : ∀ A h₀ L, Ev w A h₀ L (envOf qual scope L f cdv) (fun y => List.lookup y binds.reverse) news e0 (· = v0)) (hl0 : ∀ L, (envOf qual scope L f cdv).kindOf x0 = some NameKind.local) (hl1 : ∀ L, (envOf qual scope L f cdv).kindOf x1 = some NameKind.local) (hw0 : ∀ L, swapsWith e0 (some (PySem.Expr.Name x0 p0)) p1.line (envOf qual scope L f cdv) = pure false) (hw1 : ∀ L, swapsWith (.List [] p3) (some (PySem.Expr.Name x1 p2)) p4.line (envOf qual scope L f cdv) = pure false)
    (hx : ∀ (A : Around) (h₀ : Heap) (L D : Addr), (∀ news', Calls w mean mg mb A h₀ L news' kd ku) → (hd.heap_39 w.params).In h₀ → TopRead hd.view_39 (looseW hd.view_39 [Str.ofString "EVERYTHING", Str.ofString "HELD"]) mg mb h₀ → (∀ p ∈ news, p.1 ≠ D) → Fx w A h₀ L D news (envOf qual scope L f cdv) (upd (upd (fun y => List.lookup y binds.reverse) x0 v0) x1 (.ref D)) [] rest K) :
    Ctr w mean mg mb f vs news (kd + 1) (ku + 3) (ListOut news K) := by
  intro dp un gd cn cs a ccd cl outer A₀ base h₀ L m s Q E B F X N T hk hdp hun hret
  refine wpAny_call ?_
  refine code_def (binds := binds) B F X N T rfl rfl hk hf hcd (Nat.lt_of_le_of_lt (Nat.le_add_right dp _) hdp) (hb _) hloc ?_ c2 c3 c4 c5
  intro g L' h' FG F' N' B' X' T'
  have hC : ∀ news', Calls w mean mg mb (Around.deeper (ktrTop dp un gd cn cs L a ccd cl outer) (envOf qual scope L' f cdv)) g L' news' kd ku := fun news' =>
    Calls.mk (cs := scope) (cn := qual) (a := f) (ccd := cdv) (cl := []) (dp := dp + 1) (un := un + 3) (gd := gd) (outer := envX cn cs L a ccd cl :: outer) B' X' T' c4 (by omega) (by omega)
  subst hbody
  refine wpAny_execs_cons (wpAny_Assign_Name (he _ g L' _ _ _ F' N' fun v h1 n hv F1 N1 => ?_) (hw0 L'))
  subst hv
  refine storeX_L (cl := []) F1 N1 (fun h2 F2 N2 => ?_) c4 (hl0 L')
  refine wpAny_execs_cons (wpAny_Assign_Name (List_ (args_nil (newList_K F2 N2 (fun D h3 F3 N3 hlt => ?_) (Nat.zero_le _)))) (hw1 L'))
  refine storeX_L (cl := []) F3 N3 (fun h4 F4 N4 => ?_) c4 (hl1 L')
  refine hx _ g L' D hC X' (topRead_of T') (fun p hp => Nat.ne_of_lt (hlt p hp)) _ _ _ [] 0 .nil F4 N4 ?_
  intro l us' c' ns' m' h5 n5 hK hlt5 hi5 F5 N5
  refine leaveK_ F5 N5 fun F6 N6 => ?_
  exact hret _ _ _ _ F6 N6 ⟨l, us', c', ns', rfl, rfl, hlt5, hi5, hK⟩
theorem su_leaf {r : Ins} {i n : Int} {b1 b2 b3 : Bool} (h1 : (r.falls && decide (i + 1 < n)) = b1) (h2 : (r.isB && r.jumps) = b2) (h3 : (decide (0 ≤ i + 1 + r.off) && (decide (i + 1 + r.off < n) && !((if b1 = true then [i + 1] else []).any (· == i + 1 + r.off)))) = b3) : ∀ x, x ∈ (if b1 = true then [i + 1] else []) ++ (if (b2 && b3) = true then [i + 1 + r.off] else []) ↔ SuccP r i n x := by
  intro x
  unfold SuccP
  generalize i + 1 + r.off = t at h3 ⊢
  generalize i + 1 = a at h1 h3 ⊢
  have m : x ∈ (if b1 = true then [a] else []) ++ (if (b2 && b3) = true then [t] else []) ↔ (b1 = true ∧ x = a) ∨ (b2 = true ∧ b3 = true ∧ x = t) := by
    cases b1 <;> cases b2 <;> cases b3 <;> simp
  have q1 : b1 = true ↔ r.falls = true ∧ a < n := by
    rw [← h1, Bool.and_eq_true, decide_eq_true_iff]
  have q2 : b2 = true ↔ r.isB = true ∧ r.jumps = true := by
    rw [← h2, Bool.and_eq_true]
  have q3 : b3 = true ↔ 0 ≤ t ∧ t < n ∧ ¬ (b1 = true ∧ a = t) := by
    rw [← h3]
    cases b1 <;> simp
  rw [m]
  constructor
  · rintro (⟨h, e⟩ | ⟨h, h', e⟩)
    · exact .inl ⟨(q1.mp h).1, (q1.mp h).2, e⟩
    · exact .inr ⟨(q2.mp h).1, (q2.mp h).2, e, e ▸ (q3.mp h').1, e ▸ (q3.mp h').2.1⟩
  · rintro (⟨u1, u2, e⟩ | ⟨u1, u2, e, u3, u4⟩)
    · exact .inl ⟨q1.mpr ⟨u1, u2⟩, e⟩
    · by_cases q : b1 = true ∧ a = t
      · exact .inl ⟨q.1, e.trans q.2.symm⟩
      · exact .inr ⟨q2.mpr ⟨u1, u2⟩, q3.mpr ⟨e ▸ u3, e ▸ u4, q⟩, e⟩
end
section
variable {w : World} {mean : ExcName → Option Value} {mg mb : Str → Option Value} {news : List (Addr × Obj)}
theorem su_spec (r : Ins) (ra R : Addr) (refs : List Value) (nR : Nat) (i : Int) (ti : Tok) (hR : (R, listOf refs.toArray nR) ∈ news) (hx : refs[i.toNat]? = some (.ref ra)) (h0 : 0 ≤ i) (hi : i < refs.length) (hn8 : refs.length ≤ 8) (hr : InsAt news ra r) (hok : r.ok) :
    Ctr w mean mg mb 42 [.ref R, .int i ti] news 6 80 (ListOut news fun ns => ns.length ≤ 2 ∧ ∀ x, x ∈ ns ↔ SuccP r i refs.length x) := by
  obtain ⟨nm, v1, x, y, t1, t3, t4, n, hG, hm⟩ := rowT hr
  obtain ⟨e1, e2, e3⟩ := lu_eq (i := i) (n := refs.length) hok hG
  have hr2 : ∀ o, InsAt (o :: news) ra r := fun o => hr.mono fun p hp => .tail _ hp
  refine' Fx.ctr (kd := 5) (ku := 77) (v0 := .ref ra) (K := fun ns => ns.length ≤ 2 ∧ ∀ x, x ∈ ns ↔ SuccP r i refs.length x) [(Str.ofString "rows", .ref R), (Str.ofString "index", .int i ti)] ?f ?c ?b ?l ?c2 ?c3 ?c4 ?c5 ?bd ?e ?l0 ?l1 ?w0 ?w1 ?x
  case f => k_is
  case c => k_is
  case b => exact fun s => BindsTo.of_eq (by with_unfolding_all rfl)
  case l => exact locs rfl
  case c2 => exact rfl
  case c3 => exact rfl
  case c4 => exact rfl
  case c5 => decide
  case bd => exact rfl
  case e => exact fun A h₀ L => Ev.item rfl rfl hR hx rfl h0 (by omega) rfl rfl (by decide) rfl (by decide)
  case l0 => exact fun L => rfl
  case l1 => exact fun L => rfl
  case w0 => exact fun L => rfl
  case w1 => exact fun L => rfl
  intro A h₀ L D hC X T hoff
  have LEAF : ∀ (ns : List Int) (b1 b2 b3 : Bool), (r.falls && decide (i + 1 < (refs.length : Int))) = b1 → (r.isB && r.jumps) = b2 → (decide (0 ≤ i + 1 + r.off) && (decide (i + 1 + r.off < (refs.length : Int)) && !((if b1 = true then [i + 1] else []).any (· == i + 1 + r.off)))) = b3 → ns = (if b1 = true then [i + 1] else []) ++ (if (b2 && b3) = true then [i + 1 + r.off] else []) → ∀ ns' : List Int, ns'.length = ns.length → (∀ x, x ∈ ns' ↔ x ∈ ns) → ns'.length ≤ 2 ∧ ∀ x, x ∈ ns' ↔ SuccP r i refs.length x := by
    intro ns b1 b2 b3 q1 q2 q3 hns ns' hl hmem
    subst hns
    refine ⟨?_, fun z => (hmem z).trans (su_leaf q1 q2 q3 z)⟩
    rw [hl]
    cases b1 <;> cases b2 <;> cases b3 <;> simp
  refine Fx.ifapp (b := r.falls && decide (i + 1 < (refs.length : Int))) (i := i + 1) (by decide) hoff (fun us c _ => Bt.and (Bt.of (Ev.call (hC _) X T (ft_spec r ra (hr2 _) hok) (by walk_at "es") (fun t => rfl) (by k_is) (by k_is) (by decide) (by decide) rfl rfl (by decide)) (fun _ _ _ h => nomatch h) (fun _ => rfl)) (Bt.and1 (Bt.ltI (Ev.add (i := i) (by (first | exact Mine.Ev.constI | exact Mine.Ev.constS | exact Mine.Ev.constB | exact Mine.Ev.name rfl ⟨_, rfl⟩ rfl rfl (by decide) | exact Mine.Ev.name rfl rfl rfl rfl (by decide) | exact Mine.Ev.sub rfl (by k_mem) rfl rfl ⟨_, rfl⟩ (by decide) (by decide) rfl rfl (by decide) | exact Mine.Ev.sub rfl (by k_mem) rfl rfl rfl (by decide) (by decide) rfl rfl (by decide) | exact Mine.Ev.glob (by assumption) (by assumption) (by k_is) ⟨_, rfl⟩ rfl rfl (by decide) | exact Mine.Ev.glob (by assumption) (by assumption) (by k_is) rfl rfl rfl (by decide) | fail "ev")) Ev.constI) (Ev.len X T rfl (.tail _ hR) (by omega) (by k_is) (by boot_by_name) rfl rfl rfl (by decide)) rfl))) rfl (fun us c => Ev.add (i := i) (by (first | exact Mine.Ev.constI | exact Mine.Ev.constS | exact Mine.Ev.constB | exact Mine.Ev.name rfl ⟨_, rfl⟩ rfl rfl (by decide) | exact Mine.Ev.name rfl rfl rfl rfl (by decide) | exact Mine.Ev.sub rfl (by k_mem) rfl rfl ⟨_, rfl⟩ (by decide) (by decide) rfl rfl (by decide) | exact Mine.Ev.sub rfl (by k_mem) rfl rfl rfl (by decide) (by decide) rfl rfl (by decide) | exact Mine.Ev.glob (by assumption) (by assumption) (by k_is) ⟨_, rfl⟩ rfl rfl (by decide) | exact Mine.Ev.glob (by assumption) (by assumption) (by k_is) rfl rfl rfl (by decide) | fail "ev")) Ev.constI) (fun q1 => ?y1) (fun q1 => ?y2) rfl rfl (by decide) rfl rfl rfl rfl
  case y1 =>
    refine Fx.if2 (b := nm == "B" && r.jumps) (b2 := decide (0 ≤ i + 1 + r.off) && (decide (i + 1 + r.off < (refs.length : Int)) && !(([i + 1] : List Int).any (· == i + 1 + r.off)))) (i := i + 1 + r.off) (by simp) hoff (fun us c => Bt.andG (Bt.eqS (Ev.sub rfl (.tail _ hm) rfl rfl ⟨_, rfl⟩ (by decide) (by decide) rfl rfl (by decide)) Ev.constS rfl) fun h => Bt.and1 (Bt.of (Ev.call (hC _) X T (cj_spec r ra (hr2 _) hok (e3 h)) (by walk_at "es") (fun t => rfl) (by k_is) (by k_is) (by decide) (by decide) rfl rfl (by decide)) (fun _ _ _ h => nomatch h) (fun _ => rfl))) (fun q2 us c => Ev.call (hC _) X T (to_spec r ra i ti (hr2 _) hok (e3 ((Bool.and_eq_true_iff.mp q2).1))) (by walk_at "es") (fun t => ⟨t, rfl⟩) (by k_is) (by k_is) (by decide) (by decide) rfl rfl (by decide)) (fun q2 t us c hv => Bt.and (Bt.leI Ev.constI (by (first | exact Mine.Ev.constI | exact Mine.Ev.constS | exact Mine.Ev.constB | exact Mine.Ev.name rfl ⟨_, rfl⟩ rfl rfl (by decide) | exact Mine.Ev.name rfl rfl rfl rfl (by decide) | exact Mine.Ev.sub rfl (by k_mem) rfl rfl ⟨_, rfl⟩ (by decide) (by decide) rfl rfl (by decide) | exact Mine.Ev.sub rfl (by k_mem) rfl rfl rfl (by decide) (by decide) rfl rfl (by decide) | exact Mine.Ev.glob (by assumption) (by assumption) (by k_is) ⟨_, rfl⟩ rfl rfl (by decide) | exact Mine.Ev.glob (by assumption) (by assumption) (by k_is) rfl rfl rfl (by decide) | fail "ev")) rfl) (Bt.and (Bt.ltI (x := i + 1 + r.off) (by (first | exact Mine.Ev.constI | exact Mine.Ev.constS | exact Mine.Ev.constB | exact Mine.Ev.name rfl ⟨_, rfl⟩ rfl rfl (by decide) | exact Mine.Ev.name rfl rfl rfl rfl (by decide) | exact Mine.Ev.sub rfl (by k_mem) rfl rfl ⟨_, rfl⟩ (by decide) (by decide) rfl rfl (by decide) | exact Mine.Ev.sub rfl (by k_mem) rfl rfl rfl (by decide) (by decide) rfl rfl (by decide) | exact Mine.Ev.glob (by assumption) (by assumption) (by k_is) ⟨_, rfl⟩ rfl rfl (by decide) | exact Mine.Ev.glob (by assumption) (by assumption) (by k_is) rfl rfl rfl (by decide) | fail "ev")) (Ev.len X T rfl (.tail _ hR) (by omega) (by k_is) (by boot_by_name) rfl rfl rfl (by decide)) rfl) (Bt.and1 (Bt.ninI rfl rfl (.head _) hv rfl rfl (by decide) rfl (by decide))))) rfl (by decide) (fun t us c => by (first | exact Mine.Ev.constI | exact Mine.Ev.constS | exact Mine.Ev.constB | exact Mine.Ev.name rfl ⟨_, rfl⟩ rfl rfl (by decide) | exact Mine.Ev.name rfl rfl rfl rfl (by decide) | exact Mine.Ev.sub rfl (by k_mem) rfl rfl ⟨_, rfl⟩ (by decide) (by decide) rfl rfl (by decide) | exact Mine.Ev.sub rfl (by k_mem) rfl rfl rfl (by decide) (by decide) rfl rfl (by decide) | exact Mine.Ev.glob (by assumption) (by assumption) (by k_is) ⟨_, rfl⟩ rfl rfl (by decide) | exact Mine.Ev.glob (by assumption) (by assumption) (by k_is) rfl rfl rfl (by decide) | fail "ev")) (fun q2 q3 t => Fx.ret X T (by simp) rfl (LEAF _ true true true q1 (by rw [e2]; exact q2) q3 rfl) (by k_is) (by boot_by_name) rfl rfl rfl (by decide)) (fun q2 q3 t => Fx.ret X T (by simp) rfl (LEAF _ true true false q1 (by rw [e2]; exact q2) q3 rfl) (by k_is) (by boot_by_name) rfl rfl rfl (by decide)) (fun q2 => Fx.ret X T (by simp) rfl (LEAF _ true false _ q1 (by rw [e2]; exact q2) rfl (by simp)) (by k_is) (by boot_by_name) rfl rfl rfl (by decide)) rfl rfl rfl (by decide) rfl rfl rfl rfl rfl
  case y2 =>
    refine Fx.if2 (b := nm == "B" && r.jumps) (b2 := decide (0 ≤ i + 1 + r.off) && (decide (i + 1 + r.off < (refs.length : Int)) && !(([] : List Int).any (· == i + 1 + r.off)))) (i := i + 1 + r.off) (by simp) hoff (fun us c => Bt.andG (Bt.eqS (Ev.sub rfl (.tail _ hm) rfl rfl ⟨_, rfl⟩ (by decide) (by decide) rfl rfl (by decide)) Ev.constS rfl) fun h => Bt.and1 (Bt.of (Ev.call (hC _) X T (cj_spec r ra (hr2 _) hok (e3 h)) (by walk_at "es") (fun t => rfl) (by k_is) (by k_is) (by decide) (by decide) rfl rfl (by decide)) (fun _ _ _ h => nomatch h) (fun _ => rfl))) (fun q2 us c => Ev.call (hC _) X T (to_spec r ra i ti (hr2 _) hok (e3 ((Bool.and_eq_true_iff.mp q2).1))) (by walk_at "es") (fun t => ⟨t, rfl⟩) (by k_is) (by k_is) (by decide) (by decide) rfl rfl (by decide)) (fun q2 t us c hv => Bt.and (Bt.leI Ev.constI (by (first | exact Mine.Ev.constI | exact Mine.Ev.constS | exact Mine.Ev.constB | exact Mine.Ev.name rfl ⟨_, rfl⟩ rfl rfl (by decide) | exact Mine.Ev.name rfl rfl rfl rfl (by decide) | exact Mine.Ev.sub rfl (by k_mem) rfl rfl ⟨_, rfl⟩ (by decide) (by decide) rfl rfl (by decide) | exact Mine.Ev.sub rfl (by k_mem) rfl rfl rfl (by decide) (by decide) rfl rfl (by decide) | exact Mine.Ev.glob (by assumption) (by assumption) (by k_is) ⟨_, rfl⟩ rfl rfl (by decide) | exact Mine.Ev.glob (by assumption) (by assumption) (by k_is) rfl rfl rfl (by decide) | fail "ev")) rfl) (Bt.and (Bt.ltI (x := i + 1 + r.off) (by (first | exact Mine.Ev.constI | exact Mine.Ev.constS | exact Mine.Ev.constB | exact Mine.Ev.name rfl ⟨_, rfl⟩ rfl rfl (by decide) | exact Mine.Ev.name rfl rfl rfl rfl (by decide) | exact Mine.Ev.sub rfl (by k_mem) rfl rfl ⟨_, rfl⟩ (by decide) (by decide) rfl rfl (by decide) | exact Mine.Ev.sub rfl (by k_mem) rfl rfl rfl (by decide) (by decide) rfl rfl (by decide) | exact Mine.Ev.glob (by assumption) (by assumption) (by k_is) ⟨_, rfl⟩ rfl rfl (by decide) | exact Mine.Ev.glob (by assumption) (by assumption) (by k_is) rfl rfl rfl (by decide) | fail "ev")) (Ev.len X T rfl (.tail _ hR) (by omega) (by k_is) (by boot_by_name) rfl rfl rfl (by decide)) rfl) (Bt.and1 (Bt.ninI rfl rfl (.head _) hv rfl rfl (by decide) rfl (by decide))))) rfl (by decide) (fun t us c => by (first | exact Mine.Ev.constI | exact Mine.Ev.constS | exact Mine.Ev.constB | exact Mine.Ev.name rfl ⟨_, rfl⟩ rfl rfl (by decide) | exact Mine.Ev.name rfl rfl rfl rfl (by decide) | exact Mine.Ev.sub rfl (by k_mem) rfl rfl ⟨_, rfl⟩ (by decide) (by decide) rfl rfl (by decide) | exact Mine.Ev.sub rfl (by k_mem) rfl rfl rfl (by decide) (by decide) rfl rfl (by decide) | exact Mine.Ev.glob (by assumption) (by assumption) (by k_is) ⟨_, rfl⟩ rfl rfl (by decide) | exact Mine.Ev.glob (by assumption) (by assumption) (by k_is) rfl rfl rfl (by decide) | fail "ev")) (fun q2 q3 t => Fx.ret X T (by simp) rfl (LEAF _ false true true q1 (by rw [e2]; exact q2) q3 rfl) (by k_is) (by boot_by_name) rfl rfl rfl (by decide)) (fun q2 q3 t => Fx.ret X T (by simp) rfl (LEAF _ false true false q1 (by rw [e2]; exact q2) q3 rfl) (by k_is) (by boot_by_name) rfl rfl rfl (by decide)) (fun q2 => Fx.ret X T (by simp) rfl (LEAF _ false false _ q1 (by rw [e2]; exact q2) rfl (by simp)) (by k_is) (by boot_by_name) rfl rfl rfl (by decide)) rfl rfl rfl (by decide) rfl rfl rfl rfl rfl
end
end Mine
theorem Mine.off_B0 : True := by
  w_top off
  trivial
namespace Mine

section
variable {α : Type} {A B C D : List α} {p : α}
theorem in_as1 : ∀ p ∈ A ++ (B ++ C), p ∈ (A ++ B) ++ C := fun p h => by rwa [List.append_assoc]
theorem in_as2 : ∀ p ∈ A ++ (B ++ (C ++ D)), p ∈ (A ++ (B ++ C)) ++ D := fun p h => by rwa [List.append_assoc, List.append_assoc]
theorem in_or3 (h : p ∈ A ++ (B ++ C)) : p ∈ A ∨ p ∈ B ∨ p ∈ C := (List.mem_append.mp h).imp id fun h => List.mem_append.mp h
theorem in_mid {d : α} (h : p ∈ A ++ d :: C) : p ∈ A ++ (d :: (B ++ C)) := by
  rcases List.mem_append.mp h with h | h
  · exact List.mem_append_left _ h
  · rcases List.mem_cons.mp h with rfl | h
    · exact List.mem_append_right _ (.head _)
    · exact List.mem_append_right _ (.tail _ (List.mem_append_right _ h))
theorem in_left4 {β : Type} {a b c d : α × β} {r : List (α × β)} {x : α} (h : x ∈ [a.1, b.1, c.1, d.1]) : x ∈ (a :: b :: c :: d :: r).map Prod.fst := by
  simp only [List.mem_cons, List.not_mem_nil, or_false] at h
  simp only [List.map_cons, List.mem_cons]
  rcases h with h | h | h | h <;> simp [h]
theorem in_21 {w t a b d : α} : ∀ p ∈ w :: t :: a :: b :: (A ++ d :: C), p ∈ t :: w :: (A ++ d :: a :: b :: C) := fun p h => by
  rcases List.mem_cons.mp h with rfl | h
  · exact .tail _ (.head _)
  rcases List.mem_cons.mp h with rfl | h
  · exact .head _
  exact .tail _ (.tail _ (by
    rcases List.mem_cons.mp h with rfl | h
    · exact List.mem_append_right _ (.tail _ (.head _))
    rcases List.mem_cons.mp h with rfl | h
    · exact List.mem_append_right _ (.tail _ (.tail _ (.head _)))
    exact in_mid (B := [a, b]) h))
theorem in_swd {d : α} : ∀ p ∈ A ++ (B ++ C), p ∈ B ++ (A ++ (d :: C)) := fun p h => by
  rcases in_or3 h with h | h | h
  · exact List.mem_append_right _ (List.mem_append_left _ h)
  · exact List.mem_append_left _ h
  · exact List.mem_append_right _ (List.mem_append_right _ (.tail _ h))
theorem in_wrap {a b : α} (h : p ∈ A ++ C) (hs : ∀ q ∈ C, q ∈ D) : p ∈ a :: b :: (A ++ D) := by
  rcases List.mem_append.mp h with h | h
  · exact .tail _ (.tail _ (List.mem_append_left _ h))
  · exact .tail _ (.tail _ (List.mem_append_right _ (hs p h)))
theorem in_sw : ∀ p ∈ A ++ (B ++ C), p ∈ B ++ (A ++ C) := fun p h => by
  rcases in_or3 h with h | h | h
  · exact List.mem_append_right _ (List.mem_append_left _ h)
  · exact List.mem_append_left _ h
  · exact List.mem_append_right _ (List.mem_append_right _ h)
end
/-- lists of ints in the ledger, told by the refs ys -/
noncomputable def ListsAt (nw : List (Addr × Obj)) (ys : List Value) (fol : List (List Int)) : Prop :=
  ys.length = fol.length ∧ ∀ (j : Nat) (ns : List Int), fol[j]? = some ns → ∃ (l : Addr) (us : List Value) (c : Nat), ys[j]? = some (Value.ref l) ∧ (l, listOf us.toArray c) ∈ nw ∧ IntsAre us ns
theorem ListsAt.mono {nw nw' : List (Addr × Obj)} {ys : List Value} {fol : List (List Int)} (h : ListsAt nw ys fol) (hs : ∀ p ∈ nw, p ∈ nw') : ListsAt nw' ys fol :=
  ⟨h.1, fun j ns e => (h.2 j ns e).imp fun _ h => h.imp fun _ h => h.imp fun _ h => ⟨h.1, hs _ h.2.1, h.2.2⟩⟩
theorem ListsAt.snoc {nw : List (Addr × Obj)} {ys : List Value} {fol : List (List Int)} {l : Addr} {us : List Value} {c : Nat} {ns : List Int} (h : ListsAt nw ys fol) (hi : IntsAre us ns) : ListsAt ((l, listOf us.toArray c) :: nw) (ys ++ [.ref l]) (fol ++ [ns]) := by
  refine ⟨by simp [h.1], fun j ks e => ?_⟩
  by_cases hj : j < fol.length
  · rw [List.getElem?_append_left hj] at e
    obtain ⟨l', us', c', a, b, d⟩ := h.2 j ks e
    exact ⟨l', us', c', by rw [List.getElem?_append_left (by rw [h.1]; exact hj)]; exact a, .tail _ b, d⟩
  · have hj' : j = fol.length := by
      by_cases h2 : j = fol.length
      · exact h2
      · rw [List.getElem?_eq_none (by rw [List.length_append, List.length_singleton]; omega)] at e
        cases e
    subst hj'
    simp at e
    subst e
    exact ⟨l, us, c, by rw [← h.1]; simp, .head _, hi⟩
/-- a ledger that grew above -/
noncomputable def Above (tl base : List (Addr × Obj)) : Prop := ∀ p ∈ tl, ∀ q ∈ base, q.1 < p.1
theorem Above.nil {base : List (Addr × Obj)} : Above [] base := fun _ h => nomatch h
theorem Above.cons {p : Addr × Obj} {tl base : List (Addr × Obj)} (h : Above tl base) (hp : ∀ q ∈ base, q.1 < p.1) : Above (p :: tl) base := fun r hr => by
  rcases List.mem_cons.mp hr with rfl | hr
  · exact hp
  · exact h r hr
theorem range_one (k : Nat) : Builtin.Range.rangeSize 0 (k : Int) 1 = ((k : Nat) : Int) := by
  rw [rangeSize_nat]
  simp
theorem mul_in {prog : Program} {w : World} {A : Around} {E : Value → Shared → Prop} {s : Shared} {h₀ : Heap} {L l : Addr} {m : Str → Option Value} {rest : List (Addr × Obj)} {v : Value} {n : Nat} {k : Int} {u : Tok} {Q : Value → Shared → Prop}
    (F : Fr h₀ L s.heap m) (N : News h₀ L s.heap ((l, listOf #[v] n) :: rest)) (h0 : 0 ≤ k) (h1 : k ≤ 1000)
    (h : ∀ D h', Fr h₀ L h' m → News h₀ L h' ((D, listOf (List.replicate k.toNat v).toArray 0) :: rest) → (∀ p ∈ rest, p.1 < D) → Q (.ref D) { s with heap := h' }) : wpAny (model prog w) A (binaryOp .Mult (.ref l) (.int k u)) Q E s := by
  refine PyProof.Rows.mul_list F N (N.get (.head _)) (by omega) (by omega) (by have : (#[v] : Array Value).size = 1 := rfl; rw [this]; omega) fun h' F' N' => ?_
  rw [listMul_foldl_if] at N'
  have e : (List.replicate k.toNat (#[v] : Array Value).toList).flatten = List.replicate k.toNat v := by simp
  rw [e] at N'
  refine h _ h' F' (fun p hp => N' p ?_) fun p hp => Heap.lt_size (N.get (o := p.2) (a := p.1) (.tail _ hp))
  rcases List.mem_cons.mp hp with rfl | hp
  · exact .head _
  · exact .tail _ (.tail _ hp)
noncomputable def MidI (h₀ : Heap) (L : Addr) (s : Shared) (m : Str → Option Value) (x : Str) (v : Int) (news : List (Addr × Obj)) (f : Flow) (s₂ : Shared) : Prop :=
  f = .next ∧ ∃ h tk t, s₂ = { s with heap := h, toks := tk } ∧ Fr h₀ L h (fun y => if y = x then some (.int v t) else m y) ∧ News h₀ L h news
theorem mid_int {prog : Program} {w : World} {A : Around} {E : Value → Shared → Prop} {s : Shared} {h₀ : Heap} {L : Addr} {m : Str → Option Value} {news : List (Addr × Obj)} {c : Sem Flow} {Q : Flow → Shared → Prop} (x : Str) (v : Int) (_F : Fr h₀ L s.heap m) (_N : News h₀ L s.heap news)
    (h1 : wpAny (model prog w) A c (MidI h₀ L s m x v news) E s) (h2 : ∀ h tk t, Fr h₀ L h (fun y => if y = x then some (.int v t) else m y) → News h₀ L h news → Q .next { s with heap := h, toks := tk }) : wpAny (model prog w) A c Q E s := by
  refine wpAny_mono h1 (fun f s₂ q => ?_) fun _ _ e => e
  obtain ⟨rfl, h, tk, t, rfl, F, N⟩ := q
  exact h2 h tk t F N
theorem mid_end {h₀ h : Heap} {L : Addr} {s : Shared} {m : Str → Option Value} {x : Str} {v v' : Int} {t : Tok} {tk : Nat} {news : List (Addr × Obj)} (F : Fr h₀ L h (fun y => if y = x then some (.int v' t) else m y)) (N : News h₀ L h news) (hv : v' = v) : MidI h₀ L s m x v news .next { s with heap := h, toks := tk } := by
  subst hv
  exact ⟨rfl, h, tk, t, rfl, F, N⟩
theorem ints_snoc {us : List Value} {ns : List Int} {x : Int} {t : Tok} (h : IntsAre us ns) : IntsAre (us ++ [.int x t]) (ns ++ [x]) := by
  induction h with
  | nil => exact .cons x t .nil
  | cons k u _ ih => exact .cons k u ih
theorem off1_mem {d : Addr} : ∀ {l : List (Addr × Obj)}, LCg.Off1 d l → ∀ p ∈ l, p.1 ≠ d
  | [], _, _, hp => (nomatch hp)
  | q :: l, ho, p, hp => by
    rcases List.mem_cons.mp hp with rfl | hp
    · exact ho.1
    · exact off1_mem ho.2 p hp
theorem ints_replicate (k : Nat) (x : Int) (t : Tok) : IntsAre (List.replicate k (.int x t)) (List.replicate k x) := by
  induction k with
  | zero => exact .nil
  | succ k ih => exact .cons x t ih
section
open LCg
variable {prog : Program} {w : World} {A : Around} {h₀ : Heap} {L : Addr} {m : Str → Option Value} {env : Env} {ct elt : PySem.Expr} {x : Str} {scope : Scope} {cl : List (Str × Addr)} {s : Shared} {S : List (Addr × Obj) → Prop} {P : Nat → Value → Prop} {Fin : List Value → List (Addr × Obj) → Prop} {news : List (Addr × Obj)} {n : Nat}
theorem rest_ind (J : Nat → List Value → List (Addr × Obj) → Prop) (h0 : J 0 [] news)
    (turn : ∀ i ys nw v I oI C oC D m₂ h tk (E' : Value → Shared → Prop), i < n → J i ys nw → ys.length = i → P i v → NsObj oC m₂ → m₂ x = some v → Fr h₀ L h m → News h₀ L h ((I, oI) :: (C, oC) :: (D, lst ys) :: nw) → Off3 I C D nw → ((@Ne Nat I C) ∧ (@Ne Nat I D) ∧ (@Ne Nat C D)) →
      wpAny (model prog w) A (eval elt (compEnvC scope cl C env)) (CompEnd h₀ L m { s with heap := h, toks := tk } I oI C oC D (lst ys) S (fun y nw' => J (i + 1) (ys ++ [y]) nw')) E' { s with heap := h, toks := tk })
    (fin : ∀ ys nw, J n ys nw → ys.length = n → Fin ys nw) : CompRest prog w A h₀ L m env elt x scope cl s S P Fin n 0 [] news := by
  have key : ∀ (k i : Nat) (ys : List Value) (nw : List (Addr × Obj)), i + k = n → J i ys nw → ys.length = i → CompRest prog w A h₀ L m env elt x scope cl s S P Fin k i ys nw := by
    intro k
    induction k with
    | zero => intro i ys nw hi hJ hl; exact fin ys nw (by rw [show n = i by omega]; exact hJ) (by omega)
    | succ k ih =>
      intro i ys nw hi hJ hl v I oI C oC D m₂ h tk E' hv hC hx F N off ne
      refine wpAny_mono (turn i ys nw v I oI C oC D m₂ h tk E' (by omega) hJ hl hv hC hx F N off ne) (fun y s₂ hq => ?_) fun _ _ e => e
      obtain ⟨h', tk', nw', e, F', N', off', hS, hr⟩ := hq
      exact ⟨h', tk', nw', e, F', N', off', hS, ih (i + 1) _ nw' (by omega) hr (by rw [List.length_append, hl]; rfl)⟩
  exact key n 0 [] news (by omega) h0 rfl
theorem restT_ind (J : Nat → List Value → List (Addr × Obj) → Prop) (h0 : J 0 [] news)
    (turn : ∀ i ys nw v I oI C oC D m₂ h tk (E' : Value → Shared → Prop), i < n → J i ys nw → P i v → NsObj oC m₂ → m₂ x = some v → Fr h₀ L h m → News h₀ L h ((I, oI) :: (C, oC) :: (D, lst ys) :: nw) → Off3 I C D nw → ((@Ne Nat I C) ∧ (@Ne Nat I D) ∧ (@Ne Nat C D)) →
      wpAny (model prog w) A (isTrue ct (compEnvC scope cl C env) (eval ct (compEnvC scope cl C env))) (fun ok s' => if ok = true then
        wpAny (model prog w) A (eval elt (compEnvC scope cl C env)) (CompEnd h₀ L m { s with heap := h, toks := tk } I oI C oC D (lst ys) S (fun y nw' => J (i + 1) (ys ++ [y]) nw')) E' s'
        else CompEnd h₀ L m { s with heap := h, toks := tk } I oI C oC D (lst ys) S (fun _ nw' => J (i + 1) ys nw') Value.none s') E' { s with heap := h, toks := tk })
    (fin : ∀ ys nw, J n ys nw → Fin ys nw) : LCt.CompRestT prog w A h₀ L m env ct elt x scope cl s S P Fin n 0 [] news := by
  have key : ∀ (k i : Nat) (ys : List Value) (nw : List (Addr × Obj)), i + k = n → J i ys nw → LCt.CompRestT prog w A h₀ L m env ct elt x scope cl s S P Fin k i ys nw := by
    intro k
    induction k with
    | zero => intro i ys nw hi hJ; exact fin ys nw (by rw [show n = i by omega]; exact hJ)
    | succ k ih =>
      intro i ys nw hi hJ v I oI C oC D m₂ h tk E' hv hC hx F N off ne
      refine wpAny_mono (turn i ys nw v I oI C oC D m₂ h tk E' (by omega) hJ hv hC hx F N off ne) (fun ok s₂ hq => ?_) fun _ _ e => e
      cases ok with
      | true =>
        simp only [if_true] at hq ⊢
        refine wpAny_mono hq (fun y s₃ hr => ?_) fun _ _ e => e
        obtain ⟨h', tk', nw', e, F', N', off', hS, hr⟩ := hr
        exact ⟨h', tk', nw', e, F', N', off', hS, ih (i + 1) _ nw' (by omega) hr⟩
      | false =>
        simp only [Bool.false_eq_true, if_false] at hq ⊢
        obtain ⟨h', tk', nw', e, F', N', off', hS, hr⟩ := hq
        exact ⟨h', tk', nw', e, F', N', off', hS, ih (i + 1) _ nw' (by omega) hr⟩
  exact key n 0 [] news (by omega) h0
end
end Mine
local macro_rules | `(tactic| walk_at "call type:range") => `(tactic| (k_here; (rename Fr _ _ _ _ => F'); (rename News _ _ _ _ => N'); (with_unfolding_all refine range1_rows F' N' ?_); intro _ _ _ _ _ _ _ _ _))
local macro_rules | `(tactic| walk_at "binaryOp Mult ref int") => `(tactic| (k_here; (with_reducible show wpAny _ _ (binaryOp Operator.Mult (Value.ref _) (Value.int _ _)) _ _ _); k_dflt (refine' Mine.mul_in ?F ?N ?a ?b ?_; (case F => k_asm); (case N => k_asm); (case a => omega); (case b => omega)); intro D' h' F' N' l1'; (try k_sweep)))
local macro_rules | `(tactic| walk_at "exec For") => `(tactic| (k_here; refine Mine.Halt.out ?_))
local macro_rules | `(tactic| walk_at "exec For Name Call cons nil") => `(tactic| (k_here; refine Mine.Halt.out ?_))
local macro_rules | `(tactic| walk_at "exec For Name Subscript cons nil") => `(tactic| (k_here; refine Mine.Halt.out ?_))
local macro_rules | `(tactic| walk_at "exec For Name Name cons nil") => `(tactic| (k_here; refine Mine.Halt.out ?_))
local macro_rules | `(tactic| walk_at "eval ListComp") => `(tactic| (k_here; refine Mine.Halt.out ?_))
local macro_rules | `(tactic| walk_at "exec Assign cons ListComp") => `(tactic| (k_here; refine Mine.Halt.out ?_))
local macro_rules | `(tactic| walk_at "pyIter ref") => `(tactic| (k_here; refine Mine.Halt.out ?_))
local macro_rules | `(tactic| walk_at "CompSrc") => `(tactic| (k_here; refine Mine.Halt.out ?_))
local macro_rules | `(tactic| walk_at "CompSrcT") => `(tactic| (k_here; refine Mine.Halt.out ?_))
local macro_rules | `(tactic| walk_at "CompEnd") => `(tactic| (k_here; refine Mine.Halt.out ?_))
local macro_rules | `(tactic| walk_at "exec While") => `(tactic| (k_here; refine Mine.Halt.out ?_))
local macro_rules | `(tactic| walk_at "exec While Compare cons nil") => `(tactic| (k_here; refine Mine.Halt.out ?_))
theorem Mine.off_G1 : True := by
  w_top off
  trivial
namespace Mine
open PySem.Spec
section
variable {prog : Program} {w : World} {A : Around} {env : Env} {h₀ : Heap}
/-- one turn of a loop over a list that the turn may lengthen: how it leaves -/
noncomputable def GrowStep (h₀ : Heap) (L l I : Addr) (oI : Obj) (Jn : (Str → Option Value) → List Value → List (Addr × Obj) → Prop) (s : Shared) (Q : Flow → Shared → Prop) (f : Flow) (s₃ : Shared) : Prop :=
  match f with
  | .ret v => Q (.ret v) s₃
  | .brk => Q .next s₃
  | _ => ∃ h tk m us c news, s₃ = { s with heap := h, toks := tk } ∧ Fr h₀ L h m ∧ News h₀ L h ((I, oI) :: (l, listOf us.toArray c) :: news) ∧ (∀ p ∈ (l, listOf us.toArray c) :: news, p.1 ≠ I) ∧ Jn m us news
noncomputable def GrowAt (prog : Program) (w : World) (A : Around) (h₀ : Heap) (env : Env) (x : Str) (body : List Stmt) (Q : Flow → Shared → Prop) (E : Value → Shared → Prop) (xv : Value) (s : Shared) : Prop :=
  ∃ (l : Addr) (us : List Value) (c n : Nat) (news : List (Addr × Obj)) (m : Str → Option Value) (J : Nat → (Str → Option Value) → List Value → List (Addr × Obj) → Prop), xv = .ref l ∧ Fr h₀ env.locals s.heap m ∧ News h₀ env.locals s.heap ((l, listOf us.toArray c) :: news) ∧ J 0 m us news ∧
    (∀ i m us news, J i m us news → i ≤ us.length ∧ us.length ≤ n) ∧
    (∀ i v m us c news h tk I oI, us[i]? = some v → J i m us news → Fr h₀ env.locals h (fun y => if y = x then some v else m y) → News h₀ env.locals h ((I, oI) :: (l, listOf us.toArray c) :: news) → (∀ p ∈ (l, listOf us.toArray c) :: news, p.1 ≠ I) →
      wpAny (model prog w) A (execs body env) (GrowStep h₀ env.locals l I oI (J (i + 1)) { s with heap := h, toks := tk } Q) E { s with heap := h, toks := tk }) ∧
    (∀ i m us c news h tk, i = us.length → J i m us news → Fr h₀ env.locals h m → News h₀ env.locals h ((l, listOf us.toArray c) :: news) → Q .next { s with heap := h, toks := tk })
theorem for_grow {E : Value → Shared → Prop} {Q : Flow → Shared → Prop} {s : Shared} {x : Str} {px pos : Pos} {iter : PySem.Expr} {body : List Stmt} {m₀ : Str → Option Value} (_F : Fr h₀ env.locals s.heap m₀) (hh : A.handled = none) (hx : env.kindOf x = some .local)
    (hp : (env.scope.kind == .class || (env.scope.kind == .module && env.locals != env.globals)) = false)
    (h : wpAny (model prog w) A (eval iter env) (GrowAt prog w A h₀ env x body Q E) E s)
    (hs : ∀ x, foldedSetIterable iter env x = pure x := by intro _; rfl)
    (hE : PassesOwn (model prog w) A env E := by passes_own) :
    wpAny (model prog w) A (exec (.For (.Name x px) iter body [] pos) env) Q E s := by
  refine wpAny_For (wpAny_mono h (fun xv s₁ h₁ => ?_) fun _ _ e => e) hs
  obtain ⟨l, us, c, N, news, m, J, rfl, F, Nw, hJ, hb, step, done⟩ := h₁
  have hol : s₁.heap.get? l = some (listOf us.toArray c) := (Nw _ (.head _)).1
  have hls : s₁.heap.IsList l us.toArray := ⟨_, hol, rfl, c, rfl⟩
  refine wpAny_pyIter_list hls ?_
  have hI0 : s₁.heap.get? s₁.heap.objs.size = none := Heap.get?_none_of_le (Nat.le_refl _)
  have hIL : s₁.heap.objs.size ≠ env.locals := Nat.ne_of_gt F.ns.lt
  have hI₀ : h₀.get? s₁.heap.objs.size = none := Heap.get?_none_of_le (Nat.le_trans F.above (Nat.le_of_lt F.ns.lt))
  generalize hIe : s₁.heap.objs.size = I at *
  have hoff : ∀ p ∈ (l, listOf us.toArray c) :: news, p.1 ≠ I := fun p hp e => by
    have h9 := (Nw p hp).1
    rw [e, hI0] at h9
    cases h9
  refine codeAny_forLoop (R := fun r s' => match r with | .ok f => Q f s' | .error e => cameBackBy (model prog w) A env E e s')
    (fun k s' => ∃ h' tk m' us' c' news' i, s' = { s₁ with heap := h', toks := tk } ∧ h'.IsListIter I l i ∧ Fr h₀ env.locals h' m' ∧ News h₀ env.locals h' ((l, listOf us'.toArray c') :: news') ∧ (∀ p ∈ (l, listOf us'.toArray c') :: news', p.1 ≠ I) ∧ J i m' us' news' ∧ k = N + 1 - i) ?_ (N + 1)
    ⟨_, s₁.toks, m, us, c, news, 0, rfl, ⟨_, by rw [← hIe]; exact Heap.get?_push_size _ rfl, rfl, rfl⟩, F.push _, (fun p hp => ⟨Heap.get?_push_of_some _ (Nw p hp).1, (Nw p hp).2⟩), hoff, hJ, rfl⟩
  rintro k s' ⟨h', tk, m', us', c', news', i, rfl, hit, F', N', hoI, hJ', rfl⟩
  have hl' : h'.IsList l us'.toArray := ⟨_, (N' _ (.head _)).1, rfl, c', rfl⟩
  obtain ⟨hi1, hi2⟩ := hb _ _ _ _ hJ'
  by_cases hlt : i < us'.length
  · have hv : us'[i]? = some us'[i] := by simp [hlt]
    refine wpAny_pyNext_list_item hit hl' (x := us'[i]) (by simp [hlt]) fun h1 hit1 hs1 => ?_
    obtain ⟨oI, hoI1, hcl1, hd1⟩ := id hit1
    have F1 : Fr h₀ env.locals h1 m' := F'.change hs1 hIL hI₀
    have N1 : News h₀ env.locals h1 ((l, listOf us'.toArray c') :: news') := fun p hp => ⟨hs1.extBut _ _ (hoI p hp) (N' p hp).1, (N' p hp).2⟩
    refine wpAny_assign_Name (wpAny_storeName_local hx F1.ns (fun h2 hn2 hs2 => ?_) hp)
    have F2 := F1.set hn2 hs2
    have N2 : News h₀ env.locals h2 ((I, oI) :: (l, listOf us'.toArray c') :: news') := by
      intro p hp
      rcases List.mem_cons.mp hp with rfl | hp
      · exact ⟨(hs2.2 I hIL).trans hoI1, hIL, hI₀⟩
      · exact N1.set hs2 p hp
    refine wpAny_passesOwn hE (wpAny_mono (step i us'[i] m' us' c' news' h2 _ I oI hv hJ' F2 N2 hoI) (fun f s₃ h₃ => ?_) fun _ _ e => e)
    cases f with
    | ret v => exact h₃
    | brk => exact h₃
    | cont =>
      obtain ⟨h3, tk3, m3, us3, c3, news3, rfl, F3, N3, ho3, hJ3⟩ := h₃
      have hb3 := hb _ _ _ _ hJ3
      exact ⟨N + 1 - (i + 1), by omega, h3, tk3, m3, us3, c3, news3, i + 1, rfl, ⟨oI, (N3 _ (.head _)).1, hcl1, hd1⟩, F3, fun p hp => N3 p (.tail _ hp), ho3, hJ3, rfl⟩
    | next =>
      obtain ⟨h3, tk3, m3, us3, c3, news3, rfl, F3, N3, ho3, hJ3⟩ := h₃
      have hb3 := hb _ _ _ _ hJ3
      exact ⟨N + 1 - (i + 1), by omega, h3, tk3, m3, us3, c3, news3, i + 1, rfl, ⟨oI, (N3 _ (.head _)).1, hcl1, hd1⟩, F3, fun p hp => N3 p (.tail _ hp), ho3, hJ3, rfl⟩
  · have hie : i = us'.length := by omega
    refine wpAny_pyNext_list_end hh hit hl' (by simp; omega) fun h1 he1 => wpAny_execs_nil ?_
    have F1 : Fr h₀ env.locals h1 m' := ⟨F'.ns.at' fun o e => he1 _ o (Ne.symm hIL) e, fun b o e => he1 b o (fun q => by rw [q, hI₀] at e; cases e) (F'.keep b o e), F'.above⟩
    exact done i m' us' c' news' h1 tk hie hJ' F1 fun p hp => ⟨he1 _ _ (hoI p hp) (N' p hp).1, (N' p hp).2⟩
end
end Mine
theorem Mine.off_C1 : True := by
  w_top off
  trivial
namespace Mine
open PySem.Spec PySem.Calls
open PyProof.Rows.LCg
noncomputable def Off4 (I C cc D : Addr) (nw : List (Addr × Obj)) : Prop := ∀ p ∈ nw, p.1 ≠ I ∧ p.1 ≠ C ∧ p.1 ≠ cc ∧ p.1 ≠ D
noncomputable def CEnd (h₀ : Heap) (L : Addr) (m : Str → Option Value) (s : Shared) (I : Addr) (oI : Obj) (C : Addr) (oC : Obj) (cc : Addr) (oc : Obj) (D : Addr) (o : Obj) (Jn : Value → List (Addr × Obj) → Prop) (y : Value) (s' : Shared) : Prop :=
  ∃ h tk nw, s' = { s with heap := h, toks := tk } ∧ Fr h₀ L h m ∧ News h₀ L h ((I, oI) :: (C, oC) :: (cc, oc) :: (D, o) :: nw) ∧ Off4 I C cc D nw ∧ Jn y nw
section
variable {prog : Program} {w : World} {A : Around} {E : Value → Shared → Prop} {s : Shared} {h₀ : Heap} {L : Addr} {m : Str → Option Value} {env : Env}
noncomputable def CTurn (prog : Program) (w : World) (A : Around) (h₀ : Heap) (L : Addr) (m : Str → Option Value) (env : Env) (ifs : List PySem.Expr) (elt : PySem.Expr) (x : Str) (scope : Scope) (cl : List (Str × Addr)) (s₁ : Shared) (a : Int) (n : Nat) (J : Nat → List Value → List (Addr × Obj) → Prop) : Prop :=
  ∀ i ys nw I oI C oC cc oc D h tk t' (E' : Value → Shared → Prop), i < n → J i ys nw → oc.data = .cell (some (.int (a + (i : Int)) t')) → Fr h₀ L h m → News h₀ L h ((I, oI) :: (C, oC) :: (cc, oc) :: (D, lst ys) :: nw) → Off4 I C cc D nw → ((@Ne Nat I C) ∧ (@Ne Nat I cc) ∧ (@Ne Nat I D) ∧ (@Ne Nat C cc) ∧ (@Ne Nat C D) ∧ (@Ne Nat cc D)) →
      wpAny (model prog w) A (forIn ifs true fun c r => if r = true then do let ok ← isTrue c (compEnvC scope ((x, cc) :: cl) C env) (eval c (compEnvC scope ((x, cc) :: cl) C env)); pure (ForInStep.yield ok) else pure (ForInStep.yield r)) (fun ok s' => if ok = true then
        wpAny (model prog w) A (eval elt (compEnvC scope ((x, cc) :: cl) C env)) (CEnd h₀ L m { s₁ with heap := h, toks := tk } I oI C oC cc oc D (lst ys) (fun y nw' => J (i + 1) (ys ++ [y]) nw')) E' s'
        else CEnd h₀ L m { s₁ with heap := h, toks := tk } I oI C oC cc oc D (lst ys) (fun _ nw' => J (i + 1) ys nw') Value.none s') E' { s₁ with heap := h, toks := tk }
noncomputable def CFin (h₀ : Heap) (L : Addr) (mf : Addr → Str → Option Value) (Q : Value → Shared → Prop) (s₁ : Shared) (n : Nat) (J : Nat → List Value → List (Addr × Obj) → Prop) : Prop :=
  ∀ ys nw D h tk, J n ys nw → Fr h₀ L h (mf D) → News h₀ L h ((D, lst ys) :: nw) → (∀ p ∈ nw, p.1 ≠ D) → Q (.ref D) { s₁ with heap := h, toks := tk }
noncomputable def CellSrc (prog : Program) (w : World) (A : Around) (h₀ : Heap) (L : Addr) (m : Str → Option Value) (env : Env) (ifs : List PySem.Expr) (elt : PySem.Expr) (x : Str) (scope : Scope) (cl : List (Str × Addr)) (mf : Addr → Str → Option Value) (Q : Value → Shared → Prop) (xv : Value) (s₁ : Shared) : Prop :=
  ∃ (r : Addr) (a b : Int) (t u v : Tok) (n : Nat) (news : List (Addr × Obj)) (J : Nat → List Value → List (Addr × Obj) → Prop), xv = .ref r ∧ A.handled = none ∧ Fr h₀ L s₁.heap m ∧ News h₀ L s₁.heap news ∧ IsRange s₁.heap r a b 1 t u v ∧ Builtin.Range.small a b 1 = true ∧ Builtin.Range.rangeSize a b 1 = ((n : Nat) : Int) ∧ n ≤ sizeLine ∧ J 0 [] news ∧
    CTurn prog w A h₀ L m env ifs elt x scope cl s₁ a n J ∧ CFin h₀ L mf Q s₁ n J
theorem CellSrc.elim {ifs : List PySem.Expr} {elt : PySem.Expr} {x : Str} {scope : Scope} {cl : List (Str × Addr)} {mf : Addr → Str → Option Value} {Q : Value → Shared → Prop} {xv : Value} {s₁ : Shared} {G : Prop} (h : CellSrc prog w A h₀ L m env ifs elt x scope cl mf Q xv s₁) (k : ∀ (r : Addr) (a b : Int) (t u v : Tok) (n : Nat) (news : List (Addr × Obj)) (J : Nat → List Value → List (Addr × Obj) → Prop), xv = .ref r → A.handled = none → Fr h₀ L s₁.heap m → News h₀ L s₁.heap news → IsRange s₁.heap r a b 1 t u v → Builtin.Range.small a b 1 = true → Builtin.Range.rangeSize a b 1 = ((n : Nat) : Int) → n ≤ sizeLine → J 0 [] news → CTurn prog w A h₀ L m env ifs elt x scope cl s₁ a n J → CFin h₀ L mf Q s₁ n J → G) : G := by
  obtain ⟨r, a, b, t, u, v, n, news, J, q1, q2, q3, q4, q5, q6, q7, q8, q9, q10, q11⟩ := h
  exact k r a b t u v n news J q1 q2 q3 q4 q5 q6 q7 q8 q9 q10 q11
abbrev CInv (h₀ : Heap) (L : Addr) (m : Str → Option Value) (s₁ : Shared) (I C cc D : Addr) (a : Int) (n : Nat) (J : Nat → List Value → List (Addr × Obj) → Prop) (k : Nat) (s' : Shared) : Prop :=
  ∃ (h' : Heap) (tk : Nat) (i : Nat) (ys : List Value) (oC oc : Obj) (m' : Str → Option Value) (v₀ : Option Value) (nw : List (Addr × Obj)), s' = { s₁ with heap := h', toks := tk } ∧ i ≤ n ∧ k = n + 1 - i ∧ ys.length ≤ i ∧ IsRangeIter h' I (a + (i : Nat) * 1) ((n : Int) - (i : Nat)) 1 ∧ Fr h₀ L h' m ∧ NsObj oC m' ∧ oc.data = .cell v₀ ∧ News h₀ L h' ((C, oC) :: (cc, oc) :: (D, lst ys) :: nw) ∧ Off4 I C cc D nw ∧ J i ys nw
theorem CInv.elim {s₁ : Shared} {I C cc D : Addr} {a : Int} {n : Nat} {J : Nat → List Value → List (Addr × Obj) → Prop} {k : Nat} {s' : Shared} {G : Prop} (h : CInv h₀ L m s₁ I C cc D a n J k s') (q : ∀ (h' : Heap) (tk : Nat) (i : Nat) (ys : List Value) (oC oc : Obj) (m' : Str → Option Value) (v₀ : Option Value) (nw : List (Addr × Obj)), s' = { s₁ with heap := h', toks := tk } → i ≤ n → k = n + 1 - i → ys.length ≤ i → IsRangeIter h' I (a + (i : Nat) * 1) ((n : Int) - (i : Nat)) 1 → Fr h₀ L h' m → NsObj oC m' → oc.data = .cell v₀ → News h₀ L h' ((C, oC) :: (cc, oc) :: (D, lst ys) :: nw) → Off4 I C cc D nw → J i ys nw → G) : G := by
  obtain ⟨h', tk, i, ys, oC, oc, m', v₀, nw, q0, q1, q2, q3, q4, q5, q6, q7, q8, q9, q10⟩ := h
  exact q h' tk i ys oC oc m' v₀ nw q0 q1 q2 q3 q4 q5 q6 q7 q8 q9 q10
theorem CEnd.elim {I : Addr} {oI : Obj} {C : Addr} {oC : Obj} {cc : Addr} {oc : Obj} {D : Addr} {o : Obj} {Jn : Value → List (Addr × Obj) → Prop} {y : Value} {s' : Shared} {G : Prop} (h : CEnd h₀ L m s I oI C oC cc oc D o Jn y s') (k : ∀ (h : Heap) (tk : Nat) (nw : List (Addr × Obj)), s' = { s with heap := h, toks := tk } → Fr h₀ L h m → News h₀ L h ((I, oI) :: (C, oC) :: (cc, oc) :: (D, o) :: nw) → Off4 I C cc D nw → Jn y nw → G) : G := by
  obtain ⟨h, tk, nw, q1, q2, q3, q4, q5⟩ := h
  exact k h tk nw q1 q2 q3 q4 q5
theorem nfe_cell {M : Model} {scope : Scope} {globals : Addr} {cl : List (Str × Addr)} {qual x : Str} {outer : Env} {Q : Env → Shared → Prop} (hone : ∀ n, cellsFrom n scope.names cl = (x, n) :: cl) (hpush : ∀ h, pushCells h scope.names = h.push { cls := .type "cell", data := .cell none })
    (hQ : Q { scope := scope, locals := s.heap.objs.size, globals := globals, cells := (x, s.heap.objs.size + 1) :: cl, qual := qual, func := none, code := outer.code, frame := outer.frame, builtins := outer.builtins } { s with heap := (s.heap.push { cls := .type "dict", data := .dict #[] }).push { cls := .type "cell", data := .cell none } }) :
    wpAny M A (newFunctionEnv scope globals cl [] qual none .none (some outer)) Q E s := by
  simp only [newFunctionEnv, Option.isSome_some, if_true]
  refine wpAny_bind (wpAny_alloc ?_)
  refine wpAny_bind (wpAny_layCells _ (fun name kind cells => by cases hkc : kind == NameKind.cell <;> simp [hkc]) _ _ _ _ ?_)
  rw [hpush, hone]
  rw [show ({ s with heap := s.heap.push { cls := .type "dict", data := .dict #[] } } : Shared).heap.objs.size = s.heap.objs.size + 1 from Heap.size_push ..]
  exact wpAny_bind (by rw [List.forIn_nil]; exact wpAny_pure (wpAny_pure hQ))
theorem cell_run {elt iter : PySem.Expr} {ifs : List PySem.Expr} {x : Str} {px : Pos} {scope : Scope} {cl : List (Str × Addr)} {pos : Pos} {mf : Addr → Str → Option Value} {Q Qc : Value → Shared → Prop} {use : Option (Value → Sem Unit)} {xv : Value} {s₁ : Shared}
    (hkind : scope.kind = .function) (hone : ∀ n, cellsFrom n scope.names cl = (x, n) :: cl) (hpush : ∀ h, pushCells h scope.names = h.push { cls := .type "cell", data := .cell none })
    (hx : ∀ c C, (compEnvC scope ((x, c) :: cl) C env).kindOf x = some .cell)
    (hend : ∀ D C h tk m' nw o, Fr h₀ L h m → News h₀ L h ((D, o) :: nw) → h.Ns C m' → h₀.get? C = none → h₀.get? D = none → C ≠ L → D ≠ L → D ≠ C → (∀ p ∈ nw, p.1 ≠ C) → (∀ h₂ tk₂, Fr h₀ L h₂ (mf D) → News h₀ L h₂ ((D, o) :: nw) → Q (.ref D) { s₁ with heap := h₂, toks := tk₂ }) → compPost (model prog w) A E use Qc (.ref D) C (.ok .next) { s₁ with heap := h, toks := tk })
    (h₁ : CellSrc prog w A h₀ L m env ifs elt x scope cl mf Q xv s₁) :
    wpAny (model prog w) A (pyIter xv) (fun it s₂ => wpAny (model prog w) A (newList []) (fun acc s₃ => wpAny (model prog w) A (newFunctionEnv scope env.globals cl [] env.qual none .none (some env)) (fun cenv s₄ =>
      codeAny (model prog w) A (.compStart (.ListComp elt [⟨.Name x px, iter, ifs, 0⟩] scope pos) 0 it acc { cenv with scope := relabel scope env }) (compPost (model prog w) A E use Qc acc cenv.locals) s₄) E s₃) E s₂) E s₁ := by
  refine CellSrc.elim h₁ fun r a b t u v n news J hxv hh F N hr hsm hn hsz h0 turn fin => ?_
  clear h₁
  subst hxv
  refine wpAny_pyIter_range hr hsm ?_
  have W := range_walks (prog := prog) (w := w) (A := A) (I := s₁.heap.objs.size) hh a n
  generalize hH1 : s₁.heap.push _ = H1
  have hI1 : H1.objs.size = s₁.heap.objs.size + 1 := by rw [← hH1, Heap.size_push]
  have hst : IsRangeIter H1 s₁.heap.objs.size (a + ((0 : Nat) : Int) * 1) ((n : Int) - ((0 : Nat) : Int)) 1 := by
    show H1.get? _ = some _
    rw [← hH1, hn]
    simpa using Heap.get?_push_size _ rfl
  have k1 : ∀ b o, s₁.heap.get? b = some o → H1.get? b = some o := fun b o e => hH1 ▸ Heap.get?_push_of_some _ e
  refine wpAny_newObj_type (nfe_cell hone hpush ?_)
  dsimp only
  generalize hIe : s₁.heap.objs.size = I at *
  generalize hDe : H1.objs.size = D at *
  generalize hH2 : H1.push _ = H2
  have hCe : H2.objs.size = D + 1 := by rw [← hH2, Heap.size_push, hDe]
  generalize hCe2 : H2.objs.size = C at *
  generalize hH3 : H2.push _ = H3
  have hcce : H3.objs.size = C + 1 := by rw [← hH3, Heap.size_push, hCe2]
  generalize hH4 : H3.push _ = H4
  have k2 : ∀ b o, H1.get? b = some o → H2.get? b = some o := fun b o e => hH2 ▸ Heap.get?_push_of_some _ e
  have k3 : ∀ b o, H2.get? b = some o → H3.get? b = some o := fun b o e => hH3 ▸ Heap.get?_push_of_some _ e
  have k4 : ∀ b o, H3.get? b = some o → H4.get? b = some o := fun b o e => hH4 ▸ Heap.get?_push_of_some _ e
  have old : ∀ b o, s₁.heap.get? b = some o → H4.get? b = some o := fun b o e => k4 _ _ (k3 _ _ (k2 _ _ (k1 _ _ e)))
  have fresh : ∀ q, I ≤ q → h₀.get? q = none := fun q hq => by
    cases e : h₀.get? q with
    | none => rfl
    | some o' =>
      have := Heap.lt_size (F.keep q o' e)
      exact absurd this (Nat.not_lt.mpr (hIe ▸ hq))
  have hLlt : L < I := hIe ▸ F.ns.lt
  have hnlt : ∀ p ∈ news, p.1 < I := fun p hp => hIe ▸ Heap.lt_size (N p hp).1
  have hDo : H4.get? D = some (lst []) := k4 _ _ (k3 _ _ (by rw [← hH2, ← hDe]; exact Heap.get?_push_size _ rfl))
  have hCns : H4.Ns C (fun _ => none) := by
    have q := Heap.Ns.new H2 (.type "dict")
    rw [hCe2] at q
    exact q.keeps fun b o e => k4 b o (by rw [← hH3]; exact e)
  obtain ⟨oC0, heC0, hoC0⟩ := ns_obj hCns
  have hcco : H4.get? (C + 1) = some { cls := .type "cell", data := .cell none } := by
    rw [← hH4, ← hcce]
    exact Heap.get?_push_size _ rfl
  have hst4 : IsRangeIter H4 I (a + ((0 : Nat) : Int) * 1) ((n : Int) - ((0 : Nat) : Int)) 1 := k4 _ _ (k3 _ _ (k2 _ _ hst))
  have hID : I ≠ D := by omega
  have hIC : I ≠ C := by omega
  have hIcc : I ≠ C + 1 := by omega
  have hDC : D ≠ C := by omega
  have hDcc : D ≠ C + 1 := by omega
  have hCcc : C ≠ C + 1 := by omega
  have hIL : L ≠ I := Nat.ne_of_lt hLlt
  have hDL : D ≠ L := Nat.ne_of_gt (Nat.lt_of_lt_of_le hLlt (by omega))
  have hCL : C ≠ L := Nat.ne_of_gt (Nat.lt_of_lt_of_le hLlt (by omega))
  have hccL : C + 1 ≠ L := Nat.ne_of_gt (Nat.lt_of_lt_of_le hLlt (by omega))
  have hI₀ := fresh I (Nat.le_refl _)
  have hD₀ := fresh D (by omega)
  have hC₀ := fresh C (by omega)
  have hcc₀ := fresh (C + 1) (by omega)
  have loop : ∀ s₃ : Shared, (∃ tk, s₃ = { s₁ with heap := H4, toks := tk }) →
      codeAny (model prog w) A (.compLoop (.ListComp elt [⟨.Name x px, iter, ifs, 0⟩] scope pos) 0 (.ref I) (.ref D) (compEnvC scope ((x, C + 1) :: cl) C env)) (compPost (model prog w) A E use Qc (.ref D) C) s₃ := by
    rintro s₃ ⟨tk0, rfl⟩
    refine codeAny_compLoop_tests
      (CInv h₀ L m s₁ I C (C + 1) D a n J) ?_ (n + 1)
      ⟨H4, tk0, 0, [], oC0, { cls := .type "cell", data := .cell none }, _, none, news, rfl, Nat.zero_le _, rfl, Nat.le_refl _, hst4, F.keeps old, hoC0, rfl, fun p hp => ?_, fun p hp => ?_, h0⟩
    · intro k s' hJ0
      refine CInv.elim hJ0 fun h' tk i ys oC oc m' v₀ nw e1 hi e2 hyl hst' F' hoC hoc N' off' hJ => ?_
      clear hJ0
      subst e1
      subst e2
      by_cases hlt : i < n
      · refine W.item i _ _ _ hlt hst' fun v h₂ tk₂ hPv hst₂ hk₂ => ?_
        obtain ⟨tv, rfl⟩ := hPv
        have zcc := (N' (C + 1, oc) (.tail _ (.head _))).1
        have zcc2 := hk₂ _ _ (by simpa using Ne.symm hIcc) zcc
        refine wpAny_assign_Name (wpAny_storeName_cell (c := C + 1) (v₀ := v₀) hkind (hx _ _) (by simp [compEnvC]) ⟨oc, zcc2, hoc⟩ fun h₃ hv₃ hs₃ => ?_)
        obtain ⟨oc3, hoc3, hdc3⟩ := hv₃
        have hst₃ : IsRangeIter h₃ I (a + ((i + 1 : Nat) : Int) * 1) ((n : Int) - ((i + 1 : Nat) : Int)) 1 := W.frame _ _ _ hst₂ fun b hb o e => hs₃.extBut b o (fun q => hIcc (by rw [← q]; exact (List.mem_singleton.mp hb).symm)) e
        obtain ⟨oI, heI⟩ : ∃ o, h₃.get? I = some o := ⟨_, hst₃⟩
        have F₃ : Fr h₀ L h₃ m := (fr_but F' hk₂ hIL hI₀).change hs₃ hccL hcc₀
        have N₂ : News h₀ L h₂ ((C, oC) :: (C + 1, oc) :: (D, lst ys) :: nw) := news_but N' hk₂ fun p hp => by
          rcases List.mem_cons.mp hp with rfl | hp
          · exact Ne.symm hIC
          · rcases List.mem_cons.mp hp with rfl | hp
            · exact Ne.symm hIcc
            · rcases List.mem_cons.mp hp with rfl | hp
              · exact Ne.symm hID
              · exact (off' p hp).1
        have N₃ : News h₀ L h₃ ((I, oI) :: (C, oC) :: (C + 1, oc3) :: (D, lst ys) :: nw) := fun p hp => by
          rcases List.mem_cons.mp hp with rfl | hp
          · exact ⟨heI, Ne.symm hIL, hI₀⟩
          · rcases List.mem_cons.mp hp with rfl | hp
            · have z := N₂ _ (.head _)
              exact ⟨hs₃.extBut _ _ hCcc z.1, z.2⟩
            · rcases List.mem_cons.mp hp with rfl | hp
              · exact ⟨hoc3, hccL, hcc₀⟩
              · have z := N₂ p (.tail _ (.tail _ hp))
                refine ⟨hs₃.extBut _ _ ?_ z.1, z.2⟩
                rcases List.mem_cons.mp hp with rfl | hp
                · exact hDcc
                · exact (off' p hp).2.2.1
        refine wpAny_mono (turn i ys nw I oI C oC (C + 1) oc3 D h₃ tk₂ tv _ hlt hJ hdc3 F₃ N₃ off' ⟨hIC, hIcc, hID, hCcc, Ne.symm hDC, Ne.symm hDcc⟩) (fun ok s₄ h₄ => ?_) fun _ _ e => e
        cases ok with
        | true =>
          simp only [if_true] at h₄ ⊢
          refine wpAny_mono h₄ (fun y s₅ h₅ => ?_) fun _ _ e => e
          refine CEnd.elim h₅ fun h₄ tk₄ nw₄ e4 F₄ N₄ off₄ hJ₄ => ?_
          clear h₅
          subst e4
          have zI := (N₄ (I, oI) (.head _)).1
          have zD := (N₄ (D, lst ys) (.tail _ (.tail _ (.tail _ (.head _))))).1
          refine append_at (hsz := by show ys.toArray.size ≤ sizeLine; rw [List.size_toArray]; exact Nat.le_trans (Nat.le_trans hyl hi) hsz) zD fun h₅ hs₅ hD₅ => ?_
          refine ⟨n + 1 - (i + 1), by omega, h₅, tk₄, i + 1, ys ++ [y], oC, oc3, m', _, nw₄, rfl, hlt, rfl, by rw [List.length_append, List.length_singleton]; exact Nat.succ_le_succ hyl, ?_, F₄.change hs₅ hDL hD₀, hoC, hdc3, fun p hp => ?_, off₄, hJ₄⟩
          · have q : h₅.get? I = some oI := hs₅.extBut _ _ hID zI
            have q2 : h₃.get? I = some _ := hst₃
            show h₅.get? I = some _
            rw [q, ← heI, q2]
          · rcases List.mem_cons.mp hp with rfl | hp
            · have z := N₄ (C, oC) (.tail _ (.head _))
              exact ⟨hs₅.extBut _ _ (Ne.symm hDC) z.1, z.2⟩
            · rcases List.mem_cons.mp hp with rfl | hp
              · have z := N₄ (C + 1, oc3) (.tail _ (.tail _ (.head _)))
                exact ⟨hs₅.extBut _ _ (Ne.symm hDcc) z.1, z.2⟩
              · rcases List.mem_cons.mp hp with rfl | hp
                · exact ⟨hD₅.trans (congrArg some (lst_snoc ys y)), hDL, hD₀⟩
                · have z := N₄ p (.tail _ (.tail _ (.tail _ (.tail _ hp))))
                  exact ⟨hs₅.extBut _ _ (off₄ p hp).2.2.2 z.1, z.2⟩
        | false =>
          simp only [Bool.false_eq_true, if_false] at h₄ ⊢
          obtain ⟨h₄, tk₄, nw₄, rfl, F₄, N₄, off₄, hJ₄⟩ := h₄
          have zI := (N₄ (I, oI) (.head _)).1
          refine ⟨n + 1 - (i + 1), by omega, h₄, tk₄, i + 1, ys, oC, oc3, m', _, nw₄, rfl, hlt, rfl, Nat.le_succ_of_le hyl, ?_, F₄, hoC, hdc3, fun p hp => N₄ p (.tail _ hp), off₄, hJ₄⟩
          have q2 : h₃.get? I = some _ := hst₃
          show h₄.get? I = some _
          rw [zI, ← heI, q2]
      · obtain rfl : i = n := Nat.le_antisymm hi (Nat.not_lt.mp hlt)
        refine W.done _ _ _ hst' fun h₂ tk₂ hk₂ => ?_
        have zC := (N' (C, oC) (.head _)).1
        have zC2 := hk₂ _ _ (by simpa using Ne.symm hIC) zC
        refine hend D C h₂ tk₂ m' nw (lst ys) (fr_but F' hk₂ hIL hI₀) (fun p hp => ?_) (hoC.ns zC2) hC₀ hD₀ hCL hDL hDC (fun p hp => (off' p hp).2.1) (fun h₃ tk₃ F₃ N₃ => fin ys nw D h₃ tk₃ hJ F₃ N₃ fun p hp => (off' p hp).2.2.2)
        have z := N' p (.tail _ (.tail _ hp))
        refine ⟨hk₂ _ _ ?_ z.1, z.2⟩
        rcases List.mem_cons.mp hp with rfl | hp
        · simpa using Ne.symm hID
        · simpa using (off' p hp).1
    · rcases List.mem_cons.mp hp with rfl | hp
      · exact ⟨heC0, hCL, hC₀⟩
      · rcases List.mem_cons.mp hp with rfl | hp
        · exact ⟨hcco, hccL, hcc₀⟩
        · rcases List.mem_cons.mp hp with rfl | hp
          · exact ⟨hDo, hDL, hD₀⟩
          · exact ⟨old _ _ (N p hp).1, (N p hp).2⟩
    · have q := hnlt p hp
      exact ⟨Nat.ne_of_lt q, Nat.ne_of_lt (Nat.lt_of_lt_of_le q (by omega)), Nat.ne_of_lt (Nat.lt_of_lt_of_le q (by omega)), Nat.ne_of_lt (Nat.lt_of_lt_of_le q (by omega))⟩
  exact codeAny_compStart_list (loop _ ⟨_, rfl⟩) (W.self 0 _ _ _ hst4 (loop _ ⟨_, rfl⟩))
theorem comp_cell {elt iter : PySem.Expr} {ifs : List PySem.Expr} {x : Str} {px : Pos} {scope : Scope} {cl : List (Str × Addr)} {pos : Pos} {Q : Value → Shared → Prop} (_F₀ : Fr h₀ L s.heap m)
    (hclos : closureFor scope env = pure cl) (hkind : scope.kind = .function)
    (hnames : ∀ y ∈ scope.names, y.2 = .local → scope.names.lookup y.1 = some .local) (hone : ∀ n, cellsFrom n scope.names cl = (x, n) :: cl) (hpush : ∀ h, pushCells h scope.names = h.push { cls := .type "cell", data := .cell none })
    (hx : ∀ c C, (compEnvC scope ((x, c) :: cl) C env).kindOf x = some .cell)
    (h : wpAny (model prog w) A (eval iter env) (CellSrc prog w A h₀ L m env ifs elt x scope cl (fun _ => m) Q) E s)
    (hs : ∀ x, foldedSetIterable iter env x = pure x := by intro _; rfl) :
    wpAny (model prog w) A (eval (.ListComp elt [⟨.Name x px, iter, ifs, 0⟩] scope pos) env) Q E s := by
  rw [eval_ListComp]
  refine wpAny_comprehension_free (use := none) rfl hs hclos hkind hnames (wpAny_mono h (fun xv s₁ h₁ => cell_run hkind hone hpush hx ?_ h₁) fun _ _ e => e)
  intro D C h tk m' nw o F N hns hC₀ hD₀ hCL hDL hDC hoff k
  refine ⟨m', hns, fun h' hs' => k h' tk (F.change hs' hCL hC₀) fun p hp => ?_⟩
  have z := N p hp
  refine ⟨hs'.extBut _ _ ?_ z.1, z.2⟩
  rcases List.mem_cons.mp hp with rfl | hp
  · exact hDC
  · exact hoff p hp
theorem comp_cell_use {elt iter : PySem.Expr} {ifs : List PySem.Expr} {x y : Str} {px py : Pos} {scope : Scope} {cl : List (Str × Addr)} {pos spos : Pos} {Q : Flow → Shared → Prop} (_F₀ : Fr h₀ L s.heap m) (hLe : env.locals = L)
    (hsw : swapsWith (.ListComp elt [⟨.Name x px, iter, ifs, 0⟩] scope pos) (some (.Name y py)) spos.line env = pure true)
    (hclos : closureFor scope env = pure cl) (hkind : scope.kind = .function)
    (hnames : ∀ z ∈ scope.names, z.2 = .local → scope.names.lookup z.1 = some .local) (hone : ∀ n, cellsFrom n scope.names cl = (x, n) :: cl) (hpush : ∀ h, pushCells h scope.names = h.push { cls := .type "cell", data := .cell none })
    (hx : ∀ c C, (compEnvC scope ((x, c) :: cl) C env).kindOf x = some .cell)
    (hy : env.kindOf y = some .local) (hp : (env.scope.kind == .class || (env.scope.kind == .module && env.locals != env.globals)) = false)
    (h : wpAny (model prog w) A (eval iter env) (CellSrc prog w A h₀ L m env ifs elt x scope cl (fun D z => if z = y then some (.ref D) else m z) (fun _ s' => Q .next s')) E s)
    (hs : ∀ x, foldedSetIterable iter env x = pure x := by intro _; rfl) :
    wpAny (model prog w) A (exec (.Assign [.Name y py] (.ListComp elt [⟨.Name x px, iter, ifs, 0⟩] scope pos) spos) env) Q E s := by
  subst hLe
  rw [exec_Assign_Name_used _ _ _ _ hsw]
  refine wpAny_bind (wpAny_standAt (wpAny_bind ?_))
  show wpAny _ A (do let _ ← comprehension (.ListComp elt [⟨.Name x px, iter, ifs, 0⟩] scope pos) scope env _ (newList []) false (eval iter env) (some (assign (.Name y py) env))) _ _ s
  refine wpAny_bind (wpAny_mono (wpAny_comprehension_free (use := some (assign (.Name y py) env)) (Q := fun _ s' => Q .next s') rfl hs hclos hkind hnames
    (wpAny_mono h (fun xv s₁ h₁ => cell_run hkind hone hpush hx ?_ h₁) fun _ _ e => e)) (fun _ s' hq => wpAny_pure (wpAny_pure hq)) fun _ _ e => e)
  intro D C h tk m' nw o F N hns hC₀ hD₀ hCL hDL hDC hoff k
  show wpAny _ A (assign (.Name y py) env (.ref D)) _ _ _
  refine wpAny_assign_Name (wpAny_storeName_local hy F.ns (fun h₂ hn₂ hs₂ => ?_) hp)
  have hL₀ : h₀.get? env.locals = none := Heap.get?_none_of_le F.above
  have F₂ : Fr h₀ env.locals h₂ (fun z => if z = y then some (.ref D) else m z) := ⟨hn₂, fun b o e => hs₂.extBut b o (fun q => by rw [q, hL₀] at e; cases e) (F.keep b o e), F.above⟩
  refine ⟨m', hns.sameBut hs₂ hCL, fun h'' hs'' => k h'' _ (F₂.change hs'' hCL hC₀) fun p hp => ?_⟩
  have z : h₂.get? p.1 = some p.2 := hs₂.extBut _ _ (N p hp).2.1 (N p hp).1
  refine ⟨hs''.extBut _ _ ?_ z, (N p hp).2⟩
  rcases List.mem_cons.mp hp with rfl | hp
  · exact hDC
  · exact hoff p hp
end
end Mine
theorem Mine.off_G2 : True := by
  w_top off
  trivial
namespace Mine
theorem noI_list : fillsInplaceSlot (.type "list") "add" (Operator.Add == .Add) = pure false := by
  unfold fillsInplaceSlot
  show (typeLookup (.type "list") (dunderI "add") >>= fun fi => pure (fi.isSome && !isSeqSlot fi)) = pure false
  rw [PySem.F.slot_list_iadd.lookup]
  have e : isSeqSlot (some (.builtin "list.__iadd__")) = true := by decide +kernel
  simp only [pure_bind, e]
  rfl
theorem seqI_list : seqSlot? (.type "list") (dunderI "add") = pure (some (.builtin "list.__iadd__")) := PySem.seqSlot_of PySem.F.slot_list_iadd.lookup (by decide +kernel)
section
variable {prog : Program} {w : World} {A : Around} {E : Value → Shared → Prop} {s : Shared} {h₀ : Heap} {L D b : Addr} {m : Str → Option Value} {pre post : List (Addr × Obj)} {us ys : List Value} {n n2 : Nat} {Q : Value → Shared → Prop}
theorem inplace_list {x y : Value} (ha : s.TypeIs x "list") (hb : s.TypeIs y "list") (hc : wpAny (model prog w) A (call (.builtin "list.__iadd__") [x, y]) Q E s) : wpAny (model prog w) A (inplaceOp .Add x y) Q E s := by
  unfold inplaceOp
  refine wpAny_holding ?_
  refine wpAny_bind (wpAny_typeOf ha (wpAny_bind (wpAny_of_eq noI_list ?_)))
  show wpAny (model prog w) A (if false = true then _ else _) Q E s
  rw [if_neg Bool.false_ne_true]
  refine wpAny_bind (PySem.wpAny_binaryOp1_none (nm := "add") ha hb noFill_list_add ?_)
  refine wpAny_bind (wpAny_of_eq seqI_list ?_)
  exact wpAny_bind (wpAny_rule hc)
theorem iadd_in (F : Fr h₀ L s.heap m) (N : News h₀ L s.heap (pre ++ (D, listOf us.toArray n) :: post)) (a : ∀ p ∈ pre, p.1 ≠ D) (c : ∀ p ∈ post, p.1 ≠ D) (hb : (b, listOf ys.toArray n2) ∈ pre ++ (D, listOf us.toArray n) :: post) (hz : us.length + ys.length ≤ 1000)
    (h : ∀ h' n', Fr h₀ L h' m → News h₀ L h' (pre ++ (D, listOf (us ++ ys).toArray n') :: post) → Q (.ref D) { s with heap := h' }) : wpAny (model prog w) A (inplaceOp .Add (.ref D) (.ref b)) Q E s := by
  have z := N (D, listOf us.toArray n) (List.mem_append.mpr (.inr (.head _)))
  refine inplace_list ⟨_, z.1, rfl⟩ ⟨_, (N _ hb).1, rfl⟩ ?_
  have hd : ¬(!us.toArray.isEmpty && Builtin.List.listTooLong (us.toArray.size + ys.toArray.size)) = true := by
    have q : Builtin.List.listTooLong (us.toArray.size + ys.toArray.size) = false := by
      unfold Builtin.List.listTooLong
      rw [sizeLine_eq]
      simp
      omega
    rw [q]
    simp
  refine call_meets PySem.F.slot_list_iadd ⟨_, z.1, rfl⟩ PySem.F.entry_list_iadd (PySem.F.args_list_iadd_2 _ _) (PySem.AutoSeq1.list___iadd___list_list_0 D us.toArray n b ys.toArray n2 hd (by rw [sizeLine_eq]; simp; omega) (by rw [sizeLine_eq]; simp; omega)) ⟨z.1, (N _ hb).1, ?_⟩
  by_cases hy : ys = []
  · subst hy
    refine h _ n (F.change (Heap.SameBut.update ..) z.2.1 z.2.2) (kl_turn0 _ N a c ?_ ?_)
    · simp
    · simp
  · refine h _ (n + 1) (F.change (Heap.SameBut.update ..) z.2.1 z.2.2) (kl_turn _ N a c ?_ ?_)
    · simp
    · have : 0 < ys.length := List.length_pos_iff.mpr hy
      simp
      exact hy
end
end Mine
theorem Mine.off_T0 : True := by
  w_top off
  trivial
namespace Mine
/-! expressions that make int lists; the ledger only grows -/
section
variable {w : World} {A : Around} {h₀ : Heap} {L a : Addr} {cn : Str} {cs : Scope} {cd : Value} {cl : List (Str × Addr)} {m : Str → Option Value} {news known base : List (Addr × Obj)} {R : Value → Prop}
noncomputable def Sub (known nw : List (Addr × Obj)) : Prop := ∀ p ∈ known, p ∈ nw
theorem sub_mem {nw : List (Addr × Obj)} {p : Addr × Obj} (hS : Sub known nw) (h : p ∈ known) : p ∈ nw := hS p h
theorem Ev.nameX {x : Str} {p : Pos} {v : Value} (hx : m x = some v) (hv : R v) (hk : cs.kind = ScopeKind.function) (hl : (envX cn cs L a cd cl).kindOf x = some NameKind.local) (hd : (x == Str.ofString "__debug__") = false) : Ev w A h₀ L (envX cn cs L a cd cl) m news (.Name x p) R :=
  fun _ s _ F N q => nameX_L F hx (q _ s.heap s.toks hv F N) hk hl hd
theorem Ev.subX {x : Str} {k0 : Int} {k : Nat} {p1 p2 p3 : Pos} {r : Addr} {l : List Value} {n j : Nat} {u : Value} (hx : m x = some (.ref r)) (hm : (r, ({ cls := .type "tuple", data := .seq l.toArray n } : Obj)) ∈ news) (hj : seqIndex? k0 l.length = some j) (hu : l[j]? = some u) (hv : R u) (h0 : -2 ^ 63 ≤ k0) (h1 : k0 < 2 ^ 63) (hk : cs.kind = ScopeKind.function) (hl : (envX cn cs L a cd cl).kindOf x = some NameKind.local) (hd : (x == Str.ofString "__debug__") = false) : Ev w A h₀ L (envX cn cs L a cd cl) m news (.Subscript (.Name x p1) (.Constant (.int k0) k p2) p3) R :=
  fun _ s _ F N q => Subscript_ (nameX_L F hx (wpAny_Constant_int (item_tupleT (News.isTup N hm) h0 h1 hj hu (q _ s.heap (s.toks + 1) hv F N) (by with_unfolding_all rfl))) hk hl hd)
theorem Ev.slice3X {x : Str} {p1 p2 p3 p4 : Pos} {k0 : Nat} {nm : Str} {t : Tok} {n : Int} (hx : m x = some (.str nm t)) (hlen : nm.length ≤ sizeLine) (hk : cs.kind = ScopeKind.function) (hl : (envX cn cs L a cd cl).kindOf x = some NameKind.local) (hd : (x == Str.ofString "__debug__") = false) : Ev w A h₀ L (envX cn cs L a cd cl) m news (.Subscript (.Name x p1) (.Slice none (some (.Constant (.int n) k0 p2)) none p3) p4) (IsSt (Txt.slice nm none (some n))) := by
  intro E s Q F N q
  refine Subscript_ (nameX_L F hx ?_ hk hl hd)
  refine wpAny_Slice ?_
  refine evalPart_none_step ?_
  refine evalPart_some_step ?_
  refine wpAny_Constant_int ?_
  refine evalPart_none_step ?_
  exact slice_strN_ns_len (s := ⟨s.heap, _, _, _, _⟩) F N (fun h' t' k F1 N1 _ => q _ h' k ⟨_, rfl⟩ F1 N1) (by with_unfolding_all rfl) (by intro _; with_unfolding_all rfl) hlen
theorem Ev.lastX {x : Str} {p1 p2 p3 p4 : Pos} {k0 : Nat} {nm : Str} {t : Tok} (hx : m x = some (.str nm t)) (hlen : 1 ≤ nm.length) (hk : cs.kind = ScopeKind.function) (hl : (envX cn cs L a cd cl).kindOf x = some NameKind.local) (hd : (x == Str.ofString "__debug__") = false) : Ev w A h₀ L (envX cn cs L a cd cl) m news (.Subscript (.Name x p1) (.UnaryOp .USub (.Constant (.int 1) k0 p2) p3) p4) (IsSt (Txt.item nm (-1))) := by
  intro E s Q F N q
  refine Subscript_ (nameX_L F hx ?_ hk hl hd)
  refine UnaryOp_ (wpAny_Constant_int (neg_int ?_))
  exact item_str (by decide) (by omega) (by omega) (fun _ => q _ _ _ ⟨_, rfl⟩ F N) (by with_unfolding_all rfl) (by intro _; with_unfolding_all rfl)
/-- a list of pure int expressions -/
noncomputable def Ei (w : World) (A : Around) (h₀ : Heap) (L : Addr) (env : Env) (m : Str → Option Value) (news : List (Addr × Obj)) (pos : Pos) (es : List PySem.Expr) (ns : List Int) : Prop :=
  ∀ (E : Value → Shared → Prop) (s : Shared) (Q : List Value → Shared → Prop), Fr h₀ L s.heap m → News h₀ L s.heap news → (∀ vs h n, IntsAre vs ns → vs.length = ns.length → Fr h₀ L h m → News h₀ L h news → Q vs { s with heap := h, toks := n }) → wpAny (model PySem.Challenge.pw_pb0326_01 w) A (spliced (backTo pos (starEach es env))) Q E s
theorem Ei.nil {env : Env} {pos : Pos} : Ei w A h₀ L env m news pos [] [] := fun _ s _ F N q => args_nil (q [] s.heap s.toks .nil rfl F N)
theorem Ei.cons {env : Env} {pos : Pos} {e : PySem.Expr} {es : List PySem.Expr} {i : Int} {ns : List Int} (h1 : Ev w A h₀ L env m news e (IsI i)) (h2 : Ei w A h₀ L env m news pos es ns) (hs : starEach (e :: es) env = (false, eval e env) :: starEach es env := by rfl) : Ei w A h₀ L env m news pos (e :: es) (i :: ns) := by
  intro E s Q F N q
  refine args_cons (h1 E s _ F N ?_) hs
  rintro _ h n ⟨t, rfl⟩ F1 N1
  exact h2 E _ _ F1 N1 fun vs h n hv hl => q (_ :: vs) h n (.cons _ _ hv) (by simp [hl])
/-- the expression gives a list of these ints; base: the ledger it must stay off -/
noncomputable def El (w : World) (A : Around) (h₀ : Heap) (L : Addr) (known base : List (Addr × Obj)) (env : Env) (m : Str → Option Value) (e : PySem.Expr) (ns : List Int) : Prop :=
  ∀ (E : Value → Shared → Prop) (s : Shared) (Q : Value → Shared → Prop) (nw : List (Addr × Obj)), Sub known nw → Fr h₀ L s.heap m → News h₀ L s.heap nw → (∀ D us c nw' h n, Sub nw nw' → (D, listOf us.toArray c) ∈ nw' → IntsAre us ns → (∀ p ∈ base, p.1 ≠ D) → Fr h₀ L h m → News h₀ L h nw' → Q (.ref D) { s with heap := h, toks := n }) → wpAny (model PySem.Challenge.pw_pb0326_01 w) A (eval e env) Q E s
noncomputable def Lx (w : World) (A : Around) (h₀ : Heap) (L : Addr) (known base : List (Addr × Obj)) (env : Env) (m : Str → Option Value) (ss : List Stmt) (K : List Int → List Int → Prop) : Prop :=
  ∀ (E : Value → Shared → Prop) (s : Shared) (Q : Flow → Shared → Prop) (nw : List (Addr × Obj)), Sub known nw → Fr h₀ L s.heap m → News h₀ L s.heap nw →
    (∀ T nT B S kb ks ub us bs ss m' nw' h n, K bs ss → (T, tupO [.ref B, .ref S] nT) ∈ nw' → (B, listOf ub.toArray kb) ∈ nw' → (S, listOf us.toArray ks) ∈ nw' → Sub base nw' → IntsAre ub bs → IntsAre us ss → (∀ p ∈ base, p.1 ≠ T ∧ p.1 ≠ B ∧ p.1 ≠ S) → Fr h₀ L h m' → News h₀ L h nw' → Q (.ret (.ref T)) { s with heap := h, toks := n }) → wpAny (model PySem.Challenge.pw_pb0326_01 w) A (execs ss env) Q E s
variable {K : List Int → List Int → Prop}
theorem El.new {env : Env} {es : List PySem.Expr} {ns : List Int} {p : Pos} (hbk : Sub base known) (h : ∀ nw, Sub known nw → Ei w A h₀ L env m nw p es ns) (hs : ns.length ≤ 1000) : El w A h₀ L known base env m (.List es p) ns := by
  intro E s Q nw hS F N q
  refine List_ (h nw hS E s _ F N fun vs h n hv hl F1 N1 => ?_)
  refine newList_K F1 N1 (fun D h' F' N' hlt => ?_) (by rw [hl, sizeLine_eq]; omega)
  exact q D vs 0 _ h' _ (fun p hp => .tail _ hp) (.head _) hv (fun p hp => Nat.ne_of_lt (hlt p (hS p (hbk p hp)))) F' N'
theorem El.name {x : Str} {p : Pos} {D : Addr} {us : List Value} {c : Nat} {ns : List Int} (hx : m x = some (.ref D)) (hm : (D, listOf us.toArray c) ∈ known) (hv : IntsAre us ns) (hf : ∀ p ∈ base, p.1 ≠ D) (hk : cs.kind = ScopeKind.function) (hl : (envX cn cs L a cd cl).kindOf x = some NameKind.local) (hd : (x == Str.ofString "__debug__") = false) : El w A h₀ L known base (envX cn cs L a cd cl) m (.Name x p) ns :=
  fun _ s _ nw hS F N q => nameX_L F hx (q D us c nw s.heap s.toks (fun _ h => h) (hS _ hm) hv hf F N) hk hl hd
/-- a name that is a cell -/
theorem El.nameC {x : Str} {p : Pos} {D C : Addr} {o : Obj} {us : List Value} {c : Nat} {ns : List Int} (hmC : (C, o) ∈ known) (ho : o.data = .cell (some (.ref D))) (hlk : List.lookup x cl = some C) (hm : (D, listOf us.toArray c) ∈ known) (hv : IntsAre us ns) (hf : ∀ p ∈ base, p.1 ≠ D) (hk : cs.kind = ScopeKind.function) (hl : (envX cn cs L a cd cl).kindOf x = some NameKind.cell) (hd : (x == Str.ofString "__debug__") = false) : El w A h₀ L known base (envX cn cs L a cd cl) m (.Name x p) ns :=
  fun _ s _ nw hS F N q => nameX_C N hlk (hS _ hmC) ho (q D us c nw s.heap s.toks (fun _ h => h) (hS _ hm) hv hf F N) hk hl hd
theorem El.add {env : Env} {l r : PySem.Expr} {p : Pos} {xs ys : List Int} (hbk : Sub base known) (h1 : El w A h₀ L known base env m l xs) (h2 : El w A h₀ L known base env m r ys) (hs : xs.length + ys.length ≤ 1000) : El w A h₀ L known base env m (.BinOp l .Add r p) (xs ++ ys) := by
  intro E s Q nw hS F N q
  refine wpAny_BinOp (h1 E s _ nw hS F N fun D us c nw1 h n hs1 hm1 hv1 hf1 F1 N1 => ?_)
  refine h2 E _ _ nw1 (fun p hp => hs1 p (hS p hp)) F1 N1 fun D2 us2 c2 nw2 h n hs2 hm2 hv2 hf2 F2 N2 => ?_
  refine kmk_add_ints F2 N2 (News.isList N2 (hs2 _ hm1)) (News.isList N2 hm2) hv1 hv2 (fun D3 us3 h' F3 N3 hlt hv3 => ?_) (by rw [sizeLine_eq]; omega)
  exact q D3 us3 0 _ h' _ (fun p hp => .tail _ (hs2 p (hs1 p hp))) (.head _) hv3 (fun p hp => Nat.ne_of_lt (hlt p (hs2 p (hs1 p (hS p (hbk p hp)))))) F3 N3
theorem El.ite {env : Env} {e x y : PySem.Expr} {p : Pos} {b : Bool} {xs ys : List Int} (h : ∀ nw, Sub known nw → Bt w A h₀ L env m nw e b) (h1 : b = true → El w A h₀ L known base env m x xs) (h2 : b = false → El w A h₀ L known base env m y ys) : El w A h₀ L known base env m (.IfExp e x y p) (if b = true then xs else ys) := by
  intro E s Q nw hS F N q
  refine IfExp_ (h nw hS _ (.inr rfl) E s _ F N fun h n F1 N1 => ?_)
  cases b
  · exact h2 rfl E _ _ nw hS F1 N1 fun D us c nw' h n hs hm hv => q D us c nw' h n hs hm hv
  · exact h1 rfl E _ _ nw hS F1 N1 fun D us c nw' h n hs hm hv => q D us c nw' h n hs hm hv
theorem Lx.if {env : Env} {e : PySem.Expr} {p : Pos} {b : Bool} {body rest : List Stmt} (h : ∀ nw, Sub known nw → Bt w A h₀ L env m nw e b) (h1 : b = true → Lx w A h₀ L known base env m body K) (h2 : b = false → Lx w A h₀ L known base env m rest K) : Lx w A h₀ L known base env m (.If e body [] p :: rest) K := by
  intro E s Q nw hS F N q
  refine wpAny_execs_cons (wpAny_If (h nw hS _ (.inr rfl) E s _ F N fun h n F1 N1 => ?_))
  cases b
  · exact wpAny_execs_nil (h2 rfl E _ _ nw hS F1 N1 fun T nT B S kb ks ub us bs ss m' nw' h n hK h1 h2 h3 => q T nT B S kb ks ub us bs ss m' nw' h n hK h1 h2 h3)
  · exact h1 rfl E _ _ nw hS F1 N1 fun T nT B S kb ks ub us bs ss m' nw' h n hK h1 h2 h3 => q T nT B S kb ks ub us bs ss m' nw' h n hK h1 h2 h3
theorem Lx.setL {x : Str} {e : PySem.Expr} {p p' : Pos} {rest : List Stmt} {ns : List Int} (he : El w A h₀ L known base (envX cn cs L a cd cl) m e ns) (h : ∀ D us c, IntsAre us ns → (∀ p ∈ base, p.1 ≠ D) → Lx w A h₀ L ((D, listOf us.toArray c) :: known) base (envX cn cs L a cd cl) (upd m x (.ref D)) rest K) (hk : cs.kind = ScopeKind.function) (hl : (envX cn cs L a cd cl).kindOf x = some NameKind.local) (hw : swapsWith e (some (PySem.Expr.Name x p')) p.line (envX cn cs L a cd cl) = pure false) : Lx w A h₀ L known base (envX cn cs L a cd cl) m (.Assign [.Name x p'] e p :: rest) K := by
  intro E s Q nw hS F N q
  refine wpAny_execs_cons (wpAny_Assign_Name (he E s _ nw hS F N fun D us c nw1 h1 n hs1 hm1 hv hf F1 N1 => ?_) hw)
  refine storeX_L F1 N1 (fun h' F2 N2 => ?_) hk hl
  refine h D us c hv hf E _ _ nw1 (fun p hp => ?_) F2 N2 fun T nT B S kb ks ub us bs ss m' nw' h n hK h1 h2 h3 => q T nT B S kb ks ub us bs ss m' nw' h n hK h1 h2 h3
  rcases List.mem_cons.mp hp with rfl | hp
  · exact hm1
  · exact hs1 p (hS p hp)
theorem Lx.setV {x : Str} {e : PySem.Expr} {p p' : Pos} {rest : List Stmt} (he : ∀ nw, Sub known nw → Ev w A h₀ L (envX cn cs L a cd cl) m nw e R) (h : ∀ v, R v → Lx w A h₀ L known base (envX cn cs L a cd cl) (upd m x v) rest K) (hk : cs.kind = ScopeKind.function) (hl : (envX cn cs L a cd cl).kindOf x = some NameKind.local) (hw : swapsWith e (some (PySem.Expr.Name x p')) p.line (envX cn cs L a cd cl) = pure false) : Lx w A h₀ L known base (envX cn cs L a cd cl) m (.Assign [.Name x p'] e p :: rest) K := by
  intro E s Q nw hS F N q
  refine wpAny_execs_cons (wpAny_Assign_Name (he nw hS E s _ F N fun v h1 n hv F1 N1 => ?_) hw)
  refine storeX_L F1 N1 (fun h' F2 N2 => ?_) hk hl
  exact h v hv E _ _ nw hS F2 N2 fun T nT B S kb ks ub us bs ss m' nw' h n hK h1 h2 h3 => q T nT B S kb ks ub us bs ss m' nw' h n hK h1 h2 h3
theorem Lx.ret {env : Env} {e1 e2 : PySem.Expr} {p1 p2 : Pos} {k0 : Nat} {rest : List Stmt} {xs ys : List Int} (hbk : Sub base known) (h1 : El w A h₀ L known base env m e1 xs) (h2 : El w A h₀ L known base env m e2 ys) (hK : K xs ys)
    (s1 : starEach [e1, e2] env = (false, eval e1 env) :: starEach [e2] env := by rfl) (s2 : starEach [e2] env = (false, eval e2 env) :: starEach [] env := by rfl) : Lx w A h₀ L known base env m (.Return (some (.Tuple [e1, e2] k0 p1)) p2 :: rest) K := by
  intro E s Q nw hS F N q
  refine wpAny_execs_cons (wpAny_Return_some (Tuple_ (args_cons (h1 E s _ nw hS F N fun D us c nw1 h n hs1 hm1 hv1 hf1 F1 N1 => ?_) s1)))
  refine args_cons (h2 E _ _ nw1 (fun p hp => hs1 p (hS p hp)) F1 N1 fun D2 us2 c2 nw2 h n hs2 hm2 hv2 hf2 F2 N2 => args_nil ?_) s2
  refine kup_newTuple F2 N2 (fun T h' F' N' hlt => ?_) (by rw [sizeLine_eq]; exact Nat.le_of_ble_eq_true rfl)
  exact q T 0 D D2 c c2 us us2 xs ys _ _ h' _ hK (.head _) (.tail _ (hs2 _ hm1)) (.tail _ hm2) (fun p hp => .tail _ (hs2 p (hs1 p (hS p (hbk p hp))))) hv1 hv2 (fun p hp => ⟨Nat.ne_of_lt (hlt p (hs2 p (hs1 p (hS p (hbk p hp))))), hf1 p hp, hf2 p hp⟩) F' N'
theorem Bt.ninS {env : Env} {l : PySem.Expr} {es : List PySem.Expr} {ys : List Str} {k : Nat} {p p' : Pos} {x : Str} (h1 : Ev w A h₀ L env m news l (IsSt x)) (hc : CS es ys) (hs : ys.length ≤ sizeLine) : Bt w A h₀ L env m news (.Compare l [.NotIn] [.Tuple es k p'] p) (!ys.any (· == x)) := by
  refine Bt.cmp (fun E s Q F N q => h1 E s _ F N ?_) rfl
  rintro _ h n ⟨t, rfl⟩ F1 N1
  refine Tuple_ (spl_strs hc fun vs n hv hn => kup_newTuple F1 N1 (fun D h' F' N' _ => notin_tuple_strs (News.isTup N' (.head _)) hv (q _ _ F' (fun p hp => N' p (.tail _ hp)))) (by rw [hn]; exact hs))
theorem El.cast {env : Env} {e : PySem.Expr} {xs ys : List Int} (h : El w A h₀ L known base env m e xs) (e' : xs = ys) : El w A h₀ L known base env m e ys := e' ▸ h
/-- a def of one cell: name = e1; cell = [ints]; rest -/
theorem Lx.ctrC {mean : ExcName → Option Value} {mg mb : Str → Option Value} {f : Addr} {vs : List Value} {kd ku : Nat} {name qual : Str} {params : Arguments} {body rest : List Stmt} {scope : Scope} {dV kV doc pm cdv ct oc : Value} {an od : Option Addr} {osl : Array (Option Value)} {x1 x2 : Str} {e1 : PySem.Expr} {es : List PySem.Expr} {ns : List Int} {p1 p2 p3 p4 p5 : Pos} {v1 : Value} {Post : Value → List (Addr × Obj) → Prop} (binds : List (Str × Value))
    (hf : List.lookup f (hd.heap_39 w.params) = some { cls := oc, dict := od, data := Data.func (fnOf name qual params body scope dV kV doc pm an cdv ct), slots := osl }) (hcd : codeIn (hd.heap_39 w.params) cdv qual = true)
    (hb : ∀ s, BindsTo s (fnOf name qual params body scope dV kV doc pm an cdv ct) { pos := vs, kw := [] } binds) (hloc : (binds.all fun y => List.lookup y.1 scope.names == some NameKind.local || List.lookup y.1 scope.names == some NameKind.cell) = true) (hnd : (List.map (fun x => x.1) (cellsFrom 0 scope.names [])).Nodup) (c2 : scope.isCoroutine = false) (c3 : scope.isGenerator = false) (c4 : scope.kind = ScopeKind.function)
    (hbody : body = .Assign [.Name x1 p1] e1 p2 :: .Assign [.Name x2 p3] (.List es p4) p5 :: rest) (hcl : ∀ n, cellsFrom n scope.names [] = [(x2, n)]) (hcv : ∀ L, bindC (envOfC qual scope L f cdv).kindOf binds (fun _ => none) x2 = none)
    (he : ∀ A h₀ L nw, Sub news nw → Ev w A h₀ L (envX qual scope L f cdv [(x2, L + 1)]) (bindL (envX qual scope L f cdv [(x2, L + 1)]).kindOf binds fun _ => none) nw e1 (· = v1)) (hci : CI es ns) (hs : ns.length ≤ 1000)
    (hl1 : ∀ L, (envX qual scope L f cdv [(x2, L + 1)]).kindOf x1 = some NameKind.local) (hl2 : ∀ L, (envX qual scope L f cdv [(x2, L + 1)]).kindOf x2 = some NameKind.cell)
    (hw1 : ∀ L, swapsWith e1 (some (PySem.Expr.Name x1 p1)) p2.line (envX qual scope L f cdv [(x2, L + 1)]) = pure false) (hw2 : ∀ L, swapsWith (.List es p4) (some (PySem.Expr.Name x2 p3)) p5.line (envX qual scope L f cdv [(x2, L + 1)]) = pure false)
    (hx : ∀ (A : Around) (h₀ : Heap) (L lh : Addr) (vh : List Value) (o : Obj), A.handled = none → (hd.heap_39 w.params).In h₀ → TopRead hd.view_39 (looseW hd.view_39 [Str.ofString "EVERYTHING", Str.ofString "HELD"]) mg mb h₀ → IntsAre vh ns → (∀ p ∈ news, p.1 ≠ lh) → o.data = .cell (some (.ref lh)) → Lx w A h₀ L ((lh, listOf vh.toArray 0) :: (L + 1, o) :: news) news (envX qual scope L f cdv [(x2, L + 1)]) (upd (bindL (envX qual scope L f cdv [(x2, L + 1)]).kindOf binds fun _ => none) x1 v1) rest K)
    (hP : ∀ T nT B S kb ks ub us bs ss, K bs ss → IntsAre ub bs → IntsAre us ss → (∀ p ∈ news, p.1 ≠ T ∧ p.1 ≠ B ∧ p.1 ≠ S) → Post (.ref T) ((T, tupO [.ref B, .ref S] nT) :: (B, listOf ub.toArray kb) :: (S, listOf us.toArray ks) :: news)) :
    Ctr w mean mg mb f vs news kd ku Post := by
  intro dp un gd cn cs a ccd cl outer A₀ base h₀ L m s Q E B F X N T hk hdp hun hret
  refine wpAny_call ?_
  refine code_defC (binds := binds) B F X N T rfl rfl hk hf hcd (Nat.lt_of_le_of_lt (Nat.le_add_right dp _) hdp) (hb _) hloc hnd ?_ c2 c3 c4
  intro g L' h' tk' cells' FG F' N' Y B' X' T' hlt
  have hE : envOfC qual scope L' f cdv = envX qual scope L' f cdv [(x2, L' + 1)] := by
    unfold envOfC
    rw [hcl]
  rw [hcl] at Y
  obtain ⟨o, rfl, hod⟩ := CellsAre.one Y
  rw [hcv] at hod
  rw [hE] at F' ⊢
  subst hbody
  have hsub0 : Sub news ((L' + 1, o) :: news) := fun p hp => .tail _ hp
  refine wpAny_execs_cons (wpAny_Assign_Name (he _ g L' _ hsub0 _ _ _ F' N' fun v h1 n hv F1 N1 => ?_) (hw1 L'))
  subst hv
  refine storeX_L F1 N1 (fun h2 F2 N2 => ?_) c4 (hl1 L')
  refine wpAny_execs_cons (wpAny_Assign_Name (q_ilist F2 N2 hci (by rw [sizeLine_eq]; omega) fun D h3 us n3 F3 N3 hv3 hlt3 => ?_) (hw2 L'))
  have hne : D ≠ L' + 1 := Nat.ne_of_gt (hlt3 _ (.head _))
  refine storeX_C F3 N3 (List.lookup_cons_self) (.tail hne (.head fun p hp => Nat.ne_of_lt (Nat.lt_succ_of_lt (hlt p hp)))) hod (fun h4 o4 F4 N4 ho4 => ?_) c4 (hl2 L')
  refine hx _ g L' D us o4 rfl X' (topRead_of T') hv3 (fun p hp => Nat.ne_of_lt (hlt3 p (.tail _ hp))) ho4 _ _ _ _ (fun p hp => hp) F4 N4 ?_
  intro Tt nT Bt S kb ks ub us2 bs ss m' nw' h5 n5 hK h1 h2' h3' hsb hib his hoff F5 N5
  refine leaveK_ F5 (news_sub (news := (Tt, tupO [.ref Bt, .ref S] nT) :: (Bt, listOf ub.toArray kb) :: (S, listOf us2.toArray ks) :: news) N5 fun p hp => ?_) fun F6 N6 => ?_
  · rcases List.mem_cons.mp hp with rfl | hp
    · exact h1
    · rcases List.mem_cons.mp hp with rfl | hp
      · exact h2'
      · rcases List.mem_cons.mp hp with rfl | hp
        · exact h3'
        · exact hsb p hp
  exact hret _ _ _ _ F6 N6 (hP Tt nT Bt S kb ks ub us2 bs ss hK hib his hoff)
end
end Mine
section
theorem Mine.off_T1w : True := by
  w_top off
  trivial
namespace Mine
noncomputable def TabP (r : Ins) (as ss : List Int) : Prop :=
  as.length ≤ 20 ∧ ss.length ≤ 20 ∧ ∀ k : Nat, k < 18 → (((k : Int) ∈ as ↔ tb r.reads k = true) ∧ ((k : Int) ∈ ss ↔ tb r.writes k = true))
noncomputable def TabOut (r : Ins) (news : List (Addr × Obj)) (res : Value) (nw : List (Addr × Obj)) : Prop :=
  ∃ T nT A S ka ks ua us as ss, res = .ref T ∧ nw = (T, tupO [.ref A, .ref S] nT) :: (A, listOf ua.toArray ka) :: (S, listOf us.toArray ks) :: news ∧ IntsAre ua as ∧ IntsAre us ss ∧ TabP r as ss ∧ ∀ p ∈ news, p.1 ≠ T ∧ p.1 ≠ A ∧ p.1 ≠ S
theorem any_mem {α : Type} [BEq α] [LawfulBEq α] {l : List α} {x : α} (h : l.any (· == x) = true) : x ∈ l := by
  rw [List.any_eq_true] at h
  obtain ⟨y, hy, e⟩ := h
  rw [← eq_of_beq e]
  exact hy
theorem tab_of {r : Ins} {as ss : List Int} (h1 : as.length ≤ 20) (h2 : ss.length ≤ 20) (hr : ∀ k : Nat, k < 18 → tb r.reads k = as.any (fun x => decide ((k : Int) = x))) (hw : ∀ k : Nat, k < 18 → tb r.writes k = ss.any (fun x => decide ((k : Int) = x))) : TabP r as ss := by
  refine ⟨h1, h2, fun k hk => ⟨?_, ?_⟩⟩
  · rw [hr k hk, List.any_eq_true]
    exact ⟨fun h => ⟨_, h, by simp⟩, fun ⟨x, hx, e⟩ => by rw [of_decide_eq_true e]; exact hx⟩
  · rw [hw k hk, List.any_eq_true]
    exact ⟨fun h => ⟨_, h, by simp⟩, fun ⟨x, hx, e⟩ => by rw [of_decide_eq_true e]; exact hx⟩
theorem tp {a : Int} (h : 0 ≤ a) (k : Nat) : tb (2 ^ a.toNat) k = decide ((k : Int) = a) := by
  rw [tb_pow]
  exact decide_eq_decide.mpr (by omega)
theorem tp17 (k : Nat) : tb 131072 k = decide ((k : Int) = 17) := tp (a := 17) (by decide) k
theorem tp16 (k : Nat) : tb 65536 k = decide ((k : Int) = 16) := tp (a := 16) (by decide) k
theorem tp0 (k : Nat) : tb 1 k = decide ((k : Int) = 0) := tp (a := 0) (by decide) k
theorem tpH : ∀ k : Nat, k < 18 → tb 26624 k = (decide ((k : Int) = 11) || (decide ((k : Int) = 13) || decide ((k : Int) = 14))) := by decide
theorem tpW : ∀ k : Nat, k < 18 → tb 235519 k = !(decide ((k : Int) = 11) || (decide ((k : Int) = 13) || decide ((k : Int) = 14))) := by decide
theorem tab_ld {nm : Str} {a b c : Int} (h : (["LDR", "LDB"] : List Str).any (· == nm) = true) (ha : 0 ≤ a) (hb : 0 ≤ b) : TabP (.op nm a b c) [b] [a] := by
  have h' := any_mem h
  simp only [List.mem_cons, List.not_mem_nil, or_false] at h'
  rcases h' with rfl | rfl
  · refine tab_of (by simp) (by simp) (fun k _ => ?_) (fun k _ => ?_)
    · rw [show (Ins.op "LDR" a b c).reads = 2 ^ b.toNat from rfl, tp hb]; simp
    · rw [show (Ins.op "LDR" a b c).writes = 2 ^ a.toNat from rfl, tp ha]; simp
  · refine tab_of (by simp) (by simp) (fun k _ => ?_) (fun k _ => ?_)
    · rw [show (Ins.op "LDB" a b c).reads = 2 ^ b.toNat from rfl, tp hb]; simp
    · rw [show (Ins.op "LDB" a b c).writes = 2 ^ a.toNat from rfl, tp ha]; simp
theorem tab_st {nm : Str} {a b c : Int} (h : (["STR", "STB"] : List Str).any (· == nm) = true) (ha : 0 ≤ a) (hb : 0 ≤ b) : TabP (.op nm a b c) [a, b] [] := by
  have h' := any_mem h
  simp only [List.mem_cons, List.not_mem_nil, or_false] at h'
  rcases h' with rfl | rfl
  · refine tab_of (by simp) (by simp) (fun k _ => ?_) (fun k _ => ?_)
    · rw [show (Ins.op "STR" a b c).reads = Builtin.bitOr (2 ^ b.toNat) (2 ^ a.toNat) from rfl, tb_or, tp hb, tp ha]; simp [Bool.or_comm]
    · rw [show (Ins.op "STR" a b c).writes = 0 from rfl, tb_nil]; simp
  · refine tab_of (by simp) (by simp) (fun k _ => ?_) (fun k _ => ?_)
    · rw [show (Ins.op "STB" a b c).reads = Builtin.bitOr (2 ^ b.toNat) (2 ^ a.toNat) from rfl, tb_or, tp hb, tp ha]; simp [Bool.or_comm]
    · rw [show (Ins.op "STB" a b c).writes = 0 from rfl, tb_nil]; simp
noncomputable def restNames : List Str := ["MOV", "ADD", "SUB", "MUL", "DIV", "LSL", "AND", "MOVI", "ADDI", "SUBI", "MULI", "DIVI", "MOVH", "GETH"]
theorem rest_of : ∀ nm ∈ opNames, (["LDR", "LDB"] : List Str).any (· == nm) = false → (["STR", "STB"] : List Str).any (· == nm) = false → nm ∈ restNames := by decide
theorem op_not2 : ∀ nm ∈ opNames, (["BL", "BLR"] : List Str).any (· == nm) = false := by decide
noncomputable def asksL (cd : Str) : List Int := if condB cd = true then [17] else []
theorem br_not2 : ∀ nm ∈ brNames, (["LDR", "LDB"] : List Str).any (· == nm) = false ∧ (["STR", "STB"] : List Str).any (· == nm) = false := by decide
theorem asks_len (cd : Str) : (asksL cd).length ≤ 1 := by
  unfold asksL
  split <;> simp
theorem asks_no {cd : Str} (h : (["AL", "NV"] : List Str).any (· == cd) = true) : asksL cd = [] := by
  have h' := any_mem h
  simp only [List.mem_cons, List.not_mem_nil, or_false] at h'
  rcases h' with rfl | rfl
  · exact if_neg (by decide)
  · exact if_neg (by decide)
theorem asks_yes {cd : Str} (h : (["AL", "NV"] : List Str).any (· == cd) = false) : asksL cd = [17] := by
  refine if_pos ?_
  simp only [List.any_cons, List.any_nil, Bool.or_false, Bool.or_eq_false_iff, beq_eq_false_iff_ne, ne_eq] at h
  have h1 : ¬ cd = "AL" := fun e => h.1 e.symm
  have h2 : ¬ cd = "NV" := fun e => h.2 e.symm
  simp [condB, h1, h2]
theorem tm0 (cd : Str) (k : Nat) : tb (if condB cd = true then 131072 else 0) k = (asksL cd).any (fun z => decide ((k : Int) = z)) := by
  unfold asksL
  split
  · rw [tp17]; simp
  · rw [tb_nil]; simp
noncomputable def w18 : List Int := [0, 1, 2, 3, 4, 5, 6, 7, 8, 9, 10, 12, 15, 16, 17]
noncomputable def wrL (cd : Str) : List Int := if cd = "AL" then w18 else []
theorem tab_B {nm cd : Str} {x y : Int} (h : (nm == ("B" : Str)) = true) : TabP (.br nm cd x y) (asksL cd) [] := by
  rw [eq_of_beq h]
  have hl := asks_len cd
  refine tab_of (by omega) (by simp) (fun k _ => ?_) (fun k _ => ?_)
  · rw [show (Ins.br "B" cd x y).reads = (if condB cd = true then 131072 else 0) from rfl, tm0]
  · rw [show (Ins.br "B" cd x y).writes = 0 from rfl, tb_nil]; rfl
noncomputable def wrF (i : Nat) : List Int := ((List.range i).filter (fun j => !([11, 13, 14] : List Nat).contains j)).map Int.ofNat
theorem wrF_succ (i : Nat) : wrF (i + 1) = if (!([11, 13, 14] : List Nat).contains i) = true then wrF i ++ [(i : Int)] else wrF i := by
  unfold wrF
  rw [List.range_succ, List.filter_append]
  by_cases h : (!([11, 13, 14] : List Nat).contains i) = true
  · rw [if_pos h]
    simp only [List.filter_cons, h, if_true, List.filter_nil, List.map_append]
    rfl
  · rw [if_neg h]
    simp only [List.filter_cons, h, List.filter_nil, List.map_append]
    simp
noncomputable def WrJ (base : List (Addr × Obj)) (i : Nat) (ys : List Value) (nw : List (Addr × Obj)) : Prop := nw = base ∧ IntsAre ys (wrF i)
theorem wr_yes {i : Nat} (h : (([11, 13, 14] : List Int).any fun x => x == (i : Int)) = false) : (!([11, 13, 14] : List Nat).contains i) = true := by
  simp only [List.any_cons, List.any_nil, Bool.or_false, Bool.or_eq_false_iff, beq_eq_false_iff_ne, ne_eq] at h
  obtain ⟨h1, h2, h3⟩ := h
  simp only [List.contains_cons, List.contains_nil, Bool.or_false, Bool.not_eq_true', Bool.or_eq_false_iff, beq_eq_false_iff_ne, ne_eq]
  omega
theorem wr_no {i : Nat} (h : (([11, 13, 14] : List Int).any fun x => x == (i : Int)) = true) : ¬ (!([11, 13, 14] : List Nat).contains i) = true := by
  simp only [List.any_cons, List.any_nil, Bool.or_false, Bool.or_eq_true, beq_iff_eq] at h
  have : i = 11 ∨ i = 13 ∨ i = 14 := by omega
  rcases this with rfl | rfl | rfl <;> decide
theorem wr_len (cd : Str) : (wrL cd).length ≤ 20 := by
  unfold wrL
  split <;> simp [w18]
theorem tw18 : ∀ k : Nat, k < 18 → tb 235519 k = w18.any (fun z => decide ((k : Int) = z)) := by decide
theorem tm1 (cd : Str) (k : Nat) (hk : k < 18) : tb (if (cd == "AL") = true then 235519 else 0) k = (wrL cd).any (fun z => decide ((k : Int) = z)) := by
  unfold wrL
  by_cases h : cd = "AL"
  · rw [if_pos h, if_pos (by rw [h]; rfl)]
    exact tw18 k hk
  · rw [if_neg h, if_neg (by simpa using h), tb_nil]
    rfl
theorem no_br : ∀ nm ∈ brNames, (nm == ("B" : Str)) = false → (["BL", "BLR"] : List Str).any (· == nm) = false → (nm == ("BR" : Str)) = false → (nm == ("TRAP" : Str)) = false → False := by decide
theorem tab_BLR {nm cd : Str} {x y : Int} (h : (nm == ("BLR" : Str)) = true) (hx : nm = "BLR" ∨ nm = "BR" → 0 ≤ x ∧ x ≤ 17) : TabP (.br nm cd x y) ((asksL cd ++ [11, 13, 14]) ++ [x]) (wrL cd) := by
  have e := eq_of_beq h
  subst e
  have hl := asks_len cd
  refine tab_of (by simp; omega) (wr_len cd) (fun k hk => ?_) (fun k hk => ?_)
  · rw [show (Ins.br "BLR" cd x y).reads = Builtin.bitOr (Builtin.bitOr (if condB cd = true then 131072 else 0) 26624) (2 ^ x.toNat) from rfl, tb_or, tb_or, tm0, tpH k hk, tp (hx (.inl rfl)).1]
    simp [List.any_append, Bool.or_assoc]
  · rw [show (Ins.br "BLR" cd x y).writes = (if (cd == "AL") = true then 235519 else 0) from rfl]
    exact tm1 cd k hk
theorem tab_BL {nm cd : Str} {x y : Int} (h : (["BL", "BLR"] : List Str).any (· == nm) = true) (h2 : (nm == ("BLR" : Str)) = false) : TabP (.br nm cd x y) ((asksL cd ++ [11, 13, 14]) ++ []) (wrL cd) := by
  have h' := any_mem h
  simp only [List.mem_cons, List.not_mem_nil, or_false] at h'
  rcases h' with rfl | rfl
  · have hl := asks_len cd
    refine tab_of (by simp; omega) (wr_len cd) (fun k hk => ?_) (fun k hk => ?_)
    · rw [show (Ins.br "BL" cd x y).reads = Builtin.bitOr (if condB cd = true then 131072 else 0) 26624 from rfl, tb_or, tm0, tpH k hk]
      simp [List.any_append]
    · rw [show (Ins.br "BL" cd x y).writes = (if (cd == "AL") = true then 235519 else 0) from rfl]
      exact tm1 cd k hk
  · exact absurd h2 (by decide)
theorem tab_BR1 {nm cd : Str} {x y : Int} (h : (nm == ("BR" : Str)) = true) (hx : x = 15) : TabP (.br nm cd x y) ((asksL cd ++ [x]) ++ ([11, 13, 14] ++ [0])) [] := by
  have e := eq_of_beq h
  subst e
  subst hx
  have hl := asks_len cd
  refine tab_of (by simp; omega) (by simp) (fun k hk => ?_) (fun k hk => ?_)
  · rw [show (Ins.br "BR" cd 15 y).reads = Builtin.bitOr (Builtin.bitOr (Builtin.bitOr (if condB cd = true then 131072 else 0) (2 ^ (15 : Int).toNat)) 26624) 1 from rfl, tb_or, tb_or, tb_or, tm0, tpH k hk, tp (a := 15) (by decide), tp0]
    simp [List.any_append, Bool.or_assoc]
  · rw [show (Ins.br "BR" cd 15 y).writes = 0 from rfl, tb_nil]
    rfl
theorem tab_BR2 {nm cd : Str} {x y : Int} (h : (nm == ("BR" : Str)) = true) (h0 : nm = "BLR" ∨ nm = "BR" → 0 ≤ x ∧ x ≤ 17) (hx : x ≠ 15) : TabP (.br nm cd x y) ((asksL cd ++ [x]) ++ []) [] := by
  have e := eq_of_beq h
  subst e
  have hl := asks_len cd
  refine tab_of (by simp; omega) (by simp) (fun k hk => ?_) (fun k hk => ?_)
  · have e2 : (Ins.br "BR" cd x y).reads = Builtin.bitOr (if condB cd = true then 131072 else 0) (2 ^ x.toNat) := if_neg (by simp (decide := true) [hx])
    rw [e2, tb_or, tm0, tp (h0 (.inr rfl)).1]
    simp [List.any_append]
  · rw [show (Ins.br "BR" cd x y).writes = 0 from rfl, tb_nil]
    rfl
theorem tr_reads {cd : Str} {y : Int} (k : Nat) (hk : k < 18) : tb (Ins.br "TRAP" cd 0 y).reads k = (asksL cd ++ [11, 13, 14]).any (fun z => decide ((k : Int) = z)) := by
  rw [show (Ins.br "TRAP" cd 0 y).reads = Builtin.bitOr (if condB cd = true then 131072 else 0) 26624 from rfl, tb_or, tm0, tpH k hk]
  simp [List.any_append]
theorem tab_TR0 {nm cd : Str} {x y : Int} (h : (nm == ("TRAP" : Str)) = true) (hx : x = 0) (hc : (cd == ("AL" : Str)) = true) (hy : y = 2) : TabP (.br nm cd x y) (asksL cd ++ [11, 13, 14]) [0] := by
  have e := eq_of_beq h
  subst e
  subst hx
  subst hy
  have e2 := eq_of_beq hc
  subst e2
  have hl := asks_len "AL"
  refine tab_of (by simp; omega) (by simp) tr_reads (fun k hk => ?_)
  rw [show (Ins.br "TRAP" "AL" 0 2).writes = 1 from rfl, tp0]
  simp
theorem tab_TR1 {nm cd : Str} {x y : Int} (h : (nm == ("TRAP" : Str)) = true) (hx : x = 0) (hy : y ≠ 2) : TabP (.br nm cd x y) (asksL cd ++ [11, 13, 14]) [] := by
  have e := eq_of_beq h
  subst e
  subst hx
  have hl := asks_len cd
  refine tab_of (by simp; omega) (by simp) tr_reads (fun k hk => ?_)
  rw [show (Ins.br "TRAP" cd 0 y).writes = 0 from if_neg (by simp [hy]), tb_nil]
  rfl
theorem tab_TR2 {nm cd : Str} {x y : Int} (h : (nm == ("TRAP" : Str)) = true) (hx : x = 0) (hc : (cd == ("AL" : Str)) = false) : TabP (.br nm cd x y) (asksL cd ++ [11, 13, 14]) [] := by
  have e := eq_of_beq h
  subst e
  subst hx
  have hl := asks_len cd
  refine tab_of (by simp; omega) (by simp) tr_reads (fun k hk => ?_)
  rw [show (Ins.br "TRAP" cd 0 y).writes = 0 from if_neg (by simp [hc]), tb_nil]
  rfl
theorem tab_TR3 {nm cd : Str} {x y : Int} (h : (nm == ("TRAP" : Str)) = true) (hx : x ≠ 0) : TabP (.br nm cd x y) (asksL cd ++ []) [] := by
  have e := eq_of_beq h
  subst e
  have hl := asks_len cd
  refine tab_of (by simp; omega) (by simp) (fun k hk => ?_) (fun k hk => ?_)
  · have e2 : (Ins.br "TRAP" cd x y).reads = (if condB cd = true then 131072 else 0) := if_neg (by simp (decide := true) [hx])
    rw [e2, tm0]
    simp
  · rw [show (Ins.br "TRAP" cd x y).writes = 0 from if_neg (by simp [hx]), tb_nil]
    rfl
noncomputable def setsL (nm : Str) (a : Int) : List Int := if nm ∈ (["MUL", "DIV", "MULI", "DIVI"] : List Str) then [a, 17, 16] else [a, 17]
theorem tab_MOV {a b c : Int} (ha : 0 ≤ a) (hb : 0 ≤ b) (hc : 0 ≤ c) : TabP (.op "MOV" a b c) [c] (setsL "MOV" a) := by
  rw [setsL, if_neg (by decide)]
  exact tab_of (by simp) (by simp) (fun k _ => by rw [show (Ins.op "MOV" a b c).reads = 2 ^ c.toNat from rfl, tp hc]; simp) (fun k _ => by rw [show (Ins.op "MOV" a b c).writes = Builtin.bitOr (2 ^ a.toNat) (131072) from rfl, tb_or, tp ha, tp17]; simp)
theorem tab_ADD {a b c : Int} (ha : 0 ≤ a) (hb : 0 ≤ b) (hc : 0 ≤ c) : TabP (.op "ADD" a b c) [b, c] (setsL "ADD" a) := by
  rw [setsL, if_neg (by decide)]
  exact tab_of (by simp) (by simp) (fun k _ => by rw [show (Ins.op "ADD" a b c).reads = Builtin.bitOr (2 ^ b.toNat) (2 ^ c.toNat) from rfl, tb_or, tp hb, tp hc]; simp) (fun k _ => by rw [show (Ins.op "ADD" a b c).writes = Builtin.bitOr (2 ^ a.toNat) (131072) from rfl, tb_or, tp ha, tp17]; simp)
theorem tab_SUB {a b c : Int} (ha : 0 ≤ a) (hb : 0 ≤ b) (hc : 0 ≤ c) : TabP (.op "SUB" a b c) [b, c] (setsL "SUB" a) := by
  rw [setsL, if_neg (by decide)]
  exact tab_of (by simp) (by simp) (fun k _ => by rw [show (Ins.op "SUB" a b c).reads = Builtin.bitOr (2 ^ b.toNat) (2 ^ c.toNat) from rfl, tb_or, tp hb, tp hc]; simp) (fun k _ => by rw [show (Ins.op "SUB" a b c).writes = Builtin.bitOr (2 ^ a.toNat) (131072) from rfl, tb_or, tp ha, tp17]; simp)
theorem tab_MUL {a b c : Int} (ha : 0 ≤ a) (hb : 0 ≤ b) (hc : 0 ≤ c) : TabP (.op "MUL" a b c) [b, c] (setsL "MUL" a) := by
  rw [setsL, if_pos (by decide)]
  exact tab_of (by simp) (by simp) (fun k _ => by rw [show (Ins.op "MUL" a b c).reads = Builtin.bitOr (2 ^ b.toNat) (2 ^ c.toNat) from rfl, tb_or, tp hb, tp hc]; simp) (fun k _ => by rw [show (Ins.op "MUL" a b c).writes = Builtin.bitOr (Builtin.bitOr (2 ^ a.toNat) (131072)) (65536) from rfl, tb_or, tb_or, tp ha, tp17, tp16]; simp [Bool.or_assoc])
theorem tab_DIV {a b c : Int} (ha : 0 ≤ a) (hb : 0 ≤ b) (hc : 0 ≤ c) : TabP (.op "DIV" a b c) [b, c] (setsL "DIV" a) := by
  rw [setsL, if_pos (by decide)]
  exact tab_of (by simp) (by simp) (fun k _ => by rw [show (Ins.op "DIV" a b c).reads = Builtin.bitOr (2 ^ b.toNat) (2 ^ c.toNat) from rfl, tb_or, tp hb, tp hc]; simp) (fun k _ => by rw [show (Ins.op "DIV" a b c).writes = Builtin.bitOr (Builtin.bitOr (2 ^ a.toNat) (131072)) (65536) from rfl, tb_or, tb_or, tp ha, tp17, tp16]; simp [Bool.or_assoc])
theorem tab_LSL {a b c : Int} (ha : 0 ≤ a) (hb : 0 ≤ b) (hc : 0 ≤ c) : TabP (.op "LSL" a b c) [b, c] (setsL "LSL" a) := by
  rw [setsL, if_neg (by decide)]
  exact tab_of (by simp) (by simp) (fun k _ => by rw [show (Ins.op "LSL" a b c).reads = Builtin.bitOr (2 ^ b.toNat) (2 ^ c.toNat) from rfl, tb_or, tp hb, tp hc]; simp) (fun k _ => by rw [show (Ins.op "LSL" a b c).writes = Builtin.bitOr (2 ^ a.toNat) (131072) from rfl, tb_or, tp ha, tp17]; simp)
theorem tab_AND {a b c : Int} (ha : 0 ≤ a) (hb : 0 ≤ b) (hc : 0 ≤ c) : TabP (.op "AND" a b c) [b, c] (setsL "AND" a) := by
  rw [setsL, if_neg (by decide)]
  exact tab_of (by simp) (by simp) (fun k _ => by rw [show (Ins.op "AND" a b c).reads = Builtin.bitOr (2 ^ b.toNat) (2 ^ c.toNat) from rfl, tb_or, tp hb, tp hc]; simp) (fun k _ => by rw [show (Ins.op "AND" a b c).writes = Builtin.bitOr (2 ^ a.toNat) (131072) from rfl, tb_or, tp ha, tp17]; simp)
theorem tab_MOVI {a b c : Int} (ha : 0 ≤ a) (hb : 0 ≤ b) (hc : 0 ≤ c) : TabP (.op "MOVI" a b c) [] (setsL "MOVI" a) := by
  rw [setsL, if_neg (by decide)]
  exact tab_of (by simp) (by simp) (fun k _ => by rw [show (Ins.op "MOVI" a b c).reads = 0 from rfl, tb_nil]; simp) (fun k _ => by rw [show (Ins.op "MOVI" a b c).writes = Builtin.bitOr (2 ^ a.toNat) (131072) from rfl, tb_or, tp ha, tp17]; simp)
theorem tab_ADDI {a b c : Int} (ha : 0 ≤ a) (hb : 0 ≤ b) (hc : 0 ≤ c) : TabP (.op "ADDI" a b c) [b] (setsL "ADDI" a) := by
  rw [setsL, if_neg (by decide)]
  exact tab_of (by simp) (by simp) (fun k _ => by rw [show (Ins.op "ADDI" a b c).reads = 2 ^ b.toNat from rfl, tp hb]; simp) (fun k _ => by rw [show (Ins.op "ADDI" a b c).writes = Builtin.bitOr (2 ^ a.toNat) (131072) from rfl, tb_or, tp ha, tp17]; simp)
theorem tab_SUBI {a b c : Int} (ha : 0 ≤ a) (hb : 0 ≤ b) (hc : 0 ≤ c) : TabP (.op "SUBI" a b c) [b] (setsL "SUBI" a) := by
  rw [setsL, if_neg (by decide)]
  exact tab_of (by simp) (by simp) (fun k _ => by rw [show (Ins.op "SUBI" a b c).reads = 2 ^ b.toNat from rfl, tp hb]; simp) (fun k _ => by rw [show (Ins.op "SUBI" a b c).writes = Builtin.bitOr (2 ^ a.toNat) (131072) from rfl, tb_or, tp ha, tp17]; simp)
theorem tab_MULI {a b c : Int} (ha : 0 ≤ a) (hb : 0 ≤ b) (hc : 0 ≤ c) : TabP (.op "MULI" a b c) [b] (setsL "MULI" a) := by
  rw [setsL, if_pos (by decide)]
  exact tab_of (by simp) (by simp) (fun k _ => by rw [show (Ins.op "MULI" a b c).reads = 2 ^ b.toNat from rfl, tp hb]; simp) (fun k _ => by rw [show (Ins.op "MULI" a b c).writes = Builtin.bitOr (Builtin.bitOr (2 ^ a.toNat) (131072)) (65536) from rfl, tb_or, tb_or, tp ha, tp17, tp16]; simp [Bool.or_assoc])
theorem tab_DIVI {a b c : Int} (ha : 0 ≤ a) (hb : 0 ≤ b) (hc : 0 ≤ c) : TabP (.op "DIVI" a b c) [b] (setsL "DIVI" a) := by
  rw [setsL, if_pos (by decide)]
  exact tab_of (by simp) (by simp) (fun k _ => by rw [show (Ins.op "DIVI" a b c).reads = 2 ^ b.toNat from rfl, tp hb]; simp) (fun k _ => by rw [show (Ins.op "DIVI" a b c).writes = Builtin.bitOr (Builtin.bitOr (2 ^ a.toNat) (131072)) (65536) from rfl, tb_or, tb_or, tp ha, tp17, tp16]; simp [Bool.or_assoc])
theorem tab_MOVH {a b c : Int} (ha : 0 ≤ a) (hb : 0 ≤ b) (hc : 0 ≤ c) : TabP (.op "MOVH" a b c) [] (setsL "MOVH" a) := by
  rw [setsL, if_neg (by decide)]
  exact tab_of (by simp) (by simp) (fun k _ => by rw [show (Ins.op "MOVH" a b c).reads = 0 from rfl, tb_nil]; simp) (fun k _ => by rw [show (Ins.op "MOVH" a b c).writes = Builtin.bitOr (2 ^ a.toNat) (131072) from rfl, tb_or, tp ha, tp17]; simp)
theorem tab_GETH {a b c : Int} (ha : 0 ≤ a) (hb : 0 ≤ b) (hc : 0 ≤ c) : TabP (.op "GETH" a b c) [16] (setsL "GETH" a) := by
  rw [setsL, if_neg (by decide)]
  exact tab_of (by simp) (by simp) (fun k _ => by rw [show (Ins.op "GETH" a b c).reads = 65536 from rfl, tp16]; simp) (fun k _ => by rw [show (Ins.op "GETH" a b c).writes = Builtin.bitOr (2 ^ a.toNat) (131072) from rfl, tb_or, tp ha, tp17]; simp)
theorem tab_mov {nm : Str} {a b c : Int} (h : (nm == ("MOV" : Str)) = true) (ha : 0 ≤ a) (hb : 0 ≤ b) (hc : 0 ≤ c) : TabP (.op nm a b c) [c] (setsL nm a) := by
  rw [eq_of_beq h]
  exact tab_MOV ha hb hc
theorem tab_movi {nm : Str} {a b c : Int} (h : (["MOVI", "MOVH"] : List Str).any (· == nm) = true) (ha : 0 ≤ a) (hb : 0 ≤ b) (hc : 0 ≤ c) : TabP (.op nm a b c) [] (setsL nm a) := by
  have h' := any_mem h
  simp only [List.mem_cons, List.not_mem_nil, or_false] at h'
  rcases h' with rfl | rfl
  · exact tab_MOVI ha hb hc
  · exact tab_MOVH ha hb hc
theorem tab_geth {nm : Str} {a b c : Int} (h : (nm == ("GETH" : Str)) = true) (ha : 0 ≤ a) (hb : 0 ≤ b) (hc : 0 ≤ c) : TabP (.op nm a b c) [16] (setsL nm a) := by
  rw [eq_of_beq h]
  exact tab_GETH ha hb hc
noncomputable def tenNames : List Str := ["ADD", "SUB", "MUL", "DIV", "LSL", "AND", "ADDI", "SUBI", "MULI", "DIVI"]
theorem ten_of : ∀ nm ∈ restNames, (nm == ("MOV" : Str)) = false → (["MOVI", "MOVH"] : List Str).any (· == nm) = false → (nm == ("GETH" : Str)) = false → nm ∈ tenNames := by decide
theorem sets_eq {nm : Str} {a : Int} (h : nm ∈ restNames) : [a, 17] ++ (if (["MUL", "DIV"] : List Str).any (· == Txt.slice nm none (some 3)) = true then [(16 : Int)] else []) = setsL nm a := by
  have q : ∀ x ∈ restNames, (["MUL", "DIV"] : List Str).any (· == Txt.slice x none (some 3)) = decide (x ∈ (["MUL", "DIV", "MULI", "DIVI"] : List Str)) := by decide +kernel
  rw [q nm h, setsL]
  by_cases hx : nm ∈ (["MUL", "DIV", "MULI", "DIVI"] : List Str) <;> simp [hx]
theorem rest_len : ∀ x ∈ restNames, x.length ≤ 1000 ∧ 1 ≤ x.length := by decide
theorem br_len : ∀ x ∈ brNames, x.length ≤ 1000 := by decide
theorem tab_ten {nm : Str} {a b c : Int} (h : nm ∈ tenNames) (ha : 0 ≤ a) (hb : 0 ≤ b) (hc : 0 ≤ c) : TabP (.op nm a b c) ([b] ++ (if (Txt.item nm (-1) != "I") = true then [c] else [])) (setsL nm a) := by
  simp only [tenNames, List.mem_cons, List.not_mem_nil, or_false] at h
  rcases h with rfl | rfl | rfl | rfl | rfl | rfl | rfl | rfl | rfl | rfl
  · rw [if_pos (by decide +kernel)]
    exact tab_ADD ha hb hc
  · rw [if_pos (by decide +kernel)]
    exact tab_SUB ha hb hc
  · rw [if_pos (by decide +kernel)]
    exact tab_MUL ha hb hc
  · rw [if_pos (by decide +kernel)]
    exact tab_DIV ha hb hc
  · rw [if_pos (by decide +kernel)]
    exact tab_LSL ha hb hc
  · rw [if_pos (by decide +kernel)]
    exact tab_AND ha hb hc
  · rw [if_neg (by decide +kernel)]
    exact tab_ADDI ha hb hc
  · rw [if_neg (by decide +kernel)]
    exact tab_SUBI ha hb hc
  · rw [if_neg (by decide +kernel)]
    exact tab_MULI ha hb hc
  · rw [if_neg (by decide +kernel)]
    exact tab_DIVI ha hb hc
theorem asks_eq {nm cd : Str} (h : (["B", "BL", "BR", "BLR", "TRAP"] : List Str).any (· == nm) = true) : (if ((["B", "BL", "BR", "BLR", "TRAP"] : List Str).any (· == nm) && !(["AL", "NV"] : List Str).any (· == cd)) = true then [(17 : Int)] else []) = asksL cd := by
  rw [h, Bool.true_and]
  cases q : (["AL", "NV"] : List Str).any (· == cd)
  · rw [asks_yes q]
    rfl
  · rw [asks_no q]
    rfl
theorem wr_eq (cd : Str) : (if (cd == ("AL" : Str)) = true then w18 else []) = wrL cd := by
  rw [wrL]
  by_cases h : cd = "AL" <;> simp [h]
end Mine
namespace Mine
section
variable {w : World} {mean : ExcName → Option Value} {mg mb : Str → Option Value} {news : List (Addr × Obj)}
theorem tb_spec (r : Ins) (ra : Addr) (hr : InsAt news ra r) (hok : r.ok) : Ctr w mean mg mb 169 [.ref ra] news 10 400 (TabOut r news) := by
  obtain ⟨nm, v1, x, y, t1, t3, t4, n, hG, hm⟩ := rowT hr
  refine' Lx.ctrC (K := TabP r) (v1 := .str nm t1) (ns := [11, 13, 14]) [(Str.ofString "row", .ref ra)] ?f ?c ?b ?l ?nd ?c2 ?c3 ?c4 ?bd ?cl ?cv ?e ?ci ?s ?l1 ?l2 ?w1 ?w2 ?x ?P
  case f => k_is
  case c => k_is
  case b => exact fun s => BindsTo.of_eq (by with_unfolding_all rfl)
  case l => exact rfl
  case nd => decide +kernel
  case c2 => exact rfl
  case c3 => exact rfl
  case c4 => exact rfl
  case bd => exact rfl
  case cl => exact fun n => rfl
  case cv => exact fun L => rfl
  case e =>
    intro A h₀ L nw hS
    (first | exact Mine.Ev.constI | exact Mine.Ev.constS | exact Mine.Ev.constB | exact Mine.Ev.nameX rfl ⟨_, rfl⟩ rfl rfl (by decide) | exact Mine.Ev.nameX rfl rfl rfl rfl (by decide) | exact Mine.Ev.subX rfl (Mine.sub_mem (by assumption) (by k_mem)) rfl rfl ⟨_, rfl⟩ (by decide) (by decide) rfl rfl (by decide) | exact Mine.Ev.subX rfl (Mine.sub_mem (by assumption) (by k_mem)) rfl rfl rfl (by decide) (by decide) rfl rfl (by decide) | fail "evx")
  case ci => repeat (first | exact CI.nil | apply CI.cons)
  case s => decide
  case l1 => exact fun L => rfl
  case l2 => exact fun L => rfl
  case w1 => exact fun L => rfl
  case w2 => exact fun L => rfl
  · intro A h₀ L lh vh o hA X T hvh hfl ho
    rcases hG with ⟨a, t2, rfl, rfl⟩ | ⟨cd, t2, rfl, rfl⟩
    · obtain ⟨hn, ⟨ha0, ha1⟩, ⟨hb0, hb1⟩, hc0, hc1⟩ := hok
      obtain ⟨n1, n2, n3, n4, n5, n6⟩ := op_not nm hn
      have n7 := op_not2 nm hn
      refine Lx.setL (ns := []) (El.cast (El.ite (b := false) (xs := [17]) (ys := []) (fun nw hS => Bt.andF (by ((exact Mine.Bt.inS (by (first | exact Mine.Ev.constI | exact Mine.Ev.constS | exact Mine.Ev.constB | exact Mine.Ev.nameX rfl ⟨_, rfl⟩ rfl rfl (by decide) | exact Mine.Ev.nameX rfl rfl rfl rfl (by decide) | exact Mine.Ev.subX rfl (Mine.sub_mem (by assumption) (by k_mem)) rfl rfl ⟨_, rfl⟩ (by decide) (by decide) rfl rfl (by decide) | exact Mine.Ev.subX rfl (Mine.sub_mem (by assumption) (by k_mem)) rfl rfl rfl (by decide) (by decide) rfl rfl (by decide) | fail "evx")) (by (repeat (first | exact Mine.CS.nil | apply Mine.CS.cons))) (Nat.le_of_ble_eq_true rfl)))) n6) (fun h => absurd h (by decide)) fun _ => El.new (by ((intro p hp; (repeat (first | exact hp | apply List.mem_cons_of_mem))))) (fun nw hS => Ei.nil) (by decide)) rfl) (fun Da ua ca hva hfa => ?_) rfl rfl rfl
      have hbk : Sub news ((Da, listOf ua.toArray ca) :: (lh, listOf vh.toArray 0) :: (L + 1, o) :: news) := by ((intro p hp; (repeat (first | exact hp | apply List.mem_cons_of_mem))))
      refine Lx.if (fun nw hS => by ((exact Mine.Bt.inS (by (first | exact Mine.Ev.constI | exact Mine.Ev.constS | exact Mine.Ev.constB | exact Mine.Ev.nameX rfl ⟨_, rfl⟩ rfl rfl (by decide) | exact Mine.Ev.nameX rfl rfl rfl rfl (by decide) | exact Mine.Ev.subX rfl (Mine.sub_mem (by assumption) (by k_mem)) rfl rfl ⟨_, rfl⟩ (by decide) (by decide) rfl rfl (by decide) | exact Mine.Ev.subX rfl (Mine.sub_mem (by assumption) (by k_mem)) rfl rfl rfl (by decide) (by decide) rfl rfl (by decide) | fail "evx")) (by (repeat (first | exact Mine.CS.nil | apply Mine.CS.cons))) (Nat.le_of_ble_eq_true rfl)))) (fun h4 => ?_) fun h4 => ?_
      · exact Lx.ret hbk (El.new hbk (fun nw hS => (Ei.cons (i := x) (by (first | exact Mine.Ev.constI | exact Mine.Ev.constS | exact Mine.Ev.constB | exact Mine.Ev.nameX rfl ⟨_, rfl⟩ rfl rfl (by decide) | exact Mine.Ev.nameX rfl rfl rfl rfl (by decide) | exact Mine.Ev.subX rfl (Mine.sub_mem (by assumption) (by k_mem)) rfl rfl ⟨_, rfl⟩ (by decide) (by decide) rfl rfl (by decide) | exact Mine.Ev.subX rfl (Mine.sub_mem (by assumption) (by k_mem)) rfl rfl rfl (by decide) (by decide) rfl rfl (by decide) | fail "evx")) Ei.nil rfl)) (by simp)) (El.new hbk (fun nw hS => (Ei.cons (i := a) (by (first | exact Mine.Ev.constI | exact Mine.Ev.constS | exact Mine.Ev.constB | exact Mine.Ev.nameX rfl ⟨_, rfl⟩ rfl rfl (by decide) | exact Mine.Ev.nameX rfl rfl rfl rfl (by decide) | exact Mine.Ev.subX rfl (Mine.sub_mem (by assumption) (by k_mem)) rfl rfl ⟨_, rfl⟩ (by decide) (by decide) rfl rfl (by decide) | exact Mine.Ev.subX rfl (Mine.sub_mem (by assumption) (by k_mem)) rfl rfl rfl (by decide) (by decide) rfl rfl (by decide) | fail "evx")) Ei.nil rfl)) (by simp)) (tab_ld h4 ha0 hb0)
      refine Lx.if (fun nw hS => by ((exact Mine.Bt.inS (by (first | exact Mine.Ev.constI | exact Mine.Ev.constS | exact Mine.Ev.constB | exact Mine.Ev.nameX rfl ⟨_, rfl⟩ rfl rfl (by decide) | exact Mine.Ev.nameX rfl rfl rfl rfl (by decide) | exact Mine.Ev.subX rfl (Mine.sub_mem (by assumption) (by k_mem)) rfl rfl ⟨_, rfl⟩ (by decide) (by decide) rfl rfl (by decide) | exact Mine.Ev.subX rfl (Mine.sub_mem (by assumption) (by k_mem)) rfl rfl rfl (by decide) (by decide) rfl rfl (by decide) | fail "evx")) (by (repeat (first | exact Mine.CS.nil | apply Mine.CS.cons))) (Nat.le_of_ble_eq_true rfl)))) (fun h5 => ?_) fun h5 => ?_
      · exact Lx.ret hbk (El.new hbk (fun nw hS => (Ei.cons (i := a) (by (first | exact Mine.Ev.constI | exact Mine.Ev.constS | exact Mine.Ev.constB | exact Mine.Ev.nameX rfl ⟨_, rfl⟩ rfl rfl (by decide) | exact Mine.Ev.nameX rfl rfl rfl rfl (by decide) | exact Mine.Ev.subX rfl (Mine.sub_mem (by assumption) (by k_mem)) rfl rfl ⟨_, rfl⟩ (by decide) (by decide) rfl rfl (by decide) | exact Mine.Ev.subX rfl (Mine.sub_mem (by assumption) (by k_mem)) rfl rfl rfl (by decide) (by decide) rfl rfl (by decide) | fail "evx")) (Ei.cons (i := x) (by (first | exact Mine.Ev.constI | exact Mine.Ev.constS | exact Mine.Ev.constB | exact Mine.Ev.nameX rfl ⟨_, rfl⟩ rfl rfl (by decide) | exact Mine.Ev.nameX rfl rfl rfl rfl (by decide) | exact Mine.Ev.subX rfl (Mine.sub_mem (by assumption) (by k_mem)) rfl rfl ⟨_, rfl⟩ (by decide) (by decide) rfl rfl (by decide) | exact Mine.Ev.subX rfl (Mine.sub_mem (by assumption) (by k_mem)) rfl rfl rfl (by decide) (by decide) rfl rfl (by decide) | fail "evx")) Ei.nil rfl) rfl)) (by simp)) (El.new hbk (fun nw hS => Ei.nil) (by simp)) (tab_st h5 ha0 hb0)
      have hn2 := rest_of nm hn h4 h5
      refine Lx.if (fun nw hS => by ((exact Mine.Bt.eqS (by (first | exact Mine.Ev.constI | exact Mine.Ev.constS | exact Mine.Ev.constB | exact Mine.Ev.nameX rfl ⟨_, rfl⟩ rfl rfl (by decide) | exact Mine.Ev.nameX rfl rfl rfl rfl (by decide) | exact Mine.Ev.subX rfl (Mine.sub_mem (by assumption) (by k_mem)) rfl rfl ⟨_, rfl⟩ (by decide) (by decide) rfl rfl (by decide) | exact Mine.Ev.subX rfl (Mine.sub_mem (by assumption) (by k_mem)) rfl rfl rfl (by decide) (by decide) rfl rfl (by decide) | fail "evx")) (by (first | exact Mine.Ev.constI | exact Mine.Ev.constS | exact Mine.Ev.constB | exact Mine.Ev.nameX rfl ⟨_, rfl⟩ rfl rfl (by decide) | exact Mine.Ev.nameX rfl rfl rfl rfl (by decide) | exact Mine.Ev.subX rfl (Mine.sub_mem (by assumption) (by k_mem)) rfl rfl ⟨_, rfl⟩ (by decide) (by decide) rfl rfl (by decide) | exact Mine.Ev.subX rfl (Mine.sub_mem (by assumption) (by k_mem)) rfl rfl rfl (by decide) (by decide) rfl rfl (by decide) | fail "evx")) rfl))) (fun h => absurd h (by rw [n1]; decide)) fun _ => ?_
      refine Lx.if (fun nw hS => by ((exact Mine.Bt.inS (by (first | exact Mine.Ev.constI | exact Mine.Ev.constS | exact Mine.Ev.constB | exact Mine.Ev.nameX rfl ⟨_, rfl⟩ rfl rfl (by decide) | exact Mine.Ev.nameX rfl rfl rfl rfl (by decide) | exact Mine.Ev.subX rfl (Mine.sub_mem (by assumption) (by k_mem)) rfl rfl ⟨_, rfl⟩ (by decide) (by decide) rfl rfl (by decide) | exact Mine.Ev.subX rfl (Mine.sub_mem (by assumption) (by k_mem)) rfl rfl rfl (by decide) (by decide) rfl rfl (by decide) | fail "evx")) (by (repeat (first | exact Mine.CS.nil | apply Mine.CS.cons))) (Nat.le_of_ble_eq_true rfl)))) (fun h => absurd h (by rw [n7]; decide)) fun _ => ?_
      refine Lx.if (fun nw hS => by ((exact Mine.Bt.eqS (by (first | exact Mine.Ev.constI | exact Mine.Ev.constS | exact Mine.Ev.constB | exact Mine.Ev.nameX rfl ⟨_, rfl⟩ rfl rfl (by decide) | exact Mine.Ev.nameX rfl rfl rfl rfl (by decide) | exact Mine.Ev.subX rfl (Mine.sub_mem (by assumption) (by k_mem)) rfl rfl ⟨_, rfl⟩ (by decide) (by decide) rfl rfl (by decide) | exact Mine.Ev.subX rfl (Mine.sub_mem (by assumption) (by k_mem)) rfl rfl rfl (by decide) (by decide) rfl rfl (by decide) | fail "evx")) (by (first | exact Mine.Ev.constI | exact Mine.Ev.constS | exact Mine.Ev.constB | exact Mine.Ev.nameX rfl ⟨_, rfl⟩ rfl rfl (by decide) | exact Mine.Ev.nameX rfl rfl rfl rfl (by decide) | exact Mine.Ev.subX rfl (Mine.sub_mem (by assumption) (by k_mem)) rfl rfl ⟨_, rfl⟩ (by decide) (by decide) rfl rfl (by decide) | exact Mine.Ev.subX rfl (Mine.sub_mem (by assumption) (by k_mem)) rfl rfl rfl (by decide) (by decide) rfl rfl (by decide) | fail "evx")) rfl))) (fun h => absurd h (by rw [n2]; decide)) fun _ => ?_
      refine Lx.if (fun nw hS => by ((exact Mine.Bt.eqS (by (first | exact Mine.Ev.constI | exact Mine.Ev.constS | exact Mine.Ev.constB | exact Mine.Ev.nameX rfl ⟨_, rfl⟩ rfl rfl (by decide) | exact Mine.Ev.nameX rfl rfl rfl rfl (by decide) | exact Mine.Ev.subX rfl (Mine.sub_mem (by assumption) (by k_mem)) rfl rfl ⟨_, rfl⟩ (by decide) (by decide) rfl rfl (by decide) | exact Mine.Ev.subX rfl (Mine.sub_mem (by assumption) (by k_mem)) rfl rfl rfl (by decide) (by decide) rfl rfl (by decide) | fail "evx")) (by (first | exact Mine.Ev.constI | exact Mine.Ev.constS | exact Mine.Ev.constB | exact Mine.Ev.nameX rfl ⟨_, rfl⟩ rfl rfl (by decide) | exact Mine.Ev.nameX rfl rfl rfl rfl (by decide) | exact Mine.Ev.subX rfl (Mine.sub_mem (by assumption) (by k_mem)) rfl rfl ⟨_, rfl⟩ (by decide) (by decide) rfl rfl (by decide) | exact Mine.Ev.subX rfl (Mine.sub_mem (by assumption) (by k_mem)) rfl rfl rfl (by decide) (by decide) rfl rfl (by decide) | fail "evx")) rfl))) (fun h => absurd h (by rw [n5]; decide)) fun _ => ?_
      refine Lx.setL (El.cast (El.add hbk (El.new hbk (fun nw hS => (Ei.cons (i := a) (by (first | exact Mine.Ev.constI | exact Mine.Ev.constS | exact Mine.Ev.constB | exact Mine.Ev.nameX rfl ⟨_, rfl⟩ rfl rfl (by decide) | exact Mine.Ev.nameX rfl rfl rfl rfl (by decide) | exact Mine.Ev.subX rfl (Mine.sub_mem (by assumption) (by k_mem)) rfl rfl ⟨_, rfl⟩ (by decide) (by decide) rfl rfl (by decide) | exact Mine.Ev.subX rfl (Mine.sub_mem (by assumption) (by k_mem)) rfl rfl rfl (by decide) (by decide) rfl rfl (by decide) | fail "evx")) (Ei.cons (i := 17) (by (first | exact Mine.Ev.constI | exact Mine.Ev.constS | exact Mine.Ev.constB | exact Mine.Ev.nameX rfl ⟨_, rfl⟩ rfl rfl (by decide) | exact Mine.Ev.nameX rfl rfl rfl rfl (by decide) | exact Mine.Ev.subX rfl (Mine.sub_mem (by assumption) (by k_mem)) rfl rfl ⟨_, rfl⟩ (by decide) (by decide) rfl rfl (by decide) | exact Mine.Ev.subX rfl (Mine.sub_mem (by assumption) (by k_mem)) rfl rfl rfl (by decide) (by decide) rfl rfl (by decide) | fail "evx")) Ei.nil rfl) rfl)) (by simp)) (El.ite (b := (["MUL", "DIV"] : List Str).any (· == Txt.slice nm none (some 3))) (fun nw hS => Bt.inS (Ev.slice3X rfl (by rw [sizeLine_eq]; have := (rest_len nm hn2).1; omega) rfl rfl (by decide)) (by (repeat (first | exact Mine.CS.nil | apply Mine.CS.cons))) (Nat.le_of_ble_eq_true rfl)) (fun _ => (El.new hbk (fun nw hS => (Ei.cons (i := 16) (by (first | exact Mine.Ev.constI | exact Mine.Ev.constS | exact Mine.Ev.constB | exact Mine.Ev.nameX rfl ⟨_, rfl⟩ rfl rfl (by decide) | exact Mine.Ev.nameX rfl rfl rfl rfl (by decide) | exact Mine.Ev.subX rfl (Mine.sub_mem (by assumption) (by k_mem)) rfl rfl ⟨_, rfl⟩ (by decide) (by decide) rfl rfl (by decide) | exact Mine.Ev.subX rfl (Mine.sub_mem (by assumption) (by k_mem)) rfl rfl rfl (by decide) (by decide) rfl rfl (by decide) | fail "evx")) Ei.nil rfl)) (by simp))) fun _ => (El.new hbk (fun nw hS => Ei.nil) (by simp))) (by split <;> simp)) (sets_eq hn2)) (fun Ds us cs hvs hfs => ?_) rfl rfl rfl
      have hbk : Sub news ((Ds, listOf us.toArray cs) :: (Da, listOf ua.toArray ca) :: (lh, listOf vh.toArray 0) :: (L + 1, o) :: news) := by ((intro p hp; (repeat (first | exact hp | apply List.mem_cons_of_mem))))
      refine Lx.if (fun nw hS => by ((exact Mine.Bt.eqS (by (first | exact Mine.Ev.constI | exact Mine.Ev.constS | exact Mine.Ev.constB | exact Mine.Ev.nameX rfl ⟨_, rfl⟩ rfl rfl (by decide) | exact Mine.Ev.nameX rfl rfl rfl rfl (by decide) | exact Mine.Ev.subX rfl (Mine.sub_mem (by assumption) (by k_mem)) rfl rfl ⟨_, rfl⟩ (by decide) (by decide) rfl rfl (by decide) | exact Mine.Ev.subX rfl (Mine.sub_mem (by assumption) (by k_mem)) rfl rfl rfl (by decide) (by decide) rfl rfl (by decide) | fail "evx")) (by (first | exact Mine.Ev.constI | exact Mine.Ev.constS | exact Mine.Ev.constB | exact Mine.Ev.nameX rfl ⟨_, rfl⟩ rfl rfl (by decide) | exact Mine.Ev.nameX rfl rfl rfl rfl (by decide) | exact Mine.Ev.subX rfl (Mine.sub_mem (by assumption) (by k_mem)) rfl rfl ⟨_, rfl⟩ (by decide) (by decide) rfl rfl (by decide) | exact Mine.Ev.subX rfl (Mine.sub_mem (by assumption) (by k_mem)) rfl rfl rfl (by decide) (by decide) rfl rfl (by decide) | fail "evx")) rfl))) (fun h => ?_) fun h11 => ?_
      · exact Lx.ret hbk (El.new hbk (fun nw hS => (Ei.cons (i := y) (by (first | exact Mine.Ev.constI | exact Mine.Ev.constS | exact Mine.Ev.constB | exact Mine.Ev.nameX rfl ⟨_, rfl⟩ rfl rfl (by decide) | exact Mine.Ev.nameX rfl rfl rfl rfl (by decide) | exact Mine.Ev.subX rfl (Mine.sub_mem (by assumption) (by k_mem)) rfl rfl ⟨_, rfl⟩ (by decide) (by decide) rfl rfl (by decide) | exact Mine.Ev.subX rfl (Mine.sub_mem (by assumption) (by k_mem)) rfl rfl rfl (by decide) (by decide) rfl rfl (by decide) | fail "evx")) Ei.nil rfl)) (by simp)) (El.name rfl (by k_mem) (by assumption) (by assumption) rfl rfl (by decide)) (tab_mov h ha0 hb0 hc0)
      refine Lx.if (fun nw hS => by ((exact Mine.Bt.inS (by (first | exact Mine.Ev.constI | exact Mine.Ev.constS | exact Mine.Ev.constB | exact Mine.Ev.nameX rfl ⟨_, rfl⟩ rfl rfl (by decide) | exact Mine.Ev.nameX rfl rfl rfl rfl (by decide) | exact Mine.Ev.subX rfl (Mine.sub_mem (by assumption) (by k_mem)) rfl rfl ⟨_, rfl⟩ (by decide) (by decide) rfl rfl (by decide) | exact Mine.Ev.subX rfl (Mine.sub_mem (by assumption) (by k_mem)) rfl rfl rfl (by decide) (by decide) rfl rfl (by decide) | fail "evx")) (by (repeat (first | exact Mine.CS.nil | apply Mine.CS.cons))) (Nat.le_of_ble_eq_true rfl)))) (fun h => ?_) fun h12 => ?_
      · exact Lx.ret hbk (El.new hbk (fun nw hS => Ei.nil) (by simp)) (El.name rfl (by k_mem) (by assumption) (by assumption) rfl rfl (by decide)) (tab_movi h ha0 hb0 hc0)
      refine Lx.if (fun nw hS => by ((exact Mine.Bt.eqS (by (first | exact Mine.Ev.constI | exact Mine.Ev.constS | exact Mine.Ev.constB | exact Mine.Ev.nameX rfl ⟨_, rfl⟩ rfl rfl (by decide) | exact Mine.Ev.nameX rfl rfl rfl rfl (by decide) | exact Mine.Ev.subX rfl (Mine.sub_mem (by assumption) (by k_mem)) rfl rfl ⟨_, rfl⟩ (by decide) (by decide) rfl rfl (by decide) | exact Mine.Ev.subX rfl (Mine.sub_mem (by assumption) (by k_mem)) rfl rfl rfl (by decide) (by decide) rfl rfl (by decide) | fail "evx")) (by (first | exact Mine.Ev.constI | exact Mine.Ev.constS | exact Mine.Ev.constB | exact Mine.Ev.nameX rfl ⟨_, rfl⟩ rfl rfl (by decide) | exact Mine.Ev.nameX rfl rfl rfl rfl (by decide) | exact Mine.Ev.subX rfl (Mine.sub_mem (by assumption) (by k_mem)) rfl rfl ⟨_, rfl⟩ (by decide) (by decide) rfl rfl (by decide) | exact Mine.Ev.subX rfl (Mine.sub_mem (by assumption) (by k_mem)) rfl rfl rfl (by decide) (by decide) rfl rfl (by decide) | fail "evx")) rfl))) (fun h => ?_) fun h13 => ?_
      · exact Lx.ret hbk (El.new hbk (fun nw hS => (Ei.cons (i := 16) (by (first | exact Mine.Ev.constI | exact Mine.Ev.constS | exact Mine.Ev.constB | exact Mine.Ev.nameX rfl ⟨_, rfl⟩ rfl rfl (by decide) | exact Mine.Ev.nameX rfl rfl rfl rfl (by decide) | exact Mine.Ev.subX rfl (Mine.sub_mem (by assumption) (by k_mem)) rfl rfl ⟨_, rfl⟩ (by decide) (by decide) rfl rfl (by decide) | exact Mine.Ev.subX rfl (Mine.sub_mem (by assumption) (by k_mem)) rfl rfl rfl (by decide) (by decide) rfl rfl (by decide) | fail "evx")) Ei.nil rfl)) (by simp)) (El.name rfl (by k_mem) (by assumption) (by assumption) rfl rfl (by decide)) (tab_geth h ha0 hb0 hc0)
      exact Lx.ret hbk (El.add hbk (El.new hbk (fun nw hS => (Ei.cons (i := x) (by (first | exact Mine.Ev.constI | exact Mine.Ev.constS | exact Mine.Ev.constB | exact Mine.Ev.nameX rfl ⟨_, rfl⟩ rfl rfl (by decide) | exact Mine.Ev.nameX rfl rfl rfl rfl (by decide) | exact Mine.Ev.subX rfl (Mine.sub_mem (by assumption) (by k_mem)) rfl rfl ⟨_, rfl⟩ (by decide) (by decide) rfl rfl (by decide) | exact Mine.Ev.subX rfl (Mine.sub_mem (by assumption) (by k_mem)) rfl rfl rfl (by decide) (by decide) rfl rfl (by decide) | fail "evx")) Ei.nil rfl)) (by simp)) (El.ite (b := Txt.item nm (-1) != "I") (fun nw hS => Bt.neS (Ev.lastX rfl (rest_len nm hn2).2 rfl rfl (by decide)) Ev.constS rfl) (fun _ => (El.new hbk (fun nw hS => (Ei.cons (i := y) (by (first | exact Mine.Ev.constI | exact Mine.Ev.constS | exact Mine.Ev.constB | exact Mine.Ev.nameX rfl ⟨_, rfl⟩ rfl rfl (by decide) | exact Mine.Ev.nameX rfl rfl rfl rfl (by decide) | exact Mine.Ev.subX rfl (Mine.sub_mem (by assumption) (by k_mem)) rfl rfl ⟨_, rfl⟩ (by decide) (by decide) rfl rfl (by decide) | exact Mine.Ev.subX rfl (Mine.sub_mem (by assumption) (by k_mem)) rfl rfl rfl (by decide) (by decide) rfl rfl (by decide) | fail "evx")) Ei.nil rfl)) (by simp))) fun _ => (El.new hbk (fun nw hS => Ei.nil) (by simp))) (by split <;> simp)) (El.name rfl (by k_mem) (by assumption) (by assumption) rfl rfl (by decide)) (tab_ten (ten_of nm hn2 h11 h12 h13) ha0 hb0 hc0)
    · obtain ⟨hn, hcd, hx1, hx2⟩ := hok
      obtain ⟨n1, n2, n3, n4, n5, n6, n7, n8, n9, n10, n11⟩ := br_not nm hn
      obtain ⟨n12, n13⟩ := br_not2 nm hn
      refine Lx.setL (El.cast (El.ite (b := (["B", "BL", "BR", "BLR", "TRAP"] : List Str).any (· == nm) && !(["AL", "NV"] : List Str).any (· == cd)) (fun nw hS => Bt.and (by ((exact Mine.Bt.inS (by (first | exact Mine.Ev.constI | exact Mine.Ev.constS | exact Mine.Ev.constB | exact Mine.Ev.nameX rfl ⟨_, rfl⟩ rfl rfl (by decide) | exact Mine.Ev.nameX rfl rfl rfl rfl (by decide) | exact Mine.Ev.subX rfl (Mine.sub_mem (by assumption) (by k_mem)) rfl rfl ⟨_, rfl⟩ (by decide) (by decide) rfl rfl (by decide) | exact Mine.Ev.subX rfl (Mine.sub_mem (by assumption) (by k_mem)) rfl rfl rfl (by decide) (by decide) rfl rfl (by decide) | fail "evx")) (by (repeat (first | exact Mine.CS.nil | apply Mine.CS.cons))) (Nat.le_of_ble_eq_true rfl)))) (Bt.and1 (Bt.ninS (x := cd) (by (first | exact Mine.Ev.constI | exact Mine.Ev.constS | exact Mine.Ev.constB | exact Mine.Ev.nameX rfl ⟨_, rfl⟩ rfl rfl (by decide) | exact Mine.Ev.nameX rfl rfl rfl rfl (by decide) | exact Mine.Ev.subX rfl (Mine.sub_mem (by assumption) (by k_mem)) rfl rfl ⟨_, rfl⟩ (by decide) (by decide) rfl rfl (by decide) | exact Mine.Ev.subX rfl (Mine.sub_mem (by assumption) (by k_mem)) rfl rfl rfl (by decide) (by decide) rfl rfl (by decide) | fail "evx")) (by (repeat (first | exact Mine.CS.nil | apply Mine.CS.cons))) (Nat.le_of_ble_eq_true rfl)))) (fun _ => El.new (by ((intro p hp; (repeat (first | exact hp | apply List.mem_cons_of_mem))))) (fun nw hS => Ei.cons Ev.constI Ei.nil rfl) (by decide)) fun _ => El.new (by ((intro p hp; (repeat (first | exact hp | apply List.mem_cons_of_mem))))) (fun nw hS => Ei.nil) (by decide)) (asks_eq n11)) (fun Da ua ca hva hfa => ?_) rfl rfl rfl
      have hbk : Sub news ((Da, listOf ua.toArray ca) :: (lh, listOf vh.toArray 0) :: (L + 1, o) :: news) := by ((intro p hp; (repeat (first | exact hp | apply List.mem_cons_of_mem))))
      have hal := asks_len cd
      refine Lx.if (fun nw hS => by ((exact Mine.Bt.inS (by (first | exact Mine.Ev.constI | exact Mine.Ev.constS | exact Mine.Ev.constB | exact Mine.Ev.nameX rfl ⟨_, rfl⟩ rfl rfl (by decide) | exact Mine.Ev.nameX rfl rfl rfl rfl (by decide) | exact Mine.Ev.subX rfl (Mine.sub_mem (by assumption) (by k_mem)) rfl rfl ⟨_, rfl⟩ (by decide) (by decide) rfl rfl (by decide) | exact Mine.Ev.subX rfl (Mine.sub_mem (by assumption) (by k_mem)) rfl rfl rfl (by decide) (by decide) rfl rfl (by decide) | fail "evx")) (by (repeat (first | exact Mine.CS.nil | apply Mine.CS.cons))) (Nat.le_of_ble_eq_true rfl)))) (fun h => absurd h (by rw [n12]; decide)) fun _ => ?_
      refine Lx.if (fun nw hS => by ((exact Mine.Bt.inS (by (first | exact Mine.Ev.constI | exact Mine.Ev.constS | exact Mine.Ev.constB | exact Mine.Ev.nameX rfl ⟨_, rfl⟩ rfl rfl (by decide) | exact Mine.Ev.nameX rfl rfl rfl rfl (by decide) | exact Mine.Ev.subX rfl (Mine.sub_mem (by assumption) (by k_mem)) rfl rfl ⟨_, rfl⟩ (by decide) (by decide) rfl rfl (by decide) | exact Mine.Ev.subX rfl (Mine.sub_mem (by assumption) (by k_mem)) rfl rfl rfl (by decide) (by decide) rfl rfl (by decide) | fail "evx")) (by (repeat (first | exact Mine.CS.nil | apply Mine.CS.cons))) (Nat.le_of_ble_eq_true rfl)))) (fun h => absurd h (by rw [n13]; decide)) fun _ => ?_
      refine Lx.if (fun nw hS => by ((exact Mine.Bt.eqS (by (first | exact Mine.Ev.constI | exact Mine.Ev.constS | exact Mine.Ev.constB | exact Mine.Ev.nameX rfl ⟨_, rfl⟩ rfl rfl (by decide) | exact Mine.Ev.nameX rfl rfl rfl rfl (by decide) | exact Mine.Ev.subX rfl (Mine.sub_mem (by assumption) (by k_mem)) rfl rfl ⟨_, rfl⟩ (by decide) (by decide) rfl rfl (by decide) | exact Mine.Ev.subX rfl (Mine.sub_mem (by assumption) (by k_mem)) rfl rfl rfl (by decide) (by decide) rfl rfl (by decide) | fail "evx")) (by (first | exact Mine.Ev.constI | exact Mine.Ev.constS | exact Mine.Ev.constB | exact Mine.Ev.nameX rfl ⟨_, rfl⟩ rfl rfl (by decide) | exact Mine.Ev.nameX rfl rfl rfl rfl (by decide) | exact Mine.Ev.subX rfl (Mine.sub_mem (by assumption) (by k_mem)) rfl rfl ⟨_, rfl⟩ (by decide) (by decide) rfl rfl (by decide) | exact Mine.Ev.subX rfl (Mine.sub_mem (by assumption) (by k_mem)) rfl rfl rfl (by decide) (by decide) rfl rfl (by decide) | fail "evx")) rfl))) (fun h => ?_) fun h6 => ?_
      · exact Lx.ret hbk (El.name rfl (by k_mem) (by assumption) (by assumption) rfl rfl (by decide)) (El.new hbk (fun nw hS => Ei.nil) (by simp)) (tab_B h)
      refine Lx.if (fun nw hS => by ((exact Mine.Bt.inS (by (first | exact Mine.Ev.constI | exact Mine.Ev.constS | exact Mine.Ev.constB | exact Mine.Ev.nameX rfl ⟨_, rfl⟩ rfl rfl (by decide) | exact Mine.Ev.nameX rfl rfl rfl rfl (by decide) | exact Mine.Ev.subX rfl (Mine.sub_mem (by assumption) (by k_mem)) rfl rfl ⟨_, rfl⟩ (by decide) (by decide) rfl rfl (by decide) | exact Mine.Ev.subX rfl (Mine.sub_mem (by assumption) (by k_mem)) rfl rfl rfl (by decide) (by decide) rfl rfl (by decide) | fail "evx")) (by (repeat (first | exact Mine.CS.nil | apply Mine.CS.cons))) (Nat.le_of_ble_eq_true rfl)))) (fun h7 => ?_) fun h7 => ?_
      · refine Lx.setL (El.cast (El.ite (b := cd == "AL") (xs := w18) (ys := []) (fun nw hS => by ((exact Mine.Bt.eqS (by (first | exact Mine.Ev.constI | exact Mine.Ev.constS | exact Mine.Ev.constB | exact Mine.Ev.nameX rfl ⟨_, rfl⟩ rfl rfl (by decide) | exact Mine.Ev.nameX rfl rfl rfl rfl (by decide) | exact Mine.Ev.subX rfl (Mine.sub_mem (by assumption) (by k_mem)) rfl rfl ⟨_, rfl⟩ (by decide) (by decide) rfl rfl (by decide) | exact Mine.Ev.subX rfl (Mine.sub_mem (by assumption) (by k_mem)) rfl rfl rfl (by decide) (by decide) rfl rfl (by decide) | fail "evx")) (by (first | exact Mine.Ev.constI | exact Mine.Ev.constS | exact Mine.Ev.constB | exact Mine.Ev.nameX rfl ⟨_, rfl⟩ rfl rfl (by decide) | exact Mine.Ev.nameX rfl rfl rfl rfl (by decide) | exact Mine.Ev.subX rfl (Mine.sub_mem (by assumption) (by k_mem)) rfl rfl ⟨_, rfl⟩ (by decide) (by decide) rfl rfl (by decide) | exact Mine.Ev.subX rfl (Mine.sub_mem (by assumption) (by k_mem)) rfl rfl rfl (by decide) (by decide) rfl rfl (by decide) | fail "evx")) rfl))) (fun _ => ?comp) fun _ => (El.new hbk (fun nw hS => Ei.nil) (by simp))) (wr_eq cd)) (fun Ds us cs hvs hfs => ?_) rfl rfl rfl
        case comp =>
          intro E s Q nw hS F N q
          have hm1 : (lh, listOf vh.toArray 0) ∈ nw := hS _ (by k_mem)
          have hm2 : (L + 1, o) ∈ nw := hS _ (by k_mem)
          k_dflt (refine LCt.ListComp_T (F₀ := F) (by with_unfolding_all rfl) (by decide) (by rfl) (by decide) (by rfl) ?_)
          k_steps
          refine Halt.in_ ?_
          refine LCt.CompSrcT.range (n := 18) hA (by k_asm) (by assumption) (by assumption) (by first | decide | exact small_one (by l_bnd) (by l_bnd) (by l_bnd) (by l_bnd)) (by rfl) (by rw [sizeLine_eq]; omega) ?_
          intro g2
          refine restT_ind (WrJ _) ⟨rfl, .nil⟩ ?_ ?_
          · intro i ys nw v I oI C oC D m₂ h tk E' hi hJ hv hC hx F3 N3 off ne
            obtain ⟨t9, rfl⟩ := hv
            simp only [Int.zero_add] at hx
            obtain ⟨rfl, hJ⟩ := hJ
            k_steps
            refine notin_list_ints (News.isList (by with_reducible assumption) (by k_mem)) hvh ?_
            k_steps
            all_goals (refine Halt.in_ ?_)
            · rename (List.any _ _ = _) => hb
              refine ⟨_, _, _, rfl, by assumption, by assumption, off, trivial, rfl, ?_⟩
              rw [wrF_succ, if_neg (wr_no hb)]
              exact hJ
            · rename (List.any _ _ = _) => hb
              refine ⟨_, _, _, rfl, by assumption, by assumption, off, trivial, rfl, ?_⟩
              rw [wrF_succ, if_pos (wr_yes hb)]
              exact ints_snoc hJ
          · intro ys nw2 hJ
            obtain ⟨rfl, hJ⟩ := hJ
            intro D h tk F4 N4 off4
            k_steps
            rename (News _ _ _ _) => N10
            rename (Fr _ _ _ _) => F10
            exact q D ys ys.length _ _ _ (fun p hp => .tail _ (by assumption)) (.head _) hJ (fun p hp => off1_mem off4 p (hS p (hbk p hp))) F10 N10
        have hbk : Sub news ((Ds, listOf us.toArray cs) :: (Da, listOf ua.toArray ca) :: (lh, listOf vh.toArray 0) :: (L + 1, o) :: news) := by ((intro p hp; (repeat (first | exact hp | apply List.mem_cons_of_mem))))
        refine Lx.ret hbk (El.add hbk (El.add hbk (El.name rfl (by k_mem) (by assumption) (by assumption) rfl rfl (by decide)) (El.nameC (by k_mem) ho rfl (by k_mem) hvh hfl rfl rfl (by decide)) (by simp; omega)) (El.ite (b := nm == "BLR") (fun nw hS => by ((exact Mine.Bt.eqS (by (first | exact Mine.Ev.constI | exact Mine.Ev.constS | exact Mine.Ev.constB | exact Mine.Ev.nameX rfl ⟨_, rfl⟩ rfl rfl (by decide) | exact Mine.Ev.nameX rfl rfl rfl rfl (by decide) | exact Mine.Ev.subX rfl (Mine.sub_mem (by assumption) (by k_mem)) rfl rfl ⟨_, rfl⟩ (by decide) (by decide) rfl rfl (by decide) | exact Mine.Ev.subX rfl (Mine.sub_mem (by assumption) (by k_mem)) rfl rfl rfl (by decide) (by decide) rfl rfl (by decide) | fail "evx")) (by (first | exact Mine.Ev.constI | exact Mine.Ev.constS | exact Mine.Ev.constB | exact Mine.Ev.nameX rfl ⟨_, rfl⟩ rfl rfl (by decide) | exact Mine.Ev.nameX rfl rfl rfl rfl (by decide) | exact Mine.Ev.subX rfl (Mine.sub_mem (by assumption) (by k_mem)) rfl rfl ⟨_, rfl⟩ (by decide) (by decide) rfl rfl (by decide) | exact Mine.Ev.subX rfl (Mine.sub_mem (by assumption) (by k_mem)) rfl rfl rfl (by decide) (by decide) rfl rfl (by decide) | fail "evx")) rfl))) (fun _ => (El.new hbk (fun nw hS => (Ei.cons (i := x) (by (first | exact Mine.Ev.constI | exact Mine.Ev.constS | exact Mine.Ev.constB | exact Mine.Ev.nameX rfl ⟨_, rfl⟩ rfl rfl (by decide) | exact Mine.Ev.nameX rfl rfl rfl rfl (by decide) | exact Mine.Ev.subX rfl (Mine.sub_mem (by assumption) (by k_mem)) rfl rfl ⟨_, rfl⟩ (by decide) (by decide) rfl rfl (by decide) | exact Mine.Ev.subX rfl (Mine.sub_mem (by assumption) (by k_mem)) rfl rfl rfl (by decide) (by decide) rfl rfl (by decide) | fail "evx")) Ei.nil rfl)) (by simp))) fun _ => (El.new hbk (fun nw hS => Ei.nil) (by simp))) (by split <;> (simp; omega))) (El.name rfl (by k_mem) (by assumption) (by assumption) rfl rfl (by decide)) ?_
        cases h8 : nm == "BLR"
        · exact tab_BL h7 h8
        · exact tab_BLR h8 hx1
      refine Lx.if (fun nw hS => by ((exact Mine.Bt.eqS (by (first | exact Mine.Ev.constI | exact Mine.Ev.constS | exact Mine.Ev.constB | exact Mine.Ev.nameX rfl ⟨_, rfl⟩ rfl rfl (by decide) | exact Mine.Ev.nameX rfl rfl rfl rfl (by decide) | exact Mine.Ev.subX rfl (Mine.sub_mem (by assumption) (by k_mem)) rfl rfl ⟨_, rfl⟩ (by decide) (by decide) rfl rfl (by decide) | exact Mine.Ev.subX rfl (Mine.sub_mem (by assumption) (by k_mem)) rfl rfl rfl (by decide) (by decide) rfl rfl (by decide) | fail "evx")) (by (first | exact Mine.Ev.constI | exact Mine.Ev.constS | exact Mine.Ev.constB | exact Mine.Ev.nameX rfl ⟨_, rfl⟩ rfl rfl (by decide) | exact Mine.Ev.nameX rfl rfl rfl rfl (by decide) | exact Mine.Ev.subX rfl (Mine.sub_mem (by assumption) (by k_mem)) rfl rfl ⟨_, rfl⟩ (by decide) (by decide) rfl rfl (by decide) | exact Mine.Ev.subX rfl (Mine.sub_mem (by assumption) (by k_mem)) rfl rfl rfl (by decide) (by decide) rfl rfl (by decide) | fail "evx")) rfl))) (fun h8 => ?_) fun h8 => ?_
      · refine Lx.ret hbk (El.add hbk (El.add hbk (El.name rfl (by k_mem) (by assumption) (by assumption) rfl rfl (by decide)) (El.new hbk (fun nw hS => (Ei.cons (i := x) (by (first | exact Mine.Ev.constI | exact Mine.Ev.constS | exact Mine.Ev.constB | exact Mine.Ev.nameX rfl ⟨_, rfl⟩ rfl rfl (by decide) | exact Mine.Ev.nameX rfl rfl rfl rfl (by decide) | exact Mine.Ev.subX rfl (Mine.sub_mem (by assumption) (by k_mem)) rfl rfl ⟨_, rfl⟩ (by decide) (by decide) rfl rfl (by decide) | exact Mine.Ev.subX rfl (Mine.sub_mem (by assumption) (by k_mem)) rfl rfl rfl (by decide) (by decide) rfl rfl (by decide) | fail "evx")) Ei.nil rfl)) (by simp)) (by simp; omega)) (El.ite (b := x == 15) (fun nw hS => Bt.eqI (x := x) (by (first | exact Mine.Ev.constI | exact Mine.Ev.constS | exact Mine.Ev.constB | exact Mine.Ev.nameX rfl ⟨_, rfl⟩ rfl rfl (by decide) | exact Mine.Ev.nameX rfl rfl rfl rfl (by decide) | exact Mine.Ev.subX rfl (Mine.sub_mem (by assumption) (by k_mem)) rfl rfl ⟨_, rfl⟩ (by decide) (by decide) rfl rfl (by decide) | exact Mine.Ev.subX rfl (Mine.sub_mem (by assumption) (by k_mem)) rfl rfl rfl (by decide) (by decide) rfl rfl (by decide) | fail "evx")) Ev.constI rfl) (fun _ => El.add hbk (El.nameC (by k_mem) ho rfl (by k_mem) hvh hfl rfl rfl (by decide)) (El.new hbk (fun nw hS => (Ei.cons (i := 0) (by (first | exact Mine.Ev.constI | exact Mine.Ev.constS | exact Mine.Ev.constB | exact Mine.Ev.nameX rfl ⟨_, rfl⟩ rfl rfl (by decide) | exact Mine.Ev.nameX rfl rfl rfl rfl (by decide) | exact Mine.Ev.subX rfl (Mine.sub_mem (by assumption) (by k_mem)) rfl rfl ⟨_, rfl⟩ (by decide) (by decide) rfl rfl (by decide) | exact Mine.Ev.subX rfl (Mine.sub_mem (by assumption) (by k_mem)) rfl rfl rfl (by decide) (by decide) rfl rfl (by decide) | fail "evx")) Ei.nil rfl)) (by simp)) (by decide)) fun _ => (El.new hbk (fun nw hS => Ei.nil) (by simp))) (by split <;> (simp; omega))) (El.new hbk (fun nw hS => Ei.nil) (by simp)) ?_
        cases h9 : x == 15
        · exact tab_BR2 h8 hx1 (by simpa using h9)
        · exact tab_BR1 h8 (by simpa using h9)
      refine Lx.if (fun nw hS => by ((exact Mine.Bt.eqS (by (first | exact Mine.Ev.constI | exact Mine.Ev.constS | exact Mine.Ev.constB | exact Mine.Ev.nameX rfl ⟨_, rfl⟩ rfl rfl (by decide) | exact Mine.Ev.nameX rfl rfl rfl rfl (by decide) | exact Mine.Ev.subX rfl (Mine.sub_mem (by assumption) (by k_mem)) rfl rfl ⟨_, rfl⟩ (by decide) (by decide) rfl rfl (by decide) | exact Mine.Ev.subX rfl (Mine.sub_mem (by assumption) (by k_mem)) rfl rfl rfl (by decide) (by decide) rfl rfl (by decide) | fail "evx")) (by (first | exact Mine.Ev.constI | exact Mine.Ev.constS | exact Mine.Ev.constB | exact Mine.Ev.nameX rfl ⟨_, rfl⟩ rfl rfl (by decide) | exact Mine.Ev.nameX rfl rfl rfl rfl (by decide) | exact Mine.Ev.subX rfl (Mine.sub_mem (by assumption) (by k_mem)) rfl rfl ⟨_, rfl⟩ (by decide) (by decide) rfl rfl (by decide) | exact Mine.Ev.subX rfl (Mine.sub_mem (by assumption) (by k_mem)) rfl rfl rfl (by decide) (by decide) rfl rfl (by decide) | fail "evx")) rfl))) (fun h9 => ?_) fun h9 => absurd (no_br nm hn h6 h7 h8 h9) id
      refine Lx.setV (R := IsB (x == 0)) (fun nw hS => Ev.eqI (x := x) (by (first | exact Mine.Ev.constI | exact Mine.Ev.constS | exact Mine.Ev.constB | exact Mine.Ev.nameX rfl ⟨_, rfl⟩ rfl rfl (by decide) | exact Mine.Ev.nameX rfl rfl rfl rfl (by decide) | exact Mine.Ev.subX rfl (Mine.sub_mem (by assumption) (by k_mem)) rfl rfl ⟨_, rfl⟩ (by decide) (by decide) rfl rfl (by decide) | exact Mine.Ev.subX rfl (Mine.sub_mem (by assumption) (by k_mem)) rfl rfl rfl (by decide) (by decide) rfl rfl (by decide) | fail "evx")) Ev.constI rfl) (fun v hv => ?_) rfl rfl rfl
      subst hv
      refine Lx.ret hbk (El.add hbk (El.name rfl (by k_mem) (by assumption) (by assumption) rfl rfl (by decide)) (El.ite (b := x == 0) (fun nw hS => Bt.of (Ev.nameX rfl rfl rfl rfl (by decide)) (fun _ _ _ h => nomatch h) (fun _ => rfl)) (fun _ => (El.nameC (by k_mem) ho rfl (by k_mem) hvh hfl rfl rfl (by decide))) fun _ => (El.new hbk (fun nw hS => Ei.nil) (by simp))) (by split <;> (simp; omega))) (El.ite (b := (x == 0 && ((cd == "AL") && (y == 2)))) (fun nw hS => Bt.and (Bt.of (Ev.nameX rfl rfl rfl rfl (by decide)) (fun _ _ _ h => nomatch h) (fun _ => rfl)) (Bt.and (by ((exact Mine.Bt.eqS (by (first | exact Mine.Ev.constI | exact Mine.Ev.constS | exact Mine.Ev.constB | exact Mine.Ev.nameX rfl ⟨_, rfl⟩ rfl rfl (by decide) | exact Mine.Ev.nameX rfl rfl rfl rfl (by decide) | exact Mine.Ev.subX rfl (Mine.sub_mem (by assumption) (by k_mem)) rfl rfl ⟨_, rfl⟩ (by decide) (by decide) rfl rfl (by decide) | exact Mine.Ev.subX rfl (Mine.sub_mem (by assumption) (by k_mem)) rfl rfl rfl (by decide) (by decide) rfl rfl (by decide) | fail "evx")) (by (first | exact Mine.Ev.constI | exact Mine.Ev.constS | exact Mine.Ev.constB | exact Mine.Ev.nameX rfl ⟨_, rfl⟩ rfl rfl (by decide) | exact Mine.Ev.nameX rfl rfl rfl rfl (by decide) | exact Mine.Ev.subX rfl (Mine.sub_mem (by assumption) (by k_mem)) rfl rfl ⟨_, rfl⟩ (by decide) (by decide) rfl rfl (by decide) | exact Mine.Ev.subX rfl (Mine.sub_mem (by assumption) (by k_mem)) rfl rfl rfl (by decide) (by decide) rfl rfl (by decide) | fail "evx")) rfl))) (Bt.and1 (Bt.eqI (x := y) (by (first | exact Mine.Ev.constI | exact Mine.Ev.constS | exact Mine.Ev.constB | exact Mine.Ev.nameX rfl ⟨_, rfl⟩ rfl rfl (by decide) | exact Mine.Ev.nameX rfl rfl rfl rfl (by decide) | exact Mine.Ev.subX rfl (Mine.sub_mem (by assumption) (by k_mem)) rfl rfl ⟨_, rfl⟩ (by decide) (by decide) rfl rfl (by decide) | exact Mine.Ev.subX rfl (Mine.sub_mem (by assumption) (by k_mem)) rfl rfl rfl (by decide) (by decide) rfl rfl (by decide) | fail "evx")) Ev.constI rfl)))) (fun _ => (El.new hbk (fun nw hS => (Ei.cons (i := 0) (by (first | exact Mine.Ev.constI | exact Mine.Ev.constS | exact Mine.Ev.constB | exact Mine.Ev.nameX rfl ⟨_, rfl⟩ rfl rfl (by decide) | exact Mine.Ev.nameX rfl rfl rfl rfl (by decide) | exact Mine.Ev.subX rfl (Mine.sub_mem (by assumption) (by k_mem)) rfl rfl ⟨_, rfl⟩ (by decide) (by decide) rfl rfl (by decide) | exact Mine.Ev.subX rfl (Mine.sub_mem (by assumption) (by k_mem)) rfl rfl rfl (by decide) (by decide) rfl rfl (by decide) | fail "evx")) Ei.nil rfl)) (by simp))) fun _ => (El.new hbk (fun nw hS => Ei.nil) (by simp))) ?_
      cases h10 : x == 0
      · exact tab_TR3 h9 (by simpa using h10)
      · cases h11 : cd == "AL"
        · exact tab_TR2 h9 (by simpa using h10) h11
        · cases h12 : y == 2
          · exact tab_TR1 h9 (by simpa using h10) (by simpa using h12)
          · exact tab_TR0 h9 (by simpa using h10) h11 (by simpa using h12)
  · intro T nT B S kb ks ub us bs ss hK hib his hoff
    exact ⟨T, nT, B, S, kb, ks, ub, us, bs, ss, rfl, rfl, hib, his, hK, hoff⟩
end
end Mine
end
theorem Mine.off_W1w : True := by
  w_top off
  trivial
namespace Mine
noncomputable def WaysOut (r : Ins) (i n : Int) (news : List (Addr × Obj)) (res : Value) (nw : List (Addr × Obj)) : Prop :=
  ∃ T nT G c us gs, res = .ref T ∧ nw = (T, tupO [.ref G, .bool (unk r i n)] nT) :: (G, listOf us.toArray c) :: news ∧ IntsAre us gs ∧ gs.length ≤ 2 ∧ (∀ x, x ∈ gs ↔ SuccP r i n x) ∧ ∀ p ∈ news, p.1 ≠ T ∧ p.1 ≠ G
noncomputable def RowG (r : Ins) (nm : Str) (v1 : Value) (x y : Int) : Prop := (∃ a t, r = .op nm a x y ∧ v1 = .int a t) ∨ (∃ cd t, r = .br nm cd x y ∧ v1 = .str cd t)
theorem rowG {news : List (Addr × Obj)} {ra : Addr} {r : Ins} (h : InsAt news ra r) : ∃ nm v1 x y t1 t3 t4 n, RowG r nm v1 x y ∧ (ra, ({ cls := .type "tuple", data := .seq #[.str nm t1, v1, .int x t3, .int y t4] n } : Obj)) ∈ news := by
  cases r with
  | op nm a b c =>
    obtain ⟨t1, t2, t3, t4, n, hm⟩ := h
    exact ⟨nm, _, b, c, t1, t3, t4, n, .inl ⟨a, t2, rfl, rfl⟩, hm⟩
  | br nm cd x y =>
    obtain ⟨t1, t2, t3, t4, n, hm⟩ := h
    exact ⟨nm, _, x, y, t1, t3, t4, n, .inr ⟨cd, t2, rfl, rfl⟩, hm⟩
theorem sB1 : (Str.ofString "B" == Str.ofString "TRAP") = false := by decide
theorem sB2 : (Str.ofString "BR" == Str.ofString "TRAP") = false := by decide
theorem sB3 : (Str.ofString "B" == Str.ofString "B") = true := by decide
theorem ints_get {us : List Value} {ns : List Int} (h : IntsAre us ns) : ∀ {j : Nat} {v : Value}, us.toArray[j]? = some v → ∃ x t, ns[j]? = some x ∧ v = .int x t := by
  induction h with
  | nil => intro j v e; simp at e
  | cons k u _ ih =>
    intro j v e
    cases j with
    | zero => exact ⟨k, u, rfl, by simpa using e.symm⟩
    | succ j =>
      obtain ⟨x, t, h1, h2⟩ := ih (j := j) (v := v) (by simpa using e)
      exact ⟨x, t, by simpa using h1, h2⟩
theorem falls_eq (nm cd : Str) (x y : Int) (hn : nm ∈ brNames) (hx : nm = "TRAP" → 0 ≤ x) : (!(Ins.br nm cd x y).falls) = (((["B", "BR"] : List Str).any (· == nm) && cd == "AL") || ((nm == "TRAP" && cd == "AL") && (decide (0 < x) || y == 9))) := by
  simp only [brNames, List.mem_cons, List.not_mem_nil, or_false] at hn
  rcases hn with rfl | rfl | rfl | rfl | rfl
  · simp (decide := true) [Ins.falls, fallsB, sB1, sB2, bne]
  · simp (decide := true) [Ins.falls, fallsB, sB1, sB2, bne]
  · simp (decide := true) [Ins.falls, fallsB, sB1, sB2, bne]
  · simp (decide := true) [Ins.falls, fallsB, sB1, sB2, bne]
  · have h := hx rfl
    by_cases hc : cd = "AL"
    · subst hc
      by_cases h1 : x = 0
      · subst h1
        simp (decide := true) [Ins.falls, fallsB, bne, show (Str.ofString "B" == Str.ofString "TRAP") = false from by decide, show (Str.ofString "BR" == Str.ofString "TRAP") = false from by decide]
      · have h2 : 0 < x := by omega
        simp (decide := true) [Ins.falls, fallsB, h1, h2]
    · simp (decide := true) [Ins.falls, fallsB, hc]
theorem ends_op : ∀ nm ∈ opNames, (["B", "BR"] : List Str).any (· == nm) = false := by decide
noncomputable def goals1 (r : Ins) (i : Int) : List Int := if r.falls = true then [i + 1] else []
noncomputable def goals2 (r : Ins) (i : Int) : List Int := goals1 r i ++ (if (r.isB && r.jumps) = true then [i + 1 + r.off] else [])
theorem goals1_len (r : Ins) (i : Int) : (goals1 r i).length ≤ 1 := by
  unfold goals1
  split <;> simp
theorem goals2_len (r : Ins) (i : Int) : (goals2 r i).length ≤ 2 := by
  have := goals1_len r i
  unfold goals2
  rw [List.length_append]
  split <;> simp <;> omega
noncomputable def FiltJ (base : List (Addr × Obj)) (ns : List Int) (p : Int → Bool) (i : Nat) (ys : List Value) (nw : List (Addr × Obj)) : Prop := nw = base ∧ IntsAre ys ((ns.take i).filter p)
theorem filt_step {ns : List Int} {p : Int → Bool} {i : Nat} {x : Int} (h : ns[i]? = some x) : (ns.take (i + 1)).filter p = if p x = true then (ns.take i).filter p ++ [x] else (ns.take i).filter p := by
  rw [List.take_add_one, h, List.filter_append]
  by_cases hp : p x = true
  · rw [if_pos hp]; simp [hp]
  · rw [if_neg hp]; simp [hp]
theorem ne_true_of_eq_false {b : Bool} (h : b = false) : ¬ b = true := by rw [h]; decide
theorem lost_t {r : Ins} {nm : Str} {v1 : Value} {x y i n : Int} (hg : RowG r nm v1 x y) (hok : r.ok) (h : ((nm == ("B" : Str)) = true ∧ ¬ (0 ≤ i + 1 + x ∧ i + 1 + x < n)) ∨ ((nm == ("BR" : Str)) = true ∧ x ≠ 15)) : unk r i n = true := by
  rcases hg with ⟨a, t, rfl, rfl⟩ | ⟨cd, t, rfl, rfl⟩
  · obtain ⟨hn, _⟩ := hok
    obtain ⟨n1, n2, _⟩ := op_not nm hn
    rcases h with h | h
    · rw [h.1] at n1
      cases n1
    · rw [h.1] at n2
      cases n2
  · rcases h with ⟨h1, h2⟩ | ⟨h1, h2⟩
    · have e : (!(decide (0 ≤ i + 1 + x) && decide (i + 1 + x < n))) = true := by
        by_cases q : 0 ≤ i + 1 + x
        · have q2 : ¬ i + 1 + x < n := fun z => h2 ⟨q, z⟩
          simp [q, q2]
        · simp [q]
      show (_ || ((nm == ("B" : Str)) && !(decide (0 ≤ i + 1 + x) && decide (i + 1 + x < n))) || _) = true
      rw [h1, e]
      simp
    · show (((nm == ("BR" : Str)) && x != 15) || _ || _) = true
      have e : (x != 15) = true := by simpa using h2
      rw [h1, e]
      simp
theorem lost_k {r : Ins} {nm : Str} {v1 : Value} {x y i n : Int} (hg : RowG r nm v1 x y) (hok : r.ok) (h0 : 0 ≤ i) (hi : i < n) (hB : (nm == ("B" : Str)) = true → 0 ≤ i + 1 + x ∧ i + 1 + x < n) (hR : (nm == ("BR" : Str)) = true → x = 15) :
    (!decide ((goals2 r i).filter (fun z => !(decide (0 ≤ z) && decide (z < n))) = [])) = unk r i n := by
  have hbr : r.isBR = false := by
    rcases hg with ⟨a, t, rfl, rfl⟩ | ⟨cd, t, rfl, rfl⟩
    · rfl
    · show ((nm == ("BR" : Str)) && x != 15) = false
      by_cases q : (nm == ("BR" : Str)) = true
      · rw [hR q, q]; rfl
      · rw [eq_false_of_ne_true q]; rfl
  have hb2 : r.isB = true → 0 ≤ i + 1 + r.off ∧ i + 1 + r.off < n := by
    rcases hg with ⟨a, t, rfl, rfl⟩ | ⟨cd, t, rfl, rfl⟩
    · intro q; cases q
    · exact hB
  have hb3 : (r.isB && !(decide (0 ≤ i + 1 + r.off) && decide (i + 1 + r.off < n))) = false := by
    by_cases q : r.isB = true
    · obtain ⟨q1, q2⟩ := hb2 q
      simp [q, q1, q2]
    · rw [eq_false_of_ne_true q]; rfl
  unfold unk
  rw [hbr, hb3]
  simp only [Bool.false_or]
  have hsnd : (if (r.isB && r.jumps) = true then [i + 1 + r.off] else []).filter (fun z => !(decide (0 ≤ z) && decide (z < n))) = [] := by
    split
    · rename_i q
      obtain ⟨q1, q2⟩ := hb2 (by simp at q; exact q.1)
      simp [q1, q2]
    · rfl
  rw [goals2, List.filter_append, hsnd, List.append_nil, goals1]
  by_cases hf : r.falls = true
  · rw [if_pos hf, hf]
    have h1 : 0 ≤ i + 1 := by omega
    by_cases q : i + 1 < n
    · have q3 : ¬ n ≤ i + 1 := by omega
      simp [h1, q, q3]
    · have q3 : n ≤ i + 1 := by omega
      simp [h1, q, q3]
  · rw [if_neg hf, eq_false_of_ne_true hf]
    rfl
theorem succ_of {r : Ins} {i n : Int} (h0 : 0 ≤ i) : ∀ x, x ∈ (goals2 r i).filter (fun z => (decide (0 ≤ z) && decide (z < n))) ↔ SuccP r i n x := by
  intro x
  rw [List.mem_filter]
  unfold goals2 goals1 SuccP
  rw [List.mem_append]
  simp only [Bool.and_eq_true, decide_eq_true_eq]
  constructor
  · rintro ⟨h | h, hx1, hx2⟩
    · split at h
      · rename_i hf
        have e := List.mem_singleton.mp h
        exact .inl ⟨hf, by omega, e⟩
      · cases h
    · split at h
      · rename_i hf
        have e := List.mem_singleton.mp h
        exact .inr ⟨hf.1, hf.2, e, hx1, hx2⟩
      · cases h
  · rintro (⟨hf, h1, e⟩ | ⟨h1, h2, e, h3, h4⟩)
    · refine ⟨.inl ?_, by omega, by omega⟩
      rw [if_pos hf]
      exact List.mem_singleton.mpr e
    · refine ⟨.inr ?_, h3, h4⟩
      rw [if_pos ⟨h1, h2⟩]
      exact List.mem_singleton.mpr e

section
variable {w : World} {A : Around} {h₀ : Heap} {L a : Addr} {cn : Str} {cs : Scope} {cd : Value} {cl : List (Str × Addr)} {m : Str → Option Value} {news known base : List (Addr × Obj)} {R : Value → Prop} {env : Env}
theorem Ev.run {e : PySem.Expr} {E : Value → Shared → Prop} {s : Shared} {Q : Value → Shared → Prop} (h : Ev w A h₀ L env m news e R) (F : Fr h₀ L s.heap m) (N : News h₀ L s.heap news) (q : ∀ v h n, R v → Fr h₀ L h m → News h₀ L h news → Q v { s with heap := h, toks := n }) : wpAny (model PySem.Challenge.pw_pb0326_01 w) A (eval e env) Q E s := h E s Q F N q
theorem Ev.nameC {x : Str} {p : Pos} {C : Addr} {o : Obj} {v : Value} (hm : (C, o) ∈ news) (ho : o.data = .cell (some v)) (hlk : List.lookup x cl = some C) (hv : R v) (hk : cs.kind = ScopeKind.function) (hl : (envX cn cs L a cd cl).kindOf x = some NameKind.cell) (hd : (x == Str.ofString "__debug__") = false) : Ev w A h₀ L (envX cn cs L a cd cl) m news (.Name x p) R :=
  fun _ s _ F N q => nameX_C N hlk hm ho (q _ s.heap s.toks hv F N) hk hl hd
theorem Ev.nameB {p : Program} {loose : List Str} {mg mb : Str → Option Value} {x : Str} {ps : Pos} {v : Value} (X : (hd.heap_39 w.params).In h₀) (T : TopRead p loose mg mb h₀) (hn : nsIn (hd.heap_39 w.params) mainGlobals x = some none) (hb : bootBuiltins x = some v) (hx : x ≠ "__name__") (hv : R v) (hk : cs.kind = ScopeKind.function) (hl : (envX cn cs L a cd cl).kindOf x = some NameKind.globalImplicit) (hd : (x == Str.ofString "__debug__") = false) : Ev w A h₀ L (envX cn cs L a cd cl) m news (.Name x ps) R :=
  fun _ s _ F N q => nameX_B F X T hn hb hx (q _ s.heap s.toks hv F N) hk hl hd
theorem Ev.lenE {x y : Str} {ps py ps' : Pos} {l : Addr} {vs : List Value} {c : Nat} (hf : Ev w A h₀ L env m news (.Name x ps) (· = .builtin "len")) (ha : Ev w A h₀ L env m news (.Name y py) (· = .ref l)) (hm : (l, listOf vs.toArray c) ∈ news) (hs : (vs.length : Int) < 2 ^ 63)
    (s1 : eval (PySem.Expr.Call (.Name x ps) [.Name y py] [] ps') env = (do let f ← eval (.Name x ps) env; callWith ps' f [] (backTo ps' (starEach [.Name y py] env)) (backToKw ps' (keywordEach [] env))) := by rfl) : Ev w A h₀ L env m news (.Call (.Name x ps) [.Name y py] [] ps') (IsI vs.length) := by
  intro E s Q F N q
  refine Call_ (hf E s _ F N ?_) s1
  rintro _ h n rfl F1 N1
  refine PyProof.Rows.callWith_builtin1 ?_
  refine args_cons (ha E _ _ F1 N1 ?_) rfl
  rintro _ h n rfl F2 N2
  refine args_nil ?_
  exact len_in N2 hm hs (q _ h _ ⟨_, rfl⟩ F2 N2)
/-- rows (a cell) holds at place i a tuple of these values -/
noncomputable def RowK (news : List (Addr × Obj)) (cl : List (Str × Addr)) (x : Str) (i : Int) (l : List Value) : Prop :=
  ∃ (C : Addr) (o : Obj) (D : Addr) (refs : List Value) (nR : Nat) (ra : Addr) (n : Nat), (C, o) ∈ news ∧ o.data = .cell (some (.ref D)) ∧ List.lookup x cl = some C ∧ (D, listOf refs.toArray nR) ∈ news ∧ refs[i.toNat]? = some (.ref ra) ∧ 0 ≤ i ∧ i < 2 ^ 63 ∧ (ra, tupO l n) ∈ news
theorem RowK.mono {nw : List (Addr × Obj)} {x : Str} {i : Int} {l : List Value} (h : RowK news cl x i l) (hs : Sub news nw) : RowK nw cl x i l :=
  by
  obtain ⟨C, o, D, refs, nR, ra, n, h1, h2, h3, h4, h5, h6, h7, h8⟩ := h
  exact ⟨C, o, D, refs, nR, ra, n, hs _ h1, h2, h3, hs _ h4, h5, h6, h7, hs _ h8⟩
/-- rows[at][k] -/
theorem Ev.rowAt {x y : Str} {p1 p2 p3 p4 p5 : Pos} {k0 : Int} {k : Nat} {i : Int} {ti : Tok} {l : List Value} {j : Nat} {u : Value} (hK : RowK news cl x i l) (hy : m y = some (.int i ti)) (hj : seqIndex? k0 l.length = some j) (hu : l[j]? = some u) (hv : R u) (h0 : -2 ^ 63 ≤ k0) (h1 : k0 < 2 ^ 63) (hk : cs.kind = ScopeKind.function) (hl : (envX cn cs L a cd cl).kindOf x = some NameKind.cell) (hd : (x == Str.ofString "__debug__") = false) (hl2 : (envX cn cs L a cd cl).kindOf y = some NameKind.local) (hd2 : (y == Str.ofString "__debug__") = false) : Ev w A h₀ L (envX cn cs L a cd cl) m news (.Subscript (.Subscript (.Name x p1) (.Name y p2) p3) (.Constant (.int k0) k p4) p5) R := by
  intro E s Q F N q
  obtain ⟨C, o, D, refs, nR, ra, n, h2, h3, h4, h5, h6, h7, h8, h9⟩ := hK
  refine Subscript_ (Subscript_ (nameX_C N h4 h2 h3 (nameX_L F hy (item_in N h5 h6 h7 h8 ?_ (by with_unfolding_all rfl)) hk hl2 hd2) hk hl hd))
  exact wpAny_Constant_int (item_tupleT (News.isTup N h9) h0 h1 hj hu (q _ s.heap (s.toks + 1) hv F N) (by with_unfolding_all rfl))
theorem El.run {e : PySem.Expr} {ns : List Int} {E : Value → Shared → Prop} {s : Shared} {Q : Value → Shared → Prop} (h : El w A h₀ L news base env m e ns) (F : Fr h₀ L s.heap m) (N : News h₀ L s.heap news) (q : ∀ D us c nw' h n, Sub news nw' → (D, listOf us.toArray c) ∈ nw' → IntsAre us ns → (∀ p ∈ base, p.1 ≠ D) → Fr h₀ L h m → News h₀ L h nw' → Q (.ref D) { s with heap := h, toks := n }) : wpAny (model PySem.Challenge.pw_pb0326_01 w) A (eval e env) Q E s := h E s Q news (fun _ h => h) F N q
/-- names in a comprehension: its own, a built-in one, a cell -/
theorem Ev.own {x : Str} {ps : Pos} {C : Addr} {oC : Obj} {m₂ : Str → Option Value} {scope : Scope} {v : Value} (hm : (C, oC) ∈ news) (hC : LCg.NsObj oC m₂) (hx : m₂ x = some v) (hv : R v) (hk : (compEnvC scope cl C env).scope.kind = ScopeKind.function) (hl : (compEnvC scope cl C env).kindOf x = some NameKind.local) (hd : (x == Str.ofString "__debug__") = false) : Ev w A h₀ L (compEnvC scope cl C env) m news (.Name x ps) R :=
  fun _ s _ F N q => LCgL.ld_own N hm hC hx (q _ s.heap s.toks hv F N) hk hl hd
theorem Ev.builtC {p : Program} {loose : List Str} {mean : ExcName → Option Value} {mg mb : Str → Option Value} {x : Str} {ps : Pos} {C : Addr} {scope : Scope} {v : Value} (X : (hd.heap_39 w.params).In h₀) (T : Top p loose mean mg mb h₀) (hn : nsIn (hd.heap_39 w.params) mainGlobals x = some none) (hb : bootBuiltins x = some v) (hx : x ≠ "__name__") (hv : R v) (hg : env.globals = mainGlobals) (hb2 : env.builtins = builtinsNs) (hk : (compEnvC scope cl C env).scope.kind = ScopeKind.function) (hl : (compEnvC scope cl C env).kindOf x = some NameKind.globalImplicit) (hd : (x == Str.ofString "__debug__") = false) : Ev w A h₀ L (compEnvC scope cl C env) m news (.Name x ps) R :=
  fun _ s _ F N q => LCgL.ld_built F X T hn hb hx (q _ s.heap s.toks hv F N) hg hb2 hk hl hd
theorem Ev.cellC {x : Str} {ps : Pos} {C c : Addr} {o : Obj} {scope : Scope} {v : Value} (hm : (c, o) ∈ news) (ho : o.data = .cell (some v)) (hlk : List.lookup x cl = some c) (hv : R v) (hk : (compEnvC scope cl C env).scope.kind = ScopeKind.function) (hl : (compEnvC scope cl C env).kindOf x = some NameKind.cell) (hd : (x == Str.ofString "__debug__") = false) : Ev w A h₀ L (compEnvC scope cl C env) m news (.Name x ps) R :=
  fun _ s _ F N q => kcf_cell N hlk hm ho (q _ s.heap s.toks hv F N) hk hl hd
theorem Ev.andF {e1 e2 : PySem.Expr} {es : List PySem.Expr} {p : Pos} (h1 : Ev w A h₀ L env m news e1 (IsB false)) : Ev w A h₀ L env m news (.BoolOp .And (e1 :: e2 :: es) p) (IsB false) := by
  intro E s Q F N q
  refine BoolOp_and (h1 E s _ F N ?_)
  rintro _ h n rfl F1 N1
  exact wpAny_truthy_bool (q _ _ _ rfl F1 N1)
theorem Ev.gtI {l r : PySem.Expr} {p : Pos} {x y : Int} (h1 : Ev w A h₀ L env m news l (IsI x)) (h2 : Ev w A h₀ L env m news r (IsI y)) (hb : behindInMarks .Gt r = false := by rfl) : Ev w A h₀ L env m news (.Compare l [.Gt] [r] p) (IsB (decide (y < x))) := by
  intro E s Q F N q
  refine wpAny_Compare1 (h1 E s _ F N ?_) hb
  rintro _ h n ⟨t, rfl⟩ F1 N1
  refine h2 E _ _ F1 N1 ?_
  rintro _ h n ⟨t, rfl⟩ F2 N2
  exact gt_int (q _ _ _ rfl F2 N2)
theorem Ev.castB {e : PySem.Expr} {b c : Bool} (h : Ev w A h₀ L env m news e (IsB b)) (e' : b = c) : Ev w A h₀ L env m news e (IsB c) := e' ▸ h
theorem Bt.cast {e : PySem.Expr} {b c : Bool} (h : Bt w A h₀ L env m news e b) (e' : b = c) : Bt w A h₀ L env m news e c := e' ▸ h
/-- l != [] -/
theorem Ev.neNil {e : PySem.Expr} {p p' : Pos} {xs : List Int} (hb : behindInMarks .NotEq (.List [] p') = false) (hu : A.units + 64 < cLine) (h : El w A h₀ L news base env m e xs) : Ev w A h₀ L env m news (.Compare e [.NotEq] [.List [] p'] p) (IsB (!decide (xs = []))) := by
  intro E s Q F N q
  refine wpAny_Compare1 (h E s _ news (fun _ h => h) F N fun D us c nw h n hs hm hi _ F1 N1 => ?_) hb
  refine List_ (args_nil (newList_K F1 N1 (fun D2 h2 F2 N2 _ => ?_) (Nat.zero_le _)))
  exact ke_ne_ints (xs := us) (ys := []) ⟨_, N2.get (.tail _ hm), rfl, _, rfl⟩ ⟨_, N2.get (.head _), rfl, 0, rfl⟩ hi .nil hu (q _ h2 _ rfl F2 (fun p hp => N2 p (.tail _ (hs p hp))))
/-- [x for x in y if test] -/
theorem El.comp {ct : PySem.Expr} {x y : Str} {px px2 py pos : Pos} {scope : Scope} {cl' : List (Str × Addr)} {G : Addr} {us : List Value} {c : Nat} {ns : List Int} (p : Int → Bool) (hbk : Sub base known) (hA : A.handled = none) (hclos : closureFor scope env = pure cl') (hcell : ∀ y ∈ scope.names, y.2 ≠ NameKind.cell) (hkind : scope.kind = ScopeKind.function) (hnames : ∀ y ∈ scope.names, y.2 = NameKind.local → scope.names.lookup y.1 = some NameKind.local) (hx : scope.names.lookup x = some NameKind.local)
    (he : ∀ nw, Sub known nw → Ev w A h₀ L env m nw (.Name y py) (· = .ref G)) (hG : (G, listOf us.toArray c) ∈ known) (hi : IntsAre us ns) (hlen : us.length ≤ 1000)
    (hlx : ∀ C, (compEnvC scope cl' C env).scope.kind = ScopeKind.function ∧ (compEnvC scope cl' C env).kindOf x = some NameKind.local) (hd : (x == Str.ofString "__debug__") = false)
    (hct : ∀ z t C oC m₂ nw, Sub known nw → (C, oC) ∈ nw → LCg.NsObj oC m₂ → m₂ x = some (.int z t) → Bt w A h₀ L (compEnvC scope cl' C env) m nw ct (p z)) (hs : ∀ x, foldedSetIterable (.Name y py) env x = pure x := by intro _; rfl) :
    El w A h₀ L known base env m (.ListComp (.Name x px) [⟨.Name x px2, .Name y py, [ct], 0⟩] scope pos) (ns.filter p) := by
  intro E s Q nw hS F N q
  refine LCt.ListComp_T F hclos hcell hkind hnames hx (he nw hS E s _ F N ?_) hs
  rintro _ h n rfl F1 N1
  refine LCt.CompSrcT.ledger hA F1 N1 (hS _ hG) (by rw [List.size_toArray, sizeLine_eq]; omega) ?_
  intro g
  refine restT_ind (FiltJ nw ns p) ⟨rfl, by simpa using IntsAre.nil⟩ ?_ ?_
  · intro i ys nw' v I oI C oC D m₂ h tk E' hj hJ hv hC hx2 FC NC off ne
    obtain ⟨rfl, hJ⟩ := hJ
    obtain ⟨z, t, hz, rfl⟩ := ints_get hi hv
    refine hct z t C oC m₂ _ (fun p hp => .tail _ (.tail _ (.tail _ (hS p hp)))) (.tail _ (.head _)) hC hx2 _ (.inr rfl) E' _ _ FC NC fun h n F2 N2 => ?_
    cases hp : p z
    · simp only [Bool.false_eq_true, if_false]
      exact ⟨h, n, nw', rfl, F2, N2, off, .inr ⟨_, hS _ hG, rfl, _, rfl⟩, rfl, by rw [filt_step hz, if_neg (by rw [hp]; decide)]; exact hJ⟩
    · simp only [if_true]
      exact LCgL.ld_own N2 (.tail _ (.head _)) hC hx2 ⟨h, n, nw', rfl, F2, N2, off, .inr ⟨_, hS _ hG, rfl, _, rfl⟩, rfl, by rw [filt_step hz, if_pos hp]; exact ints_snoc hJ⟩ (hlx C).1 (hlx C).2 hd
  · intro ys nw2 hJ
    obtain ⟨rfl, hJ⟩ := hJ
    intro D h tk F4 N4 off4
    rw [List.size_toArray, hi.length, List.take_length] at hJ
    exact q D ys ys.length _ h tk (fun p hp => .tail _ hp) (.head _) hJ (fun p hp => off1_mem off4 p (hS p (hbk p hp))) F4 N4
theorem set_ev {x : Str} {e : PySem.Expr} {p p' : Pos} {rest : List Stmt} {E : Value → Shared → Prop} {s : Shared} {Q : Flow → Shared → Prop} (F : Fr h₀ L s.heap m) (N : News h₀ L s.heap news) (he : Ev w A h₀ L (envX cn cs L a cd cl) m news e R) (hk : cs.kind = ScopeKind.function) (hl : (envX cn cs L a cd cl).kindOf x = some NameKind.local) (hw : swapsWith e (some (PySem.Expr.Name x p')) p.line (envX cn cs L a cd cl) = pure false)
    (q : ∀ v h n, R v → Fr h₀ L h (upd m x v) → News h₀ L h news → wpAny (model PySem.Challenge.pw_pb0326_01 w) A (execs rest (envX cn cs L a cd cl)) Q E { s with heap := h, toks := n }) : wpAny (model PySem.Challenge.pw_pb0326_01 w) A (execs (.Assign [.Name x p'] e p :: rest) (envX cn cs L a cd cl)) Q E s :=
  wpAny_execs_cons (wpAny_Assign_Name (he E s _ F N fun v _ _ hv F1 N1 => storeX_L F1 N1 (fun h' F2 N2 => q v h' _ hv F2 N2) hk hl) hw)
theorem set_el {x : Str} {e : PySem.Expr} {p p' : Pos} {rest : List Stmt} {ns : List Int} {E : Value → Shared → Prop} {s : Shared} {Q : Flow → Shared → Prop} (F : Fr h₀ L s.heap m) (N : News h₀ L s.heap news) (he : El w A h₀ L news news (envX cn cs L a cd cl) m e ns) (hk : cs.kind = ScopeKind.function) (hl : (envX cn cs L a cd cl).kindOf x = some NameKind.local) (hw : swapsWith e (some (PySem.Expr.Name x p')) p.line (envX cn cs L a cd cl) = pure false)
    (q : ∀ D us c h n, IntsAre us ns → (∀ p ∈ news, p.1 ≠ D) → Fr h₀ L h (upd m x (.ref D)) → News h₀ L h ((D, listOf us.toArray c) :: news) → wpAny (model PySem.Challenge.pw_pb0326_01 w) A (execs rest (envX cn cs L a cd cl)) Q E { s with heap := h, toks := n }) : wpAny (model PySem.Challenge.pw_pb0326_01 w) A (execs (.Assign [.Name x p'] e p :: rest) (envX cn cs L a cd cl)) Q E s :=
  wpAny_execs_cons (wpAny_Assign_Name (he E s _ news (fun _ h => h) F N fun D us c nw _ _ hS hm hi ho F1 N1 => storeX_L F1 (news_sub (news := (D, listOf us.toArray c) :: news) N1 fun p hp => by
    rcases List.mem_cons.mp hp with rfl | hp
    · exact hm
    · exact hS p hp) (fun h' F2 N2 => q D us c h' _ hi ho F2 N2) hk hl) hw)
/-- if test: goals.append(e), behind which the list stands either way -/
theorem if_app {x : Str} {e1 e : PySem.Expr} {p1 p2 p3 p4 p5 : Pos} {b : Bool} {i : Int} {D : Addr} {us : List Value} {c : Nat} {ns : List Int} {rest : List Stmt} {E : Value → Shared → Prop} {s : Shared} {Q : Flow → Shared → Prop} (F : Fr h₀ L s.heap m) (N : News h₀ L s.heap ((D, listOf us.toArray c) :: news)) (hi : IntsAre us ns) (hl : ns.length ≤ 1000) (hoff : ∀ p ∈ news, p.1 ≠ D) (hb : Bt w A h₀ L (envX cn cs L a cd cl) m ((D, listOf us.toArray c) :: news) e1 b) (hx : m x = some (.ref D)) (he : Ev w A h₀ L (envX cn cs L a cd cl) m ((D, listOf us.toArray c) :: news) e (IsI i)) (hk : cs.kind = ScopeKind.function) (hlx : (envX cn cs L a cd cl).kindOf x = some NameKind.local) (hd : (x == Str.ofString "__debug__") = false)
    {pl : Sem Bool} (s1 : eval ((PySem.Expr.Attribute (.Name x p1) (Str.ofString "append") p2).Call [e] [] p3) (envX cn cs L a cd cl) = (do let ov ← eval (.Name x p1) (envX cn cs L a cd cl); standAt p2.atName; let q ← holding [ov] (getMethod ov (Str.ofString "append") pl); match q with | (f, first) => callWith p3 f first (backTo p3 (starEach [e] (envX cn cs L a cd cl))) []))
    (s5 : starEach [e] (envX cn cs L a cd cl) = (false, eval e (envX cn cs L a cd cl)) :: starEach [] (envX cn cs L a cd cl))
    (s2 : interactive (envX cn cs L a cd cl) = false) (s3 : swapsWith ((PySem.Expr.Attribute (.Name x p1) (Str.ofString "append") p2).Call [e] [] p3) none p4.line (envX cn cs L a cd cl) = pure false)
    (q : ∀ us' c' h n, IntsAre us' (ns ++ if b = true then [i] else []) → Fr h₀ L h m → News h₀ L h ((D, listOf us'.toArray c') :: news) → wpAny (model PySem.Challenge.pw_pb0326_01 w) A (execs rest (envX cn cs L a cd cl)) Q E { s with heap := h, toks := n }) :
    wpAny (model PySem.Challenge.pw_pb0326_01 w) A (execs (.If e1 [.Expr ((PySem.Expr.Attribute (.Name x p1) (Str.ofString "append") p2).Call [e] [] p3) p4] [] p5 :: rest) (envX cn cs L a cd cl)) Q E s := by
  refine wpAny_execs_cons (wpAny_If (hb _ (.inr rfl) E s _ F N fun h n F1 N1 => ?_))
  cases b
  · exact wpAny_execs_nil (q us c _ _ (by simpa using hi) F1 N1)
  · refine wpAny_execs_cons (wpAny_Expr ?_ s2 s3)
    refine MethodCall_ (nameX_L F1 hx ?_ hk hlx hd) s1
    refine PySem.Calls.getMethod_list_append (N1.get (.head _)) rfl rfl ?_
    refine PyProof.Rows.callWith_method1 ?_ s5 rfl
    refine args_cons (he E _ _ F1 N1 ?_) s5
    rintro _ h n ⟨t, rfl⟩ F2 N2
    refine args_nil ?_
    have hlen := hi.length
    refine append_K F2 N2 (.head hoff) (fun h' F3 N3 => ?_) (by rw [List.size_toArray, sizeLine_eq]; omega)
    rw [List.push_toArray] at N3
    exact wpAny_execs_nil (q _ _ h' _ (ints_snoc hi) F3 N3)
/-- if test: x = True, behind which x holds a bool -/
theorem if_setT {x : Str} {e1 : PySem.Expr} {p1 p2 p3 p4 : Pos} {k : Nat} {b lo : Bool} {rest : List Stmt} {E : Value → Shared → Prop} {s : Shared} {Q : Flow → Shared → Prop} (F : Fr h₀ L s.heap m) (N : News h₀ L s.heap news) (hb : Bt w A h₀ L (envX cn cs L a cd cl) m news e1 b) (hx : m x = some (.bool lo)) (hk : cs.kind = ScopeKind.function) (hlx : (envX cn cs L a cd cl).kindOf x = some NameKind.local) (hw : swapsWith (.Constant (.bool true) k p1) (some (PySem.Expr.Name x p2)) p3.line (envX cn cs L a cd cl) = pure false)
    (q : ∀ m' h n, m' x = some (.bool (b || lo)) → (∀ y, y ≠ x → m' y = m y) → Fr h₀ L h m' → News h₀ L h news → wpAny (model PySem.Challenge.pw_pb0326_01 w) A (execs rest (envX cn cs L a cd cl)) Q E { s with heap := h, toks := n }) :
    wpAny (model PySem.Challenge.pw_pb0326_01 w) A (execs (.If e1 [.Assign [.Name x p2] (.Constant (.bool true) k p1) p3] [] p4 :: rest) (envX cn cs L a cd cl)) Q E s := by
  refine wpAny_execs_cons (wpAny_If (hb _ (.inr rfl) E s _ F N fun h n F1 N1 => ?_))
  cases b
  · exact wpAny_execs_nil (q m _ _ hx (fun _ _ => rfl) F1 N1)
  · exact set_ev F1 N1 Ev.constB hk hlx hw fun v h n hv F2 N2 => wpAny_execs_nil (q _ h n (by rw [hv, upd, if_pos rfl]; rfl) (fun y hy => by rw [upd, if_neg hy]) F2 N2)
end

theorem ends_br (nm cd : Str) (x y : Int) (hn : nm ∈ brNames) (hx : nm = "TRAP" → 0 ≤ x) : (((["B", "BR"] : List Str).any (· == nm) && cd == "AL") || (nm == "TRAP" && (cd == "AL" && (decide (0 < x) || y == 9)))) = !(Ins.br nm cd x y).falls := by
  rw [falls_eq nm cd x y hn hx, Bool.and_assoc]
theorem goals1_eq (r : Ins) (i : Int) : (if (!r.falls) = true then [] else [i + 1]) = goals1 r i := by
  unfold goals1
  cases r.falls <;> rfl
theorem goals2_eq {r : Ins} {nm : Str} {v1 : Value} {x y i : Int} (hg : RowG r nm v1 x y) : goals1 r i ++ (if (r.isB && r.jumps) = true then [i + 1 + x] else []) = goals2 r i := by
  rcases hg with ⟨a, t, rfl, -⟩ | ⟨cd, t, rfl, -⟩ <;> rfl
theorem lost_eq {r : Ins} {nm : Str} {v1 : Value} {x y i n : Int} (hg : RowG r nm v1 x y) (hok : r.ok) (h0 : 0 ≤ i) (hi : i < n) :
    (((nm == ("B" : Str)) && !(decide (0 ≤ i + 1 + x) && decide (i + 1 + x < n)) || ((nm == ("BR" : Str)) && x != 15)) || (!decide ((goals2 r i).filter (fun z => !(decide (0 ≤ z) && decide (z < n))) = []))) = unk r i n := by
  by_cases hB : (nm == ("B" : Str)) = true ∧ ¬ (0 ≤ i + 1 + x ∧ i + 1 + x < n)
  · rw [lost_t (y := y) hg hok (.inl hB), hB.1]
    have : (decide (0 ≤ i + 1 + x) && decide (i + 1 + x < n)) = false := by
      simpa using hB.2
    rw [this]
    rfl
  · by_cases hR : (nm == ("BR" : Str)) = true ∧ x ≠ 15
    · rw [lost_t (y := y) hg hok (.inr hR), hR.1]
      have : (x != 15) = true := by simpa using hR.2
      rw [this]
      simp
    · rw [lost_k (y := y) hg hok h0 hi (fun h => Classical.byContradiction fun h2 => hB ⟨h, h2⟩) (fun h => Classical.byContradiction fun h2 => hR ⟨h, h2⟩)]
      have e1 : ((nm == ("B" : Str)) && !(decide (0 ≤ i + 1 + x) && decide (i + 1 + x < n))) = false := by
        cases q : (nm == ("B" : Str))
        · rfl
        · have := Classical.byContradiction fun h2 => hB ⟨q, h2⟩
          simp [this.1, this.2]
      have e2 : ((nm == ("BR" : Str)) && x != 15) = false := by
        cases q : (nm == ("BR" : Str))
        · rfl
        · have := Classical.byContradiction fun h2 => hR ⟨q, h2⟩
          simp [this]
      rw [e1, e2]
      rfl
section
variable {w : World} {mean : ExcName → Option Value} {mg mb : Str → Option Value} {news : List (Addr × Obj)}
theorem wy_spec (r : Ins) (ra R : Addr) (refs : List Value) (nR : Nat) (i : Int) (ti : Tok) (hR : (R, listOf refs.toArray nR) ∈ news) (hx : refs[i.toNat]? = some (.ref ra)) (h0 : 0 ≤ i) (hi : i < refs.length) (hn8 : refs.length ≤ 8) (hr : InsAt news ra r) (hok : r.ok) : Ctr w mean mg mb 174 [.ref R, .int i ti] news 10 400 (WaysOut r i refs.length news) := by
  obtain ⟨nm, v1, x, y, t1, t3, t4, n, hg, hm⟩ := rowG hr
  intro dp un gd cn cs a ccd cl outer A₀ base h₀ L m s Q E B F X N T hk hdp hun hret
  refine wpAny_call ?_
  k_dflt (refine' code_defC (binds := [(Str.ofString "rows", .ref R), (Str.ofString "at", .int i ti)]) ?k1 ?k2 ?k3 ?k4 ?k5 ?kA ?kF ?kK ?k6 ?k7 ?k8 ?k9 ?kB ?kD ?_ ?c2 ?c3 ?c4; (case kA => exact rfl); (case kF => exact rfl); (case kK => assumption); (case k1 => k_asm); (case k2 => k_asm); (case k3 => k_asm); (case k4 => k_asm); (case k5 => k_asm); (case k6 => k_is); (case k7 => k_is); (case k8 => ktr_room); (case k9 => exact BindsTo.of_eq (by with_unfolding_all rfl)); (case kB => exact rfl); (case kD => decide +kernel); (case c2 => exact rfl); (case c3 => exact rfl); (case c4 => exact rfl))
  intro g' L' h' tk' cells' FG' F' N' Y' B' X' T' l1
  obtain ⟨oc, rfl, hcd⟩ := CellsAre.one Y'
  have hK : RowK ((L' + 1, oc) :: news) [(Str.ofString "rows", L' + 1)] (Str.ofString "rows") i [.str nm t1, v1, .int x t3, .int y t4] := ⟨L' + 1, oc, R, refs, nR, ra, n, .head _, hcd, rfl, .tail _ hR, hx, h0, by omega, .tail _ hm⟩
  change wpAny _ _ (execs _ (envX _ _ _ _ _ [(Str.ofString "rows", L' + 1)])) _ _ _
  change Fr _ _ _ (bindL (envX _ _ _ _ _ [(Str.ofString "rows", L' + 1)]).kindOf _ _) at F'
  refine wpAny_execs_cons (Assign_Tuple_swapped (names := [Str.ofString "name", Str.ofString "cond"]) (Tuple_ ?_))
  refine args_cons (Ev.run (Ev.rowAt (R := (Value.str nm t1 = ·)) hK rfl rfl rfl rfl (by decide) (by decide) rfl rfl (by decide) rfl (by decide)) F' N' fun v h1 n1 hv F1 N1 => ?_) rfl
  subst hv
  refine args_cons (Ev.run (Ev.rowAt (R := (v1 = ·)) hK rfl rfl rfl rfl (by decide) (by decide) rfl rfl (by decide) rfl (by decide)) F1 N1 fun v h2 n2 hv F2 N2 => args_nil ?_) rfl
  subst hv
  refine kup_newTuple F2 N2 (fun D h3 F3 N3 _ => ?_) (by rw [sizeLine_eq]; exact Nat.le_of_ble_eq_true rfl)
  refine unpackItemsN_ F3 N3 (News.isTup N3 (.head _)) rfl rfl fun h4 F4 N4 => ?_
  refine assignInOrder_cons (bindName_ (storeX_L F4 (fun p hp => N4 p (.tail _ hp)) (fun h5 (F5 : Fr _ _ h5 (upd _ _ _)) N5 => ?_) rfl rfl))
  refine assignInOrder_cons (bindName_ (storeX_L F5 N5 (fun h6 (F6 : Fr _ _ h6 (upd _ _ _)) N6 => assignInOrder_nil ?_) rfl rfl))
  refine set_ev (R := IsB (!r.falls)) F6 N6 ?_ rfl rfl rfl fun v h7 n7 hv F7 N7 => ?_
  · clear hret
    rcases hg with ⟨a1, t2, rfl, rfl⟩ | ⟨cd, t2, rfl, rfl⟩
    · exact Ev.castB (Ev.orB (Ev.andF (Ev.castB (Ev.inS (Ev.nameX rfl ⟨_, rfl⟩ rfl rfl (by decide)) (by repeat (first | exact CS.nil | apply CS.cons)) (Nat.le_of_ble_eq_true rfl)) (ends_op nm hok.1))) (Ev.oneB (Ev.andF (Ev.castB (Ev.eqS (Ev.nameX rfl ⟨_, rfl⟩ rfl rfl (by decide)) Ev.constS rfl) (op_not nm hok.1).2.2.2.2.1)))) rfl
    · exact Ev.castB (Ev.orB (Ev.andB (Ev.inS (Ev.nameX rfl ⟨_, rfl⟩ rfl rfl (by decide)) (by repeat (first | exact CS.nil | apply CS.cons)) (Nat.le_of_ble_eq_true rfl)) (Ev.oneB (Ev.eqS (Ev.nameX rfl ⟨_, rfl⟩ rfl rfl (by decide)) Ev.constS rfl))) (Ev.oneB (Ev.andB (Ev.eqS (Ev.nameX rfl ⟨_, rfl⟩ rfl rfl (by decide)) Ev.constS rfl) (Ev.andB (Ev.eqS (Ev.nameX rfl ⟨_, rfl⟩ rfl rfl (by decide)) Ev.constS rfl) (Ev.oneB (Ev.orB (Ev.gtI (x := x) (Ev.rowAt hK rfl rfl rfl ⟨_, rfl⟩ (by decide) (by decide) rfl rfl (by decide) rfl (by decide)) Ev.constI rfl) (Ev.oneB (Ev.eqI (x := y) (Ev.rowAt hK rfl rfl rfl ⟨_, rfl⟩ (by decide) (by decide) rfl rfl (by decide) rfl (by decide)) Ev.constI rfl)))))))) (ends_br nm cd x y hok.1 hok.2.2.2)
  subst hv
  refine set_el (ns := goals1 r i) F7 N7 (El.cast (El.ite (b := !r.falls) (fun nw hS => Bt.of (Ev.nameX rfl rfl rfl rfl (by decide)) (fun _ _ _ h => nomatch h) (fun _ => rfl)) (fun _ => El.new (fun _ h => h) (fun nw hS => Ei.nil) (by decide)) fun _ => El.new (fun _ h => h) (fun nw hS => Ei.cons (i := i + 1) (Ev.add (i := i) (Ev.nameX rfl ⟨_, rfl⟩ rfl rfl (by decide)) Ev.constI) Ei.nil rfl) (by simp)) (goals1_eq r i)) rfl rfl rfl fun G us c h8 n8 hus hG F8 N8 => ?_
  have hK8 := hK.mono (nw := (G, listOf us.toArray c) :: (L' + 1, oc) :: news) fun p hp => .tail _ hp
  refine if_app (b := r.isB && r.jumps) (i := i + 1 + x) F8 N8 hus (Nat.le_trans (goals1_len r i) (by decide)) hG ?_ rfl (Ev.add (i := i + 1) (Ev.add (i := i) (Ev.nameX rfl ⟨_, rfl⟩ rfl rfl (by decide)) Ev.constI) (Ev.rowAt hK8 rfl rfl rfl ⟨_, rfl⟩ (by decide) (by decide) rfl rfl (by decide) rfl (by decide))) rfl rfl (by decide) rfl rfl rfl rfl fun us2 c2 h9 n9 hus2 F9 N9 => ?_
  · clear hret
    rcases hg with ⟨a1, t2, rfl, rfl⟩ | ⟨cd, t2, rfl, rfl⟩
    · exact Bt.cast (Bt.andF (Bt.eqS (Ev.nameX rfl ⟨_, rfl⟩ rfl rfl (by decide)) Ev.constS rfl) (op_not nm hok.1).1) rfl
    · exact Bt.cast (Bt.and (Bt.eqS (Ev.nameX rfl ⟨_, rfl⟩ rfl rfl (by decide)) Ev.constS rfl) (Bt.and1 (Bt.neS (Ev.nameX rfl ⟨_, rfl⟩ rfl rfl (by decide)) Ev.constS rfl))) rfl
  rw [goals2_eq hg] at hus2
  have hl2 : us2.length ≤ 2 := by rw [hus2.length]; exact goals2_len r i
  refine set_ev F9 N9 (Ev.neNil rfl (by ktr_units) (El.comp (G := G) (us := us2) (c := c2) (fun z => !(decide (0 ≤ z) && decide (z < (refs.length : Int)))) (fun _ h => h) rfl (by with_unfolding_all rfl) (by decide) rfl (by decide) rfl (fun nw hS => (Ev.nameX rfl rfl rfl rfl (by decide))) (.head _) hus2 (by omega) (fun C => ⟨rfl, rfl⟩) (by decide) fun z t C oC m₂ nw hS hC hN hz => Bt.not (Bt.chain Ev.constI (Ev.own hC hN hz ⟨_, rfl⟩ rfl rfl (by decide)) (Ev.lenE (Ev.builtC X' T' (by k_is) (by boot_by_name) (by decide) rfl rfl rfl rfl rfl (by decide)) (Ev.cellC (hS _ (.tail _ (.head _))) hcd rfl rfl rfl rfl (by decide)) (hS _ (.tail _ (.tail _ hR))) (by omega) rfl) rfl))) rfl rfl rfl fun v h10 n10 hv F10 N10 => ?_
  have hK10 := hK.mono (nw := (G, listOf us2.toArray c2) :: (L' + 1, oc) :: news) fun p hp => .tail _ hp
  subst hv
  refine if_setT F10 N10 (Bt.or (Bt.and (Bt.eqS (Ev.nameX rfl ⟨_, rfl⟩ rfl rfl (by decide)) Ev.constS rfl) (Bt.and1 (Bt.not (Bt.chain Ev.constI (Ev.add (i := i + 1) (j := x) (Ev.add (i := i) (Ev.nameX rfl ⟨_, rfl⟩ rfl rfl (by decide)) Ev.constI) (Ev.rowAt hK10 rfl rfl rfl ⟨_, rfl⟩ (by decide) (by decide) rfl rfl (by decide) rfl (by decide))) (Ev.lenE (Ev.nameB X' (topRead_of T') (by k_is) (by boot_by_name) (by decide) rfl rfl rfl (by decide)) (Ev.nameC (.tail _ (.head _)) hcd rfl rfl rfl rfl (by decide)) (.tail _ (.tail _ hR)) (by omega) rfl) rfl)))) (Bt.or1 (Bt.and (Bt.eqS (Ev.nameX rfl ⟨_, rfl⟩ rfl rfl (by decide)) Ev.constS rfl) (Bt.and1 (Bt.neI (x := x) (Ev.rowAt hK10 rfl rfl rfl ⟨_, rfl⟩ (by decide) (by decide) rfl rfl (by decide) rfl (by decide)) Ev.constI rfl))))) rfl rfl rfl rfl fun m' h11 n11 hlo hmo F11 N11 => ?_
  rw [lost_eq hg hok h0 hi] at hlo
  refine wpAny_execs_cons (wpAny_Return_some (Tuple_ ?_))
  refine args_cons (El.run (El.comp (G := G) (us := us2) (c := c2) (fun z => decide (0 ≤ z) && decide (z < (refs.length : Int))) (fun _ h => h) rfl (by with_unfolding_all rfl) (by decide) rfl (by decide) rfl (fun nw hS => (Ev.nameX ((hmo _ (by decide)).trans rfl) rfl rfl rfl (by decide))) (.head _) hus2 (by omega) (fun C => ⟨rfl, rfl⟩) (by decide) fun z t C oC m₂ nw hS hC hN hz => (Bt.chain Ev.constI (Ev.own hC hN hz ⟨_, rfl⟩ rfl rfl (by decide)) (Ev.lenE (Ev.builtC X' T' (by k_is) (by boot_by_name) (by decide) rfl rfl rfl rfl rfl (by decide)) (Ev.cellC (hS _ (.tail _ (.head _))) hcd rfl rfl rfl rfl (by decide)) (hS _ (.tail _ (.tail _ hR))) (by omega) rfl) rfl)) F11 N11 fun D3 us3 c3 nw3 h12 n12 hS3 hm3 hi3 ho3 F12 N12 => ?_) rfl
  refine args_cons (Ev.run (Ev.nameX hlo rfl rfl rfl (by decide)) F12 N12 fun v h13 n13 hv F13 N13 => args_nil ?_) rfl
  subst hv
  refine kup_newTuple F13 N13 (fun D4 h14 F14 N14 hlt => ?_) (by rw [sizeLine_eq]; exact Nat.le_of_ble_eq_true rfl)
  refine leaveK_ F14 (news_sub (news := (D4, tupO [.ref D3, .bool (unk r i refs.length)] 0) :: (D3, listOf us3.toArray c3) :: news) N14 fun p hp => ?_) fun F15 N15 => ?_
  · rcases List.mem_cons.mp hp with rfl | hp
    · exact .head _
    · rcases List.mem_cons.mp hp with rfl | hp
      · exact .tail _ hm3
      · exact .tail _ (hS3 _ (.tail _ (.tail _ hp)))
  exact hret _ _ _ _ F15 N15 ⟨_, _, D3, _, us3, _, rfl, rfl, hi3, Nat.le_trans (List.length_filter_le _ _) (goals2_len r i), succ_of h0, fun p hp => ⟨Nat.ne_of_lt (hlt p (hS3 _ (.tail _ (.tail _ hp)))), ho3 p (.tail _ (.tail _ hp))⟩⟩
end
end Mine
section
theorem Mine.off_L1 : True := by
  w_top off
  trivial
namespace Mine
noncomputable def TupAt (news : List (Addr × Obj)) (T : Addr) (vs : List Value) : Prop := ∃ n, (T, ({ cls := .type "tuple", data := .seq vs.toArray n } : Obj)) ∈ news
noncomputable def LstAt (news : List (Addr × Obj)) (l : Addr) (ns : List Int) : Prop := ∃ us c, (l, listOf us.toArray c) ∈ news ∧ IntsAre us ns
noncomputable def WaysRow (news : List (Addr × Obj)) (rs : List Ins) (v : Value) (j : Nat) : Prop :=
  ∃ r T G gs, rs[j]? = some r ∧ v = .ref T ∧ TupAt news T [.ref G, .bool (unk r j rs.length)] ∧ LstAt news G gs ∧ gs.length ≤ 2 ∧ ∀ x, x ∈ gs ↔ SuccP r j rs.length x
noncomputable def WaysAt (news : List (Addr × Obj)) (rs : List Ins) (ws : List Value) : Prop := ws.length = rs.length ∧ ∀ j v, ws[j]? = some v → WaysRow news rs v j
noncomputable def TabsRow (news : List (Addr × Obj)) (rs : List Ins) (v : Value) (j : Nat) : Prop :=
  ∃ r T A S as ss, rs[j]? = some r ∧ v = .ref T ∧ TupAt news T [.ref A, .ref S] ∧ LstAt news A as ∧ LstAt news S ss ∧ TabP r as ss
noncomputable def TabsAt (news : List (Addr × Obj)) (rs : List Ins) (ts : List Value) : Prop := ts.length = rs.length ∧ ∀ j v, ts[j]? = some v → TabsRow news rs v j
noncomputable def FolS (rs : List Ins) (fol : List (List Int)) : Prop := fol.length = rs.length ∧ ∀ (j : Nat) (ns : List Int), fol[j]? = some ns → ∃ r, rs[j]? = some r ∧ ∀ x, x ∈ ns ↔ SuccP r j rs.length x
structure Bfs (rs : List Ins) (fol : List (List Int)) (k a : Nat) (i : Nat) (ms : List Int) : Prop where
  le : i ≤ ms.length
  start : (a : Int) ∈ ms
  rng : ∀ t ∈ ms, 0 ≤ t ∧ t < (rs.length : Int)
  two : ∃ ds : List Int, ds.Nodup ∧ (∀ x, x ∈ ds ↔ x ∈ ms) ∧ ms.length ≤ 2 * ds.length
  sound : ∀ t ∈ ms, Live rs fol k t.toNat → Live rs fol k a
  done : ∀ (j : Nat) (t : Int), j < i → ms[j]? = some t → ∃ r, rs[t.toNat]? = some r ∧ tb r.reads k = false ∧ (tb r.writes k = true ∨ (unk r t rs.length = false ∧ ∀ x, SuccP r t rs.length x → x ∈ ms))
theorem Bfs.zero {rs : List Ins} {fol : List (List Int)} {k a : Nat} (ha : a < rs.length) : Bfs rs fol k a 0 [(a : Int)] :=
  ⟨Nat.zero_le _, by simp, fun t ht => by rw [List.mem_singleton.mp ht]; omega, ⟨[(a : Int)], by simp, fun _ => Iff.rfl, by simp⟩, fun t ht h => by rw [List.mem_singleton.mp ht] at h; exact h, fun j t hj _ => absurd hj (Nat.not_lt_zero _)⟩
theorem Bfs.len {rs : List Ins} {fol : List (List Int)} {k a i : Nat} {ms : List Int} (h : Bfs rs fol k a i ms) (hn : rs.length ≤ 8) : ms.length ≤ 16 := by
  obtain ⟨ds, h1, h2, h3⟩ := h.two
  have := len_le_of_nodup h1 (fun x hx => h.rng x ((h2 x).mp hx))
  omega
theorem Bfs.mem {rs : List Ins} {fol : List (List Int)} {k a i : Nat} {ms : List Int} {t : Int} (h : Bfs rs fol k a i ms) (ht : ms[i]? = some t) : t ∈ ms := List.mem_of_getElem? ht
/-- what was met is closed: none of it is live -/
theorem Bfs.dead {rs : List Ins} {fol : List (List Int)} {k a : Nat} {ms : List Int} (h : Bfs rs fol k a ms.length ms) (hfol : FolS rs fol) : ¬ Live rs fol k a := by
  have key : ∀ i, Live rs fol k i → (i : Int) ∈ ms → False := by
    intro i hl
    induction hl with
    | rd hr hb =>
      intro hm
      obtain ⟨j, hj, e⟩ := List.getElem_of_mem hm
      obtain ⟨r2, h1, h2, _⟩ := h.done j _ hj (by rw [List.getElem?_eq_getElem hj, e])
      rw [Int.toNat_natCast, hr] at h1
      cases h1
      rw [hb] at h2
      cases h2
    | lost hr hw hu =>
      intro hm
      obtain ⟨j, hj, e⟩ := List.getElem_of_mem hm
      obtain ⟨r2, h1, h2, h3⟩ := h.done j _ hj (by rw [List.getElem?_eq_getElem hj, e])
      rw [Int.toNat_natCast, hr] at h1
      cases h1
      rcases h3 with h3 | ⟨h3, _⟩
      · rw [hw] at h3; cases h3
      · rw [hu] at h3; cases h3
    | step hr hw hf hj hl ih =>
      intro hm
      obtain ⟨j, hj', e⟩ := List.getElem_of_mem hm
      obtain ⟨r2, h1, h2, h3⟩ := h.done j _ hj' (by rw [List.getElem?_eq_getElem hj', e])
      rw [Int.toNat_natCast, hr] at h1
      cases h1
      rcases h3 with h3 | ⟨_, h3⟩
      · rw [hw] at h3; cases h3
      · obtain ⟨r3, hr3, hx⟩ := hfol.2 _ _ hf
        rw [hr] at hr3
        cases hr3
        exact ih (h3 _ ((hx _).mp hj))
  exact fun hl => key a hl h.start
theorem any_nmem {l : List Int} {x : Int} (h : l.any (· == x) = false) : x ∉ l := by
  intro hx
  have : l.any (· == x) = true := List.any_eq_true.mpr ⟨x, hx, by simp⟩
  rw [h] at this
  cases this
theorem nmem_false {l : List Int} {x : Int} {b : Bool} (h : x ∈ l ↔ b = true) (hn : x ∉ l) : b = false := eq_false_of_ne_true fun q => hn (h.mpr q)
theorem Bfs.next {rs : List Ins} {fol : List (List Int)} {k a i j : Nat} {ms : List Int} {r : Ins} (h : Bfs rs fol k a i ms) (ht : ms[i]? = some (j : Int)) (hr : rs[j]? = some r) (hrd : tb r.reads k = false) (hc : tb r.writes k = true ∨ (unk r j rs.length = false ∧ ∀ x, SuccP r j rs.length x → x ∈ ms)) : Bfs rs fol k a (i + 1) ms := by
  have hlt : i < ms.length := by
    by_cases q : i < ms.length
    · exact q
    · rw [List.getElem?_eq_none (by omega)] at ht; cases ht
  refine ⟨hlt, h.start, h.rng, h.two, h.sound, fun j' t hj e => ?_⟩
  by_cases q : j' = i
  · subst q
    rw [ht] at e
    cases e
    exact ⟨r, by rw [Int.toNat_natCast]; exact hr, hrd, hc⟩
  · exact h.done j' t (by omega) e
theorem Bfs.two_grow {ms gs : List Int} (h : ∃ ds : List Int, ds.Nodup ∧ (∀ x, x ∈ ds ↔ x ∈ ms) ∧ ms.length ≤ 2 * ds.length) (hl : gs.length ≤ 2) (hno : ∀ x ∈ gs, x ∉ ms) : ∃ ds : List Int, ds.Nodup ∧ (∀ x, x ∈ ds ↔ x ∈ ms ++ gs) ∧ (ms ++ gs).length ≤ 2 * ds.length := by
  obtain ⟨ds, h1, h2, h3⟩ := h
  match gs, hl, hno with
  | [], _, _ => exact ⟨ds, h1, fun x => by rw [List.append_nil]; exact h2 x, by rw [List.append_nil]; exact h3⟩
  | [x], _, hno =>
    have hx : x ∉ ds := fun q => hno x (.head _) ((h2 x).mp q)
    refine ⟨ds ++ [x], ?_, fun y => by rw [List.mem_append, List.mem_append, h2 y], by simp; omega⟩
    rw [List.nodup_append]
    exact ⟨h1, by simp, fun a ha b hb e => by rw [List.mem_singleton.mp hb] at e; exact hx (e ▸ ha)⟩
  | [x, y], _, hno =>
    have hx : x ∉ ds := fun q => hno x (.head _) ((h2 x).mp q)
    have hy : y ∉ ds := fun q => hno y (.tail _ (.head _)) ((h2 y).mp q)
    by_cases e : x = y
    · subst e
      refine ⟨ds ++ [x], ?_, fun y => by rw [List.mem_append, List.mem_append, h2 y]; simp, by simp; omega⟩
      rw [List.nodup_append]
      exact ⟨h1, by simp, fun a ha b hb e => by rw [List.mem_singleton.mp hb] at e; exact hx (e ▸ ha)⟩
    · refine ⟨ds ++ [x, y], ?_, fun z => by rw [List.mem_append, List.mem_append, h2 z], by simp; omega⟩
      rw [List.nodup_append]
      refine ⟨h1, by simp [e], fun a ha b hb q => ?_⟩
      simp only [List.mem_cons, List.not_mem_nil, or_false] at hb
      rcases hb with rfl | rfl
      · exact hx (q ▸ ha)
      · exact hy (q ▸ ha)
  | _ :: _ :: _ :: _, hl, _ => exact absurd hl (by simp)
theorem filt_mem {ms gs : List Int} {x : Int} : x ∈ gs.filter (fun z => !(ms.any fun y => y == z)) ↔ x ∈ gs ∧ x ∉ ms := by
  rw [List.mem_filter]
  refine and_congr_right fun _ => ?_
  constructor
  · intro h q
    have : (ms.any fun y => y == x) = true := List.any_eq_true.mpr ⟨x, q, by simp⟩
    rw [this] at h
    cases h
  · intro h
    have : (ms.any fun y => y == x) = false := eq_false_of_ne_true fun q => h (any_mem q)
    rw [this]
    rfl
theorem Bfs.grow {rs : List Ins} {fol : List (List Int)} {k a i j : Nat} {ms gs : List Int} {r : Ins} (h : Bfs rs fol k a i ms) (hfol : FolS rs fol) (ht : ms[i]? = some (j : Int)) (hr : rs[j]? = some r) (hrd : tb r.reads k = false) (hwr : tb r.writes k = false) (hu : unk r j rs.length = false) (hgl : gs.length ≤ 2) (hgs : ∀ x, x ∈ gs ↔ SuccP r j rs.length x) :
    Bfs rs fol k a (i + 1) (ms ++ gs.filter (fun z => !(ms.any fun y => y == z))) := by
  have hjl : j < rs.length := by
    by_cases q : j < rs.length
    · exact q
    · rw [List.getElem?_eq_none (by omega)] at hr; cases hr
  obtain ⟨f, hf⟩ : ∃ f, fol[j]? = some f := ⟨_, List.getElem?_eq_getElem (by rw [hfol.1]; exact hjl)⟩
  obtain ⟨r2, hr2, hfx⟩ := hfol.2 j _ hf
  rw [hr] at hr2
  cases hr2
  have hrg : ∀ x, SuccP r j rs.length x → 0 ≤ x ∧ x < (rs.length : Int) := by
    rintro x (⟨_, h1, rfl⟩ | ⟨_, _, _, h1, h2⟩)
    · omega
    · omega
  have h0 : Bfs rs fol k a i (ms ++ gs.filter (fun z => !(ms.any fun y => y == z))) := by
    refine ⟨by rw [List.length_append]; exact Nat.le_trans h.le (Nat.le_add_right _ _), List.mem_append_left _ h.start, fun t q => ?_, Bfs.two_grow h.two (Nat.le_trans (List.length_filter_le _ _) hgl) (fun x q => (filt_mem.mp q).2), fun t q hl => ?_, fun j' t hj e => ?_⟩
    · rcases List.mem_append.mp q with q | q
      · exact h.rng t q
      · exact hrg t ((hgs t).mp (filt_mem.mp q).1)
    · rcases List.mem_append.mp q with q | q
      · exact h.sound t q hl
      · have hs := (hgs t).mp (filt_mem.mp q).1
        have hr0 := hrg t hs
        have hl2 : Live rs fol k j := .step (j := t.toNat) hr hwr hf (by rw [Int.toNat_of_nonneg hr0.1]; exact (hfx t).mpr hs) hl
        exact h.sound (j : Int) (h.mem ht) (by rw [Int.toNat_natCast]; exact hl2)
    · have hlt : j' < ms.length := Nat.lt_of_lt_of_le hj h.le
      rw [List.getElem?_append_left hlt] at e
      obtain ⟨r3, q1, q2, q3⟩ := h.done j' t hj e
      exact ⟨r3, q1, q2, q3.imp id fun ⟨z1, z2⟩ => ⟨z1, fun x hx => List.mem_append_left _ (z2 x hx)⟩⟩
  have hlt : i < ms.length := by
    by_cases q : i < ms.length
    · exact q
    · rw [List.getElem?_eq_none (by omega)] at ht; cases ht
  refine h0.next (by rw [List.getElem?_append_left hlt]; exact ht) hr hrd (.inr ⟨hu, fun x hx => ?_⟩)
  by_cases q : x ∈ ms
  · exact List.mem_append_left _ q
  · exact List.mem_append_right _ (filt_mem.mpr ⟨(hgs x).mpr hx, q⟩)
noncomputable def LiveOut (rs : List Ins) (fol : List (List Int)) (k a : Nat) (news : List (Addr × Obj)) (r : Value) (nw : List (Addr × Obj)) : Prop := nw = news ∧ ∃ b : Bool, r = .bool b ∧ (b = true ↔ Live rs fol k a)
noncomputable def stor : List Str := [Str.ofString "spot", Str.ofString "asks", Str.ofString "sets_x", Str.ofString "goals", Str.ofString "lost"]
noncomputable def BfsJ (rs : List Ins) (fol : List (List Int)) (k a : Nat) (l C : Addr) (m₀ : Str → Option Value) (news : List (Addr × Obj)) (i : Nat) (m : Str → Option Value) (us : List Value) (nw : List (Addr × Obj)) : Prop :=
  ∃ (ms : List Int) (oc : Obj) (u : Str → Option Value), IntsAre us ms ∧ nw = (C, oc) :: news ∧ oc.data = .cell (some (.ref l)) ∧ Bfs rs fol k a i ms ∧ m = fun z => if stor.contains z = true then u z else m₀ z
theorem stor_form {m m₀ : Str → Option Value} (h : ∀ z, stor.contains z = false → m z = m₀ z) : m = fun z => if stor.contains z = true then m z else m₀ z := by
  funext z
  by_cases hz : stor.contains z = true
  · rw [if_pos hz]
  · rw [if_neg hz]
    exact h z (eq_false_of_ne_true hz)
end Mine
local macro_rules | `(tactic| walk_at "my mem") => `(tactic| first | with_reducible exact List.mem_cons_self | with_reducible assumption | ((with_reducible refine' List.mem_cons_of_mem _ ?_); walk_at "my mem"))
local macro_rules | `(tactic| walk_at "exec If") => `(tactic| (k_here; refine Mine.Halt.out ?_))
local macro_rules | `(tactic| walk_at "compareOp In int ref") => `(tactic| (k_here; refine in_list_ints (News.isList (by with_reducible assumption) (by walk_at "my mem")) (by with_reducible assumption) ?_))
local macro_rules | `(tactic| walk_at "compareOp NotIn int ref") => `(tactic| (k_here; refine notin_list_ints (News.isList (by with_reducible assumption) (by walk_at "my mem")) (by with_reducible assumption) ?_))
namespace Mine
section
variable {w : World} {mean : ExcName → Option Value} {mg mb : Str → Option Value} {news : List (Addr × Obj)}
theorem ll_spec (rs : List Ins) (fol : List (List Int)) (W Tb : Addr) (ws ts : List Value) (nW nT : Nat) (a k : Nat) (ta tk : Tok) (hW : (W, listOf ws.toArray nW) ∈ news) (hT : (Tb, listOf ts.toArray nT) ∈ news) (hws : WaysAt news rs ws) (hts : TabsAt news rs ts) (hfol : FolS rs fol) (hn : rs.length ≤ 8) (ha : a < rs.length) (hk : k < 18) :
    Ctr w mean mg mb 179 [.ref W, .ref Tb, .int (a : Int) ta, .int (k : Int) tk] news 10 400 (LiveOut rs fol k a news) := by
  intro dp un gd cn cs aa ccd cl outer A₀ base h₀ L m s Q E B F X N T hkk hdp hun hret
  refine wpAny_call ?_
  k_dflt (refine' code_defC (binds := [(Str.ofString "ways", .ref W), (Str.ofString "tables", .ref Tb), (Str.ofString "at", .int (a : Int) ta), (Str.ofString "reg", .int (k : Int) tk)]) ?k1 ?k2 ?k3 ?k4 ?k5 ?kA ?kF ?kK ?k6 ?k7 ?k8 ?k9 ?kB ?kD ?_ ?c2 ?c3 ?c4; (case kA => exact rfl); (case kF => exact rfl); (case kK => assumption); (case k1 => k_asm); (case k2 => k_asm); (case k3 => k_asm); (case k4 => k_asm); (case k5 => k_asm); (case k6 => k_is); (case k7 => k_is); (case k8 => ktr_room); (case k9 => exact BindsTo.of_eq (by with_unfolding_all rfl)); (case kB => exact rfl); (case kD => decide +kernel); (case c2 => exact rfl); (case c3 => exact rfl); (case c4 => exact rfl))
  intro g' L' h' tk' cells' FG' F' N' Y' B' X' T' l1
  (try k_lt l1)
  k_cells Y'
  (try simp only [List.cons_append, List.nil_append] at N')
  (try dsimp only)
  (try k_fold)
  have hoffC : ∀ p ∈ news, p.1 ≠ L' + 1 := fun p hp => Nat.ne_of_lt (Nat.lt_succ_of_lt (l1 p hp))
  k_steps
  rename (_ ∧ AllLt _ news) => hl1
  rename_i lm _ _ _
  refine' storeX_C ?F ?N ?c (.tail ?U (.head hoffC)) ?d ?_ ?a ?b
  case a => rfl
  case b => rfl
  case F => k_asm
  case N => k_asm
  case c => rfl
  case d => k_asm
  case U => exact Nat.ne_of_gt hl1.1
  intro h2 o2 F2 N2 hd2
  k_steps
  refine Halt.in_ ?_
  rename (Fr g' L' _ _) => F3
  rename (News _ _ _ _) => N3
  refine for_grow (h₀ := g') F3 (by rfl) (by rfl) (by rfl) ?_
  k_steps
  have hoffM : ∀ p ∈ (L' + 1, o2) :: news, p.1 ≠ lm := fun p hp => Nat.ne_of_lt (kst_ltOf (l := (L' + 1, o2) :: news) hl1 p hp)
  refine ⟨lm, [.int (a : Int) ta], 0, 16, (L' + 1, o2) :: news, _, BfsJ rs fol k a lm (L' + 1) _ news, rfl, F3, N3, ⟨[(a : Int)], o2, _, .cons _ _ .nil, rfl, hd2, Bfs.zero ha, stor_form (fun _ _ => rfl)⟩, ?_, ?_, ?_⟩
  · rintro i m1 us1 nw1 ⟨ms, oc, u, hi1, rfl, hdc, hB, rfl⟩
    rw [hi1.length]
    exact ⟨hB.le, hB.len hn⟩
  · rintro i v m1 us1 c1 nw1 h1 tk1 I oI hv ⟨ms, oc, u, hi1, rfl, hdc, hB, rfl⟩ F4 N4 hoI
    obtain ⟨t, tt, hms, rfl⟩ := ints_get hi1 (by simpa using hv)
    have htr := hB.rng t (hB.mem hms)
    obtain ⟨j, rfl⟩ : ∃ j : Nat, t = j := ⟨t.toNat, by omega⟩
    have hjt : j < ts.length := by rw [hts.1]; omega
    have hjw : j < ws.length := by rw [hws.1]; omega
    obtain ⟨r, T1, A1, S1, as, ss, hr, hv1, ⟨n1, hT1⟩, ⟨ua, ca, hA1, hia⟩, ⟨ub, cb, hS1, his⟩, hP⟩ := hts.2 j ts[j] (by simp [hjt])
    obtain ⟨r2, T2, G2, gs, hr2, hv2, ⟨n2, hT2⟩, ⟨ug, cg, hG, hig⟩, hgl, hgs⟩ := hws.2 j ws[j] (by simp [hjw])
    rw [hr] at hr2
    cases hr2
    have hx1 : ts[((j : Nat) : Int).toNat]? = some (.ref T1) := by simp [hjt, hv1]
    have hx2 : ws[((j : Nat) : Int).toNat]? = some (.ref T2) := by simp [hjw, hv2]
    have hjn : ((j : Nat) : Int) < ts.length := by omega
    have hjn2 : ((j : Nat) : Int) < ws.length := by omega
    have hj0 : 0 ≤ ((j : Nat) : Int) := Int.natCast_nonneg _
    clear hv1 hv2
    k_steps
    refine Halt.in_ (wpAny_If ?_)
    k_steps
    · dsimp only [GrowStep]
      k_steps
      rename (List.any _ _ = true) => hb
      refine hret _ _ _ _ (by k_asm) (news_sub (by assumption) (by ((intro p hp; repeat (first | exact hp | apply List.mem_cons_of_mem))))) ⟨rfl, true, rfl, fun _ => hB.sound _ (hB.mem hms) ?_, fun _ => rfl⟩
      rw [Int.toNat_natCast]
      exact .rd hr ((hP.2.2 k hk).1.mp (any_mem hb))
    · rename (List.any _ _ = false) => hb1
      have hrd := nmem_false (hP.2.2 k hk).1 (any_nmem hb1)
      refine Halt.in_ (wpAny_If ?_)
      k_steps
      · dsimp only [GrowStep]
        rename (List.any _ _ = true) => hb
        rename (Fr g' L' _ _) => F5
        rename (News _ _ _ _) => N5
        refine ⟨_, _, _, us1, c1, (L' + 1, oc) :: news, rfl, F5, N5, hoI, ms, oc, _, hi1, rfl, hdc, hB.next hms hr hrd (.inl ((hP.2.2 k hk).2.mp (any_mem hb))), (stor_form (fun z hz => by
          have e1 : ¬ z = Str.ofString "spot" := fun e => absurd hz (by rw [e]; decide)
          have e2 : ¬ z = Str.ofString "asks" := fun e => absurd hz (by rw [e]; decide)
          have e3 : ¬ z = Str.ofString "sets_x" := fun e => absurd hz (by rw [e]; decide)
          have e4 : ¬ z = Str.ofString "goals" := fun e => absurd hz (by rw [e]; decide)
          have e5 : ¬ z = Str.ofString "lost" := fun e => absurd hz (by rw [e]; decide)
          simp only [if_neg e1, if_neg e2, if_neg e3, if_neg e4, if_neg e5, hz, Bool.false_eq_true, if_false]))⟩
      · rename (List.any _ _ = false) => hb2
        have hwr := nmem_false (hP.2.2 k hk).2 (any_nmem hb2)
        refine Halt.in_ (wpAny_If ?_)
        k_steps
        · dsimp only [GrowStep]
          k_steps
          rename (unk _ _ _ = true) => hu
          refine hret _ _ _ _ (by k_asm) (news_sub (by assumption) (by ((intro p hp; repeat (first | exact hp | apply List.mem_cons_of_mem))))) ⟨rfl, true, rfl, fun _ => hB.sound _ (hB.mem hms) ?_, fun _ => rfl⟩
          rw [Int.toNat_natCast]
          exact .lost hr hwr hu
        · rename (unk _ _ _ = false) => hu
          have hl16 := hB.len hn
          have hl16' := hi1.length
          refine Halt.in_ ?_
          rename (Fr g' L' _ _) => F6
          rename (News _ _ _ _) => N6
          k_dflt (refine LCt.ListComp_T (F₀ := F6) (by with_unfolding_all rfl) (by decide) (by rfl) (by decide) (by rfl) ?_)
          k_steps
          refine Halt.in_ ?_
          refine LCt.CompSrcT.ledger (k := cg) (its := ug.toArray) (by rfl) F6 N6 (.tail _ (.tail _ (.tail _ hG))) (by rw [List.size_toArray, sizeLine_eq, hig.length]; omega) ?_
          intro g3
          refine restT_ind (FiltJ _ gs fun z => !(ms.any fun y => y == z)) ⟨rfl, by simpa using IntsAre.nil⟩ ?_ ?_
          · intro q ys nw v I2 oI2 C oC D m₂ h tk E' hj hJ hv hC hxx FC NC off ne
            obtain ⟨zv, tz, hz1, rfl⟩ := ints_get hig hv
            obtain ⟨rfl, hJ⟩ := hJ
            k_steps
            all_goals (refine Halt.in_ ?_)
            · rename (List.any _ _ = true) => hb3
              refine ⟨_, _, _, rfl, by assumption, by assumption, off, .inr ⟨_, .tail _ (.tail _ (.tail _ hG)), rfl, _, rfl⟩, rfl, ?_⟩
              rw [filt_step hz1, if_neg (by rw [hb3]; decide)]
              exact hJ
            · rename (List.any _ _ = false) => hb3
              refine ⟨_, _, _, rfl, by assumption, by assumption, off, .inr ⟨_, .tail _ (.tail _ (.tail _ hG)), rfl, _, rfl⟩, rfl, ?_⟩
              rw [filt_step hz1, if_pos (by rw [hb3]; rfl)]
              exact ints_snoc hJ
          · intro ys nw hJ
            obtain ⟨rfl, hJ⟩ := hJ
            intro D h tk F8 N8 off8
            rw [List.take_of_length_le (by rw [List.size_toArray, hig.length]; exact Nat.le_refl _)] at hJ
            have hyl : ys.length ≤ 2 := by
              have q1 := hJ.length
              have q2 := List.length_filter_le (fun z => !(ms.any fun y => y == z)) gs
              omega
            have hcM : ∀ p ∈ (L' + 1, oc) :: news, p.1 ≠ lm := by
              intro p hp
              rcases List.mem_cons.mp hp with rfl | hp
              · exact Nat.ne_of_lt hl1.1
              · exact hoffM p (.tail _ hp)
            have hDl : lm ≠ D := off1_mem off8 (lm, listOf us1.toArray c1) (.tail _ (.head _))
            have hDC : L' + 1 ≠ D := off1_mem off8 (L' + 1, oc) (.tail _ (.tail _ (.head _)))
            have hIl : lm ≠ I := hoI (lm, listOf us1.toArray c1) (.head _)
            have hIC : L' + 1 ≠ I := hoI (L' + 1, oc) (.tail _ (.head _))
            have haM : ∀ p ∈ [(D, LCg.lst ys), (I, oI)], p.1 ≠ lm := by
              intro p hp
              rcases List.mem_cons.mp hp with rfl | hp
              · exact Ne.symm hDl
              · rw [List.mem_singleton.mp hp]
                exact Ne.symm hIl
            k_steps
            refine iadd_in (pre := [(D, LCg.lst ys), (I, oI)]) (post := (L' + 1, oc) :: news) F8 N8 haM hcM (.head _) (by omega) ?_
            intro h9 n9 F9 N9
            k_steps
            refine' storeX_C ?qF ?qN ?qc (.tail ?q1 (.tail ?q2 (.tail ?q3 (.head hoffC)))) ?qd ?_ ?qa ?qb
            case qa => rfl
            case qb => rfl
            case qF => exact F9
            case qN => exact N9
            case qc => rfl
            case qd => exact hdc
            case q1 => exact Ne.symm hDC
            case q2 => exact Ne.symm hIC
            case q3 => exact Nat.ne_of_gt hl1.1
            intro h10 o10 F10 N10 hd10
            k_steps
            dsimp only [GrowStep]
            refine ⟨_, _, _, us1 ++ ys, n9, (L' + 1, o10) :: news, rfl, F10, fun p hp => N10 p (.tail _ hp), ?_, ms ++ gs.filter (fun z => !(ms.any fun y => y == z)), o10, _, hi1.append hJ, rfl, hd10, hB.grow hfol hms hr hrd hwr hu hgl hgs, (stor_form (fun z hz => by
          have e1 : ¬ z = Str.ofString "spot" := fun e => absurd hz (by rw [e]; decide)
          have e2 : ¬ z = Str.ofString "asks" := fun e => absurd hz (by rw [e]; decide)
          have e3 : ¬ z = Str.ofString "sets_x" := fun e => absurd hz (by rw [e]; decide)
          have e4 : ¬ z = Str.ofString "goals" := fun e => absurd hz (by rw [e]; decide)
          have e5 : ¬ z = Str.ofString "lost" := fun e => absurd hz (by rw [e]; decide)
          simp only [if_neg e1, if_neg e2, if_neg e3, if_neg e4, if_neg e5, hz, Bool.false_eq_true, if_false]))⟩
            intro p hp
            rcases List.mem_cons.mp hp with rfl | hp
            · exact hIl
            · rcases List.mem_cons.mp hp with rfl | hp
              · exact hIC
              · exact hoI p (.tail _ (.tail _ hp))
  · rintro i m1 us1 c1 nw1 h1 tk1 hie ⟨ms, oc, u, hi1, rfl, hdc, hB, rfl⟩ F4 N4
    k_steps
    refine hret _ _ _ _ (by k_asm) (news_sub (by assumption) (by ((intro p hp; repeat (first | exact hp | apply List.mem_cons_of_mem))))) ⟨rfl, false, rfl, fun h => (by cases h), fun h => ?_⟩
    rw [hie, hi1.length] at hB
    exact absurd h (hB.dead hfol)
end
end Mine
end
theorem Mine.off_B1 : True := by
  w_top off
  trivial
namespace Mine
end Mine
local macro_rules | `(tactic| walk_at "call ref") => `(tactic| (k_here; (with_reducible show wpAny _ _ (call (Value.ref 119) _) _ _ _); k_dflt (refine' Mine.Ctr.use ?B ?F ?X ?N ?T ?K (Mine.lu_spec _ _ _ _ _ _ _ ?R ?x ?a ?b ?c ?r ?o) ?d ?u ?_; (case B => k_asm); (case F => k_asm); (case X => k_asm); (case N => k_asm); (case T => k_asm); (case K => first | exact rfl | assumption); (case d => ktr_room); (case u => ktr_units); (case R => k_mem); (case x => k_asm); (case a => omega); (case b => omega); (case c => omega); (case r => walk_at "my row"); (case o => k_asm)); ((intro r' news' h' tk' F' N' hp'; k_dflt (obtain ⟨he', t', hr'⟩ := hp'); replace he' := Eq.symm he'; subst he'; (try simp only [Mine.setsF_br, Mine.falls_op] at hr'); subst hr'; (try dsimp only); (try k_fold)))))
local macro_rules | `(tactic| walk_at "call builtin:list.append") => `(tactic| (k_here; refine Mine.Halt.out ?_))
local macro_rules | `(tactic| walk_at "call builtin:list.pop") => `(tactic| (k_here; refine Mine.Halt.out ?_))
local macro_rules | `(tactic| walk_at "setItem ref int") => `(tactic| (k_here; refine Mine.Halt.out ?_))
local macro_rules | `(tactic| walk_at "exec Assign") => `(tactic| (k_here; (with_reducible show wpAny _ _ (exec (PySem.Stmt.Assign [_] (PySem.Expr.IfExp _ _ _ _) _) _) _ _ _); (fail_if_success (with_reducible show wpAny _ _ _ (Mine.MidI _ _ _ _ _ _ _) _ _)); refine Mine.Halt.out ?_))
local macro_rules | `(tactic| walk_at "KCj") => `(tactic| (kpf_tidy; first | ((refine' kcj_end (t := (0 : Nat)) ?kce (by with_unfolding_all rfl) rfl (by assumption) (by assumption) ?kin); (case kin => kcj_in); (case kce => kpf_eq)) | ((refine' kcj_end ?kce (by with_unfolding_all rfl) rfl (by assumption) (by assumption) ?kin); (case kin => kcj_in); (case kce => kpf_eq))))
local macro_rules | `(tactic| walk_at "MidI") => `(tactic| (refine Mine.Halt.out ?_))
local macro_rules | `(tactic| walk_at "InvEndN") => `(tactic| (refine Mine.Halt.out ?_))
local macro_rules | `(tactic| walk_at "KswEnd") => `(tactic| (refine Mine.Halt.out ?_))
namespace Mine
section
variable {w : World} {mean : ExcName → Option Value} {mg mb : Str → Option Value} {news : List (Addr × Obj)}
/-- the rows as they lie in the ledger -/
structure RowsAt (news : List (Addr × Obj)) (R : Addr) (nR : Nat) (refs : List Value) (rs : List Ins) : Prop where
  list : (R, listOf refs.toArray nR) ∈ news
  len : refs.length = rs.length
  le8 : rs.length ≤ 8
  at_ : ∀ (i : Nat) r, rs[i]? = some r → ∃ ra, refs[i]? = some (.ref ra) ∧ InsAt news ra r ∧ r.ok

noncomputable def FolJ (rs : List Ins) (nn : Int) (news0 : List (Addr × Obj)) (i : Nat) (ys : List Value) (nw : List (Addr × Obj)) : Prop :=
  ∃ (fol : List (List Int)) (tl : List (Addr × Obj)), nw = tl ++ news0 ∧ Above tl news0 ∧ fol.length = i ∧ ListsAt tl ys fol ∧ ∀ (j : Nat) (ns : List Int), fol[j]? = some ns → ∃ r, rs[j]? = some r ∧ ns.length ≤ 2 ∧ ∀ x, x ∈ ns ↔ SuccP r j nn x
theorem FolJ.zero {rs : List Ins} {nn : Int} {news0 : List (Addr × Obj)} : FolJ rs nn news0 0 [] news0 := ⟨[], [], rfl, Above.nil, rfl, ⟨rfl, fun _ _ h => by simp at h⟩, fun _ _ h => by simp at h⟩
theorem FolJ.step {rs : List Ins} {nn : Int} {news0 : List (Addr × Obj)} {i : Nat} {ys : List Value} {nw : List (Addr × Obj)} (h : FolJ rs nn news0 i ys nw) (hi : i < rs.length) :
    (∀ p ∈ news0, p ∈ nw) ∧ ∃ r, rs[i]? = some r ∧ ∀ (l : Addr) us c ns, (∀ p ∈ nw, p.1 < l) → IntsAre us ns → ns.length ≤ 2 → (∀ x, x ∈ ns ↔ SuccP r i nn x) → FolJ rs nn news0 (i + 1) (ys ++ [.ref l]) ((l, listOf us.toArray c) :: nw) := by
  obtain ⟨fol, tl, rfl, ha, hl, hL, hP⟩ := h
  refine ⟨fun p hp => List.mem_append_right _ hp, rs[i], by simp [hi], ?_⟩
  intro l us c ns hlt hi' h2 hx
  refine ⟨fol ++ [ns], (l, listOf us.toArray c) :: tl, rfl, ha.cons fun q hq => hlt q (List.mem_append_right _ hq), by simp [hl], hL.snoc hi', ?_⟩
  intro j ks e
  by_cases hj : j < fol.length
  · rw [List.getElem?_append_left hj] at e
    exact hP j ks e
  · have hj' : j = fol.length := by
      by_cases h2 : j = fol.length
      · exact h2
      · rw [List.getElem?_eq_none (by rw [List.length_append, List.length_singleton]; omega)] at e
        cases e
    subst hj'
    simp at e
    subst e
    subst hl
    exact ⟨rs[fol.length], by simp [hi], h2, hx⟩
theorem comp_end_new {h₀ : Heap} {L I C D l : Addr} {m : Str → Option Value} {s₁ : Shared} {oI oC oD o : Obj} {rest : Value → List (Addr × Obj) → Prop} {y : Value} {h' : Heap} {tk : Nat} {nw : List (Addr × Obj)}
    (F : Fr h₀ L h' m) (N : News h₀ L h' ((l, o) :: (I, oI) :: (C, oC) :: (D, oD) :: nw)) (hlt : ∀ p ∈ (I, oI) :: (C, oC) :: (D, oD) :: nw, p.1 < l) (off : LCg.Off3 I C D nw) (r : rest y ((l, o) :: nw)) :
    LCg.CompEnd h₀ L m s₁ I oI C oC D oD (fun _ => True) rest y { s₁ with heap := h', toks := tk } := by
  refine LCg.CompEnd.intro F N ((l, o) :: nw) ?_ ⟨⟨?_, ?_, ?_⟩, off⟩ trivial r
  · intro p hp
    simp only [List.mem_cons] at hp ⊢
    rcases hp with h | h | h | h | h <;> simp [h]
  · exact Nat.ne_of_gt (hlt (I, oI) (.head _))
  · exact Nat.ne_of_gt (hlt (C, oC) (.tail _ (.head _)))
  · exact Nat.ne_of_gt (hlt (D, oD) (.tail _ (.tail _ (.head _))))
noncomputable def EarJ (news1 : List (Addr × Obj)) (i : Nat) (ys : List Value) (nw : List (Addr × Obj)) : Prop :=
  ∃ es : List Addr, ys = es.map Value.ref ∧ es.length = i ∧ es.Nodup ∧ (∀ e ∈ es, ∀ q ∈ news1, q.1 ≠ e) ∧ (∀ e ∈ es, (e, listOf #[] 0) ∈ nw) ∧ ∀ p ∈ news1, p ∈ nw
theorem EarJ.zero {news1 : List (Addr × Obj)} : EarJ news1 0 [] news1 := ⟨[], rfl, rfl, List.nodup_nil, by simp, by simp, fun _ h => h⟩
theorem EarJ.step {news1 : List (Addr × Obj)} {i : Nat} {ys : List Value} {nw : List (Addr × Obj)} {l : Addr} (h : EarJ news1 i ys nw) (hlt : ∀ p ∈ nw, p.1 < l) : EarJ news1 (i + 1) (ys ++ [.ref l]) ((l, listOf #[] 0) :: nw) := by
  obtain ⟨es, rfl, hl, hn, ho, hm, hs⟩ := h
  refine ⟨es ++ [l], by simp, by simp [hl], ?_, ?_, ?_, fun p hp => .tail _ (hs p hp)⟩
  · rw [List.nodup_append]
    refine ⟨hn, by simp, ?_⟩
    intro a ha b hb
    rw [List.mem_singleton.mp hb]
    exact Nat.ne_of_lt (hlt _ (hm a ha))
  · intro e he q hq
    rcases List.mem_append.mp he with he | he
    · exact ho e he q hq
    · rw [List.mem_singleton.mp he]
      exact Nat.ne_of_lt (hlt q (hs q hq))
  · intro e he
    rcases List.mem_append.mp he with he | he
    · exact .tail _ (hm e he)
    · rw [List.mem_singleton.mp he]
      exact .head _
noncomputable def earLed (es : List Addr) (c : List (List Value × Nat)) : List (Addr × Obj) := List.zipWith (fun e (u : List Value × Nat) => (e, listOf u.1.toArray u.2)) es c
theorem ear_sub {D : Addr} {o : Obj} {nw base : List (Addr × Obj)} {es : List Addr} (hem : ∀ e ∈ es, (e, listOf #[] 0) ∈ nw) (hes : ∀ p ∈ base, p ∈ nw) :
    ∀ p ∈ earLed es (List.replicate es.length ([], 0)) ++ ((D, o) :: base), p ∈ (D, o) :: nw := by
  intro p hp
  rcases List.mem_append.mp hp with hp | hp
  · refine .tail _ ?_
    unfold earLed at hp
    have key : ∀ (l : List Addr), (∀ e ∈ l, (e, listOf #[] 0) ∈ nw) → p ∈ List.zipWith (fun e (u : List Value × Nat) => (e, listOf u.1.toArray u.2)) l (List.replicate l.length ([], 0)) → p ∈ nw := by
      intro l
      induction l with
      | nil => intro _ h; simp at h
      | cons e l ih =>
        intro hl h
        simp only [List.length_cons, List.replicate_succ, List.zipWith_cons_cons, List.mem_cons] at h
        rcases h with rfl | h
        · exact hl e (.head _)
        · exact ih (fun x hx => hl x (.tail _ hx)) h
    exact key es hem hp
  · rcases List.mem_cons.mp hp with rfl | hp
    · exact .head _
    · exact .tail _ (hes p hp)
theorem ear_in {p : Addr × Obj} : ∀ {es : List Addr} {c : List (List Value × Nat)}, p ∈ earLed es c → p.1 ∈ es
  | [], _, h => by simp [earLed] at h
  | _ :: _, [], h => by simp [earLed] at h
  | e :: es, u :: c, h => by
    have h' : p ∈ (e, listOf u.1.toArray u.2) :: earLed es c := h
    rcases List.mem_cons.mp h' with rfl | h
    · exact .head _
    · exact .tail _ (ear_in h)
theorem upd_ear {e : Addr} {us : List Value} {k : Nat} {x : Value} {tl : List (Addr × Obj)} : ∀ {es : List Addr} {c : List (List Value × Nat)} {j : Nat}, es.Nodup → (∀ q ∈ tl, q.1 ≠ e) → es[j]? = some e → c[j]? = some (us, k) →
    Upd e (listOf us.toArray k) (listOf (us.toArray.push x) (k + 1)) (earLed es c ++ tl) (earLed es (c.set j (us ++ [x], k + 1)) ++ tl)
  | [], _, _, _, _, h, _ => by simp at h
  | _ :: _, [], _, _, _, _, h => by simp at h
  | e0 :: es, u0 :: c, 0, hn, ht, h1, h2 => by
    simp only [List.getElem?_cons_zero, Option.some.injEq] at h1 h2
    subst h1
    subst h2
    rw [List.push_toArray]
    show Upd _ _ _ ((e0, _) :: (earLed es c ++ tl)) ((e0, _) :: (earLed es c ++ tl))
    refine Upd.head ?_
    intro p hp
    rcases List.mem_append.mp hp with hp | hp
    · have := ear_in hp
      exact fun h => (List.nodup_cons.mp hn).1 (h ▸ this)
    · exact ht p hp
  | e0 :: es, u0 :: c, j + 1, hn, ht, h1, h2 => by
    simp only [List.getElem?_cons_succ] at h1 h2
    show Upd _ _ _ ((e0, _) :: (earLed es c ++ tl)) ((e0, _) :: (earLed es (c.set j _) ++ tl))
    refine Upd.tail ?_ (upd_ear (List.nodup_cons.mp hn).2 ht h1 h2)
    exact fun h => (List.nodup_cons.mp hn).1 (by rw [show e0 = e from h]; exact List.mem_of_getElem? h1)
theorem ear_mem {e : Addr} {us : List Value} {k : Nat} : ∀ {es : List Addr} {c : List (List Value × Nat)} {j : Nat}, es[j]? = some e → c[j]? = some (us, k) → (e, listOf us.toArray k) ∈ earLed es c
  | [], _, _, h, _ => by simp at h
  | _ :: _, [], _, _, h => by simp at h
  | _ :: _, _ :: _, 0, h1, h2 => by
    simp only [List.getElem?_cons_zero, Option.some.injEq] at h1 h2
    subst h1
    subst h2
    exact .head _
  | _ :: es, _ :: c, j + 1, h1, h2 => by
    simp only [List.getElem?_cons_succ] at h1 h2
    exact .tail _ (ear_mem (es := es) (c := c) h1 h2)
theorem ear_addr : ∀ {es : List Addr} {c : List (List Value × Nat)}, c.length = es.length → (earLed es c).map (·.1) = es
  | [], [], _ => rfl
  | e :: es, u :: c, h => by
    show e :: (earLed es c).map (·.1) = e :: es
    rw [ear_addr (by simpa using h)]
  | [], _ :: _, h => by simp at h
  | _ :: _, [], h => by simp at h
noncomputable def EarP (fol : List (List Int)) (n i : Nat) (c : List (List Value × Nat)) : Prop :=
  c.length = n ∧ ∀ (j : Nat) us k, c[j]? = some (us, k) → ∃ ns, IntsAre us ns ∧ us.length ≤ 2 * i ∧ ∀ x : Int, x ∈ ns ↔ ∃ (y : Nat) (fx : List Int), x = y ∧ y < i ∧ fol[y]? = some fx ∧ (j : Int) ∈ fx
noncomputable def EarQ (fol : List (List Int)) (n i : Nat) (pre : List Int) (c : List (List Value × Nat)) : Prop :=
  c.length = n ∧ ∀ (j : Nat) us k, c[j]? = some (us, k) → ∃ ns, IntsAre us ns ∧ us.length ≤ 2 * i + pre.length ∧ ∀ x : Int, x ∈ ns ↔ ((∃ (y : Nat) (fx : List Int), x = y ∧ y < i ∧ fol[y]? = some fx ∧ (j : Int) ∈ fx) ∨ (x = i ∧ (j : Int) ∈ pre))
theorem EarP.zero {fol : List (List Int)} {n : Nat} : EarP fol n ([] : List Int).length (List.replicate n ([], 0)) := by
  refine ⟨by simp, fun j us k h => ?_⟩
  have := List.mem_of_getElem? h
  rw [List.mem_replicate] at this
  obtain ⟨_, e⟩ := this
  cases e
  exact ⟨[], .nil, by simp, by simp⟩
theorem EarP.toQ {fol : List (List Int)} {n i : Nat} {c : List (List Value × Nat)} (h : EarP fol n i c) : EarQ fol n i [] c :=
  ⟨h.1, fun j us k e => let ⟨ns, a, b, d⟩ := h.2 j us k e; ⟨ns, a, by simpa using b, fun x => by rw [d x]; simp⟩⟩
theorem EarQ.toP {fol : List (List Int)} {n i : Nat} {c : List (List Value × Nat)} {nsi : List Int} (h : EarQ fol n i nsi c) (hf : fol[i]? = some nsi) (h2 : nsi.length ≤ 2) : EarP fol n (i + 1) c := by
  refine ⟨h.1, fun j us k e => ?_⟩
  obtain ⟨ns, a, b, d⟩ := h.2 j us k e
  refine ⟨ns, a, by omega, fun x => ?_⟩
  rw [d x]
  constructor
  · rintro (⟨y, fx, rfl, hy, hfx, hj⟩ | ⟨rfl, hj⟩)
    · exact ⟨y, fx, rfl, by omega, hfx, hj⟩
    · exact ⟨i, nsi, rfl, by omega, hf, hj⟩
  · rintro ⟨y, fx, rfl, hy, hfx, hj⟩
    by_cases hyi : y < i
    · exact .inl ⟨y, fx, rfl, hyi, hfx, hj⟩
    · have : y = i := by omega
      subst this
      rw [hf] at hfx
      cases hfx
      exact .inr ⟨rfl, hj⟩
theorem EarQ.step {fol : List (List Int)} {n i : Nat} {pre : List Int} {c : List (List Value × Nat)} {t : Nat} {us : List Value} {k : Nat} {tk : Tok} (h : EarQ fol n i pre c) (hc : c[t]? = some (us, k)) :
    EarQ fol n i (pre ++ [(t : Int)]) (c.set t (us ++ [.int i tk], k + 1)) := by
  refine ⟨by simp [h.1], fun j us' k' e => ?_⟩
  by_cases hj : j = t
  · subst hj
    have hlt : j < c.length := by
      by_cases hh : j < c.length
      · exact hh
      · rw [List.getElem?_eq_none (by omega)] at hc; cases hc
    rw [List.getElem?_set_self hlt] at e
    cases e
    obtain ⟨ns, a, b, d⟩ := h.2 j us k hc
    refine ⟨ns ++ [(i : Int)], IntsAre.append a (.cons _ _ .nil), by simp; omega, fun x => ?_⟩
    simp only [List.mem_append, List.mem_singleton]
    rw [d x]
    constructor
    · rintro ((h1 | ⟨h1, h2⟩) | h1)
      · exact .inl h1
      · exact .inr ⟨h1, .inl h2⟩
      · exact .inr ⟨h1, .inr trivial⟩
    · rintro (h1 | ⟨h1, h2⟩)
      · exact .inl (.inl h1)
      · exact .inr h1
  · rw [List.getElem?_set_ne (Ne.symm hj)] at e
    obtain ⟨ns, a, b, d⟩ := h.2 j us' k' e
    refine ⟨ns, a, by simp; omega, fun x => ?_⟩
    simp only [List.mem_append, List.mem_singleton]
    rw [d x]
    constructor
    · rintro (h1 | ⟨h1, h2⟩)
      · exact .inl h1
      · exact .inr ⟨h1, .inl h2⟩
    · rintro (h1 | ⟨h1, h2 | h2⟩)
      · exact .inl h1
      · exact .inr ⟨h1, h2⟩
      · exact absurd (Int.ofNat.inj h2) hj
theorem SuccP.range {r : Ins} {i n x : Int} (h : SuccP r i n x) (h0 : 0 ≤ i) : 0 ≤ x ∧ x < n := by
  rcases h with ⟨_, h1, h2⟩ | ⟨_, _, _, h1, h2⟩ <;> omega
theorem mem_adr {e : Addr} {es : List Addr} {c : List (List Value × Nat)} {tl : List (Addr × Obj)} (h : e ∈ es) (hc : c.length = es.length) : e ∈ (earLed es c ++ tl).map (·.1) := by
  rw [List.map_append, ear_addr hc]
  exact List.mem_append_left _ h
theorem led_in {A r o1 o2 : List (Addr × Obj)} {a b c : Addr × Obj} : ∀ p ∈ A ++ a :: b :: c :: (r ++ o1), p ∈ A ++ a :: b :: c :: (r ++ (o1 ++ o2)) := by
  intro p hp
  simp only [List.mem_append, List.mem_cons] at hp ⊢
  rcases hp with h | h | h | h | h | h
  · exact .inl h
  · exact .inr (.inl h)
  · exact .inr (.inr (.inl h))
  · exact .inr (.inr (.inr (.inl h)))
  · exact .inr (.inr (.inr (.inr (.inl h))))
  · exact .inr (.inr (.inr (.inr (.inr (.inl h)))))
theorem led_own {A r o1 o2 : List (Addr × Obj)} {a b c : Addr × Obj} : ∀ p ∈ o2, p ∈ A ++ a :: b :: c :: (r ++ (o1 ++ o2)) := fun p hp => List.mem_append_right _ (.tail _ (.tail _ (.tail _ (List.mem_append_right _ (List.mem_append_right _ hp)))))
theorem led_in1 {A r o1 : List (Addr × Obj)} {a b c : Addr × Obj} : ∀ p ∈ A ++ a :: b :: c :: r, p ∈ A ++ a :: b :: c :: (r ++ o1) := by
  intro p hp
  simp only [List.mem_append, List.mem_cons] at hp ⊢
  rcases hp with h | h | h | h | h
  · exact .inl h
  · exact .inr (.inl h)
  · exact .inr (.inr (.inl h))
  · exact .inr (.inr (.inr (.inl h)))
  · exact .inr (.inr (.inr (.inr (.inl h))))
theorem led_own1 {A r o1 : List (Addr × Obj)} {a b c : Addr × Obj} : ∀ p ∈ o1, p ∈ A ++ a :: b :: c :: (r ++ o1) := fun p hp => List.mem_append_right _ (.tail _ (.tail _ (.tail _ (List.mem_append_right _ hp))))
theorem adr_eq {es : List Addr} {c c' : List (List Value × Nat)} {tl : List (Addr × Obj)} (h : c.length = es.length) (h' : c'.length = es.length) : (earLed es c ++ tl).map (·.1) = (earLed es c' ++ tl).map (·.1) := by
  rw [List.map_append, List.map_append, ear_addr h, ear_addr h']
theorem ledA {h₀ h : Heap} {L : Addr} {d a b c : Addr × Obj} {tl r : List (Addr × Obj)} (N : News h₀ L h (d :: (tl ++ a :: b :: c :: r))) : News h₀ L h (a :: b :: d :: (tl ++ c :: r)) := fun p hp => N p (by
  simp only [List.mem_cons, List.mem_append] at hp ⊢
  rcases hp with h | h | h | h | h | h <;> simp [h])
theorem memA {d c : Addr × Obj} {tl r : List (Addr × Obj)} {p : Addr × Obj} (h : p ∈ r) : p ∈ d :: (tl ++ c :: r) := .tail _ (List.mem_append_right _ (.tail _ h))
theorem offA {a b c d : Addr × Obj} {tl r : List (Addr × Obj)} (hca : c.1 < a.1) (hcb : c.1 < b.1) (hra : ∀ p ∈ r, p.1 < a.1) (hrb : ∀ p ∈ r, p.1 < b.1) (ha : Above tl (a :: b :: c :: r)) (off : LCg.Off1 d.1 (tl ++ a :: b :: c :: r)) :
    ∀ p ∈ d :: (tl ++ c :: r), p.1 ≠ a.1 ∧ p.1 ≠ b.1 := by
  have hoff : ∀ (l : List (Addr × Obj)), LCg.Off1 d.1 l → ∀ p ∈ l, p.1 ≠ d.1 := by
    intro l
    induction l with
    | nil => intro _ p hp; cases hp
    | cons q l ih =>
      intro ho p hp
      rcases List.mem_cons.mp hp with rfl | hp
      · exact ho.1
      · exact ih ho.2 p hp
  have hd := hoff _ off
  intro p hp
  rcases List.mem_cons.mp hp with rfl | hp
  · exact ⟨fun e => hd a (by simp) e.symm, fun e => hd b (by simp) e.symm⟩
  · rcases List.mem_append.mp hp with hp | hp
    · exact ⟨Nat.ne_of_gt (ha p hp a (by simp)), Nat.ne_of_gt (ha p hp b (by simp))⟩
    · rcases List.mem_cons.mp hp with rfl | hp
      · exact ⟨Nat.ne_of_lt hca, Nat.ne_of_lt hcb⟩
      · exact ⟨Nat.ne_of_lt (hra p hp), Nat.ne_of_lt (hrb p hp)⟩
theorem drop13 {h₀ h : Heap} {L : Addr} {a b c d : Addr × Obj} {r : List (Addr × Obj)} (N : News h₀ L h (a :: b :: c :: d :: r)) : News h₀ L h (a :: c :: r) := fun p hp => N p (by
  rcases List.mem_cons.mp hp with rfl | hp
  · exact .head _
  · rcases List.mem_cons.mp hp with rfl | hp
    · exact .tail _ (.tail _ (.head _))
    · exact .tail _ (.tail _ (.tail _ (.tail _ hp))))
theorem set_in {prog : Program} {w : World} {A : Around} {E : Value → Shared → Prop} {s : Shared} {h₀ : Heap} {L D : Addr} {m : Str → Option Value} {news news' : List (Addr × Obj)} {vs : List Value} {n : Nat} {k : Int} {t : Tok} {v : Value} {Q : Unit → Shared → Prop}
    (F : Fr h₀ L s.heap m) (N : News h₀ L s.heap news) (U : Upd D (listOf vs.toArray n) (listOf (vs.set k.toNat v).toArray n) news news') (h0 : 0 ≤ k) (h1 : k < vs.length) (hfit : k < 2 ^ 63)
    (h : ∀ h', Fr h₀ L h' m → News h₀ L h' news' → Q () { s with heap := h' }) : wpAny (model prog w) A (setItem (.ref D) (.int k t) v) Q E s := by
  obtain ⟨pre, post, rfl, rfl, a, b⟩ := U.split
  have z := N (D, listOf vs.toArray n) (List.mem_append.mpr (.inr (.head _)))
  refine ki_setAt z.1 h0 hfit (by simpa using h1) (h _ (F.change (Heap.SameBut.update ..) z.2.1 z.2.2) (ki_turn _ N a b ?_ ?_))
  · show vs.toArray.setIfInBounds k.toNat v = (vs.set k.toNat v).toArray
    apply Array.toList_inj.mp
    simp
  · simp
structure Ap4 (a b c d : Addr) (r : List (Addr × Obj)) : Prop where
  ab : a ≠ b
  ac : a ≠ c
  ad : a ≠ d
  bc : b ≠ c
  bd : b ≠ d
  cd : c ≠ d
  r : ∀ p ∈ r, p.1 ≠ a ∧ p.1 ≠ b ∧ p.1 ≠ c ∧ p.1 ≠ d
section
variable {a b c d : Addr} {r own : List (Addr × Obj)} {o o' x y z : Obj}
theorem Ap4.u1 (H : Ap4 a b c d r) : Upd a o o' ((a, o) :: (b, x) :: (c, y) :: (d, z) :: r) ((a, o') :: (b, x) :: (c, y) :: (d, z) :: r) := .head fun p hp => by
  rcases List.mem_cons.mp hp with rfl | hp
  · exact H.ab.symm
  · rcases List.mem_cons.mp hp with rfl | hp
    · exact H.ac.symm
    · rcases List.mem_cons.mp hp with rfl | hp
      · exact H.ad.symm
      · exact (H.r p hp).1
theorem Ap4.u2 (H : Ap4 a b c d r) : Upd b o o' ((a, x) :: (b, o) :: (c, y) :: (d, z) :: r) ((a, x) :: (b, o') :: (c, y) :: (d, z) :: r) := .tail H.ab (.head fun p hp => by
  rcases List.mem_cons.mp hp with rfl | hp
  · exact H.bc.symm
  · rcases List.mem_cons.mp hp with rfl | hp
    · exact H.bd.symm
    · exact (H.r p hp).2.1)
theorem Ap4.u3 (H : Ap4 a b c d r) : Upd c o o' ((a, x) :: (b, y) :: (c, o) :: (d, z) :: r) ((a, x) :: (b, y) :: (c, o') :: (d, z) :: r) := .tail H.ac (.tail H.bc (.head fun p hp => by
  rcases List.mem_cons.mp hp with rfl | hp
  · exact H.cd.symm
  · exact (H.r p hp).2.2.1))
theorem Ap4.u4 (H : Ap4 a b c d r) : Upd d o o' ((a, x) :: (b, y) :: (c, z) :: (d, o) :: r) ((a, x) :: (b, y) :: (c, z) :: (d, o') :: r) := .tail H.ad (.tail H.bd (.tail H.cd (.head fun p hp => (H.r p hp).2.2.2)))
theorem Ap4.ext (H : Ap4 a b c d r) (ho : ∀ p ∈ own, ∀ e ∈ [a, b, c, d], p.1 ≠ e) : Ap4 a b c d (r ++ own) := ⟨H.ab, H.ac, H.ad, H.bc, H.bd, H.cd, fun p hp => by
  rcases List.mem_append.mp hp with hp | hp
  · exact H.r p hp
  · exact ⟨ho p hp a (by simp), ho p hp b (by simp), ho p hp c (by simp), ho p hp d (by simp)⟩⟩
end
theorem l4in {a b c d : Addr × Obj} {r o : List (Addr × Obj)} : ∀ p ∈ a :: b :: c :: d :: r, p ∈ a :: b :: c :: d :: (r ++ o) := by
  intro p hp
  simp only [List.mem_cons, List.mem_append] at hp ⊢
  rcases hp with e | e | e | e | e
  · exact .inl e
  · exact .inr (.inl e)
  · exact .inr (.inr (.inl e))
  · exact .inr (.inr (.inr (.inl e)))
  · exact .inr (.inr (.inr (.inr (.inl e))))
theorem l4own {a b c d : Addr × Obj} {r o : List (Addr × Obj)} : ∀ p ∈ o, p ∈ a :: b :: c :: d :: (r ++ o) := fun _ hp => .tail _ (.tail _ (.tail _ (.tail _ (List.mem_append_right _ hp))))
structure SrcP (n : Nat) (W1 : List Int) (wt0 : List Bool) (pre : List Int) (W : List Int) (wt : List Bool) : Prop where
  eq : (W, wt) = pre.foldl stepE (W1, wt0)
  lT : wt.length = n
  lW : W.length ≤ W1.length + pre.length
theorem SrcP.skip {n : Nat} {W1 : List Int} {wt0 : List Bool} {pre W : List Int} {wt : List Bool} {i : Nat} (h : SrcP n W1 wt0 pre W wt) (hw : wt[i]? = some true) : SrcP n W1 wt0 (pre ++ [(i : Int)]) W wt := by
  refine ⟨?_, h.lT, by have := h.lW; simp; omega⟩
  rw [List.foldl_append, ← h.eq]
  simp [stepE, List.getD_eq_getElem?_getD, hw]
theorem SrcP.add {n : Nat} {W1 : List Int} {wt0 : List Bool} {pre W : List Int} {wt : List Bool} {i : Nat} (h : SrcP n W1 wt0 pre W wt) (hw : wt[i]? = some false) : SrcP n W1 wt0 (pre ++ [(i : Int)]) (W ++ [(i : Int)]) (wt.set i true) := by
  refine ⟨?_, by simp [h.lT], by have := h.lW; simp; omega⟩
  rw [List.foldl_append, ← h.eq]
  simp [stepE, List.getD_eq_getElem?_getD, hw]
structure LvS where
  uw : List Value
  kw : Nat
  ub : List Value
  kb : Nat
  ua : List Value
  ka : Nat
  kt : Nat
  W : List Int
  wt : List Bool
  B : List Int
  A : List Int
noncomputable def lvLed (Wa Ta Aa Ba : Addr) (rest : List (Addr × Obj)) (c : LvS) : List (Addr × Obj) := (Wa, listOf c.uw.toArray c.kw) :: (Ta, listOf (c.wt.map Value.bool).toArray c.kt) :: (Aa, listOf c.ua.toArray c.ka) :: (Ba, listOf c.ub.toArray c.kb) :: rest
structure LvF (c : LvS) : Prop where
  w : IntsAre c.uw c.W
  b : IntsAre c.ub c.B
  a : IntsAre c.ua c.A
theorem ints_at {us : List Value} {ns : List Int} (h : IntsAre us ns) : ∀ {i : Nat} {x : Int}, ns[i]? = some x → ∃ t, us[i]? = some (.int x t) := by
  induction h with
  | nil => intro i x e; simp at e
  | cons k t _ ih =>
    intro i x e
    cases i with
    | zero => simp at e; subst e; exact ⟨t, by simp⟩
    | succ i => simp at e; obtain ⟨t', e'⟩ := ih e; exact ⟨t', by simpa using e'⟩
theorem pop_in {prog : Program} {w : World} {A : Around} {E : Value → Shared → Prop} {s : Shared} {h₀ : Heap} {L D : Addr} {m : Str → Option Value} {news news' : List (Addr × Obj)} {us : List Value} {l : List Int} {i : Int} {n : Nat} {Q : Value → Shared → Prop} (F : Fr h₀ L s.heap m) (N : News h₀ L s.heap news) (U : Upd D (listOf us.toArray n) (listOf us.dropLast.toArray (n + 1)) news news') (hi : IntsAre us (l ++ [i]))
    (hz : us.length ≤ sizeLine) (h : ∀ h' t, Fr h₀ L h' m → News h₀ L h' news' → IntsAre us.dropLast l → Q (.int i t) { s with heap := h' }) : wpAny (model prog w) A (call (.builtin "list.pop") [.ref D]) Q E s := by
  refine kpa_pop F N U hi (by have := hi.length; simp at this; omega) hz fun h' t F' N' hI => ?_
  have e1 : (l ++ [i]).getLastD 0 = i := by simp
  have e2 : (l ++ [i]).dropLast = l := by simp
  rw [e2] at hI
  rw [e1]
  exact h h' t F' N' hI
noncomputable def FolOk (rs : List Ins) (fol : List (List Int)) : Prop := fol.length = rs.length ∧ ∀ (j : Nat) (ns : List Int), fol[j]? = some ns → ∃ r, rs[j]? = some r ∧ ∀ x, x ∈ ns ↔ SuccP r j rs.length x
noncomputable def LvOut (news : List (Addr × Obj)) (rs : List Ins) (r : Value) (nw : List (Addr × Obj)) : Prop :=
  ∃ T nT Ba kb ub Aa ka ua fol B A, r = .ref T ∧ nw = (T, tupO [.ref Ba, .ref Aa] nT) :: (Aa, listOf ua.toArray ka) :: (Ba, listOf ub.toArray kb) :: news ∧ IntsAre ub B ∧ IntsAre ua A ∧ FolOk rs fol ∧ LiveOk rs fol B A
theorem lvOut_sub {a b c d : Addr × Obj} {rest3 news : List (Addr × Obj)} (h : ∀ p ∈ news, p ∈ rest3) {t : Addr × Obj} : ∀ p ∈ t :: c :: d :: news, p ∈ t :: a :: b :: c :: d :: rest3 := by
  intro p hp
  simp only [List.mem_cons] at hp ⊢
  rcases hp with e | e | e | e
  · exact .inl e
  · exact .inr (.inr (.inr (.inl e)))
  · exact .inr (.inr (.inr (.inr (.inl e))))
  · exact .inr (.inr (.inr (.inr (.inr (h p e)))))
theorem lv_spec (rs : List Ins) (R : Addr) (refs : List Value) (nR : Nat) (hR : RowsAt news R nR refs rs) : Ctr w mean mg mb 131 [.ref R] news 20 300 (LvOut news rs) := by
  intro dp un gd cn cs a ccd cl outer A₀ base h₀ L m s Q E B F X N T hk hdp hun hret
  refine Mine.foldG ?_
  intro GG
  obtain ⟨hm, hlen, hle, hat⟩ := id hR
  k_unfold
  clear GG
  refine wpAny_call ?_
  k_dflt (refine' code_defC (binds := [(Str.ofString "rows", .ref R)]) ?k1 ?k2 ?k3 ?k4 ?k5 ?kA ?kF ?kK ?k6 ?k7 ?k8 ?k9 ?kB ?kD ?_ ?c2 ?c3 ?c4; (case kA => exact rfl); (case kF => exact rfl); (case kK => assumption); (case k1 => k_asm); (case k2 => k_asm); (case k3 => k_asm); (case k4 => k_asm); (case k5 => k_asm); (case k6 => k_is); (case k7 => k_is); (case k8 => ktr_room); (case k9 => exact BindsTo.of_eq (by with_unfolding_all rfl)); (case kB => exact rfl); (case kD => decide +kernel); (case c2 => exact rfl); (case c3 => exact rfl); (case c4 => exact rfl))
  intro g' L' h' tk' cells' FG' F' N' Y' B' X' T' l1
  (try k_lt l1)
  k_cells Y'
  (try simp only [List.cons_append, List.nil_append] at N')
  (try dsimp only)
  (try k_fold)
  k_steps
  -- a: following
  refine Halt.in_ ?_
  rename (News _ _ _ _) => N2
  rename_i oc dc _ tb lb _ lb1 Ba _ lb2 _ ta la _ la1 Aa _ la2 ha Fa
  have hcd : oc.data = .cell (some (.ref R)) := dc
  k_dflt (refine LCg.Assign_ListComp_U (F₀ := by k_asm) (by rfl) (by with_unfolding_all rfl) (by with_unfolding_all rfl) (by decide) (by rfl) (by decide) (by rfl) (by rfl) (by rfl) ?_)
  k_steps
  refine Halt.in_ ?_
  refine LCg.CompSrc.range (by rfl) (by k_asm) (by k_asm) (by assumption) (by first | decide | exact small_one (by l_bnd) (by l_bnd) (by l_bnd) (by l_bnd)) (range_one _) (by rw [sizeLine_eq]; omega) ?_
  intro g2
  refine rest_ind (FolJ rs refs.length _) FolJ.zero ?_ ?_
  · intro i ys nw v I oI C oC D m₂ h tk E' hi hJ hyl hv hC hx F3 N3 off ne
    refine Mine.foldG ?_
    intro GG
    obtain ⟨t9, rfl⟩ := hv
    k_unfold
    clear GG
    simp only [Int.zero_add] at hx
    refine Mine.foldG ?_
    intro GG
    obtain ⟨hsub, r, hri, hJn⟩ := hJ.step (by omega)
    k_unfold
    clear GG
    refine Mine.foldG ?_
    intro GG
    obtain ⟨ra, hx2, hr, hok⟩ := hat i r hri
    k_unfold
    clear GG
    have hx3 : refs[((i : Nat) : Int).toNat]? = some (.ref ra) := by simpa using hx2
    have hR2 := hsub _ (List.mem_cons_of_mem _ (List.mem_cons_of_mem _ (List.mem_cons_of_mem _ hm)))
    have hcell := hsub _ (List.mem_cons_of_mem _ (List.mem_cons_of_mem _ (List.mem_cons_self)))
    have hr2 : InsAt nw ra r := hr.mono fun p hp => hsub _ (List.mem_cons_of_mem _ (List.mem_cons_of_mem _ (List.mem_cons_of_mem _ hp)))
    clear N
    k_steps
    refine Halt.in_ ?_
    k_dflt (refine' Mine.Ctr.use ?suB ?suF ?suX ?suN ?suT ?suK (Mine.su_spec _ _ _ _ _ _ _ ?suR ?sux ?sua ?sub ?suc ?sur ?suo) ?sud ?suu ?_; (case suB => k_asm); (case suF => k_asm); (case suX => k_asm); (case suN => k_asm); (case suT => k_asm); (case suK => first | exact rfl | assumption); (case sud => ktr_room); (case suu => ktr_units); (case suR => k_mem); (case sux => k_asm); (case sua => omega); (case sub => omega); (case suc => omega); (case sur => walk_at "my row"); (case suo => k_asm))
    intro r' news' h' tk' F' N' hp'
    obtain ⟨l', us', c', ns', hr', he', hlt', hi', hP'⟩ := hp'
    obtain ⟨hP1', hP2'⟩ := hP'
    subst hr'
    subst he'
    (try dsimp only)
    (try k_fold)
    k_steps
    refine Halt.in_ ?_
    exact comp_end_new (by k_asm) (by assumption) (by assumption) off (hJn _ _ _ _ (by ((intro p9 hp9; first | exact (by assumption : ∀ p ∈ _, p.1 < _) p9 (List.mem_cons_of_mem _ (List.mem_cons_of_mem _ (List.mem_cons_of_mem _ hp9)))))) (by assumption) (by assumption) (by assumption))
  · intro ys nw hJ hyl D hh tkk F4 N4 off1
    refine Mine.foldG ?_
    intro GG
    obtain ⟨fol, tl, rfl, ha, hfl, hL, hP⟩ := hJ
    k_unfold
    clear GG
    -- what stands now: after, before, and the rest that does not turn
    have hAB : Ba ≠ Aa := Nat.ne_of_lt (la2 (Ba, _) (.head _))
    have hAn : ∀ p ∈ news, p.1 < Aa := fun p hp => la2 p (.tail _ (.tail _ hp))
    have hBn : ∀ p ∈ news, p.1 < Ba := fun p hp => lb2 p (.tail _ hp)
    have hcA : L' + 1 < Aa := la2 (L' + 1, oc) (.tail _ (.head _))
    have hcB : L' + 1 < Ba := lb2 (L' + 1, oc) (.head _)
    have ha3 : IntsAre (List.replicate ((refs.length : Nat) : Int).toNat (Value.int 0 ta)) (List.replicate refs.length 0) := by simpa using ints_replicate refs.length 0 ta
    have hb3 : IntsAre (List.replicate ((refs.length : Nat) : Int).toNat (Value.int 0 tb)) (List.replicate refs.length 0) := by simpa using ints_replicate refs.length 0 tb
    have N5 := ledA N4
    have hoff : ∀ p ∈ (D, LCg.lst ys) :: (tl ++ (L' + 1, oc) :: news), p.1 ≠ Aa ∧ p.1 ≠ Ba := offA (a := (Aa, _)) (b := (Ba, _)) (c := (L' + 1, oc)) (d := (D, LCg.lst ys)) hcA hcB hAn hBn ha off1
    have hmA : (R, listOf refs.toArray nR) ∈ (D, LCg.lst ys) :: (tl ++ (L' + 1, oc) :: news) := memA hm
    have hcellA : (L' + 1, oc) ∈ (D, LCg.lst ys) :: (tl ++ (L' + 1, oc) :: news) := .tail _ (List.mem_append_right _ (.head _))
    have hsubA : ∀ p ∈ news, p ∈ (D, LCg.lst ys) :: (tl ++ (L' + 1, oc) :: news) := fun p hp => memA hp
    have hLA : ListsAt ((D, LCg.lst ys) :: (tl ++ (L' + 1, oc) :: news)) ys fol := hL.mono fun p hp => .tail _ (List.mem_append_left _ hp)
    have hDA : (D, listOf ys.toArray ys.length) ∈ (D, LCg.lst ys) :: (tl ++ (L' + 1, oc) :: news) := .head _
    have hatA : ∀ (i : Nat) r, rs[i]? = some r → ∃ ra, refs[i]? = some (.ref ra) ∧ InsAt ((D, LCg.lst ys) :: (tl ++ (L' + 1, oc) :: news)) ra r ∧ r.ok := fun i r e => let ⟨ra, a1, a2, a3⟩ := hat i r e; ⟨ra, a1, a2.mono hsubA, a3⟩
    generalize (D, LCg.lst ys) :: (tl ++ (L' + 1, oc) :: news) = rest at N5 hoff hmA hcellA hsubA hLA hDA hatA
    generalize List.replicate ((refs.length : Nat) : Int).toNat (Value.int 0 ta) = ua at N5 ha3
    generalize List.replicate ((refs.length : Nat) : Int).toNat (Value.int 0 tb) = ub at N5 hb3
    clear N4 ha off1 hL la1 lb1 la2 lb2 N
    (try dsimp only)
    (try k_fold)
    k_steps
    -- b: earlier
    refine Halt.in_ ?_
    k_dflt (refine LCg.Assign_ListComp_U (F₀ := by k_asm) (by rfl) (by with_unfolding_all rfl) (by with_unfolding_all rfl) (by decide) (by rfl) (by decide) (by rfl) (by rfl) (by rfl) ?_)
    k_steps
    refine Halt.in_ ?_
    refine LCg.CompSrc.range (by rfl) (by k_asm) (by k_asm) (by assumption) (by first | decide | exact small_one (by l_bnd) (by l_bnd) (by l_bnd) (by l_bnd)) (range_one _) (by rw [sizeLine_eq]; omega) ?_
    intro g3
    refine rest_ind (EarJ _) EarJ.zero ?_ ?_
    · intro i2 ys2 nw2 v2 I2 oI2 C2 oC2 D2 m2 h2 tk2 E2 hi2 hJ2 hyl2 hv2 hC2 hx2 F6 N6 off2 ne2
      refine Mine.foldG ?_
      intro GG
      obtain ⟨t9, rfl⟩ := hv2
      k_unfold
      clear GG
      k_steps
      refine Halt.in_ ?_
      have hlt9 := ktn_ltOf (by assumption : AllLt _ ((I2, oI2) :: (C2, oC2) :: (D2, LCg.lst ys2) :: nw2))
      exact comp_end_new (by k_asm) (by assumption) hlt9 off2 (hJ2.step fun p9 hp9 => hlt9 p9 (.tail _ (.tail _ (.tail _ hp9))))
    · intro ys2 nw2 hJ2 hyl2 D2 h2 tk2 F6 N6 off2
      refine Mine.foldG ?_
      intro GG
      obtain ⟨es, rfl, hel, hnd, heo, hem, hes⟩ := hJ2
      k_unfold
      clear GG
      have hem2 : ∀ e ∈ es, e ≠ D2 := fun e he => (off1_mem off2 _ (hem e he))
      have hD2o : ∀ p ∈ (Aa, listOf ua.toArray 0) :: (Ba, listOf ub.toArray 0) :: rest, p.1 ≠ D2 := fun p hp => off1_mem off2 p (hes p hp)
      have N7 : News g' L' h2 (earLed es (List.replicate es.length ([], 0)) ++ ((D2, listOf (es.map Value.ref).toArray (es.map Value.ref).length) :: (Aa, listOf ua.toArray 0) :: (Ba, listOf ub.toArray 0) :: rest)) := news_sub N6 (ear_sub hem hes)
      clear N6 hem off2
      have he1 : ∀ e ∈ es, ∀ q ∈ (D2, listOf (es.map Value.ref).toArray (es.map Value.ref).length) :: (Aa, listOf ua.toArray 0) :: (Ba, listOf ub.toArray 0) :: rest, q.1 ≠ e := fun e he q hq => by
        rcases List.mem_cons.mp hq with rfl | hq
        · exact fun h => hem2 e he h.symm
        · exact heo e he q hq
      (try dsimp only)
      (try k_fold)
      k_steps
      -- c: earlier is filled
      refine Halt.in_ ?_
      rename (Fr _ _ _ _) => F8
      with_unfolding_all refine' For_invVF F8 ?k1 ?k2 ?_
      case k1 => exact rfl
      case k2 => exact rfl
      k_steps
      refine Halt.in_ ?_
      rename (Fr _ _ _ _) => F9
      rename (IsRange _ _ _ _ _ _ _ _) => rg9
      rename (News _ _ _ _) => N9
      refine kst_range (σ := List (List Value × Nat)) (fun c => earLed es c ++ ((D2, listOf (es.map Value.ref).toArray (es.map Value.ref).length) :: (Aa, listOf ua.toArray 0) :: (Ba, listOf ub.toArray 0) :: rest)) (fun _ => []) (fun _ => True) [Str.ofString "target"] (fun pre c => EarP fol es.length pre.length c) (List.replicate es.length ([], 0)) (by rfl) rg9 (by first | decide | exact small_one (by l_bnd) (by l_bnd) (by l_bnd) (by l_bnd)) (range_one _) F9 N9 trivial (fun p hp => nomatch hp) EarP.zero ?_ ?_
      · intro c pre k tk9 u9 h9 tkk9 own9 hk9 hpre hoff9 _ hP9 F10 N10
        simp only [Int.zero_add] at hk9
        subst hk9
        obtain ⟨nsi, hnsi⟩ : ∃ nsi, fol[pre.length]? = some nsi := ⟨fol[pre.length], by simp [hfl, hpre]⟩
        refine Mine.foldG ?_
        intro GG
        obtain ⟨ri, hri, hn2, hnx⟩ := hP pre.length nsi hnsi
        k_unfold
        clear GG
        refine Mine.foldG ?_
        intro GG
        obtain ⟨li, usi, ci, hyi, hli, hii⟩ := hLA.2 pre.length nsi hnsi
        k_unfold
        clear GG
        have hyi2 : ys[((pre.length : Nat) : Int).toNat]? = some (.ref li) := by simpa using hyi
        have hN10 : News g' L' h9 (earLed es c ++ ((D2, listOf (es.map Value.ref).toArray (es.map Value.ref).length) :: (Aa, listOf ua.toArray 0) :: (Ba, listOf ub.toArray 0) :: (rest ++ own9))) := news_sub N10 (in_as1 (B := _ :: _ :: _ :: rest))
        have hDm : (D, listOf ys.toArray ys.length) ∈ earLed es c ++ ((D2, listOf (es.map Value.ref).toArray (es.map Value.ref).length) :: (Aa, listOf ua.toArray 0) :: (Ba, listOf ub.toArray 0) :: (rest ++ own9)) := List.mem_append_right _ (.tail _ (.tail _ (.tail _ (List.mem_append_left _ hDA))))
        k_steps
        refine Halt.in_ ?_
        rename (Fr _ _ _ _) => F11
        with_unfolding_all refine' For_invVF F11 ?k1 ?k2 ?_
        case k1 => exact rfl
        case k2 => exact rfl
        k_steps
        refine Halt.in_ ?_
        rename (Fr _ _ _ _) => F12
        rename (News _ _ _ _) => N12
        refine kst_listL (σ := List (List Value × Nat)) (vs := usi) (nn := ci) (fun c => earLed es c ++ ((D2, listOf (es.map Value.ref).toArray (es.map Value.ref).length) :: (Aa, listOf ua.toArray 0) :: (Ba, listOf ub.toArray 0) :: (rest ++ own9))) (fun _ => []) (fun _ => True) [] (fun pre2 c => EarQ fol es.length pre.length pre2 c) c (by rfl) (fun c => List.mem_append_right _ (.tail _ (.tail _ (.tail _ (List.mem_append_left _ hli))))) hii F12 N12 trivial (fun p hp => nomatch hp) hP9.toQ ?_ ?_
        · intro c2 pre2 post2 t2 tk2 u2 h2 tkk2 own2 hns2 hmem2 hoff2 _ hQ2 F13 N13
          have hrg := (hnx t2).mp hmem2
          have hrg2 := hrg.range (Int.natCast_nonneg _)
          obtain ⟨tn, rfl⟩ : ∃ tn : Nat, t2 = tn := ⟨t2.toNat, by omega⟩
          have htn : tn < es.length := by rw [hel]; omega
          have hes1 : es[tn]? = some es[tn] := by simp [htn]
          obtain ⟨⟨us3, k3⟩, hc3⟩ : ∃ u, c2[tn]? = some u := ⟨c2[tn]'(by rw [hQ2.1]; exact htn), by simp [hQ2.1, htn]⟩
          have hus3 : us3.length ≤ 1000 := by
            refine Mine.foldG ?_
            intro GG
            obtain ⟨_, _, q, _⟩ := hQ2.2 tn us3 k3 hc3
            k_unfold
            clear GG
            have : pre2.length ≤ nsi.length := by rw [hns2]; simp
            omega
          have N14 : News g' L' h2 (earLed es c2 ++ ((D2, listOf (es.map Value.ref).toArray (es.map Value.ref).length) :: (Aa, listOf ua.toArray 0) :: (Ba, listOf ub.toArray 0) :: (rest ++ (own9 ++ own2)))) := news_sub N13 (in_as2 (B := _ :: _ :: _ :: rest))
          have hD2m : (D2, listOf (es.map Value.ref).toArray (es.map Value.ref).length) ∈ earLed es c2 ++ ((D2, listOf (es.map Value.ref).toArray (es.map Value.ref).length) :: (Aa, listOf ua.toArray 0) :: (Ba, listOf ub.toArray 0) :: (rest ++ (own9 ++ own2))) := List.mem_append_right _ (.head _)
          have hEm : (es[tn], listOf us3.toArray k3) ∈ earLed es c2 ++ ((D2, listOf (es.map Value.ref).toArray (es.map Value.ref).length) :: (Aa, listOf ua.toArray 0) :: (Ba, listOf ub.toArray 0) :: (rest ++ (own9 ++ own2))) := List.mem_append_left _ (ear_mem hes1 hc3)
          have hx3 : (es.map Value.ref)[((tn : Nat) : Int).toNat]? = some (.ref es[tn]) := by simp [hes1]
          clear N13
          k_steps
          refine Halt.in_ ?_
          have hoffE : ∀ q ∈ (D2, listOf (es.map Value.ref).toArray (es.map Value.ref).length) :: (Aa, listOf ua.toArray 0) :: (Ba, listOf ub.toArray 0) :: (rest ++ (own9 ++ own2)), q.1 ≠ es[tn] := by
            intro q hq
            rcases in_or3 (A := _ :: _ :: _ :: rest) hq with h | h | h
            · exact he1 _ (List.getElem_mem _) q h
            · exact hoff9 q h _ (mem_adr (List.getElem_mem _) (by simp))
            · exact hoff2 q h _ (mem_adr (List.getElem_mem _) hP9.1)
          refine append_K (by k_asm) (by assumption) (upd_ear hnd hoffE hes1 hc3) ?_ (by rw [List.size_toArray, sizeLine_eq]; omega)
          intro h15 F15 N15
          k_steps
          refine Halt.in_ ?_
          refine kst_end (c2.set tn (us3 ++ [.int (pre.length : Int) tk9], k3 + 1)) (by k_asm) N15 led_in led_own (adr_eq (by simp [hQ2.1]) hP9.1) trivial (fun p hp => nomatch hp) (by intro z h1 h2 h3; dsimp only; rw [if_neg h1]; rfl) (hQ2.step hc3)
        · intro c2 u2 h2 tkk2 _ hQ2 F13 N13
          k_steps
          refine Halt.in_ ?_
          refine kst_end c2 (by k_asm) N13 led_in1 led_own1 (adr_eq hQ2.1 (by simp)) trivial (fun p hp => nomatch hp) (by intro z h1 h2 h3; (have hz : ¬ z = Str.ofString "target" := fun e => absurd h3 (by rw [e]; decide)); dsimp only [kstB]; rw [if_neg hz]; simp only [List.contains_nil, Bool.false_eq_true, if_false, if_neg h1, h3]) (by have hz := hQ2.toP hnsi hn2; simpa using hz)
      · intro c u9 h9 tkk9 _ hP9 F10 N10
        have hc9 : EarP fol es.length refs.length c := by simpa [rangeKs_length] using hP9
        k_steps
        -- d: the worklist
        refine Halt.in_ ?_
        rename_i Wa vsW cW _ _ _ _ lW hIW _ _ _ _ lW2 Ta _ lT _ F20 N20
        have hK : WOk rs fol := ⟨fun i r e => let ⟨_, _, _, q⟩ := hat i r e; q, by omega, fun i f e t ht => by
          refine Mine.foldG ?_
          intro GG
          obtain ⟨r, _, _, hx⟩ := hP i f e
          k_unfold
          clear GG
          have := ((hx t).mp ht).range (Int.natCast_nonneg _)
          omega⟩
        have hap : Ap4 Wa Ta Aa Ba (earLed es c ++ ((D2, listOf (es.map Value.ref).toArray (es.map Value.ref).length) :: rest)) := by
          have q1 := lW (Aa, listOf ua.toArray 0) (by k_mem)
          have q2 := lW (Ba, listOf ub.toArray 0) (by k_mem)
          have q3 := lT (Wa, listOf vsW.toArray cW) (by k_mem)
          simp only at q1 q2 q3
          refine ⟨Nat.ne_of_lt q3, Nat.ne_of_gt q1, Nat.ne_of_gt q2, Nat.ne_of_gt (Nat.lt_trans q1 q3), Nat.ne_of_gt (Nat.lt_trans q2 q3), hAB.symm, fun p hp => ?_⟩
          have q4 : p.1 < Wa := lW p (in_mid (B := [_, _]) hp)
          refine ⟨Nat.ne_of_lt q4, Nat.ne_of_lt (Nat.lt_trans q4 q3), ?_⟩
          rcases List.mem_append.mp hp with hp | hp
          · exact ⟨fun e => he1 _ (ear_in hp) (Aa, listOf ua.toArray 0) (by k_mem) e.symm, fun e => he1 _ (ear_in hp) (Ba, listOf ub.toArray 0) (by k_mem) e.symm⟩
          · rcases List.mem_cons.mp hp with rfl | hp
            · exact ⟨fun e => hD2o (Aa, listOf ua.toArray 0) (by k_mem) e.symm, fun e => hD2o (Ba, listOf ub.toArray 0) (by k_mem) e.symm⟩
            · exact hoff p hp
        have N21 := news_sub (news := lvLed Wa Ta Aa Ba (earLed es c ++ ((D2, listOf (es.map Value.ref).toArray (es.map Value.ref).length) :: rest)) ⟨vsW, cW, ub, 0, ua, 0, 0, rangeKs 0 refs.length, List.replicate refs.length true, List.replicate refs.length 0, List.replicate refs.length 0⟩) N20 (by
          dsimp only [lvLed]
          rw [List.map_replicate, Int.toNat_natCast]
          exact in_21)
        have hrest : ∀ p ∈ rest, p ∈ earLed es c ++ ((D2, listOf (es.map Value.ref).toArray (es.map Value.ref).length) :: rest) := fun p hp => List.mem_append_right _ (.tail _ hp)
        have hD2m : (D2, listOf (es.map Value.ref).toArray (es.map Value.ref).length) ∈ earLed es c ++ ((D2, listOf (es.map Value.ref).toArray (es.map Value.ref).length) :: rest) := List.mem_append_right _ (.head _)
        have hEar : ∀ (j : Nat) e us k, es[j]? = some e → c[j]? = some (us, k) → (e, listOf us.toArray k) ∈ earLed es c ++ ((D2, listOf (es.map Value.ref).toArray (es.map Value.ref).length) :: rest) := fun j e us k a b => List.mem_append_left _ (ear_mem a b)
        generalize earLed es c ++ ((D2, listOf (es.map Value.ref).toArray (es.map Value.ref).length) :: rest) = rest3 at hap N21 hrest hD2m hEar
        have hst : WInv rs fol (List.replicate refs.length 0) (List.replicate refs.length 0) (rangeKs 0 refs.length) (List.replicate refs.length true) := by
          rw [show refs.length = rs.length from hlen]
          exact WInv.start hK
        have hIW2 : IntsAre vsW (rangeKs 0 refs.length) := by simpa using hIW
        clear N20 lW lT lW2 he1 hem2 heo hes hoff
        revert F N21 F20 FG'
        repeat (rename (News _ _ _ _) => zz; clear zz)
        repeat (rename (Fr _ _ _ _) => zz; clear zz)
        repeat (rename (IsRange _ _ _ _ _ _ _ _) => zz; clear zz)
        clear hP9 hyl2 hAB hAn hBn hcA hcB hat hm dc l1
        intro F FG' F20 N21
        refine ksw_while (lvLed Wa Ta Aa Ba rest3) (fun _ => []) LvF [Str.ofString "index", Str.ofString "behind", Str.ofString "target", Str.ofString "ahead", Str.ofString "source"] (fun s => WInv rs fol s.B s.A s.W s.wt) (fun s => wMu s.B s.W) ⟨vsW, cW, ub, 0, ua, 0, 0, rangeKs 0 refs.length, List.replicate refs.length true, List.replicate refs.length 0, List.replicate refs.length 0⟩ F20 N21 ⟨hIW2, hb3, ha3⟩ (fun p hp => nomatch hp) hst ?_
        rintro ⟨uw, kw, ub', kb, ua', ka, kt, W, wt, Bs, As⟩ u h30 tk30 hF hI F30 N30
        refine Mine.foldG ?_
        intro GG
        obtain ⟨hFw, hFb, hFa⟩ := hF
        k_unfold
        clear GG
        dsimp only at hFw hFb hFa hI
        simp only [lvLed] at N30
        have hWl := len_le_of_nodup hI.nodup hI.wIn
        have hul := hFw.length
        clear N21 F20 hIW2 hIW hst hb3 ha3
        rcases List.eq_nil_or_concat W with rfl | ⟨W1, i0, rfl⟩
        · have huw : uw = [] := List.length_eq_zero_iff.mp hul
          subst huw
          k_steps
          refine hret _ _ _ _ (by k_asm) (news_sub (by assumption) (lvOut_sub fun p hp => hrest p (hsubA p hp))) ⟨_, _, _, _, _, _, _, _, fol, Bs, As, rfl, rfl, hFb, hFa, ⟨by omega, fun j ns e => ?_⟩, hI.fin hK⟩
          refine Mine.foldG ?_
          intro GG
          obtain ⟨r, a1, _, a2⟩ := hP j ns e
          k_unfold
          clear GG
          exact ⟨r, a1, by rw [← hlen]; exact a2⟩
        · rw [List.concat_eq_append] at hFw hI hul hWl
          have hi0 := hI.wIn i0 (by simp)
          obtain ⟨inn, rfl⟩ : ∃ k : Nat, i0 = k := ⟨i0.toNat, by omega⟩
          have hin : inn < rs.length := by omega
          obtain ⟨r, hr⟩ : ∃ r, rs[inn]? = some r := ⟨rs[inn], by simp [hin]⟩
          obtain ⟨f, hf⟩ : ∃ f, fol[inn]? = some f := ⟨fol[inn], by simp [hK.lf, hin]⟩
          obtain ⟨b, hb⟩ : ∃ b, Bs[inn]? = some b := ⟨Bs[inn]'(by rw [hI.lB]; exact hin), by simp [hI.lB, hin]⟩
          refine Mine.foldG ?_
          intro GG
          obtain ⟨tb, hub⟩ := ints_at hFb hb
          k_unfold
          clear GG
          refine Mine.foldG ?_
          intro GG
          obtain ⟨ra, hra, hrr, hrok⟩ := hatA inn r hr
          k_unfold
          clear GG
          refine Mine.foldG ?_
          intro GG
          obtain ⟨li, usf, cf, hyf, hlf, hif⟩ := hLA.2 inn f hf
          k_unfold
          clear GG
          have hx1 : refs[((inn : Nat) : Int).toNat]? = some (.ref ra) := by simpa using hra
          have hx2 : ys[((inn : Nat) : Int).toNat]? = some (.ref li) := by simpa using hyf
          have hx3 : ub'[((inn : Nat) : Int).toNat]? = some (.int b tb) := by simpa using hub
          have hrr3 : InsAt rest3 ra r := hrr.mono hrest
          have hR3 := hrest _ hmA
          have hC3 := hrest _ hcellA
          have hD3 := hrest _ hDA
          have hl3 := hrest _ hlf
          have hwtl := hI.lT
          have hWl2 : (W1 ++ [(inn : Int)]).length = W1.length + 1 := by simp
          k_steps
          refine Halt.in_ ?_
          refine pop_in (by k_asm) (by assumption) hap.u1 hFw (by rw [sizeLine_eq]; omega) ?_
          intro h31 t31 F31 N31 hW1
          k_steps
          refine Halt.in_ ?_
          refine set_in (by k_asm) (by assumption) hap.u2 (by omega) (by simp; omega) (by omega) ?_
          intro h32 F32 N32
          simp only [← List.map_set, Int.toNat_natCast] at N32
          k_steps
          refine Halt.in_ ?_
          refine mid_int (Str.ofString "behind") (if unk r (inn : Nat) (refs.length : Nat) = true then 262143 else 0) (by k_asm) (by assumption) ?_ ?_
          · k_steps
            all_goals (refine Halt.in_ (mid_end (by assumption) (by assumption) ?_))
            all_goals (rename (unk _ _ _ = _) => hu; rw [hu]; rfl)
          intro h33 tk33 t33 F33 N33
          k_steps
          refine Halt.in_ ?_
          rename (Fr _ _ _ _) => F34
          with_unfolding_all refine' For_invVF F34 ?k1 ?k2 ?_
          case k1 => exact rfl
          case k2 => exact rfl
          k_steps
          refine Halt.in_ ?_
          rename (Fr _ _ _ _) => F35
          rename (News _ _ _ _) => N35
          refine kst_listL (σ := Int × Tok) (vs := usf) (ns := f) (nn := cf) (fun _ => (Wa, listOf uw.dropLast.toArray (kw + 1)) :: (Ta, listOf (List.map Value.bool (wt.set inn false)).toArray kt) :: (Aa, listOf ua'.toArray ka) :: (Ba, listOf ub'.toArray kb) :: rest3) (fun c => [(Str.ofString "behind", .int c.1 c.2)]) (fun _ => True) [] (fun pre c => c.1 = pre.foldl (fun acc t => Builtin.bitOr acc (Bs.getD t.toNat 0)) (if unk r (inn : Nat) (refs.length : Nat) = true then 262143 else 0)) (if unk r (inn : Nat) (refs.length : Nat) = true then 262143 else 0, t33) (by rfl) (fun _ => .tail _ (.tail _ (.tail _ (.tail _ hl3)))) hif F35 N35 trivial (fun p hp => by cases List.mem_singleton.mp hp; with_unfolding_all rfl) rfl ?_ ?_
          · intro c36 pre36 post36 t36 tk36 u36 h36 tkk36 own36 hns36 hmem36 hoff36 _ hP36 F36 N36
            have hrg := hK.fr inn f hf t36 hmem36
            obtain ⟨tn, rfl⟩ : ∃ tn : Nat, t36 = tn := ⟨t36.toNat, by omega⟩
            obtain ⟨bt, hbt⟩ : ∃ b, Bs[tn]? = some b := ⟨Bs[tn]'(by rw [hI.lB]; omega), by simp⟩
            refine Mine.foldG ?_
            intro GG
            obtain ⟨tt, hubt⟩ := ints_at hFb hbt
            k_unfold
            clear GG
            have hx36 : ub'[((tn : Nat) : Int).toNat]? = some (.int bt tt) := by simpa using hubt
            refine Mine.foldG ?_
            intro GG
            obtain ⟨cv, ct⟩ := c36
            k_unfold
            clear GG
            dsimp only at hP36 F36
            simp only [List.cons_append] at N36
            k_steps
            refine Halt.in_ ?_
            rename (Fr _ _ _ _) => F38
            rename (News _ _ _ _) => N38
            refine kst_end (σ := Int × Tok) (Builtin.bitOr cv bt, _) F38 N38 l4in l4own rfl trivial (fun p hp => by cases List.mem_singleton.mp hp; with_unfolding_all rfl) ?_ ?_
            · intro z h1 h2 h3
              have hz := h2 _ (List.mem_singleton.mpr rfl)
              dsimp only at hz
              dsimp only [kstB]
              simp only [if_neg h1, if_neg hz, List.contains_nil, Bool.false_eq_true, if_false]
            · show Builtin.bitOr cv bt = _
              rw [List.foldl_append, ← hP36]
              simp [List.getD_eq_getElem?_getD, hbt]
          intro c37 u37 h37 tkk37 _ hP37 F37 N37
          refine Mine.foldG ?_
          intro GG
          obtain ⟨cv, ct⟩ := c37
          k_unfold
          clear GG
          dsimp only at hP37 F37
          have hcv : cv = joinF (unk r inn rs.length) Bs f := by
            rw [← hlen]
            exact hP37
          have hual := hFa.length
          have hAl := hI.lA
          have hubl := hFb.length
          have hBl := hI.lB
          k_steps
          refine Halt.in_ ?_
          refine set_in (by k_asm) (by assumption) hap.u3 (by omega) (by omega) (by omega) ?_
          intro h40 F40 N40
          simp only [Int.toNat_natCast] at N40
          have hFa2 := ints_set (x := cv) (u := ct) hFa inn
          have hbD : Bs.getD ((inn : Nat) : Int).toNat 0 = b := by simp [List.getD_eq_getElem?_getD, hb]
          k_steps
          refine Halt.in_ ?_
          k_dflt (refine' Mine.Ctr.use ?lbB ?lbF ?lbX ?lbN ?lbT ?lbK (Mine.lb_spec _ _ _ _ ?lbr ?lbo) ?lbd ?lbu ?_; (case lbB => k_asm); (case lbF => k_asm); (case lbX => k_asm); (case lbN => k_asm); (case lbT => k_asm); (case lbK => first | exact rfl | assumption); (case lbd => ktr_room); (case lbu => ktr_units); (case lbr => walk_at "my row"); (case lbo => k_asm))
          ((intro r' news' h' tk' F' N' hp'; k_dflt (obtain ⟨he', t', hr'⟩ := hp'); replace he' := Eq.symm he'; subst he'; (try simp only [Mine.setsF_br, Mine.falls_op] at hr'); subst hr'; (try dsimp only); (try k_fold)))
          k_steps
          · -- the mask has grown
            refine Halt.in_ ?_
            rename (_ ≠ List.getD _ _ _) => hne0
            rw [hbD] at hne0
            have hne : lbF r (joinF (unk r inn rs.length) Bs f) ≠ b := by
              rw [← hcv]
              exact hne0
            refine set_in (by k_asm) (by assumption) hap.u4 (by omega) (by omega) (by omega) ?_
            intro h42 F42 N42
            simp only [Int.toNat_natCast] at N42
            obtain ⟨e, he⟩ : ∃ e, es[inn]? = some e := ⟨es[inn]'(by omega), by simp⟩
            obtain ⟨⟨us, ke⟩, hce⟩ : ∃ q, c[inn]? = some q := ⟨c[inn]'(by rw [hc9.1]; omega), by simp⟩
            refine Mine.foldG ?_
            intro GG
            obtain ⟨En, hEi, hEl, hE⟩ := hc9.2 inn us ke hce
            k_unfold
            clear GG
            have hE3 := hEar inn e us ke he hce
            have hx5 : (es.map Value.ref)[((inn : Nat) : Int).toNat]? = some (.ref e) := by simp [he]
            have hEul := hEi.length
            k_steps
            refine Halt.in_ ?_
            rename (Fr _ _ _ _) => F44
            with_unfolding_all refine' For_invVF F44 ?k1 ?k2 ?_
            case k1 => exact rfl
            case k2 => exact rfl
            k_steps
            refine Halt.in_ ?_
            rename (Fr _ _ _ _) => F45
            rename (News _ _ _ _) => N45
            refine kst_listL (σ := List Value × Nat × List Int × List Bool) (vs := us) (ns := En) (nn := ke) (fun c => (Wa, listOf c.1.toArray c.2.1) :: (Ta, listOf (List.map Value.bool c.2.2.2).toArray kt) :: (Aa, listOf (ua'.set inn (.int cv ct)).toArray ka) :: (Ba, _) :: rest3) (fun _ => []) (fun c => IntsAre c.1 c.2.2.1) [] (fun pre c => SrcP rs.length W1 (wt.set inn false) pre c.2.2.1 c.2.2.2) (uw.dropLast, kw + 1, W1, wt.set inn false) (by rfl) (fun _ => .tail _ (.tail _ (.tail _ (.tail _ hE3)))) hEi F45 N45 hW1 (fun p hp => nomatch hp) ⟨rfl, by simp [hwtl], by simp⟩ ?_ ?_
            · intro c46 pre46 post46 t46 tk46 u46 h46 tkk46 own46 hns46 hmem46 hoff46 hF46 hP46 F46 N46
              refine Mine.foldG ?_
              intro GG
              obtain ⟨uw46, kw46, W46, wt46⟩ := c46
              k_unfold
              clear GG
              dsimp only at hF46 hP46 F46 N46
              refine Mine.foldG ?_
              intro GG
              obtain ⟨y46, fx46, rfl, hy46, _, _⟩ := (hE t46).mp hmem46
              k_unfold
              clear GG
              obtain ⟨b46, hb46⟩ : ∃ q, wt46[y46]? = some q := ⟨wt46[y46]'(by rw [hP46.lT]; omega), by simp⟩
              have hx46 : (wt46.map Value.bool)[((y46 : Nat) : Int).toNat]? = some (.bool b46) := by simp [hb46]
              have hap46 := hap.ext (own := own46) (fun p hp e' he' => hoff46 p hp e' (in_left4 he'))
              simp only [List.cons_append] at N46
              have hl46 := hP46.lW
              have hl47 := hF46.length
              have hl48 := hP46.lT
              have hl49 : pre46.length ≤ En.length := by rw [hns46]; simp
              cases b46 with
              | true =>
                k_steps
                refine Halt.in_ ?_
                rename (Fr _ _ _ _) => F48
                rename (News _ _ _ _) => N48
                refine kst_end (σ := List Value × Nat × List Int × List Bool) (uw46, kw46, W46, wt46) F48 N48 l4in l4own rfl hF46 (fun p hp => nomatch hp) ?_ (hP46.skip hb46)
                intro z h1 h2 h3
                dsimp only [kstB]
                simp only [if_neg h1, List.contains_nil, Bool.false_eq_true, if_false]
              | false =>
                k_steps
                refine Halt.in_ ?_
                refine set_in (by k_asm) (by assumption) hap46.u2 (by omega) (by simp; omega) (by omega) ?_
                intro h50 F50 N50
                simp only [← List.map_set, Int.toNat_natCast] at N50
                k_steps
                refine Halt.in_ ?_
                refine append_K (by k_asm) (by assumption) hap46.u1 ?_ (by rw [List.size_toArray, sizeLine_eq]; omega)
                intro h51 F51 N51
                simp only [List.push_toArray] at N51
                k_steps
                refine Halt.in_ ?_
                rename (Fr _ _ _ _) => F48
                rename (News _ _ _ _) => N48
                refine kst_end (σ := List Value × Nat × List Int × List Bool) (uw46 ++ [.int (y46 : Int) tk46], kw46 + 1, W46 ++ [(y46 : Int)], wt46.set y46 true) F48 N48 l4in l4own rfl (Mine.ints_snoc hF46) (fun p hp => nomatch hp) ?_ (hP46.add hb46)
                intro z h1 h2 h3
                dsimp only [kstB]
                simp only [if_neg h1, List.contains_nil, Bool.false_eq_true, if_false]
            intro c47 u47 h47 tkk47 hF47 hP47 F47 N47
            refine Mine.foldG ?_
            intro GG
            obtain ⟨uw47, kw47, W47, wt47⟩ := c47
            k_unfold
            clear GG
            dsimp only at hF47 hP47 F47 N47
            k_steps
            refine Halt.in_ ?_
            have hg := WInv.grown hK hI (by omega) rfl hr hf hb hne (E := En) (by intro x; rw [hE x, hlen])
            dsimp only at hg
            rw [← hP47.eq, ← hcv] at hg
            rename (Fr _ _ _ _) => F48
            rename (News _ _ _ _) => N48
            refine ksw_end ⟨uw47, kw47, _, kb, _, ka, kt, W47, wt47, Bs.set inn (lbF r cv), As.set inn cv⟩ F48 N48 (fun p hp => hp) ⟨hF47, ints_set hFb inn, hFa2⟩ (fun p hp => nomatch hp) ?_ hg.1 (by show _ < wMu Bs (W1.concat _); rw [List.concat_eq_append]; exact hg.2)
            intro z h1 h2
            simp only [List.contains_cons, List.contains_nil, Bool.or_false, Bool.or_eq_false_iff, beq_eq_false_iff_ne, ne_eq] at h2
            refine Mine.foldG ?_
            intro GG
            obtain ⟨q1, q2, q3, q4, q5⟩ := h2
            k_unfold
            clear GG
            dsimp only [kstB]
            simp only [if_neg q1, if_neg q2, if_neg q3, if_neg q4, if_neg q5, List.contains_cons, List.contains_nil, Bool.or_false, Bool.false_eq_true, if_false, beq_eq_false_iff_ne.mpr q1, beq_eq_false_iff_ne.mpr q2, beq_eq_false_iff_ne.mpr q3, beq_eq_false_iff_ne.mpr q4, beq_eq_false_iff_ne.mpr q5]
          · refine Halt.in_ ?_
            rename (_ = List.getD _ _ _) => heq0
            rw [hbD] at heq0
            have hb9 : Bs[inn]? = some (lbF r (joinF (unk r inn rs.length) Bs f)) := by
              rw [hb, ← hcv, ← heq0]
              rfl
            have hg := WInv.same hK hI rfl hr hf hb9
            rw [← hcv] at hg
            rename (Fr _ _ _ _) => F48
            rename (News _ _ _ _) => N48
            refine ksw_end ⟨uw.dropLast, kw + 1, ub', kb, _, ka, kt, W1, wt.set inn false, Bs, As.set inn cv⟩ F48 N48 (fun p hp => hp) ⟨hW1, hFb, hFa2⟩ (fun p hp => nomatch hp) ?_ hg.1 (by show _ < wMu Bs (W1.concat _); rw [List.concat_eq_append]; exact hg.2)
            intro z h1 h2
            simp only [List.contains_cons, List.contains_nil, Bool.or_false, Bool.or_eq_false_iff, beq_eq_false_iff_ne, ne_eq] at h2
            refine Mine.foldG ?_
            intro GG
            obtain ⟨q1, q2, q3, q4, q5⟩ := h2
            k_unfold
            clear GG
            dsimp only [kstB]
            simp only [if_neg q1, if_neg q2, if_neg q3, if_neg q4, if_neg q5, List.contains_cons, List.contains_nil, Bool.or_false, Bool.false_eq_true, if_false, beq_eq_false_iff_ne.mpr q1, beq_eq_false_iff_ne.mpr q2, beq_eq_false_iff_ne.mpr q3, beq_eq_false_iff_ne.mpr q4, beq_eq_false_iff_ne.mpr q5]
end
end Mine
theorem Mine.off_B2 : True := by
  w_top off
  trivial
namespace Mine
section
variable {w : World} {mean : ExcName → Option Value} {mg mb : Str → Option Value} {news : List (Addr × Obj)}
theorem il_spec (x k : Int) (tx tk : Tok) (h0 : 0 ≤ k) (h1 : k ≤ 17) : Ctr w mean mg mb 138 [.int x tx, .int k tk] news 2 40 (Sca news fun _ => .bool (tb x k.toNat)) := by
  intro dp un gd cn cs a ccd cl outer A₀ base h₀ L m s Q E B F X N T hk hdp hun hret
  refine wpAny_call ?_
  k_dflt (refine' code_def (binds := [(Str.ofString "mask", .int x tx), (Str.ofString "register", .int k tk)]) ?k1 ?k2 ?k3 ?k4 ?k5 ?kA ?kF ?kK ?k6 ?k7 ?k8 ?k9 ?kB ?_ ?c2 ?c3 ?c4 ?c5; (( (case kA => exact rfl); (case kF => exact rfl); (case kK => assumption); (case k1 => k_asm); (case k2 => k_asm); (case k3 => k_asm); (case k4 => k_asm); (case k5 => k_asm); (case k6 => k_is); (case k7 => k_is); (case k8 => ktr_room); (case k9 => exact BindsTo.of_eq (by with_unfolding_all rfl)); (case c5 => decide); (case kB => exact locs rfl); (case c2 => exact rfl); (case c3 => exact rfl); (case c4 => exact rfl); k_whole; intro g' L' h' FG' F' N' B' X' T'; (try simp only [List.reverse_cons, List.reverse_nil, List.nil_append, List.cons_append] at F'); (try dsimp only); (try k_fold))))
  k_steps
  refine' hret _ news _ _ ?ea ?en (Mine.end_bool ?ee)
  case ea => k_asm
  case en => exact Mine.news_sub (by assumption) (by ((intro p hp; repeat (first | exact hp | apply List.mem_cons_of_mem))))
  rw [bitAnd_m1, Int.fdiv_eq_ediv_of_nonneg x (Int.le_of_lt (pow_pos_of (by decide) _))]
  rfl
noncomputable def RegsOut (news : List (Addr × Obj)) (P : List Int → Prop) (r : Value) (nw : List (Addr × Obj)) : Prop :=
  ∃ l us c ns, r = .ref l ∧ nw = (l, listOf us.toArray c) :: news ∧ (∀ p ∈ news, p.1 ≠ l) ∧ IntsAre us ns ∧ P ns
noncomputable def regsF (x : Int) (i : Nat) : List Int := ((List.range i).filter (tb x ·)).map Int.ofNat
theorem regsF_succ (x : Int) (i : Nat) : regsF x (i + 1) = if tb x i = true then regsF x i ++ [(i : Int)] else regsF x i := by
  unfold regsF
  rw [List.range_succ, List.filter_append]
  by_cases h : tb x i = true <;> simp [h]
noncomputable def RegJ (x : Int) (base : List (Addr × Obj)) (i : Nat) (ys : List Value) (nw : List (Addr × Obj)) : Prop := nw = base ∧ IntsAre ys (regsF x i)
theorem rg_spec (x : Int) (tx : Tok) : Ctr w mean mg mb 143 [.int x tx] news 8 200 (RegsOut news fun ns => ns = regsF x 18) := by
  intro dp un gd cn cs a ccd cl outer A₀ base h₀ L m s Q E B F X N T hk hdp hun hret
  refine wpAny_call ?_
  k_dflt (refine' code_defC (binds := [(Str.ofString "mask", .int x tx)]) ?k1 ?k2 ?k3 ?k4 ?k5 ?kA ?kF ?kK ?k6 ?k7 ?k8 ?k9 ?kB ?kD ?_ ?c2 ?c3 ?c4; (case kA => exact rfl); (case kF => exact rfl); (case kK => assumption); (case k1 => k_asm); (case k2 => k_asm); (case k3 => k_asm); (case k4 => k_asm); (case k5 => k_asm); (case k6 => k_is); (case k7 => k_is); (case k8 => ktr_room); (case k9 => exact BindsTo.of_eq (by with_unfolding_all rfl)); (case kB => exact rfl); (case kD => decide +kernel); (case c2 => exact rfl); (case c3 => exact rfl); (case c4 => exact rfl))
  intro g' L' h' tk' cells' FG' F' N' Y' B' X' T' l1
  (try k_lt l1)
  k_cells Y'
  (try simp only [List.cons_append, List.nil_append] at N')
  (try dsimp only)
  (try k_fold)
  k_steps
  refine Halt.in_ ?_
  rename_i oc dc
  have hcd : oc.data = .cell (some (.int x tx)) := dc
  k_dflt (refine LCt.ListComp_T (F₀ := by k_asm) (by with_unfolding_all rfl) (by decide) (by rfl) (by decide) (by rfl) ?_)
  k_steps
  refine Halt.in_ ?_
  refine LCt.CompSrcT.range (n := 18) (by rfl) (by k_asm) (by assumption) (by assumption) (by first | decide | exact small_one (by l_bnd) (by l_bnd) (by l_bnd) (by l_bnd)) (by rfl) (by rw [sizeLine_eq]; omega) ?_
  intro g2
  refine restT_ind (RegJ x _) ⟨rfl, .nil⟩ ?_ ?_
  · intro i ys nw v I oI C oC D m₂ h tk E' hi hJ hv hC hx F3 N3 off ne
    obtain ⟨t9, rfl⟩ := hv
    simp only [Int.zero_add] at hx
    obtain ⟨rfl, hJ⟩ := hJ
    k_steps
    refine Halt.in_ ?_
    k_dflt (refine' Mine.Ctr.use ?B ?F ?X ?N ?T ?K (Mine.il_spec _ _ _ _ ?a ?b) ?d ?u ?_; (case B => k_asm); (case F => k_asm); (case X => k_asm); (case N => k_asm); (case T => k_asm); (case K => first | exact rfl | assumption); (case d => ktr_room); (case u => ktr_units); (case a => omega); (case b => omega))
    ((intro r' news' h' tk' F' N' hp'; k_dflt (obtain ⟨he', t', hr'⟩ := hp'); replace he' := Eq.symm he'; subst he'; (try simp only [Mine.setsF_br, Mine.falls_op] at hr'); subst hr'; (try dsimp only); (try k_fold)))
    k_steps
    all_goals (refine Halt.in_ ?_)
    · rename (tb _ _ = _) => hb
      simp only [Int.toNat_natCast] at hb
      refine ⟨_, _, _, rfl, by assumption, by assumption, off, trivial, rfl, ?_⟩
      rw [regsF_succ, if_pos hb]
      exact Mine.ints_snoc hJ
    · rename (tb _ _ = _) => hb
      simp only [Int.toNat_natCast] at hb
      refine ⟨_, _, _, rfl, by assumption, by assumption, off, trivial, rfl, ?_⟩
      rw [regsF_succ, if_neg (by rw [hb]; decide)]
      exact hJ
  · intro ys nw hJ
    obtain ⟨rfl, hJ⟩ := hJ
    intro D h tk F4 N4 off4
    k_steps
    refine hret _ _ _ _ (by k_asm) (news_two (by assumption)) ⟨D, ys, ys.length, _, rfl, rfl, fun p hp => off1_mem off4 p (.tail _ hp), hJ, rfl⟩
end
end Mine
theorem Mine.off_B3 : True := by
  w_top off
  trivial
namespace Mine
end Mine
local macro_rules | `(tactic| walk_at "compareOp NotEq ref ref") => `(tactic| (k_here; refine Mine.Halt.out ?_))
namespace Mine
section
variable {w : World} {mean : ExcName → Option Value} {mg mb : Str → Option Value} {news : List (Addr × Obj)}
noncomputable def NextOut (g : Obj → List (Addr × Obj)) (k : Nat) (ns : List Int) (r : Value) (nw : List (Addr × Obj)) : Prop :=
  ∃ us' c', nw = g (listOf us'.toArray c') ∧ us'.length ≤ k ∧ IntsAre us' ns.dropLast ∧ ∃ t, r = .int (ns.getLastD 0) t
theorem updF_mem {d : Addr} {o : Obj} {l : List (Addr × Obj)} {g : Obj → List (Addr × Obj)} (U : UpdF d o l g) : (d, o) ∈ l := by
  induction U with
  | head _ => exact .head _
  | tail _ _ ih => exact .tail _ ih
theorem updF_upd {d : Addr} {o : Obj} {l : List (Addr × Obj)} {g : Obj → List (Addr × Obj)} (U : UpdF d o l g) (o' : Obj) : Upd d o o' l (g o') := by
  induction U with
  | head h => exact .head h
  | tail h _ ih => exact .tail h ih
theorem updF_same {d : Addr} {o : Obj} {l : List (Addr × Obj)} {g : Obj → List (Addr × Obj)} (U : UpdF d o l g) : g o = l := by
  induction U with
  | head h => rfl
  | tail h _ ih => show _ :: _ = _ :: _; rw [ih]
theorem nx_spec (R : Addr) (us : List Value) (c : Nat) (ns : List Int) (g : Obj → List (Addr × Obj)) (U : UpdF R (listOf us.toArray c) news g) (hi : IntsAre us ns) (hl : us.length ≤ 1000) : Ctr w mean mg mb 157 [.ref R] news 4 160 (NextOut g us.length ns) := by
  intro dp un gd cn cs a ccd cl outer A₀ base h₀ L m s Q E B F X N T hk hdp hun hret
  refine wpAny_call ?_
  k_dflt (refine' code_def (binds := [(Str.ofString "row", .ref R)]) ?k1 ?k2 ?k3 ?k4 ?k5 ?kA ?kF ?kK ?k6 ?k7 ?k8 ?k9 ?kB ?_ ?c2 ?c3 ?c4 ?c5; (( (case kA => exact rfl); (case kF => exact rfl); (case kK => assumption); (case k1 => k_asm); (case k2 => k_asm); (case k3 => k_asm); (case k4 => k_asm); (case k5 => k_asm); (case k6 => k_is); (case k7 => k_is); (case k8 => ktr_room); (case k9 => exact BindsTo.of_eq (by with_unfolding_all rfl)); (case c5 => decide); (case kB => exact locs rfl); (case c2 => exact rfl); (case c3 => exact rfl); (case c4 => exact rfl); k_whole; intro g' L' h' FG' F' N' B' X' T'; (try simp only [List.reverse_cons, List.reverse_nil, List.nil_append, List.cons_append] at F'); (try dsimp only); (try k_fold))))
  have hmem := updF_mem U
  rcases List.eq_nil_or_concat ns with rfl | ⟨n1, i0, rfl⟩
  · have huw : us = [] := List.length_eq_zero_iff.mp hi.length
    subst huw
    k_steps
    refine Halt.in_ ?_
    rename (News _ _ _ _) => N9
    refine ke_ne_ints (xs := []) (ys := []) ⟨_, N9.get (.tail _ hmem), rfl, c, rfl⟩ ⟨_, N9.get (.head _), rfl, 0, rfl⟩ hi .nil (by ktr_units) ?_
    simp only [decide_true, Bool.not_true]
    k_steps
    refine hret _ (g (listOf #[] c)) _ _ (by k_asm) (news_sub (by assumption) (fun p hp => ?_)) ⟨[], c, rfl, Nat.le_refl _, .nil, _, rfl⟩
    have e := updF_same U
    rw [show (listOf #[] c) = listOf ([] : List Value).toArray c from rfl, e] at hp
    exact .tail _ hp
  · rw [List.concat_eq_append] at hi
    have hne : ¬ (n1 ++ [i0] = []) := by simp
    k_steps
    refine Halt.in_ ?_
    rename (News _ _ _ _) => N9
    refine ke_ne_ints (ys := []) ⟨_, N9.get (.tail _ hmem), rfl, c, rfl⟩ ⟨_, N9.get (.head _), rfl, 0, rfl⟩ hi .nil (by ktr_units) ?_
    simp only [hne, decide_false, Bool.not_false]
    k_steps
    refine Halt.in_ ?_
    rename (News _ _ _ _) => N10
    rename (∀ p : Addr × Obj, p ∈ news → p.1 < _) => hlt
    refine pop_in (by k_asm) N10 (.tail (Nat.ne_of_gt (hlt _ hmem)) (updF_upd U _)) hi (by rw [sizeLine_eq]; omega) ?_
    intro h20 t20 F20 N20 hI20
    k_steps
    refine hret _ (g (listOf us.dropLast.toArray (c + 1))) _ _ (by k_asm) (news_sub (by assumption) (fun p hp => .tail _ hp)) ⟨us.dropLast, c + 1, rfl, by simp, ?_, t20, ?_⟩
    · rw [List.concat_eq_append, List.dropLast_concat]
      exact hI20
    · rw [List.concat_eq_append]
      simp
end
end Mine
section
theorem Mine.off_G0 : True := by
  w_top off
  trivial
namespace Mine
/-! expressions that work on one int list (row) of the ledger, told without states -/
section
variable {w : World} {A : Around} {h₀ : Heap} {L a : Addr} {cn : Str} {cs : Scope} {cd : Value} {m : Str → Option Value}
noncomputable def CallsG (w : World) (mean : ExcName → Option Value) (mg mb : Str → Option Value) (A : Around) (h₀ : Heap) (L : Addr) (kd ku : Nat) : Prop :=
  ∀ (f : Addr) (vs : List Value) (news : List (Addr × Obj)) (Post : Value → List (Addr × Obj) → Prop) (kd' ku' : Nat), Ctr w mean mg mb f vs news kd' ku' Post → kd' ≤ kd → ku' ≤ ku → ∀ (m : Str → Option Value) (E : Value → Shared → Prop) (s : Shared) (Q : Value → Shared → Prop), Fr h₀ L s.heap m → News h₀ L s.heap news → (∀ r nw h n, Post r nw → Fr h₀ L h m → News h₀ L h nw → Q r { s with heap := h, toks := n }) → wpAny (model PySem.Challenge.pw_pb0326_01 w) A (call (.ref f) vs) Q E s
theorem CallsG.mk {mean : ExcName → Option Value} {mg mb : Str → Option Value} {dp un : Nat} {gd : Option (List Code)} {ccd : Value} {cl : List (Str × Addr)} {outer : List Env} {A₀ : Around} {base : Heap} {kd ku : Nat}
    (B : Below A₀ base outer h₀) (X : (hd.heap_39 w.params).In h₀) (T : Top hd.view_39 (looseW hd.view_39 [Str.ofString "EVERYTHING", Str.ofString "HELD"]) mean mg mb h₀) (hk : cs.kind = .function) (hdp : dp + kd < recursionLimit) (hun : un + ku < cLine) :
    CallsG w mean mg mb (ktrTop dp un gd cn cs L a ccd cl outer) h₀ L kd ku := by
  intro f vs news Post kd' ku' C h1 h2 m E s Q F N ret
  exact C dp un gd cn cs a ccd cl outer A₀ base h₀ L m s Q E B F X N T hk (by omega) (by omega) fun r nw h n F N hp => ret r nw h n hp F N
noncomputable def Gv (w : World) (A : Around) (h₀ : Heap) (L : Addr) (S : List (Addr × Obj) → Prop) (env : Env) (m : Str → Option Value) (e : PySem.Expr) (P : Value → Prop) : Prop :=
  ∀ (E : Value → Shared → Prop) (s : Shared) (Q : Value → Shared → Prop) (nw : List (Addr × Obj)), S nw → Fr h₀ L s.heap m → News h₀ L s.heap nw → (∀ v nw' h n, P v → S nw' → Fr h₀ L h m → News h₀ L h nw' → Q v { s with heap := h, toks := n }) → wpAny (model PySem.Challenge.pw_pb0326_01 w) A (eval e env) Q E s
noncomputable def Gx (w : World) (A : Around) (h₀ : Heap) (L : Addr) (S : List (Addr × Obj) → Prop) (env : Env) (m : Str → Option Value) (ss : List Stmt) (K : Value → List (Addr × Obj) → Prop) : Prop :=
  ∀ (E : Value → Shared → Prop) (s : Shared) (Q : Flow → Shared → Prop) (nw : List (Addr × Obj)), S nw → Fr h₀ L s.heap m → News h₀ L s.heap nw → (∀ v m' nw' h n, K v nw' → Fr h₀ L h m' → News h₀ L h nw' → Q (.ret v) { s with heap := h, toks := n }) → wpAny (model PySem.Challenge.pw_pb0326_01 w) A (execs ss env) Q E s
/-- the int list at R, beside the ledger news1 -/
noncomputable def Rw (R : Addr) (k : Nat) (news1 nw : List (Addr × Obj)) : Prop := ∃ us c ns, nw = (R, listOf us.toArray c) :: news1 ∧ IntsAre us ns ∧ us.length ≤ k ∧ ∀ x ∈ ns, 0 ≤ x
noncomputable def IsN (v : Value) : Prop := ∃ i t, v = .int i t ∧ 0 ≤ i
noncomputable def IsLt (n : Int) (v : Value) : Prop := ∃ i t, v = .int i t ∧ 0 ≤ i ∧ i < n
noncomputable def IsAny (v : Value) : Prop := ∃ i t, v = .int i t
variable {S : List (Addr × Obj) → Prop} {P : Value → Prop} {K : Value → List (Addr × Obj) → Prop} {R : Addr} {k : Nat} {news1 : List (Addr × Obj)}
theorem Gv.pure {env : Env} {e : PySem.Expr} (h : ∀ nw, S nw → Ev w A h₀ L env m nw e P) : Gv w A h₀ L S env m e P :=
  fun E s Q nw hS F N q => h nw hS E s Q F N fun v h n hv => q v nw h n hv hS
theorem Gv.mono {env : Env} {e : PySem.Expr} {P' : Value → Prop} (h : Gv w A h₀ L S env m e P') (hp : ∀ v, P' v → P v) : Gv w A h₀ L S env m e P := fun E s Q nw hS F N q => h E s Q nw hS F N fun v nw' h n hv => q v nw' h n (hp v hv)
theorem Gv.next {mean : ExcName → Option Value} {mg mb : Str → Option Value} {kd ku : Nat} {p : Program} {loose : List Str} {x y : Str} {ps ps' py : Pos} (hC : CallsG w mean mg mb A h₀ L kd ku) (X : (hd.heap_39 w.params).In h₀) (T : TopRead p loose mg mb h₀) (hoff : ∀ p ∈ news1, p.1 ≠ R) (hk1 : k ≤ 1000) (h1 : 4 ≤ kd) (h2 : 160 ≤ ku)
    (hy : m y = some (.ref R)) (hn : nsIn (hd.heap_39 w.params) mainGlobals x = some (some (.ref 157))) (hkeep : keepIn (hd.heap_39 w.params) (.ref 157) = true) (hk : cs.kind = ScopeKind.function) (hl : (envOf cn cs L a cd).kindOf x = some NameKind.globalImplicit) (hd : (x == Str.ofString "__debug__") = false) (hly : (envOf cn cs L a cd).kindOf y = some NameKind.local) (hdy : (y == Str.ofString "__debug__") = false)
    (s1 : eval (PySem.Expr.Call (.Name x ps) [.Name y py] [] ps') (envOf cn cs L a cd) = (do let f ← eval (.Name x ps) (envOf cn cs L a cd); callWith ps' f [] (backTo ps' (starEach [.Name y py] (envOf cn cs L a cd))) (backToKw ps' (keywordEach [] (envOf cn cs L a cd)))) := by rfl)
    (s2 : starEach [PySem.Expr.Name y py] (envOf cn cs L a cd) = (false, eval (.Name y py) (envOf cn cs L a cd)) :: starEach [] (envOf cn cs L a cd) := by rfl) (s3 : ((backTo ps' (starEach [] (envOf cn cs L a cd))).any fun x => x.1) = false := by rfl) :
    Gv w A h₀ L (Rw R k news1) (envOf cn cs L a cd) m (.Call (.Name x ps) [.Name y py] [] ps') IsN := by
  intro E s Q nw hS F N q
  obtain ⟨us, c, ns, rfl, hi, hus, hnn⟩ := hS
  refine Call_ (name_K F X T hn ?_ hk hl hd) s1
  refine callWith_K X hkeep ?_ s2 s3
  refine args_cons (ld F hy ?_ hk hly hdy) s2
  refine args_nil ⟨Frag.In.keeps X (Fr.keep F), ?_⟩
  refine hC 157 _ _ _ 4 160 (nx_spec R us c ns (fun o' => (R, o') :: news1) (.head hoff) hi (by omega)) h1 h2 m E _ _ F N ?_
  rintro _ _ h n ⟨us', c', rfl, hl', hi', t, rfl⟩ F2 N2
  refine q _ _ h n ⟨_, t, rfl, ?_⟩ ⟨us', c', ns.dropLast, rfl, hi', by omega, fun x hx => hnn x (List.dropLast_subset _ hx)⟩ F2 N2
  rcases List.eq_nil_or_concat ns with rfl | ⟨n1, i0, rfl⟩
  · exact Int.le_refl _
  · rw [List.concat_eq_append, List.getLastD_concat]
    exact hnn _ (by simp)
theorem Gv.modc {env : Env} {e : PySem.Expr} {p1 p2 : Pos} {n : Int} {k0 : Nat} (h : Gv w A h₀ L S env m e IsN) (hn : 0 < n) : Gv w A h₀ L S env m (.BinOp e .Mod (.Constant (.int n) k0 p1) p2) (IsLt n) := by
  intro E s Q nw hS F N q
  refine wpAny_BinOp (h E s _ nw hS F N ?_)
  rintro _ nw' h n' ⟨i, t, rfl, hi⟩ hS' F1 N1
  refine wpAny_Constant_int (mod_int (by omega) ?_)
  exact q _ nw' h _ ⟨_, _, rfl, Int.fmod_nonneg_of_pos _ hn, Int.fmod_lt_of_pos _ hn⟩ hS' F1 N1
theorem Gv.modv {env : Env} {e e2 : PySem.Expr} {p2 : Pos} {n : Int} (h : Gv w A h₀ L S env m e IsN) (h2 : ∀ nw, S nw → Ev w A h₀ L env m nw e2 (IsI n)) (hn : 0 < n) : Gv w A h₀ L S env m (.BinOp e .Mod e2 p2) IsAny := by
  intro E s Q nw hS F N q
  refine wpAny_BinOp (h E s _ nw hS F N ?_)
  rintro _ nw' h n' ⟨i, t, rfl, hi⟩ hS' F1 N1
  refine h2 nw' hS' E _ _ F1 N1 ?_
  rintro _ h n' ⟨t2, rfl⟩ F2 N2
  refine mod_int (by omega) ?_
  exact q _ nw' h _ ⟨_, _, rfl⟩ hS' F2 N2
theorem Gv.subv {env : Env} {e e2 : PySem.Expr} {p2 : Pos} {n : Int} (h : Gv w A h₀ L S env m e IsAny) (h2 : ∀ nw, S nw → Ev w A h₀ L env m nw e2 (IsI n)) : Gv w A h₀ L S env m (.BinOp e .Sub e2 p2) IsAny := by
  intro E s Q nw hS F N q
  refine wpAny_BinOp (h E s _ nw hS F N ?_)
  rintro _ nw' h n' ⟨i, t, rfl⟩ hS' F1 N1
  refine h2 nw' hS' E _ _ F1 N1 ?_
  rintro _ h n' ⟨t2, rfl⟩ F2 N2
  exact sub_int (q _ nw' h _ ⟨_, _, rfl⟩ hS' F2 N2)
theorem Gv.mulc {env : Env} {e : PySem.Expr} {p1 p2 : Pos} {k0 : Nat} (h : Gv w A h₀ L S env m e IsN) : Gv w A h₀ L S env m (.BinOp (.Constant (.int 4) k0 p1) .Mult e p2) (fun v => ∃ i t, v = .int (4 * i) t ∧ 0 ≤ i) := by
  intro E s Q nw hS F N q
  refine wpAny_BinOp (wpAny_Constant_int (h E _ _ nw hS F N ?_))
  rintro _ nw' h n' ⟨i, t, rfl, hi⟩ hS' F1 N1
  exact mul_int (q _ nw' h _ ⟨_, _, rfl, hi⟩ hS' F1 N1) (IntMulOk.of_left (by decide))
theorem strs_at {vs : List Value} {xs : List Str} (h : StrsAre vs xs) : ∀ {i : Nat}, i < xs.length → ∃ x t, x ∈ xs ∧ vs[i]? = some (.str x t) := by
  induction h with
  | nil => intro i hi; exact absurd hi (Nat.not_lt_zero _)
  | cons x t _ ih =>
    intro i hi
    cases i with
    | zero => exact ⟨x, t, .head _, by simp⟩
    | succ i =>
      obtain ⟨y, u, h1, h2⟩ := ih (i := i) (by simpa using hi)
      exact ⟨y, u, .tail _ h1, by simpa using h2⟩
theorem ints_at2 {vs : List Value} {xs : List Int} (h : IntsAre vs xs) : ∀ {i : Nat}, i < xs.length → ∃ x t, x ∈ xs ∧ vs[i]? = some (.int x t) := by
  induction h with
  | nil => intro i hi; exact absurd hi (Nat.not_lt_zero _)
  | cons x t _ ih =>
    intro i hi
    cases i with
    | zero => exact ⟨x, t, .head _, by simp⟩
    | succ i =>
      obtain ⟨y, u, h1, h2⟩ := ih (i := i) (by simpa using hi)
      exact ⟨y, u, .tail _ h1, by simpa using h2⟩
theorem rw_swap {l : Addr} {o : Obj} {nw : List (Addr × Obj)} (h : Rw R k news1 nw) : ∃ nw2, Rw R k ((l, o) :: news1) nw2 ∧ (∀ p ∈ nw2, p ∈ (l, o) :: nw) ∧ (R ∈ nw.map (·.1)) := by
  obtain ⟨us, c, ns, rfl, hi, hus, hnn⟩ := h
  refine ⟨(R, listOf us.toArray c) :: (l, o) :: news1, ⟨us, c, ns, rfl, hi, hus, hnn⟩, fun p hp => ?_, by simp⟩
  simp only [List.mem_cons] at hp ⊢
  rcases hp with h | h | h <;> simp [h]
theorem rw_drop {l : Addr} {o : Obj} {nw : List (Addr × Obj)} (h : Rw R k ((l, o) :: news1) nw) : (l, o) ∈ nw ∧ ∃ nw2, Rw R k news1 nw2 ∧ ∀ p ∈ nw2, p ∈ nw := by
  obtain ⟨us, c, ns, rfl, hi, hus, hnn⟩ := h
  refine ⟨.tail _ (.head _), (R, listOf us.toArray c) :: news1, ⟨us, c, ns, rfl, hi, hus, hnn⟩, fun p hp => ?_⟩
  rcases List.mem_cons.mp hp with rfl | hp
  · exact .head _
  · exact .tail _ (.tail _ hp)
/-- ['A', 'B', ..][e] -/
theorem Gv.pickS {env : Env} {e : PySem.Expr} {es : List PySem.Expr} {xs : List Str} {p1 p2 : Pos} (hc : CS es xs) (hs : xs.length ≤ 1000) (h : ∀ l o, l ≠ R → Gv w A h₀ L (Rw R k ((l, o) :: news1)) env m e (IsLt xs.length))
    (hsub : ∀ l i u, subscripted e false (.ref l) (.int i u) = operate [.ref l, .int i u] (getItem (.ref l) (.int i u))) : Gv w A h₀ L (Rw R k news1) env m (.Subscript (.List es p1) e p2) (fun v => ∃ x t, v = .str x t ∧ x ∈ xs) := by
  intro E s Q nw hS F N q
  refine Subscript_ (q_slist F N hc (by rw [sizeLine_eq]; omega) fun D h' vs n F1 N1 hv hlt => ?_)
  obtain ⟨nw2, hS2, hsb, hR⟩ := rw_swap (l := D) (o := W.listOf vs.toArray 0) hS
  obtain ⟨pR, hpR, hpe⟩ := List.mem_map.mp hR
  refine h D _ (by have := hlt pR hpR; rw [hpe] at this; exact Nat.ne_of_gt this) E _ _ nw2 hS2 F1 (news_sub N1 hsb) ?_
  rintro _ nw3 h3 n3 ⟨i, t, rfl, hi0, hi1⟩ hS3 F3 N3
  obtain ⟨hmD, nw4, hS4, hsb4⟩ := rw_drop hS3
  obtain ⟨x, tx, hx, hat⟩ := strs_at hv (i := i.toNat) (by omega)
  exact item_in N3 hmD hat hi0 (by omega) (q _ nw4 h3 _ ⟨x, tx, rfl, hx⟩ hS4 F3 (news_sub N3 hsb4)) (hsub _ _ _)
theorem Gv.pickI {env : Env} {e : PySem.Expr} {es : List PySem.Expr} {xs : List Int} {p1 p2 : Pos} (hc : CI es xs) (hs : xs.length ≤ 1000) (h : ∀ l o, l ≠ R → Gv w A h₀ L (Rw R k ((l, o) :: news1)) env m e (IsLt xs.length))
    (hsub : ∀ l i u, subscripted e false (.ref l) (.int i u) = operate [.ref l, .int i u] (getItem (.ref l) (.int i u))) : Gv w A h₀ L (Rw R k news1) env m (.Subscript (.List es p1) e p2) (fun v => ∃ x t, v = .int x t ∧ x ∈ xs) := by
  intro E s Q nw hS F N q
  refine Subscript_ (q_ilist F N hc (by rw [sizeLine_eq]; omega) fun D h' vs n F1 N1 hv hlt => ?_)
  obtain ⟨nw2, hS2, hsb, hR⟩ := rw_swap (l := D) (o := W.listOf vs.toArray 0) hS
  obtain ⟨pR, hpR, hpe⟩ := List.mem_map.mp hR
  refine h D _ (by have := hlt pR hpR; rw [hpe] at this; exact Nat.ne_of_gt this) E _ _ nw2 hS2 F1 (news_sub N1 hsb) ?_
  rintro _ nw3 h3 n3 ⟨i, t, rfl, hi0, hi1⟩ hS3 F3 N3
  obtain ⟨hmD, nw4, hS4, hsb4⟩ := rw_drop hS3
  obtain ⟨x, tx, hx, hat⟩ := ints_at2 hv (i := i.toNat) (by omega)
  exact item_in N3 hmD hat hi0 (by omega) (q _ nw4 h3 _ ⟨x, tx, rfl, hx⟩ hS4 F3 (news_sub N3 hsb4)) (hsub _ _ _)
/-- r[e] for a name r that holds a list of the ledger -/
theorem Gv.idx {x : Str} {e : PySem.Expr} {xs : List Int} {vs : List Value} {c : Nat} {l : Addr} {p1 p2 : Pos} (hx : m x = some (.ref l)) (hS : ∀ nw, S nw → (l, listOf vs.toArray c) ∈ nw) (hv : IntsAre vs xs) (hs : xs.length ≤ 1000) (h : Gv w A h₀ L S (envOf cn cs L a cd) m e (IsLt xs.length)) (hk : cs.kind = ScopeKind.function) (hl : (envOf cn cs L a cd).kindOf x = some NameKind.local) (hd : (x == Str.ofString "__debug__") = false)
    (hsub : ∀ l i u, subscripted e false (.ref l) (.int i u) = operate [.ref l, .int i u] (getItem (.ref l) (.int i u))) : Gv w A h₀ L S (envOf cn cs L a cd) m (.Subscript (.Name x p1) e p2) (fun v => ∃ x t, v = .int x t ∧ x ∈ xs) := by
  intro E s Q nw hS1 F N q
  refine Subscript_ (ld F hx ?_ hk hl hd)
  refine h E _ _ nw hS1 F N ?_
  rintro _ nw3 h3 n3 ⟨i, t, rfl, hi0, hi1⟩ hS3 F3 N3
  obtain ⟨y, ty, hy, hat⟩ := ints_at2 hv (i := i.toNat) (by omega)
  exact item_in N3 (hS nw3 hS3) hat hi0 (by omega) (q _ nw3 h3 _ ⟨y, ty, rfl, hy⟩ hS3 F3 N3) (hsub _ _ _)
theorem Gv.ite {env : Env} {e x y : PySem.Expr} {p : Pos} {b : Bool} (h : ∀ nw, S nw → Bt w A h₀ L env m nw e b) (h1 : b = true → Gv w A h₀ L S env m x P) (h2 : b = false → Gv w A h₀ L S env m y P) : Gv w A h₀ L S env m (.IfExp e x y p) P := by
  intro E s Q nw hS F N q
  refine IfExp_ (h nw hS _ (.inr rfl) E s _ F N fun h n F1 N1 => ?_)
  cases b
  · exact h2 rfl E _ _ nw hS F1 N1 fun v nw' h n hv => q v nw' h n hv
  · exact h1 rfl E _ _ nw hS F1 N1 fun v nw' h n hv => q v nw' h n hv
theorem Gx.if {env : Env} {e : PySem.Expr} {p : Pos} {b : Bool} {body rest : List Stmt} (h : ∀ nw, S nw → Bt w A h₀ L env m nw e b) (h1 : b = true → Gx w A h₀ L S env m body K) (h2 : b = false → Gx w A h₀ L S env m rest K) : Gx w A h₀ L S env m (.If e body [] p :: rest) K := by
  intro E s Q nw hS F N q
  refine wpAny_execs_cons (wpAny_If (h nw hS _ (.inr rfl) E s _ F N fun h n F1 N1 => ?_))
  cases b
  · exact wpAny_execs_nil (h2 rfl E _ _ nw hS F1 N1 fun v m' nw' h n hv => q v m' nw' h n hv)
  · exact h1 rfl E _ _ nw hS F1 N1 fun v m' nw' h n hv => q v m' nw' h n hv
theorem Gx.set {x : Str} {e : PySem.Expr} {p p' : Pos} {rest : List Stmt} (he : Gv w A h₀ L S (envOf cn cs L a cd) m e P) (h : ∀ v, P v → Gx w A h₀ L S (envOf cn cs L a cd) (upd m x v) rest K) (hk : cs.kind = ScopeKind.function) (hl : (envOf cn cs L a cd).kindOf x = some NameKind.local) (hw : swapsWith e (some (PySem.Expr.Name x p')) p.line (envOf cn cs L a cd) = pure false) : Gx w A h₀ L S (envOf cn cs L a cd) m (.Assign [.Name x p'] e p :: rest) K := by
  intro E s Q nw hS F N q
  refine wpAny_execs_cons (wpAny_Assign_Name (he E s _ nw hS F N fun v nw1 h1 n hv hS1 F1 N1 => ?_) hw)
  refine storeX_L (cl := []) F1 N1 (fun h' F2 N2 => ?_) hk hl
  exact h v hv E _ _ nw1 hS1 F2 N2 fun v m' nw' h n hv => q v m' nw' h n hv
/-- x = [1, 2, ..]: the list stays in the ledger -/
theorem Gx.setI {x : Str} {es : List PySem.Expr} {xs : List Int} {p p' p1 : Pos} {rest : List Stmt} (hc : CI es xs) (hs : xs.length ≤ 1000) (h : ∀ l vs, l ≠ R → IntsAre vs xs → Gx w A h₀ L (Rw R k ((l, listOf vs.toArray 0) :: news1)) (envOf cn cs L a cd) (upd m x (.ref l)) rest K) (hk : cs.kind = ScopeKind.function) (hl : (envOf cn cs L a cd).kindOf x = some NameKind.local) (hw : swapsWith (.List es p1) (some (PySem.Expr.Name x p')) p.line (envOf cn cs L a cd) = pure false) : Gx w A h₀ L (Rw R k news1) (envOf cn cs L a cd) m (.Assign [.Name x p'] (.List es p1) p :: rest) K := by
  intro E s Q nw hS F N q
  refine wpAny_execs_cons (wpAny_Assign_Name (q_ilist F N hc (by rw [sizeLine_eq]; omega) fun D h' vs n F1 N1 hv hlt => ?_) hw)
  obtain ⟨nw2, hS2, hsb, hR⟩ := rw_swap (l := D) (o := W.listOf vs.toArray 0) hS
  obtain ⟨pR, hpR, hpe⟩ := List.mem_map.mp hR
  refine storeX_L (cl := []) F1 N1 (fun h' F2 N2 => ?_) hk hl
  exact h D vs (by have := hlt pR hpR; rw [hpe] at this; exact Nat.ne_of_gt this) hv E _ _ nw2 hS2 F2 (news_sub N2 hsb) fun v m' nw' h n hv => q v m' nw' h n hv
theorem Gx.ret4 {env : Env} {e1 e2 e3 e4 : PySem.Expr} {P1 P2 P3 P4 : Value → Prop} {p1 p2 : Pos} {k0 : Nat} {rest : List Stmt} (h1 : Gv w A h₀ L S env m e1 P1) (h2 : Gv w A h₀ L S env m e2 P2) (h3 : Gv w A h₀ L S env m e3 P3) (h4 : Gv w A h₀ L S env m e4 P4)
    (h : ∀ v1 v2 v3 v4 nw D, P1 v1 → P2 v2 → P3 v3 → P4 v4 → S nw → (∀ p ∈ nw, p.1 < D) → K (.ref D) ((D, ({ cls := .type "tuple", data := .seq #[v1, v2, v3, v4] } : Obj)) :: nw))
    (s1 : starEach [e1, e2, e3, e4] env = (false, eval e1 env) :: starEach [e2, e3, e4] env := by rfl) (s2 : starEach [e2, e3, e4] env = (false, eval e2 env) :: starEach [e3, e4] env := by rfl) (s3 : starEach [e3, e4] env = (false, eval e3 env) :: starEach [e4] env := by rfl) (s4 : starEach [e4] env = (false, eval e4 env) :: starEach [] env := by rfl) : Gx w A h₀ L S env m (.Return (some (.Tuple [e1, e2, e3, e4] k0 p1)) p2 :: rest) K := by
  intro E s Q nw hS F N q
  refine wpAny_execs_cons (wpAny_Return_some (Tuple_ (args_cons (h1 E s _ nw hS F N fun v1 nw1 g1 n1 hv1 hS1 F1 N1 => ?_) s1)))
  refine args_cons (h2 E _ _ nw1 hS1 F1 N1 fun v2 nw2 g2 n2 hv2 hS2 F2 N2 => ?_) s2
  refine args_cons (h3 E _ _ nw2 hS2 F2 N2 fun v3 nw3 g3 n3 hv3 hS3 F3 N3 => ?_) s3
  refine args_cons (h4 E _ _ nw3 hS3 F3 N3 fun v4 nw4 g4 n4 hv4 hS4 F4 N4 => args_nil ?_) s4
  refine kup_newTuple F4 N4 (fun D h' F' N' hlt => ?_) (by rw [sizeLine_eq]; exact Nat.le_of_ble_eq_true rfl)
  exact q _ _ _ h' _ (h v1 v2 v3 v4 nw4 D hv1 hv2 hv3 hv4 hS4 hlt) F' N'
theorem off_cons {l : Addr} {o : Obj} {rest : List (Addr × Obj)} (h : l ≠ R) (hr : ∀ p ∈ rest, p.1 ≠ R) : ∀ p ∈ (l, o) :: rest, p.1 ≠ R := by
  intro p hp
  rcases List.mem_cons.mp hp with rfl | hp
  · exact h
  · exact hr p hp
theorem rw_mem {q : Addr × Obj} (hq : q ∈ news1) : ∀ nw, Rw R k news1 nw → q ∈ nw := by
  rintro _ ⟨us, c, ns, rfl, -⟩
  exact .tail _ hq
theorem Ev.fdiv2 {env : Env} {l : PySem.Expr} {p p1 : Pos} {k0 : Nat} {i : Int} {news : List (Addr × Obj)} (h1 : Ev w A h₀ L env m news l (IsI i)) (hg : Builtin.divisionGoesByPylong i 2 = false) : Ev w A h₀ L env m news (.BinOp l .FloorDiv (.Constant (.int 2) k0 p1) p) (IsI (i.fdiv 2)) := by
  intro E s Q F N q
  refine wpAny_BinOp (h1 E s _ F N ?_)
  rintro _ h n ⟨t, rfl⟩ F1 N1
  exact wpAny_Constant_int (floordiv_int (by decide) (q _ _ _ ⟨_, rfl⟩ F1 N1) (.inl hg))
/-- the contract of a def whose body is told by Gx -/
theorem Gx.ctr {mean : ExcName → Option Value} {mg mb : Str → Option Value} {f : Addr} {vs : List Value} {kd ku : Nat} {news : List (Addr × Obj)} {Post : Value → List (Addr × Obj) → Prop} {name qual : Str} {params : Arguments} {body : List Stmt} {scope : Scope} {dV kV doc pm cdv ct oc : Value} {an od : Option Addr} {osl : Array (Option Value)} (binds : List (Str × Value)) (hS : S news)
    (hf : List.lookup f (hd.heap_39 w.params) = some { cls := oc, dict := od, data := Data.func (fnOf name qual params body scope dV kV doc pm an cdv ct), slots := osl }) (hcd : codeIn (hd.heap_39 w.params) cdv qual = true)
    (hb : ∀ s, BindsTo s (fnOf name qual params body scope dV kV doc pm an cdv ct) { pos := vs, kw := [] } binds) (hloc : ∀ y : Str × Value, y ∈ binds → List.lookup y.1 scope.names = some NameKind.local) (c2 : scope.isCoroutine = false) (c3 : scope.isGenerator = false) (c4 : scope.kind = ScopeKind.function) (c5 : ∀ x : Str × NameKind, x ∈ scope.names → x.2 ≠ NameKind.cell)
    (hx : ∀ (A : Around) (h₀ : Heap) (L : Addr), CallsG w mean mg mb A h₀ L kd ku → (hd.heap_39 w.params).In h₀ → TopRead hd.view_39 (looseW hd.view_39 [Str.ofString "EVERYTHING", Str.ofString "HELD"]) mg mb h₀ → Gx w A h₀ L S (envOf qual scope L f cdv) (fun y => List.lookup y binds.reverse) body (fun v nw => ∃ nw2, Post v nw2 ∧ ∀ p ∈ nw2, p ∈ nw)) :
    Ctr w mean mg mb f vs news (kd + 1) (ku + 3) Post := by
  intro dp un gd cn cs a ccd cl outer A₀ base h₀ L m s Q E B F X N T hk hdp hun hret
  refine wpAny_call ?_
  refine code_def (binds := binds) B F X N T rfl rfl hk hf hcd (Nat.lt_of_le_of_lt (Nat.le_add_right dp _) hdp) (hb _) hloc ?_ c2 c3 c4 c5
  intro g L' h' FG F' N' B' X' T'
  have hC : CallsG w mean mg mb (Around.deeper (ktrTop dp un gd cn cs L a ccd cl outer) (envOf qual scope L' f cdv)) g L' kd ku :=
    CallsG.mk (cs := scope) (cn := qual) (a := f) (ccd := cdv) (cl := []) (dp := dp + 1) (un := un + 3) (gd := gd) (outer := envX cn cs L a ccd cl :: outer) B' X' T' c4 (by omega) (by omega)
  refine hx _ g L' hC X' (topRead_of T') _ _ _ news hS F' N' ?_
  rintro v m' nw h n ⟨nw2, hp, hs⟩ F2 N2
  refine leaveK_ F2 (news_sub N2 hs) fun F3 N3 => ?_
  exact hret _ _ _ _ F3 N3 hp
/-- [(e1, .., e4), (g1, .., g4)][e] -/
theorem Gx.ret9 {env : Env} {e e1 e2 e3 e4 g1 g2 g3 g4 : PySem.Expr} {P1 P2 P3 P4 R1 R2 R3 R4 : Value → Prop} {p1 p2 p3 p4 p5 : Pos} {k0 k1 : Nat} {rest : List Stmt} (hoff : ∀ p ∈ news1, p.1 ≠ R)
    (h1 : Gv w A h₀ L (Rw R k news1) env m e1 P1) (h2 : Gv w A h₀ L (Rw R k news1) env m e2 P2) (h3 : Gv w A h₀ L (Rw R k news1) env m e3 P3) (h4 : Gv w A h₀ L (Rw R k news1) env m e4 P4)
    (i1 : ∀ nw, Ev w A h₀ L env m nw g1 R1) (i2 : ∀ nw, Ev w A h₀ L env m nw g2 R2) (i3 : ∀ nw, Ev w A h₀ L env m nw g3 R3) (i4 : ∀ nw, Ev w A h₀ L env m nw g4 R4)
    (he : ∀ l o l' o' l'' o'', l ≠ R → l' ≠ R → l'' ≠ R → Gv w A h₀ L (Rw R k ((l, o) :: (l', o') :: (l'', o'') :: news1)) env m e (IsLt 2))
    (h : ∀ v1 v2 v3 v4 nw D, (P1 v1 ∧ P2 v2 ∧ P3 v3 ∧ P4 v4 ∨ R1 v1 ∧ R2 v2 ∧ R3 v3 ∧ R4 v4) → Rw R k news1 nw → (∀ p ∈ nw, p.1 < D) → K (.ref D) ((D, ({ cls := .type "tuple", data := .seq #[v1, v2, v3, v4] } : Obj)) :: nw))
    (hK : ∀ v nw nw', K v nw → (∀ p ∈ nw, p ∈ nw') → K v nw')
    (hsub : ∀ l i u, subscripted e false (.ref l) (.int i u) = operate [.ref l, .int i u] (getItem (.ref l) (.int i u)))
    (s1 : starEach [e1, e2, e3, e4] env = (false, eval e1 env) :: starEach [e2, e3, e4] env := by rfl) (s2 : starEach [e2, e3, e4] env = (false, eval e2 env) :: starEach [e3, e4] env := by rfl) (s3 : starEach [e3, e4] env = (false, eval e3 env) :: starEach [e4] env := by rfl) (s4 : starEach [e4] env = (false, eval e4 env) :: starEach [] env := by rfl)
    (t1 : starEach [g1, g2, g3, g4] env = (false, eval g1 env) :: starEach [g2, g3, g4] env := by rfl) (t2 : starEach [g2, g3, g4] env = (false, eval g2 env) :: starEach [g3, g4] env := by rfl) (t3 : starEach [g3, g4] env = (false, eval g3 env) :: starEach [g4] env := by rfl) (t4 : starEach [g4] env = (false, eval g4 env) :: starEach [] env := by rfl) :
    Gx w A h₀ L (Rw R k news1) env m (.Return (some (.Subscript (.List [.Tuple [e1, e2, e3, e4] k0 p1, .Tuple [g1, g2, g3, g4] k1 p2] p3) e p4)) p5 :: rest) K := by
  intro E s Q nw hS F N q
  refine wpAny_execs_cons (wpAny_Return_some (Subscript_ (List_ (args_cons (Tuple_ (args_cons (h1 E s _ nw hS F N fun v1 nw1 z1 n1 hv1 hS1 F1 N1 => ?_) s1)) rfl))))
  refine args_cons (h2 E _ _ nw1 hS1 F1 N1 fun v2 nw2 z2 n2 hv2 hS2 F2 N2 => ?_) s2
  refine args_cons (h3 E _ _ nw2 hS2 F2 N2 fun v3 nw3 z3 n3 hv3 hS3 F3 N3 => ?_) s3
  refine args_cons (h4 E _ _ nw3 hS3 F3 N3 fun v4 nw4 z4 n4 hv4 hS4 F4 N4 => args_nil ?_) s4
  refine kup_newTuple F4 N4 (fun D h5 F5 N5 hlt5 => ?_) (by rw [sizeLine_eq]; exact Nat.le_of_ble_eq_true rfl)
  refine args_cons (Tuple_ (args_cons (i1 _ E _ _ F5 N5 fun u1 z6 n6 hu1 F6 N6 => ?_) t1)) rfl
  refine args_cons (i2 _ E _ _ F6 N6 fun u2 z7 n7 hu2 F7 N7 => ?_) t2
  refine args_cons (i3 _ E _ _ F7 N7 fun u3 z8 n8 hu3 F8 N8 => ?_) t3
  refine args_cons (i4 _ E _ _ F8 N8 fun u4 z9 n9 hu4 F9 N9 => args_nil ?_) t4
  refine kup_newTuple F9 N9 (fun D2 h10 F10 N10 hlt10 => args_nil ?_) (by rw [sizeLine_eq]; exact Nat.le_of_ble_eq_true rfl)
  refine newList_K F10 N10 (fun l h11 F11 N11 hlt11 => ?_) (by rw [sizeLine_eq]; exact Nat.le_of_ble_eq_true rfl)
  obtain ⟨us, c, ns, rfl, hi, hus, hnn⟩ := hS4
  have e1' : R < D := hlt5 _ (.head _)
  have e2' : R < D2 := hlt10 _ (.tail _ (.head _))
  have e3' : R < l := hlt11 _ (.tail _ (.tail _ (.head _)))
  refine he l (W.listOf ([Value.ref D, Value.ref D2] : List Value).toArray 0) D2 ({ cls := .type "tuple", data := .seq ([u1, u2, u3, u4] : List Value).toArray } : Obj) D ({ cls := .type "tuple", data := .seq ([v1, v2, v3, v4] : List Value).toArray } : Obj) (Nat.ne_of_gt e3') (Nat.ne_of_gt e2') (Nat.ne_of_gt e1') E _ _ ((R, listOf us.toArray c) :: (l, W.listOf ([Value.ref D, Value.ref D2] : List Value).toArray 0) :: (D2, ({ cls := .type "tuple", data := .seq ([u1, u2, u3, u4] : List Value).toArray } : Obj)) :: (D, ({ cls := .type "tuple", data := .seq ([v1, v2, v3, v4] : List Value).toArray } : Obj)) :: news1) ⟨us, c, ns, rfl, hi, hus, hnn⟩ F11 (news_sub N11 fun p hp => ?_) ?_
  · simp only [List.mem_cons] at hp ⊢
    rcases hp with h | h | h | h | h <;> simp [h]
  rintro _ nw12 h12 n12 ⟨i, t, rfl, hi0, hi1⟩ hS12 F12 N12
  obtain ⟨us2, c2, ns2, rfl, hi2, hus2, hnn2⟩ := hS12
  have hD : ∀ p ∈ (R, listOf us2.toArray c2) :: news1, p.1 < D := fun p hp => by
    rcases List.mem_cons.mp hp with rfl | hp
    · exact e1'
    · exact hlt5 _ (.tail _ hp)
  have hD2 : ∀ p ∈ (R, listOf us2.toArray c2) :: news1, p.1 < D2 := fun p hp => by
    rcases List.mem_cons.mp hp with rfl | hp
    · exact e2'
    · exact hlt10 _ (.tail _ (.tail _ hp))
  have hw : Rw R k news1 ((R, listOf us2.toArray c2) :: news1) := ⟨us2, c2, ns2, rfl, hi2, hus2, hnn2⟩
  rcases (by omega : i = 0 ∨ i = 1) with rfl | rfl
  · refine item_in N12 (.tail _ (.head _)) (v := .ref D) rfl (by decide) (by decide) ?_ (hsub _ _ _)
    refine q _ _ _ h12 _ (hK _ _ _ (h v1 v2 v3 v4 _ D (.inl ⟨hv1, hv2, hv3, hv4⟩) hw hD) fun p hp => ?_) F12 N12
    simp only [List.mem_cons] at hp ⊢
    rcases hp with h | h | h <;> simp [h]
  · refine item_in N12 (.tail _ (.head _)) (v := .ref D2) rfl (by decide) (by decide) ?_ (hsub _ _ _)
    refine q _ _ _ h12 _ (hK _ _ _ (h u1 u2 u3 u4 _ D2 (.inr ⟨hu1, hu2, hu3, hu4⟩) hw hD2) fun p hp => ?_) F12 N12
    simp only [List.mem_cons] at hp ⊢
    rcases hp with h | h | h <;> simp [h]
theorem Ev.slice3 {x : Str} {p1 p2 p3 p4 : Pos} {k0 : Nat} {nm : Str} {t : Tok} {n : Int} {news : List (Addr × Obj)} (hx : m x = some (.str nm t)) (hlen : nm.length ≤ sizeLine) (hk : cs.kind = ScopeKind.function) (hl : (envOf cn cs L a cd).kindOf x = some NameKind.local) (hd : (x == Str.ofString "__debug__") = false) : Ev w A h₀ L (envOf cn cs L a cd) m news (.Subscript (.Name x p1) (.Slice none (some (.Constant (.int n) k0 p2)) none p3) p4) (IsSt (Txt.slice nm none (some n))) := by
  intro E s Q F N q
  refine Subscript_ (ld F hx ?_ hk hl hd)
  refine wpAny_Slice ?_
  refine evalPart_none_step ?_
  refine evalPart_some_step ?_
  refine wpAny_Constant_int ?_
  refine evalPart_none_step ?_
  exact slice_strN_ns_len (s := ⟨s.heap, _, _, _, _⟩) F N (fun h' t' k F1 N1 _ => q _ h' k ⟨_, rfl⟩ F1 N1) (by with_unfolding_all rfl) (by intro _; with_unfolding_all rfl) hlen
end
end Mine
theorem Mine.off_B4w : True := by
  w_top off
  trivial
namespace Mine
noncomputable def MadeOut (R : Addr) (k : Nat) (news : List (Addr × Obj)) (r : Value) (nw : List (Addr × Obj)) : Prop :=
  ∃ D o us' c' ns' ins, r = .ref D ∧ nw = (D, o) :: (R, listOf us'.toArray c') :: news ∧ (∀ p ∈ (R, listOf us'.toArray c') :: news, p.1 < D) ∧ us'.length ≤ k ∧ IntsAre us' ns' ∧ (∀ x ∈ ns', 0 ≤ x) ∧ InsAt [(D, o)] D ins ∧ ins.ok
theorem last_nn {ns : List Int} (h : ∀ x ∈ ns, 0 ≤ x) : 0 ≤ ns.getLastD 0 := by
  rcases List.eq_nil_or_concat ns with rfl | ⟨n1, i0, rfl⟩
  · exact Int.le_refl _
  · rw [List.concat_eq_append, List.getLastD_concat]
    exact h _ (by simp)
theorem drop_nn {ns : List Int} (h : ∀ x ∈ ns, 0 ≤ x) : ∀ x ∈ ns.dropLast, 0 ≤ x := fun x hx => h x (List.dropLast_subset _ hx)
theorem menu_in {l : List Int} (h : ∀ x ∈ l, 0 ≤ x ∧ x ≤ 17) (k : Nat) : 0 ≤ l.getD k 0 ∧ l.getD k 0 ≤ 17 := by
  rw [List.getD_eq_getElem?_getD]
  cases e : l[k]? with
  | none => simp
  | some x => exact h x (List.mem_of_getElem? e)
theorem conds_in : ∀ x ∈ (["AL", "AL", "EQ", "LT", "NV", "AL"] : List Str), x ∈ conds := by decide
theorem ld_names : ∀ x, (x ∈ (["LDR", "LDB"] : List Str) ∨ x ∈ (["STR", "STB"] : List Str)) → x ∈ opNames ∧ x ∉ regOps := by
  have h1 : ∀ x ∈ (["LDR", "LDB"] : List Str), x ∈ opNames ∧ x ∉ regOps := by decide
  have h2 : ∀ x ∈ (["STR", "STB"] : List Str), x ∈ opNames ∧ x ∉ regOps := by decide
  intro x h
  rcases h with h | h
  · exact h1 x h
  · exact h2 x h
theorem ld_ok (x : Str) {a b c : Int} (hx : x ∈ (["LDR", "LDB"] : List Str) ∨ x ∈ (["STR", "STB"] : List Str)) (ha : 0 ≤ a ∧ a ≤ 17) (hb : 0 ≤ b ∧ b ≤ 17) (hc : 0 ≤ c) : (Ins.op x a b (4 * c)).ok :=
  ⟨(ld_names x hx).1, ha, hb, by omega, fun h => absurd h (ld_names x hx).2⟩
theorem reg_names : ∀ x ∈ (["MOV", "ADD", "SUB", "MUL", "DIV", "LSL", "AND"] : List Str), x ∈ opNames := by decide
theorem reg_ok (x : Str) {a b c : Int} (hx : x ∈ (["MOV", "ADD", "SUB", "MUL", "DIV", "LSL", "AND"] : List Str)) (ha : 0 ≤ a ∧ a ≤ 17) (hb : 0 ≤ b ∧ b ≤ 17) (hc : 0 ≤ c ∧ c ≤ 17) : (Ins.op x a b c).ok :=
  ⟨reg_names x hx, ha, hb, hc.1, fun _ => hc.2⟩
theorem imm_ok (x : Str) {a b c : Int} (hx : x ∈ opNames ∧ x ∉ regOps) (ha : 0 ≤ a ∧ a ≤ 17) (hb : 0 ≤ b ∧ b ≤ 17) (hc : 0 ≤ c) : (Ins.op x a b c).ok :=
  ⟨hx.1, ha, hb, hc, fun h => absurd h hx.2⟩
theorem br_ok (x : Str) {cd : Str} {a b : Int} (hx : x ∈ brNames) (hc : cd ∈ conds) (h1 : x = "BLR" ∨ x = "BR" → 0 ≤ a ∧ a ≤ 17) (h2 : x = "TRAP" → 0 ≤ a) : (Ins.br x cd a b).ok := ⟨hx, hc, h1, h2⟩
theorem names_short : ∀ x ∈ (["MOVI", "ADDI", "SUBI", "MULI", "DIVI", "MOVH", "GETH"] : List Str), x.length ≤ sizeLine := by
  rw [sizeLine_eq]
  decide
theorem pyl_no {i : Int} (h0 : 0 ≤ i) (h1 : i ≤ 8) : Builtin.divisionGoesByPylong i 2 = false := by
  rcases (by omega : i = 0 ∨ i = 1 ∨ i = 2 ∨ i = 3 ∨ i = 4 ∨ i = 5 ∨ i = 6 ∨ i = 7 ∨ i = 8) with rfl | rfl | rfl | rfl | rfl | rfl | rfl | rfl | rfl <;> decide
theorem menu_ok {x : Int} (h : x ∈ ([0, 1, 2, 3, 11, 15, 14, 10] : List Int)) : 0 ≤ x ∧ x ≤ 17 := by
  simp only [List.mem_cons, List.not_mem_nil, or_false] at h
  omega
theorem made_of {R D l8 : Addr} {k : Nat} {o8 o : Obj} {news nw : List (Addr × Obj)} (ins : Ins) (hS : Rw R k ((l8, o8) :: news) nw) (hlt : ∀ p ∈ nw, p.1 < D) (ha : InsAt [(D, o)] D ins) (hok : ins.ok) : ∃ nw2, MadeOut R k news (.ref D) nw2 ∧ ∀ p ∈ nw2, p ∈ (D, o) :: nw := by
  obtain ⟨us, c, ns, rfl, hi, hus, hnn⟩ := hS
  have hsub : ∀ p ∈ (R, listOf us.toArray c) :: news, p ∈ (R, listOf us.toArray c) :: (l8, o8) :: news := fun p hp => by
    rcases List.mem_cons.mp hp with rfl | hp
    · exact .head _
    · exact .tail _ (.tail _ hp)
  refine ⟨(D, o) :: (R, listOf us.toArray c) :: news, ⟨D, o, us, c, ns, ins, rfl, rfl, fun p hp => hlt p (hsub p hp), hus, hi, hnn, ha, hok⟩, fun p hp => ?_⟩
  rcases List.mem_cons.mp hp with rfl | hp
  · exact .head _
  · exact .tail _ (hsub p hp)
end Mine
local macro_rules | `(tactic| walk_at "off") => `(tactic| first | assumption | exact Mine.off_cons (by assumption) (by walk_at "off"))
namespace Mine
section
variable {w : World} {mean : ExcName → Option Value} {mg mb : Str → Option Value} {news : List (Addr × Obj)}
theorem md_spec (R : Addr) (us : List Value) (c : Nat) (ns : List Int) (many : Int) (tm : Tok) (hoff : ∀ p ∈ news, p.1 ≠ R) (hi : IntsAre us ns) (hl : us.length ≤ 160) (hns : ∀ x ∈ ns, 0 ≤ x) (hm0 : 0 ≤ many) (hm1 : many ≤ 8) : Ctr w mean mg mb 164 [.ref R, .int many tm] ((R, listOf us.toArray c) :: news) 20 400 (MadeOut R us.length news) := by
  refine' Gx.ctr (S := Rw R us.length news) (kd := 19) (ku := 397) [(Str.ofString "row", .ref R), (Str.ofString "many", .int many tm)] ⟨us, c, ns, rfl, hi, Nat.le_refl _, hns⟩ ?_ ?_ ?_ ?_ ?_ ?_ ?_ ?_ ?_
  (((all_goals (try k_is)); (intro s; exact BindsTo.of_eq (by with_unfolding_all rfl)); (exact locs rfl); (exact rfl); (exact rfl); (exact rfl); decide))
  intro A h₀ L hC X T
  refine Gx.set (P := IsLt 12) (Gv.modc (by (exact Mine.Gv.next (by assumption) (by assumption) (by assumption) (by walk_at "off") (by omega) (by decide) (by decide) rfl (by k_is) (by k_is) rfl rfl (by decide) rfl (by decide))) (by decide)) (fun v hv => ?_) rfl rfl rfl
  obtain ⟨kind, tk, rfl, hk0, hk1⟩ := hv
  refine Gx.setI (xs := [0, 1, 2, 3, 11, 15, 14, 10]) (by repeat (first | exact CI.nil | apply CI.cons)) (by decide) (fun l8 vs8 hl8 hv8 => ?_) rfl rfl rfl
  refine Gx.set (P := fun v => ∃ x t, v = .int x t ∧ x ∈ ([0, 1, 2, 3, 11, 15, 14, 10] : List Int)) (by (exact Mine.Gv.idx rfl (Mine.rw_mem (by (repeat (first | exact List.mem_cons_self | apply List.mem_cons_of_mem)))) (by assumption) (by decide) (Mine.Gv.modc (by (exact Mine.Gv.next (by assumption) (by assumption) (by assumption) (by walk_at "off") (by omega) (by decide) (by decide) rfl (by k_is) (by k_is) rfl rfl (by decide) rfl (by decide))) (by decide)) rfl rfl (by decide) (fun _ _ _ => by with_unfolding_all rfl))) (fun v hv => ?_) rfl rfl rfl
  obtain ⟨av, ta, rfl, ha⟩ := hv
  refine Gx.set (P := fun v => ∃ x t, v = .int x t ∧ x ∈ ([0, 1, 2, 3, 11, 15, 14, 10] : List Int)) (by (exact Mine.Gv.idx rfl (Mine.rw_mem (by (repeat (first | exact List.mem_cons_self | apply List.mem_cons_of_mem)))) (by assumption) (by decide) (Mine.Gv.modc (by (exact Mine.Gv.next (by assumption) (by assumption) (by assumption) (by walk_at "off") (by omega) (by decide) (by decide) rfl (by k_is) (by k_is) rfl rfl (by decide) rfl (by decide))) (by decide)) rfl rfl (by decide) (fun _ _ _ => by with_unfolding_all rfl))) (fun v hv => ?_) rfl rfl rfl
  obtain ⟨bv, tb, rfl, hb⟩ := hv
  refine Gx.set (P := fun v => ∃ x t, v = .str x t ∧ x ∈ (["AL", "AL", "EQ", "LT", "NV", "AL"] : List Str)) (by (exact Mine.Gv.pickS (by (repeat (first | exact Mine.CS.nil | apply Mine.CS.cons))) (by decide) (fun _ _ hl' => Mine.Gv.modc (by (exact Mine.Gv.next (by assumption) (by assumption) (by assumption) (by walk_at "off") (by omega) (by decide) (by decide) rfl (by k_is) (by k_is) rfl rfl (by decide) rfl (by decide))) (by decide)) (fun _ _ _ => by with_unfolding_all rfl))) (fun v hv => ?_) rfl rfl rfl
  obtain ⟨cv, tc, rfl, hcd⟩ := hv
  have ha := menu_ok ha
  have hb := menu_ok hb
  have hcd := conds_in _ hcd
  refine Gx.if (b := decide (kind < 3)) (fun nw _ => Bt.ltI (by (first | exact Mine.Ev.constI | exact Mine.Ev.constS | exact Mine.Ev.constB | exact Mine.Ev.name rfl ⟨_, rfl⟩ rfl rfl (by decide) | exact Mine.Ev.name rfl rfl rfl rfl (by decide) | exact Mine.Ev.sub rfl (by k_mem) rfl rfl ⟨_, rfl⟩ (by decide) (by decide) rfl rfl (by decide) | exact Mine.Ev.sub rfl (by k_mem) rfl rfl rfl (by decide) (by decide) rfl rfl (by decide) | exact Mine.Ev.glob (by assumption) (by assumption) (by k_is) ⟨_, rfl⟩ rfl rfl (by decide) | exact Mine.Ev.glob (by assumption) (by assumption) (by k_is) rfl rfl rfl (by decide) | fail "ev")) Ev.constI rfl) (fun _ => ?_) fun h3 => ?_
  · refine Gx.set (P := fun v => ∃ x t, v = .str x t ∧ x ∈ (["MOV", "ADD", "SUB", "MUL", "DIV", "LSL", "AND"] : List Str)) (by (exact Mine.Gv.pickS (by (repeat (first | exact Mine.CS.nil | apply Mine.CS.cons))) (by decide) (fun _ _ hl' => Mine.Gv.modc (by (exact Mine.Gv.next (by assumption) (by assumption) (by assumption) (by walk_at "off") (by omega) (by decide) (by decide) rfl (by k_is) (by k_is) rfl rfl (by decide) rfl (by decide))) (by decide)) (fun _ _ _ => by with_unfolding_all rfl))) (fun v hv => ?_) rfl rfl rfl
    obtain ⟨nm, tn, rfl, hnm⟩ := hv
    refine Gx.ret4 (P1 := (· = .str nm tn)) (P2 := (· = .int av ta)) (P3 := fun v => ∃ x t, v = .int x t ∧ 0 ≤ x ∧ x ≤ 17) (P4 := fun v => ∃ x t, v = .int x t ∧ x ∈ ([0, 1, 2, 3, 11, 15, 14, 10] : List Int)) (by (exact Mine.Gv.pure fun _ _ => by (first | exact Mine.Ev.constI | exact Mine.Ev.constS | exact Mine.Ev.constB | exact Mine.Ev.name rfl ⟨_, rfl⟩ rfl rfl (by decide) | exact Mine.Ev.name rfl rfl rfl rfl (by decide) | exact Mine.Ev.sub rfl (by k_mem) rfl rfl ⟨_, rfl⟩ (by decide) (by decide) rfl rfl (by decide) | exact Mine.Ev.sub rfl (by k_mem) rfl rfl rfl (by decide) (by decide) rfl rfl (by decide) | exact Mine.Ev.glob (by assumption) (by assumption) (by k_is) ⟨_, rfl⟩ rfl rfl (by decide) | exact Mine.Ev.glob (by assumption) (by assumption) (by k_is) rfl rfl rfl (by decide) | fail "ev"))) (by (exact Mine.Gv.pure fun _ _ => by (first | exact Mine.Ev.constI | exact Mine.Ev.constS | exact Mine.Ev.constB | exact Mine.Ev.name rfl ⟨_, rfl⟩ rfl rfl (by decide) | exact Mine.Ev.name rfl rfl rfl rfl (by decide) | exact Mine.Ev.sub rfl (by k_mem) rfl rfl ⟨_, rfl⟩ (by decide) (by decide) rfl rfl (by decide) | exact Mine.Ev.sub rfl (by k_mem) rfl rfl rfl (by decide) (by decide) rfl rfl (by decide) | exact Mine.Ev.glob (by assumption) (by assumption) (by k_is) ⟨_, rfl⟩ rfl rfl (by decide) | exact Mine.Ev.glob (by assumption) (by assumption) (by k_is) rfl rfl rfl (by decide) | fail "ev")))
      (Gv.ite (fun nw _ => by ((exact Mine.Bt.eqS (by (first | exact Mine.Ev.constI | exact Mine.Ev.constS | exact Mine.Ev.constB | exact Mine.Ev.name rfl ⟨_, rfl⟩ rfl rfl (by decide) | exact Mine.Ev.name rfl rfl rfl rfl (by decide) | exact Mine.Ev.sub rfl (by k_mem) rfl rfl ⟨_, rfl⟩ (by decide) (by decide) rfl rfl (by decide) | exact Mine.Ev.sub rfl (by k_mem) rfl rfl rfl (by decide) (by decide) rfl rfl (by decide) | exact Mine.Ev.glob (by assumption) (by assumption) (by k_is) ⟨_, rfl⟩ rfl rfl (by decide) | exact Mine.Ev.glob (by assumption) (by assumption) (by k_is) rfl rfl rfl (by decide) | fail "ev")) (by (first | exact Mine.Ev.constI | exact Mine.Ev.constS | exact Mine.Ev.constB | exact Mine.Ev.name rfl ⟨_, rfl⟩ rfl rfl (by decide) | exact Mine.Ev.name rfl rfl rfl rfl (by decide) | exact Mine.Ev.sub rfl (by k_mem) rfl rfl ⟨_, rfl⟩ (by decide) (by decide) rfl rfl (by decide) | exact Mine.Ev.sub rfl (by k_mem) rfl rfl rfl (by decide) (by decide) rfl rfl (by decide) | exact Mine.Ev.glob (by assumption) (by assumption) (by k_is) ⟨_, rfl⟩ rfl rfl (by decide) | exact Mine.Ev.glob (by assumption) (by assumption) (by k_is) rfl rfl rfl (by decide) | fail "ev")) rfl))) (fun _ => Gv.pure fun nw _ => Ev.constI.mono fun v ⟨t, e⟩ => ⟨0, t, e, by decide, by decide⟩) fun _ => Gv.pure fun nw _ => Ev.mono (R' := (· = .int bv tb)) (by (first | exact Mine.Ev.constI | exact Mine.Ev.constS | exact Mine.Ev.constB | exact Mine.Ev.name rfl ⟨_, rfl⟩ rfl rfl (by decide) | exact Mine.Ev.name rfl rfl rfl rfl (by decide) | exact Mine.Ev.sub rfl (by k_mem) rfl rfl ⟨_, rfl⟩ (by decide) (by decide) rfl rfl (by decide) | exact Mine.Ev.sub rfl (by k_mem) rfl rfl rfl (by decide) (by decide) rfl rfl (by decide) | exact Mine.Ev.glob (by assumption) (by assumption) (by k_is) ⟨_, rfl⟩ rfl rfl (by decide) | exact Mine.Ev.glob (by assumption) (by assumption) (by k_is) rfl rfl rfl (by decide) | fail "ev")) fun v e => ⟨bv, tb, e, hb⟩) (by (exact Mine.Gv.idx rfl (Mine.rw_mem (by (repeat (first | exact List.mem_cons_self | apply List.mem_cons_of_mem)))) (by assumption) (by decide) (Mine.Gv.modc (by (exact Mine.Gv.next (by assumption) (by assumption) (by assumption) (by walk_at "off") (by omega) (by decide) (by decide) rfl (by k_is) (by k_is) rfl rfl (by decide) rfl (by decide))) (by decide)) rfl rfl (by decide) (fun _ _ _ => by with_unfolding_all rfl))) fun v1 v2 v3 v4 nw D e1 e2 e3 e4 hS hlt => ?_
    subst e1
    subst e2
    obtain ⟨x3, t3, rfl, h3⟩ := e3
    obtain ⟨x4, t4, rfl, h4⟩ := e4
    exact made_of (.op nm av x3 x4) hS hlt ⟨_, _, _, _, _, .head _⟩ (reg_ok _ hnm ha h3 (menu_ok h4))
  refine Gx.if (b := decide (kind < 5)) (fun nw _ => Bt.ltI (by (first | exact Mine.Ev.constI | exact Mine.Ev.constS | exact Mine.Ev.constB | exact Mine.Ev.name rfl ⟨_, rfl⟩ rfl rfl (by decide) | exact Mine.Ev.name rfl rfl rfl rfl (by decide) | exact Mine.Ev.sub rfl (by k_mem) rfl rfl ⟨_, rfl⟩ (by decide) (by decide) rfl rfl (by decide) | exact Mine.Ev.sub rfl (by k_mem) rfl rfl rfl (by decide) (by decide) rfl rfl (by decide) | exact Mine.Ev.glob (by assumption) (by assumption) (by k_is) ⟨_, rfl⟩ rfl rfl (by decide) | exact Mine.Ev.glob (by assumption) (by assumption) (by k_is) rfl rfl rfl (by decide) | fail "ev")) Ev.constI rfl) (fun _ => ?_) fun h5 => ?_
  · refine Gx.set (P := fun v => ∃ x t, v = .str x t ∧ x ∈ (["MOVI", "ADDI", "SUBI", "MULI", "DIVI", "MOVH", "GETH"] : List Str)) (by (exact Mine.Gv.pickS (by (repeat (first | exact Mine.CS.nil | apply Mine.CS.cons))) (by decide) (fun _ _ hl' => Mine.Gv.modc (by (exact Mine.Gv.next (by assumption) (by assumption) (by assumption) (by walk_at "off") (by omega) (by decide) (by decide) rfl (by k_is) (by k_is) rfl rfl (by decide) rfl (by decide))) (by decide)) (fun _ _ _ => by with_unfolding_all rfl))) (fun v hv => ?_) rfl rfl rfl
    obtain ⟨nm, tn, rfl, hnm⟩ := hv
    have hnm2 : nm ∈ opNames ∧ nm ∉ regOps := by
      have h1 : ∀ x ∈ (["MOVI", "ADDI", "SUBI", "MULI", "DIVI", "MOVH", "GETH"] : List Str), x ∈ opNames ∧ x ∉ regOps := by decide
      exact h1 nm hnm
    refine Gx.ret4 (P1 := (· = .str nm tn)) (P2 := (· = .int av ta)) (P3 := fun v => ∃ x t, v = .int x t ∧ 0 ≤ x ∧ x ≤ 17) (P4 := fun v => ∃ x t, v = .int x t ∧ 0 ≤ x) (by (exact Mine.Gv.pure fun _ _ => by (first | exact Mine.Ev.constI | exact Mine.Ev.constS | exact Mine.Ev.constB | exact Mine.Ev.name rfl ⟨_, rfl⟩ rfl rfl (by decide) | exact Mine.Ev.name rfl rfl rfl rfl (by decide) | exact Mine.Ev.sub rfl (by k_mem) rfl rfl ⟨_, rfl⟩ (by decide) (by decide) rfl rfl (by decide) | exact Mine.Ev.sub rfl (by k_mem) rfl rfl rfl (by decide) (by decide) rfl rfl (by decide) | exact Mine.Ev.glob (by assumption) (by assumption) (by k_is) ⟨_, rfl⟩ rfl rfl (by decide) | exact Mine.Ev.glob (by assumption) (by assumption) (by k_is) rfl rfl rfl (by decide) | fail "ev"))) (by (exact Mine.Gv.pure fun _ _ => by (first | exact Mine.Ev.constI | exact Mine.Ev.constS | exact Mine.Ev.constB | exact Mine.Ev.name rfl ⟨_, rfl⟩ rfl rfl (by decide) | exact Mine.Ev.name rfl rfl rfl rfl (by decide) | exact Mine.Ev.sub rfl (by k_mem) rfl rfl ⟨_, rfl⟩ (by decide) (by decide) rfl rfl (by decide) | exact Mine.Ev.sub rfl (by k_mem) rfl rfl rfl (by decide) (by decide) rfl rfl (by decide) | exact Mine.Ev.glob (by assumption) (by assumption) (by k_is) ⟨_, rfl⟩ rfl rfl (by decide) | exact Mine.Ev.glob (by assumption) (by assumption) (by k_is) rfl rfl rfl (by decide) | fail "ev")))
      (Gv.ite (b := Txt.slice nm none (some 3) == "MOV" || nm == "GETH") (fun nw _ => Bt.or (Bt.eqS (Ev.slice3 rfl (names_short nm hnm) rfl rfl (by decide)) Ev.constS rfl) (Bt.or1 (by ((exact Mine.Bt.eqS (by (first | exact Mine.Ev.constI | exact Mine.Ev.constS | exact Mine.Ev.constB | exact Mine.Ev.name rfl ⟨_, rfl⟩ rfl rfl (by decide) | exact Mine.Ev.name rfl rfl rfl rfl (by decide) | exact Mine.Ev.sub rfl (by k_mem) rfl rfl ⟨_, rfl⟩ (by decide) (by decide) rfl rfl (by decide) | exact Mine.Ev.sub rfl (by k_mem) rfl rfl rfl (by decide) (by decide) rfl rfl (by decide) | exact Mine.Ev.glob (by assumption) (by assumption) (by k_is) ⟨_, rfl⟩ rfl rfl (by decide) | exact Mine.Ev.glob (by assumption) (by assumption) (by k_is) rfl rfl rfl (by decide) | fail "ev")) (by (first | exact Mine.Ev.constI | exact Mine.Ev.constS | exact Mine.Ev.constB | exact Mine.Ev.name rfl ⟨_, rfl⟩ rfl rfl (by decide) | exact Mine.Ev.name rfl rfl rfl rfl (by decide) | exact Mine.Ev.sub rfl (by k_mem) rfl rfl ⟨_, rfl⟩ (by decide) (by decide) rfl rfl (by decide) | exact Mine.Ev.sub rfl (by k_mem) rfl rfl rfl (by decide) (by decide) rfl rfl (by decide) | exact Mine.Ev.glob (by assumption) (by assumption) (by k_is) ⟨_, rfl⟩ rfl rfl (by decide) | exact Mine.Ev.glob (by assumption) (by assumption) (by k_is) rfl rfl rfl (by decide) | fail "ev")) rfl))))) (fun _ => Gv.pure fun nw _ => Ev.constI.mono fun v ⟨t, e⟩ => ⟨0, t, e, by decide, by decide⟩) fun _ => Gv.pure fun nw _ => Ev.mono (R' := (· = .int bv tb)) (by (first | exact Mine.Ev.constI | exact Mine.Ev.constS | exact Mine.Ev.constB | exact Mine.Ev.name rfl ⟨_, rfl⟩ rfl rfl (by decide) | exact Mine.Ev.name rfl rfl rfl rfl (by decide) | exact Mine.Ev.sub rfl (by k_mem) rfl rfl ⟨_, rfl⟩ (by decide) (by decide) rfl rfl (by decide) | exact Mine.Ev.sub rfl (by k_mem) rfl rfl rfl (by decide) (by decide) rfl rfl (by decide) | exact Mine.Ev.glob (by assumption) (by assumption) (by k_is) ⟨_, rfl⟩ rfl rfl (by decide) | exact Mine.Ev.glob (by assumption) (by assumption) (by k_is) rfl rfl rfl (by decide) | fail "ev")) fun v e => ⟨bv, tb, e, hb⟩)
      (Gv.ite (fun nw _ => by ((exact Mine.Bt.eqS (by (first | exact Mine.Ev.constI | exact Mine.Ev.constS | exact Mine.Ev.constB | exact Mine.Ev.name rfl ⟨_, rfl⟩ rfl rfl (by decide) | exact Mine.Ev.name rfl rfl rfl rfl (by decide) | exact Mine.Ev.sub rfl (by k_mem) rfl rfl ⟨_, rfl⟩ (by decide) (by decide) rfl rfl (by decide) | exact Mine.Ev.sub rfl (by k_mem) rfl rfl rfl (by decide) (by decide) rfl rfl (by decide) | exact Mine.Ev.glob (by assumption) (by assumption) (by k_is) ⟨_, rfl⟩ rfl rfl (by decide) | exact Mine.Ev.glob (by assumption) (by assumption) (by k_is) rfl rfl rfl (by decide) | fail "ev")) (by (first | exact Mine.Ev.constI | exact Mine.Ev.constS | exact Mine.Ev.constB | exact Mine.Ev.name rfl ⟨_, rfl⟩ rfl rfl (by decide) | exact Mine.Ev.name rfl rfl rfl rfl (by decide) | exact Mine.Ev.sub rfl (by k_mem) rfl rfl ⟨_, rfl⟩ (by decide) (by decide) rfl rfl (by decide) | exact Mine.Ev.sub rfl (by k_mem) rfl rfl rfl (by decide) (by decide) rfl rfl (by decide) | exact Mine.Ev.glob (by assumption) (by assumption) (by k_is) ⟨_, rfl⟩ rfl rfl (by decide) | exact Mine.Ev.glob (by assumption) (by assumption) (by k_is) rfl rfl rfl (by decide) | fail "ev")) rfl))) (fun _ => Gv.pure fun nw _ => Ev.constI.mono fun v ⟨t, e⟩ => ⟨0, t, e, by decide⟩) fun _ => (by (exact Mine.Gv.next (by assumption) (by assumption) (by assumption) (by walk_at "off") (by omega) (by decide) (by decide) rfl (by k_is) (by k_is) rfl rfl (by decide) rfl (by decide)) : Gv _ _ _ _ _ _ _ _ IsN)) fun v1 v2 v3 v4 nw D e1 e2 e3 e4 hS hlt => ?_
    subst e1
    subst e2
    obtain ⟨x3, t3, rfl, h3⟩ := e3
    obtain ⟨x4, t4, rfl, h4⟩ := e4
    exact made_of (.op nm av x3 x4) hS hlt ⟨_, _, _, _, _, .head _⟩ (imm_ok _ hnm2 ha h3 h4)
  refine Gx.if (b := kind == 5) (fun nw _ => Bt.eqI (by (first | exact Mine.Ev.constI | exact Mine.Ev.constS | exact Mine.Ev.constB | exact Mine.Ev.name rfl ⟨_, rfl⟩ rfl rfl (by decide) | exact Mine.Ev.name rfl rfl rfl rfl (by decide) | exact Mine.Ev.sub rfl (by k_mem) rfl rfl ⟨_, rfl⟩ (by decide) (by decide) rfl rfl (by decide) | exact Mine.Ev.sub rfl (by k_mem) rfl rfl rfl (by decide) (by decide) rfl rfl (by decide) | exact Mine.Ev.glob (by assumption) (by assumption) (by k_is) ⟨_, rfl⟩ rfl rfl (by decide) | exact Mine.Ev.glob (by assumption) (by assumption) (by k_is) rfl rfl rfl (by decide) | fail "ev")) Ev.constI rfl) (fun _ => ?_) fun _ => ?_
  · refine Gx.ret4 (P1 := fun v => ∃ x t, v = .str x t ∧ x ∈ (["LDR", "LDB"] : List Str)) (P2 := (· = .int av ta)) (P3 := (· = .int bv tb)) (P4 := fun v => ∃ i t, v = .int (4 * i) t ∧ 0 ≤ i) (by (exact Mine.Gv.pickS (by (repeat (first | exact Mine.CS.nil | apply Mine.CS.cons))) (by decide) (fun _ _ hl' => Mine.Gv.modc (by (exact Mine.Gv.next (by assumption) (by assumption) (by assumption) (by walk_at "off") (by omega) (by decide) (by decide) rfl (by k_is) (by k_is) rfl rfl (by decide) rfl (by decide))) (by decide)) (fun _ _ _ => by with_unfolding_all rfl))) (by (exact Mine.Gv.pure fun _ _ => by (first | exact Mine.Ev.constI | exact Mine.Ev.constS | exact Mine.Ev.constB | exact Mine.Ev.name rfl ⟨_, rfl⟩ rfl rfl (by decide) | exact Mine.Ev.name rfl rfl rfl rfl (by decide) | exact Mine.Ev.sub rfl (by k_mem) rfl rfl ⟨_, rfl⟩ (by decide) (by decide) rfl rfl (by decide) | exact Mine.Ev.sub rfl (by k_mem) rfl rfl rfl (by decide) (by decide) rfl rfl (by decide) | exact Mine.Ev.glob (by assumption) (by assumption) (by k_is) ⟨_, rfl⟩ rfl rfl (by decide) | exact Mine.Ev.glob (by assumption) (by assumption) (by k_is) rfl rfl rfl (by decide) | fail "ev"))) (by (exact Mine.Gv.pure fun _ _ => by (first | exact Mine.Ev.constI | exact Mine.Ev.constS | exact Mine.Ev.constB | exact Mine.Ev.name rfl ⟨_, rfl⟩ rfl rfl (by decide) | exact Mine.Ev.name rfl rfl rfl rfl (by decide) | exact Mine.Ev.sub rfl (by k_mem) rfl rfl ⟨_, rfl⟩ (by decide) (by decide) rfl rfl (by decide) | exact Mine.Ev.sub rfl (by k_mem) rfl rfl rfl (by decide) (by decide) rfl rfl (by decide) | exact Mine.Ev.glob (by assumption) (by assumption) (by k_is) ⟨_, rfl⟩ rfl rfl (by decide) | exact Mine.Ev.glob (by assumption) (by assumption) (by k_is) rfl rfl rfl (by decide) | fail "ev"))) (Gv.mulc (by (exact Mine.Gv.next (by assumption) (by assumption) (by assumption) (by walk_at "off") (by omega) (by decide) (by decide) rfl (by k_is) (by k_is) rfl rfl (by decide) rfl (by decide)))) fun v1 v2 v3 v4 nw D e1 e2 e3 e4 hS hlt => ?_
    subst e2
    subst e3
    obtain ⟨x1, t1, rfl, h1⟩ := e1
    obtain ⟨x4, t4, rfl, h4⟩ := e4
    exact made_of (.op x1 av bv (4 * x4)) hS hlt ⟨_, _, _, _, _, .head _⟩ (ld_ok _ (.inl h1) ha hb h4)
  refine Gx.if (b := kind == 6) (fun nw _ => Bt.eqI (by (first | exact Mine.Ev.constI | exact Mine.Ev.constS | exact Mine.Ev.constB | exact Mine.Ev.name rfl ⟨_, rfl⟩ rfl rfl (by decide) | exact Mine.Ev.name rfl rfl rfl rfl (by decide) | exact Mine.Ev.sub rfl (by k_mem) rfl rfl ⟨_, rfl⟩ (by decide) (by decide) rfl rfl (by decide) | exact Mine.Ev.sub rfl (by k_mem) rfl rfl rfl (by decide) (by decide) rfl rfl (by decide) | exact Mine.Ev.glob (by assumption) (by assumption) (by k_is) ⟨_, rfl⟩ rfl rfl (by decide) | exact Mine.Ev.glob (by assumption) (by assumption) (by k_is) rfl rfl rfl (by decide) | fail "ev")) Ev.constI rfl) (fun _ => ?_) fun _ => ?_
  · refine Gx.ret4 (P1 := fun v => ∃ x t, v = .str x t ∧ x ∈ (["STR", "STB"] : List Str)) (P2 := (· = .int av ta)) (P3 := (· = .int bv tb)) (P4 := fun v => ∃ i t, v = .int (4 * i) t ∧ 0 ≤ i) (by (exact Mine.Gv.pickS (by (repeat (first | exact Mine.CS.nil | apply Mine.CS.cons))) (by decide) (fun _ _ hl' => Mine.Gv.modc (by (exact Mine.Gv.next (by assumption) (by assumption) (by assumption) (by walk_at "off") (by omega) (by decide) (by decide) rfl (by k_is) (by k_is) rfl rfl (by decide) rfl (by decide))) (by decide)) (fun _ _ _ => by with_unfolding_all rfl))) (by (exact Mine.Gv.pure fun _ _ => by (first | exact Mine.Ev.constI | exact Mine.Ev.constS | exact Mine.Ev.constB | exact Mine.Ev.name rfl ⟨_, rfl⟩ rfl rfl (by decide) | exact Mine.Ev.name rfl rfl rfl rfl (by decide) | exact Mine.Ev.sub rfl (by k_mem) rfl rfl ⟨_, rfl⟩ (by decide) (by decide) rfl rfl (by decide) | exact Mine.Ev.sub rfl (by k_mem) rfl rfl rfl (by decide) (by decide) rfl rfl (by decide) | exact Mine.Ev.glob (by assumption) (by assumption) (by k_is) ⟨_, rfl⟩ rfl rfl (by decide) | exact Mine.Ev.glob (by assumption) (by assumption) (by k_is) rfl rfl rfl (by decide) | fail "ev"))) (by (exact Mine.Gv.pure fun _ _ => by (first | exact Mine.Ev.constI | exact Mine.Ev.constS | exact Mine.Ev.constB | exact Mine.Ev.name rfl ⟨_, rfl⟩ rfl rfl (by decide) | exact Mine.Ev.name rfl rfl rfl rfl (by decide) | exact Mine.Ev.sub rfl (by k_mem) rfl rfl ⟨_, rfl⟩ (by decide) (by decide) rfl rfl (by decide) | exact Mine.Ev.sub rfl (by k_mem) rfl rfl rfl (by decide) (by decide) rfl rfl (by decide) | exact Mine.Ev.glob (by assumption) (by assumption) (by k_is) ⟨_, rfl⟩ rfl rfl (by decide) | exact Mine.Ev.glob (by assumption) (by assumption) (by k_is) rfl rfl rfl (by decide) | fail "ev"))) (Gv.mulc (by (exact Mine.Gv.next (by assumption) (by assumption) (by assumption) (by walk_at "off") (by omega) (by decide) (by decide) rfl (by k_is) (by k_is) rfl rfl (by decide) rfl (by decide)))) fun v1 v2 v3 v4 nw D e1 e2 e3 e4 hS hlt => ?_
    subst e2
    subst e3
    obtain ⟨x1, t1, rfl, h1⟩ := e1
    obtain ⟨x4, t4, rfl, h4⟩ := e4
    exact made_of (.op x1 av bv (4 * x4)) hS hlt ⟨_, _, _, _, _, .head _⟩ (ld_ok _ (.inr h1) ha hb h4)
  refine Gx.if (b := decide (kind < 9)) (fun nw _ => Bt.ltI (by (first | exact Mine.Ev.constI | exact Mine.Ev.constS | exact Mine.Ev.constB | exact Mine.Ev.name rfl ⟨_, rfl⟩ rfl rfl (by decide) | exact Mine.Ev.name rfl rfl rfl rfl (by decide) | exact Mine.Ev.sub rfl (by k_mem) rfl rfl ⟨_, rfl⟩ (by decide) (by decide) rfl rfl (by decide) | exact Mine.Ev.sub rfl (by k_mem) rfl rfl rfl (by decide) (by decide) rfl rfl (by decide) | exact Mine.Ev.glob (by assumption) (by assumption) (by k_is) ⟨_, rfl⟩ rfl rfl (by decide) | exact Mine.Ev.glob (by assumption) (by assumption) (by k_is) rfl rfl rfl (by decide) | fail "ev")) Ev.constI rfl) (fun _ => ?_) fun _ => ?_
  · refine Gx.ret4 (P1 := IsSt "B") (P2 := (· = .str cv tc)) (P3 := IsAny) (P4 := IsI 0) (Gv.pure fun _ _ => Ev.constS) (by (exact Mine.Gv.pure fun _ _ => by (first | exact Mine.Ev.constI | exact Mine.Ev.constS | exact Mine.Ev.constB | exact Mine.Ev.name rfl ⟨_, rfl⟩ rfl rfl (by decide) | exact Mine.Ev.name rfl rfl rfl rfl (by decide) | exact Mine.Ev.sub rfl (by k_mem) rfl rfl ⟨_, rfl⟩ (by decide) (by decide) rfl rfl (by decide) | exact Mine.Ev.sub rfl (by k_mem) rfl rfl rfl (by decide) (by decide) rfl rfl (by decide) | exact Mine.Ev.glob (by assumption) (by assumption) (by k_is) ⟨_, rfl⟩ rfl rfl (by decide) | exact Mine.Ev.glob (by assumption) (by assumption) (by k_is) rfl rfl rfl (by decide) | fail "ev")))
      (Gv.subv (Gv.subv (Gv.modv (n := many + 3) (by (exact Mine.Gv.next (by assumption) (by assumption) (by assumption) (by walk_at "off") (by omega) (by decide) (by decide) rfl (by k_is) (by k_is) rfl rfl (by decide) rfl (by decide))) (fun nw _ => Ev.add (i := many) (by (first | exact Mine.Ev.constI | exact Mine.Ev.constS | exact Mine.Ev.constB | exact Mine.Ev.name rfl ⟨_, rfl⟩ rfl rfl (by decide) | exact Mine.Ev.name rfl rfl rfl rfl (by decide) | exact Mine.Ev.sub rfl (by k_mem) rfl rfl ⟨_, rfl⟩ (by decide) (by decide) rfl rfl (by decide) | exact Mine.Ev.sub rfl (by k_mem) rfl rfl rfl (by decide) (by decide) rfl rfl (by decide) | exact Mine.Ev.glob (by assumption) (by assumption) (by k_is) ⟨_, rfl⟩ rfl rfl (by decide) | exact Mine.Ev.glob (by assumption) (by assumption) (by k_is) rfl rfl rfl (by decide) | fail "ev")) Ev.constI) (by omega)) fun nw _ => Ev.fdiv2 (i := many) (by (first | exact Mine.Ev.constI | exact Mine.Ev.constS | exact Mine.Ev.constB | exact Mine.Ev.name rfl ⟨_, rfl⟩ rfl rfl (by decide) | exact Mine.Ev.name rfl rfl rfl rfl (by decide) | exact Mine.Ev.sub rfl (by k_mem) rfl rfl ⟨_, rfl⟩ (by decide) (by decide) rfl rfl (by decide) | exact Mine.Ev.sub rfl (by k_mem) rfl rfl rfl (by decide) (by decide) rfl rfl (by decide) | exact Mine.Ev.glob (by assumption) (by assumption) (by k_is) ⟨_, rfl⟩ rfl rfl (by decide) | exact Mine.Ev.glob (by assumption) (by assumption) (by k_is) rfl rfl rfl (by decide) | fail "ev")) (pyl_no hm0 hm1)) fun nw _ => Ev.constI) (Gv.pure fun _ _ => Ev.constI) fun v1 v2 v3 v4 nw D e1 e2 e3 e4 hS hlt => ?_
    subst e2
    obtain ⟨t1, rfl⟩ := e1
    obtain ⟨x3, t3, rfl⟩ := e3
    obtain ⟨t4, rfl⟩ := e4
    exact made_of (.br "B" cv x3 0) hS hlt ⟨_, _, _, _, _, .head _⟩ (br_ok _ (by decide) hcd (fun h => absurd h (by decide)) (fun h => absurd h (by decide)))
  refine Gx.if (b := kind == 9) (fun nw _ => Bt.eqI (by (first | exact Mine.Ev.constI | exact Mine.Ev.constS | exact Mine.Ev.constB | exact Mine.Ev.name rfl ⟨_, rfl⟩ rfl rfl (by decide) | exact Mine.Ev.name rfl rfl rfl rfl (by decide) | exact Mine.Ev.sub rfl (by k_mem) rfl rfl ⟨_, rfl⟩ (by decide) (by decide) rfl rfl (by decide) | exact Mine.Ev.sub rfl (by k_mem) rfl rfl rfl (by decide) (by decide) rfl rfl (by decide) | exact Mine.Ev.glob (by assumption) (by assumption) (by k_is) ⟨_, rfl⟩ rfl rfl (by decide) | exact Mine.Ev.glob (by assumption) (by assumption) (by k_is) rfl rfl rfl (by decide) | fail "ev")) Ev.constI rfl) (fun _ => ?_) fun _ => ?_
  · refine Gx.ret9 (P1 := IsSt "BL") (P2 := (· = .str cv tc)) (P3 := IsAny) (P4 := IsI 0) (R1 := IsSt "BLR") (R2 := (· = .str cv tc)) (R3 := (· = .int bv tb)) (R4 := IsI 0) (off_cons hl8 hoff) (Gv.pure fun _ _ => Ev.constS) (by (exact Mine.Gv.pure fun _ _ => by (first | exact Mine.Ev.constI | exact Mine.Ev.constS | exact Mine.Ev.constB | exact Mine.Ev.name rfl ⟨_, rfl⟩ rfl rfl (by decide) | exact Mine.Ev.name rfl rfl rfl rfl (by decide) | exact Mine.Ev.sub rfl (by k_mem) rfl rfl ⟨_, rfl⟩ (by decide) (by decide) rfl rfl (by decide) | exact Mine.Ev.sub rfl (by k_mem) rfl rfl rfl (by decide) (by decide) rfl rfl (by decide) | exact Mine.Ev.glob (by assumption) (by assumption) (by k_is) ⟨_, rfl⟩ rfl rfl (by decide) | exact Mine.Ev.glob (by assumption) (by assumption) (by k_is) rfl rfl rfl (by decide) | fail "ev")))
      (Gv.subv (Gv.mono (Gv.modc (n := 6) (by (exact Mine.Gv.next (by assumption) (by assumption) (by assumption) (by walk_at "off") (by omega) (by decide) (by decide) rfl (by k_is) (by k_is) rfl rfl (by decide) rfl (by decide))) (by decide)) fun v ⟨i, t, e, _⟩ => ⟨i, t, e⟩) fun nw _ => Ev.constI) (Gv.pure fun _ _ => Ev.constI) (fun _ => Ev.constS) (fun _ => by (first | exact Mine.Ev.constI | exact Mine.Ev.constS | exact Mine.Ev.constB | exact Mine.Ev.name rfl ⟨_, rfl⟩ rfl rfl (by decide) | exact Mine.Ev.name rfl rfl rfl rfl (by decide) | exact Mine.Ev.sub rfl (by k_mem) rfl rfl ⟨_, rfl⟩ (by decide) (by decide) rfl rfl (by decide) | exact Mine.Ev.sub rfl (by k_mem) rfl rfl rfl (by decide) (by decide) rfl rfl (by decide) | exact Mine.Ev.glob (by assumption) (by assumption) (by k_is) ⟨_, rfl⟩ rfl rfl (by decide) | exact Mine.Ev.glob (by assumption) (by assumption) (by k_is) rfl rfl rfl (by decide) | fail "ev")) (fun _ => by (first | exact Mine.Ev.constI | exact Mine.Ev.constS | exact Mine.Ev.constB | exact Mine.Ev.name rfl ⟨_, rfl⟩ rfl rfl (by decide) | exact Mine.Ev.name rfl rfl rfl rfl (by decide) | exact Mine.Ev.sub rfl (by k_mem) rfl rfl ⟨_, rfl⟩ (by decide) (by decide) rfl rfl (by decide) | exact Mine.Ev.sub rfl (by k_mem) rfl rfl rfl (by decide) (by decide) rfl rfl (by decide) | exact Mine.Ev.glob (by assumption) (by assumption) (by k_is) ⟨_, rfl⟩ rfl rfl (by decide) | exact Mine.Ev.glob (by assumption) (by assumption) (by k_is) rfl rfl rfl (by decide) | fail "ev")) (fun _ => Ev.constI)
      (fun l o l' o' l'' o'' h1 h2 h3 => Gv.modc (by (exact Mine.Gv.next (by assumption) (by assumption) (by assumption) (by walk_at "off") (by omega) (by decide) (by decide) rfl (by k_is) (by k_is) rfl rfl (by decide) rfl (by decide))) (by decide)) (fun v1 v2 v3 v4 nw D hor hS hlt => ?_) (fun v nw nw' ⟨nw2, h1, h2⟩ hs => ⟨nw2, h1, fun p hp => hs p (h2 p hp)⟩) (fun _ _ _ => by with_unfolding_all rfl)
    rcases hor with ⟨e1, e2, e3, e4⟩ | ⟨e1, e2, e3, e4⟩
    · subst e2
      obtain ⟨t1, rfl⟩ := e1
      obtain ⟨x3, t3, rfl⟩ := e3
      obtain ⟨t4, rfl⟩ := e4
      exact made_of (.br "BL" cv x3 0) hS hlt ⟨_, _, _, _, _, .head _⟩ (br_ok _ (by decide) hcd (fun h => absurd h (by decide)) (fun h => absurd h (by decide)))
    · subst e2
      subst e3
      obtain ⟨t1, rfl⟩ := e1
      obtain ⟨t4, rfl⟩ := e4
      exact made_of (.br "BLR" cv bv 0) hS hlt ⟨_, _, _, _, _, .head _⟩ (br_ok _ (by decide) hcd (fun _ => hb) (fun h => absurd h (by decide)))
  refine Gx.if (b := kind == 10) (fun nw _ => Bt.eqI (by (first | exact Mine.Ev.constI | exact Mine.Ev.constS | exact Mine.Ev.constB | exact Mine.Ev.name rfl ⟨_, rfl⟩ rfl rfl (by decide) | exact Mine.Ev.name rfl rfl rfl rfl (by decide) | exact Mine.Ev.sub rfl (by k_mem) rfl rfl ⟨_, rfl⟩ (by decide) (by decide) rfl rfl (by decide) | exact Mine.Ev.sub rfl (by k_mem) rfl rfl rfl (by decide) (by decide) rfl rfl (by decide) | exact Mine.Ev.glob (by assumption) (by assumption) (by k_is) ⟨_, rfl⟩ rfl rfl (by decide) | exact Mine.Ev.glob (by assumption) (by assumption) (by k_is) rfl rfl rfl (by decide) | fail "ev")) Ev.constI rfl) (fun _ => ?_) fun _ => ?_
  · refine Gx.ret4 (P1 := IsSt "BR") (P2 := (· = .str cv tc)) (P3 := fun v => ∃ x t, v = .int x t ∧ x ∈ ([15, 15, 3] : List Int)) (P4 := IsI 0) (Gv.pure fun _ _ => Ev.constS) (by (exact Mine.Gv.pure fun _ _ => by (first | exact Mine.Ev.constI | exact Mine.Ev.constS | exact Mine.Ev.constB | exact Mine.Ev.name rfl ⟨_, rfl⟩ rfl rfl (by decide) | exact Mine.Ev.name rfl rfl rfl rfl (by decide) | exact Mine.Ev.sub rfl (by k_mem) rfl rfl ⟨_, rfl⟩ (by decide) (by decide) rfl rfl (by decide) | exact Mine.Ev.sub rfl (by k_mem) rfl rfl rfl (by decide) (by decide) rfl rfl (by decide) | exact Mine.Ev.glob (by assumption) (by assumption) (by k_is) ⟨_, rfl⟩ rfl rfl (by decide) | exact Mine.Ev.glob (by assumption) (by assumption) (by k_is) rfl rfl rfl (by decide) | fail "ev"))) (by (exact Mine.Gv.pickI (by repeat (first | exact Mine.CI.nil | apply Mine.CI.cons)) (by decide) (fun _ _ hl' => Mine.Gv.modc (by (exact Mine.Gv.next (by assumption) (by assumption) (by assumption) (by walk_at "off") (by omega) (by decide) (by decide) rfl (by k_is) (by k_is) rfl rfl (by decide) rfl (by decide))) (by decide)) (fun _ _ _ => by with_unfolding_all rfl))) (Gv.pure fun _ _ => Ev.constI) fun v1 v2 v3 v4 nw D e1 e2 e3 e4 hS hlt => ?_
    subst e2
    obtain ⟨t1, rfl⟩ := e1
    obtain ⟨x3, t3, rfl, h3⟩ := e3
    obtain ⟨t4, rfl⟩ := e4
    have h3 : 0 ≤ x3 ∧ x3 ≤ 17 := by
      simp only [List.mem_cons, List.not_mem_nil, or_false] at h3
      omega
    exact made_of (.br "BR" cv x3 0) hS hlt ⟨_, _, _, _, _, .head _⟩ (br_ok _ (by decide) hcd (fun _ => h3) (fun h => absurd h (by decide)))
  · refine Gx.ret4 (P1 := IsSt "TRAP") (P2 := (· = .str cv tc)) (P3 := fun v => ∃ x t, v = .int x t ∧ x ∈ ([0, 0, 0, 4] : List Int)) (P4 := fun v => ∃ x t, v = .int x t ∧ x ∈ ([1, 2, 9, 3] : List Int)) (Gv.pure fun _ _ => Ev.constS) (by (exact Mine.Gv.pure fun _ _ => by (first | exact Mine.Ev.constI | exact Mine.Ev.constS | exact Mine.Ev.constB | exact Mine.Ev.name rfl ⟨_, rfl⟩ rfl rfl (by decide) | exact Mine.Ev.name rfl rfl rfl rfl (by decide) | exact Mine.Ev.sub rfl (by k_mem) rfl rfl ⟨_, rfl⟩ (by decide) (by decide) rfl rfl (by decide) | exact Mine.Ev.sub rfl (by k_mem) rfl rfl rfl (by decide) (by decide) rfl rfl (by decide) | exact Mine.Ev.glob (by assumption) (by assumption) (by k_is) ⟨_, rfl⟩ rfl rfl (by decide) | exact Mine.Ev.glob (by assumption) (by assumption) (by k_is) rfl rfl rfl (by decide) | fail "ev"))) (by (exact Mine.Gv.pickI (by repeat (first | exact Mine.CI.nil | apply Mine.CI.cons)) (by decide) (fun _ _ hl' => Mine.Gv.modc (by (exact Mine.Gv.next (by assumption) (by assumption) (by assumption) (by walk_at "off") (by omega) (by decide) (by decide) rfl (by k_is) (by k_is) rfl rfl (by decide) rfl (by decide))) (by decide)) (fun _ _ _ => by with_unfolding_all rfl))) (by (exact Mine.Gv.pickI (by repeat (first | exact Mine.CI.nil | apply Mine.CI.cons)) (by decide) (fun _ _ hl' => Mine.Gv.modc (by (exact Mine.Gv.next (by assumption) (by assumption) (by assumption) (by walk_at "off") (by omega) (by decide) (by decide) rfl (by k_is) (by k_is) rfl rfl (by decide) rfl (by decide))) (by decide)) (fun _ _ _ => by with_unfolding_all rfl))) fun v1 v2 v3 v4 nw D e1 e2 e3 e4 hS hlt => ?_
    subst e2
    obtain ⟨t1, rfl⟩ := e1
    obtain ⟨x3, t3, rfl, h3⟩ := e3
    obtain ⟨x4, t4, rfl, h4⟩ := e4
    have h3 : 0 ≤ x3 := by
      simp only [List.mem_cons, List.not_mem_nil, or_false] at h3
      omega
    exact made_of (.br "TRAP" cv x3 x4) hS hlt ⟨_, _, _, _, _, .head _⟩ (br_ok _ (by decide) hcd (fun h => absurd h (by decide)) (fun _ => h3))
end
end Mine
end
section
theorem Mine.off_B5 : True := by
  w_top off
  trivial
namespace Mine
/-- a contract with a premise on the base heap -/
noncomputable def CtrB (H : Heap → Prop) (w : World) (mean : ExcName → Option Value) (mg mb : Str → Option Value) (f : Addr) (vs : List Value) (news : List (Addr × Obj)) (kd ku : Nat) (Post : Value → List (Addr × Obj) → Prop) : Prop :=
  ∀ (dp un : Nat) (gd : Option (List Code)) (cn : Str) (cs : Scope) (a : Addr) (ccd : Value) (cl : List (Str × Addr)) (outer : List Env) (A₀ : Around) (base h₀ : Heap) (L : Addr) (m : Str → Option Value) (s : Shared) (Q E : Value → Shared → Prop),
    Below A₀ base outer h₀ → Fr h₀ L s.heap m → (hd.heap_39 w.params).In h₀ → News h₀ L s.heap news → Top hd.view_39 (looseW hd.view_39 [Str.ofString "EVERYTHING", Str.ofString "HELD"]) mean mg mb h₀ → cs.kind = .function → dp + kd < recursionLimit → un + ku < cLine → H h₀ →
    (∀ r news' h' tk', Fr h₀ L h' m → News h₀ L h' news' → Post r news' → Q r { s with heap := h', toks := tk' }) →
    wpAny (model PySem.Challenge.pw_pb0326_01 w) (ktrTop dp un gd cn cs L a ccd cl outer) (call (.ref f) vs) Q E s
theorem CtrB.use {H : Heap → Prop} {w : World} {mean : ExcName → Option Value} {mg mb : Str → Option Value} {news : List (Addr × Obj)} {f : Addr} {vs : List Value} {kd ku : Nat} {Post : Value → List (Addr × Obj) → Prop}
    {dp un : Nat} {gd : Option (List Code)} {cn : Str} {cs : Scope} {a : Addr} {ccd : Value} {cl : List (Str × Addr)} {outer : List Env} {A₀ : Around} {base h₀ : Heap} {L : Addr} {m : Str → Option Value} {s : Shared} {Q E : Value → Shared → Prop}
    (B : Below A₀ base outer h₀) (F : Fr h₀ L s.heap m) (X : (hd.heap_39 w.params).In h₀) (N : News h₀ L s.heap news) (T : Top hd.view_39 (looseW hd.view_39 [Str.ofString "EVERYTHING", Str.ofString "HELD"]) mean mg mb h₀) (hk : cs.kind = .function)
    (C : CtrB H w mean mg mb f vs news kd ku Post) (hH : H h₀) (hdp : dp + kd < recursionLimit) (hun : un + ku < cLine)
    (ret : ∀ r news' h' tk', Fr h₀ L h' m → News h₀ L h' news' → Post r news' → Q r { s with heap := h', toks := tk' }) :
    wpAny (model PySem.Challenge.pw_pb0326_01 w) (ktrTop dp un gd cn cs L a ccd cl outer) (call (.ref f) vs) Q E s := C _ _ _ _ _ _ _ _ _ _ _ _ _ _ _ _ _ B F X N T hk hdp hun hH ret
noncomputable def RowOut (k : Nat) (news : List (Addr × Obj)) (r : Value) (nw : List (Addr × Obj)) : Prop :=
  ∃ D us' c' ns', r = .ref D ∧ nw = (D, listOf us'.toArray c') :: news ∧ (∀ p ∈ news, p.1 < D) ∧ IntsAre us' ns' ∧ us'.length ≤ k ∧ ∀ x ∈ ns', 0 ≤ x
structure RwS where
  us : List Value
  k : Nat
  ns : List Int
structure RwI where
  us : List Value
  k : Nat
  ns : List Int
  f : Int
  t : Tok
theorem nn_snoc {ns : List Int} {x : Int} (h : ∀ y ∈ ns, 0 ≤ y) (hx : 0 ≤ x) : ∀ y ∈ ns ++ [x], 0 ≤ y := by
  intro y hy
  rcases List.mem_append.mp hy with hy | hy
  · exact h y hy
  · rw [List.mem_singleton.mp hy]
    exact hx
theorem led2_in {n o1 o2 : List (Addr × Obj)} {a b : Addr × Obj} : ∀ p ∈ a :: b :: (n ++ o1), p ∈ a :: b :: (n ++ (o1 ++ o2)) := by
  intro p hp
  simp only [List.mem_append, List.mem_cons] at hp ⊢
  rcases hp with h | h | h | h <;> simp [h]
theorem led2_own {n o1 o2 : List (Addr × Obj)} {a b : Addr × Obj} : ∀ p ∈ o2, p ∈ a :: b :: (n ++ (o1 ++ o2)) := fun p hp => .tail _ (.tail _ (List.mem_append_right _ (List.mem_append_right _ hp)))
theorem led1_in {n o1 : List (Addr × Obj)} {a b : Addr × Obj} : ∀ p ∈ a :: b :: n, p ∈ a :: b :: (n ++ o1) := by
  intro p hp
  simp only [List.mem_append, List.mem_cons] at hp ⊢
  rcases hp with h | h | h <;> simp [h]
theorem led1_own {n o1 : List (Addr × Obj)} {a b : Addr × Obj} : ∀ p ∈ o1, p ∈ a :: b :: (n ++ o1) := fun p hp => .tail _ (.tail _ (List.mem_append_right _ hp))
theorem ints_rev {us : List Value} {ns : List Int} (h : IntsAre us ns) : IntsAre us.reverse ns.reverse := by
  induction h with
  | nil => exact .nil
  | cons k u _ ih =>
    rw [List.reverse_cons, List.reverse_cons]
    exact ints_snoc ih
end Mine
local macro_rules | `(tactic| walk_at "call builtin:list.reverse") => `(tactic| (k_here; refine Mine.Halt.out ?_))
namespace Mine
section
variable {w : World} {mean : ExcName → Option Value} {mg mb : Str → Option Value} {news : List (Addr × Obj)}
theorem row_spec (R : Addr) (us : List Value) (ns : List Int) (hi : IntsAre us ns) (hl : us.length ≤ 63) : CtrB (fun h => h.IsList R us.toArray) w mean mg mb 150 [.ref R] news 20 4000 (RowOut 160 news) := by
  intro dp un gd cn cs a ccd cl outer A₀ base h₀ L m s Q E B F X N T hk hdp hun hb hret
  refine wpAny_call ?_
  k_dflt (refine' code_def (binds := [(Str.ofString "script", .ref R)]) ?k1 ?k2 ?k3 ?k4 ?k5 ?kA ?kF ?kK ?k6 ?k7 ?k8 ?k9 ?kB ?_ ?c2 ?c3 ?c4 ?c5; (( (case kA => exact rfl); (case kF => exact rfl); (case kK => assumption); (case k1 => k_asm); (case k2 => k_asm); (case k3 => k_asm); (case k4 => k_asm); (case k5 => k_asm); (case k6 => k_is); (case k7 => k_is); (case k8 => ktr_room); (case k9 => exact BindsTo.of_eq (by with_unfolding_all rfl)); (case c5 => decide); (case kB => exact locs rfl); (case c2 => exact rfl); (case c3 => exact rfl); (case c4 => exact rfl); k_whole; intro g' L' h' FG' F' N' B' X' T'; (try simp only [List.reverse_cons, List.reverse_nil, List.nil_append, List.cons_append] at F'); (try dsimp only); (try k_fold))))
  rename (Fr h₀ L _ m) => FGb
  have hLs := Fr.lst FGb hb
  clear hb
  have hl2 := hi.length
  k_steps
  refine Halt.in_ ?_
  rename (Fr _ _ _ _) => F8
  with_unfolding_all refine' For_invVF F8 ?k1 ?k2 ?_
  case k1 => exact rfl
  case k2 => exact rfl
  k_steps
  refine Halt.in_ ?_
  rename (IntsAre _ (List.take 40 ns)) => hiS
  rename (_ ∧ AllLt _ news) => hlt1
  rename (∀ p : Addr × Obj, p ∈ news → p.1 < _) => hlt0
  rename (News _ _ _ _) => N9
  rename (Fr _ _ _ _) => F9
  rename_i Rw _ _ Ds wsS _ _ _
  refine kst_listL (σ := RwS) (vs := wsS) (nn := 0) (fun c => (Rw, listOf c.us.toArray c.k) :: (Ds, listOf wsS.toArray 0) :: news) (fun _ => []) (fun c => IntsAre c.us c.ns ∧ ∀ x ∈ c.ns, 0 ≤ x) [Str.ofString "figure", Str.ofString "lap"] (fun pre c => c.ns.length ≤ 31 * pre.length) ⟨[], 0, []⟩ (by rfl) (fun c => .tail _ (.head _)) hiS F9 (news_sub N9 ?_) ⟨.nil, fun x hx => nomatch hx⟩ (fun p hp => nomatch hp) (by decide) ?_ ?_
  · intro p hp
    rcases List.mem_cons.mp hp with rfl | hp
    · exact .tail _ (.head _)
    · rcases List.mem_cons.mp hp with rfl | hp
      · exact .head _
      · exact .tail _ (.tail _ hp)
  · intro c1 pre1 post1 n1 t1 u1 h1 tk1 own1 hns1 hmem1 hoff1 hF1 hP1 F10 N10
    obtain ⟨us1, k1, ns1⟩ := c1
    obtain ⟨hia, hna⟩ := hF1
    dsimp only at hia hna hP1 N10 hoff1
    have hpl : pre1.length + 1 ≤ 40 := by
      have := congrArg List.length hns1
      rw [List.length_append, List.length_cons] at this
      omega
    have hiaL := hia.length
    simp only [List.cons_append] at N10
    k_steps
    refine Halt.in_ ?_
    refine mid_int (Str.ofString "figure") (if 0 ≤ n1 then n1 else 7 - n1) (by k_asm) (by assumption) ?_ ?_
    · k_steps
      all_goals (refine Halt.in_ (mid_end (by assumption) (by assumption) ?_))
      · rw [if_pos (by omega)]
      · rw [if_neg (by omega)]
    intro h11 tk11 t11 F11 N11
    generalize (if 0 ≤ n1 then n1 else 7 - n1) = f1 at F11
    have hoffR : ∀ p ∈ (Ds, listOf wsS.toArray 0) :: (news ++ own1), p.1 ≠ Rw := by
      intro p hp
      rcases List.mem_cons.mp hp with rfl | hp
      · exact Nat.ne_of_gt hlt1.1
      · rcases List.mem_append.mp hp with hp | hp
        · exact Nat.ne_of_lt (hlt0 p hp)
        · exact hoff1 p hp Rw (by simp)
    k_steps
    refine Halt.in_ ?_
    refine append_K (by k_asm) (by assumption) (.head hoffR) ?_ (by rw [List.size_toArray, sizeLine_eq]; omega)
    intro h12 F12 N12
    k_steps
    refine Halt.in_ ?_
    rename (Fr _ _ _ _) => F13
    with_unfolding_all refine' For_invVF F13 ?k1 ?k2 ?_
    case k1 => exact rfl
    case k2 => exact rfl
    k_steps
    refine Halt.in_ ?_
    rename (Fr _ _ _ _) => F14
    rename (IsRange _ _ _ _ _ _ _ _) => rg14
    rename (News _ _ _ _) => N14
    simp only [List.push_toArray] at N14
    refine kst_range (σ := RwI) (fun c => (Rw, listOf c.us.toArray c.k) :: (Ds, listOf wsS.toArray 0) :: (news ++ own1)) (fun c => [(Str.ofString "figure", .int c.f c.t)]) (fun c => IntsAre c.us c.ns ∧ ∀ x ∈ c.ns, 0 ≤ x) [] (fun pre c => c.ns.length ≤ ns1.length + 1 + pre.length) (⟨us1 ++ [Value.int (f1.fmod 1024) (tk11 + 1)], k1 + 1, ns1 ++ [f1.fmod 1024], f1.fdiv 1024, _⟩ : RwI) (by rfl) rg14 (by decide) (range_one 30) F14 N14 ⟨ints_snoc hia, nn_snoc hna (Int.fmod_nonneg_of_pos _ (by decide))⟩ (fun p hp => by cases List.mem_singleton.mp hp; with_unfolding_all rfl) (by simp) ?_ ?_
    · intro c2 pre2 n2 t2 u2 h2 tk2 own2 hn2 hpre2 hoff2 hF2 hP2 F20 N20
      obtain ⟨us2, k2, ns2, f2, ft2⟩ := c2
      obtain ⟨hib, hnb⟩ := hF2
      dsimp only at hib hnb hP2 N20 hoff2 F20
      have hibL := hib.length
      simp only [List.cons_append, List.append_assoc] at N20
      have hoffR2 : ∀ p ∈ (Ds, listOf wsS.toArray 0) :: (news ++ (own1 ++ own2)), p.1 ≠ Rw := by
        intro p hp
        rcases List.mem_cons.mp hp with rfl | hp
        · exact Nat.ne_of_gt hlt1.1
        · rcases List.mem_append.mp hp with hp | hp
          · exact Nat.ne_of_lt (hlt0 p hp)
          · rcases List.mem_append.mp hp with hp | hp
            · exact hoff1 p hp Rw (by simp)
            · exact hoff2 p hp Rw (by simp)
      clear N14 F14 N12 F12 N11 F11 N10 F10
      k_steps
      · refine Halt.in_ ?_
        refine append_K (by k_asm) (by assumption) (.head hoffR2) ?_ (by rw [List.size_toArray, sizeLine_eq]; omega)
        intro h22 F22 N22
        simp only [List.push_toArray] at N22
        k_steps
        refine Halt.in_ ?_
        rename (News _ _ _ _) => N23
        refine kst_end (σ := RwI) ⟨us2 ++ [Value.int (f2.fmod 1024) (_ + 1)], k2 + 1, ns2 ++ [f2.fmod 1024], f2.fdiv 1024, _⟩ (by k_asm) N23 led2_in led2_own rfl ⟨ints_snoc hib, nn_snoc hnb (Int.fmod_nonneg_of_pos _ (by decide))⟩ (fun p hp => by cases List.mem_singleton.mp hp; with_unfolding_all rfl) ?_ (by simp; omega)
        intro z h1 h2 h3
        have hz : ¬ z = Str.ofString "figure" := h2 _ (.head _)
        dsimp only [kstB]
        simp only [List.contains_nil, Bool.false_eq_true, if_false, if_neg h1, if_neg hz]
      · refine Halt.in_ ?_
        refine kst_end (σ := RwI) ⟨us2, k2, ns2, f2, ft2⟩ (by k_asm) N20 led2_in led2_own rfl ⟨hib, hnb⟩ (fun p hp => by cases List.mem_singleton.mp hp; with_unfolding_all rfl) ?_ (by simp; omega)
        intro z h1 h2 h3
        have hz : ¬ z = Str.ofString "figure" := h2 _ (.head _)
        dsimp only [kstB]
        simp only [List.contains_nil, Bool.false_eq_true, if_false, if_neg h1, if_neg hz]
    · intro c2 u2 h2 tk2 hF2 hP2 F20 N20
      obtain ⟨us2, k2, ns2, f2, ft2⟩ := c2
      obtain ⟨hib, hnb⟩ := hF2
      dsimp only at hib hnb hP2 N20 F20
      k_steps
      refine Halt.in_ ?_
      refine kst_end (σ := RwS) ⟨us2, k2, ns2⟩ (by k_asm) N20 led1_in led1_own rfl ⟨hib, hnb⟩ (fun p hp => nomatch hp) ?_ (by simp [rangeKs_length] at hP2 ⊢; omega)
      intro z h1 h2 h3
      have ha : ¬ z = Str.ofString "figure" := fun e => absurd h3 (by rw [e]; decide)
      have hb : ¬ z = Str.ofString "lap" := fun e => absurd h3 (by rw [e]; decide)
      dsimp only [kstB]
      simp only [List.contains_nil, Bool.false_eq_true, if_false, if_neg h1, if_neg ha, if_neg hb, h3]
  · intro c1 u1 h1 tk1 hF1 hP1 F10 N10
    obtain ⟨us1, k1, ns1⟩ := c1
    obtain ⟨hia, hna⟩ := hF1
    dsimp only at hia hna hP1 N10
    have hiaL := hia.length
    have hlen1 : ns1.length ≤ 1240 := by omega
    k_steps
    rename (IntsAre _ (List.take 160 _)) => hi7
    rename (_ ∧ _ ∧ AllLt _ news) => hlt7
    rename (News _ _ _ _) => N7
    have hi7L := hi7.length
    have hi8 := ints_rev hi7
    have hlt8 : AllLt _ ((Rw, listOf us1.toArray k1) :: (Ds, listOf wsS.toArray 0) :: news) := hlt7
    refine Halt.in_ ?_
    refine kl_reverse (by k_asm) N7 rfl (.head fun p hp => Nat.ne_of_lt (kst_ltOf hlt8 p hp)) ?_ ?_
    · rw [sizeLine_eq]
      simp
      omega
    intro h8 F8 N8
    k_steps
    rename (News _ _ _ _) => N10
    refine hret _ ((_, listOf _ 0) :: news) _ _ (by k_asm) (news_sub N10 ?_) ⟨_, _, _, _, rfl, rfl, fun p hp => kst_ltOf hlt8 p (.tail _ (.tail _ hp)), hi8, ?_, ?_⟩
    · intro p hp
      rcases List.mem_cons.mp hp with rfl | hp
      · exact .head _
      · exact .tail _ (.tail _ (.tail _ hp))
    · simp
      omega
    · intro x hx
      exact hna x (List.mem_of_mem_take (List.mem_reverse.mp hx))
end
end Mine
end
theorem Mine.off_LA : True := by
  w_top off
  trivial
namespace Mine
noncomputable def MadeAny (g : Obj → List (Addr × Obj)) (k : Nat) (r : Value) (nw : List (Addr × Obj)) : Prop :=
  ∃ D o us' c' ns' ins, r = .ref D ∧ nw = (D, o) :: g (listOf us'.toArray c') ∧ (∀ p ∈ g (listOf us'.toArray c'), p.1 < D) ∧ us'.length ≤ k ∧ IntsAre us' ns' ∧ (∀ x ∈ ns', 0 ≤ x) ∧ InsAt [(D, o)] D ins ∧ ins.ok
theorem updF_sub {d : Addr} {o o' : Obj} {l : List (Addr × Obj)} {g : Obj → List (Addr × Obj)} (U : UpdF d o l g) : ∀ p ∈ g o', p = (d, o') ∨ (p ∈ l ∧ p.1 ≠ d) := by
  induction U with
  | head h =>
    intro p hp
    rcases List.mem_cons.mp hp with rfl | hp
    · exact .inl rfl
    · exact .inr ⟨.tail _ hp, h p hp⟩
  | tail h _ ih =>
    intro p hp
    rcases List.mem_cons.mp hp with rfl | hp
    · exact .inr ⟨.head _, h⟩
    · rcases ih p hp with q | q
      · exact .inl q
      · exact .inr ⟨.tail _ q.1, q.2⟩
theorem updF_app {d : Addr} {o : Obj} {l : List (Addr × Obj)} {g : Obj → List (Addr × Obj)} : ∀ (tl : List (Addr × Obj)), (∀ p ∈ tl, p.1 ≠ d) → UpdF d o l g → UpdF d o (tl ++ l) (fun o' => tl ++ g o')
  | [], _, U => U
  | _ :: tl, h, U => .tail (h _ (.head _)) (updF_app tl (fun p hp => h p (.tail _ hp)) U)
noncomputable def MadeJ (R : Addr) (cells : List (Addr × Obj)) (i : Nat) (ys : List Value) (nw : List (Addr × Obj)) : Prop :=
  ∃ (us : List Value) (c : Nat) (ns : List Int) (rs : List Ins) (tl : List (Addr × Obj)), nw = tl ++ (R, listOf us.toArray c) :: cells ∧ (∀ p ∈ tl, p.1 ≠ R) ∧ (∀ p ∈ tl, ∀ q ∈ cells, q.1 ≠ p.1) ∧ us.length ≤ 160 ∧ IntsAre us ns ∧ (∀ x ∈ ns, 0 ≤ x) ∧ rs.length = i ∧ ys.length = i ∧ ∀ (j : Nat) r, rs[j]? = some r → ∃ ra, ys[j]? = some (.ref ra) ∧ InsAt tl ra r ∧ r.ok
theorem MadeJ.zero {R : Addr} {cells : List (Addr × Obj)} {us : List Value} {c : Nat} {ns : List Int} (hl : us.length ≤ 160) (hi : IntsAre us ns) (hn : ∀ x ∈ ns, 0 ≤ x) : MadeJ R cells 0 [] ((R, listOf us.toArray c) :: cells) :=
  ⟨us, c, ns, [], [], rfl, (fun p hp => by cases hp), (fun p hp => by cases hp), hl, hi, hn, rfl, rfl, (fun j r e => by simp at e)⟩
theorem MadeJ.snoc {R D : Addr} {o : Obj} {cells tl : List (Addr × Obj)} {i : Nat} {ys : List Value} {us' : List Value} {c' : Nat} {ns' : List Int} {rs : List Ins} {ins : Ins} (htl : ∀ p ∈ tl, p.1 ≠ R) (htc : ∀ p ∈ tl, ∀ q ∈ cells, q.1 ≠ p.1) (hDc : ∀ q ∈ cells, q.1 ≠ D) (hrl : rs.length = i) (hyl : ys.length = i) (hat : ∀ (j : Nat) r, rs[j]? = some r → ∃ ra, ys[j]? = some (.ref ra) ∧ InsAt tl ra r ∧ r.ok)
    (hD : D ≠ R) (hl : us'.length ≤ 160) (hi : IntsAre us' ns') (hn : ∀ x ∈ ns', 0 ≤ x) (hI : InsAt [(D, o)] D ins) (hok : ins.ok) : MadeJ R cells (i + 1) (ys ++ [.ref D]) ((D, o) :: (tl ++ (R, listOf us'.toArray c') :: cells)) := by
  refine ⟨us', c', ns', rs ++ [ins], (D, o) :: tl, rfl, fun p hp => ?_, fun p hp => ?_, hl, hi, hn, by simp [hrl], by simp [hyl], fun j r e => ?_⟩
  · rcases List.mem_cons.mp hp with rfl | hp
    · exact hD
    · exact htl p hp
  · rcases List.mem_cons.mp hp with rfl | hp
    · exact hDc
    · exact htc p hp
  · by_cases hj : j < rs.length
    · rw [List.getElem?_append_left hj] at e
      obtain ⟨ra, h1, h2, h3⟩ := hat j r e
      exact ⟨ra, by rw [List.getElem?_append_left (by omega)]; exact h1, h2.mono (fun p hp => .tail _ hp), h3⟩
    · have hj2 : j = rs.length := by
        by_cases q : j = rs.length
        · exact q
        · rw [List.getElem?_eq_none (by rw [List.length_append, List.length_singleton]; omega)] at e
          cases e
      subst hj2
      simp at e
      subst e
      refine ⟨D, by rw [hrl, ← hyl]; simp, hI.mono (fun p hp => ?_), hok⟩
      rw [List.mem_singleton.mp hp]
      exact .head _
theorem MadeJ.fin {h₀ h : Heap} {L R D : Addr} {cells : List (Addr × Obj)} {n : Nat} {ys : List Value} {nw : List (Addr × Obj)} (hJ : MadeJ R cells n ys nw) (off1 : LCg.Off1 D nw) (N : News h₀ L h ((D, LCg.lst ys) :: nw)) (hn : n ≤ 8) :
    ∃ rest rs, News h₀ L h (cells ++ rest) ∧ (∀ p ∈ rest, ∀ q ∈ cells.map (·.1), p.1 ≠ q) ∧ RowsAt rest D ys.length ys rs ∧ rs.length = n := by
  obtain ⟨us, c, ns, rs, tl, rfl, htl, htc, -, -, -, hrl, hyl, hat⟩ := hJ
  refine ⟨(D, LCg.lst ys) :: tl, rs, news_sub N (fun p hp => ?_), fun p hp q hq => ?_, ⟨.head _, by omega, by omega, fun i r e => ?_⟩, hrl⟩
  · rcases List.mem_append.mp hp with hp | hp
    · exact .tail _ (List.mem_append_right _ (.tail _ hp))
    · rcases List.mem_cons.mp hp with rfl | hp
      · exact .head _
      · exact .tail _ (List.mem_append_left _ hp)
  · obtain ⟨q', hq', rfl⟩ := List.mem_map.mp hq
    rcases List.mem_cons.mp hp with rfl | hp
    · exact Ne.symm (off1_mem off1 q' (List.mem_append_right _ (.tail _ hq')))
    · exact Ne.symm (htc p hp q' hq')
  · obtain ⟨ra, h1, h2, h3⟩ := hat i r e
    exact ⟨ra, h1, h2.mono fun p hp => .tail _ hp, h3⟩
theorem TupAt.mono {nw nw' : List (Addr × Obj)} {T : Addr} {vs : List Value} (h : TupAt nw T vs) (hs : ∀ p ∈ nw, p ∈ nw') : TupAt nw' T vs := let ⟨n, q⟩ := h; ⟨n, hs _ q⟩
theorem LstAt.mono {nw nw' : List (Addr × Obj)} {l : Addr} {ns : List Int} (h : LstAt nw l ns) (hs : ∀ p ∈ nw, p ∈ nw') : LstAt nw' l ns := let ⟨us, c, q, i⟩ := h; ⟨us, c, hs _ q, i⟩
theorem TabsRow.mono {nw nw' : List (Addr × Obj)} {rs : List Ins} {v : Value} {j : Nat} (h : TabsRow nw rs v j) (hs : ∀ p ∈ nw, p ∈ nw') : TabsRow nw' rs v j :=
  h.imp fun _ h => h.imp fun _ h => h.imp fun _ h => h.imp fun _ h => h.imp fun _ h => h.imp fun _ h => ⟨h.1, h.2.1, h.2.2.1.mono hs, h.2.2.2.1.mono hs, h.2.2.2.2.1.mono hs, h.2.2.2.2.2⟩
theorem WaysRow.mono {nw nw' : List (Addr × Obj)} {rs : List Ins} {v : Value} {j : Nat} (h : WaysRow nw rs v j) (hs : ∀ p ∈ nw, p ∈ nw') : WaysRow nw' rs v j :=
  h.imp fun _ h => h.imp fun _ h => h.imp fun _ h => h.imp fun _ h => ⟨h.1, h.2.1, h.2.2.1.mono hs, h.2.2.2.1.mono hs, h.2.2.2.2⟩
theorem RowsAt.mono {nw nw' : List (Addr × Obj)} {R : Addr} {n : Nat} {refs : List Value} {rs : List Ins} (h : RowsAt nw R n refs rs) (hs : ∀ p ∈ nw, p ∈ nw') : RowsAt nw' R n refs rs :=
  ⟨hs _ h.list, h.len, h.le8, fun i r e => let ⟨ra, a, b, c⟩ := h.at_ i r e; ⟨ra, a, b.mono hs, c⟩⟩
theorem TabsAt.mono {nw nw' : List (Addr × Obj)} {rs : List Ins} {ts : List Value} (h : TabsAt nw rs ts) (hs : ∀ p ∈ nw, p ∈ nw') : TabsAt nw' rs ts := ⟨h.1, fun j v e => (h.2 j v e).mono hs⟩
theorem WaysAt.mono {nw nw' : List (Addr × Obj)} {rs : List Ins} {ts : List Value} (h : WaysAt nw rs ts) (hs : ∀ p ∈ nw, p ∈ nw') : WaysAt nw' rs ts := ⟨h.1, fun j v e => (h.2 j v e).mono hs⟩
/-- a comprehension that builds on the ledger `base`: what stands above, and what is true of each item -/
noncomputable def BuildJ (base : List (Addr × Obj)) (P : List (Addr × Obj) → Value → Nat → Prop) (i : Nat) (ys : List Value) (nw : List (Addr × Obj)) : Prop :=
  ∃ tl, nw = tl ++ base ∧ ys.length = i ∧ (∀ p ∈ tl, ∀ q ∈ base, p.1 ≠ q.1) ∧ ∀ j v, ys[j]? = some v → P tl v j
theorem BuildJ.zero {base : List (Addr × Obj)} {P : List (Addr × Obj) → Value → Nat → Prop} : BuildJ base P 0 [] base :=
  ⟨[], rfl, rfl, (fun p hp => by cases hp), (fun j v e => by simp at e)⟩
theorem BuildJ.snoc {base nw new : List (Addr × Obj)} {P : List (Addr × Obj) → Value → Nat → Prop} {i : Nat} {ys : List Value} {y : Value} (hP : ∀ (a b : List (Addr × Obj)) v j, (∀ p ∈ a, p ∈ b) → P a v j → P b v j) (h : BuildJ base P i ys nw) (hn : ∀ p ∈ new, ∀ q ∈ base, p.1 ≠ q.1) (hy : P new y i) : BuildJ base P (i + 1) (ys ++ [y]) (new ++ nw) := by
  obtain ⟨tl, rfl, hl, ho, ha⟩ := h
  refine ⟨new ++ tl, by rw [List.append_assoc], by simp [hl], fun p hp q hq => ?_, fun j v e => ?_⟩
  · rcases List.mem_append.mp hp with hp | hp
    · exact hn p hp q hq
    · exact ho p hp q hq
  · by_cases hj : j < ys.length
    · rw [List.getElem?_append_left hj] at e
      exact hP _ _ v j (fun p hp => List.mem_append_right _ hp) (ha j v e)
    · have hj2 : j = ys.length := by
        by_cases q : j = ys.length
        · exact q
        · rw [List.getElem?_eq_none (by rw [List.length_append, List.length_singleton]; omega)] at e
          cases e
      subst hj2
      simp at e
      subst e
      rw [hl]
      exact hP _ _ y i (fun p hp => List.mem_append_left _ hp) hy
/-- the eight cells of law, and what stands above -/
noncomputable def L8 (a1 a2 a3 a4 a5 a6 a7 a8 : Nat) (o1 o2 o3 o4 o5 o6 o7 o8 : Obj) (rest : List (Addr × Obj)) : List (Addr × Obj) := (a8, o8) :: (a7, o7) :: (a6, o6) :: (a5, o5) :: (a4, o4) :: (a3, o3) :: (a2, o2) :: (a1, o1) :: rest
theorem BuildJ.fin8 {h₀ h : Heap} {L D : Addr} {a1 a2 a3 a4 a5 a6 a7 a8 : Nat} {o1 o2 o3 o4 o5 o6 o7 o8 : Obj} {rest : List (Addr × Obj)} {P : List (Addr × Obj) → Value → Nat → Prop} {n : Nat} {ys : List Value} {nw : List (Addr × Obj)} (hP : ∀ (a b : List (Addr × Obj)) v j, (∀ p ∈ a, p ∈ b) → P a v j → P b v j) (hJ : BuildJ (L8 a1 a2 a3 a4 a5 a6 a7 a8 o1 o2 o3 o4 o5 o6 o7 o8 rest) P n ys nw) (off1 : ∀ p ∈ nw, p.1 ≠ D) (N : News h₀ L h ((D, LCg.lst ys) :: nw)) (hr : ∀ p ∈ rest, ∀ q ∈ ([a8, a7, a6, a5, a4, a3, a2, a1] : List Nat), p.1 ≠ q) :
    ∃ rest', News h₀ L h (L8 a1 a2 a3 a4 a5 a6 a7 a8 o1 o2 o3 o4 o5 o6 o7 o8 rest') ∧ (∀ p ∈ rest', ∀ q ∈ ([a8, a7, a6, a5, a4, a3, a2, a1] : List Nat), p.1 ≠ q) ∧ (∀ p ∈ rest, p ∈ rest') ∧ (D, LCg.lst ys) ∈ rest' ∧ ys.length = n ∧ ∀ j v, ys[j]? = some v → P rest' v j := by
  obtain ⟨tl, rfl, hl, ho, ha⟩ := hJ
  have hin : ∀ q ∈ ([a8, a7, a6, a5, a4, a3, a2, a1] : List Nat), ∃ o, (q, o) ∈ L8 a1 a2 a3 a4 a5 a6 a7 a8 o1 o2 o3 o4 o5 o6 o7 o8 rest := by
    intro q hq
    simp only [List.mem_cons, List.not_mem_nil, or_false] at hq
    unfold L8
    rcases hq with rfl | rfl | rfl | rfl | rfl | rfl | rfl | rfl
    · exact ⟨o8, .head _⟩
    · exact ⟨o7, .tail _ (.head _)⟩
    · exact ⟨o6, .tail _ (.tail _ (.head _))⟩
    · exact ⟨o5, .tail _ (.tail _ (.tail _ (.head _)))⟩
    · exact ⟨o4, .tail _ (.tail _ (.tail _ (.tail _ (.head _))))⟩
    · exact ⟨o3, .tail _ (.tail _ (.tail _ (.tail _ (.tail _ (.head _)))))⟩
    · exact ⟨o2, .tail _ (.tail _ (.tail _ (.tail _ (.tail _ (.tail _ (.head _))))))⟩
    · exact ⟨o1, .tail _ (.tail _ (.tail _ (.tail _ (.tail _ (.tail _ (.tail _ (.head _)))))))⟩
  refine ⟨(D, LCg.lst ys) :: (tl ++ rest), news_sub N (fun p hp => ?_), fun p hp q hq => ?_, fun p hp => .tail _ (List.mem_append_right _ hp), .head _, hl, fun j v e => hP _ _ v j (fun p hp => .tail _ (List.mem_append_left _ hp)) (ha j v e)⟩
  · unfold L8 at hp ⊢
    simp only [List.mem_cons, List.mem_append] at hp ⊢
    rcases hp with h | h | h | h | h | h | h | h | h | h | h <;> simp [h]
  · obtain ⟨o, ho2⟩ := hin q hq
    rcases List.mem_cons.mp hp with rfl | hp
    · exact Ne.symm (off1 (q, o) (List.mem_append_right _ ho2))
    · rcases List.mem_append.mp hp with hp | hp
      · exact ho p hp (q, o) ho2
      · exact hr p hp q hq
noncomputable def Up8 (a1 a2 a3 a4 a5 a6 a7 a8 : Nat) : Prop := a1 < a2 ∧ a2 < a3 ∧ a3 < a4 ∧ a4 < a5 ∧ a5 < a6 ∧ a6 < a7 ∧ a7 < a8
theorem up8_ok (z : Nat) : Up8 (z + 1) (z + 1 + 1) (z + 1 + 1 + 1) (z + 1 + 1 + 1 + 1) (z + 1 + 1 + 1 + 1 + 1) (z + 1 + 1 + 1 + 1 + 1 + 1) (z + 1 + 1 + 1 + 1 + 1 + 1 + 1) (z + 1 + 1 + 1 + 1 + 1 + 1 + 1 + 1) := by
  unfold Up8
  omega
theorem up8_1 {a1 a2 a3 a4 a5 a6 a7 a8 : Nat} {o1 o2 o3 o4 o5 o6 o7 o8 : Obj} {rest : List (Addr × Obj)} (h : Up8 a1 a2 a3 a4 a5 a6 a7 a8) (hr : ∀ p ∈ rest, ∀ q ∈ ([a8, a7, a6, a5, a4, a3, a2, a1] : List Nat), p.1 ≠ q) : UpdF a1 o1 (L8 a1 a2 a3 a4 a5 a6 a7 a8 o1 o2 o3 o4 o5 o6 o7 o8 rest) (fun o' => L8 a1 a2 a3 a4 a5 a6 a7 a8 o' o2 o3 o4 o5 o6 o7 o8 rest) := by
  obtain ⟨h1, h2, h3, h4, h5, h6, h7⟩ := h
  refine .tail (Nat.ne_of_gt (by omega)) (.tail (Nat.ne_of_gt (by omega)) (.tail (Nat.ne_of_gt (by omega)) (.tail (Nat.ne_of_gt (by omega)) (.tail (Nat.ne_of_gt (by omega)) (.tail (Nat.ne_of_gt (by omega)) (.tail (Nat.ne_of_gt (by omega)) (.head ?_)))))))
  intro p hp
  have hq : (p ∈ rest) := by simpa using hp
  rcases hq with hq
  exact hr p hq _ (by simp)
theorem up8_2 {a1 a2 a3 a4 a5 a6 a7 a8 : Nat} {o1 o2 o3 o4 o5 o6 o7 o8 : Obj} {rest : List (Addr × Obj)} (h : Up8 a1 a2 a3 a4 a5 a6 a7 a8) (hr : ∀ p ∈ rest, ∀ q ∈ ([a8, a7, a6, a5, a4, a3, a2, a1] : List Nat), p.1 ≠ q) : UpdF a2 o2 (L8 a1 a2 a3 a4 a5 a6 a7 a8 o1 o2 o3 o4 o5 o6 o7 o8 rest) (fun o' => L8 a1 a2 a3 a4 a5 a6 a7 a8 o1 o' o3 o4 o5 o6 o7 o8 rest) := by
  obtain ⟨h1, h2, h3, h4, h5, h6, h7⟩ := h
  refine .tail (Nat.ne_of_gt (by omega)) (.tail (Nat.ne_of_gt (by omega)) (.tail (Nat.ne_of_gt (by omega)) (.tail (Nat.ne_of_gt (by omega)) (.tail (Nat.ne_of_gt (by omega)) (.tail (Nat.ne_of_gt (by omega)) (.head ?_))))))
  intro p hp
  have hq : (p = (a1, o1) ∨ p ∈ rest) := by simpa using hp
  rcases hq with rfl | hq
  · exact Nat.ne_of_lt (by omega)
  · exact hr p hq _ (by simp)
theorem up8_3 {a1 a2 a3 a4 a5 a6 a7 a8 : Nat} {o1 o2 o3 o4 o5 o6 o7 o8 : Obj} {rest : List (Addr × Obj)} (h : Up8 a1 a2 a3 a4 a5 a6 a7 a8) (hr : ∀ p ∈ rest, ∀ q ∈ ([a8, a7, a6, a5, a4, a3, a2, a1] : List Nat), p.1 ≠ q) : UpdF a3 o3 (L8 a1 a2 a3 a4 a5 a6 a7 a8 o1 o2 o3 o4 o5 o6 o7 o8 rest) (fun o' => L8 a1 a2 a3 a4 a5 a6 a7 a8 o1 o2 o' o4 o5 o6 o7 o8 rest) := by
  obtain ⟨h1, h2, h3, h4, h5, h6, h7⟩ := h
  refine .tail (Nat.ne_of_gt (by omega)) (.tail (Nat.ne_of_gt (by omega)) (.tail (Nat.ne_of_gt (by omega)) (.tail (Nat.ne_of_gt (by omega)) (.tail (Nat.ne_of_gt (by omega)) (.head ?_)))))
  intro p hp
  have hq : (p = (a2, o2) ∨ p = (a1, o1) ∨ p ∈ rest) := by simpa using hp
  rcases hq with rfl | rfl | hq
  · exact Nat.ne_of_lt (by omega)
  · exact Nat.ne_of_lt (by omega)
  · exact hr p hq _ (by simp)
theorem up8_4 {a1 a2 a3 a4 a5 a6 a7 a8 : Nat} {o1 o2 o3 o4 o5 o6 o7 o8 : Obj} {rest : List (Addr × Obj)} (h : Up8 a1 a2 a3 a4 a5 a6 a7 a8) (hr : ∀ p ∈ rest, ∀ q ∈ ([a8, a7, a6, a5, a4, a3, a2, a1] : List Nat), p.1 ≠ q) : UpdF a4 o4 (L8 a1 a2 a3 a4 a5 a6 a7 a8 o1 o2 o3 o4 o5 o6 o7 o8 rest) (fun o' => L8 a1 a2 a3 a4 a5 a6 a7 a8 o1 o2 o3 o' o5 o6 o7 o8 rest) := by
  obtain ⟨h1, h2, h3, h4, h5, h6, h7⟩ := h
  refine .tail (Nat.ne_of_gt (by omega)) (.tail (Nat.ne_of_gt (by omega)) (.tail (Nat.ne_of_gt (by omega)) (.tail (Nat.ne_of_gt (by omega)) (.head ?_))))
  intro p hp
  have hq : (p = (a3, o3) ∨ p = (a2, o2) ∨ p = (a1, o1) ∨ p ∈ rest) := by simpa using hp
  rcases hq with rfl | rfl | rfl | hq
  · exact Nat.ne_of_lt (by omega)
  · exact Nat.ne_of_lt (by omega)
  · exact Nat.ne_of_lt (by omega)
  · exact hr p hq _ (by simp)
theorem up8_5 {a1 a2 a3 a4 a5 a6 a7 a8 : Nat} {o1 o2 o3 o4 o5 o6 o7 o8 : Obj} {rest : List (Addr × Obj)} (h : Up8 a1 a2 a3 a4 a5 a6 a7 a8) (hr : ∀ p ∈ rest, ∀ q ∈ ([a8, a7, a6, a5, a4, a3, a2, a1] : List Nat), p.1 ≠ q) : UpdF a5 o5 (L8 a1 a2 a3 a4 a5 a6 a7 a8 o1 o2 o3 o4 o5 o6 o7 o8 rest) (fun o' => L8 a1 a2 a3 a4 a5 a6 a7 a8 o1 o2 o3 o4 o' o6 o7 o8 rest) := by
  obtain ⟨h1, h2, h3, h4, h5, h6, h7⟩ := h
  refine .tail (Nat.ne_of_gt (by omega)) (.tail (Nat.ne_of_gt (by omega)) (.tail (Nat.ne_of_gt (by omega)) (.head ?_)))
  intro p hp
  have hq : (p = (a4, o4) ∨ p = (a3, o3) ∨ p = (a2, o2) ∨ p = (a1, o1) ∨ p ∈ rest) := by simpa using hp
  rcases hq with rfl | rfl | rfl | rfl | hq
  · exact Nat.ne_of_lt (by omega)
  · exact Nat.ne_of_lt (by omega)
  · exact Nat.ne_of_lt (by omega)
  · exact Nat.ne_of_lt (by omega)
  · exact hr p hq _ (by simp)
theorem up8_6 {a1 a2 a3 a4 a5 a6 a7 a8 : Nat} {o1 o2 o3 o4 o5 o6 o7 o8 : Obj} {rest : List (Addr × Obj)} (h : Up8 a1 a2 a3 a4 a5 a6 a7 a8) (hr : ∀ p ∈ rest, ∀ q ∈ ([a8, a7, a6, a5, a4, a3, a2, a1] : List Nat), p.1 ≠ q) : UpdF a6 o6 (L8 a1 a2 a3 a4 a5 a6 a7 a8 o1 o2 o3 o4 o5 o6 o7 o8 rest) (fun o' => L8 a1 a2 a3 a4 a5 a6 a7 a8 o1 o2 o3 o4 o5 o' o7 o8 rest) := by
  obtain ⟨h1, h2, h3, h4, h5, h6, h7⟩ := h
  refine .tail (Nat.ne_of_gt (by omega)) (.tail (Nat.ne_of_gt (by omega)) (.head ?_))
  intro p hp
  have hq : (p = (a5, o5) ∨ p = (a4, o4) ∨ p = (a3, o3) ∨ p = (a2, o2) ∨ p = (a1, o1) ∨ p ∈ rest) := by simpa using hp
  rcases hq with rfl | rfl | rfl | rfl | rfl | hq
  · exact Nat.ne_of_lt (by omega)
  · exact Nat.ne_of_lt (by omega)
  · exact Nat.ne_of_lt (by omega)
  · exact Nat.ne_of_lt (by omega)
  · exact Nat.ne_of_lt (by omega)
  · exact hr p hq _ (by simp)
theorem up8_7 {a1 a2 a3 a4 a5 a6 a7 a8 : Nat} {o1 o2 o3 o4 o5 o6 o7 o8 : Obj} {rest : List (Addr × Obj)} (h : Up8 a1 a2 a3 a4 a5 a6 a7 a8) (hr : ∀ p ∈ rest, ∀ q ∈ ([a8, a7, a6, a5, a4, a3, a2, a1] : List Nat), p.1 ≠ q) : UpdF a7 o7 (L8 a1 a2 a3 a4 a5 a6 a7 a8 o1 o2 o3 o4 o5 o6 o7 o8 rest) (fun o' => L8 a1 a2 a3 a4 a5 a6 a7 a8 o1 o2 o3 o4 o5 o6 o' o8 rest) := by
  obtain ⟨h1, h2, h3, h4, h5, h6, h7⟩ := h
  refine .tail (Nat.ne_of_gt (by omega)) (.head ?_)
  intro p hp
  have hq : (p = (a6, o6) ∨ p = (a5, o5) ∨ p = (a4, o4) ∨ p = (a3, o3) ∨ p = (a2, o2) ∨ p = (a1, o1) ∨ p ∈ rest) := by simpa using hp
  rcases hq with rfl | rfl | rfl | rfl | rfl | rfl | hq
  · exact Nat.ne_of_lt (by omega)
  · exact Nat.ne_of_lt (by omega)
  · exact Nat.ne_of_lt (by omega)
  · exact Nat.ne_of_lt (by omega)
  · exact Nat.ne_of_lt (by omega)
  · exact Nat.ne_of_lt (by omega)
  · exact hr p hq _ (by simp)
theorem up8_8 {a1 a2 a3 a4 a5 a6 a7 a8 : Nat} {o1 o2 o3 o4 o5 o6 o7 o8 : Obj} {rest : List (Addr × Obj)} (h : Up8 a1 a2 a3 a4 a5 a6 a7 a8) (hr : ∀ p ∈ rest, ∀ q ∈ ([a8, a7, a6, a5, a4, a3, a2, a1] : List Nat), p.1 ≠ q) : UpdF a8 o8 (L8 a1 a2 a3 a4 a5 a6 a7 a8 o1 o2 o3 o4 o5 o6 o7 o8 rest) (fun o' => L8 a1 a2 a3 a4 a5 a6 a7 a8 o1 o2 o3 o4 o5 o6 o7 o' rest) := by
  obtain ⟨h1, h2, h3, h4, h5, h6, h7⟩ := h
  refine .head ?_
  intro p hp
  have hq : (p = (a7, o7) ∨ p = (a6, o6) ∨ p = (a5, o5) ∨ p = (a4, o4) ∨ p = (a3, o3) ∨ p = (a2, o2) ∨ p = (a1, o1) ∨ p ∈ rest) := by simpa using hp
  rcases hq with rfl | rfl | rfl | rfl | rfl | rfl | rfl | hq
  · exact Nat.ne_of_lt (by omega)
  · exact Nat.ne_of_lt (by omega)
  · exact Nat.ne_of_lt (by omega)
  · exact Nat.ne_of_lt (by omega)
  · exact Nat.ne_of_lt (by omega)
  · exact Nat.ne_of_lt (by omega)
  · exact Nat.ne_of_lt (by omega)
  · exact hr p hq _ (by simp)
section
variable {w : World} {mean : ExcName → Option Value} {mg mb : Str → Option Value} {news : List (Addr × Obj)}
theorem md_any (R : Addr) (us : List Value) (c : Nat) (ns : List Int) (many : Int) (tm : Tok) (g : Obj → List (Addr × Obj)) (U : UpdF R (listOf us.toArray c) news g) (hi : IntsAre us ns) (hl : us.length ≤ 160) (hns : ∀ x ∈ ns, 0 ≤ x) (hm0 : 0 ≤ many) (hm1 : many ≤ 8) : Ctr w mean mg mb 164 [.ref R, .int many tm] news 20 400 (MadeAny g us.length) := by
  intro dp un gd cn cs a ccd cl outer A₀ base h₀ L m s Q E B F X N T hk hdp hun hret
  have N0 : News h₀ L s.heap ((R, listOf us.toArray c) :: news.filter (fun p => decide (p.1 ≠ R))) := news_sub N (fun p hp => by
    rcases List.mem_cons.mp hp with rfl | hp
    · exact updF_mem U
    · exact (List.mem_filter.mp hp).1)
  refine md_spec (news := news.filter (fun p => decide (p.1 ≠ R))) R us c ns many tm (fun p hp => by simpa using (List.mem_filter.mp hp).2) hi hl hns hm0 hm1 dp un gd cn cs a ccd cl outer A₀ base h₀ L m s Q E B F X N0 T hk hdp hun ?_
  intro r nw h' tk' F' N' hp
  obtain ⟨D, o, us', c', ns', ins, rfl, rfl, hlt, hk', hi', hn', hI, hok⟩ := hp
  have sub : ∀ p ∈ g (listOf us'.toArray c'), p ∈ (R, listOf us'.toArray c') :: news.filter (fun p => decide (p.1 ≠ R)) := by
    intro p hp
    rcases updF_sub U p hp with rfl | ⟨h1, h2⟩
    · exact .head _
    · exact .tail _ (List.mem_filter.mpr ⟨h1, by simpa using h2⟩)
  refine hret _ _ _ _ F' (news_sub (news := (D, o) :: g (listOf us'.toArray c')) N' (fun p hp => ?_)) ⟨D, o, us', c', ns', ins, rfl, rfl, fun p hp => hlt p (sub p hp), hk', hi', hn', hI, hok⟩
  rcases List.mem_cons.mp hp with rfl | hp
  · exact .head _
  · exact .tail _ (sub p hp)
end
end Mine
theorem Mine.off_LB : True := by
  w_top off
  trivial
namespace Mine
open PyProof.Rows.LCg
theorem news_ne {h₀ h : Heap} {L : Addr} {l : List (Addr × Obj)} {p q : Addr × Obj} (N : News h₀ L h l) (hp : p ∈ l) (hq : q ∈ l) (hn : p.2 ≠ q.2) : p.1 ≠ q.1 := by
  intro e
  have h1 := (N p hp).1
  have h2 := (N q hq).1
  rw [e, h2] at h1
  exact hn (Option.some.inj h1).symm
theorem cell_ne {oc o : Obj} {v : Option Value} {vs : Array Value} {n : Nat} (hc : oc.data = .cell v) (ho : o.data = .seq vs n) : oc ≠ o := by
  rintro rfl
  rw [hc] at ho
  cases ho
noncomputable def IsC (o : Obj) : Prop := ∃ v, o.data = .cell v
noncomputable def IsS (o : Obj) : Prop := ∃ vs n, o.data = .seq vs n
theorem off8_new {h₀ h : Heap} {L : Addr} {a1 a2 a3 a4 a5 a6 a7 a8 : Nat} {o1 o2 o3 o4 o5 o6 o7 o8 : Obj} {rest : List (Addr × Obj)} (new : List (Addr × Obj)) (N : News h₀ L h (new ++ L8 a1 a2 a3 a4 a5 a6 a7 a8 o1 o2 o3 o4 o5 o6 o7 o8 rest)) (hc : IsC o1 ∧ IsC o2 ∧ IsC o3 ∧ IsC o4 ∧ IsC o5 ∧ IsC o6 ∧ IsC o7 ∧ IsC o8) (hnew : ∀ p ∈ new, IsS p.2)
    (hr : ∀ p ∈ rest, ∀ q ∈ ([a8, a7, a6, a5, a4, a3, a2, a1] : List Nat), p.1 ≠ q) : ∀ p ∈ new ++ rest, ∀ q ∈ ([a8, a7, a6, a5, a4, a3, a2, a1] : List Nat), p.1 ≠ q := by
  have hin : ∀ q ∈ ([a8, a7, a6, a5, a4, a3, a2, a1] : List Nat), ∃ o, IsC o ∧ (q, o) ∈ L8 a1 a2 a3 a4 a5 a6 a7 a8 o1 o2 o3 o4 o5 o6 o7 o8 rest := by
    intro q hq
    obtain ⟨c1, c2, c3, c4, c5, c6, c7, c8⟩ := hc
    simp only [List.mem_cons, List.not_mem_nil, or_false] at hq
    unfold L8
    rcases hq with rfl | rfl | rfl | rfl | rfl | rfl | rfl | rfl
    · exact ⟨o8, c8, .head _⟩
    · exact ⟨o7, c7, .tail _ (.head _)⟩
    · exact ⟨o6, c6, .tail _ (.tail _ (.head _))⟩
    · exact ⟨o5, c5, .tail _ (.tail _ (.tail _ (.head _)))⟩
    · exact ⟨o4, c4, .tail _ (.tail _ (.tail _ (.tail _ (.head _))))⟩
    · exact ⟨o3, c3, .tail _ (.tail _ (.tail _ (.tail _ (.tail _ (.head _)))))⟩
    · exact ⟨o2, c2, .tail _ (.tail _ (.tail _ (.tail _ (.tail _ (.tail _ (.head _))))))⟩
    · exact ⟨o1, c1, .tail _ (.tail _ (.tail _ (.tail _ (.tail _ (.tail _ (.tail _ (.head _)))))))⟩
  intro p hp q hq
  rcases List.mem_append.mp hp with hp | hp
  · obtain ⟨o, ⟨v, hv⟩, hm⟩ := hin q hq
    obtain ⟨vs, n, hs⟩ := hnew p hp
    refine news_ne N (List.mem_append_left _ hp) (q := (q, o)) (List.mem_append_right _ hm) ?_
    intro e
    rw [e] at hs
    have hs2 : o.data = .seq vs n := hs
    rw [hv] at hs2
    cases hs2
  · exact hr p hp q hq
theorem fold8 {h₀ h : Heap} {L : Addr} {a1 a2 a3 a4 a5 a6 a7 a8 : Nat} {o1 o2 o3 o4 o5 o6 o7 o8 : Obj} {rest : List (Addr × Obj)} (new : List (Addr × Obj)) (N : News h₀ L h (new ++ L8 a1 a2 a3 a4 a5 a6 a7 a8 o1 o2 o3 o4 o5 o6 o7 o8 rest)) (hr : ∀ p ∈ rest, ∀ q ∈ ([a8, a7, a6, a5, a4, a3, a2, a1] : List Nat), p.1 ≠ q) (hc : IsC o1 ∧ IsC o2 ∧ IsC o3 ∧ IsC o4 ∧ IsC o5 ∧ IsC o6 ∧ IsC o7 ∧ IsC o8) (hnew : ∀ p ∈ new, IsS p.2) :
    ∃ rest', (∀ p ∈ rest, p ∈ rest') ∧ (∀ p ∈ new, p ∈ rest') ∧ News h₀ L h (L8 a1 a2 a3 a4 a5 a6 a7 a8 o1 o2 o3 o4 o5 o6 o7 o8 rest') ∧ ∀ p ∈ rest', ∀ q ∈ ([a8, a7, a6, a5, a4, a3, a2, a1] : List Nat), p.1 ≠ q := by
  refine ⟨new ++ rest, fun p hp => List.mem_append_right _ hp, fun p hp => List.mem_append_left _ hp, news_sub N (fun p hp => ?_), off8_new new N hc hnew hr⟩
  unfold L8 at hp ⊢
  simp only [List.mem_cons, List.mem_append] at hp ⊢
  rcases hp with h | h | h | h | h | h | h | h | h | h <;> simp [h]
noncomputable def Led8 (a1 a2 a3 a4 a5 a6 a7 a8 : Nat) (o1 o2 o3 o4 o5 o6 : Obj) (rest : List (Addr × Obj)) (c : Obj × Obj) : List (Addr × Obj) := L8 a1 a2 a3 a4 a5 a6 a7 a8 o1 o2 o3 o4 o5 o6 c.1 c.2 rest
theorem off8_own {a1 a2 a3 a4 a5 a6 a7 a8 : Nat} {o1 o2 o3 o4 o5 o6 : Obj} {c : Obj × Obj} {rest own : List (Addr × Obj)} (h : OwnOff own ((Led8 a1 a2 a3 a4 a5 a6 a7 a8 o1 o2 o3 o4 o5 o6 rest c).map (·.1))) (hr : ∀ p ∈ rest, ∀ q ∈ ([a8, a7, a6, a5, a4, a3, a2, a1] : List Nat), p.1 ≠ q) :
    ∀ p ∈ rest ++ own, ∀ q ∈ ([a8, a7, a6, a5, a4, a3, a2, a1] : List Nat), p.1 ≠ q := by
  intro p hp q hq
  rcases List.mem_append.mp hp with hp | hp
  · exact hr p hp q hq
  · refine h p hp q ?_
    unfold Led8 L8
    simp only [List.map_cons, List.mem_cons, List.not_mem_nil, or_false] at hq ⊢
    rcases hq with h | h | h | h | h | h | h | h <;> simp [h]
theorem lst_data (ys : List Value) : (LCg.lst ys).data = .seq ys.toArray ys.length := rfl
section
variable {prog : Program} {w : World} {A : Around} {E : Value → Shared → Prop} {s : Shared}
theorem true_in {l : Addr} {bs : List Bool} {Q : Value → Shared → Prop} (hl : s.heap.IsList l (bs.map Value.bool).toArray) (hu : A.units + 65 < cLine) (h : Q (.bool (bs.any id)) s) : wpAny (model prog w) A (compareOp .In (.bool true) (.ref l)) Q E s := by
  have hcar : ∀ bs : List Bool, CarriedAll (bs.map Value.bool) (bs.map PyData.bool) := by
    intro bs
    induction bs with
    | nil => exact .nil
    | cons b r ih => exact .cons (.bool b) ih
  have hlay : ∀ bs : List Bool, PyData.canLayAll0 (bs.map PyData.bool) = true := by
    intro bs
    induction bs with
    | nil => rfl
    | cons b r ih => simp [PyData.canLayAll0, PyData.canLay0, ih]
  have hany : ∀ bs : List Bool, ((bs.map PyData.bool).any fun y => PyData.eqv y (.bool true)) = bs.any id := by
    intro bs
    induction bs with
    | nil => rfl
    | cons b r ih => simp only [List.map_cons, List.any_cons, ih, PyData.eqv]; cases b <;> rfl
  refine SeqAt.in_list_reads (reads_newData hl (hcar bs)) (.bool true) (hlay bs) rfl ?_ ?_
  · have : min (PyData.depthAll (bs.map PyData.bool)) (PyData.depth (.bool true)) ≤ PyData.depth (.bool true) := Nat.min_le_right _ _
    have h2 : PyData.depth (.bool true) = 0 := rfl
    omega
  · rw [hany]
    exact h
noncomputable def nestD (fs : List (List Int)) : PyData := .list (fs.map fun ns => PyData.list (ns.map PyData.int))
theorem nest_lay : ∀ fs : List (List Int), PyData.canLayAll0 (fs.map fun ns => PyData.list (ns.map PyData.int)) = true
  | [] => rfl
  | _ :: r => by simp [PyData.canLayAll0, PyData.canLay0, ke_canLayAll0, nest_lay r]
theorem nest_depth : ∀ fs : List (List Int), PyData.depthAll (fs.map fun ns => PyData.list (ns.map PyData.int)) ≤ 2
  | [] => by simp [PyData.depthAll]
  | _ :: r => by
    have := nest_depth r
    simp only [List.map_cons, PyData.depthAll, PyData.depth, ke_depthAll]
    omega
theorem nest_shaped (fs : List (List Int)) : SeqAt.shaped (nestD fs) = true := by
  have h1 := nest_depth fs
  have h2 : PyData.depth (nestD fs) ≤ 64 := by simp only [nestD, PyData.depth]; omega
  show (PyData.canLay0 (nestD fs) && decide (PyData.depth (nestD fs) ≤ 64)) = true
  rw [Bool.and_eq_true]
  exact ⟨by simp only [nestD, PyData.canLay0]; exact nest_lay fs, decide_eq_true h2⟩
theorem nest_same : ∀ fs : List (List Int), PySem.Spec.sameAll (fs.map fun ns => PyData.list (ns.map PyData.int)) (fs.map fun ns => PyData.list (ns.map PyData.int)) = true
  | [] => by simp [PySem.Spec.sameAll]
  | ns :: r => by
    simp only [List.map_cons, PySem.Spec.sameAll, nest_same r, Bool.and_true]
    rw [ke_same]
    simp
theorem ne_nest {a b : Addr} {xs ys : List Value} {fs : List (List Int)} {as bs : List Addr} {Q : Value → Shared → Prop} (ha : s.heap.IsList a xs.toArray) (hb : s.heap.IsList b ys.toArray) (hx : ReadsAll s.heap xs (fs.map fun ns => PyData.list (ns.map PyData.int)) as) (hy : ReadsAll s.heap ys (fs.map fun ns => PyData.list (ns.map PyData.int)) bs)
    (hu : A.units + 64 < cLine) (h : Q (.bool false) s) : wpAny (model prog w) A (compareOp .NotEq (.ref a) (.ref b)) Q E s := by
  obtain ⟨oa, h1, h2, na, h3⟩ := ha
  obtain ⟨ob, k1, k2, nb, k3⟩ := hb
  refine ne_dataH_same (da := nestD fs) (db := nestD fs) (Reads.list h1 h2 h3 (by simpa using hx)) (Reads.list k1 k2 k3 (by simpa using hy)) (nest_shaped fs) (nest_shaped fs) hu (SeqAt.noMix_of_shape (.list (.list .int)) rfl _ _ (list_map_has fun _ => list_map_has fun _ => rfl) (list_map_has fun _ => list_map_has fun _ => rfl)) ?_
  have e : PySem.Spec.same (nestD fs) (nestD fs) = true := by
    simp only [nestD, PySem.Spec.same]
    exact nest_same fs
  rw [e]
  exact h
theorem forIn_none {f : PySem.Expr → Bool → Sem (ForInStep Bool)} {M : Model} {Q : Bool → Shared → Prop} (h : Q true s) : wpAny M A (forIn ([] : List PySem.Expr) true f) Q E s := by
  rw [List.forIn_nil]
  exact wpAny_pure h
theorem forIn_one {M : Model} {ct : PySem.Expr} {env : Env} {Q : Bool → Shared → Prop} (h : wpAny M A (isTrue ct env (eval ct env)) Q E s) : wpAny M A (forIn [ct] true fun c r => if r = true then do let ok ← isTrue c env (eval c env); pure (ForInStep.yield ok) else pure (ForInStep.yield r)) Q E s := by
  rw [List.forIn_cons]
  simp only [if_true]
  refine wpAny_bind (wpAny_bind (wpAny_mono h (fun ok s' hq => wpAny_pure ?_) fun _ _ e => e))
  dsimp only
  rw [List.forIn_nil]
  exact wpAny_pure hq
end
noncomputable def DueRow (B : List Int) (nw : List (Addr × Obj)) (v : Value) (j : Nat) : Prop := ∃ l b, v = .ref l ∧ B[j]? = some b ∧ LstAt nw l (regsF b 18)
theorem DueRow.mono {B : List Int} {nw nw' : List (Addr × Obj)} {v : Value} {j : Nat} (h : DueRow B nw v j) (hs : ∀ p ∈ nw, p ∈ nw') : DueRow B nw' v j := h.imp fun _ h => h.imp fun _ h => ⟨h.1, h.2.1, h.2.2.mono hs⟩
theorem reads_due {h₀ h : Heap} {L : Addr} {nw : List (Addr × Obj)} (N : News h₀ L h nw) : ∀ {ys : List Value} {B : List Int}, ys.length = B.length → (∀ j v, ys[j]? = some v → DueRow B nw v j) → ∃ as, ReadsAll h ys ((B.map (regsF · 18)).map fun ns => PyData.list (ns.map PyData.int)) as
  | [], [], _, _ => ⟨[], .nil⟩
  | [], _ :: _, hl, _ => by simp at hl
  | _ :: _, [], hl, _ => by simp at hl
  | y :: ys, b :: B, hl, hd => by
    obtain ⟨l, b', rfl, hb, us, c, hm, hi⟩ := hd 0 y (by simp)
    have e : b = b' := by simpa using hb
    subst e
    obtain ⟨as, ha⟩ := reads_due N (ys := ys) (B := B) (by simpa using hl) (fun j v e => by
      obtain ⟨l2, b2, e2, hb2, hl2⟩ := hd (j + 1) v (by simpa using e)
      exact ⟨l2, b2, e2, by simpa using hb2, hl2⟩)
    exact ⟨_, .cons (reads_newData (News.isList N hm) (ke_carried hi)) ha⟩
theorem regs_any (b : Int) {k : Nat} (hk : k < 18) : ((regsF b 18).any fun x => x == (k : Int)) = tb b k := by
  unfold regsF
  rw [Bool.eq_iff_iff, List.any_eq_true]
  constructor
  · rintro ⟨x, hx, e⟩
    obtain ⟨j, hj, rfl⟩ := List.mem_map.mp hx
    have e2 : (j : Int) = (k : Int) := by simpa using e
    have e3 : j = k := by omega
    subst e3
    exact (List.mem_filter.mp hj).2
  · intro h
    exact ⟨(k : Int), List.mem_map.mpr ⟨k, List.mem_filter.mpr ⟨List.mem_range.mpr hk, h⟩, rfl⟩, by simp⟩
noncomputable def wantB (B : List Int) (gs : List Int) (k : Nat) : List Bool := gs.map fun g => (regsF (B.getD g.toNat 0) 18).any fun x => x == (k : Int)
theorem want_ok {rs : List Ins} {fol : List (List Int)} {B A gs : List Int} {i : Nat} {r : Ins} {a : Int} (hL : LiveOk rs fol B A) (hF : FolOk rs fol) (hr : rs[i]? = some r) (ha : A[i]? = some a) (hgs : ∀ x, x ∈ gs ↔ SuccP r i rs.length x) {k : Nat} (hk : k < 18) : (unk r i rs.length || (wantB B gs k).any id) = tb a k := by
  obtain ⟨hB, hA, hb, haa⟩ := hL
  have hil : i < rs.length := by
    by_cases q : i < rs.length
    · exact q
    · rw [List.getElem?_eq_none (by omega)] at hr; cases hr
  obtain ⟨f, hf⟩ : ∃ f, fol[i]? = some f := ⟨_, List.getElem?_eq_getElem (by rw [hF.1]; exact hil)⟩
  obtain ⟨r2, hr2, hfx⟩ := hF.2 i f hf
  rw [hr] at hr2
  cases hr2
  rw [Bool.eq_iff_iff, Bool.or_eq_true, haa i r f a hr hf ha k hk]
  refine or_congr_right ?_
  rw [List.any_eq_true]
  constructor
  · rintro ⟨x, hx, e⟩
    obtain ⟨g, hg, rfl⟩ := List.mem_map.mp hx
    have hs := (hgs g).mp hg
    have hrg := hs.range (Int.natCast_nonneg _)
    refine ⟨g.toNat, by rw [Int.toNat_of_nonneg hrg.1]; exact (hfx g).mpr hs, ?_⟩
    have hlt : g.toNat < B.length := by rw [hB]; omega
    have hget : B[g.toNat]? = some (B.getD g.toNat 0) := by rw [List.getD_eq_getElem?_getD, List.getElem?_eq_getElem hlt]; rfl
    rw [id, regs_any _ hk] at e
    exact (hb _ _ hget k hk).mp e
  · rintro ⟨j, hj, hl⟩
    have hs := (hfx (j : Int)).mp hj
    have hrg := hs.range (Int.natCast_nonneg _)
    refine ⟨_, List.mem_map.mpr ⟨(j : Int), (hgs _).mpr hs, rfl⟩, ?_⟩
    have hlt : j < B.length := by rw [hB]; omega
    have hget : B[j]? = some (B.getD j 0) := by rw [List.getD_eq_getElem?_getD, List.getElem?_eq_getElem hlt]; rfl
    rw [id, Int.toNat_natCast, regs_any _ hk]
    exact (hb _ _ hget k hk).mpr hl
theorem live_tb {rs : List Ins} {fol : List (List Int)} {B A : List Int} {i k : Nat} {b : Int} {x : Bool} (hL : LiveOk rs fol B A) (hb : B[i]? = some b) (hk : k < 18) (hx : x = true ↔ Live rs fol k i) : x = tb b k := by
  rw [Bool.eq_iff_iff, hx, hL.2.2.1 i b hb k hk]
theorem wantB_succ {B gs : List Int} {k i : Nat} {g : Int} (h : gs[i]? = some g) : wantB B (gs.take (i + 1)) k = wantB B (gs.take i) k ++ [(regsF (B.getD g.toNat 0) 18).any fun x => x == (k : Int)] := by
  unfold wantB
  rw [List.take_add_one, h]
  simp
noncomputable def WantJ (B gs : List Int) (k : Nat) (base : List (Addr × Obj)) (i : Nat) (ys : List Value) (nw : List (Addr × Obj)) : Prop := nw = base ∧ ys = (wantB B (gs.take i) k).map Value.bool
theorem bools_snoc {bs : List Bool} {b : Bool} : bs.map Value.bool ++ [.bool b] = (bs ++ [b]).map Value.bool := by simp
end Mine
theorem Mine.off_LW : True := by
  w_top off
  trivial
local macro_rules | `(tactic| walk_at "my mem") => `(tactic| first | with_reducible exact List.mem_cons_self | with_reducible assumption | ((with_reducible refine' List.mem_cons_of_mem _ ?_); walk_at "my mem"))
local macro_rules | `(tactic| walk_at "exec If") => `(tactic| (k_here; refine Mine.Halt.out ?_))
local macro_rules | `(tactic| walk_at "compareOp In int ref") => `(tactic| (k_here; refine in_list_ints (News.isList (by with_reducible assumption) (by walk_at "my mem")) (by with_reducible assumption) ?_))
local macro_rules | `(tactic| walk_at "compareOp NotIn int ref") => `(tactic| (k_here; refine notin_list_ints (News.isList (by with_reducible assumption) (by walk_at "my mem")) (by with_reducible assumption) ?_))
local macro_rules | `(tactic| walk_at "call ref") => `(tactic| (k_here; refine Mine.Halt.out ?_))
local macro_rules | `(tactic| walk_at "exec Assign cons ListComp") => `(tactic| (k_here; refine Mine.Halt.out ?_))
local macro_rules | `(tactic| walk_at "compareOp NotEq ref ref") => `(tactic| (k_here; refine Mine.Halt.out ?_))
local macro_rules | `(tactic| walk_at "compareOp In bool ref") => `(tactic| (k_here; refine Mine.Halt.out ?_))
local macro_rules | `(tactic| walk_at "storeName") => `(tactic| (k_here; (first | (with_reducible show wpAny _ _ (storeName _ (Str.ofString "goals") _) _ _ _) | (with_reducible show wpAny _ _ (storeName _ (Str.ofString "lost") _) _ _ _)); refine Mine.Halt.out ?_))
local macro_rules | `(tactic| walk_at "eval Name") => `(tactic| (k_here; (with_reducible show wpAny _ _ (eval (Expr.Name _ _) (compEnvC _ _ _ _)) _ _ _); first | (k_dflt (refine' LCgL.ld_own ?N ?m ?o ?x ?_; (case N => k_asm); (case m => k_mem); (case o => with_reducible assumption); (case x => with_reducible assumption))) | (k_dflt (refine' lcf_free ?N ?c ?m ?d ?_ ?a ?b; (case a => rfl); (case b => rfl); (case N => k_asm); (case c => rfl); (case m => k_mem); (case d => k_asm); k_whole)) | (k_dflt (refine' lcf_cell ?N ?c ?m ?d ?_ ?a ?b; (case a => rfl); (case b => rfl); (case N => k_asm); (case c => rfl); (case m => k_mem); (case d => k_asm); k_whole)) | ((k_dflt (refine' nameG_K ?kF ?k1 ?k2 ?k3 ?_ ?k4 ?k5 ?k6 ?k7; (case kF => k_asm); (case k4 => rfl); (case k5 => rfl); (case k6 => rfl); (case k7 => decide); (case k1 => k_asm); (case k2 => k_asm); (case k3 => k_is); k_whole)))))
local macro_rules | `(tactic| walk_at "CellSrc") => `(tactic| (k_here; refine Mine.Halt.out ?_))
local macro_rules | `(tactic| walk_at "CEnd") => `(tactic| (k_here; refine Mine.Halt.out ?_))
theorem Mine.fr_some {h₀ h : Heap} {L : Addr} {m : Str → Option Value} (F : Fr h₀ L h m) : ∃ m', Fr h₀ L h m' := ⟨m, F⟩
theorem Mine.small_mn {mn : Nat} (h : mn ≤ 8) : Builtin.Range.small 0 (mn : Int) 1 = true := small_one (by decide) (by decide) (by omega) (by omega)
theorem Mine.size_mn {mn : Nat} (h : mn ≤ 8) : mn ≤ sizeLine := by
  rw [sizeLine_eq]
  omega
theorem Mine.off_made {I C D R : Addr} {o o' : Obj} {tl cells : List (Addr × Obj)} (h : LCg.Off3 I C D (tl ++ (R, o) :: cells)) : LCg.Off3 I C D (tl ++ (R, o') :: cells) := LCg.Off3.of fun p hp => by
  have q := h.mem
  rcases List.mem_append.mp hp with hp | hp
  · exact q p (List.mem_append_left _ hp)
  · rcases List.mem_cons.mp hp with rfl | hp
    · exact q (R, o) (List.mem_append_right _ (.head _))
    · exact q p (List.mem_append_right _ (.tail _ hp))
theorem Mine.updF3 {I C D R : Addr} {oI oC oD o : Obj} {tl cells : List (Addr × Obj)} (off : LCg.Off3 I C D (tl ++ (R, o) :: cells)) (htl : ∀ p ∈ tl, p.1 ≠ R) (hc : ∀ p ∈ cells, p.1 ≠ R) : UpdF R o ((I, oI) :: (C, oC) :: (D, oD) :: (tl ++ (R, o) :: cells)) (fun o' => (I, oI) :: (C, oC) :: (D, oD) :: (tl ++ (R, o') :: cells)) := by
  have q := off.mem (R, o) (List.mem_append_right _ (.head _))
  exact .tail (Ne.symm q.1) (.tail (Ne.symm q.2.1) (.tail (Ne.symm q.2.2) (Mine.updF_app tl htl (.head hc))))
open Mine
theorem Mine.law_all : PySem.Challenge.rw_pb0326_01.Holds := hd (by
  k_fill
  intro w s₀ s₁ mg mb G Y fa o pm cd doc dV kV ho hd hcd hD hmg hg args vals as hpre hlay hrd hwl hlo
  have KX := kIn_of Y
  refine Ground.open G ?_
  intro T B D TE TW
  clear B D TE TW hmg Y G
  wrow_args hpre hlay hrd hwl hlo
  refine enter_call ?_
  w_top on
  refine codeAny_mono ?_ (fun _ _ g => GoodW.toG g)
  have K0 := below_caller (Top.heap T)
  w_call any ho hd hcd hD T F
  clear hd
  k_drop
  (all_goals try k_fold)
  k_steps
  rename (IntsAre _ _) => hI
  rename (¬ ((63 : Nat) : Int) < _) => hlen
  have hIl := hI.length
  refine Halt.in_ ?_
  refine' CtrB.use ?qB ?qF ?qX ?qN ?qT ?qK (row_spec _ _ _ hI (by omega)) ?qH ?qd ?qu ?_
  case qB => k_asm
  case qF => k_asm
  case qX => k_asm
  case qN => k_asm
  case qT => k_asm
  case qK => first | exact rfl | assumption
  case qH => first | assumption | exact Fr.lst (by k_asm) (by k_asm)
  case qd => ktr_room
  case qu => ktr_units
  intro r1 nw1 h1 tk1 F1 N1 hp1
  refine Mine.foldG ?_
  intro GG
  obtain ⟨D1, us1, c1, ns1, rfl, rfl, hlt1, hi1, hl1, hnn1⟩ := hp1
  k_unfold
  clear GG
  have hcells : AllLt D1 _ := allLt_of hlt1
  (try k_lt hlt1)
  refine Mine.foldG ?_
  intro GG
  obtain ⟨m0, F2⟩ := fr_some F1
  k_unfold
  clear GG
  clear F1
  rename (Below _ _ _ _) => B9
  rename (PySem.W.Frag.In _ _) => X9
  rename (Top _ _ _ _ _ _) => T9
  repeat (rename (Ground _ _ _ _ _ _ _ _ _) => zz; clear zz)
  repeat (rename (PySem.Heap.CodeRec _ _ _) => zz; clear zz)
  repeat (rename (Dflts _ _ _ _) => zz; clear zz)
  repeat (rename (Tables _ _ _ _) => zz; clear zz)
  repeat (rename (TopE _ _ _ _) => zz; clear zz)
  repeat (rename (TopW _ _ _) => zz; clear zz)
  repeat (rename (LooseAre _ _ _) => zz; clear zz)
  repeat (rename (ReadsAll _ _ _ _) => zz; clear zz)
  k_steps
  refine Halt.in_ ?_
  rename (News _ _ _ _) => N2
  rename (Fr _ _ _ m0) => F3
  refine' Ctr.use ?rB ?rF ?rX ?rN ?rT ?rK (nx_spec D1 us1 c1 ns1 _ (.head ?rU) hi1 (by omega)) ?rd ?ru ?_
  case rB => k_asm
  case rF => exact F3
  case rX => k_asm
  case rN => exact N2
  case rT => k_asm
  case rK => first | exact rfl | assumption
  case rU => exact fun p hp => Nat.ne_of_lt (kst_ltOf (by ktn_lt) p hp)
  case rd => ktr_room
  case ru => ktr_units
  intro r2 nw2 h2 tk2 F4 N4 hp2
  refine Mine.foldG ?_
  intro GG
  obtain ⟨us2, c2, rfl, hl2, hi2, t2, rfl⟩ := hp2
  k_unfold
  clear GG
  dsimp only at N4
  k_steps
  refine Halt.in_ ?_
  rename (News _ _ _ _) => N5
  rename (Fr _ _ _ m0) => F5
  refine wpAny_Assign_Name ?_ (by rfl)
  refine LCg.ListComp_U (F₀ := F5) (by with_unfolding_all rfl) (by decide) (by rfl) (by decide) (by rfl) ?_
  k_steps
  refine Halt.in_ ?_
  have hm0 : 0 ≤ (ns1.getLastD 0).fmod 9 := Int.fmod_nonneg_of_pos _ (by decide)
  have hm1 : (ns1.getLastD 0).fmod 9 < 9 := Int.fmod_lt_of_pos _ (by decide)
  obtain ⟨mn, hmn⟩ : ∃ mn : Nat, (ns1.getLastD 0).fmod 9 = mn := ⟨((ns1.getLastD 0).fmod 9).toNat, by omega⟩
  have hmn8 : mn ≤ 8 := by omega
  rename (IsRange _ _ _ _ _ _ _ _) => rg5
  rename (News _ _ _ _) => N6
  rename (Fr _ _ _ m0) => F6
  rename (_ = PySem.Data.cell (some (Value.int _ _))) => hdm
  rw [hmn] at rg5 hdm
  refine LCg.CompSrc.range (by rfl) F6 N6 rg5 (small_mn hmn8) (range_one _) (size_mn hmn8) ?_
  intro g2
  refine rest_ind (MadeJ D1 _) (MadeJ.zero (by omega) hi2 (drop_nn hnn1)) ?_ ?_
  · intro i ys nw v I oI C oC D m₂ h tk E' hi hJ hyl hv hC hx F7 N7 off ne
    refine Mine.foldG ?_
    intro GG
    obtain ⟨us, c, ns, rs, tl, rfl, htl, htc, hul, hui, hun, hrl, hyl2, hat⟩ := hJ
    k_unfold
    clear GG
    k_steps
    refine Halt.in_ ?_
    refine' Ctr.use ?sB ?sF ?sX ?sN ?sT ?sK (md_any D1 us c ns (mn : Int) _ _ (updF3 off htl ?sh) hui hul hun (by omega) (by omega)) ?sd ?su ?_
    case sB => k_asm
    case sF => exact F7
    case sX => k_asm
    case sN => exact N7
    case sT => k_asm
    case sK => first | exact rfl | assumption
    case sd => ktr_room
    case su => ktr_units
    case sh => exact fun p hp => Nat.ne_of_lt (kst_ltOf (by exact hcells) p hp)
    intro r8 nw8 h8 tk8 F8 N8 hp8
    refine Mine.foldG ?_
    intro GG
    obtain ⟨Dt, o8, us8, c8, ns8, ins, rfl, rfl, hlt8, hk8, hi8, hn8, hI8, hok8⟩ := hp8
    k_unfold
    clear GG
    dsimp only at N8 hlt8
    exact comp_end_new F8 N8 hlt8 (off_made off) (MadeJ.snoc htl htc (fun q hq => Nat.ne_of_lt (hlt8 q (.tail _ (.tail _ (.tail _ (List.mem_append_right _ (.tail _ hq))))))) hrl hyl2 hat (Nat.ne_of_gt (hlt8 (D1, listOf us8.toArray c8) (.tail _ (.tail _ (.tail _ (List.mem_append_right _ (.head _))))))) (by omega) hi8 hn8 hI8 hok8)
  · intro ys nw hJ hyl D hh tkk F7 N7 off1
    refine Mine.foldG ?_
    intro GG
    obtain ⟨rest, rs, N8, hoff8, hRA, hrl⟩ := hJ.fin off1 N7 hmn8
    k_unfold
    clear GG
    clear hJ off1 N7
    simp only [List.cons_append, List.nil_append] at N8
    refine' storeX_C ?tF ?tN ?tc (up8_3 ?tU hoff8) ?td ?_ ?ta ?tb
    case ta => rfl
    case tb => rfl
    case tF => exact F7
    case tN => exact N8
    case tc => rfl
    case td => with_reducible assumption
    case tU => exact up8_ok _
    intro h9 o9 F9 N9 hd9
    dsimp only [L8] at N9
    clear N8 F7
    k_steps
    refine Halt.in_ ?_
    refine wpAny_Assign_Name ?_ (by rfl)
    refine LCg.ListComp_U (F₀ := F9) (by with_unfolding_all rfl) (by decide) (by rfl) (by decide) (by rfl) ?_
    k_steps
    refine Halt.in_ ?_
    have hyl9 : ys.length ≤ 8 := by rw [hRA.len]; exact hRA.le8
    refine LCg.CompSrc.ledger (k := ys.length) (its := ys.toArray) (by rfl) F9 N9 (.tail _ (.tail _ (.tail _ (.tail _ (.tail _ (.tail _ (.tail _ (.tail _ hRA.list)))))))) (by rw [List.size_toArray]; exact size_mn hyl9) ?_
    intro g3
    refine rest_ind (BuildJ _ (fun nw v j => TabsRow nw rs v j)) BuildJ.zero ?_ ?_
    · intro j zs nw v I oI C oC E m₂ h tk E' hj hJ hzl hv hC hx FA NA off ne
      have hjl : j < rs.length := by rw [← hRA.len]; simpa using hj
      obtain ⟨r, hr⟩ : ∃ r, rs[j]? = some r := ⟨_, List.getElem?_eq_getElem hjl⟩
      refine Mine.foldG ?_
      intro GG
      obtain ⟨ra, hra, hIr, hokr⟩ := hRA.at_ j r hr
      k_unfold
      clear GG
      obtain rfl : v = .ref ra := by
        have q : ys[j]? = some v := by simpa using hv
        rw [hra] at q
        exact (Option.some.inj q).symm
      have hrest : ∀ p ∈ rest, p ∈ nw := by
        refine Mine.foldG ?_
        intro GG
        obtain ⟨tl, rfl, -, -, -⟩ := hJ
        k_unfold
        clear GG
        exact fun p hp => List.mem_append_right _ (.tail _ (.tail _ (.tail _ (.tail _ (.tail _ (.tail _ (.tail _ (.tail _ hp))))))))
      have hIr2 : InsAt ((I, oI) :: (C, oC) :: (E, LCg.lst zs) :: nw) ra r := hIr.mono fun p hp => .tail _ (.tail _ (.tail _ (hrest p hp)))
      k_steps
      refine Halt.in_ ?_
      refine' Ctr.use ?uB ?uF ?uX ?uN ?uT ?uK (tb_spec r ra hIr2 hokr) ?ud ?uu ?_
      case uB => k_asm
      case uF => exact FA
      case uX => k_asm
      case uN => exact NA
      case uT => k_asm
      case uK => first | exact rfl | assumption
      case ud => ktr_room
      case uu => ktr_units
      intro r8 nw8 h8 tk8 F8 N8 hp8
      refine Mine.foldG ?_
      intro GG
      obtain ⟨T8, nT8, A8, S8, ka8, ks8, ua8, ub8, as8, ss8, rfl, rfl, hia8, his8, hP8, hfr8⟩ := hp8
      k_unfold
      clear GG
      have hI9 := hfr8 (I, oI) (.head _)
      have hC9 := hfr8 (C, oC) (.tail _ (.head _))
      have hE9 := hfr8 (E, LCg.lst zs) (.tail _ (.tail _ (.head _)))
      refine ⟨_, _, [(T8, tupO [.ref A8, .ref S8] nT8), (A8, listOf ua8.toArray ka8), (S8, listOf ub8.toArray ks8)] ++ nw, rfl, F8, news_sub N8 (fun p hp => ?_), ?_, .inr ⟨_, List.mem_append_right _ (hrest _ hRA.list), rfl, _, rfl⟩, BuildJ.snoc (fun a b v j hs q => q.mono hs) hJ (fun p hp q hq => ?_) ⟨r, T8, A8, S8, as8, ss8, hr, rfl, ⟨_, .head _⟩, ⟨_, _, .tail _ (.head _), hia8⟩, ⟨_, _, .tail _ (.tail _ (.head _)), his8⟩, hP8⟩⟩
      · exact in_sw (A := [_, _, _]) (B := [_, _, _]) p hp
      · refine LCg.Off3.of fun p hp => ?_
        rcases List.mem_append.mp hp with hp | hp
        · simp only [List.mem_cons, List.not_mem_nil, or_false] at hp
          rcases hp with rfl | rfl | rfl
          · exact ⟨Ne.symm hI9.1, Ne.symm hC9.1, Ne.symm hE9.1⟩
          · exact ⟨Ne.symm hI9.2.1, Ne.symm hC9.2.1, Ne.symm hE9.2.1⟩
          · exact ⟨Ne.symm hI9.2.2, Ne.symm hC9.2.2, Ne.symm hE9.2.2⟩
        · exact off.mem p hp
      · have hq9 : q ∈ nw := by
          refine Mine.foldG ?_
          intro GG
          obtain ⟨tl, rfl, -, -, -⟩ := hJ
          k_unfold
          clear GG
          exact List.mem_append_right _ hq
        have hq8 := hfr8 q (.tail _ (.tail _ (.tail _ hq9)))
        simp only [List.mem_cons, List.not_mem_nil, or_false] at hp
        rcases hp with rfl | rfl | rfl
        · exact Ne.symm hq8.1
        · exact Ne.symm hq8.2.1
        · exact Ne.symm hq8.2.2
    · intro zs nw hJ hzl E hh tkk FA NA offA
      refine Mine.foldG ?_
      intro GG
      obtain ⟨rest2, NB, hoffB, hsubB, hzB, hzl2, hatB⟩ := BuildJ.fin8 (fun a b v j hs q => q.mono hs) hJ (off1_mem offA) NA hoff8
      k_unfold
      clear GG
      have hRB := hRA.mono hsubB
      have hTB : TabsAt rest2 rs zs := ⟨by rw [hzl2]; simpa using hRA.len, hatB⟩
      clear hJ offA NA hsubB hatB hoff8 hRA N9 F9 hzl hzl2
      dsimp only [L8] at NB
      refine' storeX_C ?vF ?vN ?vc (up8_4 ?vU hoffB) ?vd ?_ ?va ?vb
      case va => rfl
      case vb => rfl
      case vF => exact FA
      case vN => exact NB
      case vc => rfl
      case vd => with_reducible assumption
      case vU => exact up8_ok _
      intro hB1 oB1 FB1 NB1 hdB1
      dsimp only [L8] at NB1
      clear NB FA
      k_steps
      refine Halt.in_ ?_
      refine wpAny_Assign_Name ?_ (by rfl)
      refine LCg.ListComp_U (F₀ := FB1) (by with_unfolding_all rfl) (by decide) (by rfl) (by decide) (by rfl) ?_
      k_steps
      refine Halt.in_ ?_
      rename (IsRange _ _ _ _ _ _ _ _) => rgB
      rename (News _ _ _ _) => NB2
      rename (Fr _ _ _ m0) => FB2
      refine LCg.CompSrc.range (by rfl) FB2 NB2 rgB (small_mn hmn8) (range_one _) (size_mn hmn8) ?_
      intro g4
      refine rest_ind (BuildJ _ (fun nw v j => WaysRow nw rs v j)) BuildJ.zero ?_ ?_
      · intro j ws nw v I oI C oC W m₂ h tk E' hj hJ hwl hv hC hx FC NC off ne
        refine Mine.foldG ?_
        intro GG
        obtain ⟨tv, rfl⟩ := hv
        k_unfold
        clear GG
        simp only [Int.zero_add] at hx
        obtain ⟨r, hr⟩ : ∃ r, rs[j]? = some r := ⟨_, List.getElem?_eq_getElem (by rw [hrl]; exact hj)⟩
        refine Mine.foldG ?_
        intro GG
        obtain ⟨ra, hra, hIr, hokr⟩ := hRB.at_ j r hr
        k_unfold
        clear GG
        have hrest : ∀ p ∈ rest2, p ∈ nw := by
          refine Mine.foldG ?_
          intro GG
          obtain ⟨tl, rfl, -, -, -⟩ := hJ
          k_unfold
          clear GG
          exact fun p hp => List.mem_append_right _ (.tail _ (.tail _ (.tail _ (.tail _ (.tail _ (.tail _ (.tail _ (.tail _ hp))))))))
        refine Mine.foldG ?_
        intro GG
        obtain ⟨tl, rfl, -, -, -⟩ := id hJ
        k_unfold
        clear GG
        k_steps
        refine Halt.in_ ?_
        refine' Ctr.use ?wB ?wF ?wX ?wN ?wT ?wK (wy_spec r ra D ys ys.length (j : Int) tv (.tail _ (.tail _ (.tail _ (hrest _ hRB.list)))) (by rw [Int.toNat_natCast]; exact hra) (Int.natCast_nonneg _) (by omega) hyl9 (hIr.mono fun p hp => .tail _ (.tail _ (.tail _ (hrest p hp)))) hokr) ?wd ?wu ?_
        case wB => k_asm
        case wF => k_asm
        case wX => k_asm
        case wN => k_asm
        case wT => k_asm
        case wK => first | exact rfl | assumption
        case wd => ktr_room
        case wu => ktr_units
        intro r8 nw8 h8 tk8 F8 N8 hp8
        refine Mine.foldG ?_
        intro GG
        obtain ⟨T8, nT8, G8, kg8, ug8, gs8, rfl, rfl, hig8, hgl8, hgs8, hfr8⟩ := hp8
        k_unfold
        clear GG
        have hI9 := hfr8 (I, oI) (.head _)
        have hC9 := hfr8 (C, oC) (.tail _ (.head _))
        have hE9 := hfr8 (W, LCg.lst ws) (.tail _ (.tail _ (.head _)))
        have hlen : ((ys.length : Nat) : Int) = (rs.length : Nat) := by rw [hRB.len]
        rw [hlen] at N8 hgs8
        refine ⟨_, _, [(T8, tupO [.ref G8, .bool (unk r j rs.length)] nT8), (G8, listOf ug8.toArray kg8)] ++ _, rfl, F8, news_sub N8 (fun p hp => ?_), ?_, trivial, BuildJ.snoc (fun a b v j hs q => q.mono hs) hJ (fun p hp q hq => ?_) ⟨r, T8, G8, gs8, hr, rfl, ⟨_, .head _⟩, ⟨_, _, .tail _ (.head _), hig8⟩, hgl8, hgs8⟩⟩
        · exact in_sw (A := [_, _, _]) (B := [_, _]) p hp
        · refine LCg.Off3.of fun p hp => ?_
          rcases List.mem_append.mp hp with hp | hp
          · simp only [List.mem_cons, List.not_mem_nil, or_false] at hp
            rcases hp with rfl | rfl
            · exact ⟨Ne.symm hI9.1, Ne.symm hC9.1, Ne.symm hE9.1⟩
            · exact ⟨Ne.symm hI9.2, Ne.symm hC9.2, Ne.symm hE9.2⟩
          · exact off.mem p hp
        · have hq8 := hfr8 q (.tail _ (.tail _ (.tail _ (List.mem_append_right _ hq))))
          simp only [List.mem_cons, List.not_mem_nil, or_false] at hp
          rcases hp with rfl | rfl
          · exact Ne.symm hq8.1
          · exact Ne.symm hq8.2
      · intro ws nw hJ hwl W hh tkk FC NC offC
        refine Mine.foldG ?_
        intro GG
        obtain ⟨rest3, ND, hoffD, hsubD, hwD, hwl2, hatD⟩ := BuildJ.fin8 (fun a b v j hs q => q.mono hs) hJ (off1_mem offC) NC hoffB
        k_unfold
        clear GG
        have hRD := hRB.mono hsubD
        have hTD := hTB.mono hsubD
        have hzD := hsubD _ hzB
        have hWD : WaysAt rest3 rs ws := ⟨by rw [hwl2, hrl], hatD⟩
        clear hJ offC NC hsubD hatD hoffB hRB hTB hzB hwl
        (try clear NB2); (try clear FB2); (try clear NB1); (try clear FB1)
        dsimp only [L8] at ND
        refine' storeX_C ?xF ?xN ?xc (up8_5 ?xU hoffD) ?xd ?_ ?xa ?xb
        case xa => rfl
        case xb => rfl
        case xF => exact FC
        case xN => exact ND
        case xc => rfl
        case xd => with_reducible assumption
        case xU => exact up8_ok _
        intro hD1 oD1 FD1 ND1 hdD1
        dsimp only [L8] at ND1
        clear ND FC
        k_steps
        refine Halt.in_ ?_
        refine' Ctr.use ?yB ?yF ?yX ?yN ?yT ?yK (lv_spec rs D ys ys.length ?yR) ?yd ?yu ?_
        case yB => k_asm
        case yF => k_asm
        case yX => k_asm
        case yN => k_asm
        case yR => exact hRD.mono fun p hp => .tail _ (.tail _ (.tail _ (.tail _ (.tail _ (.tail _ (.tail _ (.tail _ hp)))))))
        case yT => k_asm
        case yK => first | exact rfl | assumption
        case yd => ktr_room
        case yu => ktr_units
        intro r8 nw8 h8 tk8 F8 N8 hp8
        refine Mine.foldG ?_
        intro GG
        obtain ⟨T8, nT8, Ba, kb, ub, Aa, ka, ua, fol, B, A, rfl, rfl, hib, hia, hfol, hlive⟩ := hp8
        k_unfold
        clear GG
        dsimp only [tupO] at N8
        k_steps
        refine Halt.in_ ?_
        rename (Fr _ _ _ _) => FE
        rename (News _ _ _ _) => NE
        obtain ⟨rest4, hsub4, hnew4, NE2, hoffE⟩ := fold8 [(T8, _), (Aa, _), (Ba, _)] NE hoffD ⟨⟨_, by assumption⟩, ⟨_, by assumption⟩, ⟨_, by assumption⟩, ⟨_, by assumption⟩, ⟨_, by assumption⟩, ⟨_, by assumption⟩, ⟨_, by assumption⟩, ⟨_, by assumption⟩⟩ (fun p hp => by
          simp only [List.mem_cons, List.not_mem_nil, or_false] at hp
          rcases hp with rfl | rfl | rfl <;> exact ⟨_, _, rfl⟩)
        have hAa := hnew4 _ (.tail _ (.head _))
        have hBa := hnew4 _ (.tail _ (.tail _ (.head _)))
        have hRE := hRD.mono hsub4
        have hTE := hTD.mono hsub4
        have hWE := hWD.mono hsub4
        have hzE := hsub4 _ hzD
        have hwE := hsub4 _ hwD
        dsimp only [L8] at NE2
        clear NE hoffD hRD hTD hWD hzD hwD hnew4 hsub4
        refine wpAny_Assign_Name ?_ (by rfl)
        refine comp_cell (x := Str.ofString "at") (_F₀ := FE) (by with_unfolding_all rfl) (by rfl) (by decide) (by intro n; rfl) (by intro h; rfl) (by intro c C; rfl) ?_
        k_steps
        refine Halt.in_ ?_
        rename (IsRange _ _ _ _ _ _ _ _) => rgE
        rename (News _ _ _ _) => NE3
        rename (Fr _ _ _ _) => FE3
        have hBl : B.length = rs.length := hlive.1
        refine ⟨_, _, _, _, _, _, mn, _, BuildJ _ (DueRow B), rfl, by rfl, FE3, NE3, rgE, small_mn hmn8, range_one _, size_mn hmn8, BuildJ.zero, ?_, ?_⟩
        · intro j ds nw I oI C oC cc oc Du h tk tj E' hj hJ hoc FG NG off ne
          obtain ⟨b, hb⟩ : ∃ b, B[j]? = some b := ⟨_, List.getElem?_eq_getElem (by rw [hBl, hrl]; exact hj)⟩
          simp only [Int.zero_add] at hoc
          have hrest : ∀ p ∈ rest4, p ∈ nw := by
            refine Mine.foldG ?_
            intro GG
            obtain ⟨tl, rfl, -, -, -⟩ := hJ
            k_unfold
            clear GG
            exact fun p hp => List.mem_append_right _ (.tail _ (.tail _ (.tail _ (.tail _ (.tail _ (.tail _ (.tail _ (.tail _ hp))))))))
          refine Mine.foldG ?_
          intro GG
          obtain ⟨tl, rfl, -, -, -⟩ := id hJ
          k_unfold
          clear GG
          refine forIn_none ?_
          simp only [if_true]
          k_steps
          refine Halt.in_ ?_
          refine LCt.ListComp_T (F₀ := FG) (by with_unfolding_all rfl) (by decide) (by rfl) (by decide) (by rfl) ?_
          k_steps
          refine Halt.in_ ?_
          rename (IsRange _ _ _ _ _ _ _ _) => rgG
          rename (News _ _ _ _) => NG2
          rename (Fr _ _ _ _) => FG2
          refine LCt.CompSrcT.range (n := 18) (by rfl) FG2 NG2 rgG (by decide) (by rfl) (by rw [sizeLine_eq]; omega) ?_
          intro g5
          refine restT_ind (RegJ b _) ⟨rfl, .nil⟩ ?_ ?_
          · intro i es nw2 v I2 oI2 C2 oC2 D2 m₂ h2 tk2 E2' hi hJ2 hv hC hx FH NH off2 ne2
            refine Mine.foldG ?_
            intro GG
            obtain ⟨t9, rfl⟩ := hv
            k_unfold
            clear GG
            simp only [Int.zero_add] at hx
            refine Mine.foldG ?_
            intro GG
            obtain ⟨rfl, hJ2⟩ := hJ2
            k_unfold
            clear GG
            k_steps
            refine Halt.in_ ?_
            have hB4 : ∀ p ∈ rest4, p ∈ (I2, oI2) :: (C2, oC2) :: (D2, LCg.lst es) :: (I, oI) :: (C, oC) :: (cc, oc) :: (Du, LCg.lst ds) :: (tl ++ _) := fun p hp => .tail _ (.tail _ (.tail _ (.tail _ (.tail _ (.tail _ (.tail _ (hrest p hp)))))))
            rename (News _ _ _ _) => NI
            rename (Fr _ _ _ _) => FI
            refine' Ctr.use ?zB ?zF ?zX ?zN ?zT ?zK (ll_spec rs fol W E ws zs ws.length zs.length j i tj t9 (hB4 _ hwE) (hB4 _ hzE) (hWE.mono hB4) (hTE.mono hB4) hfol (by omega) (by omega) hi) ?zd ?zu ?_
            case zB => k_asm
            case zF => exact FI
            case zX => k_asm
            case zN => exact NI
            case zT => k_asm
            case zK => first | exact rfl | assumption
            case zd => ktr_room
            case zu => ktr_units
            intro r9 nw9 h9 tk9 F9 N9 hp9
            refine Mine.foldG ?_
            intro GG
            obtain ⟨rfl, x9, rfl, hx9⟩ := hp9
            k_unfold
            clear GG
            have htb := live_tb hlive hb hi hx9
            cases x9
            · k_steps
              all_goals (refine Halt.in_ ?_)
              refine ⟨_, _, _, rfl, by assumption, by assumption, off2, trivial, rfl, ?_⟩
              rw [regsF_succ, if_neg (by rw [← htb]; decide)]
              exact hJ2
            · k_steps
              all_goals (refine Halt.in_ ?_)
              refine ⟨_, _, _, rfl, by assumption, by assumption, off2, trivial, rfl, ?_⟩
              rw [regsF_succ, if_pos htb.symm]
              exact ints_snoc hJ2
          · intro es nw2 hJ2
            refine Mine.foldG ?_
            intro GG
            obtain ⟨rfl, hJ2⟩ := hJ2
            k_unfold
            clear GG
            intro D2 h2 tk2 F2 N2 off2
            k_steps
            refine Halt.in_ ?_
            rename (News _ _ _ _) => N3
            rename (Fr _ _ _ _) => F3
            have hne : ∀ q ∈ (I, oI) :: (C, oC) :: (cc, oc) :: (Du, LCg.lst ds) :: (tl ++ _), q.1 ≠ D2 := off1_mem off2
            refine ⟨_, _, [(D2, LCg.lst es)] ++ _, rfl, F3, news_sub N3 (fun p hp => ?_), fun p hp => ?_, BuildJ.snoc (fun a b v j q hs => hs.mono q) hJ (fun p hp q hq => ?_) ⟨D2, b, rfl, hb, ⟨es, es.length, .head _, hJ2⟩⟩⟩
            · first
              | exact in_sw (A := [_, _, _, _]) (B := [_]) p hp
              | exact in_swd (A := [_, _, _, _]) (B := [_]) p hp
            · rcases List.mem_append.mp hp with hp | hp
              · rw [List.mem_singleton.mp hp]
                exact ⟨Ne.symm (hne _ (.head _)), Ne.symm (hne _ (.tail _ (.head _))), Ne.symm (hne _ (.tail _ (.tail _ (.head _)))), Ne.symm (hne _ (.tail _ (.tail _ (.tail _ (.head _)))))⟩
              · exact off p hp
            · rw [List.mem_singleton.mp hp]
              exact Ne.symm (hne q (.tail _ (.tail _ (.tail _ (.tail _ (List.mem_append_right _ hq))))))
        · intro ds nw Du h tk hJ FG NG off
          (try dsimp only at FG)
          refine Mine.foldG ?_
          intro GG
          obtain ⟨rest5, NF, hoffF, hsubF, hdF, hdl, hatF⟩ := BuildJ.fin8 (fun a b v j q hs => hs.mono q) hJ off NG hoffE
          k_unfold
          clear GG
          have hAF := hsubF _ hAa
          have hBF := hsubF _ hBa
          have hRF := hRE.mono hsubF
          have hWF := hWE.mono hsubF
          have hwF := hsubF _ hwE
          clear hJ NG off hsubF hoffE hRE hTE hWE hzE hwE hAa hBa
          (try clear NE2); (try clear FE); (try clear NE3); (try clear FE3); (try clear rgE)
          dsimp only [L8] at NF
          refine' storeX_C ?zF ?zN ?zc (up8_6 ?zU hoffF) ?zd ?_ ?za ?zb
          case za => rfl
          case zb => rfl
          case zF => exact FG
          case zN => exact NF
          case zc => rfl
          case zd => with_reducible assumption
          case zU => exact up8_ok _
          intro hF1 oF1 FF1 NF1 hdF1
          dsimp only [L8] at NF1
          clear NF FG
          k_steps
          refine Halt.in_ ?_
          refine wpAny_If ?_
          k_steps
          refine Halt.in_ ?_
          rename (News _ _ _ _) => NF2
          rename (Fr _ _ _ _) => FF2
          refine LCg.ListComp_U (F₀ := FF2) (by with_unfolding_all rfl) (by decide) (by rfl) (by decide) (by rfl) ?_
          k_steps
          refine Halt.in_ ?_
          have hubl : ub.length ≤ 8 := by
            rw [hib.length, hlive.1]
            omega
          refine LCg.CompSrc.ledger (k := kb) (its := ub.toArray) (by rfl) FF2 NF2 (.tail _ (.tail _ (.tail _ (.tail _ (.tail _ (.tail _ (.tail _ (.tail _ hBF)))))))) (by rw [List.size_toArray]; exact size_mn hubl) ?_
          intro g6
          refine rest_ind (BuildJ _ (DueRow B)) BuildJ.zero ?_ ?_
          · intro j es nw v I oI C oC Er m₂ h tk E' hj hJ hel hv hC hx FA NA off ne
            refine Mine.foldG ?_
            intro GG
            obtain ⟨b, tb', hb, rfl⟩ := ints_get hib hv
            k_unfold
            clear GG
            have hrest : ∀ p ∈ rest5, p ∈ nw := by
              refine Mine.foldG ?_
              intro GG
              obtain ⟨tl, rfl, -, -, -⟩ := hJ
              k_unfold
              clear GG
              exact fun p hp => List.mem_append_right _ (.tail _ (.tail _ (.tail _ (.tail _ (.tail _ (.tail _ (.tail _ (.tail _ hp))))))))
            k_steps
            refine Halt.in_ ?_
            rename (News _ _ _ _) => NA2
            rename (Fr _ _ _ _) => FA2
            refine' Ctr.use ?uB ?uF ?uX ?uN ?uT ?uK (rg_spec b tb') ?ud ?uu ?_
            case uB => k_asm
            case uF => exact FA2
            case uX => k_asm
            case uN => exact NA2
            case uT => k_asm
            case uK => first | exact rfl | assumption
            case ud => ktr_room
            case uu => ktr_units
            intro r8 nw8 h8 tk8 F8 N8 hp8
            refine Mine.foldG ?_
            intro GG
            obtain ⟨l8, us8, c8, ns8, rfl, rfl, hne8, hi8, rfl⟩ := hp8
            k_unfold
            clear GG
            refine ⟨_, _, [(l8, listOf us8.toArray c8)] ++ nw, rfl, F8, news_sub N8 (fun p hp => ?_), ?_, .inr ⟨_, List.mem_append_right _ (hrest _ hBF), rfl, _, rfl⟩, BuildJ.snoc (fun a b v j hs q => q.mono hs) hJ (fun p hp q hq => ?_) ⟨l8, b, rfl, hb, ⟨us8, c8, .head _, hi8⟩⟩⟩
            · exact in_sw (A := [_, _, _]) (B := [_]) p hp
            · refine LCg.Off3.of fun p hp => ?_
              rcases List.mem_append.mp hp with hp | hp
              · rw [List.mem_singleton.mp hp]
                exact ⟨Ne.symm (hne8 _ (.head _)), Ne.symm (hne8 _ (.tail _ (.head _))), Ne.symm (hne8 _ (.tail _ (.tail _ (.head _))))⟩
              · exact off.mem p hp
            · have hq9 : q ∈ nw := by
                refine Mine.foldG ?_
                intro GG
                obtain ⟨tl, rfl, -, -, -⟩ := hJ
                k_unfold
                clear GG
                exact List.mem_append_right _ hq
              rw [List.mem_singleton.mp hp]
              exact Ne.symm (hne8 q (.tail _ (.tail _ (.tail _ hq9))))
          · intro es nw hJ hel Er hh tkk FA NA offA
            refine Mine.foldG ?_
            intro GG
            obtain ⟨rest6, NG, hoffG, hsubG, heG, hel2, hatG⟩ := BuildJ.fin8 (fun a b v j hs q => q.mono hs) hJ (off1_mem offA) NA hoffF
            k_unfold
            clear GG
            have hAG := hsubG _ hAF
            have hdG := hsubG _ hdF
            have hRG := hRF.mono hsubG
            have hWG := hWF.mono hsubG
            have hwG := hsubG _ hwF
            refine Mine.foldG ?_
            intro GG
            obtain ⟨as1, hrd1⟩ := reads_due NG (by rw [hel2, List.size_toArray, hib.length]) (fun j v e => (hatG j v e).mono fun p hp => .tail _ (.tail _ (.tail _ (.tail _ (.tail _ (.tail _ (.tail _ (.tail _ hp))))))))
            k_unfold
            clear GG
            refine Mine.foldG ?_
            intro GG
            obtain ⟨as2, hrd2⟩ := reads_due NG (by rw [hdl, hlive.1, hrl]) (fun j v e => (hatF j v e).mono fun p hp => .tail _ (.tail _ (.tail _ (.tail _ (.tail _ (.tail _ (.tail _ (.tail _ (hsubG p hp)))))))))
            k_unfold
            clear GG
            clear hJ NA offA hoffF hRF hWF hwF hAF hBF NF2 FF2
            dsimp only [L8] at NG
            k_steps
            refine Halt.in_ ?_
            refine ne_nest (News.isList NG (.tail _ (.tail _ (.tail _ (.tail _ (.tail _ (.tail _ (.tail _ (.tail _ heG))))))))) (News.isList NG (.tail _ (.tail _ (.tail _ (.tail _ (.tail _ (.tail _ (.tail _ (.tail _ hdG))))))))) hrd1 hrd2 (by ke_room) ?_
            clear hrd1 hrd2
            k_steps
            refine Halt.in_ ?_
            rename (Fr _ _ _ _) => FH
            rename (News _ _ _ _) => NH
            have hwG2 : (W, listOf ws.toArray ws.length) ∈ rest6 := hwG
            with_unfolding_all refine' For_invVF FH ?k1 ?k2 ?_
            case k1 => exact rfl
            case k2 => exact rfl
            k_steps
            refine Halt.in_ ?_
            rename (Fr _ _ _ _) => FH2
            rename (IsRange _ _ _ _ _ _ _ _) => rgH
            rename (News _ _ _ _) => NH2
            refine kst_range (σ := Obj × Obj) (Led8 _ _ _ _ _ _ _ _ _ _ _ _ _ _ rest6) (fun _ => []) (fun c => IsC c.1 ∧ IsC c.2) [Str.ofString "wanted"] (fun _ _ => True) (_, _) (by rfl) rgH (small_mn hmn8) (range_one _) FH2 NH2 ⟨⟨_, by assumption⟩, ⟨_, by assumption⟩⟩ (fun p hp => nomatch hp) trivial ?_ ?_
            · intro c pre k tk9 u9 h9 tkk9 own9 hk9 hpre hoff9 hF9 _ F10 N10
              refine Mine.foldG ?_
              intro GG
              obtain ⟨og, ol⟩ := c
              k_unfold
              clear GG
              refine Mine.foldG ?_
              intro GG
              obtain ⟨⟨vg, hvg⟩, ⟨vl, hvl⟩⟩ := hF9
              k_unfold
              clear GG
              simp only [Int.zero_add] at hk9
              subst hk9
              dsimp only at hvg hvl
              have hoff7 := off8_own hoff9 hoffG
              have hs67 : ∀ p ∈ rest6, p ∈ rest6 ++ own9 := fun p hp => List.mem_append_left _ hp
              have hs97 : ∀ p ∈ own9, p ∈ rest6 ++ own9 := fun p hp => List.mem_append_right _ hp
              dsimp only [Led8, L8, List.cons_append] at N10
              generalize hr7 : rest6 ++ own9 = rest7 at hoff7 hs67 hs97 N10
              obtain ⟨j, hjp⟩ : ∃ j : Nat, j = pre.length := ⟨_, rfl⟩
              rw [← hjp] at F10 hpre
              obtain ⟨v2, hv2⟩ : ∃ v, ws[j]? = some v := ⟨_, List.getElem?_eq_getElem (by rw [hwl2]; exact hpre)⟩
              refine Mine.foldG ?_
              intro GG
              obtain ⟨r, T2, G2, gs, hr, rfl, ⟨n2, hT2⟩, ⟨ug, cg, hG, hig⟩, hgl, hgs⟩ := (hWG.mono hs67).2 j _ hv2
              k_unfold
              clear GG
              have hW7 := hs67 _ hwG2
              have hA7 := hs67 _ hAG
              have hx2 : ws[((j : Nat) : Int).toNat]? = some (.ref T2) := by rw [Int.toNat_natCast]; exact hv2
              have hjn : ((j : Nat) : Int) < ws.length := by omega
              have hj0 : 0 ≤ ((j : Nat) : Int) := Int.natCast_nonneg _
              (try clear FH); (try clear NH); (try clear FH2); (try clear NH2); (try clear hv2)
              k_steps
              refine Halt.in_ ?_
              rename (News _ _ _ _) => N11
              rename (Fr _ _ _ _) => F11
              refine' storeX_C ?aF ?aN ?ac (up8_7 ?aU hoff7) ?ad ?_ ?aa ?ab
              case aa => rfl
              case ab => rfl
              case aF => exact F11
              case aN => exact N11
              case ac => rfl
              case ad => exact hvg
              case aU => exact up8_ok _
              intro h12 og2 F12 N12 hg12
              dsimp only [L8] at N12
              (try clear N11); (try clear F11); (try clear N10); (try clear F10)
              k_steps
              refine Halt.in_ ?_
              rename (News _ _ _ _) => N13
              rename (Fr _ _ _ _) => F13
              refine' storeX_C ?bF ?bN ?bc (up8_8 ?bU hoff7) ?bd ?_ ?ba ?bb
              case ba => rfl
              case bb => rfl
              case bF => exact F13
              case bN => exact N13
              case bc => rfl
              case bd => exact hvl
              case bU => exact up8_ok _
              intro h14 ol2 F14 N14 hl14
              dsimp only [L8] at N14
              (try clear N13); (try clear F13); (try clear N12); (try clear F12)
              k_steps
              refine Halt.in_ ?_
              rename (News _ _ _ _) => N15
              rename (Fr _ _ _ _) => F15
              obtain ⟨a, ha⟩ : ∃ a, A[j]? = some a := ⟨_, List.getElem?_eq_getElem (by rw [hlive.2.1, hrl]; exact hpre)⟩
              refine comp_cell_use (x := Str.ofString "reg") (_F₀ := F15) (by rfl) (by with_unfolding_all rfl) (by with_unfolding_all rfl) (by rfl) (by decide) (by intro n; rfl) (by intro h; rfl) (by intro c C; rfl) (by rfl) (by rfl) ?_
              k_steps
              refine Halt.in_ ?_
              rename (IsRange _ _ _ _ _ _ _ _) => rgJ
              rename (News _ _ _ _) => N16
              rename (Fr _ _ _ _) => F16
              refine ⟨_, _, _, _, _, _, 18, _, RegJ a _, rfl, by rfl, F16, N16, rgJ, by decide, by rfl, by rw [sizeLine_eq]; omega, ⟨rfl, .nil⟩, ?_, ?_⟩
              · intro k es nw I oI C oC cc oc Dw h tk tj E' hk hJ hoc FG NG off ne
                refine Mine.foldG ?_
                intro GG
                obtain ⟨rfl, hJ⟩ := hJ
                k_unfold
                clear GG
                simp only [Int.zero_add] at hoc
                have hwk := want_ok hlive hfol hr ha hgs hk
                refine forIn_one ?_
                k_steps
                all_goals (refine Halt.in_ ?_)
                · rename (News _ _ _ _) => N17
                  rename (Fr _ _ _ _) => F17
                  rename (unk _ _ _ = true) => hu
                  refine ⟨_, _, _, rfl, F17, N17, off, rfl, ?_⟩
                  rw [hu, Bool.true_or] at hwk
                  rw [regsF_succ, if_pos hwk.symm]
                  exact ints_snoc hJ
                · rename (News _ _ _ _) => N17
                  rename (Fr _ _ _ _) => F17
                  rename (unk _ _ _ = false) => hu
                  rw [hu, Bool.false_or] at hwk
                  refine LCg.ListComp_U (F₀ := F17) (by with_unfolding_all rfl) (by decide) (by rfl) (by decide) (by rfl) ?_
                  k_steps
                  refine Halt.in_ ?_
                  rename (News _ _ _ _) => N18
                  rename (Fr _ _ _ _) => F18
                  have hugl : ug.length ≤ 2 := by rw [hig.length]; exact hgl
                  have hd7 : (Du, listOf ds.toArray ds.length) ∈ rest7 := hs67 _ hdG
                  refine LCg.CompSrc.ledger (k := cg) (its := ug.toArray) (by rfl) F18 N18 (by k_mem) (by rw [List.size_toArray, sizeLine_eq]; omega) ?_
                  intro g7
                  refine rest_ind (WantJ B gs k _) ⟨rfl, by simp [wantB]⟩ ?_ ?_
                  · intro q zs' nw2 v I2 oI2 C2 oC2 D3 m₂ h2 tk2 E2' hq hJ2 hbl hv hC hxx FH3 NH3 off2 ne2
                    refine Mine.foldG ?_
                    intro GG
                    obtain ⟨rfl, rfl⟩ := hJ2
                    k_unfold
                    clear GG
                    refine Mine.foldG ?_
                    intro GG
                    obtain ⟨g, tg, hg, rfl⟩ := ints_get hig hv
                    k_unfold
                    clear GG
                    have hgr := ((hgs g).mp (List.mem_of_getElem? hg)).range hj0
                    obtain ⟨gn, rfl⟩ : ∃ gn : Nat, g = gn := ⟨g.toNat, by omega⟩
                    have hgn : gn < ds.length := by omega
                    obtain ⟨v3, hv3⟩ : ∃ v, ds[gn]? = some v := ⟨_, List.getElem?_eq_getElem hgn⟩
                    refine Mine.foldG ?_
                    intro GG
                    obtain ⟨l3, b3, rfl, hb3, us3, c3, hm3, hi3⟩ := hatF gn v3 hv3
                    k_unfold
                    clear GG
                    have hm7 := hs67 _ (hsubG _ hm3)
                    have hx3 : ds[((gn : Nat) : Int).toNat]? = some (.ref l3) := by rw [Int.toNat_natCast]; exact hv3
                    have hgn2 : ((gn : Nat) : Int) < ds.length := by omega
                    have hgn0 : 0 ≤ ((gn : Nat) : Int) := Int.natCast_nonneg _
                    clear hv3 hx2 hjn
                    k_steps
                    refine Halt.in_ ?_
                    refine ⟨_, _, _, rfl, by assumption, by assumption, off2, .inr ⟨_, by k_mem, rfl, _, rfl⟩, rfl, ?_⟩
                    rw [wantB_succ hg, List.map_append]
                    have e3 : B.getD ((gn : Nat) : Int).toNat 0 = b3 := by rw [Int.toNat_natCast, List.getD_eq_getElem?_getD, hb3]; rfl
                    rw [e3]
                    rfl
                  · intro zs' nw2 hJ2 hbl D3 h3 tk3 FK NK off3
                    refine Mine.foldG ?_
                    intro GG
                    obtain ⟨rfl, rfl⟩ := hJ2
                    k_unfold
                    clear GG
                    rw [List.take_of_length_le (by rw [List.size_toArray, hig.length]; exact Nat.le_refl _)] at NK
                    k_steps
                    refine Halt.in_ ?_
                    refine true_in (News.isList NK (.head _)) (by ke_room) ?_
                    k_steps
                    all_goals (refine Halt.in_ ?_)
                    · rename ((wantB B gs k).any id = true) => hw
                      rename (Fr _ _ _ _) => FL
                      rw [hw] at hwk
                      refine ⟨_, _, _, rfl, FL, fun p hp => NK p (.tail _ hp), off, rfl, ?_⟩
                      rw [regsF_succ, if_pos hwk.symm]
                      exact ints_snoc hJ
                    · rename ((wantB B gs k).any id = false) => hw
                      rename (Fr _ _ _ _) => FL
                      rw [hw] at hwk
                      refine ⟨_, _, _, rfl, FL, fun p hp => NK p (.tail _ hp), off, rfl, ?_⟩
                      rw [regsF_succ, if_neg (by rw [← hwk]; decide)]
                      exact hJ
              · intro es nw Dw h tk hJ FG NG off
                refine Mine.foldG ?_
                intro GG
                obtain ⟨rfl, hJ⟩ := hJ
                k_unfold
                clear GG
                dsimp only at FG
                refine Mine.foldG ?_
                intro GG
                obtain ⟨ta, hua⟩ := ints_at hia ha
                k_unfold
                clear GG
                have hx4 : ua[((j : Nat) : Int).toNat]? = some (.int a ta) := by rw [Int.toNat_natCast]; exact hua
                have hual : ua.length = mn := by rw [hia.length, hlive.2.1, hrl]
                have hjn4 : ((j : Nat) : Int) < ua.length := by omega
                (try clear N15); (try clear F15); (try clear N16); (try clear F16); (try clear hua); (try clear rgJ)
                k_steps
                refine Halt.in_ (wpAny_If ?_)
                k_steps
                refine Halt.in_ ?_
                rename (News _ _ _ _) => NM
                rename (Fr _ _ _ _) => FM
                refine' Ctr.use ?uB ?uF ?uX ?uN ?uT ?uK (rg_spec a ta) ?ud ?uu ?_
                case uB => k_asm
                case uF => exact FM
                case uX => k_asm
                case uN => exact NM
                case uT => k_asm
                case uK => first | exact rfl | assumption
                case ud => ktr_room
                case uu => ktr_units
                intro r8 nw8 h8 tk8 F8 N8 hp8
                refine Mine.foldG ?_
                intro GG
                obtain ⟨l8, us8, c8, ns8, rfl, rfl, hne8, hi8, rfl⟩ := hp8
                k_unfold
                clear GG
                (try clear NM); (try clear FM)
                k_steps
                refine Halt.in_ ?_
                refine ke_ne_ints (News.isList N8 (.head _)) (News.isList N8 (.tail _ (.head _))) hi8 hJ (by ke_room) ?_
                simp only [decide_true, Bool.not_true]
                k_steps
                refine Halt.in_ ?_
                rename (News _ _ _ _) => NN
                rename (Fr _ _ _ _) => FN
                refine' Ctr.use ?vB ?vF ?vX ?vN ?vT ?vK (il_spec a 5 ta _ (by decide) (by decide)) ?vd ?vu ?_
                case vB => k_asm
                case vF => exact FN
                case vX => k_asm
                case vN => exact NN
                case vT => k_asm
                case vK => first | exact rfl | assumption
                case vd => ktr_room
                case vu => ktr_units
                intro r9 nw9 h9 tk9' F9 N9 hp9
                refine Mine.foldG ?_
                intro GG
                obtain ⟨rfl, _, rfl⟩ := hp9
                k_unfold
                clear GG
                (try clear NN); (try clear FN); (try clear N8); (try clear F8)
                k_steps
                · rename ((tb a (Int.toNat 5) != (regsF a 18).any fun x => x == 5) = true) => hq
                  have h5 : ((regsF a 18).any fun x => x == (5 : Int)) = tb a (Int.toNat 5) := regs_any a (k := 5) (by decide)
                  rw [h5] at hq
                  simp at hq
                · refine Halt.in_ ?_
                  rename (Fr _ _ _ _) => FP
                  refine kst_end (σ := Obj × Obj) (og2, ol2) FP N9 (fun p hp => ?_) (fun p hp => ?_) rfl ⟨⟨_, hg12⟩, ⟨_, hl14⟩⟩ (fun p hp => nomatch hp) ?_ trivial
                  · exact in_wrap (A := [_, _, _, _, _, _, _, _]) hp hs67
                  · exact .tail _ (.tail _ (.tail _ (.tail _ (.tail _ (.tail _ (.tail _ (.tail _ (.tail _ (.tail _ (hs97 p hp))))))))))
                  · intro z h1 h2 h3
                    have hz : ¬ z = Str.ofString "wanted" := fun e => absurd h3 (by rw [e]; decide)
                    dsimp only [kstB]
                    simp only [h3, Bool.false_eq_true, if_false, if_neg h1, if_neg hz]
            · intro c u h tk hF _ F N
              refine Mine.foldG ?_
              intro GG
              obtain ⟨⟨vg, hvg⟩, ⟨vl, hvl⟩⟩ := hF
              k_unfold
              clear GG
              dsimp only [Led8, L8] at N
              k_steps)
theorem PySem.Challenge.cw_pb0326_01_holds : PySem.Challenge.rw_pb0326_01.Holds :=
  Mine.law_all
