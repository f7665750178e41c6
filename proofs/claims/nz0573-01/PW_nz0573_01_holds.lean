import PyProof.Rows.All
import Wide.All
import OpenK.AllK
import Wide.FinOn
import PySem.Challenge.RW_nz0573_01
open PySem PySem.W PyProof.Rows PySem.Calls PySem.Spec
set_option Elab.async false
set_option maxRecDepth 100000
set_option maxHeartbeats 8000000
set_option linter.all false
set_option synthInstance.maxSize 1 in
open_top Mine.hd for PySem.Challenge.rw_nz0573_01
namespace Mine
local macro_rules | `(tactic| walk_at $s:str) => `(tactic| k_extra $s)

-- W0
theorem newsCons {h₀ h : Heap} {L : Addr} {news : CbLed} {p : Addr × Obj} (N : News h₀ L h news) (hm : p ∈ news) : News h₀ L h (p :: news) := fun q hq => by
  rcases List.mem_cons.mp hq with rfl | hq
  · exact N _ hm
  · exact N _ hq
theorem newsSub {h₀ h : Heap} {L : Addr} {n1 n2 : CbLed} (N : News h₀ L h n1) (hs : ∀ p ∈ n2, p ∈ n1) : News h₀ L h n2 := fun p hp => N p (hs p hp)
theorem newsHead {h₀ h : Heap} {L : Addr} {n1 n2 : CbLed} {p : Addr × Obj} (N : News h₀ L h n1) (hm : p ∈ n1) (hs : ∀ p ∈ n2, p ∈ n1) : News h₀ L h (p :: n2) := fun q hq => by
  rcases List.mem_cons.mp hq with rfl | hq
  · exact N _ hm
  · exact N _ (hs _ hq)
/-- the three fields of an octet, as the walk says them -/
abbrev fx (n : Int) : Int := n.fdiv (2 ^ Int.toNat 6)
abbrev fy (n : Int) : Int := Builtin.bitAnd (n.fdiv (2 ^ Int.toNat 3)) 7
abbrev fz (n : Int) : Int := Builtin.bitAnd n 7
abbrev inL (l : List Int) (n : Int) : Prop := (l.any fun x => x == n) = true
/-- the cell of a memory of 64 -/
def cell (ns : List Int) (n : Int) : Int := ns.getD (n.fmod (ns.length : Int)).toNat 0
structure Mem (vs : List Value) (ns : List Int) : Prop where
  are : IntsAre vs ns
  size : ns.length = 64
  octs : ∀ x ∈ ns, 0 ≤ x ∧ x < 256
theorem cell_oct {vs : List Value} {ns : List Int} (M : Mem vs ns) (n : Int) : 0 ≤ cell ns n ∧ cell ns n < 256 := by
  unfold cell
  rw [List.getD_eq_getElem?_getD]
  cases h : ns[(n.fmod (ns.length : Int)).toNat]? with
  | none => decide
  | some x => exact M.octs x (List.mem_of_getElem? h)
abbrev inB (l : List Int) (n : Int) : Bool := l.any fun z => z == n
def mainLength (n : Int) : Int :=
  bif fx n == 0 then
    bif fz n == 0 then (bif decide (fy n < 2) then 1 else 2)
    else bif fz n == 1 then (bif (fy n).fmod 2 == 0 then 3 else 1)
    else bif (fz n == 2 && decide (3 < fy n)) then 3 else bif fz n == 6 then 2 else 1
  else bif decide (fx n < 3) then 1
  else bif (inB [2, 4] (fz n) || inB [195, 205] n) then 3
  else bif (fz n == 6 || inB [203, 211, 219, 237] n) then 2 else 1
def farOctets (n : Int) : Int :=
  bif fx n == 0 then
    bif fz n == 0 then (bif decide (fy n < 2) then 0 else 1)
    else bif fz n == 1 then (bif (fy n).fmod 2 == 0 then 2 else 0)
    else bif (fz n == 2 && decide (3 < fy n)) then 2 else bif fz n == 6 then 1 else 0
  else bif decide (fx n < 3) then 0
  else bif (inB [2, 4] (fz n) || inB [195, 205] n) then 2
  else bif (fz n == 6 || inB [211, 219] n) then 1 else 0
def turnsByIndex (n : Int) : Bool :=
  bif fx n == 0 then
    bif fz n == 1 then ((fy n).fmod 2 == 1 || fy n == 4)
    else bif inB [2, 3] (fz n) then inB [4, 5] (fy n)
    else ((decide (4 ≤ fz n) && decide (fz n ≤ 6)) && inB [4, 5, 6] (fy n))
  else bif fx n == 1 then (n != 118 && (inB [4, 5, 6] (fy n) || inB [4, 5, 6] (fz n)))
  else bif fx n == 2 then inB [4, 5, 6] (fz n) else inB [225, 227, 229, 233, 249] n
def isBeside (n : Int) : Bool :=
  bif fx n == 0 then (fy n == 6 && (decide (4 ≤ fz n) && decide (fz n ≤ 6)))
  else (n != 118 && ((fx n == 1 && (fy n == 6 || fz n == 6)) || (fx n == 2 && fz n == 6)))
def usesMemory (n : Int) : Bool :=
  bif fx n == 0 then (fy n == 6 && (decide (4 ≤ fz n) && decide (fz n ≤ 6)))
  else bif fx n == 1 then (n != 118 && (fy n == 6 || fz n == 6))
  else (fx n == 2 && fz n == 6)
def canMain (n : Int) : Bool :=
  bif inB [16, 32, 40, 48, 56] n then true else (fx n == 3 && inB [0, 4] (fz n))
def signedOctet (n : Int) : Int := if 127 < n then n - 256 else n
theorem so_cond (n : Int) : (bif decide (127 < n) then n - 256 else n) = signedOctet n := by
  unfold signedOctet
  by_cases h : 127 < n
  · rw [if_pos h, decide_eq_true h]; rfl
  · rw [if_neg h, decide_eq_false h]; rfl
def lengthOf (r0 r1 : Int) : Int :=
  if r0 = 237 then (if fx r1 = 1 ∧ fz r1 = 3 then 4 else 2)
  else if ¬ inL [221, 253] r0 then mainLength r0
  else if inL [221, 237, 253] r1 then 1
  else if r1 = 203 then 4
  else 1 + mainLength r1 + (if usesMemory r1 then 1 else 0)
def canTake (r0 r1 : Int) : Bool :=
  if inL [221, 253] r0 then decide (¬ inL [203, 221, 237, 253] r1) && canMain r1
  else if r0 = 237 then decide (fx r1 = 2 ∧ 5 < Builtin.bitAnd (r1.fdiv (2 ^ Int.toNat 3)) 7 ∧ fz r1 < 4)
  else canMain r0
theorem lengthOf_b (r0 r1 : Int) : (bif r0 == 237 then (bif (fx r1 == 1 && fz r1 == 3) then 4 else 2) else bif (!inB [221, 253] r0) then mainLength r0 else bif inB [221, 237, 253] r1 then 1 else bif r1 == 203 then 4 else 1 + mainLength r1 + (bif usesMemory r1 then 1 else 0)) = lengthOf r0 r1 := by
  unfold lengthOf
  simp only [Bool.cond_eq_ite, beq_iff_eq, Bool.and_eq_true, Bool.not_eq_true', Bool.not_eq_true]
theorem canTake_b (r0 r1 : Int) : (bif inB [221, 253] r0 then ((!inB [203, 221, 237, 253] r1) && canMain r1) else bif r0 == 237 then (fx r1 == 2 && (decide (5 < Builtin.bitAnd (r1.fdiv (2 ^ Int.toNat 3)) 7) && decide (fz r1 < 4))) else canMain r0) = canTake r0 r1 := by
  unfold canTake
  simp only [Bool.cond_eq_ite, beq_iff_eq]
  by_cases h : inL [221, 253] r0
  · rw [if_pos h, if_pos h]; congr 1
    show (!inB [203, 221, 237, 253] r1) = decide (¬ (inB [203, 221, 237, 253] r1 = true))
    generalize inB [203, 221, 237, 253] r1 = b
    cases b <;> rfl
  · rw [if_neg h, if_neg h]
    by_cases h2 : r0 = 237
    · rw [if_pos h2, if_pos h2]
      simp only [Bool.decide_and, Bool.beq_eq_decide_eq]
    · rw [if_neg h2, if_neg h2]
theorem octs {P : Int → Prop} (h : ∀ k : Fin 256, P (k.val : Int)) {n : Int} (h0 : 0 ≤ n) (h1 : n < 256) : P n := by
  have := h ⟨n.toNat, by omega⟩
  rwa [show ((n.toNat : Nat) : Int) = n by omega] at this
theorem codes_b {n : Int} (h0 : 0 ≤ n) (h1 : n < 256) : (bif inB [203, 221, 237, 253] n then true else bif (mainLength n != 1 + farOctets n || isBeside n != usesMemory n) then false else (turnsByIndex n || !isBeside n)) = true :=
  octs (P := fun n => (bif inB [203, 221, 237, 253] n then true else bif (mainLength n != 1 + farOctets n || isBeside n != usesMemory n) then false else (turnsByIndex n || !isBeside n)) = true) (by decide +kernel) h0 h1
theorem codes_right0 : ∀ k : Fin 256, ¬ inL [203, 221, 237, 253] (k.val : Int) →
    mainLength k.val = 1 + farOctets k.val ∧ isBeside k.val = usesMemory k.val ∧ (turnsByIndex k.val = true ∨ isBeside k.val = false) := by decide +kernel
theorem codes_right {n : Int} (h0 : 0 ≤ n) (h1 : n < 256) (h : ([203, 221, 237, 253].any fun x => x == n) = false) :
    mainLength n = 1 + farOctets n ∧ isBeside n = usesMemory n ∧ (turnsByIndex n = true ∨ isBeside n = false) :=
  octs (P := fun n => ¬ inL [203, 221, 237, 253] n → mainLength n = 1 + farOctets n ∧ isBeside n = usesMemory n ∧ (turnsByIndex n = true ∨ isBeside n = false)) codes_right0 h0 h1 (by rw [inL, h]; exact Bool.false_ne_true)
/-- an operand as its object says it: a name, a number of which V is so, a place beside an index register -/
inductive Opd (V : Int → Prop) (b : Int) : Obj → Prop
  | s {k x : Str} {t u : Tok} (hk : k = Str.ofString "r" ∨ k = Str.ofString "p" ∨ k = Str.ofString "f" ∨ k = Str.ofString "m") :
      Opd V b { cls := .type "tuple", data := .seq [Value.str k t, Value.str x u].toArray }
  | n {k : Str} {t u : Tok} {v : Int} (hk : k = Str.ofString "n" ∨ k = Str.ofString "a") (hv : V v) :
      Opd V b { cls := .type "tuple", data := .seq [Value.str k t, Value.int v u].toArray }
  | x {ix : Str} {t u tv : Tok} : Opd V b { cls := .type "tuple", data := .seq [Value.str (Str.ofString "x") t, Value.str ix u, Value.int b tv].toArray }
/-- a written name: none of the words that the law looks at -/
structure Plain (x : Str) : Prop where
  db : x ≠ Str.ofString "DB"
  jr : x ≠ Str.ofString "JR"
  djnz : x ≠ Str.ofString "DJNZ"
  short : x.length ≤ 4
theorem plain_of {x : Str} (h : (decide (x ≠ Str.ofString "DB") && decide (x ≠ Str.ofString "JR") && decide (x ≠ Str.ofString "DJNZ") && decide (x.length ≤ 4)) = true) : Plain x := by
  simp only [Bool.and_eq_true, decide_eq_true_eq] at h
  exact ⟨h.1.1.1, h.1.1.2, h.1.2, h.2⟩
inductive Names : List Value → Prop
  | nil : Names []
  | cons {x : Str} {t : Tok} {vs : List Value} (h : Plain x) (r : Names vs) : Names (.str x t :: vs)
theorem Names.at {vs : List Value} (h : Names vs) : ∀ {i : Nat} (hi : i < vs.length), ∃ x t, vs[i] = .str x t ∧ Plain x := by
  induction h with
  | nil => intro i hi; exact absurd hi (Nat.not_lt_zero _)
  | cons p r ih =>
    intro i hi
    cases i with
    | zero => exact ⟨_, _, rfl, p⟩
    | succ i => exact ih (Nat.lt_of_succ_lt_succ hi)
section
variable {prog : Program} {w : World} {A : Around} {E : Value → Shared → Prop} {s : Shared} {value slice : PySem.Expr} {l : Addr} {vs : List Value} {k : Int} {u : Tok} {Q : Value → Shared → Prop}
theorem pickName (hl : s.heap.IsList l vs.toArray) (hn : Names vs) (h0 : 0 ≤ k) (h1 : k < (vs.length : Int)) (hfit : k < 2 ^ 63) (h : ∀ x t, Plain x → Q (.str x t) s)
    (hs : subscripted slice false (.ref l) (.int k u) = operate [.ref l, .int k u] (getItem (.ref l) (.int k u)) := by with_unfolding_all rfl) :
    wpAny (model prog w) A (subscriptTail value slice (.ref l) (.int k u)) Q E s := by
  have hlt : k.toNat < vs.length := by omega
  obtain ⟨x, t, e, hp⟩ := hn.at hlt
  exact tail_any hl.typeIs slot_list_getitem.lookup (wpAny_getItem_list hl h0 hfit (x := vs[k.toNat]) (by simp [hlt]) (by rw [e]; exact h x t hp)) hs
end
/-- operands that the ledger bears -/
def OpsIn (led : CbLed) (V : Int → Prop) (b : Int) (ops : List Value) : Prop := ∀ v ∈ ops, ∃ a o, v = Value.ref a ∧ (a, o) ∈ led ∧ Opd V b o
section
variable {led led' : CbLed} {V V' : Int → Prop} {b : Int} {ops ops' : List Value} {a : Addr} {o : Obj}
theorem OpsIn.nil : OpsIn led V b [] := fun _ h => nomatch h
theorem OpsIn.cons (hm : (a, o) ∈ led) (ho : Opd V b o) (h : OpsIn led V b ops) : OpsIn led V b (Value.ref a :: ops) := fun v hv => by
  rcases List.mem_cons.mp hv with rfl | hv
  · exact ⟨a, o, rfl, hm, ho⟩
  · exact h v hv
theorem OpsIn.mono (h : OpsIn led V b ops) (hs : ∀ p ∈ led, p ∈ led') : OpsIn led' V b ops := fun v hv =>
  let ⟨a, o, e, hm, ho⟩ := h v hv
  ⟨a, o, e, hs _ hm, ho⟩
theorem OpsIn.append (h : OpsIn led V b ops) (h' : OpsIn led V b ops') : OpsIn led V b (ops ++ ops') := fun v hv => (List.mem_append.mp hv).elim (h v) (h' v)
theorem OpsIn.reverse (h : OpsIn led V b ops) : OpsIn led V b ops.reverse := fun v hv => h v (List.mem_reverse.mp hv)
end
theorem ordEnd {h₀ h : Heap} {L r l : Addr} {big news : CbLed} {o₁ o₂ : Obj} (N : News h₀ L h big) (hr : (r, o₁) ∈ big) (hl : (l, o₂) ∈ big) (hs : ∀ p ∈ news, p ∈ big) :
    News h₀ L h ((r, o₁) :: (l, o₂) :: (big ++ news)) := fun q hq => by
  rcases List.mem_cons.mp hq with rfl | hq
  · exact N _ hr
  rcases List.mem_cons.mp hq with rfl | hq
  · exact N _ hl
  rcases List.mem_append.mp hq with hq | hq
  · exact N _ hq
  · exact N _ (hs _ hq)
theorem fy_rng (n : Int) : 0 ≤ Builtin.bitAnd (n.fdiv (2 ^ Int.toNat 3)) 7 ∧ Builtin.bitAnd (n.fdiv (2 ^ Int.toNat 3)) 7 < 8 := by rw [bitAnd_m3]; omega
theorem fz_rng (n : Int) : 0 ≤ Builtin.bitAnd n 7 ∧ Builtin.bitAnd n 7 < 8 := by rw [bitAnd_m3]; omega
theorem half_rng {y : Int} (h0 : 0 ≤ y) (h1 : y < 8) : 0 ≤ y.fdiv (2 ^ Int.toNat 1) ∧ y.fdiv (2 ^ Int.toNat 1) < 4 := by
  rw [show (2 : Int) ^ Int.toNat 1 = 2 by decide, Int.fdiv_eq_ediv_of_nonneg _ (by decide)]; omega
theorem fx_rng {n : Int} (h0 : 0 ≤ n) (h1 : n < 256) : 0 ≤ n.fdiv (2 ^ Int.toNat 6) ∧ n.fdiv (2 ^ Int.toNat 6) < 4 := by
  rw [show (2 : Int) ^ Int.toNat 6 = 64 by decide, Int.fdiv_eq_ediv_of_nonneg _ (by decide)]; omega
theorem compEnd1 {h₀ h' : Heap} {L I C D a : Addr} {m : Str → Option Value} {s₁ : Shared} {oI oC oD o : Obj} {S : List (Addr × Obj) → Prop} {rest : Value → List (Addr × Obj) → Prop} {y : Value} {tk : Nat} {news : CbLed}
    (F : Fr h₀ L h' m) (N : News h₀ L h' ((a, o) :: (I, oI) :: (C, oC) :: (D, oD) :: news)) (off : LCg.Off3 I C D news) (lt : I < a ∧ C < a ∧ D < a) (hS : S ((a, o) :: news)) (r : rest y ((a, o) :: news)) :
    LCg.CompEnd h₀ L m s₁ I oI C oC D oD S rest y { s₁ with heap := h', toks := tk } := by
  refine LCg.CompEnd.intro F N ((a, o) :: news) (fun p hp => ?_) ⟨⟨Nat.ne_of_gt lt.1, Nat.ne_of_gt lt.2.1, Nat.ne_of_gt lt.2.2⟩, off⟩ hS r
  simp only [List.mem_cons] at hp ⊢
  rcases hp with h | h | h | h | h
  · exact .inr (.inl h)
  · exact .inr (.inr (.inl h))
  · exact .inr (.inr (.inr (.inl h)))
  · exact .inl h
  · exact .inr (.inr (.inr (.inr h)))
theorem newsTl {h₀ h : Heap} {L : Addr} {p : Addr × Obj} {n1 n2 : CbLed} (N : News h₀ L h (p :: n1)) (hs : News h₀ L h n1 → News h₀ L h n2) : News h₀ L h (p :: n2) := fun q hq => by
  rcases List.mem_cons.mp hq with rfl | hq
  · exact N _ List.mem_cons_self
  · exact hs (fun q hq => N q (List.mem_cons_of_mem _ hq)) q hq
theorem cz0 (n : Int) : n + (0 + ((0 : Nat) : Int)) = n := by omega
theorem cz1 (n : Int) : n + (0 + ((0 + 1 : Nat) : Int)) = n + 1 := by omega
theorem cz2 (n : Int) : n + (0 + ((0 + 1 + 1 : Nat) : Int)) = n + 2 := by omega
theorem cz3 (n : Int) : n + (0 + ((0 + 1 + 1 + 1 : Nat) : Int)) = n + 3 := by omega
theorem cz4 (n : Int) : n + (0 + ((0 + 1 + 1 + 1 + 1 : Nat) : Int)) = n + 4 := by omega
theorem news3 {h₀ h : Heap} {L : Addr} {p1 p2 p3 : Addr × Obj} {big news : CbLed} (N : News h₀ L h big) (h1 : p1 ∈ big) (h2 : p2 ∈ big) (h3 : p3 ∈ big) (hs : ∀ p ∈ news, p ∈ big) : News h₀ L h (p1 :: p2 :: p3 :: news) := fun q hq => by
  rcases List.mem_cons.mp hq with rfl | hq
  · exact N _ h1
  rcases List.mem_cons.mp hq with rfl | hq
  · exact N _ h2
  rcases List.mem_cons.mp hq with rfl | hq
  · exact N _ h3
  · exact N _ (hs _ hq)
theorem half_case {y : Int} (h0 : 0 ≤ y) : y.fdiv (2 ^ Int.toNat 1) < 2 ∨ 3 < y := by
  rw [show (2 : Int) ^ Int.toNat 1 = 2 by decide, Int.fdiv_eq_ediv_of_nonneg _ (by decide)]; omega
theorem plain_ix {ix : Str} (h : ix = Str.ofString "" ∨ ix = Str.ofString "IX" ∨ ix = Str.ofString "IY") : Plain ix := by
  rcases h with rfl | rfl | rfl <;> exact plain_of (by decide +kernel)
/-- the orders with a number of two octets -/
abbrev F2 (n : Int) : Prop :=
  (fx n = 0 ∧ fz n = 1 ∧ Builtin.bitAnd (fy n) 1 ≠ 1) ∨ (fx n = 0 ∧ fz n = 2 ∧ 3 < fy n) ∨ (fx n = 3 ∧ (fz n = 2 ∨ fz n = 4)) ∨
  (fx n = 3 ∧ fz n = 3 ∧ fy n = 0) ∨ (fx n = 3 ∧ fz n = 5 ∧ (fy n).fmod 2 ≠ 0)
theorem far2_0 : ∀ k : Fin 256, ¬ inL [203, 221, 237, 253] (k.val : Int) → F2 k.val → farOctets k.val = 2 := by decide +kernel
theorem far2 {n : Int} (h0 : 0 ≤ n) (h1 : n < 256) (h : ([203, 221, 237, 253].any fun x => x == n) = false) (hf : F2 n) : farOctets n = 2 :=
  octs (P := fun n => ¬ inL [203, 221, 237, 253] n → F2 n → farOctets n = 2) far2_0 h0 h1 (by rw [inL, h]; exact Bool.false_ne_true) hf
theorem y1_0 : ∀ k : Fin 256, ¬ inL [203, 221, 237, 253] (k.val : Int) → fx k.val = 3 → fz k.val = 3 → fy k.val ≠ 1 := by decide +kernel
theorem y1 {n : Int} (h0 : 0 ≤ n) (h1 : n < 256) (h : ([203, 221, 237, 253].any fun x => x == n) = false) (hx : fx n = 3) (hz : fz n = 3) : fy n ≠ 1 :=
  octs (P := fun n => ¬ inL [203, 221, 237, 253] n → fx n = 3 → fz n = 3 → fy n ≠ 1) y1_0 h0 h1 (by rw [inL, h]; exact Bool.false_ne_true) hx hz
/-- names the two letters of a claim on operands, so that the walk's lines find them -/
structure VB (V : Int → Prop) (b : Int) : Prop where
structure VLow (V : Int → Prop) : Prop where
  out : ∀ v : Int, v < 256 → V v
structure VIf (V : Int → Prop) (P : Prop) (v : Int) : Prop where
  out : P → V v
theorem getAny {prog : Program} {w : World} {A : Around} {E : Value → Shared → Prop} {s : Shared} {h₀ : Heap} {L d : Addr} {news : CbLed} {o : Obj} {kvs : List (Int × Value)} {k : Int} {t : Tok} {Q : Value → Shared → Prop}
    (N : News h₀ L s.heap news) (hp : (d, o) ∈ news) (hd : o.IsDictOf (intKind prog w) kvs) (lo : (d == sysModules) = false) (h0 : Q .none { s with toks := s.toks + 1 }) (h1 : ∀ p ∈ kvs, Q p.2 { s with toks := s.toks + 1 }) :
    wpAny (model prog w) A (call (.builtin "dict.get") [.ref d, .int k t]) Q E s := by
  refine kdg_get1 N hp hd lo (intKind_is _ _ _ _) _ rfl ?_
  unfold valueAt
  cases e : kvs.find? fun kv => kv.1 = k with
  | none => exact h0
  | some p => exact h1 p (List.mem_of_find?_eq_some e)
theorem nat_and_high {a b : Nat} (ha : a < 256) : a &&& (b * 256) = 0 := by
  apply Nat.eq_of_testBit_eq
  intro i
  rw [Nat.testBit_and, show b * 256 = b <<< 8 by rw [Nat.shiftLeft_eq], Nat.testBit_shiftLeft, Nat.zero_testBit]
  by_cases hi : i < 8
  · simp [show ¬ (8 ≤ i) by omega]
  · rw [Nat.testBit_lt_two_pow (Nat.lt_of_lt_of_le ha (Nat.pow_le_pow_right (by decide : 0 < 2) (by omega : 8 ≤ i)))]; simp
theorem bor16 {a b : Int} (a0 : 0 ≤ a) (a1 : a < 256) (b0 : 0 ≤ b) : Builtin.bitOr a (b * 2 ^ Int.toNat 8) = a + 256 * b := by
  obtain ⟨x, rfl⟩ := Int.eq_ofNat_of_zero_le a0
  obtain ⟨y, rfl⟩ := Int.eq_ofNat_of_zero_le b0
  have e : ((y : Int) * 2 ^ Int.toNat 8) = ((y * 256 : Nat) : Int) := by
    rw [show (2 : Int) ^ Int.toNat 8 = 256 by decide]; omega
  rw [bitOr_and, e]
  have h : Builtin.bitAnd (x : Int) ((y * 256 : Nat) : Int) = ((x &&& (y * 256) : Nat) : Int) := rfl
  rw [h, nat_and_high (by omega)]
  omega
theorem cell_wrap {vs : List Value} {ns : List Int} (M : Mem vs ns) (n : Int) : cell ns (Builtin.bitAnd n 65535) = cell ns n := by
  unfold cell
  rw [M.size, bitAnd_m16, Int.fmod_eq_emod_of_nonneg _ (by decide), Int.fmod_eq_emod_of_nonneg _ (by decide)]
  congr 2
  omega
theorem cell_eq {vs : List Value} {ns : List Int} (M : Mem vs ns) (n : Int) : cell ns n = ns.getD (n.fmod 64).toNat 0 := by
  unfold cell
  rw [M.size]; rfl

-- W1
theorem VIf.imp {V : Int → Prop} {P P' : Prop} {v : Int} (h : VIf V P v) (hi : P' → P) : VIf V P' v := ⟨fun p => h.out (hi p)⟩
theorem VIf.no {V : Int → Prop} {P : Prop} {v : Int} (h : ¬ P) : VIf V P v := ⟨fun p => absurd p h⟩
theorem hno_ix {n : Int} (h1 : n ≠ 203) (h2 : ([221, 237, 253].any fun x => x == n) = false) : ([203, 221, 237, 253].any fun x => x == n) = false := by
  simp only [List.any_cons, List.any_nil, Bool.or_false, Bool.or_eq_false_iff, beq_eq_false_iff_ne, ne_eq] at *
  exact ⟨fun h => h1 h.symm, h2⟩
theorem hno_main {n : Int} (h1 : n ≠ 203) (h3 : n ≠ 237) (h2 : ([221, 253].any fun x => x == n) = false) : ([203, 221, 237, 253].any fun x => x == n) = false := by
  simp only [List.any_cons, List.any_nil, Bool.or_false, Bool.or_eq_false_iff, beq_eq_false_iff_ne, ne_eq] at *
  exact ⟨fun h => h1 h.symm, h2.1, fun h => h3 h.symm, h2.2⟩
def lenIx (n : Int) : Int :=
  if inL [221, 237, 253] n then 1 else if n = 203 then 4 else 1 + mainLength n + (if usesMemory n then 1 else 0)
theorem lenIx_203 {n : Int} (h : n = 203) : 4 = lenIx n := by subst h; decide +kernel
theorem lenIx_0 : ∀ k : Fin 256, ¬ inL [203, 221, 237, 253] (k.val : Int) →
    2 + (if isBeside k.val then 1 else 0) + farOctets k.val = lenIx k.val := by decide +kernel
theorem not_inL {l : List Int} {n : Int} (h : (l.any fun x => x == n) = false) : ¬ inL l n := by rw [inL, h]; exact Bool.false_ne_true
theorem lenIx_main1 {n : Int} (h0 : 0 ≤ n) (h1 : n < 256) (h2 : n ≠ 203) (h3 : ([221, 237, 253].any fun x => x == n) = false) (hb : isBeside n = true) : 2 + 1 + farOctets n = lenIx n := by
  have := octs (P := fun n => ¬ inL [203, 221, 237, 253] n → 2 + (if isBeside n then 1 else 0) + farOctets n = lenIx n) lenIx_0 h0 h1 (not_inL (hno_ix h2 h3))
  rwa [hb, if_pos rfl] at this
theorem lenIx_main0 {n : Int} (h0 : 0 ≤ n) (h1 : n < 256) (h2 : n ≠ 203) (h3 : ([221, 237, 253].any fun x => x == n) = false) (hb : isBeside n = false) : 2 + 0 + farOctets n = lenIx n := by
  have := octs (P := fun n => ¬ inL [203, 221, 237, 253] n → 2 + (if isBeside n then 1 else 0) + farOctets n = lenIx n) lenIx_0 h0 h1 (not_inL (hno_ix h2 h3))
  rwa [hb, if_neg Bool.false_ne_true] at this
theorem far_beside0 : ∀ k : Fin 256, ¬ inL [203, 221, 237, 253] (k.val : Int) → isBeside k.val = true → farOctets k.val ≠ 2 := by decide +kernel
theorem far_beside {n : Int} (h0 : 0 ≤ n) (h1 : n < 256) (h2 : n ≠ 203) (h3 : ([221, 237, 253].any fun x => x == n) = false) (hb : isBeside n = true) : farOctets n ≠ 2 :=
  octs (P := fun n => ¬ inL [203, 221, 237, 253] n → isBeside n = true → farOctets n ≠ 2) far_beside0 h0 h1 (not_inL (hno_ix h2 h3)) hb
theorem turns_short0 : ∀ k : Fin 256, turnsByIndex k.val = true → ¬ (fx k.val = 0 ∧ fz k.val = 0 ∧ 2 ≤ fy k.val) := by decide +kernel
theorem turns_short {n : Int} (h0 : 0 ≤ n) (h1 : n < 256) (h : turnsByIndex n = true) : ¬ (fx n = 0 ∧ fz n = 0 ∧ 2 ≤ fy n) :=
  octs (P := fun n => turnsByIndex n = true → ¬ (fx n = 0 ∧ fz n = 0 ∧ 2 ≤ fy n)) turns_short0 h0 h1 h
/-- an idle prefix, by the octet behind it -/
def IdleIx (r1 : Int) : Prop := r1 ≠ 203 ∧ (inL [221, 237, 253] r1 ∨ turnsByIndex r1 = false)
def NotIdle (r0 r1 : Int) : Prop := ([221, 253].any fun x => x == r0) = true → r1 = 203 ∨ (([221, 237, 253].any fun x => x == r1) = false ∧ turnsByIndex r1 = true)
/-- an order that is told whole, and its length -/
structure Told (r0 r1 many : Int) : Prop where
  ni : NotIdle r0 r1
  len : lengthOf r0 r1 = many
theorem told_203 {r0 r1 : Int} (h : r0 = 203) : Told r0 r1 2 := by
  subst h
  exact ⟨fun h => absurd h (by decide), by unfold lengthOf; rw [if_neg (by decide), if_pos (by decide)]; decide +kernel⟩
theorem told_237a {r0 r1 : Int} (h : r0 = 237) (hx : fx r1 = 1) (hz : fz r1 = 3) : Told r0 r1 4 := by
  subst h
  exact ⟨fun h => absurd h (by decide), by unfold lengthOf; rw [if_pos rfl, if_pos ⟨hx, hz⟩]⟩
theorem told_237b {r0 r1 : Int} (h : r0 = 237) (hz : ¬ (fx r1 = 1 ∧ fz r1 = 3)) : Told r0 r1 2 := by
  subst h
  exact ⟨fun h => absurd h (by decide), by unfold lengthOf; rw [if_pos rfl, if_neg hz]⟩
theorem ix_no {r0 : Int} (h : ([221, 253].any fun x => x == r0) = true) : r0 ≠ 237 := by
  simp only [List.any_cons, List.any_nil, Bool.or_false, Bool.or_eq_true, beq_iff_eq] at h
  omega
theorem told_ix {r0 r1 many : Int} (h : ([221, 253].any fun x => x == r0) = true) (hm : many = lenIx r1 ∧ (r1 = 203 ∨ (([221, 237, 253].any fun x => x == r1) = false ∧ turnsByIndex r1 = true))) : Told r0 r1 many := by
  refine ⟨fun _ => hm.2, ?_⟩
  unfold lengthOf
  rw [if_neg (ix_no h), if_neg (fun q => q h), hm.1]
  rfl
theorem told_ix203 {r0 r1 : Int} (h : ([221, 253].any fun x => x == r0) = true) (h1 : r1 = 203) : Told r0 r1 4 := told_ix h ⟨lenIx_203 h1, .inl h1⟩
theorem told_main {r0 r1 : Int} (p0 : 0 ≤ r0) (p1 : r0 < 256) (h1 : r0 ≠ 203) (h3 : r0 ≠ 237) (h2 : ([221, 253].any fun x => x == r0) = false) : Told r0 r1 (1 + farOctets r0) := by
  refine ⟨fun h => absurd (h2.symm.trans h) Bool.false_ne_true, ?_⟩
  unfold lengthOf
  rw [if_neg h3, if_pos (not_inL h2)]
  exact (codes_right p0 p1 (hno_main h1 h3 h2)).1

-- P0
theorem cell_abs {vs : List Value} {ns : List Int} (M : Mem vs ns) (n : Int) : (cell ns n).natAbs < 2 ^ 64 := by
  have h := cell_oct M n
  have : (cell ns n).natAbs < 256 := by omega
  exact Nat.lt_trans this (by decide)
abbrev Sub (a b : CbLed) : Prop := ∀ p ∈ a, p ∈ b
theorem Sub.refl' {a : CbLed} : Sub a a := fun _ h => h
theorem Sub.tr {a b c : CbLed} (h : Sub a b) (g : Sub b c) : Sub a c := fun p hp => g p (h p hp)
theorem Sub.no {a : CbLed} : Sub [] a := fun _ h => nomatch h
theorem Sub.tl {a b : CbLed} {p : Addr × Obj} (h : Sub a b) : Sub a (p :: b) := fun q hq => .tail _ (h q hq)
theorem Sub.cons {a b : CbLed} {p : Addr × Obj} (h : p ∈ b) (g : Sub a b) : Sub (p :: a) b := fun q hq => by
  rcases List.mem_cons.mp hq with rfl | hq
  · exact h
  · exact g q hq
theorem Sub.app {a b c : CbLed} (h : Sub a c) (g : Sub b c) : Sub (a ++ b) c := fun p hp => (List.mem_append.mp hp).elim (h p) (g p)
theorem Sub.l {a b c : CbLed} (h : Sub (a ++ b) c) : Sub a c := fun p hp => h p (List.mem_append_left _ hp)
theorem Sub.r {a b c : CbLed} (h : Sub (a ++ b) c) : Sub b c := fun p hp => h p (List.mem_append_right _ hp)
/-- what stays the same while a def's text is read -/
structure Cx where
  prog : Program
  w : World
  A : Around
  E : Value → Shared → Prop
  h₀ : Heap
  L : Addr
  cn : Str
  cs : Scope
  a : Addr
  ccd : Value
  cl : List (Str × Addr)
  hk : cs.kind = .function
  K : Frag
  X : K.In h₀
  p : Program
  loose : List Str
  mg : Str → Option Value
  mb : Str → Option Value
  TR : TopRead p loose mg mb h₀
  base : CbLed
abbrev Cx.env (c : Cx) : Env := envX c.cn c.cs c.L c.a c.ccd c.cl
abbrev Cx.more (c : Cx) (led : CbLed) : Cx := { c with base := led ++ c.base }
structure At (c : Cx) (m : Str → Option Value) (h : Heap) (news : CbLed) : Prop where
  F : Fr c.h₀ c.L h m
  N : News c.h₀ c.L h news
  sub : Sub c.base news
/-- the expression gives a value of this kind, and writes to no object that stood -/
structure EvP (c : Cx) (m : Str → Option Value) (e : PySem.Expr) (P : Value → CbLed → Prop) : Prop where
  out : ∀ {news : CbLed} {s : Shared} {Q : Value → Shared → Prop}, At c m s.heap news →
    (∀ v led news' h' tk', P v led → Sub led news' → Sub news news' → At c m h' news' → Q v { s with heap := h', toks := tk' }) → wpAny (model c.prog c.w) c.A (eval e c.env) Q c.E s
/-- values in a row -/
structure LsP (c : Cx) (m : Str → Option Value) (es : List PySem.Expr) (P : List Value → CbLed → Prop) : Prop where
  out : ∀ {news : CbLed} {s : Shared} {pos : Pos} {Q : List Value → Shared → Prop}, At c m s.heap news →
    (∀ vs led news' h' tk', P vs led → Sub led news' → Sub news news' → At c m h' news' → Q vs { s with heap := h', toks := tk' }) → wpAny (model c.prog c.w) c.A (spliced (backTo pos (starEach es c.env))) Q c.E s
structure CallP (c : Cx) (m : Str → Option Value) (f : Value) (vs : List Value) (P : Value → CbLed → Prop) : Prop where
  out : ∀ {news : CbLed} {s : Shared} {Q : Value → Shared → Prop}, At c m s.heap news →
    (∀ v led news' h' tk', P v led → Sub led news' → Sub news news' → At c m h' news' → Q v { s with heap := h', toks := tk' }) → wpAny (model c.prog c.w) c.A (call f vs) Q c.E s
def Vt (v : Tok → Value) : Value → CbLed → Prop := fun x led => led = [] ∧ ∃ t, x = v t
abbrev VI (n : Int) : Value → CbLed → Prop := Vt fun t => .int n t
abbrev VBo (b : Bool) : Value → CbLed → Prop := Vt fun _ => .bool b
abbrev Ev (c : Cx) (m : Str → Option Value) (e : PySem.Expr) (v : Tok → Value) : Prop := EvP c m e (Vt v)
abbrev EvI (c : Cx) (m : Str → Option Value) (e : PySem.Expr) (n : Int) : Prop := EvP c m e (Vt fun t => .int n t)
abbrev EvB (c : Cx) (m : Str → Option Value) (e : PySem.Expr) (b : Bool) : Prop := EvP c m e (Vt fun _ => .bool b)
/-- whatever the whole is -/
structure IsW (c : Cx) (m : Str → Option Value) (e : PySem.Expr) (b : Bool) : Prop where
  out : ∀ {news : CbLed} {s : Shared} {Q : Bool → Shared → Prop} {whole : Sem Value}, At c m s.heap news →
    (∀ news' h' tk', Sub news news' → At c m h' news' → Q b { s with heap := h', toks := tk' }) → wpAny (model c.prog c.w) c.A (isTrue e c.env whole) Q c.E s
structure IsT (c : Cx) (m : Str → Option Value) (e : PySem.Expr) (b : Bool) : Prop where
  out : ∀ {news : CbLed} {s : Shared} {Q : Bool → Shared → Prop}, At c m s.heap news →
    (∀ news' h' tk', Sub news news' → At c m h' news' → Q b { s with heap := h', toks := tk' }) → wpAny (model c.prog c.w) c.A (isTrue e c.env (eval e c.env)) Q c.E s
/-- the statements end with a return of such a value -/
structure Ex (c : Cx) (m : Str → Option Value) (ss : List Stmt) (P : Value → CbLed → Prop) : Prop where
  out : ∀ {news : CbLed} {s : Shared} {Q : Flow → Shared → Prop}, At c m s.heap news →
    (∀ v led news' h' tk' m', P v led → Sub led news' → Sub news news' → At c m' h' news' → Q (.ret v) { s with heap := h', toks := tk' }) → wpAny (model c.prog c.w) c.A (execs ss c.env) Q c.E s
section
variable {c : Cx} {m : Str → Option Value}
theorem EvP.v {e : PySem.Expr} {v : Tok → Value} (h : Ev c m e v) {news : CbLed} {s : Shared} {Q : Value → Shared → Prop} (I : At c m s.heap news)
    (k : ∀ t news' h' tk', Sub news news' → At c m h' news' → Q (v t) { s with heap := h', toks := tk' }) : wpAny (model c.prog c.w) c.A (eval e c.env) Q c.E s :=
  h.out I fun x led n' h' tk' p _ s2 I => by obtain ⟨_, t, rfl⟩ := p; exact k t n' h' tk' s2 I
theorem EvP.mkV {e : PySem.Expr} {v : Tok → Value} (h : ∀ {news : CbLed} {s : Shared} {Q : Value → Shared → Prop}, At c m s.heap news →
    (∀ t news' h' tk', Sub news news' → At c m h' news' → Q (v t) { s with heap := h', toks := tk' }) → wpAny (model c.prog c.w) c.A (eval e c.env) Q c.E s) : Ev c m e v :=
  ⟨fun I k => h I fun t n' h' tk' s I => k _ [] n' h' tk' ⟨rfl, t, rfl⟩ Sub.no s I⟩
theorem evMono {e : PySem.Expr} {P R : Value → CbLed → Prop} (h : EvP c m e P) (q : ∀ v led, P v led → R v led) : EvP c m e R := ⟨fun I k => h.out I fun v led n' h' tk' p => k v led n' h' tk' (q v led p)⟩
theorem evNameV {x pos v} (hm : m x = some v) (hkd : c.env.kindOf x = some .local) (hd : (x == Str.ofString "__debug__") = false) : Ev c m (.Name x pos) fun _ => v :=
  .mkV fun I k => nameX_L I.F hm (k default _ _ _ Sub.refl' I) c.hk hkd hd
theorem evName {x pos i t} (hm : m x = some (.int i t)) (hkd : c.env.kindOf x = some .local) (hd : (x == Str.ofString "__debug__") = false) : EvI c m (.Name x pos) i :=
  .mkV fun I k => nameX_L I.F hm (k _ _ _ _ Sub.refl' I) c.hk hkd hd
theorem evConst {i k pos} : EvI c m (.Constant (.int i) k pos) i := .mkV fun I k => wpAny_Constant_int (k _ _ _ _ Sub.refl' ⟨I.F, I.N, I.sub⟩)
theorem evBool {b k pos} : EvB c m (.Constant (.bool b) k pos) b := .mkV fun I k => Constant_bool (k default _ _ _ Sub.refl' I)
theorem evShr {l r pos x y} (ha : EvI c m l x) (hb : EvI c m r y) (h0 : decide (0 ≤ y) = true) : EvI c m (.BinOp l .RShift r pos) (x.fdiv (2 ^ y.toNat)) :=
  .mkV fun I k => wpAny_BinOp (ha.v I fun _ _ _ _ s1 I => hb.v I fun _ _ _ _ s2 I => rshift_int (of_decide_eq_true h0) (k _ _ _ _ (s1.tr s2) I))
theorem evAnd {l r pos x y} (ha : EvI c m l x) (hb : EvI c m r y) : EvI c m (.BinOp l .BitAnd r pos) (Builtin.bitAnd x y) :=
  .mkV fun I k => wpAny_BinOp (ha.v I fun _ _ _ _ s1 I => hb.v I fun _ _ _ _ s2 I => and_int (k _ _ _ _ (s1.tr s2) I))
theorem evMod {l r pos x y} (ha : EvI c m l x) (hb : EvI c m r y) (h0 : decide (y ≠ 0) = true) : EvI c m (.BinOp l .Mod r pos) (x.fmod y) :=
  .mkV fun I k => wpAny_BinOp (ha.v I fun _ _ _ _ s1 I => hb.v I fun _ _ _ _ s2 I => mod_int' (of_decide_eq_true h0) (k _ _ _ _ (s1.tr s2) I))
theorem evSub {l r pos x y} (ha : EvI c m l x) (hb : EvI c m r y) : EvI c m (.BinOp l .Sub r pos) (x - y) :=
  .mkV fun I k => wpAny_BinOp (ha.v I fun _ _ _ _ s1 I => hb.v I fun _ _ _ _ s2 I => sub_int (k _ _ _ _ (s1.tr s2) I))
theorem evAdd {l r pos x y} (ha : EvI c m l x) (hb : EvI c m r y) : EvI c m (.BinOp l .Add r pos) (x + y) :=
  .mkV fun I k => wpAny_BinOp (ha.v I fun _ _ _ _ s1 I => hb.v I fun _ _ _ _ s2 I => add_int (k _ _ _ _ (s1.tr s2) I))
theorem evMul {l r pos x y} (ha : EvI c m l x) (hb : EvI c m r y) (ho : IntMulOk x y) : EvI c m (.BinOp l .Mult r pos) (x * y) :=
  .mkV fun I k => wpAny_BinOp (ha.v I fun _ _ _ _ s1 I => hb.v I fun _ _ _ _ s2 I => mul_int (k _ _ _ _ (s1.tr s2) I) ho)
theorem evOr {l r pos x y} (ha : EvI c m l x) (hb : EvI c m r y) : EvI c m (.BinOp l .BitOr r pos) (Builtin.bitOr x y) :=
  .mkV fun I k => wpAny_BinOp (ha.v I fun _ _ _ _ s1 I => hb.v I fun _ _ _ _ s2 I => or_int (k _ _ _ _ (s1.tr s2) I))
theorem evShl {l r pos x y} (ha : EvI c m l x) (hb : EvI c m r y) (h0 : decide (0 ≤ y ∧ y ≤ 1000000) = true) (h1 : x.natAbs < 2 ^ 64) : EvI c m (.BinOp l .LShift r pos) (x * 2 ^ y.toNat) :=
  .mkV fun I k => wpAny_BinOp (ha.v I fun _ _ _ _ s1 I => hb.v I fun _ _ _ _ s2 I => lshift_int_small (of_decide_eq_true h0).1 (of_decide_eq_true h0).2 h1 (k _ _ _ _ (s1.tr s2) I))
/-- a comparison of two values -/
structure Cp (op : CmpOp) (x y : Tok → Value) (b : Bool) : Prop where
  out : ∀ {prog : Program} {w : World} {A : Around} {E : Value → Shared → Prop} {s : Shared} {t u : Tok} {Q : Value → Shared → Prop},
    Q (.bool b) s → wpAny (model prog w) A (compareOp op (x t) (y u)) Q E s
theorem cpEq {x y} : Cp .Eq (fun t => .int x t) (fun t => .int y t) (x == y) := ⟨eq_int⟩
theorem cpNe {x y} : Cp .NotEq (fun t => .int x t) (fun t => .int y t) (x != y) := ⟨ne_int⟩
theorem cpLt {x y} : Cp .Lt (fun t => .int x t) (fun t => .int y t) (decide (x < y)) := ⟨lt_int⟩
theorem cpGt {x y} : Cp .Gt (fun t => .int x t) (fun t => .int y t) (decide (y < x)) := ⟨gt_int⟩
theorem cpLe {x y} : Cp .LtE (fun t => .int x t) (fun t => .int y t) (decide (x ≤ y)) := ⟨le_int⟩
theorem cpNeB {x y} : Cp .NotEq (fun _ => .bool x) (fun _ => .bool y) (x != y) := ⟨ne_bool⟩
theorem cpEqS {x y u} : Cp .Eq (fun _ => .str x u) (fun t => .str y t) (x == y) := ⟨eq_str⟩
theorem cpNeS {x y u} : Cp .NotEq (fun _ => .str x u) (fun t => .str y t) (x != y) := ⟨ne_str⟩
theorem evCmp {l op r pos x y b} (ha : Ev c m l x) (hb : Ev c m r y) (hc : Cp op x y b) (hbm : behindInMarks op r = false) : EvB c m (.Compare l [op] [r] pos) b :=
  .mkV fun I k => wpAny_Compare1 (ha.v I fun _ _ _ _ s1 I => hb.v I fun _ _ _ _ s2 I => hc.out (k default _ _ _ (s1.tr s2) I)) hbm
theorem isCmp {l op r pos x y b} (ha : Ev c m l x) (hb : Ev c m r y) (hc : Cp op x y b) (hbm : behindInMarks op r = false) : IsW c m (.Compare l [op] [r] pos) b :=
  ⟨fun I k => wpAny_isTrue_Compare1 (ha.v I fun _ _ _ _ s1 I => hb.v I fun _ _ _ _ s2 I => hc.out (wpAny_truthy_bool (k _ _ _ (s1.tr s2) I))) hbm⟩
theorem evChain {l o1 o2 r1 r2 pos x y z b1 b2} (ha : Ev c m l x) (h1 : Ev c m r1 y) (h2 : Ev c m r2 z) (hc1 : Cp o1 x y b1) (hc2 : Cp o2 y z b2)
    (hbm : lastMarks [o1, o2] [r1, r2] = false) : EvB c m (.Compare l [o1, o2] [r1, r2] pos) (b1 && b2) :=
  .mkV fun I k => Compare_chain (ha.v I fun _ _ _ _ s1 I => chain_link (h1.v I fun _ _ _ _ s2 I => hc1.out (wpAny_truthy_bool (by
    cases b1 with
    | true => exact chain_last (h2.v I fun _ _ _ _ s3 I => hc2.out (k default _ _ _ ((s1.tr s2).tr s3) I))
    | false => exact k default _ _ _ (s1.tr s2) I)))) hbm
/-- written ints -/
inductive Ks : List PySem.Expr → List Int → Prop
  | nil : Ks [] []
  | cons {i k pos es is} : Ks es is → Ks (.Constant (.int i) k pos :: es) (i :: is)
theorem ksEval {M : Model} {A : Around} {E : Value → Shared → Prop} {env : Env} {pos : Pos} {es : List PySem.Expr} {is : List Int} (K : Ks es is) : ∀ {s : Shared} {Q : List Value → Shared → Prop},
    (∀ vs tk', IntsAre vs is → vs.length = is.length → Q vs { s with toks := tk' }) → wpAny M A (spliced (backTo pos (starEach es env))) Q E s := by
  induction K with
  | nil => intro s Q k; exact args_nil (k [] _ .nil rfl)
  | cons _ ih => intro s Q k; exact args_cons (wpAny_Constant_int (ih fun vs tk' h l => k _ _ (.cons _ _ h) (congrArg (· + 1) l)))
theorem szLe {α β : Type} {vs : List α} {is : List β} (hn : vs.length = is.length) (hl : decide (is.length ≤ 20) = true) : vs.length ≤ sizeLine :=
  Nat.le_trans (hn ▸ of_decide_eq_true hl) (by decide)
/-- a comparison with a tuple of written ints -/
structure Cn (op : CmpOp) (is : List Int) (x : Int) (b : Bool) : Prop where
  out : ∀ {prog : Program} {w : World} {A : Around} {E : Value → Shared → Prop} {s : Shared} {t : Addr} {items : Array Value} {u : Tok} {Q : Value → Shared → Prop},
    IsTup s.heap t items → IntsAre items.toList is → Q (.bool b) s → wpAny (model prog w) A (compareOp op (.int x u) (.ref t)) Q E s
theorem cnIn {is x} : Cn .In is x (is.any fun z => z == x) := ⟨in_tuple_ints⟩
theorem cnNot {is x} : Cn .NotIn is x (!is.any fun z => z == x) := ⟨notin_tuple_ints⟩
theorem evIn {l op es is kk tpos pos x b} (ha : EvI c m l x) (K : Ks es is) (hc : Cn op is x b) (hl : decide (is.length ≤ 20) = true) (hbm : behindInMarks op (.Tuple es kk tpos) = false) : EvB c m (.Compare l [op] [.Tuple es kk tpos] pos) b :=
  .mkV fun I k => wpAny_Compare1 (ha.v I fun _ _ _ _ s1 I => Tuple_ (ksEval K fun vs _ hi hn => kup_newTuple I.F I.N (fun D h' F' N' _ =>
    hc.out (News.isTup N' (.head _)) (by simpa using hi) (k default _ _ _ (s1.tr (Sub.tl Sub.refl')) ⟨F', N', I.sub.tl⟩)) (szLe hn hl))) hbm
theorem isIn {l op es is kk tpos pos x b} (ha : EvI c m l x) (K : Ks es is) (hc : Cn op is x b) (hl : decide (is.length ≤ 20) = true) (hbm : behindInMarks op (.Tuple es kk tpos) = false) : IsW c m (.Compare l [op] [.Tuple es kk tpos] pos) b :=
  ⟨fun I k => wpAny_isTrue_Compare1 (ha.v I fun _ _ _ _ s1 I => Tuple_ (ksEval K fun vs _ hi hn => kup_newTuple I.F I.N (fun D h' F' N' _ =>
    hc.out (News.isTup N' (.head _)) (by simpa using hi) (wpAny_truthy_bool (k _ _ _ (s1.tr (Sub.tl Sub.refl')) ⟨F', N', I.sub.tl⟩))) (szLe hn hl))) hbm⟩
theorem isW {e b} (h : IsW c m e b) : IsT c m e b := ⟨fun I k => h.out I k⟩
theorem isName {x pos b} (hm : m x = some (.bool b)) (hkd : c.env.kindOf x = some .local) (hd : (x == Str.ofString "__debug__") = false) : IsT c m (.Name x pos) b :=
  ⟨fun I k => isTrue_plain (nameX_L I.F hm (wpAny_truthy_bool (k _ _ _ Sub.refl' I)) c.hk hkd hd)⟩
theorem isCall {f as pos b} (h : EvB c m (.Call f as [] pos) b) : IsT c m (.Call f as [] pos) b :=
  ⟨fun I k => isTrue_plain (h.v I fun _ _ _ _ s1 I => wpAny_truthy_bool (k _ _ _ s1 I))⟩
theorem isNot {x pos b} (h : IsT c m x b) : IsW c m (.UnaryOp .Not x pos) (!b) := ⟨fun I k => isTrue_not (h.out I k)⟩
theorem evNot {x pos b} (h : EvB c m x b) : EvB c m (.UnaryOp .Not x pos) (!b) := .mkV fun I k => UnaryOp_ (h.v I fun _ _ _ _ s1 I => fun _ _ _ => k default _ _ _ s1 I)
theorem isAnd {x y rest pos b1 b2} (h1 : IsT c m x b1) (h2 : IsW c m (.BoolOp .And (y :: rest) pos) b2) : IsW c m (.BoolOp .And (x :: y :: rest) pos) (b1 && b2) :=
  ⟨fun I k => isTrue_and (h1.out I fun _ _ _ s1 I => by cases b1 with | true => exact h2.out I fun _ _ _ s2 I => k _ _ _ (s1.tr s2) I | false => exact k _ _ _ s1 I)⟩
theorem isAnd1 {x pos b} (h1 : IsT c m x b) : IsW c m (.BoolOp .And [x] pos) b :=
  ⟨fun I k => isTrue_and (h1.out I fun _ _ _ s1 I => by cases b with | true => exact isTrue_and_nil (k _ _ _ s1 I) | false => exact k _ _ _ s1 I)⟩
theorem isOr {x y rest pos b1 b2} (h1 : IsT c m x b1) (h2 : IsW c m (.BoolOp .Or (y :: rest) pos) b2) : IsW c m (.BoolOp .Or (x :: y :: rest) pos) (b1 || b2) :=
  ⟨fun I k => isTrue_or (h1.out I fun _ _ _ s1 I => by cases b1 with | false => exact h2.out I fun _ _ _ s2 I => k _ _ _ (s1.tr s2) I | true => exact k _ _ _ s1 I)⟩
theorem isOr1 {x pos b} (h1 : IsT c m x b) : IsW c m (.BoolOp .Or [x] pos) b :=
  ⟨fun I k => isTrue_or (h1.out I fun _ _ _ s1 I => by cases b with | false => exact isTrue_or_nil (k _ _ _ s1 I) | true => exact k _ _ _ s1 I)⟩
theorem evBAnd {x y rest pos b1 b2} (h1 : EvB c m x b1) (h2 : EvB c m (.BoolOp .And (y :: rest) pos) b2) : EvB c m (.BoolOp .And (x :: y :: rest) pos) (b1 && b2) :=
  .mkV fun I k => BoolOp_and (h1.v I fun _ _ _ _ s1 I => wpAny_truthy_bool (by cases b1 with | true => exact h2.v I fun t _ _ _ s2 I => k t _ _ _ (s1.tr s2) I | false => exact k default _ _ _ s1 I))
theorem evBOr {x y rest pos b1 b2} (h1 : EvB c m x b1) (h2 : EvB c m (.BoolOp .Or (y :: rest) pos) b2) : EvB c m (.BoolOp .Or (x :: y :: rest) pos) (b1 || b2) :=
  .mkV fun I k => BoolOp_or (h1.v I fun _ _ _ _ s1 I => wpAny_truthy_bool (by cases b1 with | false => exact h2.v I fun t _ _ _ s2 I => k t _ _ _ (s1.tr s2) I | true => exact k default _ _ _ s1 I))
theorem evB1 {op x pos b} (h1 : EvB c m x b) : EvB c m (.BoolOp op [x] pos) b := .mkV fun I k => BoolOp_one (h1.v I k)
theorem evIfP {t x y pos b P} (ht : IsT c m t b) (h1 : b = true → EvP c m x P) (h2 : b = false → EvP c m y P) : EvP c m (.IfExp t x y pos) P :=
  ⟨fun I k => IfExp_ (ht.out I fun _ _ _ s1 I => by
    cases b with
    | true => exact (h1 rfl).out I fun v led n h tk p s2 s3 I => k v led n h tk p s2 (s1.tr s3) I
    | false => exact (h2 rfl).out I fun v led n h tk p s2 s3 I => k v led n h tk p s2 (s1.tr s3) I)⟩
theorem evIf {t x y pos b i j} (ht : IsT c m t b) (h1 : EvI c m x i) (h2 : EvI c m y j) : EvI c m (.IfExp t x y pos) (bif b then i else j) :=
  evIfP ht (fun e => by subst e; exact h1) (fun e => by subst e; exact h2)
theorem evIfB {t x y pos b i j} (ht : IsT c m t b) (h1 : EvB c m x i) (h2 : EvB c m y j) : EvB c m (.IfExp t x y pos) (bif b then i else j) :=
  evIfP ht (fun e => by subst e; exact h1) (fun e => by subst e; exact h2)
theorem exRet {e pos rest P} (h : EvP c m e P) : Ex c m (.Return (some e) pos :: rest) P :=
  ⟨fun I k => wpAny_execs_cons (wpAny_Return_some (h.out I fun v led n h tk p s2 s3 I => k v led n h tk m p s2 s3 I))⟩
theorem exIfP {t body pos rest b P} (ht : IsT c m t b) (h1 : b = true → Ex c m body P) (h2 : b = false → Ex c m rest P) : Ex c m (.If t body [] pos :: rest) P :=
  ⟨fun I k => wpAny_execs_cons (wpAny_If (ht.out I fun _ _ _ s1 I => by
    cases b with
    | true => exact (h1 rfl).out I fun v led n h tk m' p s2 s3 I => k v led n h tk m' p s2 (s1.tr s3) I
    | false => exact wpAny_execs_nil ((h2 rfl).out I fun v led n h tk m' p s2 s3 I => k v led n h tk m' p s2 (s1.tr s3) I)))⟩
theorem exIf {t body pos rest b i j} (ht : IsT c m t b) (h1 : Ex c m body (Vt fun t => .int i t)) (h2 : Ex c m rest (Vt fun t => .int j t)) : Ex c m (.If t body [] pos :: rest) (Vt fun t => .int (bif b then i else j) t) :=
  exIfP ht (fun e => by subst e; exact h1) (fun e => by subst e; exact h2)
theorem exIfB {t body pos rest b i j} (ht : IsT c m t b) (h1 : Ex c m body (Vt fun _ => .bool i)) (h2 : Ex c m rest (Vt fun _ => .bool j)) : Ex c m (.If t body [] pos :: rest) (Vt fun _ => .bool (bif b then i else j)) :=
  exIfP ht (fun e => by subst e; exact h1) (fun e => by subst e; exact h2)
abbrev mUp (m : Str → Option Value) (x : Str) (v : Value) : Str → Option Value := fun y => if y = x then some v else m y
theorem exMore {led : CbLed} {ss P} (h : Ex (c.more led) m ss P) {news : CbLed} {s : Shared} {Q : Flow → Shared → Prop} (hl : Sub led news) (I : At c m s.heap news)
    (k : ∀ v led news' h' tk' m', P v led → Sub led news' → Sub news news' → At c m' h' news' → Q (.ret v) { s with heap := h', toks := tk' }) : wpAny (model c.prog c.w) c.A (execs ss c.env) Q c.E s :=
  h.out (c := c.more led) ⟨I.F, I.N, Sub.app hl I.sub⟩ fun v l n h tk m' p s2 s3 I => k v l n h tk m' p s2 s3 ⟨I.F, I.N, Sub.r I.sub⟩
/-- x = e -/
theorem exAsg {x p1 e pos rest P R} (h : EvP c m e P) (hkd : c.env.kindOf x = some .local) (hs : swapsWith e (some (.Name x p1)) pos.line c.env = pure false)
    (k : ∀ v led, P v led → Ex (c.more led) (mUp m x v) rest R) : Ex c m (.Assign [.Name x p1] e pos :: rest) R :=
  ⟨fun I q => wpAny_execs_cons (wpAny_Assign_Name (h.out I fun v led n h tk p s2 s3 I => storeX_L I.F I.N (fun h' F N => exMore (k v led p) s2 ⟨F, N, I.sub⟩ fun v l n h tk m' p s4 s5 I => q v l n h tk m' p s4 (s3.tr s5) I) c.hk hkd) hs)⟩
theorem exAsgV {x p1 e pos rest v R} (h : Ev c m e v) (hkd : c.env.kindOf x = some .local) (hs : swapsWith e (some (.Name x p1)) pos.line c.env = pure false)
    (k : ∀ t, Ex c (mUp m x (v t)) rest R) : Ex c m (.Assign [.Name x p1] e pos :: rest) R :=
  exAsg h hkd hs fun v led p => by obtain ⟨rfl, t, rfl⟩ := p; exact k t
theorem exAsg2 {n1 n2 p1 p2 kk tpos e1 e2 k2 tpos2 pos v1 v2 rest P}
    (h1 : Ev c m e1 v1) (h2 : Ev c m e2 v2)
    (hA : c.A.handled = none) (d1 : c.env.kindOf n1 = some .local) (d2 : c.env.kindOf n2 = some .local)
    (hs : swapsWithSole [.Tuple [.Name n1 p1, .Name n2 p2] kk tpos] (.Tuple [e1, e2] k2 tpos2) pos.line c.env = pure false)
    (hw : swappedStores [.Tuple [.Name n1 p1, .Name n2 p2] kk tpos] (.Tuple [e1, e2] k2 tpos2) c.env = pure (some [n1, n2]))
    (he1 : starEach [e1, e2] c.env = (false, eval e1 c.env) :: starEach [e2] c.env) (he2 : starEach [e2] c.env = (false, eval e2 c.env) :: starEach [] c.env)
    (k : ∀ t1 t2, Ex c (mUp (mUp m n2 (v2 t2)) n1 (v1 t1)) rest P) :
    Ex c m (.Assign [.Tuple [.Name n1 p1, .Name n2 p2] kk tpos] (.Tuple [e1, e2] k2 tpos2) pos :: rest) P :=
  ⟨fun I q => by
    refine wpAny_execs_cons (Assign_Tuple_swapped (names := [n1, n2]) ?_ hs hw)
    refine Tuple_ (args_cons (h1.v I fun t1 _ _ _ s1 I => args_cons (h2.v I fun t2 _ _ _ s2 I => args_nil ?_) he2) he1)
    refine kup_newTuple I.F I.N (fun D h' F N _ => ?_) (show 2 ≤ sizeLine by decide)
    refine unpackItemsN_ F N (News.isTup N (.head _)) hA rfl fun h' F N => ?_
    refine assignInOrder_cons (bindName_ (storeX_L F N (fun h' F N => ?_) c.hk d2))
    refine assignInOrder_cons (bindName_ (storeX_L F N (fun h' F N => ?_) c.hk d1))
    exact assignInOrder_nil ((k t1 t2).out ⟨F, N, I.sub.tl⟩ fun v l n h tk m' p s4 s5 I => q v l n h tk m' p s4 (((s1.tr s2).tr (Sub.tl Sub.refl')).tr s5) I)⟩
theorem exAsg3 {n1 n2 n3 p1 p2 p3 kk tpos e1 e2 e3 k2 tpos2 pos v1 v2 v3 rest P}
    (h1 : Ev c m e1 v1) (h2 : Ev c m e2 v2) (h3 : Ev c m e3 v3)
    (hA : c.A.handled = none) (d1 : c.env.kindOf n1 = some .local) (d2 : c.env.kindOf n2 = some .local) (d3 : c.env.kindOf n3 = some .local)
    (hs : swapsWithSole [.Tuple [.Name n1 p1, .Name n2 p2, .Name n3 p3] kk tpos] (.Tuple [e1, e2, e3] k2 tpos2) pos.line c.env = pure false)
    (hw : swappedStores [.Tuple [.Name n1 p1, .Name n2 p2, .Name n3 p3] kk tpos] (.Tuple [e1, e2, e3] k2 tpos2) c.env = pure (some [n1, n2, n3]))
    (he1 : starEach [e1, e2, e3] c.env = (false, eval e1 c.env) :: starEach [e2, e3] c.env) (he2 : starEach [e2, e3] c.env = (false, eval e2 c.env) :: starEach [e3] c.env) (he3 : starEach [e3] c.env = (false, eval e3 c.env) :: starEach [] c.env)
    (k : ∀ t1 t2 t3, Ex c (mUp (mUp (mUp m n3 (v3 t3)) n2 (v2 t2)) n1 (v1 t1)) rest P) :
    Ex c m (.Assign [.Tuple [.Name n1 p1, .Name n2 p2, .Name n3 p3] kk tpos] (.Tuple [e1, e2, e3] k2 tpos2) pos :: rest) P :=
  ⟨fun I q => by
    refine wpAny_execs_cons (Assign_Tuple_swapped (names := [n1, n2, n3]) ?_ hs hw)
    refine Tuple_ (args_cons (h1.v I fun t1 _ _ _ s1 I => args_cons (h2.v I fun t2 _ _ _ s2 I => args_cons (h3.v I fun t3 _ _ _ s3 I => args_nil ?_) he3) he2) he1)
    refine kup_newTuple I.F I.N (fun D h' F N _ => ?_) (show 3 ≤ sizeLine by decide)
    refine unpackItemsN_ F N (News.isTup N (.head _)) hA rfl fun h' F N => ?_
    refine assignInOrder_cons (bindName_ (storeX_L F N (fun h' F N => ?_) c.hk d3))
    refine assignInOrder_cons (bindName_ (storeX_L F N (fun h' F N => ?_) c.hk d2))
    refine assignInOrder_cons (bindName_ (storeX_L F N (fun h' F N => ?_) c.hk d1))
    exact assignInOrder_nil ((k t1 t2 t3).out ⟨F, N, I.sub.tl⟩ fun v l n h tk m' p s4 s5 I => q v l n h tk m' p s4 ((((s1.tr s2).tr s3).tr (Sub.tl Sub.refl')).tr s5) I)⟩
/-- rows of values -/
def Nil : List Value → CbLed → Prop := fun vs led => vs = [] ∧ led = []
def Con (P : Value → CbLed → Prop) (R : List Value → CbLed → Prop) : List Value → CbLed → Prop := fun vs led => ∃ v r l1 l2, vs = v :: r ∧ P v l1 ∧ R r l2 ∧ led = l1 ++ l2
theorem lsNil : LsP c m [] Nil := ⟨fun I k => args_nil (k [] [] _ _ _ ⟨rfl, rfl⟩ Sub.no Sub.refl' I)⟩
theorem lsCons {e es P R} (h : EvP c m e P) (he : starEach (e :: es) c.env = (false, eval e c.env) :: starEach es c.env) (hr : LsP c m es R) : LsP c m (e :: es) (Con P R) :=
  ⟨fun I k => args_cons (h.out I fun v l1 _ _ _ p s1 s2 I => hr.out I fun vs l2 _ _ _ q s3 s4 I => k _ _ _ _ _ ⟨v, vs, l1, l2, rfl, p, q, rfl⟩ (Sub.app (s1.tr s4) s3) (s2.tr s4) I) he⟩
/-- f(e, ...): the callee's name is the text's own -/
theorem evCall {f pf e es pos g P R} (hg : nsIn c.K mainGlobals f = some (some g)) (hkd : c.env.kindOf f = some .globalImplicit) (hd : (f == Str.ofString "__debug__") = false)
    (hkp : keepIn c.K g = true) (he : starEach (e :: es) c.env = (false, eval e c.env) :: starEach es c.env) (hst : ((backTo pos (starEach es c.env)).any fun x => x.1) = false)
    (hc : eval (.Call (.Name f pf) (e :: es) [] pos) c.env = (do
          let d ← eval (.Name f pf) c.env
          callWith pos d [] (backTo pos (starEach (e :: es) c.env)) (backToKw pos (keywordEach [] c.env))))
    (ha : LsP c m (e :: es) R) (h : ∀ vs led, R vs led → CallP (c.more led) m g vs P) : EvP c m (.Call (.Name f pf) (e :: es) [] pos) P :=
  ⟨fun I k => Call_ (nameX_K I.F c.X c.TR hg (callWith_K c.X hkp (ha.out I fun vs led _ _ _ r s1 s2 I => ⟨Frag.In.keeps c.X (Fr.keep I.F),
    (h vs led r).out (c := c.more led) ⟨I.F, I.N, Sub.app s1 I.sub⟩ fun v l n h tk p s3 s4 I => k v l n h tk p s3 (s2.tr s4) ⟨I.F, I.N, Sub.r I.sub⟩⟩) he hst) c.hk hkd hd) hc⟩
theorem call1 {f pf e1 pos g P v1} (hg : nsIn c.K mainGlobals f = some (some g)) (hkd : c.env.kindOf f = some .globalImplicit) (hd : (f == Str.ofString "__debug__") = false)
    (hkp : keepIn c.K g = true) (he1 : starEach [e1] c.env = (false, eval e1 c.env) :: starEach [] c.env) (hst : ((backTo pos (starEach [] c.env)).any fun x => x.1) = false)
    (hc : eval (.Call (.Name f pf) [e1] [] pos) c.env = (do
          let d ← eval (.Name f pf) c.env
          callWith pos d [] (backTo pos (starEach [e1] c.env)) (backToKw pos (keywordEach [] c.env))))
    (h1 : Ev c m e1 v1) (h : ∀ t1, CallP c m g [v1 t1] P) : EvP c m (.Call (.Name f pf) [e1] [] pos) P :=
  evCall hg hkd hd hkp he1 hst hc (lsCons h1 he1 lsNil) (by rintro _ _ ⟨_, _, _, _, rfl, ⟨rfl, t1, rfl⟩, ⟨rfl, rfl⟩, rfl⟩; exact h t1)
theorem call2 {f pf e1 e2 pos g P v1 v2} (hg : nsIn c.K mainGlobals f = some (some g)) (hkd : c.env.kindOf f = some .globalImplicit) (hd : (f == Str.ofString "__debug__") = false)
    (hkp : keepIn c.K g = true) (he1 : starEach [e1, e2] c.env = (false, eval e1 c.env) :: starEach [e2] c.env) (he2 : starEach [e2] c.env = (false, eval e2 c.env) :: starEach [] c.env) (hst : ((backTo pos (starEach [e2] c.env)).any fun x => x.1) = false)
    (hc : eval (.Call (.Name f pf) [e1, e2] [] pos) c.env = (do
          let d ← eval (.Name f pf) c.env
          callWith pos d [] (backTo pos (starEach [e1, e2] c.env)) (backToKw pos (keywordEach [] c.env))))
    (h1 : Ev c m e1 v1) (h2 : Ev c m e2 v2) (h : ∀ t1 t2, CallP c m g [v1 t1, v2 t2] P) : EvP c m (.Call (.Name f pf) [e1, e2] [] pos) P :=
  evCall hg hkd hd hkp he1 hst hc (lsCons h1 he1 (lsCons h2 he2 lsNil)) (by rintro _ _ ⟨_, _, _, _, rfl, ⟨rfl, t1, rfl⟩, ⟨_, _, _, _, rfl, ⟨rfl, t2, rfl⟩, ⟨rfl, rfl⟩, rfl⟩, rfl⟩; exact h t1 t2)
theorem call3 {f pf e1 e2 e3 pos g P v1 v2 v3} (hg : nsIn c.K mainGlobals f = some (some g)) (hkd : c.env.kindOf f = some .globalImplicit) (hd : (f == Str.ofString "__debug__") = false)
    (hkp : keepIn c.K g = true) (he1 : starEach [e1, e2, e3] c.env = (false, eval e1 c.env) :: starEach [e2, e3] c.env) (he2 : starEach [e2, e3] c.env = (false, eval e2 c.env) :: starEach [e3] c.env) (he3 : starEach [e3] c.env = (false, eval e3 c.env) :: starEach [] c.env) (hst : ((backTo pos (starEach [e2, e3] c.env)).any fun x => x.1) = false)
    (hc : eval (.Call (.Name f pf) [e1, e2, e3] [] pos) c.env = (do
          let d ← eval (.Name f pf) c.env
          callWith pos d [] (backTo pos (starEach [e1, e2, e3] c.env)) (backToKw pos (keywordEach [] c.env))))
    (h1 : Ev c m e1 v1) (h2 : Ev c m e2 v2) (h3 : Ev c m e3 v3) (h : ∀ t1 t2 t3, CallP c m g [v1 t1, v2 t2, v3 t3] P) : EvP c m (.Call (.Name f pf) [e1, e2, e3] [] pos) P :=
  evCall hg hkd hd hkp he1 hst hc (lsCons h1 he1 (lsCons h2 he2 (lsCons h3 he3 lsNil))) (by rintro _ _ ⟨_, _, _, _, rfl, ⟨rfl, t1, rfl⟩, ⟨_, _, _, _, rfl, ⟨rfl, t2, rfl⟩, ⟨_, _, _, _, rfl, ⟨rfl, t3, rfl⟩, ⟨rfl, rfl⟩, rfl⟩, rfl⟩, rfl⟩; exact h t1 t2 t3)
theorem call4 {f pf e1 e2 e3 e4 pos g P v1 v2 v3 v4} (hg : nsIn c.K mainGlobals f = some (some g)) (hkd : c.env.kindOf f = some .globalImplicit) (hd : (f == Str.ofString "__debug__") = false)
    (hkp : keepIn c.K g = true) (he1 : starEach [e1, e2, e3, e4] c.env = (false, eval e1 c.env) :: starEach [e2, e3, e4] c.env) (he2 : starEach [e2, e3, e4] c.env = (false, eval e2 c.env) :: starEach [e3, e4] c.env) (he3 : starEach [e3, e4] c.env = (false, eval e3 c.env) :: starEach [e4] c.env) (he4 : starEach [e4] c.env = (false, eval e4 c.env) :: starEach [] c.env) (hst : ((backTo pos (starEach [e2, e3, e4] c.env)).any fun x => x.1) = false)
    (hc : eval (.Call (.Name f pf) [e1, e2, e3, e4] [] pos) c.env = (do
          let d ← eval (.Name f pf) c.env
          callWith pos d [] (backTo pos (starEach [e1, e2, e3, e4] c.env)) (backToKw pos (keywordEach [] c.env))))
    (h1 : Ev c m e1 v1) (h2 : Ev c m e2 v2) (h3 : Ev c m e3 v3) (h4 : Ev c m e4 v4) (h : ∀ t1 t2 t3 t4, CallP c m g [v1 t1, v2 t2, v3 t3, v4 t4] P) : EvP c m (.Call (.Name f pf) [e1, e2, e3, e4] [] pos) P :=
  evCall hg hkd hd hkp he1 hst hc (lsCons h1 he1 (lsCons h2 he2 (lsCons h3 he3 (lsCons h4 he4 lsNil)))) (by rintro _ _ ⟨_, _, _, _, rfl, ⟨rfl, t1, rfl⟩, ⟨_, _, _, _, rfl, ⟨rfl, t2, rfl⟩, ⟨_, _, _, _, rfl, ⟨rfl, t3, rfl⟩, ⟨_, _, _, _, rfl, ⟨rfl, t4, rfl⟩, ⟨rfl, rfl⟩, rfl⟩, rfl⟩, rfl⟩, rfl⟩; exact h t1 t2 t3 t4)
theorem call5 {f pf e1 e2 e3 e4 e5 pos g P v1 v2 v3 v4 v5} (hg : nsIn c.K mainGlobals f = some (some g)) (hkd : c.env.kindOf f = some .globalImplicit) (hd : (f == Str.ofString "__debug__") = false)
    (hkp : keepIn c.K g = true) (he1 : starEach [e1, e2, e3, e4, e5] c.env = (false, eval e1 c.env) :: starEach [e2, e3, e4, e5] c.env) (he2 : starEach [e2, e3, e4, e5] c.env = (false, eval e2 c.env) :: starEach [e3, e4, e5] c.env) (he3 : starEach [e3, e4, e5] c.env = (false, eval e3 c.env) :: starEach [e4, e5] c.env) (he4 : starEach [e4, e5] c.env = (false, eval e4 c.env) :: starEach [e5] c.env) (he5 : starEach [e5] c.env = (false, eval e5 c.env) :: starEach [] c.env) (hst : ((backTo pos (starEach [e2, e3, e4, e5] c.env)).any fun x => x.1) = false)
    (hc : eval (.Call (.Name f pf) [e1, e2, e3, e4, e5] [] pos) c.env = (do
          let d ← eval (.Name f pf) c.env
          callWith pos d [] (backTo pos (starEach [e1, e2, e3, e4, e5] c.env)) (backToKw pos (keywordEach [] c.env))))
    (h1 : Ev c m e1 v1) (h2 : Ev c m e2 v2) (h3 : Ev c m e3 v3) (h4 : Ev c m e4 v4) (h5 : Ev c m e5 v5) (h : ∀ t1 t2 t3 t4 t5, CallP c m g [v1 t1, v2 t2, v3 t3, v4 t4, v5 t5] P) : EvP c m (.Call (.Name f pf) [e1, e2, e3, e4, e5] [] pos) P :=
  evCall hg hkd hd hkp he1 hst hc (lsCons h1 he1 (lsCons h2 he2 (lsCons h3 he3 (lsCons h4 he4 (lsCons h5 he5 lsNil))))) (by rintro _ _ ⟨_, _, _, _, rfl, ⟨rfl, t1, rfl⟩, ⟨_, _, _, _, rfl, ⟨rfl, t2, rfl⟩, ⟨_, _, _, _, rfl, ⟨rfl, t3, rfl⟩, ⟨_, _, _, _, rfl, ⟨rfl, t4, rfl⟩, ⟨_, _, _, _, rfl, ⟨rfl, t5, rfl⟩, ⟨rfl, rfl⟩, rfl⟩, rfl⟩, rfl⟩, rfl⟩, rfl⟩; exact h t1 t2 t3 t4 t5)
theorem exAsgI {x p1 e pos rest n R} (h : EvI c m e n) (hkd : c.env.kindOf x = some .local) (hs : swapsWith e (some (.Name x p1)) pos.line c.env = pure false)
    (k : ∀ t, Ex c (mUp m x (.int n t)) rest R) : Ex c m (.Assign [.Name x p1] e pos :: rest) R := exAsgV h hkd hs k
end
theorem ex_use {prog : Program} {w : World} {A : Around} {E : Value → Shared → Prop} {h₀ : Heap} {L : Addr} {cn : Str} {cs : Scope} {a : Addr} {ccd : Value} {cl : List (Str × Addr)} {m : Str → Option Value} {ss : List Stmt} {news : CbLed} {s : Shared} {Q : Flow → Shared → Prop}
    {K : Frag} {p : Program} {loose : List Str} {mg mb : Str → Option Value} (base : CbLed) (P : Value → CbLed → Prop)
    (hk : cs.kind = .function) (X : K.In h₀) (TR : TopRead p loose mg mb h₀) (F : Fr h₀ L s.heap m) (N : News h₀ L s.heap news) (hb : Sub base news) (H : Ex ⟨prog, w, A, E, h₀, L, cn, cs, a, ccd, cl, hk, K, X, p, loose, mg, mb, TR, base⟩ m ss P)
    (k : ∀ v led news' h' tk' m', P v led → Sub led news' → Sub news news' → Fr h₀ L h' m' → News h₀ L h' news' → Q (.ret v) { s with heap := h', toks := tk' }) : wpAny (model prog w) A (execs ss (envX cn cs L a ccd cl)) Q E s :=
  H.out ⟨F, N, hb⟩ fun v l n h tk m' p s2 s3 I => k v l n h tk m' p s2 s3 I.F I.N
theorem ex_use0 {prog : Program} {w : World} {A : Around} {E : Value → Shared → Prop} {h₀ : Heap} {L : Addr} {cn : Str} {cs : Scope} {a : Addr} {ccd : Value} {m : Str → Option Value} {ss : List Stmt} {news : CbLed} {s : Shared} {Q : Flow → Shared → Prop}
    {K : Frag} {p : Program} {loose : List Str} {mg mb : Str → Option Value} (base : CbLed) (P : Value → CbLed → Prop)
    (hk : cs.kind = .function) (X : K.In h₀) (TR : TopRead p loose mg mb h₀) (F : Fr h₀ L s.heap m) (N : News h₀ L s.heap news) (hb : Sub base news) (H : Ex ⟨prog, w, A, E, h₀, L, cn, cs, a, ccd, [], hk, K, X, p, loose, mg, mb, TR, base⟩ m ss P)
    (k : ∀ v led news' h' tk' m', P v led → Sub led news' → Sub news news' → Fr h₀ L h' m' → News h₀ L h' news' → Q (.ret v) { s with heap := h', toks := tk' }) : wpAny (model prog w) A (execs ss (envOf cn cs L a ccd)) Q E s :=
  H.out ⟨F, N, hb⟩ fun v l n h tk m' p s2 s3 I => k v l n h tk m' p s2 s3 I.F I.N

-- P1
def Vs (R : Str → Prop) : Value → CbLed → Prop := fun x led => led = [] ∧ ∃ u t, x = .str u t ∧ R u
def OpP (V : Int → Prop) (b : Int) : Value → CbLed → Prop := fun v led => ∃ a o, v = .ref a ∧ (a, o) ∈ led ∧ Opd V b o
def RowP (P : Value → CbLed → Prop) (n : Nat) : List Value → CbLed → Prop := fun vs led => vs.length = n ∧ ∀ v ∈ vs, ∃ l', P v l' ∧ Sub l' led
def LsOf (P : Value → CbLed → Prop) (n : Nat) : Value → CbLed → Prop := fun v led => ∃ l vs, v = .ref l ∧ (l, listOf vs.toArray 0) ∈ led ∧ RowP P n vs led
def LstP (V : Int → Prop) (b : Int) (k : Nat) : Value → CbLed → Prop := fun v led => ∃ l ops nn, v = .ref l ∧ (l, listOf ops.toArray nn) ∈ led ∧ ops.length ≤ k ∧ OpsIn led V b ops
def OrdP (V : Int → Prop) (b : Int) (k : Nat) : Value → CbLed → Prop := fun v led => ∃ r wd tw l ops nn, v = .ref r ∧ (r, ({ cls := .type "tuple", data := .seq [Value.str wd tw, Value.ref l].toArray } : Obj)) ∈ led ∧
  (l, listOf ops.toArray nn) ∈ led ∧ Plain wd ∧ ops.length ≤ k ∧ OpsIn led V b ops
section
variable {c : Cx} {m : Str → Option Value} {V : Int → Prop} {b : Int}
theorem evStrC {x k pos} : Ev c m (.Constant (.str x) k pos) fun t => .str x t := .mkV fun I k => Constant_str (k _ _ _ _ Sub.refl' ⟨I.F, I.N, I.sub⟩)
theorem esC {x k pos R} (h : R x) : EvP c m (.Constant (.str x) k pos) (Vs R) := ⟨fun I k => Constant_str (k _ [] _ _ _ ⟨rfl, _, _, rfl, h⟩ Sub.no Sub.refl' ⟨I.F, I.N, I.sub⟩)⟩
theorem esN {x pos u t R} (hm : m x = some (.str u t)) (hkd : c.env.kindOf x = some .local) (hd : (x == Str.ofString "__debug__") = false) (h : R u) : EvP c m (.Name x pos) (Vs R) :=
  ⟨fun I k => nameX_L I.F hm (k _ [] _ _ _ ⟨rfl, _, _, rfl, h⟩ Sub.no Sub.refl' I) c.hk hkd hd⟩
theorem rowNil {P} : LsP c m [] (RowP P 0) := ⟨fun I k => args_nil (k [] [] _ _ _ ⟨rfl, fun _ h => nomatch h⟩ Sub.no Sub.refl' I)⟩
theorem rowCons {e es P n} (h : EvP c m e P) (he : starEach (e :: es) c.env = (false, eval e c.env) :: starEach es c.env) (hr : LsP c m es (RowP P n)) : LsP c m (e :: es) (RowP P (n + 1)) :=
  ⟨fun I k => args_cons (h.out I fun v l1 _ _ _ p s1 s2 I => hr.out I fun vs l2 _ _ _ q s3 s4 I => k _ (l1 ++ l2) _ _ _ ⟨congrArg (· + 1) q.1, fun x hx => by
    rcases List.mem_cons.mp hx with rfl | hx
    · exact ⟨l1, p, fun y hy => List.mem_append_left _ hy⟩
    · obtain ⟨l', a, b⟩ := q.2 x hx
      exact ⟨l', a, fun y hy => List.mem_append_right _ (b y hy)⟩⟩ (Sub.app (s1.tr s4) s3) (s2.tr s4) I) he⟩
theorem listE {es pos P n} (h : LsP c m es (RowP P n)) (hn : decide (n ≤ 20) = true) : EvP c m (.List es pos) (LsOf P n) :=
  ⟨fun I k => List_ (h.out I fun vs l1 _ _ _ q s1 s2 I => newList_K I.F I.N (fun l h' F N _ => k _ ((l, listOf vs.toArray 0) :: l1) _ _ _
    ⟨l, vs, rfl, .head _, q.1, fun x hx => let ⟨l', a, b⟩ := q.2 x hx; ⟨l', a, b.tl⟩⟩ (Sub.cons (.head _) s1.tl) (s2.tr (Sub.tl Sub.refl')) ⟨F, N, I.sub.tl⟩)
    (by rw [q.1]; exact Nat.le_trans (of_decide_eq_true hn) (by decide)))⟩
theorem lstE {es pos n k} (h : LsP c m es (RowP (OpP V b) n)) (hn : decide (n ≤ k ∧ n ≤ 20) = true) : EvP c m (.List es pos) (LstP V b k) :=
  ⟨fun I k => List_ (h.out I fun vs l1 _ _ _ q s1 s2 I => newList_K I.F I.N (fun l h' F N _ => k _ ((l, listOf vs.toArray 0) :: l1) _ _ _
    ⟨l, vs, 0, rfl, .head _, by rw [q.1]; exact (of_decide_eq_true hn).1, fun x hx => let ⟨l', ⟨a, o, e, hm, ho⟩, hs⟩ := q.2 x hx; ⟨a, o, e, .tail _ (hs _ hm), ho⟩⟩ (Sub.cons (.head _) s1.tl) (s2.tr (Sub.tl Sub.refl')) ⟨F, N, I.sub.tl⟩)
    (by rw [q.1]; exact Nat.le_trans (of_decide_eq_true hn).2 (by decide)))⟩
theorem pickOf {e idx pos P n i} (h : EvP c m e (LsOf P n)) (hi : EvI c m idx i) (h0 : 0 ≤ i) (h1 : i < (n : Int)) (hn : decide (n ≤ 20) = true)
    (hs : ∀ (l : Addr) (u : Tok), subscripted idx false (.ref l) (.int i u) = operate [.ref l, .int i u] (getItem (.ref l) (.int i u))) : EvP c m (.Subscript e idx pos) P :=
  ⟨fun I k => Subscript_ (h.out I fun v l1 _ _ _ p s1 s2 I => by
    obtain ⟨l, vs, rfl, hl, hlen, hall⟩ := p
    exact hi.v I fun t _ _ _ s3 I => by
      have hlt : i.toNat < vs.length := by omega
      obtain ⟨l', hp, hsub⟩ := hall vs[i.toNat] (List.getElem_mem hlt)
      have hfit : i < 2 ^ 63 := by have := of_decide_eq_true hn; omega
      exact tail_any (News.isList I.N (s3 _ (s1 _ hl))).typeIs slot_list_getitem.lookup (wpAny_getItem_list (News.isList I.N (s3 _ (s1 _ hl))) h0 hfit (x := vs[i.toNat]) (by simp [hlt])
        (k _ l' _ _ _ hp (hsub.tr (s1.tr s3)) (s2.tr s3) I)) (hs _ _))⟩
/-- an operand: a kind and a str -/
theorem opS {k e kk pos p1 kk1} (hk : k = Str.ofString "r" ∨ k = Str.ofString "p" ∨ k = Str.ofString "f" ∨ k = Str.ofString "m") (he : EvP c m e (Vs fun _ => True))
    (hs1 : starEach [.Constant (.str k) kk1 p1, e] c.env = (false, eval (.Constant (.str k) kk1 p1) c.env) :: starEach [e] c.env) (hs2 : starEach [e] c.env = (false, eval e c.env) :: starEach [] c.env) :
    EvP c m (.Tuple [.Constant (.str k) kk1 p1, e] kk pos) (OpP V b) :=
  ⟨fun I q => Tuple_ (args_cons (Constant_str (args_cons (he.out ⟨I.F, I.N, I.sub⟩ fun v led _ _ _ p s1 s2 I => args_nil (by
    obtain ⟨rfl, u, t, rfl, -⟩ := p
    exact kup_newTuple I.F I.N (fun D h' F N _ => q _ [(D, _)] _ _ _ ⟨D, _, rfl, .head _, Opd.s hk⟩ (Sub.cons (.head _) Sub.no) (s2.tr (Sub.tl Sub.refl')) ⟨F, N, I.sub.tl⟩) (show 2 ≤ sizeLine by decide))) hs2)) hs1)⟩
theorem opN {k e kk pos p1 kk1 i} (hk : k = Str.ofString "n" ∨ k = Str.ofString "a") (he : EvI c m e i) (hV : V i)
    (hs1 : starEach [.Constant (.str k) kk1 p1, e] c.env = (false, eval (.Constant (.str k) kk1 p1) c.env) :: starEach [e] c.env) (hs2 : starEach [e] c.env = (false, eval e c.env) :: starEach [] c.env) :
    EvP c m (.Tuple [.Constant (.str k) kk1 p1, e] kk pos) (OpP V b) :=
  ⟨fun I q => Tuple_ (args_cons (Constant_str (args_cons (he.v ⟨I.F, I.N, I.sub⟩ fun t _ _ _ s2 I => args_nil (
    kup_newTuple I.F I.N (fun D h' F N _ => q _ [(D, _)] _ _ _ ⟨D, _, rfl, .head _, Opd.n hk hV⟩ (Sub.cons (.head _) Sub.no) (s2.tr (Sub.tl Sub.refl')) ⟨F, N, I.sub.tl⟩) (show 2 ≤ sizeLine by decide))) hs2)) hs1)⟩
theorem opName {x pos a o} (hm : m x = some (.ref a)) (hb : (a, o) ∈ c.base) (ho : Opd V b o) (hkd : c.env.kindOf x = some .local) (hd : (x == Str.ofString "__debug__") = false) : EvP c m (.Name x pos) (OpP V b) :=
  ⟨fun I k => nameX_L I.F hm (k _ [(a, o)] _ _ _ ⟨a, o, rfl, .head _, ho⟩ (Sub.cons (I.sub _ hb) Sub.no) Sub.refl' I) c.hk hkd hd⟩
/-- an order: a word and its operands -/
theorem ordE {w l kk pos k} (hw : EvP c m w (Vs Plain)) (hl : EvP c m l (LstP V b k))
    (hs1 : starEach [w, l] c.env = (false, eval w c.env) :: starEach [l] c.env) (hs2 : starEach [l] c.env = (false, eval l c.env) :: starEach [] c.env) :
    EvP c m (.Tuple [w, l] kk pos) (OrdP V b k) :=
  ⟨fun I q => Tuple_ (args_cons (hw.out I fun v led _ _ _ p s1 s2 I => args_cons (hl.out I fun v2 led2 _ _ _ p2 s3 s4 I => args_nil (by
    obtain ⟨rfl, u, t, rfl, hp⟩ := p
    obtain ⟨l, ops, nn, rfl, hl, hlen, hops⟩ := p2
    exact kup_newTuple I.F I.N (fun D h' F N _ => q _ ((D, _) :: led2) _ _ _ ⟨D, u, t, l, ops, nn, rfl, .head _, .tail _ hl, hp, hlen, hops.mono fun p hp => .tail _ hp⟩
      (Sub.cons (.head _) s3.tl) ((s2.tr s4).tr (Sub.tl Sub.refl')) ⟨F, N, I.sub.tl⟩) (show 2 ≤ sizeLine by decide))) hs2) hs1)⟩
theorem callVO {f pf e1 e2 pos g P v1 P2} (hg : nsIn c.K mainGlobals f = some (some g)) (hkd : c.env.kindOf f = some .globalImplicit) (hd : (f == Str.ofString "__debug__") = false)
    (hkp : keepIn c.K g = true) (he1 : starEach [e1, e2] c.env = (false, eval e1 c.env) :: starEach [e2] c.env) (he2 : starEach [e2] c.env = (false, eval e2 c.env) :: starEach [] c.env) (hst : ((backTo pos (starEach [e2] c.env)).any fun x => x.1) = false)
    (hc : eval (.Call (.Name f pf) [e1, e2] [] pos) c.env = (do
          let d ← eval (.Name f pf) c.env
          callWith pos d [] (backTo pos (starEach [e1, e2] c.env)) (backToKw pos (keywordEach [] c.env))))
    (h1 : Ev c m e1 v1) (h2 : EvP c m e2 P2) (h : ∀ t1 x led, P2 x led → CallP (c.more led) m g [v1 t1, x] P) : EvP c m (.Call (.Name f pf) [e1, e2] [] pos) P :=
  evCall hg hkd hd hkp he1 hst hc (lsCons h1 he1 (lsCons h2 he2 lsNil)) (by rintro _ _ ⟨_, _, _, _, rfl, ⟨rfl, t1, rfl⟩, ⟨_, _, _, _, rfl, p, ⟨rfl, rfl⟩, rfl⟩, rfl⟩; have q := h t1 _ _ p; rw [List.nil_append, List.append_nil]; exact q)
theorem callOV {f pf e1 e2 pos g P v2 P1} (hg : nsIn c.K mainGlobals f = some (some g)) (hkd : c.env.kindOf f = some .globalImplicit) (hd : (f == Str.ofString "__debug__") = false)
    (hkp : keepIn c.K g = true) (he1 : starEach [e1, e2] c.env = (false, eval e1 c.env) :: starEach [e2] c.env) (he2 : starEach [e2] c.env = (false, eval e2 c.env) :: starEach [] c.env) (hst : ((backTo pos (starEach [e2] c.env)).any fun x => x.1) = false)
    (hc : eval (.Call (.Name f pf) [e1, e2] [] pos) c.env = (do
          let d ← eval (.Name f pf) c.env
          callWith pos d [] (backTo pos (starEach [e1, e2] c.env)) (backToKw pos (keywordEach [] c.env))))
    (h1 : EvP c m e1 P1) (h2 : Ev c m e2 v2) (h : ∀ x led t2, P1 x led → CallP (c.more led) m g [x, v2 t2] P) : EvP c m (.Call (.Name f pf) [e1, e2] [] pos) P :=
  evCall hg hkd hd hkp he1 hst hc (lsCons h1 he1 (lsCons h2 he2 lsNil)) (by rintro _ _ ⟨_, _, _, _, rfl, p, ⟨_, _, _, _, rfl, ⟨rfl, t2, rfl⟩, ⟨rfl, rfl⟩, rfl⟩, rfl⟩; have q := h _ _ t2 p; rw [List.nil_append, List.append_nil]; exact q)
end
section
variable {c : Cx} {m : Str → Option Value} {V : Int → Prop} {b : Int}
theorem call0 {f pf pos g P} (hg : nsIn c.K mainGlobals f = some (some g)) (hkd : c.env.kindOf f = some .globalImplicit) (hd : (f == Str.ofString "__debug__") = false)
    (hkp : keepIn c.K g = true) (hc : eval (.Call (.Name f pf) [] [] pos) c.env = (do
          let d ← eval (.Name f pf) c.env
          callWith pos d [] (backTo pos (starEach [] c.env)) (backToKw pos (keywordEach [] c.env))))
    (h : CallP c m g [] P) : EvP c m (.Call (.Name f pf) [] [] pos) P :=
  ⟨fun I k => Call_ (nameX_K I.F c.X c.TR hg (callWith_K0 (Frag.In.keeps c.X (Fr.keep I.F)) hkp (h.out I k)) c.hk hkd hd) hc⟩
theorem evNone {k pos P} (h : P .none []) : EvP c m (.Constant .none k pos) P := ⟨fun I q => Constant_none (q _ [] _ _ _ h Sub.no Sub.refl' I)⟩
theorem nmP {x pos v led P} (hm : m x = some v) (p : P v led) (hb : Sub led c.base) (hkd : c.env.kindOf x = some .local) (hd : (x == Str.ofString "__debug__") = false) : EvP c m (.Name x pos) P :=
  ⟨fun I k => nameX_L I.F hm (k _ led _ _ _ p (hb.tr I.sub) Sub.refl' I) c.hk hkd hd⟩
theorem exAsgS {x p1 e pos rest P R} (h : EvP c m e (Vs R)) (hkd : c.env.kindOf x = some .local) (hs : swapsWith e (some (.Name x p1)) pos.line c.env = pure false)
    (k : ∀ u t, R u → Ex c (mUp m x (.str u t)) rest P) : Ex c m (.Assign [.Name x p1] e pos :: rest) P :=
  exAsg h hkd hs fun v led p => by obtain ⟨rfl, u, t, rfl, r⟩ := p; exact k u t r
theorem exAsgO {x p1 e pos rest P} (h : EvP c m e (OpP V b)) (hkd : c.env.kindOf x = some .local) (hs : swapsWith e (some (.Name x p1)) pos.line c.env = pure false)
    (k : ∀ a o led, (a, o) ∈ led → Opd V b o → Ex (c.more led) (mUp m x (.ref a)) rest P) : Ex c m (.Assign [.Name x p1] e pos :: rest) P :=
  exAsg h hkd hs fun v led p => by obtain ⟨a, o, rfl, hm, ho⟩ := p; exact k a o led hm ho
theorem callVVVS {f pf e1 e2 e3 e4 pos g P v1 v2 v3 R} (hg : nsIn c.K mainGlobals f = some (some g)) (hkd : c.env.kindOf f = some .globalImplicit) (hd : (f == Str.ofString "__debug__") = false)
    (hkp : keepIn c.K g = true) (he1 : starEach [e1, e2, e3, e4] c.env = (false, eval e1 c.env) :: starEach [e2, e3, e4] c.env) (he2 : starEach [e2, e3, e4] c.env = (false, eval e2 c.env) :: starEach [e3, e4] c.env)
    (he3 : starEach [e3, e4] c.env = (false, eval e3 c.env) :: starEach [e4] c.env) (he4 : starEach [e4] c.env = (false, eval e4 c.env) :: starEach [] c.env) (hst : ((backTo pos (starEach [e2, e3, e4] c.env)).any fun x => x.1) = false)
    (hc : eval (.Call (.Name f pf) [e1, e2, e3, e4] [] pos) c.env = (do
          let d ← eval (.Name f pf) c.env
          callWith pos d [] (backTo pos (starEach [e1, e2, e3, e4] c.env)) (backToKw pos (keywordEach [] c.env))))
    (h1 : Ev c m e1 v1) (h2 : Ev c m e2 v2) (h3 : Ev c m e3 v3) (h4 : EvP c m e4 (Vs R)) (h : ∀ t1 t2 t3 u t4, R u → CallP c m g [v1 t1, v2 t2, v3 t3, .str u t4] P) : EvP c m (.Call (.Name f pf) [e1, e2, e3, e4] [] pos) P :=
  evCall hg hkd hd hkp he1 hst hc (lsCons h1 he1 (lsCons h2 he2 (lsCons h3 he3 (lsCons h4 he4 lsNil)))) (by
    rintro _ _ ⟨_, _, _, _, rfl, ⟨rfl, t1, rfl⟩, ⟨_, _, _, _, rfl, ⟨rfl, t2, rfl⟩, ⟨_, _, _, _, rfl, ⟨rfl, t3, rfl⟩, ⟨_, _, _, _, rfl, ⟨rfl, u, t4, rfl, r⟩, ⟨rfl, rfl⟩, rfl⟩, rfl⟩, rfl⟩, rfl⟩
    exact h t1 t2 t3 u t4 r)
/-- an order or none -/
def OrN (V : Int → Prop) (b : Int) (k : Nat) : Value → CbLed → Prop := fun v led => v = .none ∨ OrdP V b k v led
theorem orInr {k : Nat} (v : Value) (led : CbLed) (h : OrdP V b k v led) : OrN V b k v led := .inr h
theorem row2 {vs led} (h : RowP (OpP V b) 2 vs led) : ∃ a1 o1 a2 o2, vs = [Value.ref a1, Value.ref a2] ∧ (a1, o1) ∈ led ∧ (a2, o2) ∈ led ∧ Opd V b o1 ∧ Opd V b o2 := by
  obtain ⟨hl, ha⟩ := h
  match vs, hl with
  | [x, y], _ =>
    obtain ⟨l1, ⟨a1, o1, rfl, m1, q1⟩, s1⟩ := ha x (.head _)
    obtain ⟨l2, ⟨a2, o2, rfl, m2, q2⟩, s2⟩ := ha y (.tail _ (.head _))
    exact ⟨a1, o1, a2, o2, rfl, s1 _ m1, s2 _ m2, q1, q2⟩
end
section
variable {c : Cx} {m : Str → Option Value} {V : Int → Prop} {b : Int} {k : Nat} {news : CbLed} {s : Shared} {Q : Value → Shared → Prop}
theorem ordK (k8 : ∀ v led news' h' tk', OrdP V b k v led → Sub led news' → Sub news news' → At c m h' news' → Q v { s with heap := h', toks := tk' }) (S8 : Sub c.base news) :
    ∀ (r : Addr) (wd : Str) (tw : Tok) (l : Addr) (ops : List Value) (nn : Nat) (led : CbLed) (h' : Heap) (tk' : Nat), Plain wd → ops.length ≤ k → OpsIn led V b ops → Fr c.h₀ c.L h' m →
      News c.h₀ c.L h' ((r, { cls := .type "tuple", data := .seq [Value.str wd tw, Value.ref l].toArray }) :: (l, listOf ops.toArray nn) :: (led ++ news)) → Q (.ref r) { s with heap := h', toks := tk' } :=
  fun r wd tw l ops nn led h' tk' hp hlen hops F N => k8 _ ((r, _) :: (l, _) :: led) _ _ _ ⟨r, wd, tw, l, ops, nn, rfl, .head _, .tail _ (.head _), hp, hlen, hops.mono fun p hp => .tail _ (.tail _ hp)⟩
    (Sub.cons (.head _) (Sub.cons (.tail _ (.head _)) fun p hp => .tail _ (.tail _ (List.mem_append_left _ hp)))) (fun p hp => .tail _ (.tail _ (List.mem_append_right _ hp))) ⟨F, N, fun p hp => .tail _ (.tail _ (List.mem_append_right _ (S8 p hp)))⟩
theorem opK (k8 : ∀ v led news' h' tk', OpP V b v led → Sub led news' → Sub news news' → At c m h' news' → Q v { s with heap := h', toks := tk' }) (S8 : Sub c.base news) :
    ∀ (a : Addr) (o : Obj) (h' : Heap) (tk' : Nat), (∀ V, Opd V b o) → Fr c.h₀ c.L h' m → News c.h₀ c.L h' ((a, o) :: news) → Q (.ref a) { s with heap := h', toks := tk' } :=
  fun a o h' tk' ho F N => k8 _ [(a, o)] _ _ _ ⟨a, o, rfl, .head _, ho V⟩ (Sub.cons (.head _) Sub.no) (Sub.tl Sub.refl') ⟨F, N, S8.tl⟩
theorem opK' (k8 : ∀ v led news' h' tk', OpP V b v led → Sub led news' → Sub news news' → At c m h' news' → Q v { s with heap := h', toks := tk' }) (S8 : Sub c.base news) :
    ∀ (a : Addr) (o : Obj) (h' : Heap) (tk' : Nat), (∀ V b, Opd V b o) → Fr c.h₀ c.L h' m → News c.h₀ c.L h' ((a, o) :: news) → Q (.ref a) { s with heap := h', toks := tk' } :=
  fun a o h' tk' ho F N => k8 _ [(a, o)] _ _ _ ⟨a, o, rfl, .head _, ho V b⟩ (Sub.cons (.head _) Sub.no) (Sub.tl Sub.refl') ⟨F, N, S8.tl⟩
end
def Jm1 (fs : Prop) (goal : Int) : Value → CbLed → Prop := fun v led => ∃ r wd tw l g gt gu nn, v = .ref r ∧ (r, ({ cls := .type "tuple", data := .seq [Value.str wd tw, Value.ref l].toArray } : Obj)) ∈ led ∧ (l, listOf [Value.ref g].toArray nn) ∈ led ∧
  (g, ({ cls := .type "tuple", data := .seq [Value.str (Str.ofString "n") gt, Value.int goal gu].toArray } : Obj)) ∈ led ∧ (wd = Str.ofString "JR" ∨ wd = Str.ofString "DJNZ") ∧ fs
def Jm2 (fs : Prop) (goal : Int) : Value → CbLed → Prop := fun v led => ∃ r wd tw l f g gt gu nn, v = .ref r ∧ (r, ({ cls := .type "tuple", data := .seq [Value.str wd tw, Value.ref l].toArray } : Obj)) ∈ led ∧ (l, listOf [Value.ref f, Value.ref g].toArray nn) ∈ led ∧
  (g, ({ cls := .type "tuple", data := .seq [Value.str (Str.ofString "n") gt, Value.int goal gu].toArray } : Obj)) ∈ led ∧ (wd = Str.ofString "JR" ∨ wd = Str.ofString "DJNZ") ∧ fs
/-- an order or a short jump -/
def OrdJ (V : Int → Prop) (b : Int) (k : Nat) (fs : Prop) (goal : Int) : Value → CbLed → Prop := fun v led => OrdP V b k v led ∨ Jm1 fs goal v led ∨ Jm2 fs goal v led
theorem ordJl {V : Int → Prop} {b : Int} {k : Nat} {fs : Prop} {goal : Int} (v : Value) (led : CbLed) (h : OrdP V b k v led) : OrdJ V b k fs goal v led := .inl h
section
variable {c : Cx} {m : Str → Option Value} {V : Int → Prop} {b : Int} {k : Nat} {fs fs' : Prop} {goal : Int} {news : CbLed} {s : Shared} {Q : Value → Shared → Prop}
theorem ordKJ (k8 : ∀ v led news' h' tk', OrdJ V b k fs goal v led → Sub led news' → Sub news news' → At c m h' news' → Q v { s with heap := h', toks := tk' }) (S8 : Sub c.base news) :
    ∀ (r : Addr) (wd : Str) (tw : Tok) (l : Addr) (ops : List Value) (nn : Nat) (led : CbLed) (h' : Heap) (tk' : Nat), Plain wd → ops.length ≤ k → OpsIn led V b ops → Fr c.h₀ c.L h' m →
      News c.h₀ c.L h' ((r, { cls := .type "tuple", data := .seq [Value.str wd tw, Value.ref l].toArray }) :: (l, listOf ops.toArray nn) :: (led ++ news)) → Q (.ref r) { s with heap := h', toks := tk' } :=
  ordK (fun v led n h tk p => k8 v led n h tk (.inl p)) S8
theorem j1K (k8 : ∀ v led news' h' tk', OrdJ V b k fs goal v led → Sub led news' → Sub news news' → At c m h' news' → Q v { s with heap := h', toks := tk' }) (S8 : Sub c.base news) (hf : fs' → fs) :
    ∀ (r : Addr) (wd : Str) (tw : Tok) (l g : Addr) (gt gu : Tok) (nn : Nat) (h' : Heap) (tk' : Nat), (wd = Str.ofString "JR" ∨ wd = Str.ofString "DJNZ") → fs' → Fr c.h₀ c.L h' m →
      News c.h₀ c.L h' ((r, { cls := .type "tuple", data := .seq [Value.str wd tw, Value.ref l].toArray }) :: (l, listOf [Value.ref g].toArray nn) :: (g, { cls := .type "tuple", data := .seq [Value.str (Str.ofString "n") gt, Value.int goal gu].toArray }) :: news) → Q (.ref r) { s with heap := h', toks := tk' } :=
  fun r wd tw l g gt gu nn h' tk' hw f F N => k8 _ [(r, _), (l, _), (g, _)] _ _ _ (.inr (.inl ⟨r, wd, tw, l, g, gt, gu, nn, rfl, .head _, .tail _ (.head _), .tail _ (.tail _ (.head _)), hw, hf f⟩))
    (Sub.cons (.head _) (Sub.cons (.tail _ (.head _)) (Sub.cons (.tail _ (.tail _ (.head _))) Sub.no))) (Sub.tl (Sub.tl (Sub.tl Sub.refl'))) ⟨F, N, S8.tl.tl.tl⟩
theorem j2K (k8 : ∀ v led news' h' tk', OrdJ V b k fs goal v led → Sub led news' → Sub news news' → At c m h' news' → Q v { s with heap := h', toks := tk' }) (S8 : Sub c.base news) (hf : fs' → fs) :
    ∀ (r : Addr) (wd : Str) (tw : Tok) (l f g : Addr) (gt gu : Tok) (nn : Nat) (h' : Heap) (tk' : Nat), (wd = Str.ofString "JR" ∨ wd = Str.ofString "DJNZ") → fs' → Fr c.h₀ c.L h' m →
      News c.h₀ c.L h' ((r, { cls := .type "tuple", data := .seq [Value.str wd tw, Value.ref l].toArray }) :: (l, listOf [Value.ref f, Value.ref g].toArray nn) :: (g, { cls := .type "tuple", data := .seq [Value.str (Str.ofString "n") gt, Value.int goal gu].toArray }) :: news) → Q (.ref r) { s with heap := h', toks := tk' } :=
  fun r wd tw l f g gt gu nn h' tk' hw fq F N => k8 _ [(r, _), (l, _), (g, _)] _ _ _ (.inr (.inr ⟨r, wd, tw, l, f, g, gt, gu, nn, rfl, .head _, .tail _ (.head _), .tail _ (.tail _ (.head _)), hw, hf fq⟩))
    (Sub.cons (.head _) (Sub.cons (.tail _ (.head _)) (Sub.cons (.tail _ (.tail _ (.head _))) Sub.no))) (Sub.tl (Sub.tl (Sub.tl Sub.refl'))) ⟨F, N, S8.tl.tl.tl⟩
end
theorem fzE {z : Int} {q : Prop} (h : (z == 0) = true) (f : q) : z = 0 ∧ q := ⟨by simpa using h, f⟩
theorem farL1 {n : Int} (h0 : 0 ≤ n) (h1 : n < 256) (h : ([203, 221, 237, 253].any fun x => x == n) = false) (hx : fx n = 0) (hz : (fz n == 1) = true) (hy : (Builtin.bitAnd (fy n) 1 == 1) = false) : farOctets n = 2 :=
  far2 h0 h1 h (.inl ⟨hx, by simpa using hz, by simpa using hy⟩)
theorem farL2 {n : Int} (h0 : 0 ≤ n) (h1 : n < 256) (h : ([203, 221, 237, 253].any fun x => x == n) = false) (hx : fx n = 0) (hz : (fz n == 2) = true) (hp : decide ((fy n).fdiv (2 ^ Int.toNat 1) < 2) = false) : farOctets n = 2 :=
  far2 h0 h1 h (.inr (.inl ⟨hx, by simpa using hz, (half_case (fy_rng n).1).resolve_left (of_decide_eq_false hp)⟩))
theorem callVSV {c : Cx} {m : Str → Option Value} {f pf e1 e2 e3 pos g P v1 v3 R} (hg : nsIn c.K mainGlobals f = some (some g)) (hkd : c.env.kindOf f = some .globalImplicit) (hd : (f == Str.ofString "__debug__") = false)
    (hkp : keepIn c.K g = true) (he1 : starEach [e1, e2, e3] c.env = (false, eval e1 c.env) :: starEach [e2, e3] c.env) (he2 : starEach [e2, e3] c.env = (false, eval e2 c.env) :: starEach [e3] c.env)
    (he3 : starEach [e3] c.env = (false, eval e3 c.env) :: starEach [] c.env) (hst : ((backTo pos (starEach [e2, e3] c.env)).any fun x => x.1) = false)
    (hc : eval (.Call (.Name f pf) [e1, e2, e3] [] pos) c.env = (do
          let d ← eval (.Name f pf) c.env
          callWith pos d [] (backTo pos (starEach [e1, e2, e3] c.env)) (backToKw pos (keywordEach [] c.env))))
    (h1 : Ev c m e1 v1) (h2 : EvP c m e2 (Vs R)) (h3 : Ev c m e3 v3) (h : ∀ t1 u t2 t3, R u → CallP c m g [v1 t1, .str u t2, v3 t3] P) : EvP c m (.Call (.Name f pf) [e1, e2, e3] [] pos) P :=
  evCall hg hkd hd hkp he1 hst hc (lsCons h1 he1 (lsCons h2 he2 (lsCons h3 he3 lsNil))) (by
    rintro _ _ ⟨_, _, _, _, rfl, ⟨rfl, t1, rfl⟩, ⟨_, _, _, _, rfl, ⟨rfl, u, t2, rfl, r⟩, ⟨_, _, _, _, rfl, ⟨rfl, t3, rfl⟩, ⟨rfl, rfl⟩, rfl⟩, rfl⟩, rfl⟩
    exact h t1 u t2 t3 r)
theorem eqI {x k : Int} (h : (x == k) = true) : x = k := by simpa using h
/-- a str that place_told takes -/
def IxOk (ba bs : Int) (u : Str) : Prop := (u = Str.ofString "" ∨ u = Str.ofString "IX" ∨ u = Str.ofString "IY") ∧ (u ≠ Str.ofString "" → ba = bs)
theorem ixNo {ba bs : Int} : IxOk ba bs (Str.ofString "") := ⟨.inl rfl, fun h => absurd rfl h⟩
/-- a list and one operand ahead of it -/
theorem opBase {c : Cx} {m : Str → Option Value} {V : Int → Prop} {b : Int} {x pos a o} (hm : m x = some (.ref a)) (hb : (a, o) ∈ c.base) (ho : Opd V b o) (hkd : c.env.kindOf x = some .local) (hd : (x == Str.ofString "__debug__") = false) : EvP c m (.Name x pos) (OpP V b) := opName hm hb ho hkd hd
/-- an operand without a number -/
def OpA : Value → CbLed → Prop := fun v led => ∃ a o, v = .ref a ∧ (a, o) ∈ led ∧ ∀ V b, Opd V b o
theorem opSA {c : Cx} {m : Str → Option Value} {k e kk pos p1 kk1} (hk : k = Str.ofString "r" ∨ k = Str.ofString "p" ∨ k = Str.ofString "f" ∨ k = Str.ofString "m") (he : EvP c m e (Vs fun _ => True))
    (hs1 : starEach [.Constant (.str k) kk1 p1, e] c.env = (false, eval (.Constant (.str k) kk1 p1) c.env) :: starEach [e] c.env) (hs2 : starEach [e] c.env = (false, eval e c.env) :: starEach [] c.env) :
    EvP c m (.Tuple [.Constant (.str k) kk1 p1, e] kk pos) OpA :=
  ⟨fun I q => Tuple_ (args_cons (Constant_str (args_cons (he.out ⟨I.F, I.N, I.sub⟩ fun v led _ _ _ p s1 s2 I => args_nil (by
    obtain ⟨rfl, u, t, rfl, -⟩ := p
    exact kup_newTuple I.F I.N (fun D h' F N _ => q _ [(D, _)] _ _ _ ⟨D, _, rfl, .head _, fun _ _ => Opd.s hk⟩ (Sub.cons (.head _) Sub.no) (s2.tr (Sub.tl Sub.refl')) ⟨F, N, I.sub.tl⟩) (show 2 ≤ sizeLine by decide))) hs2)) hs1)⟩
theorem opFin {h₀ h' : Heap} {L : Addr} {m : Str → Option Value} {news news' led : CbLed} {v : Value} {R : Prop} (p : OpA v led) (s1 : Sub led news') (s2 : Sub news news') (F : Fr h₀ L h' m) (N : News h₀ L h' news')
    (hret : ∀ (a : Addr) (o : Obj), v = .ref a → (∀ V b, Opd V b o) → Fr h₀ L h' m → News h₀ L h' ((a, o) :: news) → R) : R := by
  obtain ⟨a, o, rfl, ha, ho⟩ := p
  exact hret a o rfl ho F (newsSub N (Sub.cons (s1 _ ha) s2))
def OpB (b : Int) : Value → CbLed → Prop := fun v led => ∃ a o, v = .ref a ∧ (a, o) ∈ led ∧ ∀ V, Opd V b o
theorem opAB {b : Int} (v : Value) (led : CbLed) (h : OpA v led) : OpB b v led := let ⟨a, o, e, m, q⟩ := h; ⟨a, o, e, m, fun V => q V b⟩
theorem opXB {c : Cx} {m : Str → Option Value} {e1 e2 kk pos p1 kk1 b} (he : EvP c m e1 (Vs fun _ => True)) (hi : EvI c m e2 b)
    (hs1 : starEach [.Constant (.str (Str.ofString "x")) kk1 p1, e1, e2] c.env = (false, eval (.Constant (.str (Str.ofString "x")) kk1 p1) c.env) :: starEach [e1, e2] c.env) (hs2 : starEach [e1, e2] c.env = (false, eval e1 c.env) :: starEach [e2] c.env)
    (hs3 : starEach [e2] c.env = (false, eval e2 c.env) :: starEach [] c.env) : EvP c m (.Tuple [.Constant (.str (Str.ofString "x")) kk1 p1, e1, e2] kk pos) (OpB b) :=
  ⟨fun I q => Tuple_ (args_cons (Constant_str (args_cons (he.out ⟨I.F, I.N, I.sub⟩ fun v led _ _ _ p s1 s2 I => args_cons (hi.v I fun t _ _ _ s3 I => args_nil (by
    obtain ⟨rfl, u, t, rfl, -⟩ := p
    exact kup_newTuple I.F I.N (fun D h' F N _ => q _ [(D, _)] _ _ _ ⟨D, _, rfl, .head _, fun _ => Opd.x⟩ (Sub.cons (.head _) Sub.no) ((s2.tr s3).tr (Sub.tl Sub.refl')) ⟨F, N, I.sub.tl⟩) (show 3 ≤ sizeLine by decide))) hs3) hs2)) hs1)⟩
def Short (u : Str) : Prop := u.length ≤ 4
theorem strIdx {c : Cx} {m : Str → Option Value} {x : Str} {k p1 idx pos i n} (hi : EvI c m idx i) (hk : x.length = n) (h0 : -(n : Int) ≤ i) (h1 : i < (n : Int)) (hn : decide (n ≤ 100) = true)
    (hs : ∀ t u, subscripted idx false (.str x t) (.int i u) = operate [.str x t, .int i u] (getItem (.str x t) (.int i u))) (ht : ∀ t r, letTemporaryGo (.Constant (.str x) k p1) (.str x t) r = pure ()) :
    EvP c m (.Subscript (.Constant (.str x) k p1) idx pos) (Vs Short) :=
  ⟨fun I q => Subscript_ (Constant_str (hi.v ⟨I.F, I.N, I.sub⟩ fun t _ _ _ s2 I => KXi.item hk h0 h1 (Nat.le_trans (of_decide_eq_true hn) (by decide)) (fun e => q _ [] _ _ _ ⟨rfl, _, _, rfl, by unfold Short; omega⟩ Sub.no s2 ⟨I.F, I.N, I.sub⟩) (hs _ _) (ht _)))⟩
theorem strAddE {c : Cx} {m : Str → Option Value} {a b pos} (ha : EvP c m a (Vs Short)) (hb : EvP c m b (Vs Short)) : EvP c m (.BinOp a .Add b pos) (Vs fun _ => True) :=
  ⟨fun I q => wpAny_BinOp (ha.out I fun v led _ _ _ p s1 s2 I => hb.out I fun v2 led2 _ _ _ p2 s3 s4 I => by
    obtain ⟨rfl, u, t, rfl, h⟩ := p
    obtain ⟨rfl, u2, t2, rfl, h2⟩ := p2
    exact KXadd.add h h2 (by decide) fun t' k _ => q _ [] _ _ _ ⟨rfl, _, _, rfl, trivial⟩ Sub.no (s2.tr s4) ⟨I.F, I.N, I.sub⟩)⟩
theorem cd45 {a : Bool} {code : Int} (h : (a && ([4, 5].any fun z => z == code)) = true) : -((2 : Nat) : Int) ≤ code - 4 ∧ code - 4 < ((2 : Nat) : Int) := by
  simp only [Bool.and_eq_true, List.any_cons, List.any_nil, Bool.or_false, Bool.or_eq_true, beq_iff_eq] at h
  omega
theorem opFinB {bs : Int} {h₀ h' : Heap} {L : Addr} {m : Str → Option Value} {news news' led : CbLed} {v : Value} {R : Prop} (p : OpB bs v led) (s1 : Sub led news') (s2 : Sub news news') (F : Fr h₀ L h' m) (N : News h₀ L h' news')
    (hret : ∀ (a : Addr) (o : Obj), v = .ref a → (∀ V, Opd V bs o) → Fr h₀ L h' m → News h₀ L h' ((a, o) :: news) → R) : R := by
  obtain ⟨a, o, rfl, ha, ho⟩ := p
  exact hret a o rfl ho F (newsSub N (Sub.cons (s1 _ ha) s2))
theorem neStr {x y : Str} (h : (x == y) = false) : x ≠ y := by simpa using h
def GoP (goal : Int) : Value → CbLed → Prop := fun v led => ∃ g gt gu, v = .ref g ∧ (g, ({ cls := .type "tuple", data := .seq [Value.str (Str.ofString "n") gt, Value.int goal gu].toArray } : Obj)) ∈ led
def Jw (u : Str) : Prop := u = Str.ofString "JR" ∨ u = Str.ofString "DJNZ"
theorem goE {c : Cx} {m : Str → Option Value} {e kk pos p1 kk1 i} (he : EvI c m e i)
    (hs1 : starEach [.Constant (.str (Str.ofString "n")) kk1 p1, e] c.env = (false, eval (.Constant (.str (Str.ofString "n")) kk1 p1) c.env) :: starEach [e] c.env) (hs2 : starEach [e] c.env = (false, eval e c.env) :: starEach [] c.env) :
    EvP c m (.Tuple [.Constant (.str (Str.ofString "n")) kk1 p1, e] kk pos) (GoP i) :=
  ⟨fun I q => Tuple_ (args_cons (Constant_str (args_cons (he.v ⟨I.F, I.N, I.sub⟩ fun t _ _ _ s2 I => args_nil (
    kup_newTuple I.F I.N (fun D h' F N _ => q _ [(D, _)] _ _ _ ⟨D, _, _, rfl, .head _⟩ (Sub.cons (.head _) Sub.no) (s2.tr (Sub.tl Sub.refl')) ⟨F, N, I.sub.tl⟩) (show 2 ≤ sizeLine by decide))) hs2)) hs1)⟩
theorem exAsgG {c : Cx} {m : Str → Option Value} {x p1 e pos rest goal R} (h : EvP c m e (GoP goal)) (hkd : c.env.kindOf x = some .local) (hs : swapsWith e (some (.Name x p1)) pos.line c.env = pure false)
    (k : ∀ g gt gu led, (g, ({ cls := .type "tuple", data := .seq [Value.str (Str.ofString "n") gt, Value.int goal gu].toArray } : Obj)) ∈ led → Ex (c.more led) (mUp m x (.ref g)) rest R) : Ex c m (.Assign [.Name x p1] e pos :: rest) R :=
  exAsg h hkd hs fun v led p => by obtain ⟨g, gt, gu, rfl, hm⟩ := p; exact k g gt gu led hm
theorem jm1E {c : Cx} {m : Str → Option Value} {V : Int → Prop} {b : Int} {k : Nat} {fs : Prop} {goal : Int} {w x px lp kk pos g gt gu} (hw : EvP c m w (Vs Jw)) (hm : m x = some (.ref g))
    (hb : (g, ({ cls := .type "tuple", data := .seq [Value.str (Str.ofString "n") gt, Value.int goal gu].toArray } : Obj)) ∈ c.base) (hf : fs) (hkd : c.env.kindOf x = some .local) (hd : (x == Str.ofString "__debug__") = false)
    (hs1 : starEach [w, .List [.Name x px] lp] c.env = (false, eval w c.env) :: starEach [.List [.Name x px] lp] c.env) : EvP c m (.Tuple [w, .List [.Name x px] lp] kk pos) (OrdJ V b k fs goal) :=
  ⟨fun I q => Tuple_ (args_cons (hw.out I fun v led _ _ _ p s1 s2 I => args_cons (List_ (args_cons (nameX_L I.F hm (args_nil (newList_K I.F I.N (fun l h' F N _ => args_nil (by
    obtain ⟨rfl, u, t, rfl, hj⟩ := p
    exact kup_newTuple F N (fun D h' F N _ => q _ [(D, _), (l, _), (g, _)] _ _ _ (.inr (.inl ⟨D, u, t, l, g, gt, gu, 0, rfl, .head _, .tail _ (.head _), .tail _ (.tail _ (.head _)), hj, hf⟩))
      (Sub.cons (.head _) (Sub.cons (.tail _ (.head _)) (Sub.cons (.tail _ (.tail _ (I.sub _ hb))) Sub.no))) (s2.tr (Sub.tl (Sub.tl Sub.refl'))) ⟨F, N, I.sub.tl.tl⟩) (show 2 ≤ sizeLine by decide))) (show 1 ≤ sizeLine by decide))) c.hk hkd hd)))) hs1)⟩
theorem jm2E {c : Cx} {m : Str → Option Value} {V : Int → Prop} {b : Int} {k : Nat} {fs : Prop} {goal : Int} {w e x px lp kk pos g gt gu} (hw : EvP c m w (Vs Jw)) (he : EvP c m e OpA) (hm : m x = some (.ref g))
    (hb : (g, ({ cls := .type "tuple", data := .seq [Value.str (Str.ofString "n") gt, Value.int goal gu].toArray } : Obj)) ∈ c.base) (hf : fs) (hkd : c.env.kindOf x = some .local) (hd : (x == Str.ofString "__debug__") = false)
    (hs1 : starEach [w, .List [e, .Name x px] lp] c.env = (false, eval w c.env) :: starEach [.List [e, .Name x px] lp] c.env) (hs2 : starEach [e, .Name x px] c.env = (false, eval e c.env) :: starEach [.Name x px] c.env) : EvP c m (.Tuple [w, .List [e, .Name x px] lp] kk pos) (OrdJ V b k fs goal) :=
  ⟨fun I q => Tuple_ (args_cons (hw.out I fun v led _ _ _ p s1 s2 I => args_cons (List_ (args_cons (he.out I fun vf lf _ _ _ pf s3 s4 I => args_cons (nameX_L I.F hm (args_nil (newList_K I.F I.N (fun l h' F N _ => args_nil (by
    obtain ⟨rfl, u, t, rfl, hj⟩ := p
    obtain ⟨f, o, rfl, -, -⟩ := pf
    exact kup_newTuple F N (fun D h' F N _ => q _ [(D, _), (l, _), (g, _)] _ _ _ (.inr (.inr ⟨D, u, t, l, f, g, gt, gu, 0, rfl, .head _, .tail _ (.head _), .tail _ (.tail _ (.head _)), hj, hf⟩))
      (Sub.cons (.head _) (Sub.cons (.tail _ (.head _)) (Sub.cons (.tail _ (.tail _ (I.sub _ hb))) Sub.no))) ((s2.tr s4).tr (Sub.tl (Sub.tl Sub.refl'))) ⟨F, N, I.sub.tl.tl⟩) (show 2 ≤ sizeLine by decide))) (show 2 ≤ sizeLine by decide))) c.hk hkd hd)) hs2))) hs1)⟩
theorem opKA {c : Cx} {m : Str → Option Value} {news : CbLed} {s : Shared} {Q : Value → Shared → Prop} (k8 : ∀ v led news' h' tk', OpA v led → Sub led news' → Sub news news' → At c m h' news' → Q v { s with heap := h', toks := tk' }) (S8 : Sub c.base news) :
    ∀ (a : Addr) (o : Obj) (h' : Heap) (tk' : Nat), (∀ V b, Opd V b o) → Fr c.h₀ c.L h' m → News c.h₀ c.L h' ((a, o) :: news) → Q (.ref a) { s with heap := h', toks := tk' } :=
  fun a o h' tk' ho F N => k8 _ [(a, o)] _ _ _ ⟨a, o, rfl, .head _, ho⟩ (Sub.cons (.head _) Sub.no) (Sub.tl Sub.refl') ⟨F, N, S8.tl⟩
theorem le2 {y : Int} (h : decide (y < 2) = false) : 2 ≤ y := by
  have := of_decide_eq_false h
  omega
theorem sub4 {y : Int} (h : decide (y < 4) = false) : 0 ≤ y - 4 := by
  have := of_decide_eq_false h
  omega
theorem jwDJ : Jw (Str.ofString "DJNZ") := .inr rfl
theorem jwJR : Jw (Str.ofString "JR") := .inl rfl
theorem lstAdd {c : Cx} {m : Str → Option Value} {V : Int → Prop} {b : Int} {e1 e2 pos k1 k2} (h1 : EvP c m e1 (LstP V b k1)) (h2 : EvP c m e2 (LstP V b k2)) (hk : decide (k1 + k2 ≤ 20) = true) : EvP c m (.BinOp e1 .Add e2 pos) (LstP V b (k1 + k2)) :=
  ⟨fun I q => wpAny_BinOp (h1.out I fun v led _ _ _ p s1 s2 I => h2.out I fun v2 led2 _ _ _ p2 s3 s4 I => by
    obtain ⟨l, ops, nn, rfl, hl, hlen, hops⟩ := p
    obtain ⟨l2, ops2, nn2, rfl, hl2, hlen2, hops2⟩ := p2
    have hkk := of_decide_eq_true hk
    exact add_lists I.F I.N (News.isList I.N (s4 _ (s1 _ hl))) (News.isList I.N (s3 _ hl2)) (fun h' F N => q _ ((_, _) :: (led ++ led2)) _ _ _ ⟨_, ops ++ ops2, 0, rfl, .head _, by rw [List.length_append]; omega, OpsIn.append (hops.mono fun p hp => .tail _ (List.mem_append_left _ hp)) (hops2.mono fun p hp => .tail _ (List.mem_append_right _ hp))⟩
      (Sub.cons (.head _) (Sub.tl (Sub.app (s1.tr s4) s3))) ((s2.tr s4).tr (Sub.tl Sub.refl')) ⟨F, N, I.sub.tl⟩) (Nat.le_trans (Nat.add_le_add hlen hlen2) (Nat.le_trans hkk (by decide))))⟩
theorem x3i {x : Int} (h0 : 0 ≤ x) (h1 : x < 4) (h : (x == 0) = false) : 0 ≤ x - 1 ∧ x - 1 < 3 := by
  simp only [beq_eq_false_iff_ne] at h
  omega
theorem vsTrue {R : Str → Prop} (v : Value) (led : CbLed) (h : Vs R v led) : Vs (fun _ => True) v led := let ⟨a, u, t, e, _⟩ := h; ⟨a, u, t, e, trivial⟩
theorem blk {x y z : Int} (h : (x == 2 && (decide (3 < y) && decide (z < 4))) = true) (hy : y < 8) : 0 ≤ y - 4 ∧ y - 4 < 4 ∧ z < 4 := by
  simp only [Bool.and_eq_true, decide_eq_true_eq] at h
  omega
theorem lt6 {y : Int} (h : decide (5 < y) = false) : y < 6 := by
  have := of_decide_eq_false h
  omega
theorem hveT {V : Int → Prop} {n v : Int} (hV : VIf V (fx n = 1 ∧ fz n = 3) v) (hx : (fx n != 1) = false) (hz : (fz n == 3) = true) : V v := hV.out ⟨by simpa using hx, by simpa using hz⟩
theorem vif0 {V : Int → Prop} {v y : Int} (h : VIf V (y = 0) v) (hb : (y == 0) = true) : V v := h.out (by simpa using hb)
theorem sub5 {y : Int} (h0 : 0 ≤ y) (h1 : y ≠ 1) (a : (y == 0) = false) (b : (y == 2) = false) (c : (y == 3) = false) (d : (y == 4) = false) : 0 ≤ y - 5 := by
  simp only [beq_eq_false_iff_ne] at a b c d
  omega
theorem farA {n : Int} (h0 : 0 ≤ n) (h1 : n < 256) (h : ([203, 221, 237, 253].any fun x => x == n) = false) (hx : fx n = 3) (hz : (fz n == 2 || fz n == 4) = true) : farOctets n = 2 :=
  far2 h0 h1 h (.inr (.inr (.inl ⟨hx, by simpa using hz⟩)))
theorem farB {n : Int} (h0 : 0 ≤ n) (h1 : n < 256) (h : ([203, 221, 237, 253].any fun x => x == n) = false) (hx : fx n = 3) (hz : (fz n == 5) = true) (hy : ((fy n).fmod 2 == 0) = false) : farOctets n = 2 :=
  far2 h0 h1 h (.inr (.inr (.inr (.inr ⟨hx, by simpa using hz, by simpa using hy⟩))))
theorem farC {n : Int} (h0 : 0 ≤ n) (h1 : n < 256) (h : ([203, 221, 237, 253].any fun x => x == n) = false) (hx : fx n = 3) (hz : (fz n == 3) = true) {V : Int → Prop} {v : Int} (hV : VIf V (farOctets n = 2) v) : VIf V (fy n = 0) v :=
  ⟨fun hy => hV.out (far2 h0 h1 h (.inr (.inr (.inr (.inl ⟨hx, by simpa using hz, hy⟩)))))⟩
theorem y1C {n : Int} (h0 : 0 ≤ n) (h1 : n < 256) (h : ([203, 221, 237, 253].any fun x => x == n) = false) (hx : fx n = 3) (hz : (fz n == 3) = true) : fy n ≠ 1 := y1 h0 h1 h hx (by simpa using hz)
/-- what an order's contract hands on -/
theorem ordFin {V : Int → Prop} {b : Int} {k : Nat} {h₀ h' : Heap} {L : Addr} {m : Str → Option Value} {news news' led : CbLed} {v : Value} {R : Prop} (p : OrdP V b k v led) (s1 : Sub led news') (s2 : Sub news news') (F : Fr h₀ L h' m) (N : News h₀ L h' news')
    (hret : ∀ (r : Addr) (wd : Str) (tw : Tok) (l : Addr) (ops : List Value) (nn : Nat) (led : CbLed), v = .ref r → Plain wd → ops.length ≤ k → OpsIn led V b ops → Fr h₀ L h' m → News h₀ L h' ((r, { cls := .type "tuple", data := .seq [Value.str wd tw, Value.ref l].toArray }) :: (l, listOf ops.toArray nn) :: (led ++ news)) → R) : R := by
  obtain ⟨r, wd, tw, l, ops, nn, rfl, hr, hl, hp, hlen, hops⟩ := p
  exact hret r wd tw l ops nn led rfl hp hlen hops F (newsSub N (Sub.cons (s1 _ hr) (Sub.cons (s1 _ hl) (Sub.app s1 s2))))

-- P2
/-- a word, operands and how many octets -/
def BP (V : Int → Prop) (b many : Int) : Value → CbLed → Prop := fun v led => ∃ r wd tw l ops nn tm, v = .ref r ∧ (r, ({ cls := .type "tuple", data := .seq [Value.str wd tw, Value.ref l, Value.int many tm].toArray } : Obj)) ∈ led ∧
  (l, listOf ops.toArray nn) ∈ led ∧ Plain wd ∧ ops.length ≤ 3 ∧ OpsIn led V b ops
theorem addTupE {c : Cx} {m : Str → Option Value} {V : Int → Prop} {b many : Int} {k : Nat} {e1 e2 kk p1 pos} (h1 : EvP c m e1 (OrdP V b k)) (hk : decide (k ≤ 3) = true) (h2 : EvI c m e2 many) (he : starEach [e2] c.env = (false, eval e2 c.env) :: starEach [] c.env) :
    EvP c m (.BinOp e1 .Add (.Tuple [e2] kk p1) pos) (BP V b many) :=
  ⟨fun I q => wpAny_BinOp (h1.out I fun v led _ _ _ p s1 s2 I => Tuple_ (args_cons (h2.v I fun t _ _ _ s3 I => args_nil (by
    obtain ⟨r, wd, tw, l, ops, nn, rfl, hr, hl, hp, hlen, hops⟩ := p
    exact kup_newTuple I.F I.N (fun D h' F N _ => kde_addT F N (N.isTup (.tail _ (s3 _ (s1 _ hr)))) (N.isTup (.head _)) (List.cons_ne_nil _ _) (List.cons_ne_nil _ _) (Nat.le_of_ble_eq_true rfl) rfl fun D2 h2 F N _ =>
      q _ ((D2, _) :: led) _ _ _ ⟨D2, wd, tw, l, ops, nn, t, rfl, .head _, .tail _ hl, hp, Nat.le_trans hlen (of_decide_eq_true hk), hops.mono fun p hp => .tail _ hp⟩
        (Sub.cons (.head _) (Sub.tl (Sub.tl (s1.tr s3)))) ((s2.tr s3).tr (Sub.tl (Sub.tl Sub.refl'))) ⟨F, N, I.sub.tl.tl⟩) (show 1 ≤ sizeLine by decide))) he))⟩
theorem opBP {V : Int → Prop} {b : Int} (v : Value) (led : CbLed) (h : OpB b v led) : OpP V b v led := let ⟨a, o, e, m, q⟩ := h; ⟨a, o, e, m, q V⟩
def D4P (x0 x1 x2 x3 : Int) : Value → CbLed → Prop := fun v led => ∃ (r l b0 b1 b2 b3 : Addr) (t1 t2 u0 v0 u1 v1 u2 v2 u3 v3 : Tok) (nn : Nat), v = .ref r ∧ led = [(r, ({ cls := .type "tuple", data := .seq [Value.str (Str.ofString "DB") t1, Value.ref l, Value.int 4 t2].toArray } : Obj)), (l, listOf [Value.ref b0, Value.ref b1, Value.ref b2, Value.ref b3].toArray nn), (b3, ({ cls := .type "tuple", data := .seq [Value.str (Str.ofString "n") u3, Value.int x3 v3].toArray } : Obj)), (b2, ({ cls := .type "tuple", data := .seq [Value.str (Str.ofString "n") u2, Value.int x2 v2].toArray } : Obj)), (b1, ({ cls := .type "tuple", data := .seq [Value.str (Str.ofString "n") u1, Value.int x1 v1].toArray } : Obj)), (b0, ({ cls := .type "tuple", data := .seq [Value.str (Str.ofString "n") u0, Value.int x0 v0].toArray } : Obj))]
theorem d4K {c : Cx} {m : Str → Option Value} {news : CbLed} {s : Shared} {Q : Value → Shared → Prop} {x0 x1 x2 x3 : Int} (k8 : ∀ v led news' h' tk', D4P x0 x1 x2 x3 v led → Sub led news' → Sub news news' → At c m h' news' → Q v { s with heap := h', toks := tk' }) (S8 : Sub c.base news) :
    ∀ (r l b0 b1 b2 b3 : Addr) (t1 t2 u0 v0 u1 v1 u2 v2 u3 v3 : Tok) (nn : Nat) (h' : Heap) (tk' : Nat), Fr c.h₀ c.L h' m → News c.h₀ c.L h' ((r, ({ cls := .type "tuple", data := .seq [Value.str (Str.ofString "DB") t1, Value.ref l, Value.int 4 t2].toArray } : Obj)) :: (l, listOf [Value.ref b0, Value.ref b1, Value.ref b2, Value.ref b3].toArray nn) :: (b3, ({ cls := .type "tuple", data := .seq [Value.str (Str.ofString "n") u3, Value.int x3 v3].toArray } : Obj)) :: (b2, ({ cls := .type "tuple", data := .seq [Value.str (Str.ofString "n") u2, Value.int x2 v2].toArray } : Obj)) :: (b1, ({ cls := .type "tuple", data := .seq [Value.str (Str.ofString "n") u1, Value.int x1 v1].toArray } : Obj)) :: (b0, ({ cls := .type "tuple", data := .seq [Value.str (Str.ofString "n") u0, Value.int x0 v0].toArray } : Obj)) :: news) → Q (.ref r) { s with heap := h', toks := tk' } :=
  fun r l b0 b1 b2 b3 t1 t2 u0 v0 u1 v1 u2 v2 u3 v3 nn h' tk' F N => k8 _ [(r, ({ cls := .type "tuple", data := .seq [Value.str (Str.ofString "DB") t1, Value.ref l, Value.int 4 t2].toArray } : Obj)), (l, listOf [Value.ref b0, Value.ref b1, Value.ref b2, Value.ref b3].toArray nn), (b3, ({ cls := .type "tuple", data := .seq [Value.str (Str.ofString "n") u3, Value.int x3 v3].toArray } : Obj)), (b2, ({ cls := .type "tuple", data := .seq [Value.str (Str.ofString "n") u2, Value.int x2 v2].toArray } : Obj)), (b1, ({ cls := .type "tuple", data := .seq [Value.str (Str.ofString "n") u1, Value.int x1 v1].toArray } : Obj)), (b0, ({ cls := .type "tuple", data := .seq [Value.str (Str.ofString "n") u0, Value.int x0 v0].toArray } : Obj))] _ _ _ ⟨r, l, b0, b1, b2, b3, t1, t2, u0, v0, u1, v1, u2, v2, u3, v3, nn, rfl, rfl⟩ (fun p hp => List.mem_append_left news hp) (fun p hp => List.mem_append_right [(r, ({ cls := .type "tuple", data := .seq [Value.str (Str.ofString "DB") t1, Value.ref l, Value.int 4 t2].toArray } : Obj)), (l, listOf [Value.ref b0, Value.ref b1, Value.ref b2, Value.ref b3].toArray nn), (b3, ({ cls := .type "tuple", data := .seq [Value.str (Str.ofString "n") u3, Value.int x3 v3].toArray } : Obj)), (b2, ({ cls := .type "tuple", data := .seq [Value.str (Str.ofString "n") u2, Value.int x2 v2].toArray } : Obj)), (b1, ({ cls := .type "tuple", data := .seq [Value.str (Str.ofString "n") u1, Value.int x1 v1].toArray } : Obj)), (b0, ({ cls := .type "tuple", data := .seq [Value.str (Str.ofString "n") u0, Value.int x0 v0].toArray } : Obj))] hp) ⟨F, N, fun p hp => List.mem_append_right [(r, ({ cls := .type "tuple", data := .seq [Value.str (Str.ofString "DB") t1, Value.ref l, Value.int 4 t2].toArray } : Obj)), (l, listOf [Value.ref b0, Value.ref b1, Value.ref b2, Value.ref b3].toArray nn), (b3, ({ cls := .type "tuple", data := .seq [Value.str (Str.ofString "n") u3, Value.int x3 v3].toArray } : Obj)), (b2, ({ cls := .type "tuple", data := .seq [Value.str (Str.ofString "n") u2, Value.int x2 v2].toArray } : Obj)), (b1, ({ cls := .type "tuple", data := .seq [Value.str (Str.ofString "n") u1, Value.int x1 v1].toArray } : Obj)), (b0, ({ cls := .type "tuple", data := .seq [Value.str (Str.ofString "n") u0, Value.int x0 v0].toArray } : Obj))] (S8 p hp)⟩
def D1P (x0 : Int) : Value → CbLed → Prop := fun v led => ∃ (r l b0 : Addr) (t1 t2 u0 v0 : Tok) (nn : Nat), v = .ref r ∧ led = [(r, ({ cls := .type "tuple", data := .seq [Value.str (Str.ofString "DB") t1, Value.ref l, Value.int 1 t2].toArray } : Obj)), (l, listOf [Value.ref b0].toArray nn), (b0, ({ cls := .type "tuple", data := .seq [Value.str (Str.ofString "n") u0, Value.int x0 v0].toArray } : Obj))]
theorem d1K {c : Cx} {m : Str → Option Value} {news : CbLed} {s : Shared} {Q : Value → Shared → Prop} {x0 : Int} (k8 : ∀ v led news' h' tk', D1P x0 v led → Sub led news' → Sub news news' → At c m h' news' → Q v { s with heap := h', toks := tk' }) (S8 : Sub c.base news) :
    ∀ (r l b0 : Addr) (t1 t2 u0 v0 : Tok) (nn : Nat) (h' : Heap) (tk' : Nat), Fr c.h₀ c.L h' m → News c.h₀ c.L h' ((r, ({ cls := .type "tuple", data := .seq [Value.str (Str.ofString "DB") t1, Value.ref l, Value.int 1 t2].toArray } : Obj)) :: (l, listOf [Value.ref b0].toArray nn) :: (b0, ({ cls := .type "tuple", data := .seq [Value.str (Str.ofString "n") u0, Value.int x0 v0].toArray } : Obj)) :: news) → Q (.ref r) { s with heap := h', toks := tk' } :=
  fun r l b0 t1 t2 u0 v0 nn h' tk' F N => k8 _ [(r, ({ cls := .type "tuple", data := .seq [Value.str (Str.ofString "DB") t1, Value.ref l, Value.int 1 t2].toArray } : Obj)), (l, listOf [Value.ref b0].toArray nn), (b0, ({ cls := .type "tuple", data := .seq [Value.str (Str.ofString "n") u0, Value.int x0 v0].toArray } : Obj))] _ _ _ ⟨r, l, b0, t1, t2, u0, v0, nn, rfl, rfl⟩ (fun p hp => List.mem_append_left news hp) (fun p hp => List.mem_append_right [(r, ({ cls := .type "tuple", data := .seq [Value.str (Str.ofString "DB") t1, Value.ref l, Value.int 1 t2].toArray } : Obj)), (l, listOf [Value.ref b0].toArray nn), (b0, ({ cls := .type "tuple", data := .seq [Value.str (Str.ofString "n") u0, Value.int x0 v0].toArray } : Obj))] hp) ⟨F, N, fun p hp => List.mem_append_right [(r, ({ cls := .type "tuple", data := .seq [Value.str (Str.ofString "DB") t1, Value.ref l, Value.int 1 t2].toArray } : Obj)), (l, listOf [Value.ref b0].toArray nn), (b0, ({ cls := .type "tuple", data := .seq [Value.str (Str.ofString "n") u0, Value.int x0 v0].toArray } : Obj))] (S8 p hp)⟩
theorem newsPre {h₀ h : Heap} {L : Addr} {led news news' : CbLed} (N : News h₀ L h news') (s1 : Sub led news') (s2 : Sub news news') : News h₀ L h (led ++ news) := newsSub N (Sub.app s1 s2)
/-- what index_order hands back -/
def IxP (V : Int → Prop) (b : Int) (ns : List Int) (n : Int) : Value → CbLed → Prop := fun v led =>
  (cell ns (n + 1) = 203 ∧ D4P (cell ns n) (cell ns (n + 1)) (cell ns (n + 2)) (cell ns (n + 3)) v led) ∨ (IdleIx (cell ns (n + 1)) ∧ D1P (cell ns n) v led) ∨
  ∃ many, (many = lenIx (cell ns (n + 1)) ∧ (cell ns (n + 1) = 203 ∨ (([221, 237, 253].any fun x => x == cell ns (n + 1)) = false ∧ turnsByIndex (cell ns (n + 1)) = true))) ∧ BP V b many v led
section
variable {V : Int → Prop} {b : Int} {ns : List Int} {n : Int}
theorem ix4 (h : (cell ns (n + 1) == 203) = true) (v : Value) (led : CbLed) (p : D4P (cell ns n) (cell ns (n + 1)) (cell ns (n + 2)) (cell ns (n + 3)) v led) : IxP V b ns n v led := .inl ⟨eqI h, p⟩
theorem ix1 (h : (cell ns (n + 1) == 203) = false) (h2 : (([221, 237, 253].any fun x => x == cell ns (n + 1)) || !turnsByIndex (cell ns (n + 1))) = true) (v : Value) (led : CbLed) (p : D1P (cell ns n) v led) : IxP V b ns n v led :=
  .inr (.inl ⟨⟨by simpa using h, (Bool.or_eq_true_iff.mp h2).imp id (fun q => by simpa using q)⟩, p⟩)
theorem ixB4 (h : (cell ns (n + 1) == 203) = true) (v : Value) (led : CbLed) (p : BP V b 4 v led) : IxP V b ns n v led := .inr (.inr ⟨4, ⟨lenIx_203 (eqI h), .inl (eqI h)⟩, p⟩)
theorem ix_any {x : Int} (h2 : (([221, 237, 253].any fun z => z == x) || !turnsByIndex x) = false) : ([221, 237, 253].any fun z => z == x) = false := (Bool.or_eq_false_iff.mp h2).1
theorem ix_tb {x : Int} (h2 : (([221, 237, 253].any fun z => z == x) || !turnsByIndex x) = false) : turnsByIndex x = true := by simpa using (Bool.or_eq_false_iff.mp h2).2
theorem ne203 {x : Int} (h : (x == 203) = false) : x ≠ 203 := by simpa using h
theorem ixBM (h0 : 0 ≤ cell ns (n + 1)) (h1 : cell ns (n + 1) < 256) (h : (cell ns (n + 1) == 203) = false) (h2 : (([221, 237, 253].any fun x => x == cell ns (n + 1)) || !turnsByIndex (cell ns (n + 1))) = false) (v : Value) (led : CbLed)
    (p : BP V b (2 + (bif isBeside (cell ns (n + 1)) then 1 else 0) + farOctets (cell ns (n + 1))) v led) : IxP V b ns n v led := by
  refine .inr (.inr ⟨_, ⟨?_, .inr ⟨ix_any h2, ix_tb h2⟩⟩, p⟩)
  cases hb : isBeside (cell ns (n + 1)) with
  | true => exact lenIx_main1 h0 h1 (ne203 h) (ix_any h2) hb
  | false => exact lenIx_main0 h0 h1 (ne203 h) (ix_any h2) hb
theorem vMain (h0 : 0 ≤ cell ns (n + 1)) (h1 : cell ns (n + 1) < 256) (h2 : cell ns (n + 1) ≠ 203) (h3 : ([221, 237, 253].any fun x => x == cell ns (n + 1)) = false)
    (hV : VIf V (cell ns (n + 1) ≠ 203 ∧ farOctets (cell ns (n + 1)) = 2) (cell ns (n + 2) + 256 * cell ns (n + 2 + 1))) :
    VIf V (farOctets (cell ns (n + 1)) = 2) (cell ns (n + 2 + (bif isBeside (cell ns (n + 1)) then 1 else 0)) + 256 * cell ns (n + 2 + (bif isBeside (cell ns (n + 1)) then 1 else 0) + 1)) := by
  cases hb : isBeside (cell ns (n + 1)) with
  | true => exact VIf.no (far_beside h0 h1 h2 h3 hb)
  | false =>
    show VIf V _ (cell ns (n + 2 + 0) + 256 * cell ns (n + 2 + 0 + 1))
    rw [Int.add_zero]
    exact VIf.imp hV fun h => ⟨h2, h⟩
end

-- S1
theorem lines_S1_0 : True := by
  w_top off
  k_with_none
  trivial
theorem far_octets_c {w : World} {mean : ExcName → Option Value} {mg mb : Str → Option Value} {dp un : Nat} {gd : Option (List Code)} {cn : Str} {cs : Scope} {a : Addr} {ccd : Value} {cl : List (Str × Addr)} {outer : List Env} {A₀ : Around} {base h₀ : Heap} {L : Addr} {m : Str → Option Value} {news : CbLed} {s : Shared} {Q E : Value → Shared → Prop} {n : Int} {tn : Tok}
    (B : Below A₀ base outer h₀) (F : Fr h₀ L s.heap m) (X : (Mine.hd.heap_39 w.params).In h₀) (N : News h₀ L s.heap news) (T : Top Mine.hd.view_39 (looseW Mine.hd.view_39 []) mean mg mb h₀) (hk : cs.kind = .function)  (hd : dp + 1 < recursionLimit) (hu : un + 8 < cLine)
    (hret : ∀ (t : Tok) (h' : Heap) (tk' : Nat), Fr h₀ L h' m → News h₀ L h' news → Q (.int (farOctets n) t) { s with heap := h', toks := tk' }) :
    wpAny (model PySem.Challenge.rw_nz0573_01.row.prog w) (ktrTop dp un gd cn cs L a ccd cl outer) (call (.ref 147) [Value.int n tn]) Q E s := by
  revert X; k_fill; intro X
  all_goals (refine wpAny_call ?_; k_dflt cell_enter; (try ((with_reducible rename Fr _ _ _ (fun y => List.lookup y _) => kF0); replace kF0 : Fr _ _ _ (fun yy => List.lookup yy [(Str.ofString "octet", Value.int n tn)]) := kF0)); (with_reducible refine' ex_use0 ([]) (VI _) ?hk ?X ?TR ?F ?N ?hb ?H ?k); k_dflt ((case X => assumption); (case TR => exact topRead_of (by assumption)); (case F => k_asm); (case N => k_asm); (case hk => exact rfl); (case hb => first | exact Sub.no | exact Sub.cons (.head _) Sub.no)); (case H => repeat' ((with_reducible show (_ : Prop)); first | (with_reducible first | exact evConst | exact evBool | exact Ks.nil | refine' Ks.cons ?_ | exact cpEq | exact cpNe | exact cpLt | exact cpGt | exact cpLe | exact cpNeB | exact cpEqS | exact cpNeS | exact cnIn | exact cnNot | refine' evShr ?_ ?_ ?_ | refine' evAnd ?_ ?_ | refine' evMod ?_ ?_ ?_ | refine' evSub ?_ ?_ | refine' evAdd ?_ ?_ | refine' evOr ?_ ?_ | refine' evShl ?_ ?_ ?_ ?_ | refine' evIn ?_ ?_ ?_ ?_ ?_ | refine' isIn ?_ ?_ ?_ ?_ ?_ | refine' evCmp ?_ ?_ ?_ ?_ | refine' isCmp ?_ ?_ ?_ ?_ | refine' evChain ?_ ?_ ?_ ?_ ?_ ?_ | refine' isNot ?_ | refine' evNot ?_ | refine' isAnd ?_ ?_ | refine' isAnd1 ?_ | refine' isOr ?_ ?_ | refine' isOr1 ?_ | refine' evBAnd ?_ ?_ | refine' evBOr ?_ ?_ | refine' evB1 ?_ | refine' evIf ?_ ?_ ?_ | refine' exRet ?_ | refine' exIf ?_ ?_ ?_ | refine' exAsg3 ?_ ?_ ?_ ?_ ?_ ?_ ?_ ?_ ?_ ?_ ?_ ?_ ?_ | refine' exAsg2 ?_ ?_ ?_ ?_ ?_ ?_ ?_ ?_ ?_ ?_ | refine' call1 ?_ ?_ ?_ ?_ ?_ ?_ ?_ ?_ ?_ | refine' call2 ?_ ?_ ?_ ?_ ?_ ?_ ?_ ?_ ?_ ?_ ?_ | refine' call3 ?_ ?_ ?_ ?_ ?_ ?_ ?_ ?_ ?_ ?_ ?_ ?_ ?_ | refine' call4 ?_ ?_ ?_ ?_ ?_ ?_ ?_ ?_ ?_ ?_ ?_ ?_ ?_ ?_ ?_ | refine' call5 ?_ ?_ ?_ ?_ ?_ ?_ ?_ ?_ ?_ ?_ ?_ ?_ ?_ ?_ ?_ ?_ ?_ | refine' exAsgI ?_ ?_ ?_ ?_ | refine' isCall ?_) | ((with_reducible show _ = _); first | kernel_rfl! | (k_is; done) | exact rfl | fail "eq") | ((with_reducible show EvP _ _ (PySem.Expr.Name _ _) _); first | exact evName rfl (by kernel_rfl!) (by kernel_rfl!) | exact evNameV rfl (by kernel_rfl!) (by kernel_rfl!) | fail "name") | ((with_reducible show IsT _ _ _ _); first | exact isName rfl (by kernel_rfl!) (by kernel_rfl!) | (with_reducible refine' isW ?_) | fail "isT") | (intro t1 t2 t3) | (intro t1 t2) | ((with_reducible show ∀ t : Tok, Ex _ _ _ _); intro t1) | ((with_reducible show ∀ t : Tok, CallP _ _ _ _ _); intro t1) | (exact cell_abs (by assumption) _) | fail "none")); rintro v9 led9 news9 h9 tk9 m9 ⟨rfl, t9, rfl⟩ l9 s9 F9 N9; (try dsimp only); k_steps)
  all_goals (
    refine' cb_retI (Q := Q) hret ?e1 ?e2 ?e3
    (case e2 => ((with_reducible rename Fr _ _ _ _ => kFF); exact kFF))
    (case e3 => ((with_reducible rename News _ _ _ _ => kNN); exact newsSub kNN (by first | exact s9 | exact fun p hp => s9 p (.tail _ hp) | (intro p hp; repeat (first | exact hp | apply List.Mem.tail)))))
    (case e1 => first | rfl | exact so_cond _))
theorem main_length_c {w : World} {mean : ExcName → Option Value} {mg mb : Str → Option Value} {dp un : Nat} {gd : Option (List Code)} {cn : Str} {cs : Scope} {a : Addr} {ccd : Value} {cl : List (Str × Addr)} {outer : List Env} {A₀ : Around} {base h₀ : Heap} {L : Addr} {m : Str → Option Value} {news : CbLed} {s : Shared} {Q E : Value → Shared → Prop} {n : Int} {tn : Tok}
    (B : Below A₀ base outer h₀) (F : Fr h₀ L s.heap m) (X : (Mine.hd.heap_39 w.params).In h₀) (N : News h₀ L s.heap news) (T : Top Mine.hd.view_39 (looseW Mine.hd.view_39 []) mean mg mb h₀) (hk : cs.kind = .function)  (hd : dp + 1 < recursionLimit) (hu : un + 8 < cLine)
    (hret : ∀ (t : Tok) (h' : Heap) (tk' : Nat), Fr h₀ L h' m → News h₀ L h' news → Q (.int (mainLength n) t) { s with heap := h', toks := tk' }) :
    wpAny (model PySem.Challenge.rw_nz0573_01.row.prog w) (ktrTop dp un gd cn cs L a ccd cl outer) (call (.ref 194) [Value.int n tn]) Q E s := by
  revert X; k_fill; intro X
  all_goals (refine wpAny_call ?_; k_dflt cell_enter; (try ((with_reducible rename Fr _ _ _ (fun y => List.lookup y _) => kF0); replace kF0 : Fr _ _ _ (fun yy => List.lookup yy [(Str.ofString "octet", Value.int n tn)]) := kF0)); (with_reducible refine' ex_use0 ([]) (VI _) ?hk ?X ?TR ?F ?N ?hb ?H ?k); k_dflt ((case X => assumption); (case TR => exact topRead_of (by assumption)); (case F => k_asm); (case N => k_asm); (case hk => exact rfl); (case hb => first | exact Sub.no | exact Sub.cons (.head _) Sub.no)); (case H => repeat' ((with_reducible show (_ : Prop)); first | (with_reducible first | exact evConst | exact evBool | exact Ks.nil | refine' Ks.cons ?_ | exact cpEq | exact cpNe | exact cpLt | exact cpGt | exact cpLe | exact cpNeB | exact cpEqS | exact cpNeS | exact cnIn | exact cnNot | refine' evShr ?_ ?_ ?_ | refine' evAnd ?_ ?_ | refine' evMod ?_ ?_ ?_ | refine' evSub ?_ ?_ | refine' evAdd ?_ ?_ | refine' evOr ?_ ?_ | refine' evShl ?_ ?_ ?_ ?_ | refine' evIn ?_ ?_ ?_ ?_ ?_ | refine' isIn ?_ ?_ ?_ ?_ ?_ | refine' evCmp ?_ ?_ ?_ ?_ | refine' isCmp ?_ ?_ ?_ ?_ | refine' evChain ?_ ?_ ?_ ?_ ?_ ?_ | refine' isNot ?_ | refine' evNot ?_ | refine' isAnd ?_ ?_ | refine' isAnd1 ?_ | refine' isOr ?_ ?_ | refine' isOr1 ?_ | refine' evBAnd ?_ ?_ | refine' evBOr ?_ ?_ | refine' evB1 ?_ | refine' evIf ?_ ?_ ?_ | refine' exRet ?_ | refine' exIf ?_ ?_ ?_ | refine' exAsg3 ?_ ?_ ?_ ?_ ?_ ?_ ?_ ?_ ?_ ?_ ?_ ?_ ?_ | refine' exAsg2 ?_ ?_ ?_ ?_ ?_ ?_ ?_ ?_ ?_ ?_ | refine' call1 ?_ ?_ ?_ ?_ ?_ ?_ ?_ ?_ ?_ | refine' call2 ?_ ?_ ?_ ?_ ?_ ?_ ?_ ?_ ?_ ?_ ?_ | refine' call3 ?_ ?_ ?_ ?_ ?_ ?_ ?_ ?_ ?_ ?_ ?_ ?_ ?_ | refine' call4 ?_ ?_ ?_ ?_ ?_ ?_ ?_ ?_ ?_ ?_ ?_ ?_ ?_ ?_ ?_ | refine' call5 ?_ ?_ ?_ ?_ ?_ ?_ ?_ ?_ ?_ ?_ ?_ ?_ ?_ ?_ ?_ ?_ ?_ | refine' exAsgI ?_ ?_ ?_ ?_ | refine' isCall ?_) | ((with_reducible show _ = _); first | kernel_rfl! | (k_is; done) | exact rfl | fail "eq") | ((with_reducible show EvP _ _ (PySem.Expr.Name _ _) _); first | exact evName rfl (by kernel_rfl!) (by kernel_rfl!) | exact evNameV rfl (by kernel_rfl!) (by kernel_rfl!) | fail "name") | ((with_reducible show IsT _ _ _ _); first | exact isName rfl (by kernel_rfl!) (by kernel_rfl!) | (with_reducible refine' isW ?_) | fail "isT") | (intro t1 t2 t3) | (intro t1 t2) | ((with_reducible show ∀ t : Tok, Ex _ _ _ _); intro t1) | ((with_reducible show ∀ t : Tok, CallP _ _ _ _ _); intro t1) | (exact cell_abs (by assumption) _) | fail "none")); rintro v9 led9 news9 h9 tk9 m9 ⟨rfl, t9, rfl⟩ l9 s9 F9 N9; (try dsimp only); k_steps)
  all_goals (
    refine' cb_retI (Q := Q) hret ?e1 ?e2 ?e3
    (case e2 => ((with_reducible rename Fr _ _ _ _ => kFF); exact kFF))
    (case e3 => ((with_reducible rename News _ _ _ _ => kNN); exact newsSub kNN (by first | exact s9 | exact fun p hp => s9 p (.tail _ hp) | (intro p hp; repeat (first | exact hp | apply List.Mem.tail)))))
    (case e1 => first | rfl | exact so_cond _))
theorem turns_by_index_c {w : World} {mean : ExcName → Option Value} {mg mb : Str → Option Value} {dp un : Nat} {gd : Option (List Code)} {cn : Str} {cs : Scope} {a : Addr} {ccd : Value} {cl : List (Str × Addr)} {outer : List Env} {A₀ : Around} {base h₀ : Heap} {L : Addr} {m : Str → Option Value} {news : CbLed} {s : Shared} {Q E : Value → Shared → Prop} {n : Int} {tn : Tok}
    (B : Below A₀ base outer h₀) (F : Fr h₀ L s.heap m) (X : (Mine.hd.heap_39 w.params).In h₀) (N : News h₀ L s.heap news) (T : Top Mine.hd.view_39 (looseW Mine.hd.view_39 []) mean mg mb h₀) (hk : cs.kind = .function)  (hd : dp + 1 < recursionLimit) (hu : un + 8 < cLine)
    (hret : ∀ (t : Tok) (h' : Heap) (tk' : Nat), Fr h₀ L h' m → News h₀ L h' news → Q (.bool (turnsByIndex n)) { s with heap := h', toks := tk' }) :
    wpAny (model PySem.Challenge.rw_nz0573_01.row.prog w) (ktrTop dp un gd cn cs L a ccd cl outer) (call (.ref 154) [Value.int n tn]) Q E s := by
  revert X; k_fill; intro X
  all_goals (refine wpAny_call ?_; k_dflt cell_enter; (try ((with_reducible rename Fr _ _ _ (fun y => List.lookup y _) => kF0); replace kF0 : Fr _ _ _ (fun yy => List.lookup yy [(Str.ofString "octet", Value.int n tn)]) := kF0)); (with_reducible refine' ex_use0 ([]) (VBo _) ?hk ?X ?TR ?F ?N ?hb ?H ?k); k_dflt ((case X => assumption); (case TR => exact topRead_of (by assumption)); (case F => k_asm); (case N => k_asm); (case hk => exact rfl); (case hb => first | exact Sub.no | exact Sub.cons (.head _) Sub.no)); (case H => repeat' ((with_reducible show (_ : Prop)); first | (with_reducible first | exact evConst | exact evBool | exact Ks.nil | refine' Ks.cons ?_ | exact cpEq | exact cpNe | exact cpLt | exact cpGt | exact cpLe | exact cpNeB | exact cpEqS | exact cpNeS | exact cnIn | exact cnNot | refine' evShr ?_ ?_ ?_ | refine' evAnd ?_ ?_ | refine' evMod ?_ ?_ ?_ | refine' evSub ?_ ?_ | refine' evAdd ?_ ?_ | refine' evOr ?_ ?_ | refine' evShl ?_ ?_ ?_ ?_ | refine' evIn ?_ ?_ ?_ ?_ ?_ | refine' isIn ?_ ?_ ?_ ?_ ?_ | refine' evCmp ?_ ?_ ?_ ?_ | refine' isCmp ?_ ?_ ?_ ?_ | refine' evChain ?_ ?_ ?_ ?_ ?_ ?_ | refine' isNot ?_ | refine' evNot ?_ | refine' isAnd ?_ ?_ | refine' isAnd1 ?_ | refine' isOr ?_ ?_ | refine' isOr1 ?_ | refine' evBAnd ?_ ?_ | refine' evBOr ?_ ?_ | refine' evB1 ?_ | refine' evIfB ?_ ?_ ?_ | refine' exRet ?_ | refine' exIfB ?_ ?_ ?_ | refine' exAsg3 ?_ ?_ ?_ ?_ ?_ ?_ ?_ ?_ ?_ ?_ ?_ ?_ ?_ | refine' exAsg2 ?_ ?_ ?_ ?_ ?_ ?_ ?_ ?_ ?_ ?_ | refine' call1 ?_ ?_ ?_ ?_ ?_ ?_ ?_ ?_ ?_ | refine' call2 ?_ ?_ ?_ ?_ ?_ ?_ ?_ ?_ ?_ ?_ ?_ | refine' call3 ?_ ?_ ?_ ?_ ?_ ?_ ?_ ?_ ?_ ?_ ?_ ?_ ?_ | refine' call4 ?_ ?_ ?_ ?_ ?_ ?_ ?_ ?_ ?_ ?_ ?_ ?_ ?_ ?_ ?_ | refine' call5 ?_ ?_ ?_ ?_ ?_ ?_ ?_ ?_ ?_ ?_ ?_ ?_ ?_ ?_ ?_ ?_ ?_ | refine' exAsgI ?_ ?_ ?_ ?_ | refine' isCall ?_) | ((with_reducible show _ = _); first | kernel_rfl! | (k_is; done) | exact rfl | fail "eq") | ((with_reducible show EvP _ _ (PySem.Expr.Name _ _) _); first | exact evName rfl (by kernel_rfl!) (by kernel_rfl!) | exact evNameV rfl (by kernel_rfl!) (by kernel_rfl!) | fail "name") | ((with_reducible show IsT _ _ _ _); first | exact isName rfl (by kernel_rfl!) (by kernel_rfl!) | (with_reducible refine' isW ?_) | fail "isT") | (intro t1 t2 t3) | (intro t1 t2) | ((with_reducible show ∀ t : Tok, Ex _ _ _ _); intro t1) | ((with_reducible show ∀ t : Tok, CallP _ _ _ _ _); intro t1) | (exact cell_abs (by assumption) _) | fail "none")); rintro v9 led9 news9 h9 tk9 m9 ⟨rfl, t9, rfl⟩ l9 s9 F9 N9; (try dsimp only); k_steps)
  all_goals (
    refine' cb_retB (Q := Q) hret ?e1 ?e2 ?e3
    (case e2 => ((with_reducible rename Fr _ _ _ _ => kFF); exact kFF))
    (case e3 => ((with_reducible rename News _ _ _ _ => kNN); exact newsSub kNN (by first | exact s9 | exact fun p hp => s9 p (.tail _ hp) | (intro p hp; repeat (first | exact hp | apply List.Mem.tail)))))
    (case e1 => first | rfl | exact so_cond _))
theorem is_beside_c {w : World} {mean : ExcName → Option Value} {mg mb : Str → Option Value} {dp un : Nat} {gd : Option (List Code)} {cn : Str} {cs : Scope} {a : Addr} {ccd : Value} {cl : List (Str × Addr)} {outer : List Env} {A₀ : Around} {base h₀ : Heap} {L : Addr} {m : Str → Option Value} {news : CbLed} {s : Shared} {Q E : Value → Shared → Prop} {n : Int} {tn : Tok}
    (B : Below A₀ base outer h₀) (F : Fr h₀ L s.heap m) (X : (Mine.hd.heap_39 w.params).In h₀) (N : News h₀ L s.heap news) (T : Top Mine.hd.view_39 (looseW Mine.hd.view_39 []) mean mg mb h₀) (hk : cs.kind = .function)  (hd : dp + 1 < recursionLimit) (hu : un + 8 < cLine)
    (hret : ∀ (t : Tok) (h' : Heap) (tk' : Nat), Fr h₀ L h' m → News h₀ L h' news → Q (.bool (isBeside n)) { s with heap := h', toks := tk' }) :
    wpAny (model PySem.Challenge.rw_nz0573_01.row.prog w) (ktrTop dp un gd cn cs L a ccd cl outer) (call (.ref 161) [Value.int n tn]) Q E s := by
  revert X; k_fill; intro X
  all_goals (refine wpAny_call ?_; k_dflt cell_enter; (try ((with_reducible rename Fr _ _ _ (fun y => List.lookup y _) => kF0); replace kF0 : Fr _ _ _ (fun yy => List.lookup yy [(Str.ofString "octet", Value.int n tn)]) := kF0)); (with_reducible refine' ex_use0 ([]) (VBo _) ?hk ?X ?TR ?F ?N ?hb ?H ?k); k_dflt ((case X => assumption); (case TR => exact topRead_of (by assumption)); (case F => k_asm); (case N => k_asm); (case hk => exact rfl); (case hb => first | exact Sub.no | exact Sub.cons (.head _) Sub.no)); (case H => repeat' ((with_reducible show (_ : Prop)); first | (with_reducible first | exact evConst | exact evBool | exact Ks.nil | refine' Ks.cons ?_ | exact cpEq | exact cpNe | exact cpLt | exact cpGt | exact cpLe | exact cpNeB | exact cpEqS | exact cpNeS | exact cnIn | exact cnNot | refine' evShr ?_ ?_ ?_ | refine' evAnd ?_ ?_ | refine' evMod ?_ ?_ ?_ | refine' evSub ?_ ?_ | refine' evAdd ?_ ?_ | refine' evOr ?_ ?_ | refine' evShl ?_ ?_ ?_ ?_ | refine' evIn ?_ ?_ ?_ ?_ ?_ | refine' isIn ?_ ?_ ?_ ?_ ?_ | refine' evCmp ?_ ?_ ?_ ?_ | refine' isCmp ?_ ?_ ?_ ?_ | refine' evChain ?_ ?_ ?_ ?_ ?_ ?_ | refine' isNot ?_ | refine' evNot ?_ | refine' isAnd ?_ ?_ | refine' isAnd1 ?_ | refine' isOr ?_ ?_ | refine' isOr1 ?_ | refine' evBAnd ?_ ?_ | refine' evBOr ?_ ?_ | refine' evB1 ?_ | refine' evIfB ?_ ?_ ?_ | refine' exRet ?_ | refine' exIfB ?_ ?_ ?_ | refine' exAsg3 ?_ ?_ ?_ ?_ ?_ ?_ ?_ ?_ ?_ ?_ ?_ ?_ ?_ | refine' exAsg2 ?_ ?_ ?_ ?_ ?_ ?_ ?_ ?_ ?_ ?_ | refine' call1 ?_ ?_ ?_ ?_ ?_ ?_ ?_ ?_ ?_ | refine' call2 ?_ ?_ ?_ ?_ ?_ ?_ ?_ ?_ ?_ ?_ ?_ | refine' call3 ?_ ?_ ?_ ?_ ?_ ?_ ?_ ?_ ?_ ?_ ?_ ?_ ?_ | refine' call4 ?_ ?_ ?_ ?_ ?_ ?_ ?_ ?_ ?_ ?_ ?_ ?_ ?_ ?_ ?_ | refine' call5 ?_ ?_ ?_ ?_ ?_ ?_ ?_ ?_ ?_ ?_ ?_ ?_ ?_ ?_ ?_ ?_ ?_ | refine' exAsgI ?_ ?_ ?_ ?_ | refine' isCall ?_) | ((with_reducible show _ = _); first | kernel_rfl! | (k_is; done) | exact rfl | fail "eq") | ((with_reducible show EvP _ _ (PySem.Expr.Name _ _) _); first | exact evName rfl (by kernel_rfl!) (by kernel_rfl!) | exact evNameV rfl (by kernel_rfl!) (by kernel_rfl!) | fail "name") | ((with_reducible show IsT _ _ _ _); first | exact isName rfl (by kernel_rfl!) (by kernel_rfl!) | (with_reducible refine' isW ?_) | fail "isT") | (intro t1 t2 t3) | (intro t1 t2) | ((with_reducible show ∀ t : Tok, Ex _ _ _ _); intro t1) | ((with_reducible show ∀ t : Tok, CallP _ _ _ _ _); intro t1) | (exact cell_abs (by assumption) _) | fail "none")); rintro v9 led9 news9 h9 tk9 m9 ⟨rfl, t9, rfl⟩ l9 s9 F9 N9; (try dsimp only); k_steps)
  all_goals (
    refine' cb_retB (Q := Q) hret ?e1 ?e2 ?e3
    (case e2 => ((with_reducible rename Fr _ _ _ _ => kFF); exact kFF))
    (case e3 => ((with_reducible rename News _ _ _ _ => kNN); exact newsSub kNN (by first | exact s9 | exact fun p hp => s9 p (.tail _ hp) | (intro p hp; repeat (first | exact hp | apply List.Mem.tail)))))
    (case e1 => first | rfl | exact so_cond _))
theorem uses_memory_c {w : World} {mean : ExcName → Option Value} {mg mb : Str → Option Value} {dp un : Nat} {gd : Option (List Code)} {cn : Str} {cs : Scope} {a : Addr} {ccd : Value} {cl : List (Str × Addr)} {outer : List Env} {A₀ : Around} {base h₀ : Heap} {L : Addr} {m : Str → Option Value} {news : CbLed} {s : Shared} {Q E : Value → Shared → Prop} {n : Int} {tn : Tok}
    (B : Below A₀ base outer h₀) (F : Fr h₀ L s.heap m) (X : (Mine.hd.heap_39 w.params).In h₀) (N : News h₀ L s.heap news) (T : Top Mine.hd.view_39 (looseW Mine.hd.view_39 []) mean mg mb h₀) (hk : cs.kind = .function)  (hd : dp + 1 < recursionLimit) (hu : un + 8 < cLine)
    (hret : ∀ (t : Tok) (h' : Heap) (tk' : Nat), Fr h₀ L h' m → News h₀ L h' news → Q (.bool (usesMemory n)) { s with heap := h', toks := tk' }) :
    wpAny (model PySem.Challenge.rw_nz0573_01.row.prog w) (ktrTop dp un gd cn cs L a ccd cl outer) (call (.ref 187) [Value.int n tn]) Q E s := by
  revert X; k_fill; intro X
  all_goals (refine wpAny_call ?_; k_dflt cell_enter; (try ((with_reducible rename Fr _ _ _ (fun y => List.lookup y _) => kF0); replace kF0 : Fr _ _ _ (fun yy => List.lookup yy [(Str.ofString "octet", Value.int n tn)]) := kF0)); (with_reducible refine' ex_use0 ([]) (VBo _) ?hk ?X ?TR ?F ?N ?hb ?H ?k); k_dflt ((case X => assumption); (case TR => exact topRead_of (by assumption)); (case F => k_asm); (case N => k_asm); (case hk => exact rfl); (case hb => first | exact Sub.no | exact Sub.cons (.head _) Sub.no)); (case H => repeat' ((with_reducible show (_ : Prop)); first | (with_reducible first | exact evConst | exact evBool | exact Ks.nil | refine' Ks.cons ?_ | exact cpEq | exact cpNe | exact cpLt | exact cpGt | exact cpLe | exact cpNeB | exact cpEqS | exact cpNeS | exact cnIn | exact cnNot | refine' evShr ?_ ?_ ?_ | refine' evAnd ?_ ?_ | refine' evMod ?_ ?_ ?_ | refine' evSub ?_ ?_ | refine' evAdd ?_ ?_ | refine' evOr ?_ ?_ | refine' evShl ?_ ?_ ?_ ?_ | refine' evIn ?_ ?_ ?_ ?_ ?_ | refine' isIn ?_ ?_ ?_ ?_ ?_ | refine' evCmp ?_ ?_ ?_ ?_ | refine' isCmp ?_ ?_ ?_ ?_ | refine' evChain ?_ ?_ ?_ ?_ ?_ ?_ | refine' isNot ?_ | refine' evNot ?_ | refine' isAnd ?_ ?_ | refine' isAnd1 ?_ | refine' isOr ?_ ?_ | refine' isOr1 ?_ | refine' evBAnd ?_ ?_ | refine' evBOr ?_ ?_ | refine' evB1 ?_ | refine' evIfB ?_ ?_ ?_ | refine' exRet ?_ | refine' exIfB ?_ ?_ ?_ | refine' exAsg3 ?_ ?_ ?_ ?_ ?_ ?_ ?_ ?_ ?_ ?_ ?_ ?_ ?_ | refine' exAsg2 ?_ ?_ ?_ ?_ ?_ ?_ ?_ ?_ ?_ ?_ | refine' call1 ?_ ?_ ?_ ?_ ?_ ?_ ?_ ?_ ?_ | refine' call2 ?_ ?_ ?_ ?_ ?_ ?_ ?_ ?_ ?_ ?_ ?_ | refine' call3 ?_ ?_ ?_ ?_ ?_ ?_ ?_ ?_ ?_ ?_ ?_ ?_ ?_ | refine' call4 ?_ ?_ ?_ ?_ ?_ ?_ ?_ ?_ ?_ ?_ ?_ ?_ ?_ ?_ ?_ | refine' call5 ?_ ?_ ?_ ?_ ?_ ?_ ?_ ?_ ?_ ?_ ?_ ?_ ?_ ?_ ?_ ?_ ?_ | refine' exAsgI ?_ ?_ ?_ ?_ | refine' isCall ?_) | ((with_reducible show _ = _); first | kernel_rfl! | (k_is; done) | exact rfl | fail "eq") | ((with_reducible show EvP _ _ (PySem.Expr.Name _ _) _); first | exact evName rfl (by kernel_rfl!) (by kernel_rfl!) | exact evNameV rfl (by kernel_rfl!) (by kernel_rfl!) | fail "name") | ((with_reducible show IsT _ _ _ _); first | exact isName rfl (by kernel_rfl!) (by kernel_rfl!) | (with_reducible refine' isW ?_) | fail "isT") | (intro t1 t2 t3) | (intro t1 t2) | ((with_reducible show ∀ t : Tok, Ex _ _ _ _); intro t1) | ((with_reducible show ∀ t : Tok, CallP _ _ _ _ _); intro t1) | (exact cell_abs (by assumption) _) | fail "none")); rintro v9 led9 news9 h9 tk9 m9 ⟨rfl, t9, rfl⟩ l9 s9 F9 N9; (try dsimp only); k_steps)
  all_goals (
    refine' cb_retB (Q := Q) hret ?e1 ?e2 ?e3
    (case e2 => ((with_reducible rename Fr _ _ _ _ => kFF); exact kFF))
    (case e3 => ((with_reducible rename News _ _ _ _ => kNN); exact newsSub kNN (by first | exact s9 | exact fun p hp => s9 p (.tail _ hp) | (intro p hp; repeat (first | exact hp | apply List.Mem.tail)))))
    (case e1 => first | rfl | exact so_cond _))
theorem can_main_c {w : World} {mean : ExcName → Option Value} {mg mb : Str → Option Value} {dp un : Nat} {gd : Option (List Code)} {cn : Str} {cs : Scope} {a : Addr} {ccd : Value} {cl : List (Str × Addr)} {outer : List Env} {A₀ : Around} {base h₀ : Heap} {L : Addr} {m : Str → Option Value} {news : CbLed} {s : Shared} {Q E : Value → Shared → Prop} {n : Int} {tn : Tok}
    (B : Below A₀ base outer h₀) (F : Fr h₀ L s.heap m) (X : (Mine.hd.heap_39 w.params).In h₀) (N : News h₀ L s.heap news) (T : Top Mine.hd.view_39 (looseW Mine.hd.view_39 []) mean mg mb h₀) (hk : cs.kind = .function)  (hd : dp + 1 < recursionLimit) (hu : un + 8 < cLine)
    (hret : ∀ (t : Tok) (h' : Heap) (tk' : Nat), Fr h₀ L h' m → News h₀ L h' news → Q (.bool (canMain n)) { s with heap := h', toks := tk' }) :
    wpAny (model PySem.Challenge.rw_nz0573_01.row.prog w) (ktrTop dp un gd cn cs L a ccd cl outer) (call (.ref 208) [Value.int n tn]) Q E s := by
  revert X; k_fill; intro X
  all_goals (refine wpAny_call ?_; k_dflt cell_enter; (try ((with_reducible rename Fr _ _ _ (fun y => List.lookup y _) => kF0); replace kF0 : Fr _ _ _ (fun yy => List.lookup yy [(Str.ofString "octet", Value.int n tn)]) := kF0)); (with_reducible refine' ex_use0 ([]) (VBo _) ?hk ?X ?TR ?F ?N ?hb ?H ?k); k_dflt ((case X => assumption); (case TR => exact topRead_of (by assumption)); (case F => k_asm); (case N => k_asm); (case hk => exact rfl); (case hb => first | exact Sub.no | exact Sub.cons (.head _) Sub.no)); (case H => repeat' ((with_reducible show (_ : Prop)); first | (with_reducible first | exact evConst | exact evBool | exact Ks.nil | refine' Ks.cons ?_ | exact cpEq | exact cpNe | exact cpLt | exact cpGt | exact cpLe | exact cpNeB | exact cpEqS | exact cpNeS | exact cnIn | exact cnNot | refine' evShr ?_ ?_ ?_ | refine' evAnd ?_ ?_ | refine' evMod ?_ ?_ ?_ | refine' evSub ?_ ?_ | refine' evAdd ?_ ?_ | refine' evOr ?_ ?_ | refine' evShl ?_ ?_ ?_ ?_ | refine' evIn ?_ ?_ ?_ ?_ ?_ | refine' isIn ?_ ?_ ?_ ?_ ?_ | refine' evCmp ?_ ?_ ?_ ?_ | refine' isCmp ?_ ?_ ?_ ?_ | refine' evChain ?_ ?_ ?_ ?_ ?_ ?_ | refine' isNot ?_ | refine' evNot ?_ | refine' isAnd ?_ ?_ | refine' isAnd1 ?_ | refine' isOr ?_ ?_ | refine' isOr1 ?_ | refine' evBAnd ?_ ?_ | refine' evBOr ?_ ?_ | refine' evB1 ?_ | refine' evIfB ?_ ?_ ?_ | refine' exRet ?_ | refine' exIfB ?_ ?_ ?_ | refine' exAsg3 ?_ ?_ ?_ ?_ ?_ ?_ ?_ ?_ ?_ ?_ ?_ ?_ ?_ | refine' exAsg2 ?_ ?_ ?_ ?_ ?_ ?_ ?_ ?_ ?_ ?_ | refine' call1 ?_ ?_ ?_ ?_ ?_ ?_ ?_ ?_ ?_ | refine' call2 ?_ ?_ ?_ ?_ ?_ ?_ ?_ ?_ ?_ ?_ ?_ | refine' call3 ?_ ?_ ?_ ?_ ?_ ?_ ?_ ?_ ?_ ?_ ?_ ?_ ?_ | refine' call4 ?_ ?_ ?_ ?_ ?_ ?_ ?_ ?_ ?_ ?_ ?_ ?_ ?_ ?_ ?_ | refine' call5 ?_ ?_ ?_ ?_ ?_ ?_ ?_ ?_ ?_ ?_ ?_ ?_ ?_ ?_ ?_ ?_ ?_ | refine' exAsgI ?_ ?_ ?_ ?_ | refine' isCall ?_) | ((with_reducible show _ = _); first | kernel_rfl! | (k_is; done) | exact rfl | fail "eq") | ((with_reducible show EvP _ _ (PySem.Expr.Name _ _) _); first | exact evName rfl (by kernel_rfl!) (by kernel_rfl!) | exact evNameV rfl (by kernel_rfl!) (by kernel_rfl!) | fail "name") | ((with_reducible show IsT _ _ _ _); first | exact isName rfl (by kernel_rfl!) (by kernel_rfl!) | (with_reducible refine' isW ?_) | fail "isT") | (intro t1 t2 t3) | (intro t1 t2) | ((with_reducible show ∀ t : Tok, Ex _ _ _ _); intro t1) | ((with_reducible show ∀ t : Tok, CallP _ _ _ _ _); intro t1) | (exact cell_abs (by assumption) _) | fail "none")); rintro v9 led9 news9 h9 tk9 m9 ⟨rfl, t9, rfl⟩ l9 s9 F9 N9; (try dsimp only); k_steps)
  all_goals (
    refine' cb_retB (Q := Q) hret ?e1 ?e2 ?e3
    (case e2 => ((with_reducible rename Fr _ _ _ _ => kFF); exact kFF))
    (case e3 => ((with_reducible rename News _ _ _ _ => kNN); exact newsSub kNN (by first | exact s9 | exact fun p hp => s9 p (.tail _ hp) | (intro p hp; repeat (first | exact hp | apply List.Mem.tail)))))
    (case e1 => first | rfl | exact so_cond _))
theorem signed_octet_c {w : World} {mean : ExcName → Option Value} {mg mb : Str → Option Value} {dp un : Nat} {gd : Option (List Code)} {cn : Str} {cs : Scope} {a : Addr} {ccd : Value} {cl : List (Str × Addr)} {outer : List Env} {A₀ : Around} {base h₀ : Heap} {L : Addr} {m : Str → Option Value} {news : CbLed} {s : Shared} {Q E : Value → Shared → Prop} {n : Int} {tn : Tok}
    (B : Below A₀ base outer h₀) (F : Fr h₀ L s.heap m) (X : (Mine.hd.heap_39 w.params).In h₀) (N : News h₀ L s.heap news) (T : Top Mine.hd.view_39 (looseW Mine.hd.view_39 []) mean mg mb h₀) (hk : cs.kind = .function)  (hd : dp + 1 < recursionLimit) (hu : un + 8 < cLine)
    (hret : ∀ (t : Tok) (h' : Heap) (tk' : Nat), Fr h₀ L h' m → News h₀ L h' news → Q (.int (signedOctet n) t) { s with heap := h', toks := tk' }) :
    wpAny (model PySem.Challenge.rw_nz0573_01.row.prog w) (ktrTop dp un gd cn cs L a ccd cl outer) (call (.ref 35) [Value.int n tn]) Q E s := by
  revert X; k_fill; intro X
  all_goals (refine wpAny_call ?_; k_dflt cell_enter; (try ((with_reducible rename Fr _ _ _ (fun y => List.lookup y _) => kF0); replace kF0 : Fr _ _ _ (fun yy => List.lookup yy [(Str.ofString "octet", Value.int n tn)]) := kF0)); (with_reducible refine' ex_use0 ([]) (VI _) ?hk ?X ?TR ?F ?N ?hb ?H ?k); k_dflt ((case X => assumption); (case TR => exact topRead_of (by assumption)); (case F => k_asm); (case N => k_asm); (case hk => exact rfl); (case hb => first | exact Sub.no | exact Sub.cons (.head _) Sub.no)); (case H => repeat' ((with_reducible show (_ : Prop)); first | (with_reducible first | exact evConst | exact evBool | exact Ks.nil | refine' Ks.cons ?_ | exact cpEq | exact cpNe | exact cpLt | exact cpGt | exact cpLe | exact cpNeB | exact cpEqS | exact cpNeS | exact cnIn | exact cnNot | refine' evShr ?_ ?_ ?_ | refine' evAnd ?_ ?_ | refine' evMod ?_ ?_ ?_ | refine' evSub ?_ ?_ | refine' evAdd ?_ ?_ | refine' evOr ?_ ?_ | refine' evShl ?_ ?_ ?_ ?_ | refine' evIn ?_ ?_ ?_ ?_ ?_ | refine' isIn ?_ ?_ ?_ ?_ ?_ | refine' evCmp ?_ ?_ ?_ ?_ | refine' isCmp ?_ ?_ ?_ ?_ | refine' evChain ?_ ?_ ?_ ?_ ?_ ?_ | refine' isNot ?_ | refine' evNot ?_ | refine' isAnd ?_ ?_ | refine' isAnd1 ?_ | refine' isOr ?_ ?_ | refine' isOr1 ?_ | refine' evBAnd ?_ ?_ | refine' evBOr ?_ ?_ | refine' evB1 ?_ | refine' evIf ?_ ?_ ?_ | refine' exRet ?_ | refine' exIf ?_ ?_ ?_ | refine' exAsg3 ?_ ?_ ?_ ?_ ?_ ?_ ?_ ?_ ?_ ?_ ?_ ?_ ?_ | refine' exAsg2 ?_ ?_ ?_ ?_ ?_ ?_ ?_ ?_ ?_ ?_ | refine' call1 ?_ ?_ ?_ ?_ ?_ ?_ ?_ ?_ ?_ | refine' call2 ?_ ?_ ?_ ?_ ?_ ?_ ?_ ?_ ?_ ?_ ?_ | refine' call3 ?_ ?_ ?_ ?_ ?_ ?_ ?_ ?_ ?_ ?_ ?_ ?_ ?_ | refine' call4 ?_ ?_ ?_ ?_ ?_ ?_ ?_ ?_ ?_ ?_ ?_ ?_ ?_ ?_ ?_ | refine' call5 ?_ ?_ ?_ ?_ ?_ ?_ ?_ ?_ ?_ ?_ ?_ ?_ ?_ ?_ ?_ ?_ ?_ | refine' exAsgI ?_ ?_ ?_ ?_ | refine' isCall ?_) | ((with_reducible show _ = _); first | kernel_rfl! | (k_is; done) | exact rfl | fail "eq") | ((with_reducible show EvP _ _ (PySem.Expr.Name _ _) _); first | exact evName rfl (by kernel_rfl!) (by kernel_rfl!) | exact evNameV rfl (by kernel_rfl!) (by kernel_rfl!) | fail "name") | ((with_reducible show IsT _ _ _ _); first | exact isName rfl (by kernel_rfl!) (by kernel_rfl!) | (with_reducible refine' isW ?_) | fail "isT") | (intro t1 t2 t3) | (intro t1 t2) | ((with_reducible show ∀ t : Tok, Ex _ _ _ _); intro t1) | ((with_reducible show ∀ t : Tok, CallP _ _ _ _ _); intro t1) | (exact cell_abs (by assumption) _) | fail "none")); rintro v9 led9 news9 h9 tk9 m9 ⟨rfl, t9, rfl⟩ l9 s9 F9 N9; (try dsimp only); k_steps)
  all_goals (
    refine' cb_retI (Q := Q) hret ?e1 ?e2 ?e3
    (case e2 => ((with_reducible rename Fr _ _ _ _ => kFF); exact kFF))
    (case e3 => ((with_reducible rename News _ _ _ _ => kNN); exact newsSub kNN (by first | exact s9 | exact fun p hp => s9 p (.tail _ hp) | (intro p hp; repeat (first | exact hp | apply List.Mem.tail)))))
    (case e1 => first | rfl | exact so_cond _))
theorem peek_c {w : World} {mean : ExcName → Option Value} {mg mb : Str → Option Value} {dp un : Nat} {gd : Option (List Code)} {cn : Str} {cs : Scope} {a : Addr} {ccd : Value} {cl : List (Str × Addr)} {outer : List Env} {A₀ : Around} {base h₀ : Heap} {L : Addr} {m : Str → Option Value} {news : CbLed} {s : Shared} {Q E : Value → Shared → Prop} {ml : Addr} {vs : List Value} {kk : Nat} {ns : List Int} {n : Int} {tn : Tok}
    (B : Below A₀ base outer h₀) (F : Fr h₀ L s.heap m) (X : (Mine.hd.heap_39 w.params).In h₀) (N : News h₀ L s.heap news) (T : Top Mine.hd.view_39 (looseW Mine.hd.view_39 []) mean mg mb h₀) (hk : cs.kind = .function) (hm : (ml, listOf vs.toArray kk) ∈ news) (hM : Mem vs ns) (hd : dp + 1 < recursionLimit) (hu : un + 8 < cLine)
    (hret : ∀ (t : Tok) (h' : Heap) (tk' : Nat), 0 ≤ cell ns n → cell ns n < 256 → Fr h₀ L h' m → News h₀ L h' news → Q (.int (cell ns n) t) { s with heap := h', toks := tk' }) :
    wpAny (model PySem.Challenge.rw_nz0573_01.row.prog w) (ktrTop dp un gd cn cs L a ccd cl outer) (call (.ref 21) [Value.ref ml, Value.int n tn]) Q E s := by
  revert X; k_fill; intro X
  replace N := newsCons N hm
  have hMi := hM.are
  have hMl := hM.size
  replace hret := fun t h' tk' F N => hret t h' tk' ((cell_oct hM n).1) ((cell_oct hM n).2) F N
  all_goals (refine wpAny_call ?_; k_dflt cell_enter; (try ((with_reducible rename Fr _ _ _ (fun y => List.lookup y _) => kF0); replace kF0 : Fr _ _ _ (fun yy => List.lookup yy [(Str.ofString "at", Value.int n tn), (Str.ofString "memory", Value.ref ml)]) := kF0)); k_steps)
  all_goals (
    refine' cb_retI (Q := Q) hret ?e1 ?e2 ?e3
    (case e2 => ((with_reducible rename Fr _ _ _ _ => kFF); exact kFF))
    (case e3 => ((with_reducible rename News _ _ _ _ => kNN); exact newsSub kNN (by first | exact s9 | exact fun p hp => s9 p (.tail _ hp) | (intro p hp; repeat (first | exact hp | apply List.Mem.tail)))))
    (case e1 => rfl))

-- S2
theorem lines_S2_0 : True := by
  w_top off
  k_with_none
  k_with "call ref" => (k_here; k_dflt (refine' peek_c ?k1 ?k2 ?k3 ?k4 ?k5 ?kK ?hm ?hM ?kd ?ku ?_; (case k1 => k_asm); (case k2 => k_asm); (case k3 => k_asm); (case k4 => k_asm); (case k5 => k_asm); (case hm => k_mem); (case hM => assumption); (case kK => first | exact rfl | assumption); (case kd => ktr_room); (case ku => ktr_units)); intro t9 h9 tk9 c9 c9 F9 N9; (try dsimp only); (try k_sweep); (all_goals try k_fold))
  k_with "call ref" => (k_here; k_dflt (refine' signed_octet_c ?k1 ?k2 ?k3 ?k4 ?k5 ?kK  ?kd ?ku ?_; (case k1 => k_asm); (case k2 => k_asm); (case k3 => k_asm); (case k4 => k_asm); (case k5 => k_asm);  (case kK => first | exact rfl | assumption); (case kd => ktr_room); (case ku => ktr_units)); intro t9 h9 tk9  F9 N9; (try dsimp only); (try k_sweep); (all_goals try k_fold))
  trivial
theorem peek16_c {w : World} {mean : ExcName → Option Value} {mg mb : Str → Option Value} {dp un : Nat} {gd : Option (List Code)} {cn : Str} {cs : Scope} {a : Addr} {ccd : Value} {cl : List (Str × Addr)} {outer : List Env} {A₀ : Around} {base h₀ : Heap} {L : Addr} {m : Str → Option Value} {news : CbLed} {s : Shared} {Q E : Value → Shared → Prop} {ml : Addr} {vs : List Value} {kk : Nat} {ns : List Int} {n : Int} {tn : Tok}
    (B : Below A₀ base outer h₀) (F : Fr h₀ L s.heap m) (X : (Mine.hd.heap_39 w.params).In h₀) (N : News h₀ L s.heap news) (T : Top Mine.hd.view_39 (looseW Mine.hd.view_39 []) mean mg mb h₀) (hk : cs.kind = .function) (hm : (ml, listOf vs.toArray kk) ∈ news) (hM : Mem vs ns) (hd : dp + 2 < recursionLimit) (hu : un + 16 < cLine)
    (hret : ∀ (t : Tok) (h' : Heap) (tk' : Nat), Fr h₀ L h' m → News h₀ L h' news → Q (.int (cell ns n + 256 * cell ns (n + 1)) t) { s with heap := h', toks := tk' }) :
    wpAny (model PySem.Challenge.rw_nz0573_01.row.prog w) (ktrTop dp un gd cn cs L a ccd cl outer) (call (.ref 28) [Value.ref ml, Value.int n tn]) Q E s := by
  revert X; k_fill; intro X
  replace N := newsCons N hm
  have hMi := hM.are
  have hMl := hM.size
  have hc9 := cell_oct hM (n + 1)
  all_goals (refine wpAny_call ?_; k_dflt cell_enter; (try ((with_reducible rename Fr _ _ _ (fun y => List.lookup y _) => kF0); replace kF0 : Fr _ _ _ (fun yy => List.lookup yy [(Str.ofString "at", Value.int n tn), (Str.ofString "memory", Value.ref ml)]) := kF0)); (with_reducible refine' ex_use0 ([(ml, listOf vs.toArray kk)]) (VI _) ?hk ?X ?TR ?F ?N ?hb ?H ?k); k_dflt ((case X => assumption); (case TR => exact topRead_of (by assumption)); (case F => k_asm); (case N => k_asm); (case hk => exact rfl); (case hb => first | exact Sub.no | exact Sub.cons (.head _) Sub.no)); (case H => repeat' ((with_reducible show (_ : Prop)); first | (with_reducible first | exact evConst | exact evBool | exact Ks.nil | refine' Ks.cons ?_ | exact cpEq | exact cpNe | exact cpLt | exact cpGt | exact cpLe | exact cpNeB | exact cpEqS | exact cpNeS | exact cnIn | exact cnNot | refine' evShr ?_ ?_ ?_ | refine' evAnd ?_ ?_ | refine' evMod ?_ ?_ ?_ | refine' evSub ?_ ?_ | refine' evAdd ?_ ?_ | refine' evOr ?_ ?_ | refine' evShl ?_ ?_ ?_ ?_ | refine' evIn ?_ ?_ ?_ ?_ ?_ | refine' isIn ?_ ?_ ?_ ?_ ?_ | refine' evCmp ?_ ?_ ?_ ?_ | refine' isCmp ?_ ?_ ?_ ?_ | refine' evChain ?_ ?_ ?_ ?_ ?_ ?_ | refine' isNot ?_ | refine' evNot ?_ | refine' isAnd ?_ ?_ | refine' isAnd1 ?_ | refine' isOr ?_ ?_ | refine' isOr1 ?_ | refine' evBAnd ?_ ?_ | refine' evBOr ?_ ?_ | refine' evB1 ?_ | refine' evIf ?_ ?_ ?_ | refine' exRet ?_ | refine' exIf ?_ ?_ ?_ | refine' exAsg3 ?_ ?_ ?_ ?_ ?_ ?_ ?_ ?_ ?_ ?_ ?_ ?_ ?_ | refine' exAsg2 ?_ ?_ ?_ ?_ ?_ ?_ ?_ ?_ ?_ ?_ | refine' call1 ?_ ?_ ?_ ?_ ?_ ?_ ?_ ?_ ?_ | refine' call2 ?_ ?_ ?_ ?_ ?_ ?_ ?_ ?_ ?_ ?_ ?_ | refine' call3 ?_ ?_ ?_ ?_ ?_ ?_ ?_ ?_ ?_ ?_ ?_ ?_ ?_ | refine' call4 ?_ ?_ ?_ ?_ ?_ ?_ ?_ ?_ ?_ ?_ ?_ ?_ ?_ ?_ ?_ | refine' call5 ?_ ?_ ?_ ?_ ?_ ?_ ?_ ?_ ?_ ?_ ?_ ?_ ?_ ?_ ?_ ?_ ?_ | refine' exAsgI ?_ ?_ ?_ ?_ | refine' isCall ?_) | ((with_reducible show _ = _); first | kernel_rfl! | (k_is; done) | exact rfl | fail "eq") | ((with_reducible show EvP _ _ (PySem.Expr.Name _ _) _); first | exact evName rfl (by kernel_rfl!) (by kernel_rfl!) | exact evNameV rfl (by kernel_rfl!) (by kernel_rfl!) | fail "name") | ((with_reducible show IsT _ _ _ _); first | exact isName rfl (by kernel_rfl!) (by kernel_rfl!) | (with_reducible refine' isW ?_) | fail "isT") | ((with_reducible show CallP _ _ _ _ _); first | (refine' CallP.mk ?_; intro nw8 s8 q8 I8 k8; obtain ⟨F8, N8, S8⟩ := I8; refine' peek_c ?k1 F8 ?k3 N8 ?k5 ?kK ?hm ?hM ?kd ?ku ?_; (case k1 => assumption); (case k3 => assumption); (case k5 => assumption); (case hm => first | exact S8 _ (.head _) | exact S8 _ (List.mem_append_right _ (.head _))); (case hM => assumption); (case kK => first | exact rfl | assumption); (case kd => ktr_room); (case ku => ktr_units); intro t8 h8 tk8 c8 c8 F9 N9; exact k8 _ [] _ _ _ (show VI _ _ _ from ⟨rfl, t8, rfl⟩) Sub.no Sub.refl' ⟨F9, N9, S8⟩) | fail "call") | (intro t1 t2 t3) | (intro t1 t2) | ((with_reducible show ∀ t : Tok, Ex _ _ _ _); intro t1) | ((with_reducible show ∀ t : Tok, CallP _ _ _ _ _); intro t1) | (exact cell_abs (by assumption) _) | fail "none")); rintro v9 led9 news9 h9 tk9 m9 ⟨rfl, t9, rfl⟩ l9 s9 F9 N9; (try dsimp only); k_steps)
  all_goals (
    refine' cb_retI (Q := Q) hret ?e1 ?e2 ?e3
    (case e2 => ((with_reducible rename Fr _ _ _ _ => kFF); exact kFF))
    (case e3 => ((with_reducible rename News _ _ _ _ => kNN); exact newsSub kNN (by first | exact s9 | exact fun p hp => s9 p (.tail _ hp) | (intro p hp; repeat (first | exact hp | apply List.Mem.tail)))))
    (case e1 => rw [cell_wrap hM]; exact bor16 (cell_oct hM n).1 (cell_oct hM n).2 (cell_oct hM (n + 1)).1))
theorem short_goal_c {w : World} {mean : ExcName → Option Value} {mg mb : Str → Option Value} {dp un : Nat} {gd : Option (List Code)} {cn : Str} {cs : Scope} {a : Addr} {ccd : Value} {cl : List (Str × Addr)} {outer : List Env} {A₀ : Around} {base h₀ : Heap} {L : Addr} {m : Str → Option Value} {news : CbLed} {s : Shared} {Q E : Value → Shared → Prop} {ml : Addr} {vs : List Value} {kk : Nat} {ns : List Int} {n : Int} {tn : Tok}
    (B : Below A₀ base outer h₀) (F : Fr h₀ L s.heap m) (X : (Mine.hd.heap_39 w.params).In h₀) (N : News h₀ L s.heap news) (T : Top Mine.hd.view_39 (looseW Mine.hd.view_39 []) mean mg mb h₀) (hk : cs.kind = .function) (hm : (ml, listOf vs.toArray kk) ∈ news) (hM : Mem vs ns) (hd : dp + 2 < recursionLimit) (hu : un + 16 < cLine)
    (hret : ∀ (t : Tok) (h' : Heap) (tk' : Nat), Fr h₀ L h' m → News h₀ L h' news → Q (.int ((n + 1 + signedOctet (cell ns n)) % 65536) t) { s with heap := h', toks := tk' }) :
    wpAny (model PySem.Challenge.rw_nz0573_01.row.prog w) (ktrTop dp un gd cn cs L a ccd cl outer) (call (.ref 70) [Value.ref ml, Value.int n tn]) Q E s := by
  revert X; k_fill; intro X
  replace N := newsCons N hm
  have hMi := hM.are
  have hMl := hM.size
  all_goals (refine wpAny_call ?_; k_dflt cell_enter; (try ((with_reducible rename Fr _ _ _ (fun y => List.lookup y _) => kF0); replace kF0 : Fr _ _ _ (fun yy => List.lookup yy [(Str.ofString "at", Value.int n tn), (Str.ofString "memory", Value.ref ml)]) := kF0)); (with_reducible refine' ex_use0 ([(ml, listOf vs.toArray kk)]) (VI _) ?hk ?X ?TR ?F ?N ?hb ?H ?k); k_dflt ((case X => assumption); (case TR => exact topRead_of (by assumption)); (case F => k_asm); (case N => k_asm); (case hk => exact rfl); (case hb => first | exact Sub.no | exact Sub.cons (.head _) Sub.no)); (case H => repeat' ((with_reducible show (_ : Prop)); first | (with_reducible first | exact evConst | exact evBool | exact Ks.nil | refine' Ks.cons ?_ | exact cpEq | exact cpNe | exact cpLt | exact cpGt | exact cpLe | exact cpNeB | exact cpEqS | exact cpNeS | exact cnIn | exact cnNot | refine' evShr ?_ ?_ ?_ | refine' evAnd ?_ ?_ | refine' evMod ?_ ?_ ?_ | refine' evSub ?_ ?_ | refine' evAdd ?_ ?_ | refine' evOr ?_ ?_ | refine' evShl ?_ ?_ ?_ ?_ | refine' evIn ?_ ?_ ?_ ?_ ?_ | refine' isIn ?_ ?_ ?_ ?_ ?_ | refine' evCmp ?_ ?_ ?_ ?_ | refine' isCmp ?_ ?_ ?_ ?_ | refine' evChain ?_ ?_ ?_ ?_ ?_ ?_ | refine' isNot ?_ | refine' evNot ?_ | refine' isAnd ?_ ?_ | refine' isAnd1 ?_ | refine' isOr ?_ ?_ | refine' isOr1 ?_ | refine' evBAnd ?_ ?_ | refine' evBOr ?_ ?_ | refine' evB1 ?_ | refine' evIf ?_ ?_ ?_ | refine' exRet ?_ | refine' exIf ?_ ?_ ?_ | refine' exAsg3 ?_ ?_ ?_ ?_ ?_ ?_ ?_ ?_ ?_ ?_ ?_ ?_ ?_ | refine' exAsg2 ?_ ?_ ?_ ?_ ?_ ?_ ?_ ?_ ?_ ?_ | refine' call1 ?_ ?_ ?_ ?_ ?_ ?_ ?_ ?_ ?_ | refine' call2 ?_ ?_ ?_ ?_ ?_ ?_ ?_ ?_ ?_ ?_ ?_ | refine' call3 ?_ ?_ ?_ ?_ ?_ ?_ ?_ ?_ ?_ ?_ ?_ ?_ ?_ | refine' call4 ?_ ?_ ?_ ?_ ?_ ?_ ?_ ?_ ?_ ?_ ?_ ?_ ?_ ?_ ?_ | refine' call5 ?_ ?_ ?_ ?_ ?_ ?_ ?_ ?_ ?_ ?_ ?_ ?_ ?_ ?_ ?_ ?_ ?_ | refine' exAsgI ?_ ?_ ?_ ?_ | refine' isCall ?_) | ((with_reducible show _ = _); first | kernel_rfl! | (k_is; done) | exact rfl | fail "eq") | ((with_reducible show EvP _ _ (PySem.Expr.Name _ _) _); first | exact evName rfl (by kernel_rfl!) (by kernel_rfl!) | exact evNameV rfl (by kernel_rfl!) (by kernel_rfl!) | fail "name") | ((with_reducible show IsT _ _ _ _); first | exact isName rfl (by kernel_rfl!) (by kernel_rfl!) | (with_reducible refine' isW ?_) | fail "isT") | ((with_reducible show CallP _ _ _ _ _); first | (refine' CallP.mk ?_; intro nw8 s8 q8 I8 k8; obtain ⟨F8, N8, S8⟩ := I8; refine' peek_c ?k1 F8 ?k3 N8 ?k5 ?kK ?hm ?hM ?kd ?ku ?_; (case k1 => assumption); (case k3 => assumption); (case k5 => assumption); (case hm => first | exact S8 _ (.head _) | exact S8 _ (List.mem_append_right _ (.head _))); (case hM => assumption); (case kK => first | exact rfl | assumption); (case kd => ktr_room); (case ku => ktr_units); intro t8 h8 tk8 c8 c8 F9 N9; exact k8 _ [] _ _ _ (show VI _ _ _ from ⟨rfl, t8, rfl⟩) Sub.no Sub.refl' ⟨F9, N9, S8⟩) | (refine' CallP.mk ?_; intro nw8 s8 q8 I8 k8; obtain ⟨F8, N8, S8⟩ := I8; refine' signed_octet_c ?k1 F8 ?k3 N8 ?k5 ?kK  ?kd ?ku ?_; (case k1 => assumption); (case k3 => assumption); (case k5 => assumption);  (case kK => first | exact rfl | assumption); (case kd => ktr_room); (case ku => ktr_units); intro t8 h8 tk8 F9 N9; exact k8 _ [] _ _ _ (show VI _ _ _ from ⟨rfl, t8, rfl⟩) Sub.no Sub.refl' ⟨F9, N9, S8⟩) | fail "call") | (intro t1 t2 t3) | (intro t1 t2) | ((with_reducible show ∀ t : Tok, Ex _ _ _ _); intro t1) | ((with_reducible show ∀ t : Tok, CallP _ _ _ _ _); intro t1) | (exact cell_abs (by assumption) _) | fail "none")); rintro v9 led9 news9 h9 tk9 m9 ⟨rfl, t9, rfl⟩ l9 s9 F9 N9; (try dsimp only); k_steps)
  all_goals (
    refine' cb_retI (Q := Q) hret ?e1 ?e2 ?e3
    (case e2 => ((with_reducible rename Fr _ _ _ _ => kFF); exact kFF))
    (case e3 => ((with_reducible rename News _ _ _ _ => kNN); exact newsSub kNN (by first | exact s9 | exact fun p hp => s9 p (.tail _ hp) | (intro p hp; repeat (first | exact hp | apply List.Mem.tail)))))
    (case e1 => exact bitAnd_m16 _))
theorem lines_S2_1 : True := by
  k_with "call ref" => (k_here; k_dflt (refine' main_length_c ?k1 ?k2 ?k3 ?k4 ?k5 ?kK  ?kd ?ku ?_; (case k1 => k_asm); (case k2 => k_asm); (case k3 => k_asm); (case k4 => k_asm); (case k5 => k_asm);  (case kK => first | exact rfl | assumption); (case kd => ktr_room); (case ku => ktr_units)); intro t9 h9 tk9  F9 N9; (try dsimp only); (try k_sweep); (all_goals try k_fold))
  k_with "call ref" => (k_here; k_dflt (refine' uses_memory_c ?k1 ?k2 ?k3 ?k4 ?k5 ?kK  ?kd ?ku ?_; (case k1 => k_asm); (case k2 => k_asm); (case k3 => k_asm); (case k4 => k_asm); (case k5 => k_asm);  (case kK => first | exact rfl | assumption); (case kd => ktr_room); (case ku => ktr_units)); intro t9 h9 tk9  F9 N9; (try dsimp only); (try k_sweep); (all_goals try k_fold))
  k_with "call ref" => (k_here; k_dflt (refine' can_main_c ?k1 ?k2 ?k3 ?k4 ?k5 ?kK  ?kd ?ku ?_; (case k1 => k_asm); (case k2 => k_asm); (case k3 => k_asm); (case k4 => k_asm); (case k5 => k_asm);  (case kK => first | exact rfl | assumption); (case kd => ktr_room); (case ku => ktr_units)); intro t9 h9 tk9  F9 N9; (try dsimp only); (try k_sweep); (all_goals try k_fold))
  k_with "call ref" => (k_here; k_dflt (refine' turns_by_index_c ?k1 ?k2 ?k3 ?k4 ?k5 ?kK  ?kd ?ku ?_; (case k1 => k_asm); (case k2 => k_asm); (case k3 => k_asm); (case k4 => k_asm); (case k5 => k_asm);  (case kK => first | exact rfl | assumption); (case kd => ktr_room); (case ku => ktr_units)); intro t9 h9 tk9  F9 N9; (try dsimp only); (try k_sweep); (all_goals try k_fold))
  k_with "call ref" => (k_here; k_dflt (refine' is_beside_c ?k1 ?k2 ?k3 ?k4 ?k5 ?kK  ?kd ?ku ?_; (case k1 => k_asm); (case k2 => k_asm); (case k3 => k_asm); (case k4 => k_asm); (case k5 => k_asm);  (case kK => first | exact rfl | assumption); (case kd => ktr_room); (case ku => ktr_units)); intro t9 h9 tk9  F9 N9; (try dsimp only); (try k_sweep); (all_goals try k_fold))
  k_with "call ref" => (k_here; k_dflt (refine' far_octets_c ?k1 ?k2 ?k3 ?k4 ?k5 ?kK  ?kd ?ku ?_; (case k1 => k_asm); (case k2 => k_asm); (case k3 => k_asm); (case k4 => k_asm); (case k5 => k_asm);  (case kK => first | exact rfl | assumption); (case kd => ktr_room); (case ku => ktr_units)); intro t9 h9 tk9  F9 N9; (try dsimp only); (try k_sweep); (all_goals try k_fold))
  trivial
theorem length_of_c {w : World} {mean : ExcName → Option Value} {mg mb : Str → Option Value} {dp un : Nat} {gd : Option (List Code)} {cn : Str} {cs : Scope} {a : Addr} {ccd : Value} {cl : List (Str × Addr)} {outer : List Env} {A₀ : Around} {base h₀ : Heap} {L : Addr} {m : Str → Option Value} {news : CbLed} {s : Shared} {Q E : Value → Shared → Prop} {ml : Addr} {vs : List Value} {kk : Nat} {ns : List Int} {n : Int} {tn : Tok}
    (B : Below A₀ base outer h₀) (F : Fr h₀ L s.heap m) (X : (Mine.hd.heap_39 w.params).In h₀) (N : News h₀ L s.heap news) (T : Top Mine.hd.view_39 (looseW Mine.hd.view_39 []) mean mg mb h₀) (hk : cs.kind = .function) (hm : (ml, listOf vs.toArray kk) ∈ news) (hM : Mem vs ns) (hd : dp + 2 < recursionLimit) (hu : un + 16 < cLine)
    (hret : ∀ (t : Tok) (h' : Heap) (tk' : Nat), Fr h₀ L h' m → News h₀ L h' news → Q (.int (lengthOf (cell ns n) (cell ns (n + 1))) t) { s with heap := h', toks := tk' }) :
    wpAny (model PySem.Challenge.rw_nz0573_01.row.prog w) (ktrTop dp un gd cn cs L a ccd cl outer) (call (.ref 201) [Value.ref ml, Value.int n tn]) Q E s := by
  revert X; k_fill; intro X
  replace N := newsCons N hm
  have hMi := hM.are
  have hMl := hM.size
  all_goals (refine wpAny_call ?_; k_dflt cell_enter; (try ((with_reducible rename Fr _ _ _ (fun y => List.lookup y _) => kF0); replace kF0 : Fr _ _ _ (fun yy => List.lookup yy [(Str.ofString "at", Value.int n tn), (Str.ofString "memory", Value.ref ml)]) := kF0)); (with_reducible refine' ex_use0 ([(ml, listOf vs.toArray kk)]) (VI _) ?hk ?X ?TR ?F ?N ?hb ?H ?k); k_dflt ((case X => assumption); (case TR => exact topRead_of (by assumption)); (case F => k_asm); (case N => k_asm); (case hk => exact rfl); (case hb => first | exact Sub.no | exact Sub.cons (.head _) Sub.no)); (case H => repeat' ((with_reducible show (_ : Prop)); first | (with_reducible first | exact evConst | exact evBool | exact Ks.nil | refine' Ks.cons ?_ | exact cpEq | exact cpNe | exact cpLt | exact cpGt | exact cpLe | exact cpNeB | exact cpEqS | exact cpNeS | exact cnIn | exact cnNot | refine' evShr ?_ ?_ ?_ | refine' evAnd ?_ ?_ | refine' evMod ?_ ?_ ?_ | refine' evSub ?_ ?_ | refine' evAdd ?_ ?_ | refine' evOr ?_ ?_ | refine' evShl ?_ ?_ ?_ ?_ | refine' evIn ?_ ?_ ?_ ?_ ?_ | refine' isIn ?_ ?_ ?_ ?_ ?_ | refine' evCmp ?_ ?_ ?_ ?_ | refine' isCmp ?_ ?_ ?_ ?_ | refine' evChain ?_ ?_ ?_ ?_ ?_ ?_ | refine' isNot ?_ | refine' evNot ?_ | refine' isAnd ?_ ?_ | refine' isAnd1 ?_ | refine' isOr ?_ ?_ | refine' isOr1 ?_ | refine' evBAnd ?_ ?_ | refine' evBOr ?_ ?_ | refine' evB1 ?_ | refine' evIf ?_ ?_ ?_ | refine' exRet ?_ | refine' exIf ?_ ?_ ?_ | refine' exAsg3 ?_ ?_ ?_ ?_ ?_ ?_ ?_ ?_ ?_ ?_ ?_ ?_ ?_ | refine' exAsg2 ?_ ?_ ?_ ?_ ?_ ?_ ?_ ?_ ?_ ?_ | refine' call1 ?_ ?_ ?_ ?_ ?_ ?_ ?_ ?_ ?_ | refine' call2 ?_ ?_ ?_ ?_ ?_ ?_ ?_ ?_ ?_ ?_ ?_ | refine' call3 ?_ ?_ ?_ ?_ ?_ ?_ ?_ ?_ ?_ ?_ ?_ ?_ ?_ | refine' call4 ?_ ?_ ?_ ?_ ?_ ?_ ?_ ?_ ?_ ?_ ?_ ?_ ?_ ?_ ?_ | refine' call5 ?_ ?_ ?_ ?_ ?_ ?_ ?_ ?_ ?_ ?_ ?_ ?_ ?_ ?_ ?_ ?_ ?_ | refine' exAsgI ?_ ?_ ?_ ?_ | refine' isCall ?_) | ((with_reducible show _ = _); first | kernel_rfl! | (k_is; done) | exact rfl | fail "eq") | ((with_reducible show EvP _ _ (PySem.Expr.Name _ _) _); first | exact evName rfl (by kernel_rfl!) (by kernel_rfl!) | exact evNameV rfl (by kernel_rfl!) (by kernel_rfl!) | fail "name") | ((with_reducible show IsT _ _ _ _); first | exact isName rfl (by kernel_rfl!) (by kernel_rfl!) | (with_reducible refine' isW ?_) | fail "isT") | ((with_reducible show CallP _ _ _ _ _); first | (refine' CallP.mk ?_; intro nw8 s8 q8 I8 k8; obtain ⟨F8, N8, S8⟩ := I8; refine' peek_c ?k1 F8 ?k3 N8 ?k5 ?kK ?hm ?hM ?kd ?ku ?_; (case k1 => assumption); (case k3 => assumption); (case k5 => assumption); (case hm => first | exact S8 _ (.head _) | exact S8 _ (List.mem_append_right _ (.head _))); (case hM => assumption); (case kK => first | exact rfl | assumption); (case kd => ktr_room); (case ku => ktr_units); intro t8 h8 tk8 c8 c8 F9 N9; exact k8 _ [] _ _ _ (show VI _ _ _ from ⟨rfl, t8, rfl⟩) Sub.no Sub.refl' ⟨F9, N9, S8⟩) | (refine' CallP.mk ?_; intro nw8 s8 q8 I8 k8; obtain ⟨F8, N8, S8⟩ := I8; refine' main_length_c ?k1 F8 ?k3 N8 ?k5 ?kK  ?kd ?ku ?_; (case k1 => assumption); (case k3 => assumption); (case k5 => assumption);  (case kK => first | exact rfl | assumption); (case kd => ktr_room); (case ku => ktr_units); intro t8 h8 tk8 F9 N9; exact k8 _ [] _ _ _ (show VI _ _ _ from ⟨rfl, t8, rfl⟩) Sub.no Sub.refl' ⟨F9, N9, S8⟩) | (refine' CallP.mk ?_; intro nw8 s8 q8 I8 k8; obtain ⟨F8, N8, S8⟩ := I8; refine' uses_memory_c ?k1 F8 ?k3 N8 ?k5 ?kK  ?kd ?ku ?_; (case k1 => assumption); (case k3 => assumption); (case k5 => assumption);  (case kK => first | exact rfl | assumption); (case kd => ktr_room); (case ku => ktr_units); intro t8 h8 tk8 F9 N9; exact k8 _ [] _ _ _ (show VBo _ _ _ from ⟨rfl, default, rfl⟩) Sub.no Sub.refl' ⟨F9, N9, S8⟩) | fail "call") | (intro t1 t2 t3) | (intro t1 t2) | ((with_reducible show ∀ t : Tok, Ex _ _ _ _); intro t1) | ((with_reducible show ∀ t : Tok, CallP _ _ _ _ _); intro t1) | (exact cell_abs (by assumption) _) | fail "none")); rintro v9 led9 news9 h9 tk9 m9 ⟨rfl, t9, rfl⟩ l9 s9 F9 N9; (try dsimp only); k_steps)
  all_goals (
    refine' cb_retI (Q := Q) hret ?e1 ?e2 ?e3
    (case e2 => ((with_reducible rename Fr _ _ _ _ => kFF); exact kFF))
    (case e3 => ((with_reducible rename News _ _ _ _ => kNN); exact newsSub kNN (by first | exact s9 | exact fun p hp => s9 p (.tail _ hp) | (intro p hp; repeat (first | exact hp | apply List.Mem.tail)))))
    (case e1 => exact lengthOf_b _ _))
theorem can_take_c {w : World} {mean : ExcName → Option Value} {mg mb : Str → Option Value} {dp un : Nat} {gd : Option (List Code)} {cn : Str} {cs : Scope} {a : Addr} {ccd : Value} {cl : List (Str × Addr)} {outer : List Env} {A₀ : Around} {base h₀ : Heap} {L : Addr} {m : Str → Option Value} {news : CbLed} {s : Shared} {Q E : Value → Shared → Prop} {ml : Addr} {vs : List Value} {kk : Nat} {ns : List Int} {n : Int} {tn : Tok}
    (B : Below A₀ base outer h₀) (F : Fr h₀ L s.heap m) (X : (Mine.hd.heap_39 w.params).In h₀) (N : News h₀ L s.heap news) (T : Top Mine.hd.view_39 (looseW Mine.hd.view_39 []) mean mg mb h₀) (hk : cs.kind = .function) (hm : (ml, listOf vs.toArray kk) ∈ news) (hM : Mem vs ns) (hd : dp + 2 < recursionLimit) (hu : un + 16 < cLine)
    (hret : ∀ (t : Tok) (h' : Heap) (tk' : Nat), Fr h₀ L h' m → News h₀ L h' news → Q (.bool (canTake (cell ns n) (cell ns (n + 1)))) { s with heap := h', toks := tk' }) :
    wpAny (model PySem.Challenge.rw_nz0573_01.row.prog w) (ktrTop dp un gd cn cs L a ccd cl outer) (call (.ref 215) [Value.ref ml, Value.int n tn]) Q E s := by
  revert X; k_fill; intro X
  replace N := newsCons N hm
  have hMi := hM.are
  have hMl := hM.size
  all_goals (refine wpAny_call ?_; k_dflt cell_enter; (try ((with_reducible rename Fr _ _ _ (fun y => List.lookup y _) => kF0); replace kF0 : Fr _ _ _ (fun yy => List.lookup yy [(Str.ofString "at", Value.int n tn), (Str.ofString "memory", Value.ref ml)]) := kF0)); (with_reducible refine' ex_use0 ([(ml, listOf vs.toArray kk)]) (VBo _) ?hk ?X ?TR ?F ?N ?hb ?H ?k); k_dflt ((case X => assumption); (case TR => exact topRead_of (by assumption)); (case F => k_asm); (case N => k_asm); (case hk => exact rfl); (case hb => first | exact Sub.no | exact Sub.cons (.head _) Sub.no)); (case H => repeat' ((with_reducible show (_ : Prop)); first | (with_reducible first | exact evConst | exact evBool | exact Ks.nil | refine' Ks.cons ?_ | exact cpEq | exact cpNe | exact cpLt | exact cpGt | exact cpLe | exact cpNeB | exact cpEqS | exact cpNeS | exact cnIn | exact cnNot | refine' evShr ?_ ?_ ?_ | refine' evAnd ?_ ?_ | refine' evMod ?_ ?_ ?_ | refine' evSub ?_ ?_ | refine' evAdd ?_ ?_ | refine' evOr ?_ ?_ | refine' evShl ?_ ?_ ?_ ?_ | refine' evIn ?_ ?_ ?_ ?_ ?_ | refine' isIn ?_ ?_ ?_ ?_ ?_ | refine' evCmp ?_ ?_ ?_ ?_ | refine' isCmp ?_ ?_ ?_ ?_ | refine' evChain ?_ ?_ ?_ ?_ ?_ ?_ | refine' isNot ?_ | refine' evNot ?_ | refine' isAnd ?_ ?_ | refine' isAnd1 ?_ | refine' isOr ?_ ?_ | refine' isOr1 ?_ | refine' evBAnd ?_ ?_ | refine' evBOr ?_ ?_ | refine' evB1 ?_ | refine' evIfB ?_ ?_ ?_ | refine' exRet ?_ | refine' exIfB ?_ ?_ ?_ | refine' exAsg3 ?_ ?_ ?_ ?_ ?_ ?_ ?_ ?_ ?_ ?_ ?_ ?_ ?_ | refine' exAsg2 ?_ ?_ ?_ ?_ ?_ ?_ ?_ ?_ ?_ ?_ | refine' call1 ?_ ?_ ?_ ?_ ?_ ?_ ?_ ?_ ?_ | refine' call2 ?_ ?_ ?_ ?_ ?_ ?_ ?_ ?_ ?_ ?_ ?_ | refine' call3 ?_ ?_ ?_ ?_ ?_ ?_ ?_ ?_ ?_ ?_ ?_ ?_ ?_ | refine' call4 ?_ ?_ ?_ ?_ ?_ ?_ ?_ ?_ ?_ ?_ ?_ ?_ ?_ ?_ ?_ | refine' call5 ?_ ?_ ?_ ?_ ?_ ?_ ?_ ?_ ?_ ?_ ?_ ?_ ?_ ?_ ?_ ?_ ?_ | refine' exAsgI ?_ ?_ ?_ ?_ | refine' isCall ?_) | ((with_reducible show _ = _); first | kernel_rfl! | (k_is; done) | exact rfl | fail "eq") | ((with_reducible show EvP _ _ (PySem.Expr.Name _ _) _); first | exact evName rfl (by kernel_rfl!) (by kernel_rfl!) | exact evNameV rfl (by kernel_rfl!) (by kernel_rfl!) | fail "name") | ((with_reducible show IsT _ _ _ _); first | exact isName rfl (by kernel_rfl!) (by kernel_rfl!) | (with_reducible refine' isW ?_) | fail "isT") | ((with_reducible show CallP _ _ _ _ _); first | (refine' CallP.mk ?_; intro nw8 s8 q8 I8 k8; obtain ⟨F8, N8, S8⟩ := I8; refine' peek_c ?k1 F8 ?k3 N8 ?k5 ?kK ?hm ?hM ?kd ?ku ?_; (case k1 => assumption); (case k3 => assumption); (case k5 => assumption); (case hm => first | exact S8 _ (.head _) | exact S8 _ (List.mem_append_right _ (.head _))); (case hM => assumption); (case kK => first | exact rfl | assumption); (case kd => ktr_room); (case ku => ktr_units); intro t8 h8 tk8 c8 c8 F9 N9; exact k8 _ [] _ _ _ (show VI _ _ _ from ⟨rfl, t8, rfl⟩) Sub.no Sub.refl' ⟨F9, N9, S8⟩) | (refine' CallP.mk ?_; intro nw8 s8 q8 I8 k8; obtain ⟨F8, N8, S8⟩ := I8; refine' can_main_c ?k1 F8 ?k3 N8 ?k5 ?kK  ?kd ?ku ?_; (case k1 => assumption); (case k3 => assumption); (case k5 => assumption);  (case kK => first | exact rfl | assumption); (case kd => ktr_room); (case ku => ktr_units); intro t8 h8 tk8 F9 N9; exact k8 _ [] _ _ _ (show VBo _ _ _ from ⟨rfl, default, rfl⟩) Sub.no Sub.refl' ⟨F9, N9, S8⟩) | fail "call") | (intro t1 t2 t3) | (intro t1 t2) | ((with_reducible show ∀ t : Tok, Ex _ _ _ _); intro t1) | ((with_reducible show ∀ t : Tok, CallP _ _ _ _ _); intro t1) | (exact cell_abs (by assumption) _) | fail "none")); rintro v9 led9 news9 h9 tk9 m9 ⟨rfl, t9, rfl⟩ l9 s9 F9 N9; (try dsimp only); k_steps)
  all_goals (
    refine' cb_retB (Q := Q) hret ?e1 ?e2 ?e3
    (case e2 => ((with_reducible rename Fr _ _ _ _ => kFF); exact kFF))
    (case e3 => ((with_reducible rename News _ _ _ _ => kNN); exact newsSub kNN (by first | exact s9 | exact fun p hp => s9 p (.tail _ hp) | (intro p hp; repeat (first | exact hp | apply List.Mem.tail)))))
    (case e1 => exact canTake_b _ _))
theorem codes_right_c {w : World} {mean : ExcName → Option Value} {mg mb : Str → Option Value} {dp un : Nat} {gd : Option (List Code)} {cn : Str} {cs : Scope} {a : Addr} {ccd : Value} {cl : List (Str × Addr)} {outer : List Env} {A₀ : Around} {base h₀ : Heap} {L : Addr} {m : Str → Option Value} {news : CbLed} {s : Shared} {Q E : Value → Shared → Prop} {n : Int} {tn : Tok}
    (B : Below A₀ base outer h₀) (F : Fr h₀ L s.heap m) (X : (Mine.hd.heap_39 w.params).In h₀) (N : News h₀ L s.heap news) (T : Top Mine.hd.view_39 (looseW Mine.hd.view_39 []) mean mg mb h₀) (hk : cs.kind = .function) (p0 : 0 ≤ n) (p1 : n < 256) (hd : dp + 2 < recursionLimit) (hu : un + 16 < cLine)
    (hret : ∀ (t : Tok) (h' : Heap) (tk' : Nat), Fr h₀ L h' m → News h₀ L h' news → Q (.bool (true)) { s with heap := h', toks := tk' }) :
    wpAny (model PySem.Challenge.rw_nz0573_01.row.prog w) (ktrTop dp un gd cn cs L a ccd cl outer) (call (.ref 229) [Value.int n tn]) Q E s := by
  revert X; k_fill; intro X
  all_goals (refine wpAny_call ?_; k_dflt cell_enter; (try ((with_reducible rename Fr _ _ _ (fun y => List.lookup y _) => kF0); replace kF0 : Fr _ _ _ (fun yy => List.lookup yy [(Str.ofString "octet", Value.int n tn)]) := kF0)); (with_reducible refine' ex_use0 ([]) (VBo _) ?hk ?X ?TR ?F ?N ?hb ?H ?k); k_dflt ((case X => assumption); (case TR => exact topRead_of (by assumption)); (case F => k_asm); (case N => k_asm); (case hk => exact rfl); (case hb => first | exact Sub.no | exact Sub.cons (.head _) Sub.no)); (case H => repeat' ((with_reducible show (_ : Prop)); first | (with_reducible first | exact evConst | exact evBool | exact Ks.nil | refine' Ks.cons ?_ | exact cpEq | exact cpNe | exact cpLt | exact cpGt | exact cpLe | exact cpNeB | exact cpEqS | exact cpNeS | exact cnIn | exact cnNot | refine' evShr ?_ ?_ ?_ | refine' evAnd ?_ ?_ | refine' evMod ?_ ?_ ?_ | refine' evSub ?_ ?_ | refine' evAdd ?_ ?_ | refine' evOr ?_ ?_ | refine' evShl ?_ ?_ ?_ ?_ | refine' evIn ?_ ?_ ?_ ?_ ?_ | refine' isIn ?_ ?_ ?_ ?_ ?_ | refine' evCmp ?_ ?_ ?_ ?_ | refine' isCmp ?_ ?_ ?_ ?_ | refine' evChain ?_ ?_ ?_ ?_ ?_ ?_ | refine' isNot ?_ | refine' evNot ?_ | refine' isAnd ?_ ?_ | refine' isAnd1 ?_ | refine' isOr ?_ ?_ | refine' isOr1 ?_ | refine' evBAnd ?_ ?_ | refine' evBOr ?_ ?_ | refine' evB1 ?_ | refine' evIfB ?_ ?_ ?_ | refine' exRet ?_ | refine' exIfB ?_ ?_ ?_ | refine' exAsg3 ?_ ?_ ?_ ?_ ?_ ?_ ?_ ?_ ?_ ?_ ?_ ?_ ?_ | refine' exAsg2 ?_ ?_ ?_ ?_ ?_ ?_ ?_ ?_ ?_ ?_ | refine' call1 ?_ ?_ ?_ ?_ ?_ ?_ ?_ ?_ ?_ | refine' call2 ?_ ?_ ?_ ?_ ?_ ?_ ?_ ?_ ?_ ?_ ?_ | refine' call3 ?_ ?_ ?_ ?_ ?_ ?_ ?_ ?_ ?_ ?_ ?_ ?_ ?_ | refine' call4 ?_ ?_ ?_ ?_ ?_ ?_ ?_ ?_ ?_ ?_ ?_ ?_ ?_ ?_ ?_ | refine' call5 ?_ ?_ ?_ ?_ ?_ ?_ ?_ ?_ ?_ ?_ ?_ ?_ ?_ ?_ ?_ ?_ ?_ | refine' exAsgI ?_ ?_ ?_ ?_ | refine' isCall ?_) | ((with_reducible show _ = _); first | kernel_rfl! | (k_is; done) | exact rfl | fail "eq") | ((with_reducible show EvP _ _ (PySem.Expr.Name _ _) _); first | exact evName rfl (by kernel_rfl!) (by kernel_rfl!) | exact evNameV rfl (by kernel_rfl!) (by kernel_rfl!) | fail "name") | ((with_reducible show IsT _ _ _ _); first | exact isName rfl (by kernel_rfl!) (by kernel_rfl!) | (with_reducible refine' isW ?_) | fail "isT") | ((with_reducible show CallP _ _ _ _ _); first | (refine' CallP.mk ?_; intro nw8 s8 q8 I8 k8; obtain ⟨F8, N8, S8⟩ := I8; refine' main_length_c ?k1 F8 ?k3 N8 ?k5 ?kK  ?kd ?ku ?_; (case k1 => assumption); (case k3 => assumption); (case k5 => assumption);  (case kK => first | exact rfl | assumption); (case kd => ktr_room); (case ku => ktr_units); intro t8 h8 tk8 F9 N9; exact k8 _ [] _ _ _ (show VI _ _ _ from ⟨rfl, t8, rfl⟩) Sub.no Sub.refl' ⟨F9, N9, S8⟩) | (refine' CallP.mk ?_; intro nw8 s8 q8 I8 k8; obtain ⟨F8, N8, S8⟩ := I8; refine' far_octets_c ?k1 F8 ?k3 N8 ?k5 ?kK  ?kd ?ku ?_; (case k1 => assumption); (case k3 => assumption); (case k5 => assumption);  (case kK => first | exact rfl | assumption); (case kd => ktr_room); (case ku => ktr_units); intro t8 h8 tk8 F9 N9; exact k8 _ [] _ _ _ (show VI _ _ _ from ⟨rfl, t8, rfl⟩) Sub.no Sub.refl' ⟨F9, N9, S8⟩) | (refine' CallP.mk ?_; intro nw8 s8 q8 I8 k8; obtain ⟨F8, N8, S8⟩ := I8; refine' is_beside_c ?k1 F8 ?k3 N8 ?k5 ?kK  ?kd ?ku ?_; (case k1 => assumption); (case k3 => assumption); (case k5 => assumption);  (case kK => first | exact rfl | assumption); (case kd => ktr_room); (case ku => ktr_units); intro t8 h8 tk8 F9 N9; exact k8 _ [] _ _ _ (show VBo _ _ _ from ⟨rfl, default, rfl⟩) Sub.no Sub.refl' ⟨F9, N9, S8⟩) | (refine' CallP.mk ?_; intro nw8 s8 q8 I8 k8; obtain ⟨F8, N8, S8⟩ := I8; refine' uses_memory_c ?k1 F8 ?k3 N8 ?k5 ?kK  ?kd ?ku ?_; (case k1 => assumption); (case k3 => assumption); (case k5 => assumption);  (case kK => first | exact rfl | assumption); (case kd => ktr_room); (case ku => ktr_units); intro t8 h8 tk8 F9 N9; exact k8 _ [] _ _ _ (show VBo _ _ _ from ⟨rfl, default, rfl⟩) Sub.no Sub.refl' ⟨F9, N9, S8⟩) | (refine' CallP.mk ?_; intro nw8 s8 q8 I8 k8; obtain ⟨F8, N8, S8⟩ := I8; refine' turns_by_index_c ?k1 F8 ?k3 N8 ?k5 ?kK  ?kd ?ku ?_; (case k1 => assumption); (case k3 => assumption); (case k5 => assumption);  (case kK => first | exact rfl | assumption); (case kd => ktr_room); (case ku => ktr_units); intro t8 h8 tk8 F9 N9; exact k8 _ [] _ _ _ (show VBo _ _ _ from ⟨rfl, default, rfl⟩) Sub.no Sub.refl' ⟨F9, N9, S8⟩) | fail "call") | (intro t1 t2 t3) | (intro t1 t2) | ((with_reducible show ∀ t : Tok, Ex _ _ _ _); intro t1) | ((with_reducible show ∀ t : Tok, CallP _ _ _ _ _); intro t1) | (exact cell_abs (by assumption) _) | fail "none")); rintro v9 led9 news9 h9 tk9 m9 ⟨rfl, t9, rfl⟩ l9 s9 F9 N9; (try dsimp only); k_steps)
  all_goals (
    refine' cb_retB (Q := Q) hret ?e1 ?e2 ?e3
    (case e2 => ((with_reducible rename Fr _ _ _ _ => kFF); exact kFF))
    (case e3 => ((with_reducible rename News _ _ _ _ => kNN); exact newsSub kNN (by first | exact s9 | exact fun p hp => s9 p (.tail _ hp) | (intro p hp; repeat (first | exact hp | apply List.Mem.tail)))))
    (case e1 => exact codes_b p0 p1))

-- S3
local macro_rules | `(tactic| k_room) => `(tactic| ktr_room)
theorem lines_S3_0 : True := by
  w_top off
  k_with_none
  k_with "subscriptTail" => (k_here; (with_reducible show wpAny _ _ (subscriptTail _ _ (Value.ref _) (Value.int _ _)) _ _ _); k_dflt (refine' pickName ?k1 ?k2 ?k3 ?k4 ?k5 ?_ ?k6; (case k1 => exact News.isList (by k_asm) (by k_mem)); (case k2 => repeat (first | exact Names.nil | refine Names.cons (by first | assumption | exact plain_of (by decide +kernel)) ?_)); (case k3 => l_idx); (case k4 => l_idx); (case k5 => l_idx); (case k6 => with_unfolding_all rfl); k_whole); intro x9 t9 p9; (try dsimp only); (all_goals try k_fold))
  k_with "subscriptTail" => (k_here; (with_reducible show wpAny _ _ (subscriptTail _ _ (Value.str _ _) (Value.int _ _)) _ _ _); (refine KXi.item (by kxi_len) (by first | omega | (law_clear; simp only [List.any_cons, List.any_nil, Bool.or_false, Bool.or_eq_true, beq_iff_eq] at *; omega)) (by first | omega | (law_clear; simp only [List.any_cons, List.any_nil, Bool.or_false, Bool.or_eq_true, beq_iff_eq] at *; omega)) (by decide) ?_); intro kxiE)
  trivial
theorem small_names_c {w : World} {mean : ExcName → Option Value} {mg mb : Str → Option Value} {dp un : Nat} {gd : Option (List Code)} {cn : Str} {cs : Scope} {a : Addr} {ccd : Value} {cl : List (Str × Addr)} {outer : List Env} {A₀ : Around} {base h₀ : Heap} {L : Addr} {m : Str → Option Value} {news : CbLed} {s : Shared} {Q E : Value → Shared → Prop}
    (B : Below A₀ base outer h₀) (F : Fr h₀ L s.heap m) (X : (Mine.hd.heap_39 w.params).In h₀) (N : News h₀ L s.heap news) (T : Top Mine.hd.view_39 (looseW Mine.hd.view_39 []) mean mg mb h₀) (hk : cs.kind = .function)  (hd : dp + 1 < recursionLimit) (hu : un + 8 < cLine)
    (hret : ∀ (v : Value) (led news' : CbLed) (h' : Heap) (tk' : Nat), LsOf (Vs Plain) 8 v led → Sub led news' → Sub news news' → Fr h₀ L h' m → News h₀ L h' news' → Q v { s with heap := h', toks := tk' }) :
    wpAny (model PySem.Challenge.rw_nz0573_01.row.prog w) (ktrTop dp un gd cn cs L a ccd cl outer) (call (.ref 42) []) Q E s := by
  revert X; k_fill; intro X
  all_goals (refine wpAny_call ?_; k_dflt cell_enter; skip; (with_reducible refine' ex_use0 ([]) (LsOf (Vs Plain) 8) ?hk ?X ?TR ?F ?N ?hb ?H ?k); k_dflt ((case X => assumption); (case TR => exact topRead_of (by assumption)); (case F => k_asm); (case N => k_asm); (case hk => exact rfl); (case hb => first | exact Sub.no | exact Sub.cons (.head _) Sub.no)); (case H => repeat' ((with_reducible show (_ : Prop)); first | ((with_reducible show EvP _ _ _ (OrN _ _ _)); (first | (with_reducible show EvP _ _ (PySem.Expr.Tuple _ _ _) _) | (with_reducible show EvP _ _ (PySem.Expr.Subscript _ _ _) _) | (with_reducible show EvP _ _ (PySem.Expr.Call _ _ _ _) _)); refine' evMono (P := OrdP V bs 2) ?_ orInr) | ((with_reducible refine' opS ?hk ?_ ?_ ?_); (case hk => with_reducible first | exact .inl rfl | exact .inr (.inl rfl) | exact .inr (.inr (.inl rfl)) | exact .inr (.inr (.inr rfl)))) | ((with_reducible refine' opSA ?hk ?_ ?_ ?_); (case hk => with_reducible first | exact .inl rfl | exact .inr (.inl rfl) | exact .inr (.inr (.inl rfl)) | exact .inr (.inr (.inr rfl)))) | ((with_reducible refine' opN ?hk ?_ ?_ ?_ ?_); (case hk => with_reducible first | exact .inl rfl | exact .inr rfl)) | (with_reducible first | exact evConst | exact evBool | exact Ks.nil | refine' Ks.cons ?_ | exact cpEq | exact cpNe | exact cpLt | exact cpGt | exact cpLe | exact cpNeB | exact cpEqS | exact cpNeS | exact cnIn | exact cnNot | refine' evShr ?_ ?_ ?_ | refine' evAnd ?_ ?_ | refine' evMod ?_ ?_ ?_ | refine' evSub ?_ ?_ | refine' evAdd ?_ ?_ | refine' evOr ?_ ?_ | refine' evShl ?_ ?_ ?_ ?_ | refine' evIn ?_ ?_ ?_ ?_ ?_ | refine' isIn ?_ ?_ ?_ ?_ ?_ | refine' evCmp ?_ ?_ ?_ ?_ | refine' isCmp ?_ ?_ ?_ ?_ | refine' evChain ?_ ?_ ?_ ?_ ?_ ?_ | refine' isNot ?_ | refine' evNot ?_ | refine' isAnd ?_ ?_ | refine' isAnd1 ?_ | refine' isOr ?_ ?_ | refine' isOr1 ?_ | refine' evBAnd ?_ ?_ | refine' evBOr ?_ ?_ | refine' evB1 ?_ | refine' evIfP ?_ ?_ ?_ | refine' exRet ?_ | refine' exIfP ?_ ?_ ?_ | refine' exAsg3 ?_ ?_ ?_ ?_ ?_ ?_ ?_ ?_ ?_ ?_ ?_ ?_ ?_ | refine' exAsg2 ?_ ?_ ?_ ?_ ?_ ?_ ?_ ?_ ?_ ?_ | refine' ordE ?_ ?_ ?_ ?_ | refine' lstE ?_ ?_ | refine' listE ?_ ?_ | exact rowNil | refine' rowCons ?_ ?_ ?_ | refine' esC ?_ | refine' pickOf ?_ ?_ ?_ ?_ ?_ ?_ | exact evStrC | refine' evNone ?_ | refine' evMul ?_ ?_ ?_ | refine' call1 ?_ ?_ ?_ ?_ ?_ ?_ ?_ ?_ ?_ | refine' call2 ?_ ?_ ?_ ?_ ?_ ?_ ?_ ?_ ?_ ?_ ?_ | refine' call3 ?_ ?_ ?_ ?_ ?_ ?_ ?_ ?_ ?_ ?_ ?_ ?_ ?_ | refine' call4 ?_ ?_ ?_ ?_ ?_ ?_ ?_ ?_ ?_ ?_ ?_ ?_ ?_ ?_ ?_ | refine' call5 ?_ ?_ ?_ ?_ ?_ ?_ ?_ ?_ ?_ ?_ ?_ ?_ ?_ ?_ ?_ ?_ ?_ | refine' call0 ?_ ?_ ?_ ?_ ?_ ?_) | ((with_reducible show _ = _); first | kernel_rfl! | (k_is; done) | exact rfl | fail "eq") | ((with_reducible show EvP _ _ (PySem.Expr.Name _ _) _); first | exact evName rfl (by kernel_rfl!) (by kernel_rfl!) | exact esN rfl (by kernel_rfl!) (by kernel_rfl!) trivial | exact esN rfl (by kernel_rfl!) (by kernel_rfl!) (by assumption) | exact opName rfl (List.mem_append_left _ (by assumption)) (by assumption) (by kernel_rfl!) (by kernel_rfl!) | exact opName rfl (.head _) (by assumption) (by kernel_rfl!) (by kernel_rfl!) | exact nmP rfl (by assumption) (fun _ h => List.mem_append_left _ h) (by kernel_rfl!) (by kernel_rfl!) | exact evNameV rfl (by kernel_rfl!) (by kernel_rfl!) | fail "name") | ((with_reducible show IsT _ _ _ _); first | exact isName rfl (by kernel_rfl!) (by kernel_rfl!) | (with_reducible refine' isW ?_) | fail "isT") | ((first | (with_reducible show _ = true → EvP _ _ _ _) | (with_reducible show _ = false → EvP _ _ _ _) | (with_reducible show _ = true → Ex _ _ _ _) | (with_reducible show _ = false → Ex _ _ _ _)); intro hb) | (intro t1 t2 t3) | (intro t1 t2) | ((with_reducible show ∀ t : Tok, CallP _ _ _ _ _); intro t1) | (intro l9 u9; with_unfolding_all rfl) | exact plain_of (by decide +kernel) | exact trivial | ((with_reducible show IntMulOk _ _); exact IntMulOk.of_left (by decide)) | ((with_reducible show OrN _ _ _ _ _); exact .inl rfl) | (exact hpr.1) | (exact hpr.2) | (exact hyr.1) | (exact hyr.2) | (exact hzr.1) | (exact hzr.2) | omega | (first | exact VLow.out (by assumption) _ hc09.2 | exact VLow.out (by assumption) _ (by omega) | exact VIf.out (by assumption) (farA (by assumption) (by assumption) (by assumption) (by assumption) (by assumption)) | exact VIf.out (by assumption) (farB (by assumption) (by assumption) (by assumption) (by assumption) (by assumption) (by assumption)) | fail "none") | fail "none")); intro v9 led9 news9 h9 tk9 m9 p9 l9 s9 F9 N9; (try dsimp only); k_steps)
  all_goals (
    (with_reducible rename Fr _ _ _ _ => kFF)
    (with_reducible rename News _ _ _ _ => kNN)
    exact hret _ _ _ _ _ p9 l9 s9 kFF kNN
)
theorem place_told_c {w : World} {mean : ExcName → Option Value} {mg mb : Str → Option Value} {dp un : Nat} {gd : Option (List Code)} {cn : Str} {cs : Scope} {a : Addr} {ccd : Value} {cl : List (Str × Addr)} {outer : List Env} {A₀ : Around} {base h₀ : Heap} {L : Addr} {m : Str → Option Value} {news : CbLed} {s : Shared} {Q E : Value → Shared → Prop} {V : Int → Prop} {code : Int} {tc : Tok} {ix : Str} {tx : Tok} {ba bs : Int} {tb : Tok}
    (B : Below A₀ base outer h₀) (F : Fr h₀ L s.heap m) (X : (Mine.hd.heap_39 w.params).In h₀) (N : News h₀ L s.heap news) (T : Top Mine.hd.view_39 (looseW Mine.hd.view_39 []) mean mg mb h₀) (hk : cs.kind = .function) (hVb : VB V bs) (p0 : 0 ≤ code) (p1 : code < 8) (hix : ix = Str.ofString "" ∨ ix = Str.ofString "IX" ∨ ix = Str.ofString "IY") (hbx : ix ≠ Str.ofString "" → ba = bs) (hd : dp + 2 < recursionLimit) (hu : un + 16 < cLine)
    (hret : ∀ (b : Addr) (o : Obj) (h' : Heap) (tk' : Nat), (∀ V, Opd V bs o) → Fr h₀ L h' m → News h₀ L h' ((b, o) :: news) → Q (.ref b) { s with heap := h', toks := tk' }) :
    wpAny (model PySem.Challenge.rw_nz0573_01.row.prog w) (ktrTop dp un gd cn cs L a ccd cl outer) (call (.ref 49) [Value.int code tc, Value.str ix tx, Value.int ba tb]) Q E s := by
  revert X; k_fill; intro X
  have hip := plain_ix hix
  all_goals (refine wpAny_call ?_; k_dflt cell_enter; (try ((with_reducible rename Fr _ _ _ (fun y => List.lookup y _) => kF0); replace kF0 : Fr _ _ _ (fun yy => List.lookup yy [(Str.ofString "beside", Value.int ba tb), (Str.ofString "index", Value.str ix tx), (Str.ofString "code", Value.int code tc)]) := kF0)); (with_reducible refine' ex_use0 ([]) (OpB bs) ?hk ?X ?TR ?F ?N ?hb ?H ?k); k_dflt ((case X => assumption); (case TR => exact topRead_of (by assumption)); (case F => k_asm); (case N => k_asm); (case hk => exact rfl); (case hb => first | exact Sub.no | exact Sub.cons (.head _) Sub.no)); (case H => repeat' ((with_reducible show (_ : Prop)); first | ((with_reducible show EvP _ _ _ (OrN _ _ _)); (first | (with_reducible show EvP _ _ (PySem.Expr.Tuple _ _ _) _) | (with_reducible show EvP _ _ (PySem.Expr.Subscript _ _ _) _) | (with_reducible show EvP _ _ (PySem.Expr.Call _ _ _ _) _)); refine' evMono (P := OrdP V bs 2) ?_ orInr) | ((with_reducible show EvP _ _ (PySem.Expr.Tuple [_, _] _ _) (OpB _)); refine' evMono (P := OpA) ?_ opAB) | ((with_reducible show EvP _ _ (PySem.Expr.Tuple [_, _, PySem.Expr.Name _ _] _ _) (OpB _)); obtain rfl := hbx (neStr (by assumption)); refine' opXB ?_ (evName rfl (by kernel_rfl!) (by kernel_rfl!)) ?_ ?_ ?_) | ((with_reducible show EvP _ _ (PySem.Expr.Call (PySem.Expr.Name (Str.ofString "small_names") _) _ _ _) _); refine' call0 ?_ ?_ ?_ ?_ ?_ ?_) | ((with_reducible show EvP _ _ (PySem.Expr.Subscript (PySem.Expr.Constant _ _ _) _ _) _); refine' strIdx ?_ rfl (cd45 (by assumption)).1 (cd45 (by assumption)).2 rfl (fun _ _ => by with_unfolding_all rfl) (fun _ _ => by with_unfolding_all rfl)) | (((with_reducible show EvP _ _ (PySem.Expr.Subscript _ _ _) (Vs fun _ => True)); refine' evMono (P := Vs Plain) ?_ vsTrue)) | ((with_reducible show EvP _ _ (PySem.Expr.BinOp _ _ _ _) (Vs fun _ => True)); refine' strAddE ?_ ?_) | ((with_reducible show EvP _ _ (PySem.Expr.Name _ _) (Vs Short)); exact esN rfl (by kernel_rfl!) (by kernel_rfl!) hip.short) | ((with_reducible refine' opS ?hk ?_ ?_ ?_); (case hk => with_reducible first | exact .inl rfl | exact .inr (.inl rfl) | exact .inr (.inr (.inl rfl)) | exact .inr (.inr (.inr rfl)))) | ((with_reducible refine' opSA ?hk ?_ ?_ ?_); (case hk => with_reducible first | exact .inl rfl | exact .inr (.inl rfl) | exact .inr (.inr (.inl rfl)) | exact .inr (.inr (.inr rfl)))) | ((with_reducible refine' opN ?hk ?_ ?_ ?_ ?_); (case hk => with_reducible first | exact .inl rfl | exact .inr rfl)) | (with_reducible first | exact evConst | exact evBool | exact Ks.nil | refine' Ks.cons ?_ | exact cpEq | exact cpNe | exact cpLt | exact cpGt | exact cpLe | exact cpNeB | exact cpEqS | exact cpNeS | exact cnIn | exact cnNot | refine' evShr ?_ ?_ ?_ | refine' evAnd ?_ ?_ | refine' evMod ?_ ?_ ?_ | refine' evSub ?_ ?_ | refine' evAdd ?_ ?_ | refine' evOr ?_ ?_ | refine' evShl ?_ ?_ ?_ ?_ | refine' evIn ?_ ?_ ?_ ?_ ?_ | refine' isIn ?_ ?_ ?_ ?_ ?_ | refine' evCmp ?_ ?_ ?_ ?_ | refine' isCmp ?_ ?_ ?_ ?_ | refine' evChain ?_ ?_ ?_ ?_ ?_ ?_ | refine' isNot ?_ | refine' evNot ?_ | refine' isAnd ?_ ?_ | refine' isAnd1 ?_ | refine' isOr ?_ ?_ | refine' isOr1 ?_ | refine' evBAnd ?_ ?_ | refine' evBOr ?_ ?_ | refine' evB1 ?_ | refine' evIfP ?_ ?_ ?_ | refine' exRet ?_ | refine' exIfP ?_ ?_ ?_ | refine' exAsg3 ?_ ?_ ?_ ?_ ?_ ?_ ?_ ?_ ?_ ?_ ?_ ?_ ?_ | refine' exAsg2 ?_ ?_ ?_ ?_ ?_ ?_ ?_ ?_ ?_ ?_ | refine' ordE ?_ ?_ ?_ ?_ | refine' lstE ?_ ?_ | refine' listE ?_ ?_ | exact rowNil | refine' rowCons ?_ ?_ ?_ | refine' esC ?_ | refine' pickOf ?_ ?_ ?_ ?_ ?_ ?_ | exact evStrC | refine' evNone ?_ | refine' evMul ?_ ?_ ?_ | refine' call1 ?_ ?_ ?_ ?_ ?_ ?_ ?_ ?_ ?_ | refine' call2 ?_ ?_ ?_ ?_ ?_ ?_ ?_ ?_ ?_ ?_ ?_ | refine' call3 ?_ ?_ ?_ ?_ ?_ ?_ ?_ ?_ ?_ ?_ ?_ ?_ ?_ | refine' call4 ?_ ?_ ?_ ?_ ?_ ?_ ?_ ?_ ?_ ?_ ?_ ?_ ?_ ?_ ?_ | refine' call5 ?_ ?_ ?_ ?_ ?_ ?_ ?_ ?_ ?_ ?_ ?_ ?_ ?_ ?_ ?_ ?_ ?_ | refine' call0 ?_ ?_ ?_ ?_ ?_ ?_) | ((with_reducible show _ = _); first | kernel_rfl! | (k_is; done) | exact rfl | fail "eq") | ((with_reducible show EvP _ _ (PySem.Expr.Name _ _) _); first | exact evName rfl (by kernel_rfl!) (by kernel_rfl!) | exact esN rfl (by kernel_rfl!) (by kernel_rfl!) trivial | exact esN rfl (by kernel_rfl!) (by kernel_rfl!) (by assumption) | exact opName rfl (List.mem_append_left _ (by assumption)) (by assumption) (by kernel_rfl!) (by kernel_rfl!) | exact opName rfl (.head _) (by assumption) (by kernel_rfl!) (by kernel_rfl!) | exact nmP rfl (by assumption) (fun _ h => List.mem_append_left _ h) (by kernel_rfl!) (by kernel_rfl!) | exact evNameV rfl (by kernel_rfl!) (by kernel_rfl!) | fail "name") | ((with_reducible show IsT _ _ _ _); first | exact isName rfl (by kernel_rfl!) (by kernel_rfl!) | (with_reducible refine' isW ?_) | fail "isT") | ((with_reducible show CallP _ _ _ _ _); first | (refine' CallP.mk ?_; intro nw8 s8 q8 I8 k8; obtain ⟨F8, N8, S8⟩ := I8; refine' small_names_c ?k1 F8 ?k3 N8 ?k5 ?kK  ?kd ?ku ?_; (case k1 => assumption); (case k3 => assumption); (case k5 => assumption);  (case kK => first | exact rfl | assumption); (case kd => ktr_room); (case ku => ktr_units); intro v9 led9 n9 h9 tk9 p9 l9 s9 F9 N9; exact k8 v9 led9 n9 h9 tk9 p9 l9 s9 ⟨F9, N9, S8.tr s9⟩) | fail "call") | ((first | (with_reducible show _ = true → EvP _ _ _ _) | (with_reducible show _ = false → EvP _ _ _ _) | (with_reducible show _ = true → Ex _ _ _ _) | (with_reducible show _ = false → Ex _ _ _ _)); intro hb) | (intro t1 t2 t3) | (intro t1 t2) | ((with_reducible show ∀ t : Tok, CallP _ _ _ _ _); intro t1) | (intro l9 u9; with_unfolding_all rfl) | exact plain_of (by decide +kernel) | exact trivial | ((with_reducible show IntMulOk _ _); exact IntMulOk.of_left (by decide)) | ((with_reducible show OrN _ _ _ _ _); exact .inl rfl) | (exact hpr.1) | (exact hpr.2) | (exact hyr.1) | (exact hyr.2) | (exact hzr.1) | (exact hzr.2) | (exact p0) | (exact p1) | omega | (first | fail "v" | fail "none") | fail "none")); intro v9 led9 news9 h9 tk9 m9 p9 l9 s9 F9 N9; (try dsimp only); k_steps)
  all_goals (
    (with_reducible rename Fr _ _ _ _ => kFF)
    (with_reducible rename News _ _ _ _ => kNN)
    exact opFinB (news := news) p9 l9 s9 kFF kNN (fun a o e ho F N => by subst e; exact hret a o _ _ ho F N)
)
theorem pair_told_c {w : World} {mean : ExcName → Option Value} {mg mb : Str → Option Value} {dp un : Nat} {gd : Option (List Code)} {cn : Str} {cs : Scope} {a : Addr} {ccd : Value} {cl : List (Str × Addr)} {outer : List Env} {A₀ : Around} {base h₀ : Heap} {L : Addr} {m : Str → Option Value} {news : CbLed} {s : Shared} {Q E : Value → Shared → Prop} {code : Int} {tc : Tok} {ix : Str} {tx : Tok} {la : Str} {tl : Tok}
    (B : Below A₀ base outer h₀) (F : Fr h₀ L s.heap m) (X : (Mine.hd.heap_39 w.params).In h₀) (N : News h₀ L s.heap news) (T : Top Mine.hd.view_39 (looseW Mine.hd.view_39 []) mean mg mb h₀) (hk : cs.kind = .function) (p0 : 0 ≤ code) (p1 : code < 4) (hix : ix = Str.ofString "" ∨ ix = Str.ofString "IX" ∨ ix = Str.ofString "IY") (hla : Plain la) (hd : dp + 2 < recursionLimit) (hu : un + 16 < cLine)
    (hret : ∀ (b : Addr) (o : Obj) (h' : Heap) (tk' : Nat), (∀ V b, Opd V b o) → Fr h₀ L h' m → News h₀ L h' ((b, o) :: news) → Q (.ref b) { s with heap := h', toks := tk' }) :
    wpAny (model PySem.Challenge.rw_nz0573_01.row.prog w) (ktrTop dp un gd cn cs L a ccd cl outer) (call (.ref 56) [Value.int code tc, Value.str ix tx, Value.str la tl]) Q E s := by
  revert X; k_fill; intro X
  have hip := plain_ix hix
  all_goals (refine wpAny_call ?_; k_dflt cell_enter; (try ((with_reducible rename Fr _ _ _ (fun y => List.lookup y _) => kF0); replace kF0 : Fr _ _ _ (fun yy => List.lookup yy [(Str.ofString "last", Value.str la tl), (Str.ofString "index", Value.str ix tx), (Str.ofString "code", Value.int code tc)]) := kF0)); (with_reducible refine' ex_use0 ([]) (OpA) ?hk ?X ?TR ?F ?N ?hb ?H ?k); k_dflt ((case X => assumption); (case TR => exact topRead_of (by assumption)); (case F => k_asm); (case N => k_asm); (case hk => exact rfl); (case hb => first | exact Sub.no | exact Sub.cons (.head _) Sub.no)); (case H => repeat' ((with_reducible show (_ : Prop)); first | ((with_reducible show EvP _ _ _ (OrN _ _ _)); (first | (with_reducible show EvP _ _ (PySem.Expr.Tuple _ _ _) _) | (with_reducible show EvP _ _ (PySem.Expr.Subscript _ _ _) _) | (with_reducible show EvP _ _ (PySem.Expr.Call _ _ _ _) _)); refine' evMono (P := OrdP V bs 2) ?_ orInr) | (((with_reducible show EvP _ _ (PySem.Expr.Subscript _ _ _) (Vs fun _ => True)); refine' evMono (P := Vs Plain) ?_ vsTrue)) | ((with_reducible refine' opS ?hk ?_ ?_ ?_); (case hk => with_reducible first | exact .inl rfl | exact .inr (.inl rfl) | exact .inr (.inr (.inl rfl)) | exact .inr (.inr (.inr rfl)))) | ((with_reducible refine' opSA ?hk ?_ ?_ ?_); (case hk => with_reducible first | exact .inl rfl | exact .inr (.inl rfl) | exact .inr (.inr (.inl rfl)) | exact .inr (.inr (.inr rfl)))) | ((with_reducible refine' opN ?hk ?_ ?_ ?_ ?_); (case hk => with_reducible first | exact .inl rfl | exact .inr rfl)) | (with_reducible first | exact evConst | exact evBool | exact Ks.nil | refine' Ks.cons ?_ | exact cpEq | exact cpNe | exact cpLt | exact cpGt | exact cpLe | exact cpNeB | exact cpEqS | exact cpNeS | exact cnIn | exact cnNot | refine' evShr ?_ ?_ ?_ | refine' evAnd ?_ ?_ | refine' evMod ?_ ?_ ?_ | refine' evSub ?_ ?_ | refine' evAdd ?_ ?_ | refine' evOr ?_ ?_ | refine' evShl ?_ ?_ ?_ ?_ | refine' evIn ?_ ?_ ?_ ?_ ?_ | refine' isIn ?_ ?_ ?_ ?_ ?_ | refine' evCmp ?_ ?_ ?_ ?_ | refine' isCmp ?_ ?_ ?_ ?_ | refine' evChain ?_ ?_ ?_ ?_ ?_ ?_ | refine' isNot ?_ | refine' evNot ?_ | refine' isAnd ?_ ?_ | refine' isAnd1 ?_ | refine' isOr ?_ ?_ | refine' isOr1 ?_ | refine' evBAnd ?_ ?_ | refine' evBOr ?_ ?_ | refine' evB1 ?_ | refine' evIfP ?_ ?_ ?_ | refine' exRet ?_ | refine' exIfP ?_ ?_ ?_ | refine' exAsg3 ?_ ?_ ?_ ?_ ?_ ?_ ?_ ?_ ?_ ?_ ?_ ?_ ?_ | refine' exAsg2 ?_ ?_ ?_ ?_ ?_ ?_ ?_ ?_ ?_ ?_ | refine' ordE ?_ ?_ ?_ ?_ | refine' lstE ?_ ?_ | refine' listE ?_ ?_ | exact rowNil | refine' rowCons ?_ ?_ ?_ | refine' esC ?_ | refine' pickOf ?_ ?_ ?_ ?_ ?_ ?_ | exact evStrC | refine' evNone ?_ | refine' evMul ?_ ?_ ?_ | refine' call1 ?_ ?_ ?_ ?_ ?_ ?_ ?_ ?_ ?_ | refine' call2 ?_ ?_ ?_ ?_ ?_ ?_ ?_ ?_ ?_ ?_ ?_ | refine' call3 ?_ ?_ ?_ ?_ ?_ ?_ ?_ ?_ ?_ ?_ ?_ ?_ ?_ | refine' call4 ?_ ?_ ?_ ?_ ?_ ?_ ?_ ?_ ?_ ?_ ?_ ?_ ?_ ?_ ?_ | refine' call5 ?_ ?_ ?_ ?_ ?_ ?_ ?_ ?_ ?_ ?_ ?_ ?_ ?_ ?_ ?_ ?_ ?_ | refine' call0 ?_ ?_ ?_ ?_ ?_ ?_) | ((with_reducible show _ = _); first | kernel_rfl! | (k_is; done) | exact rfl | fail "eq") | ((with_reducible show EvP _ _ (PySem.Expr.Name _ _) _); first | exact evName rfl (by kernel_rfl!) (by kernel_rfl!) | exact esN rfl (by kernel_rfl!) (by kernel_rfl!) trivial | exact esN rfl (by kernel_rfl!) (by kernel_rfl!) (by assumption) | exact opName rfl (List.mem_append_left _ (by assumption)) (by assumption) (by kernel_rfl!) (by kernel_rfl!) | exact opName rfl (.head _) (by assumption) (by kernel_rfl!) (by kernel_rfl!) | exact nmP rfl (by assumption) (fun _ h => List.mem_append_left _ h) (by kernel_rfl!) (by kernel_rfl!) | exact evNameV rfl (by kernel_rfl!) (by kernel_rfl!) | fail "name") | ((with_reducible show IsT _ _ _ _); first | exact isName rfl (by kernel_rfl!) (by kernel_rfl!) | (with_reducible refine' isW ?_) | fail "isT") | ((first | (with_reducible show _ = true → EvP _ _ _ _) | (with_reducible show _ = false → EvP _ _ _ _) | (with_reducible show _ = true → Ex _ _ _ _) | (with_reducible show _ = false → Ex _ _ _ _)); intro hb) | (intro t1 t2 t3) | (intro t1 t2) | ((with_reducible show ∀ t : Tok, CallP _ _ _ _ _); intro t1) | (intro l9 u9; with_unfolding_all rfl) | exact plain_of (by decide +kernel) | exact trivial | ((with_reducible show IntMulOk _ _); exact IntMulOk.of_left (by decide)) | ((with_reducible show OrN _ _ _ _ _); exact .inl rfl) | (exact hpr.1) | (exact hpr.2) | (exact hyr.1) | (exact hyr.2) | (exact hzr.1) | (exact hzr.2) | (exact p0) | (exact p1) | omega | (first | fail "v" | fail "none") | fail "none")); intro v9 led9 news9 h9 tk9 m9 p9 l9 s9 F9 N9; (try dsimp only); k_steps)
  all_goals (
    (with_reducible rename Fr _ _ _ _ => kFF)
    (with_reducible rename News _ _ _ _ => kNN)
    exact opFin (news := news) p9 l9 s9 kFF kNN (fun a o e ho F N => by subst e; exact hret a o _ _ ho F N)
)
theorem flag_told_c {w : World} {mean : ExcName → Option Value} {mg mb : Str → Option Value} {dp un : Nat} {gd : Option (List Code)} {cn : Str} {cs : Scope} {a : Addr} {ccd : Value} {cl : List (Str × Addr)} {outer : List Env} {A₀ : Around} {base h₀ : Heap} {L : Addr} {m : Str → Option Value} {news : CbLed} {s : Shared} {Q E : Value → Shared → Prop} {code : Int} {tc : Tok}
    (B : Below A₀ base outer h₀) (F : Fr h₀ L s.heap m) (X : (Mine.hd.heap_39 w.params).In h₀) (N : News h₀ L s.heap news) (T : Top Mine.hd.view_39 (looseW Mine.hd.view_39 []) mean mg mb h₀) (hk : cs.kind = .function) (p0 : 0 ≤ code) (p1 : code < 8) (hd : dp + 2 < recursionLimit) (hu : un + 16 < cLine)
    (hret : ∀ (b : Addr) (o : Obj) (h' : Heap) (tk' : Nat), (∀ V b, Opd V b o) → Fr h₀ L h' m → News h₀ L h' ((b, o) :: news) → Q (.ref b) { s with heap := h', toks := tk' }) :
    wpAny (model PySem.Challenge.rw_nz0573_01.row.prog w) (ktrTop dp un gd cn cs L a ccd cl outer) (call (.ref 63) [Value.int code tc]) Q E s := by
  revert X; k_fill; intro X
  all_goals (refine wpAny_call ?_; k_dflt cell_enter; (try ((with_reducible rename Fr _ _ _ (fun y => List.lookup y _) => kF0); replace kF0 : Fr _ _ _ (fun yy => List.lookup yy [(Str.ofString "code", Value.int code tc)]) := kF0)); (with_reducible refine' ex_use0 ([]) (OpA) ?hk ?X ?TR ?F ?N ?hb ?H ?k); k_dflt ((case X => assumption); (case TR => exact topRead_of (by assumption)); (case F => k_asm); (case N => k_asm); (case hk => exact rfl); (case hb => first | exact Sub.no | exact Sub.cons (.head _) Sub.no)); (case H => repeat' ((with_reducible show (_ : Prop)); first | ((with_reducible show EvP _ _ _ (OrN _ _ _)); (first | (with_reducible show EvP _ _ (PySem.Expr.Tuple _ _ _) _) | (with_reducible show EvP _ _ (PySem.Expr.Subscript _ _ _) _) | (with_reducible show EvP _ _ (PySem.Expr.Call _ _ _ _) _)); refine' evMono (P := OrdP V bs 2) ?_ orInr) | (((with_reducible show EvP _ _ (PySem.Expr.Subscript _ _ _) (Vs fun _ => True)); refine' evMono (P := Vs Plain) ?_ vsTrue)) | ((with_reducible refine' opS ?hk ?_ ?_ ?_); (case hk => with_reducible first | exact .inl rfl | exact .inr (.inl rfl) | exact .inr (.inr (.inl rfl)) | exact .inr (.inr (.inr rfl)))) | ((with_reducible refine' opSA ?hk ?_ ?_ ?_); (case hk => with_reducible first | exact .inl rfl | exact .inr (.inl rfl) | exact .inr (.inr (.inl rfl)) | exact .inr (.inr (.inr rfl)))) | ((with_reducible refine' opN ?hk ?_ ?_ ?_ ?_); (case hk => with_reducible first | exact .inl rfl | exact .inr rfl)) | (with_reducible first | exact evConst | exact evBool | exact Ks.nil | refine' Ks.cons ?_ | exact cpEq | exact cpNe | exact cpLt | exact cpGt | exact cpLe | exact cpNeB | exact cpEqS | exact cpNeS | exact cnIn | exact cnNot | refine' evShr ?_ ?_ ?_ | refine' evAnd ?_ ?_ | refine' evMod ?_ ?_ ?_ | refine' evSub ?_ ?_ | refine' evAdd ?_ ?_ | refine' evOr ?_ ?_ | refine' evShl ?_ ?_ ?_ ?_ | refine' evIn ?_ ?_ ?_ ?_ ?_ | refine' isIn ?_ ?_ ?_ ?_ ?_ | refine' evCmp ?_ ?_ ?_ ?_ | refine' isCmp ?_ ?_ ?_ ?_ | refine' evChain ?_ ?_ ?_ ?_ ?_ ?_ | refine' isNot ?_ | refine' evNot ?_ | refine' isAnd ?_ ?_ | refine' isAnd1 ?_ | refine' isOr ?_ ?_ | refine' isOr1 ?_ | refine' evBAnd ?_ ?_ | refine' evBOr ?_ ?_ | refine' evB1 ?_ | refine' evIfP ?_ ?_ ?_ | refine' exRet ?_ | refine' exIfP ?_ ?_ ?_ | refine' exAsg3 ?_ ?_ ?_ ?_ ?_ ?_ ?_ ?_ ?_ ?_ ?_ ?_ ?_ | refine' exAsg2 ?_ ?_ ?_ ?_ ?_ ?_ ?_ ?_ ?_ ?_ | refine' ordE ?_ ?_ ?_ ?_ | refine' lstE ?_ ?_ | refine' listE ?_ ?_ | exact rowNil | refine' rowCons ?_ ?_ ?_ | refine' esC ?_ | refine' pickOf ?_ ?_ ?_ ?_ ?_ ?_ | exact evStrC | refine' evNone ?_ | refine' evMul ?_ ?_ ?_ | refine' call1 ?_ ?_ ?_ ?_ ?_ ?_ ?_ ?_ ?_ | refine' call2 ?_ ?_ ?_ ?_ ?_ ?_ ?_ ?_ ?_ ?_ ?_ | refine' call3 ?_ ?_ ?_ ?_ ?_ ?_ ?_ ?_ ?_ ?_ ?_ ?_ ?_ | refine' call4 ?_ ?_ ?_ ?_ ?_ ?_ ?_ ?_ ?_ ?_ ?_ ?_ ?_ ?_ ?_ | refine' call5 ?_ ?_ ?_ ?_ ?_ ?_ ?_ ?_ ?_ ?_ ?_ ?_ ?_ ?_ ?_ ?_ ?_ | refine' call0 ?_ ?_ ?_ ?_ ?_ ?_) | ((with_reducible show _ = _); first | kernel_rfl! | (k_is; done) | exact rfl | fail "eq") | ((with_reducible show EvP _ _ (PySem.Expr.Name _ _) _); first | exact evName rfl (by kernel_rfl!) (by kernel_rfl!) | exact esN rfl (by kernel_rfl!) (by kernel_rfl!) trivial | exact esN rfl (by kernel_rfl!) (by kernel_rfl!) (by assumption) | exact opName rfl (List.mem_append_left _ (by assumption)) (by assumption) (by kernel_rfl!) (by kernel_rfl!) | exact opName rfl (.head _) (by assumption) (by kernel_rfl!) (by kernel_rfl!) | exact nmP rfl (by assumption) (fun _ h => List.mem_append_left _ h) (by kernel_rfl!) (by kernel_rfl!) | exact evNameV rfl (by kernel_rfl!) (by kernel_rfl!) | fail "name") | ((with_reducible show IsT _ _ _ _); first | exact isName rfl (by kernel_rfl!) (by kernel_rfl!) | (with_reducible refine' isW ?_) | fail "isT") | ((first | (with_reducible show _ = true → EvP _ _ _ _) | (with_reducible show _ = false → EvP _ _ _ _) | (with_reducible show _ = true → Ex _ _ _ _) | (with_reducible show _ = false → Ex _ _ _ _)); intro hb) | (intro t1 t2 t3) | (intro t1 t2) | ((with_reducible show ∀ t : Tok, CallP _ _ _ _ _); intro t1) | (intro l9 u9; with_unfolding_all rfl) | exact plain_of (by decide +kernel) | exact trivial | ((with_reducible show IntMulOk _ _); exact IntMulOk.of_left (by decide)) | ((with_reducible show OrN _ _ _ _ _); exact .inl rfl) | (exact hpr.1) | (exact hpr.2) | (exact hyr.1) | (exact hyr.2) | (exact hzr.1) | (exact hzr.2) | (exact p0) | (exact p1) | omega | (first | fail "v" | fail "none") | fail "none")); intro v9 led9 news9 h9 tk9 m9 p9 l9 s9 F9 N9; (try dsimp only); k_steps)
  all_goals (
    (with_reducible rename Fr _ _ _ _ => kFF)
    (with_reducible rename News _ _ _ _ => kNN)
    exact opFin (news := news) p9 l9 s9 kFF kNN (fun a o e ho F N => by subst e; exact hret a o _ _ ho F N)
)

-- S4
theorem lines_S4_0 : True := by
  w_top off
  k_with_none
  k_with "subscriptTail" => (k_here; (with_reducible show wpAny _ _ (subscriptTail _ _ (Value.ref _) (Value.int _ _)) _ _ _); k_dflt (refine' pickName ?k1 ?k2 ?k3 ?k4 ?k5 ?_ ?k6; (case k1 => exact News.isList (by k_asm) (by k_mem)); (case k2 => repeat (first | exact Names.nil | refine Names.cons (by first | assumption | exact plain_of (by decide +kernel)) ?_)); (case k3 => l_idx); (case k4 => l_idx); (case k5 => l_idx); (case k6 => with_unfolding_all rfl); k_whole); intro x9 t9 p9; (try dsimp only); (all_goals try k_fold))
  trivial
theorem in_order_c {w : World} {mean : ExcName → Option Value} {mg mb : Str → Option Value} {dp un : Nat} {gd : Option (List Code)} {cn : Str} {cs : Scope} {a : Addr} {ccd : Value} {cl : List (Str × Addr)} {outer : List Env} {A₀ : Around} {base h₀ : Heap} {L : Addr} {m : Str → Option Value} {news : CbLed} {s : Shared} {Q E : Value → Shared → Prop} {V : Int → Prop} {bs : Int} {lo a1 a2 : Addr} {o1 o2 : Obj} {nn : Nat} {b2 : Bool}
    (B : Below A₀ base outer h₀) (F : Fr h₀ L s.heap m) (X : (Mine.hd.heap_39 w.params).In h₀) (N : News h₀ L s.heap news) (T : Top Mine.hd.view_39 (looseW Mine.hd.view_39 []) mean mg mb h₀) (hk : cs.kind = .function) (hVb : VB V bs) (hl : (lo, listOf [Value.ref a1, Value.ref a2].toArray nn) ∈ news) (h1 : (a1, o1) ∈ news) (h2 : (a2, o2) ∈ news) (q1 : Opd V bs o1) (q2 : Opd V bs o2) (hd : dp + 1 < recursionLimit) (hu : un + 8 < cLine)
    (hret : ∀ (r : Addr) (wd : Str) (tw : Tok) (l : Addr) (ops : List Value) (nn : Nat) (led : CbLed) (h' : Heap) (tk' : Nat), Plain wd → ops.length ≤ 2 → OpsIn led V bs ops → Fr h₀ L h' m → News h₀ L h' ((r, { cls := .type "tuple", data := .seq [Value.str wd tw, Value.ref l].toArray }) :: (l, listOf ops.toArray nn) :: (led ++ news)) → Q (.ref r) { s with heap := h', toks := tk' }) :
    wpAny (model PySem.Challenge.rw_nz0573_01.row.prog w) (ktrTop dp un gd cn cs L a ccd cl outer) (call (.ref 91) [Value.ref lo, Value.bool b2]) Q E s := by
  revert X; k_fill; intro X
  replace N := newsCons N hl
  replace N := newsCons N (.tail _ h1)
  replace N := newsCons N (.tail _ (.tail _ h2))
  all_goals (refine wpAny_call ?_; k_dflt cell_enter; (try ((with_reducible rename Fr _ _ _ (fun y => List.lookup y _) => kF0); replace kF0 : Fr _ _ _ (fun yy => List.lookup yy [(Str.ofString "is_second", Value.bool b2), (Str.ofString "operands", Value.ref lo)]) := kF0)); k_steps)
  all_goals (
    (with_reducible rename News _ _ _ _ => kNN)
    refine' hret _ _ _ _ _ _ _ _ _ ?e0 ?e1 ?e5 ?e2 (ordEnd kNN ?e3 ?e6 ?e4)
    (case e2 => ((with_reducible rename Fr _ _ _ _ => kFF); exact kFF))
    (case e3 => k_mem)
    (case e6 => k_mem)
    (case e4 => exact (by intro p hp; repeat (first | exact hp | exact List.mem_append_right _ hp | exact List.mem_append_left _ hp | apply List.Mem.tail | apply List.mem_append_right)))
    (case e0 => first | assumption | exact plain_of (by decide +kernel))
    (case e1 => first | (simp; done) | (simp; omega) | omega)
    (case e5 => repeat (first | exact OpsIn.nil | (refine OpsIn.cons (by k_mem) (by first | exact Opd.x | (apply_assumption; done) | exact Opd.s (by first | exact .inl rfl | exact .inr (.inl rfl) | exact .inr (.inr (.inl rfl)) | exact .inr (.inr (.inr rfl))) | exact Opd.n (by first | exact .inl rfl | exact .inr rfl) (by first | assumption | exact VLow.out (by assumption) _ (by omega) | exact VLow.out (by assumption) _ (by simp only [bitAnd_m3] at *; omega) | exact VIf.out (by assumption) (by first | assumption | exact far2 (by assumption) (by assumption) (by assumption) (.inl ⟨by assumption, by assumption, by assumption⟩) | exact far2 (by assumption) (by assumption) (by assumption) (.inr (.inl ⟨by assumption, by assumption, by dsimp only [fy]; omega⟩)) | exact far2 (by assumption) (by assumption) (by assumption) (.inr (.inr (.inl ⟨by assumption, .inl (by assumption)⟩))) | exact far2 (by assumption) (by assumption) (by assumption) (.inr (.inr (.inl ⟨by assumption, .inr (by assumption)⟩))) | exact far2 (by assumption) (by assumption) (by assumption) (.inr (.inr (.inr (.inl ⟨by assumption, by assumption, by assumption⟩)))) | exact far2 (by assumption) (by assumption) (by assumption) (.inr (.inr (.inr (.inr ⟨by assumption, by assumption, by assumption⟩))))))) ?_) | (refine OpsIn.mono (by assumption) (by intro p hp; repeat (first | exact hp | exact List.mem_append_right _ hp | exact List.mem_append_left _ hp | apply List.Mem.tail | apply List.mem_append_right))) | refine OpsIn.append ?_ ?_ | refine OpsIn.reverse ?_))
)
theorem reckoning_c {w : World} {mean : ExcName → Option Value} {mg mb : Str → Option Value} {dp un : Nat} {gd : Option (List Code)} {cn : Str} {cs : Scope} {a : Addr} {ccd : Value} {cl : List (Str × Addr)} {outer : List Env} {A₀ : Around} {base h₀ : Heap} {L : Addr} {m : Str → Option Value} {news : CbLed} {s : Shared} {Q E : Value → Shared → Prop} {V : Int → Prop} {bs : Int} {y : Int} {ty : Tok} {a1 : Addr} {o1 : Obj}
    (B : Below A₀ base outer h₀) (F : Fr h₀ L s.heap m) (X : (Mine.hd.heap_39 w.params).In h₀) (N : News h₀ L s.heap news) (T : Top Mine.hd.view_39 (looseW Mine.hd.view_39 []) mean mg mb h₀) (hk : cs.kind = .function) (hVb : VB V bs) (p0 : 0 ≤ y) (p1 : y < 8) (h1 : (a1, o1) ∈ news) (q1 : Opd V bs o1) (hd : dp + 1 < recursionLimit) (hu : un + 8 < cLine)
    (hret : ∀ (r : Addr) (wd : Str) (tw : Tok) (l : Addr) (ops : List Value) (nn : Nat) (led : CbLed) (h' : Heap) (tk' : Nat), Plain wd → ops.length ≤ 2 → OpsIn led V bs ops → Fr h₀ L h' m → News h₀ L h' ((r, { cls := .type "tuple", data := .seq [Value.str wd tw, Value.ref l].toArray }) :: (l, listOf ops.toArray nn) :: (led ++ news)) → Q (.ref r) { s with heap := h', toks := tk' }) :
    wpAny (model PySem.Challenge.rw_nz0573_01.row.prog w) (ktrTop dp un gd cn cs L a ccd cl outer) (call (.ref 98) [Value.int y ty, Value.ref a1]) Q E s := by
  revert X; k_fill; intro X
  replace N := newsCons N h1
  all_goals (refine wpAny_call ?_; k_dflt cell_enter; (try ((with_reducible rename Fr _ _ _ (fun y => List.lookup y _) => kF0); replace kF0 : Fr _ _ _ (fun yy => List.lookup yy [(Str.ofString "operand", Value.ref a1), (Str.ofString "y", Value.int y ty)]) := kF0)); (with_reducible refine' ex_use0 ([(a1, o1)]) (OrdP V bs 2) ?hk ?X ?TR ?F ?N ?hb ?H ?k); k_dflt ((case X => assumption); (case TR => exact topRead_of (by assumption)); (case F => k_asm); (case N => k_asm); (case hk => exact rfl); (case hb => first | exact Sub.no | exact Sub.cons (.head _) Sub.no)); (case H => repeat' ((with_reducible show (_ : Prop)); first | ((with_reducible show EvP _ _ _ (OrN _ _ _)); (first | (with_reducible show EvP _ _ (PySem.Expr.Tuple _ _ _) _) | (with_reducible show EvP _ _ (PySem.Expr.Subscript _ _ _) _) | (with_reducible show EvP _ _ (PySem.Expr.Call _ _ _ _) _)); refine' evMono (P := OrdP V bs 2) ?_ orInr) | ((with_reducible show Ex _ _ (Stmt.Assign [PySem.Expr.Name (Str.ofString "word") _] _ _ :: _) _); refine' exAsgS (R := Plain) ?_ ?_ ?_ ?_) | ((with_reducible show ∀ u t, Plain u → Ex _ _ _ _); intro u9 t9 r9) | ((with_reducible refine' opS ?hk ?_ ?_ ?_); (case hk => with_reducible first | exact .inl rfl | exact .inr (.inl rfl) | exact .inr (.inr (.inl rfl)) | exact .inr (.inr (.inr rfl)))) | ((with_reducible refine' opSA ?hk ?_ ?_ ?_); (case hk => with_reducible first | exact .inl rfl | exact .inr (.inl rfl) | exact .inr (.inr (.inl rfl)) | exact .inr (.inr (.inr rfl)))) | ((with_reducible refine' opN ?hk ?_ ?_ ?_ ?_); (case hk => with_reducible first | exact .inl rfl | exact .inr rfl)) | (with_reducible first | exact evConst | exact evBool | exact Ks.nil | refine' Ks.cons ?_ | exact cpEq | exact cpNe | exact cpLt | exact cpGt | exact cpLe | exact cpNeB | exact cpEqS | exact cpNeS | exact cnIn | exact cnNot | refine' evShr ?_ ?_ ?_ | refine' evAnd ?_ ?_ | refine' evMod ?_ ?_ ?_ | refine' evSub ?_ ?_ | refine' evAdd ?_ ?_ | refine' evOr ?_ ?_ | refine' evShl ?_ ?_ ?_ ?_ | refine' evIn ?_ ?_ ?_ ?_ ?_ | refine' isIn ?_ ?_ ?_ ?_ ?_ | refine' evCmp ?_ ?_ ?_ ?_ | refine' isCmp ?_ ?_ ?_ ?_ | refine' evChain ?_ ?_ ?_ ?_ ?_ ?_ | refine' isNot ?_ | refine' evNot ?_ | refine' isAnd ?_ ?_ | refine' isAnd1 ?_ | refine' isOr ?_ ?_ | refine' isOr1 ?_ | refine' evBAnd ?_ ?_ | refine' evBOr ?_ ?_ | refine' evB1 ?_ | refine' evIfP ?_ ?_ ?_ | refine' exRet ?_ | refine' exIfP ?_ ?_ ?_ | refine' exAsg3 ?_ ?_ ?_ ?_ ?_ ?_ ?_ ?_ ?_ ?_ ?_ ?_ ?_ | refine' exAsg2 ?_ ?_ ?_ ?_ ?_ ?_ ?_ ?_ ?_ ?_ | refine' ordE ?_ ?_ ?_ ?_ | refine' lstE ?_ ?_ | refine' listE ?_ ?_ | exact rowNil | refine' rowCons ?_ ?_ ?_ | refine' esC ?_ | refine' pickOf ?_ ?_ ?_ ?_ ?_ ?_ | exact evStrC | refine' evNone ?_ | refine' evMul ?_ ?_ ?_ | refine' call1 ?_ ?_ ?_ ?_ ?_ ?_ ?_ ?_ ?_ | refine' call2 ?_ ?_ ?_ ?_ ?_ ?_ ?_ ?_ ?_ ?_ ?_ | refine' call3 ?_ ?_ ?_ ?_ ?_ ?_ ?_ ?_ ?_ ?_ ?_ ?_ ?_ | refine' call4 ?_ ?_ ?_ ?_ ?_ ?_ ?_ ?_ ?_ ?_ ?_ ?_ ?_ ?_ ?_ | refine' call5 ?_ ?_ ?_ ?_ ?_ ?_ ?_ ?_ ?_ ?_ ?_ ?_ ?_ ?_ ?_ ?_ ?_ | refine' call0 ?_ ?_ ?_ ?_ ?_ ?_) | ((with_reducible show _ = _); first | kernel_rfl! | (k_is; done) | exact rfl | fail "eq") | ((with_reducible show EvP _ _ (PySem.Expr.Name _ _) _); first | exact evName rfl (by kernel_rfl!) (by kernel_rfl!) | exact esN rfl (by kernel_rfl!) (by kernel_rfl!) trivial | exact esN rfl (by kernel_rfl!) (by kernel_rfl!) (by assumption) | exact opName rfl (List.mem_append_left _ (by assumption)) (by assumption) (by kernel_rfl!) (by kernel_rfl!) | exact opName rfl (.head _) (by assumption) (by kernel_rfl!) (by kernel_rfl!) | exact nmP rfl (by assumption) (fun _ h => List.mem_append_left _ h) (by kernel_rfl!) (by kernel_rfl!) | exact evNameV rfl (by kernel_rfl!) (by kernel_rfl!) | fail "name") | ((with_reducible show IsT _ _ _ _); first | exact isName rfl (by kernel_rfl!) (by kernel_rfl!) | (with_reducible refine' isW ?_) | fail "isT") | ((first | (with_reducible show _ = true → EvP _ _ _ _) | (with_reducible show _ = false → EvP _ _ _ _) | (with_reducible show _ = true → Ex _ _ _ _) | (with_reducible show _ = false → Ex _ _ _ _)); intro hb) | (intro t1 t2 t3) | (intro t1 t2) | ((with_reducible show ∀ t : Tok, CallP _ _ _ _ _); intro t1) | (intro l9 u9; with_unfolding_all rfl) | exact plain_of (by decide +kernel) | exact trivial | ((with_reducible show IntMulOk _ _); exact IntMulOk.of_left (by decide)) | ((with_reducible show OrN _ _ _ _ _); exact .inl rfl) | (exact hpr.1) | (exact hpr.2) | (exact hyr.1) | (exact hyr.2) | (exact hzr.1) | (exact hzr.2) | (exact p0) | (exact p1) | omega | (first | fail "v" | fail "none") | fail "none")); intro v9 led9 news9 h9 tk9 m9 p9 l9 s9 F9 N9; (try dsimp only); k_steps)
  all_goals (
    (with_reducible rename Fr _ _ _ _ => kFF)
    (with_reducible rename News _ _ _ _ => kNN)
    exact ordFin (news := news) p9 l9 (by first | exact s9 | exact fun p hp => s9 p (.tail _ hp)) kFF kNN (fun r wd tw l ops nn led e hp hlen hops F N => by subst e; exact hret r wd tw l ops nn led _ _ hp hlen hops F N)
)
theorem bits_order_c {w : World} {mean : ExcName → Option Value} {mg mb : Str → Option Value} {dp un : Nat} {gd : Option (List Code)} {cn : Str} {cs : Scope} {a : Addr} {ccd : Value} {cl : List (Str × Addr)} {outer : List Env} {A₀ : Around} {base h₀ : Heap} {L : Addr} {m : Str → Option Value} {news : CbLed} {s : Shared} {Q E : Value → Shared → Prop} {V : Int → Prop} {bs : Int} {octet : Int} {to : Tok} {lo : Addr} {nn : Nat} {os : List Value}
    (B : Below A₀ base outer h₀) (F : Fr h₀ L s.heap m) (X : (Mine.hd.heap_39 w.params).In h₀) (N : News h₀ L s.heap news) (T : Top Mine.hd.view_39 (looseW Mine.hd.view_39 []) mean mg mb h₀) (hk : cs.kind = .function) (hVb : VB V bs) (p0 : 0 ≤ octet) (p1 : octet < 256) (hl : (lo, listOf os.toArray nn) ∈ news) (ho : OpsIn news V bs os) (hn : os.length ≤ 2) (hV1 : VLow V) (hd : dp + 1 < recursionLimit) (hu : un + 8 < cLine)
    (hret : ∀ (r : Addr) (wd : Str) (tw : Tok) (l : Addr) (ops : List Value) (nn : Nat) (led : CbLed) (h' : Heap) (tk' : Nat), Plain wd → ops.length ≤ 3 → OpsIn led V bs ops → Fr h₀ L h' m → News h₀ L h' ((r, { cls := .type "tuple", data := .seq [Value.str wd tw, Value.ref l].toArray }) :: (l, listOf ops.toArray nn) :: (led ++ news)) → Q (.ref r) { s with heap := h', toks := tk' }) :
    wpAny (model PySem.Challenge.rw_nz0573_01.row.prog w) (ktrTop dp un gd cn cs L a ccd cl outer) (call (.ref 126) [Value.int octet to, Value.ref lo]) Q E s := by
  revert X; k_fill; intro X
  have hyr := fy_rng octet
  have hzr := fz_rng octet
  have hxr := fx_rng p0 p1
  replace N := newsCons N hl
  all_goals (refine wpAny_call ?_; k_dflt cell_enter; (try ((with_reducible rename Fr _ _ _ (fun y => List.lookup y _) => kF0); replace kF0 : Fr _ _ _ (fun yy => List.lookup yy [(Str.ofString "operands", Value.ref lo), (Str.ofString "octet", Value.int octet to)]) := kF0)); (with_reducible refine' ex_use0 (((lo, listOf os.toArray nn) :: news)) (OrdP V bs 3) ?hk ?X ?TR ?F ?N ?hb ?H ?k); k_dflt ((case X => assumption); (case TR => exact topRead_of (by assumption)); (case F => k_asm); (case N => k_asm); (case hk => exact rfl); (case hb => first | exact Sub.refl' | exact Sub.no | exact Sub.cons (.head _) Sub.no)); (case H => repeat' ((with_reducible show (_ : Prop)); first | ((with_reducible show EvP _ _ _ (OrN _ _ _)); (first | (with_reducible show EvP _ _ (PySem.Expr.Tuple _ _ _) _) | (with_reducible show EvP _ _ (PySem.Expr.Subscript _ _ _) _) | (with_reducible show EvP _ _ (PySem.Expr.Call _ _ _ _) _)); refine' evMono (P := OrdP V bs 2) ?_ orInr) | ((with_reducible show EvP _ _ (PySem.Expr.Name _ _) (LstP V bs _)); first | exact nmP rfl (show LstP V bs 3 (.ref lo) ((lo, listOf os.toArray nn) :: news) from ⟨lo, os, nn, rfl, .head _, Nat.le_trans hn (by decide), ho.mono fun p hp => .tail _ hp⟩) Sub.refl' (by kernel_rfl!) (by kernel_rfl!) | exact nmP rfl (show LstP V bs 2 (.ref lo) ((lo, listOf os.toArray nn) :: news) from ⟨lo, os, nn, rfl, .head _, hn, ho.mono fun p hp => .tail _ hp⟩) Sub.refl' (by kernel_rfl!) (by kernel_rfl!)) | ((with_reducible show EvP _ _ (PySem.Expr.BinOp _ _ _ _) (LstP V bs _)); refine' lstAdd (k1 := 1) (k2 := 2) ?_ ?_ rfl) | ((with_reducible refine' opS ?hk ?_ ?_ ?_); (case hk => with_reducible first | exact .inl rfl | exact .inr (.inl rfl) | exact .inr (.inr (.inl rfl)) | exact .inr (.inr (.inr rfl)))) | ((with_reducible refine' opSA ?hk ?_ ?_ ?_); (case hk => with_reducible first | exact .inl rfl | exact .inr (.inl rfl) | exact .inr (.inr (.inl rfl)) | exact .inr (.inr (.inr rfl)))) | ((with_reducible refine' opN ?hk ?_ ?_ ?_ ?_); (case hk => with_reducible first | exact .inl rfl | exact .inr rfl)) | (with_reducible first | exact evConst | exact evBool | exact Ks.nil | refine' Ks.cons ?_ | exact cpEq | exact cpNe | exact cpLt | exact cpGt | exact cpLe | exact cpNeB | exact cpEqS | exact cpNeS | exact cnIn | exact cnNot | refine' evShr ?_ ?_ ?_ | refine' evAnd ?_ ?_ | refine' evMod ?_ ?_ ?_ | refine' evSub ?_ ?_ | refine' evAdd ?_ ?_ | refine' evOr ?_ ?_ | refine' evShl ?_ ?_ ?_ ?_ | refine' evIn ?_ ?_ ?_ ?_ ?_ | refine' isIn ?_ ?_ ?_ ?_ ?_ | refine' evCmp ?_ ?_ ?_ ?_ | refine' isCmp ?_ ?_ ?_ ?_ | refine' evChain ?_ ?_ ?_ ?_ ?_ ?_ | refine' isNot ?_ | refine' evNot ?_ | refine' isAnd ?_ ?_ | refine' isAnd1 ?_ | refine' isOr ?_ ?_ | refine' isOr1 ?_ | refine' evBAnd ?_ ?_ | refine' evBOr ?_ ?_ | refine' evB1 ?_ | refine' evIfP ?_ ?_ ?_ | refine' exRet ?_ | refine' exIfP ?_ ?_ ?_ | refine' exAsg3 ?_ ?_ ?_ ?_ ?_ ?_ ?_ ?_ ?_ ?_ ?_ ?_ ?_ | refine' exAsg2 ?_ ?_ ?_ ?_ ?_ ?_ ?_ ?_ ?_ ?_ | refine' ordE ?_ ?_ ?_ ?_ | refine' lstE ?_ ?_ | refine' listE ?_ ?_ | exact rowNil | refine' rowCons ?_ ?_ ?_ | refine' esC ?_ | refine' pickOf ?_ ?_ ?_ ?_ ?_ ?_ | exact evStrC | refine' evNone ?_ | refine' evMul ?_ ?_ ?_ | refine' call1 ?_ ?_ ?_ ?_ ?_ ?_ ?_ ?_ ?_ | refine' call2 ?_ ?_ ?_ ?_ ?_ ?_ ?_ ?_ ?_ ?_ ?_ | refine' call3 ?_ ?_ ?_ ?_ ?_ ?_ ?_ ?_ ?_ ?_ ?_ ?_ ?_ | refine' call4 ?_ ?_ ?_ ?_ ?_ ?_ ?_ ?_ ?_ ?_ ?_ ?_ ?_ ?_ ?_ | refine' call5 ?_ ?_ ?_ ?_ ?_ ?_ ?_ ?_ ?_ ?_ ?_ ?_ ?_ ?_ ?_ ?_ ?_ | refine' call0 ?_ ?_ ?_ ?_ ?_ ?_) | ((with_reducible show _ = _); first | kernel_rfl! | (k_is; done) | exact rfl | fail "eq") | ((with_reducible show EvP _ _ (PySem.Expr.Name _ _) _); first | exact evName rfl (by kernel_rfl!) (by kernel_rfl!) | exact esN rfl (by kernel_rfl!) (by kernel_rfl!) trivial | exact esN rfl (by kernel_rfl!) (by kernel_rfl!) (by assumption) | exact opName rfl (List.mem_append_left _ (by assumption)) (by assumption) (by kernel_rfl!) (by kernel_rfl!) | exact opName rfl (.head _) (by assumption) (by kernel_rfl!) (by kernel_rfl!) | exact nmP rfl (by assumption) (fun _ h => List.mem_append_left _ h) (by kernel_rfl!) (by kernel_rfl!) | exact evNameV rfl (by kernel_rfl!) (by kernel_rfl!) | fail "name") | ((with_reducible show IsT _ _ _ _); first | exact isName rfl (by kernel_rfl!) (by kernel_rfl!) | (with_reducible refine' isW ?_) | fail "isT") | ((first | (with_reducible show _ = true → EvP _ _ _ _) | (with_reducible show _ = false → EvP _ _ _ _) | (with_reducible show _ = true → Ex _ _ _ _) | (with_reducible show _ = false → Ex _ _ _ _)); intro hb) | (intro t1 t2 t3) | (intro t1 t2) | ((with_reducible show ∀ t : Tok, CallP _ _ _ _ _); intro t1) | (intro l9 u9; with_unfolding_all rfl) | exact plain_of (by decide +kernel) | exact trivial | ((with_reducible show IntMulOk _ _); exact IntMulOk.of_left (by decide)) | ((with_reducible show OrN _ _ _ _ _); exact .inl rfl) | (exact hpr.1) | (exact hpr.2) | (exact hyr.1) | (exact hyr.2) | (exact hzr.1) | (exact hzr.2) | (exact (x3i hxr.1 hxr.2 (by assumption)).1) | (exact (x3i hxr.1 hxr.2 (by assumption)).2) | omega | (first | exact VLow.out (by assumption) _ (by omega) | fail "v" | fail "none") | fail "none")); intro v9 led9 news9 h9 tk9 m9 p9 l9 s9 F9 N9; (try dsimp only); k_steps)
  all_goals (
    (with_reducible rename Fr _ _ _ _ => kFF)
    (with_reducible rename News _ _ _ _ => kNN)
    exact ordFin (news := news) p9 l9 (by first | exact s9 | exact fun p hp => s9 p (.tail _ hp)) kFF kNN (fun r wd tw l ops nn led e hp hlen hops F N => by subst e; exact hret r wd tw l ops nn led _ _ hp hlen hops F N)
)

-- S5
theorem lines_S5_0 : True := by
  w_top off
  k_with_none
  k_with "CompSrc" => (k_here; k_dflt (refine LCg.CompSrc.range (by rfl) (by k_asm) (by k_asm) (by assumption) (by first | decide | rfl) (by first | rfl | decide) (by first | size_fits | exact Nat.le_of_ble_eq_true rfl) ?_; intro g'; lcg_lit))
  k_with "CompEnd" => (k_dflt (refine' compEnd1 ?k1 ?k2 ?k3 ?k4 ?k5 ?_; (case k1 => ((with_reducible rename Fr _ _ _ _ => kFF); exact kFF)); (case k2 => ((with_reducible rename News _ _ _ _ => kNN); exact kNN)); (case k3 => first | assumption | (simp only [LCg.Off3, and_true]; first | done | assumption)); (case k4 => refine ⟨?_, ?_, ?_⟩ <;> (refine ltN ?_; omega)); (case k5 => lcg_src)); (try dsimp only))
  k_with "call ref" => (k_here; k_dflt (refine' peek_c ?k1 ?k2 ?k3 ?k4 ?k5 ?kK ?hm ?hM ?kd ?ku ?_; (case k1 => k_asm); (case k2 => k_asm); (case k3 => k_asm); (case k4 => k_asm); (case k5 => k_asm); (case hm => k_mem); (case hM => assumption); (case kK => first | exact rfl | assumption); (case kd => ktr_room); (case ku => ktr_units)); intro t9 h9 tk9 c9 c9 F9 N9; (try dsimp only); (try k_sweep); (all_goals try k_fold))
  trivial
theorem told1_c {w : World} {mean : ExcName → Option Value} {mg mb : Str → Option Value} {dp un : Nat} {gd : Option (List Code)} {cn : Str} {cs : Scope} {a : Addr} {ccd : Value} {cl : List (Str × Addr)} {outer : List Env} {A₀ : Around} {base h₀ : Heap} {L : Addr} {m : Str → Option Value} {news : CbLed} {s : Shared} {Q E : Value → Shared → Prop} {ml : Addr} {vs : List Value} {kk : Nat} {ns : List Int} {n : Int} {tn tm : Tok}
    (B : Below A₀ base outer h₀) (F : Fr h₀ L s.heap m) (X : (Mine.hd.heap_39 w.params).In h₀) (N : News h₀ L s.heap news) (T : Top Mine.hd.view_39 (looseW Mine.hd.view_39 []) mean mg mb h₀) (hk : cs.kind = .function) (hm : (ml, listOf vs.toArray kk) ∈ news) (hM : Mem vs ns) (hd : dp + 2 < recursionLimit) (hu : un + 16 < cLine)
    (hret : ∀ (r l b0 : Addr) (t1 t2 u0 v0 : Tok) (nn : Nat) (h' : Heap) (tk' : Nat), Fr h₀ L h' m → News h₀ L h' ((r, { cls := .type "tuple", data := .seq [Value.str (Str.ofString "DB") t1, Value.ref l, Value.int 1 t2].toArray }) :: (l, listOf [Value.ref b0].toArray nn) :: (b0, { cls := .type "tuple", data := .seq [Value.str (Str.ofString "n") u0, Value.int (cell ns n) v0].toArray }) :: news) → Q (.ref r) { s with heap := h', toks := tk' }) :
    wpAny (model PySem.Challenge.rw_nz0573_01.row.prog w) (ktrTop dp un gd cn cs L a ccd cl outer) (call (.ref 166) [Value.ref ml, Value.int n tn, Value.int 1 tm]) Q E s := by
  revert X; k_fill; intro X
  replace N := newsCons N hm
  have hMi := hM.are
  have hMl := hM.size
  all_goals (refine wpAny_call ?_; k_dflt (refine' code_defC ?k1 ?k2 ?k3 ?k4 ?k5 ?kA ?kF ?kK ?k6 ?k7 ?k8 ?k9 ?kB ?kD ?_ ?c2 ?c3 ?c4; (case kA => exact rfl); (case kF => exact rfl); (case kK => assumption); (case k1 => k_asm); (case k2 => k_asm); (case k3 => k_asm); (case k4 => k_asm); (case k5 => k_asm); (case k6 => k_is); (case k7 => k_is); (case k8 => ktr_room); (case k9 => exact BindsTo.of_eq rfl); (case kB => exact rfl); (case kD => decide +kernel); (case c2 => exact rfl); (case c3 => exact rfl); (case c4 => exact rfl); k_whole; intro g' L' h' tk' cells' FG' F' N' Y' B' X' T' l1; (try k_lt l1); k_cells Y'; (try simp only [List.cons_append, List.nil_append] at N'); (try dsimp only); (try k_lift B'); (try k_fold)); skip; k_steps)
  all_goals (
    (with_reducible rename News _ _ _ _ => kNN)
    (simp only [cz0, cz1, cz2, cz3] at kNN)
    refine' hret _ _ _ _ _ _ _ _ _ _ ?e2 (newsTl kNN fun N => newsTl N fun N => newsTl N fun N => newsSub N (by intro p hp; repeat (first | exact hp | exact List.mem_append_right _ hp | exact List.mem_append_left _ hp | apply List.Mem.tail | apply List.mem_append_right)))
    (case e2 => ((with_reducible rename Fr _ _ _ _ => kFF); exact kFF))
)
theorem told2_c {w : World} {mean : ExcName → Option Value} {mg mb : Str → Option Value} {dp un : Nat} {gd : Option (List Code)} {cn : Str} {cs : Scope} {a : Addr} {ccd : Value} {cl : List (Str × Addr)} {outer : List Env} {A₀ : Around} {base h₀ : Heap} {L : Addr} {m : Str → Option Value} {news : CbLed} {s : Shared} {Q E : Value → Shared → Prop} {ml : Addr} {vs : List Value} {kk : Nat} {ns : List Int} {n : Int} {tn tm : Tok}
    (B : Below A₀ base outer h₀) (F : Fr h₀ L s.heap m) (X : (Mine.hd.heap_39 w.params).In h₀) (N : News h₀ L s.heap news) (T : Top Mine.hd.view_39 (looseW Mine.hd.view_39 []) mean mg mb h₀) (hk : cs.kind = .function) (hm : (ml, listOf vs.toArray kk) ∈ news) (hM : Mem vs ns) (hd : dp + 2 < recursionLimit) (hu : un + 16 < cLine)
    (hret : ∀ (r l b0 b1 : Addr) (t1 t2 u0 v0 u1 v1 : Tok) (nn : Nat) (h' : Heap) (tk' : Nat), Fr h₀ L h' m → News h₀ L h' ((r, { cls := .type "tuple", data := .seq [Value.str (Str.ofString "DB") t1, Value.ref l, Value.int 2 t2].toArray }) :: (l, listOf [Value.ref b0, Value.ref b1].toArray nn) :: (b1, { cls := .type "tuple", data := .seq [Value.str (Str.ofString "n") u1, Value.int (cell ns (n + 1)) v1].toArray }) :: (b0, { cls := .type "tuple", data := .seq [Value.str (Str.ofString "n") u0, Value.int (cell ns n) v0].toArray }) :: news) → Q (.ref r) { s with heap := h', toks := tk' }) :
    wpAny (model PySem.Challenge.rw_nz0573_01.row.prog w) (ktrTop dp un gd cn cs L a ccd cl outer) (call (.ref 166) [Value.ref ml, Value.int n tn, Value.int 2 tm]) Q E s := by
  revert X; k_fill; intro X
  replace N := newsCons N hm
  have hMi := hM.are
  have hMl := hM.size
  all_goals (refine wpAny_call ?_; k_dflt (refine' code_defC ?k1 ?k2 ?k3 ?k4 ?k5 ?kA ?kF ?kK ?k6 ?k7 ?k8 ?k9 ?kB ?kD ?_ ?c2 ?c3 ?c4; (case kA => exact rfl); (case kF => exact rfl); (case kK => assumption); (case k1 => k_asm); (case k2 => k_asm); (case k3 => k_asm); (case k4 => k_asm); (case k5 => k_asm); (case k6 => k_is); (case k7 => k_is); (case k8 => ktr_room); (case k9 => exact BindsTo.of_eq rfl); (case kB => exact rfl); (case kD => decide +kernel); (case c2 => exact rfl); (case c3 => exact rfl); (case c4 => exact rfl); k_whole; intro g' L' h' tk' cells' FG' F' N' Y' B' X' T' l1; (try k_lt l1); k_cells Y'; (try simp only [List.cons_append, List.nil_append] at N'); (try dsimp only); (try k_lift B'); (try k_fold)); skip; k_steps)
  all_goals (
    (with_reducible rename News _ _ _ _ => kNN)
    (simp only [cz0, cz1, cz2, cz3] at kNN)
    refine' hret _ _ _ _ _ _ _ _ _ _ _ _ _ ?e2 (newsTl kNN fun N => newsTl N fun N => newsTl N fun N => newsTl N fun N => newsSub N (by intro p hp; repeat (first | exact hp | exact List.mem_append_right _ hp | exact List.mem_append_left _ hp | apply List.Mem.tail | apply List.mem_append_right)))
    (case e2 => ((with_reducible rename Fr _ _ _ _ => kFF); exact kFF))
)
theorem told4_c {w : World} {mean : ExcName → Option Value} {mg mb : Str → Option Value} {dp un : Nat} {gd : Option (List Code)} {cn : Str} {cs : Scope} {a : Addr} {ccd : Value} {cl : List (Str × Addr)} {outer : List Env} {A₀ : Around} {base h₀ : Heap} {L : Addr} {m : Str → Option Value} {news : CbLed} {s : Shared} {Q E : Value → Shared → Prop} {ml : Addr} {vs : List Value} {kk : Nat} {ns : List Int} {n : Int} {tn tm : Tok}
    (B : Below A₀ base outer h₀) (F : Fr h₀ L s.heap m) (X : (Mine.hd.heap_39 w.params).In h₀) (N : News h₀ L s.heap news) (T : Top Mine.hd.view_39 (looseW Mine.hd.view_39 []) mean mg mb h₀) (hk : cs.kind = .function) (hm : (ml, listOf vs.toArray kk) ∈ news) (hM : Mem vs ns) (hd : dp + 2 < recursionLimit) (hu : un + 16 < cLine)
    (hret : ∀ (r l b0 b1 b2 b3 : Addr) (t1 t2 u0 v0 u1 v1 u2 v2 u3 v3 : Tok) (nn : Nat) (h' : Heap) (tk' : Nat), Fr h₀ L h' m → News h₀ L h' ((r, { cls := .type "tuple", data := .seq [Value.str (Str.ofString "DB") t1, Value.ref l, Value.int 4 t2].toArray }) :: (l, listOf [Value.ref b0, Value.ref b1, Value.ref b2, Value.ref b3].toArray nn) :: (b3, { cls := .type "tuple", data := .seq [Value.str (Str.ofString "n") u3, Value.int (cell ns (n + 3)) v3].toArray }) :: (b2, { cls := .type "tuple", data := .seq [Value.str (Str.ofString "n") u2, Value.int (cell ns (n + 2)) v2].toArray }) :: (b1, { cls := .type "tuple", data := .seq [Value.str (Str.ofString "n") u1, Value.int (cell ns (n + 1)) v1].toArray }) :: (b0, { cls := .type "tuple", data := .seq [Value.str (Str.ofString "n") u0, Value.int (cell ns n) v0].toArray }) :: news) → Q (.ref r) { s with heap := h', toks := tk' }) :
    wpAny (model PySem.Challenge.rw_nz0573_01.row.prog w) (ktrTop dp un gd cn cs L a ccd cl outer) (call (.ref 166) [Value.ref ml, Value.int n tn, Value.int 4 tm]) Q E s := by
  revert X; k_fill; intro X
  replace N := newsCons N hm
  have hMi := hM.are
  have hMl := hM.size
  all_goals (refine wpAny_call ?_; k_dflt (refine' code_defC ?k1 ?k2 ?k3 ?k4 ?k5 ?kA ?kF ?kK ?k6 ?k7 ?k8 ?k9 ?kB ?kD ?_ ?c2 ?c3 ?c4; (case kA => exact rfl); (case kF => exact rfl); (case kK => assumption); (case k1 => k_asm); (case k2 => k_asm); (case k3 => k_asm); (case k4 => k_asm); (case k5 => k_asm); (case k6 => k_is); (case k7 => k_is); (case k8 => ktr_room); (case k9 => exact BindsTo.of_eq rfl); (case kB => exact rfl); (case kD => decide +kernel); (case c2 => exact rfl); (case c3 => exact rfl); (case c4 => exact rfl); k_whole; intro g' L' h' tk' cells' FG' F' N' Y' B' X' T' l1; (try k_lt l1); k_cells Y'; (try simp only [List.cons_append, List.nil_append] at N'); (try dsimp only); (try k_lift B'); (try k_fold)); skip; k_steps)
  all_goals (
    (with_reducible rename News _ _ _ _ => kNN)
    (simp only [cz0, cz1, cz2, cz3] at kNN)
    refine' hret _ _ _ _ _ _ _ _ _ _ _ _ _ _ _ _ _ _ _ ?e2 (newsTl kNN fun N => newsTl N fun N => newsTl N fun N => newsTl N fun N => newsTl N fun N => newsTl N fun N => newsSub N (by intro p hp; repeat (first | exact hp | exact List.mem_append_right _ hp | exact List.mem_append_left _ hp | apply List.Mem.tail | apply List.mem_append_right)))
    (case e2 => ((with_reducible rename Fr _ _ _ _ => kFF); exact kFF))
)

-- S6
theorem lines_S6_0 : True := by
  w_top off
  k_with_none
  k_with "subscriptTail" => (k_here; (with_reducible show wpAny _ _ (subscriptTail _ _ (Value.ref _) (Value.int _ _)) _ _ _); k_dflt (refine' pickName ?k1 ?k2 ?k3 ?k4 ?k5 ?_ ?k6; (case k1 => exact News.isList (by k_asm) (by k_mem)); (case k2 => repeat (first | exact Names.nil | refine Names.cons (by first | assumption | exact plain_of (by decide +kernel)) ?_)); (case k3 => l_idx); (case k4 => l_idx); (case k5 => l_idx); (case k6 => with_unfolding_all rfl); k_whole); intro x9 t9 p9; (try dsimp only); (all_goals try k_fold))
  k_with "call ref" => (k_here; k_dflt (refine' peek_c ?k1 ?k2 ?k3 ?k4 ?k5 ?kK ?hm ?hM ?kd ?ku ?_; (case k1 => k_asm); (case k2 => k_asm); (case k3 => k_asm); (case k4 => k_asm); (case k5 => k_asm); (case hm => k_mem); (case hM => assumption); (case kK => first | exact rfl | assumption); (case kd => ktr_room); (case ku => ktr_units)); intro t9 h9 tk9 c9 c9 F9 N9; (try dsimp only); (try k_sweep); (all_goals try k_fold))
  k_with "call ref" => (k_here; k_dflt (refine' peek16_c ?k1 ?k2 ?k3 ?k4 ?k5 ?kK ?hm ?hM ?kd ?ku ?_; (case k1 => k_asm); (case k2 => k_asm); (case k3 => k_asm); (case k4 => k_asm); (case k5 => k_asm); (case hm => k_mem); (case hM => assumption); (case kK => first | exact rfl | assumption); (case kd => ktr_room); (case ku => ktr_units)); intro t9 h9 tk9  F9 N9; (try dsimp only); (try k_sweep); (all_goals try k_fold))
  k_with "call ref" => (k_here; k_dflt (refine' short_goal_c ?k1 ?k2 ?k3 ?k4 ?k5 ?kK ?hm ?hM ?kd ?ku ?_; (case k1 => k_asm); (case k2 => k_asm); (case k3 => k_asm); (case k4 => k_asm); (case k5 => k_asm); (case hm => k_mem); (case hM => assumption); (case kK => first | exact rfl | assumption); (case kd => ktr_room); (case ku => ktr_units)); intro t9 h9 tk9  F9 N9; (try dsimp only); (try k_sweep); (all_goals try k_fold))
  k_with "call ref" => (k_here; k_dflt (refine' flag_told_c ?k1 ?k2 ?k3 ?k4 ?k5 ?kK ?p0 ?p1 ?kd ?ku ?_; (case k1 => k_asm); (case k2 => k_asm); (case k3 => k_asm); (case k4 => k_asm); (case k5 => k_asm); (case p0 => first | assumption | omega | l_fact); (case p1 => first | assumption | omega | l_fact); (case kK => first | exact rfl | assumption); (case kd => ktr_room); (case ku => ktr_units)); intro b9 o9 h9 tk9 q9 F9 N9; (try dsimp only); (try k_sweep); (all_goals try k_fold))
  trivial
theorem short_order_c {w : World} {mean : ExcName → Option Value} {mg mb : Str → Option Value} {dp un : Nat} {gd : Option (List Code)} {cn : Str} {cs : Scope} {a : Addr} {ccd : Value} {cl : List (Str × Addr)} {outer : List Env} {A₀ : Around} {base h₀ : Heap} {L : Addr} {m : Str → Option Value} {news : CbLed} {s : Shared} {Q E : Value → Shared → Prop} {ml : Addr} {vs : List Value} {kk : Nat} {ns : List Int} {V : Int → Prop} {bs : Int} {n : Int} {tn : Tok} {y : Int} {ty : Tok}
    (B : Below A₀ base outer h₀) (F : Fr h₀ L s.heap m) (X : (Mine.hd.heap_39 w.params).In h₀) (N : News h₀ L s.heap news) (T : Top Mine.hd.view_39 (looseW Mine.hd.view_39 []) mean mg mb h₀) (hk : cs.kind = .function) (hVb : VB V bs) (hm : (ml, listOf vs.toArray kk) ∈ news) (hM : Mem vs ns) (p0 : 0 ≤ y) (p1 : y < 8) (hV1 : VLow V) (hd : dp + 3 < recursionLimit) (hu : un + 24 < cLine)
    (hret : ∀ (r : Addr) (wd : Str) (tw : Tok) (l : Addr) (ops : List Value) (nn : Nat) (led : CbLed) (h' : Heap) (tk' : Nat), Plain wd → ops.length ≤ 2 → OpsIn led V bs ops → Fr h₀ L h' m → News h₀ L h' ((r, { cls := .type "tuple", data := .seq [Value.str wd tw, Value.ref l].toArray }) :: (l, listOf ops.toArray nn) :: (led ++ news)) → Q (.ref r) { s with heap := h', toks := tk' }) (hJ1 : ∀ (r : Addr) (wd : Str) (tw : Tok) (l  g : Addr) (gt gu : Tok) (nn : Nat) (h' : Heap) (tk' : Nat), (wd = Str.ofString "JR" ∨ wd = Str.ofString "DJNZ") → 2 ≤ y → Fr h₀ L h' m → News h₀ L h' ((r, { cls := .type "tuple", data := .seq [Value.str wd tw, Value.ref l].toArray }) :: (l, listOf [Value.ref g].toArray nn) :: (g, { cls := .type "tuple", data := .seq [Value.str (Str.ofString "n") gt, Value.int ((n + 1 + signedOctet (cell ns n)) % 65536) gu].toArray }) :: news) → Q (.ref r) { s with heap := h', toks := tk' }) (hJ2 : ∀ (r : Addr) (wd : Str) (tw : Tok) (l f g : Addr) (gt gu : Tok) (nn : Nat) (h' : Heap) (tk' : Nat), (wd = Str.ofString "JR" ∨ wd = Str.ofString "DJNZ") → 2 ≤ y → Fr h₀ L h' m → News h₀ L h' ((r, { cls := .type "tuple", data := .seq [Value.str wd tw, Value.ref l].toArray }) :: (l, listOf [Value.ref f, Value.ref g].toArray nn) :: (g, { cls := .type "tuple", data := .seq [Value.str (Str.ofString "n") gt, Value.int ((n + 1 + signedOctet (cell ns n)) % 65536) gu].toArray }) :: news) → Q (.ref r) { s with heap := h', toks := tk' }) :
    wpAny (model PySem.Challenge.rw_nz0573_01.row.prog w) (ktrTop dp un gd cn cs L a ccd cl outer) (call (.ref 84) [Value.ref ml, Value.int n tn, Value.int y ty]) Q E s := by
  revert X; k_fill; intro X
  replace N := newsCons N hm
  have hMi := hM.are
  have hMl := hM.size
  all_goals (refine wpAny_call ?_; k_dflt cell_enter; (try ((with_reducible rename Fr _ _ _ (fun y => List.lookup y _) => kF0); replace kF0 : Fr _ _ _ (fun yy => List.lookup yy [(Str.ofString "y", Value.int y ty), (Str.ofString "at", Value.int n tn), (Str.ofString "memory", Value.ref ml)]) := kF0)); (with_reducible refine' ex_use0 ([(ml, listOf vs.toArray kk)]) (OrdJ V bs 2 (2 ≤ y) ((n + 1 + signedOctet (cell ns n)) % 65536)) ?hk ?X ?TR ?F ?N ?hb ?H ?k); k_dflt ((case X => assumption); (case TR => exact topRead_of (by assumption)); (case F => k_asm); (case N => k_asm); (case hk => exact rfl); (case hb => first | exact Sub.no | exact Sub.cons (.head _) Sub.no)); (case H => repeat' ((with_reducible show (_ : Prop)); first | ((with_reducible show EvP _ _ _ (OrN _ _ _)); (first | (with_reducible show EvP _ _ (PySem.Expr.Tuple _ _ _) _) | (with_reducible show EvP _ _ (PySem.Expr.Subscript _ _ _) _) | (with_reducible show EvP _ _ (PySem.Expr.Call _ _ _ _) _)); refine' evMono (P := OrdP V bs 2) ?_ orInr) | ((with_reducible show EvP _ _ (PySem.Expr.Tuple [_, PySem.Expr.List [PySem.Expr.Name _ _] _] _ _) (OrdJ _ _ _ _ _)); refine' jm1E ?_ rfl (List.mem_append_left _ (by assumption)) (le2 (by assumption)) (by kernel_rfl!) (by kernel_rfl!) ?_) | ((with_reducible show EvP _ _ (PySem.Expr.Tuple [_, PySem.Expr.List [PySem.Expr.Call _ _ _ _, PySem.Expr.Name _ _] _] _ _) (OrdJ _ _ _ _ _)); refine' jm2E ?_ ?_ rfl (List.mem_append_left _ (by assumption)) (le2 (by assumption)) (by kernel_rfl!) (by kernel_rfl!) ?_ ?_) | (((with_reducible show EvP _ _ _ (OrdJ _ _ _ _ _)); (first | (with_reducible show EvP _ _ (PySem.Expr.Tuple _ _ _) _) | (with_reducible show EvP _ _ (PySem.Expr.Subscript _ _ _) _) | (with_reducible show EvP _ _ (PySem.Expr.Call (PySem.Expr.Name (Str.ofString "in_order") _) _ _ _) _) | (with_reducible show EvP _ _ (PySem.Expr.Call (PySem.Expr.Name (Str.ofString "reckoning") _) _ _ _) _) | (with_reducible show EvP _ _ (PySem.Expr.Call (PySem.Expr.Name (Str.ofString "high_order") _) _ _ _) _)); refine' evMono (P := OrdP V bs 2) ?_ ordJl)) | ((with_reducible show Ex _ _ (Stmt.Assign [PySem.Expr.Name (Str.ofString "goal") _] _ _ :: _) _); refine' exAsgG (goal := (n + 1 + signedOctet (cell ns n)) % 65536) ?_ ?_ ?_ ?_) | ((with_reducible show EvP _ _ _ (GoP _)); refine' goE ?_ ?_ ?_) | ((with_reducible show ∀ g gt gu led, _ ∈ led → Ex _ _ _ _); intro g9 gt9 gu9 led7 hm9) | ((with_reducible show Jw _); first | exact jwDJ | exact jwJR) | ((with_reducible refine' opS ?hk ?_ ?_ ?_); (case hk => with_reducible first | exact .inl rfl | exact .inr (.inl rfl) | exact .inr (.inr (.inl rfl)) | exact .inr (.inr (.inr rfl)))) | ((with_reducible refine' opSA ?hk ?_ ?_ ?_); (case hk => with_reducible first | exact .inl rfl | exact .inr (.inl rfl) | exact .inr (.inr (.inl rfl)) | exact .inr (.inr (.inr rfl)))) | ((with_reducible refine' opN ?hk ?_ ?_ ?_ ?_); (case hk => with_reducible first | exact .inl rfl | exact .inr rfl)) | (with_reducible first | exact evConst | exact evBool | exact Ks.nil | refine' Ks.cons ?_ | exact cpEq | exact cpNe | exact cpLt | exact cpGt | exact cpLe | exact cpNeB | exact cpEqS | exact cpNeS | exact cnIn | exact cnNot | refine' evShr ?_ ?_ ?_ | refine' evAnd ?_ ?_ | refine' evMod ?_ ?_ ?_ | refine' evSub ?_ ?_ | refine' evAdd ?_ ?_ | refine' evOr ?_ ?_ | refine' evShl ?_ ?_ ?_ ?_ | refine' evIn ?_ ?_ ?_ ?_ ?_ | refine' isIn ?_ ?_ ?_ ?_ ?_ | refine' evCmp ?_ ?_ ?_ ?_ | refine' isCmp ?_ ?_ ?_ ?_ | refine' evChain ?_ ?_ ?_ ?_ ?_ ?_ | refine' isNot ?_ | refine' evNot ?_ | refine' isAnd ?_ ?_ | refine' isAnd1 ?_ | refine' isOr ?_ ?_ | refine' isOr1 ?_ | refine' evBAnd ?_ ?_ | refine' evBOr ?_ ?_ | refine' evB1 ?_ | refine' evIfP ?_ ?_ ?_ | refine' exRet ?_ | refine' exIfP ?_ ?_ ?_ | refine' exAsg3 ?_ ?_ ?_ ?_ ?_ ?_ ?_ ?_ ?_ ?_ ?_ ?_ ?_ | refine' exAsg2 ?_ ?_ ?_ ?_ ?_ ?_ ?_ ?_ ?_ ?_ | refine' ordE ?_ ?_ ?_ ?_ | refine' lstE ?_ ?_ | refine' listE ?_ ?_ | exact rowNil | refine' rowCons ?_ ?_ ?_ | refine' esC ?_ | refine' pickOf ?_ ?_ ?_ ?_ ?_ ?_ | exact evStrC | refine' evNone ?_ | refine' evMul ?_ ?_ ?_ | refine' call1 ?_ ?_ ?_ ?_ ?_ ?_ ?_ ?_ ?_ | refine' call2 ?_ ?_ ?_ ?_ ?_ ?_ ?_ ?_ ?_ ?_ ?_ | refine' call3 ?_ ?_ ?_ ?_ ?_ ?_ ?_ ?_ ?_ ?_ ?_ ?_ ?_ | refine' call4 ?_ ?_ ?_ ?_ ?_ ?_ ?_ ?_ ?_ ?_ ?_ ?_ ?_ ?_ ?_ | refine' call5 ?_ ?_ ?_ ?_ ?_ ?_ ?_ ?_ ?_ ?_ ?_ ?_ ?_ ?_ ?_ ?_ ?_ | refine' call0 ?_ ?_ ?_ ?_ ?_ ?_) | ((with_reducible show _ = _); first | kernel_rfl! | (k_is; done) | exact rfl | fail "eq") | ((with_reducible show EvP _ _ (PySem.Expr.Name _ _) _); first | exact evName rfl (by kernel_rfl!) (by kernel_rfl!) | exact esN rfl (by kernel_rfl!) (by kernel_rfl!) trivial | exact esN rfl (by kernel_rfl!) (by kernel_rfl!) (by assumption) | exact opName rfl (List.mem_append_left _ (by assumption)) (by assumption) (by kernel_rfl!) (by kernel_rfl!) | exact opName rfl (.head _) (by assumption) (by kernel_rfl!) (by kernel_rfl!) | exact nmP rfl (by assumption) (fun _ h => List.mem_append_left _ h) (by kernel_rfl!) (by kernel_rfl!) | exact evNameV rfl (by kernel_rfl!) (by kernel_rfl!) | fail "name") | ((with_reducible show IsT _ _ _ _); first | exact isName rfl (by kernel_rfl!) (by kernel_rfl!) | (with_reducible refine' isW ?_) | fail "isT") | ((with_reducible show CallP _ _ _ _ _); first | (refine' CallP.mk ?_; intro nw8 s8 q8 I8 k8; obtain ⟨F8, N8, S8⟩ := I8; refine' flag_told_c ?k1 F8 ?k3 N8 ?k5 ?kK ?p0 ?p1 ?kd ?ku ?_; (case k1 => assumption); (case k3 => assumption); (case k5 => assumption); (case p0 => exact sub4 (by assumption)); (case p1 => first | assumption | omega | l_fact); (case kK => first | exact rfl | assumption); (case kd => ktr_room); (case ku => ktr_units); first | exact opK k8 S8 | exact opK' k8 S8 | exact opKA k8 S8) | (refine' CallP.mk ?_; intro nw8 s8 q8 I8 k8; obtain ⟨F8, N8, S8⟩ := I8; refine' short_goal_c ?k1 F8 ?k3 N8 ?k5 ?kK ?hm ?hM ?kd ?ku ?_; (case k1 => assumption); (case k3 => assumption); (case k5 => assumption); (case hm => first | exact S8 _ (.head _) | exact S8 _ (List.mem_append_right _ (.head _))); (case hM => assumption); (case kK => first | exact rfl | assumption); (case kd => ktr_room); (case ku => ktr_units); intro t8 h8 tk8 F9 N9; exact k8 _ [] _ _ _ (show VI _ _ _ from ⟨rfl, t8, rfl⟩) Sub.no Sub.refl' ⟨F9, N9, S8⟩) | fail "call") | ((first | (with_reducible show _ = true → EvP _ _ _ _) | (with_reducible show _ = false → EvP _ _ _ _) | (with_reducible show _ = true → Ex _ _ _ _) | (with_reducible show _ = false → Ex _ _ _ _)); intro hb) | (intro t1 t2 t3) | (intro t1 t2) | ((with_reducible show ∀ t : Tok, CallP _ _ _ _ _); intro t1) | (intro l9 u9; with_unfolding_all rfl) | exact plain_of (by decide +kernel) | exact trivial | ((with_reducible show IntMulOk _ _); exact IntMulOk.of_left (by decide)) | ((with_reducible show OrN _ _ _ _ _); exact .inl rfl) | (exact hpr.1) | (exact hpr.2) | (exact hyr.1) | (exact hyr.2) | (exact hzr.1) | (exact hzr.2) | omega | (first | fail "v" | fail "none") | fail "none")); intro v9 led9 news9 h9 tk9 m9 p9 l9 s9 F9 N9; (try dsimp only); k_steps)
  all_goals (
    (with_reducible rename Fr _ _ _ _ => kFF)
    (with_reducible rename News _ _ _ _ => kNN)
    rcases p9 with p9 | ⟨r9, wd9, tw9, k9, g9, gt9, gu9, nn9, e9, hr9, hl9, hg9, hw9, hf9⟩ | ⟨r9, wd9, tw9, k9, f9, g9, gt9, gu9, nn9, e9, hr9, hl9, hg9, hw9, hf9⟩
    · exact ordFin (news := news) p9 l9 (fun p hp => s9 p (.tail _ hp)) kFF kNN (fun r wd tw l ops nn led e hp hlen hops F N => by subst e; exact hret r wd tw l ops nn led _ _ hp hlen hops F N)
    · subst e9; exact hJ1 _ _ _ _ _ _ _ _ _ _ hw9 hf9 kFF (newsSub kNN (Sub.cons (l9 _ hr9) (Sub.cons (l9 _ hl9) (Sub.cons (l9 _ hg9) (fun p hp => s9 p (.tail _ hp))))))
    · subst e9; exact hJ2 _ _ _ _ _ _ _ _ _ _ _ hw9 hf9 kFF (newsSub kNN (Sub.cons (l9 _ hr9) (Sub.cons (l9 _ hl9) (Sub.cons (l9 _ hg9) (fun p hp => s9 p (.tail _ hp))))))
)

-- S7
theorem lines_S7_0 : True := by
  w_top off
  k_with_none
  k_with "subscriptTail" => ((k_here; (with_reducible show wpAny _ _ (subscriptTail _ _ (Value.ref _) (Value.int _ _)) _ _ _); k_dflt (refine' pickK ?k1 ?k3 ?k4 ?k5 ?_ ?k6; (case k1 => exact News.isList (by k_asm) (by k_mem)); (case k3 => l_idx); (case k4 => l_idx); (case k5 => l_idx); (case k6 => with_unfolding_all rfl); k_whole)); k_few; (dsimp only [PickAt]); k_places; (all_goals try k_fold))
  k_with "subscriptTail" => (k_here; (with_reducible show wpAny _ _ (subscriptTail _ _ (Value.ref _) (Value.int _ _)) _ _ _); k_dflt (refine' pickName ?k1 ?k2 ?k3 ?k4 ?k5 ?_ ?k6; (case k1 => exact News.isList (by k_asm) (by k_mem)); (case k2 => repeat (first | exact Names.nil | refine Names.cons (by first | assumption | exact plain_of (by decide +kernel)) ?_)); (case k3 => l_idx); (case k4 => l_idx); (case k5 => l_idx); (case k6 => with_unfolding_all rfl); k_whole); intro x9 t9 p9; (try dsimp only); (all_goals try k_fold))
  k_with "call ref" => (k_here; k_dflt (refine' peek_c ?k1 ?k2 ?k3 ?k4 ?k5 ?kK ?hm ?hM ?kd ?ku ?_; (case k1 => k_asm); (case k2 => k_asm); (case k3 => k_asm); (case k4 => k_asm); (case k5 => k_asm); (case hm => k_mem); (case hM => assumption); (case kK => first | exact rfl | assumption); (case kd => ktr_room); (case ku => ktr_units)); intro t9 h9 tk9 c9 c9 F9 N9; (try dsimp only); (try k_sweep); (all_goals try k_fold))
  k_with "call ref" => (k_here; k_dflt (refine' peek16_c ?k1 ?k2 ?k3 ?k4 ?k5 ?kK ?hm ?hM ?kd ?ku ?_; (case k1 => k_asm); (case k2 => k_asm); (case k3 => k_asm); (case k4 => k_asm); (case k5 => k_asm); (case hm => k_mem); (case hM => assumption); (case kK => first | exact rfl | assumption); (case kd => ktr_room); (case ku => ktr_units)); intro t9 h9 tk9  F9 N9; (try dsimp only); (try k_sweep); (all_goals try k_fold))
  k_with "call ref" => (k_here; k_dflt (refine' place_told_c ?k1 ?k2 ?k3 ?k4 ?k5 ?kK ?hVb ?p0 ?p1 ?hix ?hbx ?kd ?ku ?_; (case k1 => k_asm); (case k2 => k_asm); (case k3 => k_asm); (case k4 => k_asm); (case k5 => k_asm); (case hVb => assumption); (case p0 => first | assumption | omega | l_fact); (case p1 => first | assumption | omega | l_fact); (case hix => first | assumption | exact .inl rfl | exact .inr (.inl rfl) | exact .inr (.inr rfl)); (case hbx => first | assumption | exact fun h => absurd rfl h | exact fun _ => rfl); (case kK => first | exact rfl | assumption); (case kd => ktr_room); (case ku => ktr_units)); intro b9 o9 h9 tk9 q9 F9 N9; (try dsimp only); (try k_sweep); (all_goals try k_fold))
  k_with "call ref" => (k_here; k_dflt (refine' pair_told_c ?k1 ?k2 ?k3 ?k4 ?k5 ?kK ?p0 ?p1 ?hix ?hla ?kd ?ku ?_; (case k1 => k_asm); (case k2 => k_asm); (case k3 => k_asm); (case k4 => k_asm); (case k5 => k_asm); (case p0 => first | assumption | omega | l_fact); (case p1 => first | assumption | omega | l_fact); (case hix => first | assumption | exact .inl rfl | exact .inr (.inl rfl) | exact .inr (.inr rfl)); (case hla => first | assumption | exact plain_of (by decide +kernel)); (case kK => first | exact rfl | assumption); (case kd => ktr_room); (case ku => ktr_units)); intro b9 o9 h9 tk9 q9 F9 N9; (try dsimp only); (try k_sweep); (all_goals try k_fold))
  k_with "call ref" => (k_here; k_dflt (refine' flag_told_c ?k1 ?k2 ?k3 ?k4 ?k5 ?kK ?p0 ?p1 ?kd ?ku ?_; (case k1 => k_asm); (case k2 => k_asm); (case k3 => k_asm); (case k4 => k_asm); (case k5 => k_asm); (case p0 => first | assumption | omega | l_fact); (case p1 => first | assumption | omega | l_fact); (case kK => first | exact rfl | assumption); (case kd => ktr_room); (case ku => ktr_units)); intro b9 o9 h9 tk9 q9 F9 N9; (try dsimp only); (try k_sweep); (all_goals try k_fold))
  k_with "call ref" => (k_here; k_dflt (refine' in_order_c ?k1 ?k2 ?k3 ?k4 ?k5 ?kK ?hVb ?hl ?h1 ?h2 ?q1 ?q2 ?kd ?ku ?_; (case k1 => k_asm); (case k2 => k_asm); (case k3 => k_asm); (case k4 => k_asm); (case k5 => k_asm); (case hVb => assumption); (case hl => k_mem); (case h1 => k_mem); (case h2 => k_mem); (case q1 => first | exact Opd.x | (apply_assumption; done) | exact Opd.s (by first | exact .inl rfl | exact .inr (.inl rfl) | exact .inr (.inr (.inl rfl)) | exact .inr (.inr (.inr rfl))) | exact Opd.n (by first | exact .inl rfl | exact .inr rfl) (by first | assumption | exact VLow.out (by assumption) _ (by omega) | exact VLow.out (by assumption) _ (by simp only [bitAnd_m3] at *; omega) | exact VIf.out (by assumption) (by first | assumption | exact far2 (by assumption) (by assumption) (by assumption) (.inl ⟨by assumption, by assumption, by assumption⟩) | exact far2 (by assumption) (by assumption) (by assumption) (.inr (.inl ⟨by assumption, by assumption, by dsimp only [fy]; omega⟩)) | exact far2 (by assumption) (by assumption) (by assumption) (.inr (.inr (.inl ⟨by assumption, .inl (by assumption)⟩))) | exact far2 (by assumption) (by assumption) (by assumption) (.inr (.inr (.inl ⟨by assumption, .inr (by assumption)⟩))) | exact far2 (by assumption) (by assumption) (by assumption) (.inr (.inr (.inr (.inl ⟨by assumption, by assumption, by assumption⟩)))) | exact far2 (by assumption) (by assumption) (by assumption) (.inr (.inr (.inr (.inr ⟨by assumption, by assumption, by assumption⟩))))))); (case q2 => first | exact Opd.x | (apply_assumption; done) | exact Opd.s (by first | exact .inl rfl | exact .inr (.inl rfl) | exact .inr (.inr (.inl rfl)) | exact .inr (.inr (.inr rfl))) | exact Opd.n (by first | exact .inl rfl | exact .inr rfl) (by first | assumption | exact VLow.out (by assumption) _ (by omega) | exact VLow.out (by assumption) _ (by simp only [bitAnd_m3] at *; omega) | exact VIf.out (by assumption) (by first | assumption | exact far2 (by assumption) (by assumption) (by assumption) (.inl ⟨by assumption, by assumption, by assumption⟩) | exact far2 (by assumption) (by assumption) (by assumption) (.inr (.inl ⟨by assumption, by assumption, by dsimp only [fy]; omega⟩)) | exact far2 (by assumption) (by assumption) (by assumption) (.inr (.inr (.inl ⟨by assumption, .inl (by assumption)⟩))) | exact far2 (by assumption) (by assumption) (by assumption) (.inr (.inr (.inl ⟨by assumption, .inr (by assumption)⟩))) | exact far2 (by assumption) (by assumption) (by assumption) (.inr (.inr (.inr (.inl ⟨by assumption, by assumption, by assumption⟩)))) | exact far2 (by assumption) (by assumption) (by assumption) (.inr (.inr (.inr (.inr ⟨by assumption, by assumption, by assumption⟩))))))); (case kK => first | exact rfl | assumption); (case kd => ktr_room); (case ku => ktr_units)); intro r9 wd9 tw9 l9 ops9 nn9 led9 h9 tk9 pw9 len9 q9 F9 N9; (try dsimp only); (try k_sweep); (all_goals try k_fold))
  k_with "call ref" => (k_here; k_dflt (refine' reckoning_c ?k1 ?k2 ?k3 ?k4 ?k5 ?kK ?hVb ?p0 ?p1 ?h1 ?q1 ?kd ?ku ?_; (case k1 => k_asm); (case k2 => k_asm); (case k3 => k_asm); (case k4 => k_asm); (case k5 => k_asm); (case hVb => assumption); (case p0 => first | assumption | omega | l_fact); (case p1 => first | assumption | omega | l_fact); (case h1 => k_mem); (case q1 => first | exact Opd.x | (apply_assumption; done) | exact Opd.s (by first | exact .inl rfl | exact .inr (.inl rfl) | exact .inr (.inr (.inl rfl)) | exact .inr (.inr (.inr rfl))) | exact Opd.n (by first | exact .inl rfl | exact .inr rfl) (by first | assumption | exact VLow.out (by assumption) _ (by omega) | exact VLow.out (by assumption) _ (by simp only [bitAnd_m3] at *; omega) | exact VIf.out (by assumption) (by first | assumption | exact far2 (by assumption) (by assumption) (by assumption) (.inl ⟨by assumption, by assumption, by assumption⟩) | exact far2 (by assumption) (by assumption) (by assumption) (.inr (.inl ⟨by assumption, by assumption, by dsimp only [fy]; omega⟩)) | exact far2 (by assumption) (by assumption) (by assumption) (.inr (.inr (.inl ⟨by assumption, .inl (by assumption)⟩))) | exact far2 (by assumption) (by assumption) (by assumption) (.inr (.inr (.inl ⟨by assumption, .inr (by assumption)⟩))) | exact far2 (by assumption) (by assumption) (by assumption) (.inr (.inr (.inr (.inl ⟨by assumption, by assumption, by assumption⟩)))) | exact far2 (by assumption) (by assumption) (by assumption) (.inr (.inr (.inr (.inr ⟨by assumption, by assumption, by assumption⟩))))))); (case kK => first | exact rfl | assumption); (case kd => ktr_room); (case ku => ktr_units)); intro r9 wd9 tw9 l9 ops9 nn9 led9 h9 tk9 pw9 len9 q9 F9 N9; (try dsimp only); (try k_sweep); (all_goals try k_fold))
  k_with "call ref" => (k_here; k_dflt (refine' short_order_c ?k1 ?k2 ?k3 ?k4 ?k5 ?kK ?hVb ?hm ?hM ?p0 ?p1 ?hV1 ?kd ?ku ?_ ?_ ?_; (case k1 => k_asm); (case k2 => k_asm); (case k3 => k_asm); (case k4 => k_asm); (case k5 => k_asm); (case hVb => assumption); (case hm => k_mem); (case hM => assumption); (case p0 => first | assumption | omega | l_fact); (case p1 => first | assumption | omega | l_fact); (case hV1 => assumption); (case kK => first | exact rfl | assumption); (case kd => ktr_room); (case ku => ktr_units)); (intro r9 wd9 tw9 l9 ops9 nn9 led9 h9 tk9 pw9 len9 q9 F9 N9); rotate_left; (intro r9 wd9 tw9 l9 g9 gt9 gu9 nn9 h9 tk9 jw9 jf9 F9 N9); rotate_left; (intro r9 wd9 tw9 l9 f9 g9 gt9 gu9 nn9 h9 tk9 jw9 jf9 F9 N9); rotate_left; (try dsimp only); (try k_sweep); (all_goals try k_fold))
  trivial
theorem other_order_c {w : World} {mean : ExcName → Option Value} {mg mb : Str → Option Value} {dp un : Nat} {gd : Option (List Code)} {cn : Str} {cs : Scope} {a : Addr} {ccd : Value} {cl : List (Str × Addr)} {outer : List Env} {A₀ : Around} {base h₀ : Heap} {L : Addr} {m : Str → Option Value} {news : CbLed} {s : Shared} {Q E : Value → Shared → Prop} {ml : Addr} {vs : List Value} {kk : Nat} {ns : List Int} {V : Int → Prop} {bs : Int} {n : Int} {tn : Tok} {y : Int} {ty : Tok} {ba : Str} {tb : Tok}
    (B : Below A₀ base outer h₀) (F : Fr h₀ L s.heap m) (X : (Mine.hd.heap_39 w.params).In h₀) (N : News h₀ L s.heap news) (T : Top Mine.hd.view_39 (looseW Mine.hd.view_39 []) mean mg mb h₀) (hk : cs.kind = .function) (hVb : VB V bs) (hm : (ml, listOf vs.toArray kk) ∈ news) (hM : Mem vs ns) (p0 : 0 ≤ y) (p1 : y < 8) (p2 : y ≠ 1) (hba : Plain ba) (hV1 : VLow V) (hVy : VIf V (y = 0) (cell ns n + 256 * cell ns (n + 1))) (hd : dp + 3 < recursionLimit) (hu : un + 24 < cLine)
    (hret : ∀ (r : Addr) (wd : Str) (tw : Tok) (l : Addr) (ops : List Value) (nn : Nat) (led : CbLed) (h' : Heap) (tk' : Nat), Plain wd → ops.length ≤ 2 → OpsIn led V bs ops → Fr h₀ L h' m → News h₀ L h' ((r, { cls := .type "tuple", data := .seq [Value.str wd tw, Value.ref l].toArray }) :: (l, listOf ops.toArray nn) :: (led ++ news)) → Q (.ref r) { s with heap := h', toks := tk' }) :
    wpAny (model PySem.Challenge.rw_nz0573_01.row.prog w) (ktrTop dp un gd cn cs L a ccd cl outer) (call (.ref 112) [Value.ref ml, Value.int n tn, Value.int y ty, Value.str ba tb]) Q E s := by
  revert X; k_fill; intro X
  replace N := newsCons N hm
  have hMi := hM.are
  have hMl := hM.size
  have hc09 := cell_oct hM n
  all_goals (refine wpAny_call ?_; k_dflt cell_enter; (try ((with_reducible rename Fr _ _ _ (fun y => List.lookup y _) => kF0); replace kF0 : Fr _ _ _ (fun yy => List.lookup yy [(Str.ofString "base", Value.str ba tb), (Str.ofString "y", Value.int y ty), (Str.ofString "at", Value.int n tn), (Str.ofString "memory", Value.ref ml)]) := kF0)); (with_reducible refine' ex_use0 ([(ml, listOf vs.toArray kk)]) (OrdP V bs 2) ?hk ?X ?TR ?F ?N ?hb ?H ?k); k_dflt ((case X => assumption); (case TR => exact topRead_of (by assumption)); (case F => k_asm); (case N => k_asm); (case hk => exact rfl); (case hb => first | exact Sub.no | exact Sub.cons (.head _) Sub.no)); (case H => repeat' ((with_reducible show (_ : Prop)); first | ((with_reducible show EvP _ _ _ (OrN _ _ _)); (first | (with_reducible show EvP _ _ (PySem.Expr.Tuple _ _ _) _) | (with_reducible show EvP _ _ (PySem.Expr.Subscript _ _ _) _) | (with_reducible show EvP _ _ (PySem.Expr.Call _ _ _ _) _)); refine' evMono (P := OrdP V bs 2) ?_ orInr) | ((with_reducible refine' opS ?hk ?_ ?_ ?_); (case hk => with_reducible first | exact .inl rfl | exact .inr (.inl rfl) | exact .inr (.inr (.inl rfl)) | exact .inr (.inr (.inr rfl)))) | ((with_reducible refine' opSA ?hk ?_ ?_ ?_); (case hk => with_reducible first | exact .inl rfl | exact .inr (.inl rfl) | exact .inr (.inr (.inl rfl)) | exact .inr (.inr (.inr rfl)))) | ((with_reducible refine' opN ?hk ?_ ?_ ?_ ?_); (case hk => with_reducible first | exact .inl rfl | exact .inr rfl)) | (with_reducible first | exact evConst | exact evBool | exact Ks.nil | refine' Ks.cons ?_ | exact cpEq | exact cpNe | exact cpLt | exact cpGt | exact cpLe | exact cpNeB | exact cpEqS | exact cpNeS | exact cnIn | exact cnNot | refine' evShr ?_ ?_ ?_ | refine' evAnd ?_ ?_ | refine' evMod ?_ ?_ ?_ | refine' evSub ?_ ?_ | refine' evAdd ?_ ?_ | refine' evOr ?_ ?_ | refine' evShl ?_ ?_ ?_ ?_ | refine' evIn ?_ ?_ ?_ ?_ ?_ | refine' isIn ?_ ?_ ?_ ?_ ?_ | refine' evCmp ?_ ?_ ?_ ?_ | refine' isCmp ?_ ?_ ?_ ?_ | refine' evChain ?_ ?_ ?_ ?_ ?_ ?_ | refine' isNot ?_ | refine' evNot ?_ | refine' isAnd ?_ ?_ | refine' isAnd1 ?_ | refine' isOr ?_ ?_ | refine' isOr1 ?_ | refine' evBAnd ?_ ?_ | refine' evBOr ?_ ?_ | refine' evB1 ?_ | refine' evIfP ?_ ?_ ?_ | refine' exRet ?_ | refine' exIfP ?_ ?_ ?_ | refine' exAsg3 ?_ ?_ ?_ ?_ ?_ ?_ ?_ ?_ ?_ ?_ ?_ ?_ ?_ | refine' exAsg2 ?_ ?_ ?_ ?_ ?_ ?_ ?_ ?_ ?_ ?_ | refine' ordE ?_ ?_ ?_ ?_ | refine' lstE ?_ ?_ | refine' listE ?_ ?_ | exact rowNil | refine' rowCons ?_ ?_ ?_ | refine' esC ?_ | refine' pickOf ?_ ?_ ?_ ?_ ?_ ?_ | exact evStrC | refine' evNone ?_ | refine' evMul ?_ ?_ ?_ | refine' call1 ?_ ?_ ?_ ?_ ?_ ?_ ?_ ?_ ?_ | refine' call2 ?_ ?_ ?_ ?_ ?_ ?_ ?_ ?_ ?_ ?_ ?_ | refine' call3 ?_ ?_ ?_ ?_ ?_ ?_ ?_ ?_ ?_ ?_ ?_ ?_ ?_ | refine' call4 ?_ ?_ ?_ ?_ ?_ ?_ ?_ ?_ ?_ ?_ ?_ ?_ ?_ ?_ ?_ | refine' call5 ?_ ?_ ?_ ?_ ?_ ?_ ?_ ?_ ?_ ?_ ?_ ?_ ?_ ?_ ?_ ?_ ?_ | refine' call0 ?_ ?_ ?_ ?_ ?_ ?_) | ((with_reducible show _ = _); first | kernel_rfl! | (k_is; done) | exact rfl | fail "eq") | ((with_reducible show EvP _ _ (PySem.Expr.Name _ _) _); first | exact evName rfl (by kernel_rfl!) (by kernel_rfl!) | exact esN rfl (by kernel_rfl!) (by kernel_rfl!) trivial | exact esN rfl (by kernel_rfl!) (by kernel_rfl!) (by assumption) | exact opName rfl (List.mem_append_left _ (by assumption)) (by assumption) (by kernel_rfl!) (by kernel_rfl!) | exact opName rfl (.head _) (by assumption) (by kernel_rfl!) (by kernel_rfl!) | exact nmP rfl (by assumption) (fun _ h => List.mem_append_left _ h) (by kernel_rfl!) (by kernel_rfl!) | exact evNameV rfl (by kernel_rfl!) (by kernel_rfl!) | fail "name") | ((with_reducible show IsT _ _ _ _); first | exact isName rfl (by kernel_rfl!) (by kernel_rfl!) | (with_reducible refine' isW ?_) | fail "isT") | ((with_reducible show CallP _ _ _ _ _); first | (refine' CallP.mk ?_; intro nw8 s8 q8 I8 k8; obtain ⟨F8, N8, S8⟩ := I8; refine' peek_c ?k1 F8 ?k3 N8 ?k5 ?kK ?hm ?hM ?kd ?ku ?_; (case k1 => assumption); (case k3 => assumption); (case k5 => assumption); (case hm => first | exact S8 _ (.head _) | exact S8 _ (List.mem_append_right _ (.head _))); (case hM => assumption); (case kK => first | exact rfl | assumption); (case kd => ktr_room); (case ku => ktr_units); intro t8 h8 tk8 c8 c8 F9 N9; exact k8 _ [] _ _ _ (show VI _ _ _ from ⟨rfl, t8, rfl⟩) Sub.no Sub.refl' ⟨F9, N9, S8⟩) | (refine' CallP.mk ?_; intro nw8 s8 q8 I8 k8; obtain ⟨F8, N8, S8⟩ := I8; refine' peek16_c ?k1 F8 ?k3 N8 ?k5 ?kK ?hm ?hM ?kd ?ku ?_; (case k1 => assumption); (case k3 => assumption); (case k5 => assumption); (case hm => first | exact S8 _ (.head _) | exact S8 _ (List.mem_append_right _ (.head _))); (case hM => assumption); (case kK => first | exact rfl | assumption); (case kd => ktr_room); (case ku => ktr_units); intro t8 h8 tk8 F9 N9; exact k8 _ [] _ _ _ (show VI _ _ _ from ⟨rfl, t8, rfl⟩) Sub.no Sub.refl' ⟨F9, N9, S8⟩) | fail "call") | ((first | (with_reducible show _ = true → EvP _ _ _ _) | (with_reducible show _ = false → EvP _ _ _ _) | (with_reducible show _ = true → Ex _ _ _ _) | (with_reducible show _ = false → Ex _ _ _ _)); intro hb) | (intro t1 t2 t3) | (intro t1 t2) | ((with_reducible show ∀ t : Tok, CallP _ _ _ _ _); intro t1) | (intro l9 u9; with_unfolding_all rfl) | exact plain_of (by decide +kernel) | exact trivial | ((with_reducible show IntMulOk _ _); exact IntMulOk.of_left (by decide)) | ((with_reducible show OrN _ _ _ _ _); exact .inl rfl) | (exact hpr.1) | (exact hpr.2) | (exact hyr.1) | (exact hyr.2) | (exact hzr.1) | (exact hzr.2) | (exact vif0 (by assumption) (by assumption)) | (exact sub5 (by assumption) (by assumption) (by assumption) (by assumption) (by assumption) (by assumption)) | omega | (first | exact VLow.out (by assumption) _ hc09.2 | exact VLow.out (by assumption) _ (by omega) | exact VIf.out (by assumption) (farA (by assumption) (by assumption) (by assumption) (by assumption) (by assumption)) | exact VIf.out (by assumption) (farB (by assumption) (by assumption) (by assumption) (by assumption) (by assumption) (by assumption)) | fail "none") | fail "none")); intro v9 led9 news9 h9 tk9 m9 p9 l9 s9 F9 N9; (try dsimp only); k_steps)
  all_goals (
    (with_reducible rename Fr _ _ _ _ => kFF)
    (with_reducible rename News _ _ _ _ => kNN)
    exact ordFin (news := news) p9 l9 (by first | exact s9 | exact fun p hp => s9 p (.tail _ hp)) kFF kNN (fun r wd tw l ops nn led e hp hlen hops F N => by subst e; exact hret r wd tw l ops nn led _ _ hp hlen hops F N)
)
theorem lines_S7_1 : True := by
  k_with "call ref" => (k_here; k_dflt (refine' other_order_c ?k1 ?k2 ?k3 ?k4 ?k5 ?kK ?hVb ?hm ?hM ?p0 ?p1 ?p2 ?hba ?hV1 ?hVy ?kd ?ku ?_; (case k1 => k_asm); (case k2 => k_asm); (case k3 => k_asm); (case k4 => k_asm); (case k5 => k_asm); (case hVb => assumption); (case hm => k_mem); (case hM => assumption); (case p0 => first | assumption | omega | l_fact); (case p1 => first | assumption | omega | l_fact); (case p2 => first | assumption | exact y1C (by assumption) (by assumption) (by assumption) (by assumption) (by assumption) | exact y1 (by assumption) (by assumption) (by assumption) (by assumption) (by assumption)); (case hba => first | assumption | exact plain_of (by decide +kernel)); (case hV1 => assumption); (case hVy => first | assumption | exact farC (by assumption) (by assumption) (by assumption) (by assumption) (by assumption) (by assumption) | exact ⟨fun hy0 => VIf.out (by assumption) (far2 (by assumption) (by assumption) (by assumption) (.inr (.inr (.inr (.inl ⟨by assumption, by assumption, hy0⟩)))))⟩); (case kK => first | exact rfl | assumption); (case kd => ktr_room); (case ku => ktr_units)); intro r9 wd9 tw9 l9 ops9 nn9 led9 h9 tk9 pw9 len9 q9 F9 N9; (try dsimp only); (try k_sweep); (all_goals try k_fold))
  trivial
theorem low_order_c {w : World} {mean : ExcName → Option Value} {mg mb : Str → Option Value} {dp un : Nat} {gd : Option (List Code)} {cn : Str} {cs : Scope} {a : Addr} {ccd : Value} {cl : List (Str × Addr)} {outer : List Env} {A₀ : Around} {base h₀ : Heap} {L : Addr} {m : Str → Option Value} {news : CbLed} {s : Shared} {Q E : Value → Shared → Prop} {ml : Addr} {vs : List Value} {kk : Nat} {ns : List Int} {V : Int → Prop} {bs : Int} {n : Int} {tn : Tok} {octet : Int} {to : Tok} {ix : Str} {tx : Tok} {ba : Int} {tb : Tok}
    (B : Below A₀ base outer h₀) (F : Fr h₀ L s.heap m) (X : (Mine.hd.heap_39 w.params).In h₀) (N : News h₀ L s.heap news) (T : Top Mine.hd.view_39 (looseW Mine.hd.view_39 []) mean mg mb h₀) (hk : cs.kind = .function) (hVb : VB V bs) (hm : (ml, listOf vs.toArray kk) ∈ news) (hM : Mem vs ns) (p0 : 0 ≤ octet) (p1 : octet < 256) (hx : fx octet = 0) (hno : ([203, 221, 237, 253].any fun x => x == octet) = false) (hix : ix = Str.ofString "" ∨ ix = Str.ofString "IX" ∨ ix = Str.ofString "IY") (hbx : ix ≠ Str.ofString "" → ba = bs) (hV1 : VLow V) (hV2 : VIf V (farOctets octet = 2) (cell ns n + 256 * cell ns (n + 1))) (hd : dp + 4 < recursionLimit) (hu : un + 32 < cLine)
    (hret : ∀ (r : Addr) (wd : Str) (tw : Tok) (l : Addr) (ops : List Value) (nn : Nat) (led : CbLed) (h' : Heap) (tk' : Nat), Plain wd → ops.length ≤ 2 → OpsIn led V bs ops → Fr h₀ L h' m → News h₀ L h' ((r, { cls := .type "tuple", data := .seq [Value.str wd tw, Value.ref l].toArray }) :: (l, listOf ops.toArray nn) :: (led ++ news)) → Q (.ref r) { s with heap := h', toks := tk' }) (hJ1 : ∀ (r : Addr) (wd : Str) (tw : Tok) (l  g : Addr) (gt gu : Tok) (nn : Nat) (h' : Heap) (tk' : Nat), (wd = Str.ofString "JR" ∨ wd = Str.ofString "DJNZ") → fz octet = 0 ∧ 2 ≤ fy octet → Fr h₀ L h' m → News h₀ L h' ((r, { cls := .type "tuple", data := .seq [Value.str wd tw, Value.ref l].toArray }) :: (l, listOf [Value.ref g].toArray nn) :: (g, { cls := .type "tuple", data := .seq [Value.str (Str.ofString "n") gt, Value.int ((n + 1 + signedOctet (cell ns n)) % 65536) gu].toArray }) :: news) → Q (.ref r) { s with heap := h', toks := tk' }) (hJ2 : ∀ (r : Addr) (wd : Str) (tw : Tok) (l f g : Addr) (gt gu : Tok) (nn : Nat) (h' : Heap) (tk' : Nat), (wd = Str.ofString "JR" ∨ wd = Str.ofString "DJNZ") → fz octet = 0 ∧ 2 ≤ fy octet → Fr h₀ L h' m → News h₀ L h' ((r, { cls := .type "tuple", data := .seq [Value.str wd tw, Value.ref l].toArray }) :: (l, listOf [Value.ref f, Value.ref g].toArray nn) :: (g, { cls := .type "tuple", data := .seq [Value.str (Str.ofString "n") gt, Value.int ((n + 1 + signedOctet (cell ns n)) % 65536) gu].toArray }) :: news) → Q (.ref r) { s with heap := h', toks := tk' }) :
    wpAny (model PySem.Challenge.rw_nz0573_01.row.prog w) (ktrTop dp un gd cn cs L a ccd cl outer) (call (.ref 77) [Value.ref ml, Value.int n tn, Value.int octet to, Value.str ix tx, Value.int ba tb]) Q E s := by
  revert X; k_fill; intro X
  replace N := newsCons N hm
  have hMi := hM.are
  have hMl := hM.size
  have hyr := fy_rng octet
  have hzr := fz_rng octet
  have hxr := fx_rng p0 p1
  have hpr := half_rng hyr.1 hyr.2
  have hpc := half_case hyr.1
  have hc09 := cell_oct hM n
  all_goals (refine wpAny_call ?_; k_dflt cell_enter; (try ((with_reducible rename Fr _ _ _ (fun y => List.lookup y _) => kF0); replace kF0 : Fr _ _ _ (fun yy => List.lookup yy [(Str.ofString "beside", Value.int ba tb), (Str.ofString "index", Value.str ix tx), (Str.ofString "octet", Value.int octet to), (Str.ofString "at", Value.int n tn), (Str.ofString "memory", Value.ref ml)]) := kF0)); (with_reducible refine' ex_use0 ([(ml, listOf vs.toArray kk)]) (OrdJ V bs 2 (fz octet = 0 ∧ 2 ≤ fy octet) ((n + 1 + signedOctet (cell ns n)) % 65536)) ?hk ?X ?TR ?F ?N ?hb ?H ?k); k_dflt ((case X => assumption); (case TR => exact topRead_of (by assumption)); (case F => k_asm); (case N => k_asm); (case hk => exact rfl); (case hb => first | exact Sub.no | exact Sub.cons (.head _) Sub.no)); (case H => repeat' ((with_reducible show (_ : Prop)); first | ((with_reducible show EvP _ _ _ (OrN _ _ _)); (first | (with_reducible show EvP _ _ (PySem.Expr.Tuple _ _ _) _) | (with_reducible show EvP _ _ (PySem.Expr.Subscript _ _ _) _) | (with_reducible show EvP _ _ (PySem.Expr.Call _ _ _ _) _)); refine' evMono (P := OrdP V bs 2) ?_ orInr) | (((with_reducible show EvP _ _ _ (OrdJ _ _ _ _ _)); (first | (with_reducible show EvP _ _ (PySem.Expr.Tuple _ _ _) _) | (with_reducible show EvP _ _ (PySem.Expr.Subscript _ _ _) _) | (with_reducible show EvP _ _ (PySem.Expr.Call (PySem.Expr.Name (Str.ofString "in_order") _) _ _ _) _) | (with_reducible show EvP _ _ (PySem.Expr.Call (PySem.Expr.Name (Str.ofString "reckoning") _) _ _ _) _) | (with_reducible show EvP _ _ (PySem.Expr.Call (PySem.Expr.Name (Str.ofString "high_order") _) _ _ _) _)); refine' evMono (P := OrdP V bs 2) ?_ ordJl)) | (((with_reducible show EvP _ _ (PySem.Expr.Subscript _ _ _) (Vs fun _ => True)); refine' evMono (P := Vs Plain) ?_ vsTrue)) | ((with_reducible show EvP _ _ (PySem.Expr.Call (PySem.Expr.Name (Str.ofString "in_order") _) _ _ _) _); refine' callOV (P1 := LsOf (OpP V bs) 2) ?_ ?_ ?_ ?_ ?_ ?_ ?_ ?_ ?_ ?_ ?_) | ((with_reducible show ∀ x led t2, LsOf (OpP V bs) 2 x led → CallP _ _ _ _ _); rintro x9 led8 t2 ⟨lo9, vs9, rfl, hl9, hr9⟩; obtain ⟨a19, o19, a29, o29, rfl, m19, m29, q19, q29⟩ := row2 hr9; refine' CallP.mk ?_; intro nw8 s8 q8 I8 k8; obtain ⟨F8, N8, S8⟩ := I8; refine' in_order_c ?k1 F8 ?k3 N8 ?k5 ?kK ?hVb ?hl ?h1 ?h2 ?q1 ?q2 ?kd ?ku ?_; (case k1 => assumption); (case k3 => assumption); (case k5 => assumption); (case hVb => assumption); (case hl => exact S8 _ (List.mem_append_left _ hl9)); (case h1 => exact S8 _ (List.mem_append_left _ m19)); (case h2 => exact S8 _ (List.mem_append_left _ m29)); (case q1 => exact q19); (case q2 => exact q29); (case kK => first | exact rfl | assumption); (case kd => ktr_room); (case ku => ktr_units); exact ordK k8 S8) | ((with_reducible show Ex _ _ (Stmt.Assign [PySem.Expr.Name (Str.ofString "place") _] _ _ :: _) _); refine' exAsgO (b := bs) (V := V) ?_ ?_ ?_ ?_) | ((with_reducible show ∀ a o led, _ ∈ led → Opd _ _ o → Ex _ _ _ _); intro a9 o9 led7 hm9 ho9) | ((with_reducible show CallP _ _ _ [_, _, _] (OrdJ _ _ _ _ _)); refine' CallP.mk ?_; intro nw8 s8 q8 I8 k8; obtain ⟨F8, N8, S8⟩ := I8; refine' short_order_c ?k1 F8 ?k3 N8 ?k5 ?kK ?hVb ?hm ?hM ?p0 ?p1 ?hV1 ?kd ?ku ?_ ?_ ?_; (case k1 => assumption); (case k3 => assumption); (case k5 => assumption); (case hVb => assumption); (case hm => first | exact S8 _ (.head _) | exact S8 _ (List.mem_append_right _ (.head _))); (case hM => assumption); (case p0 => first | assumption | omega | l_fact); (case p1 => first | assumption | omega | l_fact); (case hV1 => assumption); (case kK => first | exact rfl | assumption); (case kd => ktr_room); (case ku => ktr_units); (exact ordKJ k8 S8); (exact j1K k8 S8 (fzE (by assumption))); (exact j2K k8 S8 (fzE (by assumption)))) | ((with_reducible refine' opS ?hk ?_ ?_ ?_); (case hk => with_reducible first | exact .inl rfl | exact .inr (.inl rfl) | exact .inr (.inr (.inl rfl)) | exact .inr (.inr (.inr rfl)))) | ((with_reducible refine' opSA ?hk ?_ ?_ ?_); (case hk => with_reducible first | exact .inl rfl | exact .inr (.inl rfl) | exact .inr (.inr (.inl rfl)) | exact .inr (.inr (.inr rfl)))) | ((with_reducible refine' opN ?hk ?_ ?_ ?_ ?_); (case hk => with_reducible first | exact .inl rfl | exact .inr rfl)) | (with_reducible first | exact evConst | exact evBool | exact Ks.nil | refine' Ks.cons ?_ | exact cpEq | exact cpNe | exact cpLt | exact cpGt | exact cpLe | exact cpNeB | exact cpEqS | exact cpNeS | exact cnIn | exact cnNot | refine' evShr ?_ ?_ ?_ | refine' evAnd ?_ ?_ | refine' evMod ?_ ?_ ?_ | refine' evSub ?_ ?_ | refine' evAdd ?_ ?_ | refine' evOr ?_ ?_ | refine' evShl ?_ ?_ ?_ ?_ | refine' evIn ?_ ?_ ?_ ?_ ?_ | refine' isIn ?_ ?_ ?_ ?_ ?_ | refine' evCmp ?_ ?_ ?_ ?_ | refine' isCmp ?_ ?_ ?_ ?_ | refine' evChain ?_ ?_ ?_ ?_ ?_ ?_ | refine' isNot ?_ | refine' evNot ?_ | refine' isAnd ?_ ?_ | refine' isAnd1 ?_ | refine' isOr ?_ ?_ | refine' isOr1 ?_ | refine' evBAnd ?_ ?_ | refine' evBOr ?_ ?_ | refine' evB1 ?_ | refine' evIfP ?_ ?_ ?_ | refine' exRet ?_ | refine' exIfP ?_ ?_ ?_ | refine' exAsg3 ?_ ?_ ?_ ?_ ?_ ?_ ?_ ?_ ?_ ?_ ?_ ?_ ?_ | refine' exAsg2 ?_ ?_ ?_ ?_ ?_ ?_ ?_ ?_ ?_ ?_ | refine' ordE ?_ ?_ ?_ ?_ | refine' lstE ?_ ?_ | refine' listE ?_ ?_ | exact rowNil | refine' rowCons ?_ ?_ ?_ | refine' esC ?_ | refine' pickOf ?_ ?_ ?_ ?_ ?_ ?_ | exact evStrC | refine' evNone ?_ | refine' evMul ?_ ?_ ?_ | refine' call1 ?_ ?_ ?_ ?_ ?_ ?_ ?_ ?_ ?_ | refine' call2 ?_ ?_ ?_ ?_ ?_ ?_ ?_ ?_ ?_ ?_ ?_ | refine' call3 ?_ ?_ ?_ ?_ ?_ ?_ ?_ ?_ ?_ ?_ ?_ ?_ ?_ | refine' call4 ?_ ?_ ?_ ?_ ?_ ?_ ?_ ?_ ?_ ?_ ?_ ?_ ?_ ?_ ?_ | refine' call5 ?_ ?_ ?_ ?_ ?_ ?_ ?_ ?_ ?_ ?_ ?_ ?_ ?_ ?_ ?_ ?_ ?_ | refine' call0 ?_ ?_ ?_ ?_ ?_ ?_) | ((with_reducible show _ = _); first | kernel_rfl! | (k_is; done) | exact rfl | fail "eq") | ((with_reducible show EvP _ _ (PySem.Expr.Name _ _) _); first | exact evName rfl (by kernel_rfl!) (by kernel_rfl!) | exact esN rfl (by kernel_rfl!) (by kernel_rfl!) trivial | exact esN rfl (by kernel_rfl!) (by kernel_rfl!) (by assumption) | exact opName rfl (List.mem_append_left _ (by assumption)) (by assumption) (by kernel_rfl!) (by kernel_rfl!) | exact opName rfl (.head _) (by assumption) (by kernel_rfl!) (by kernel_rfl!) | exact nmP rfl (by assumption) (fun _ h => List.mem_append_left _ h) (by kernel_rfl!) (by kernel_rfl!) | exact evNameV rfl (by kernel_rfl!) (by kernel_rfl!) | fail "name") | ((with_reducible show IsT _ _ _ _); first | exact isName rfl (by kernel_rfl!) (by kernel_rfl!) | (with_reducible refine' isW ?_) | fail "isT") | ((with_reducible show CallP _ _ _ _ _); first | (refine' CallP.mk ?_; intro nw8 s8 q8 I8 k8; obtain ⟨F8, N8, S8⟩ := I8; refine' peek_c ?k1 F8 ?k3 N8 ?k5 ?kK ?hm ?hM ?kd ?ku ?_; (case k1 => assumption); (case k3 => assumption); (case k5 => assumption); (case hm => first | exact S8 _ (.head _) | exact S8 _ (List.mem_append_right _ (.head _))); (case hM => assumption); (case kK => first | exact rfl | assumption); (case kd => ktr_room); (case ku => ktr_units); intro t8 h8 tk8 c8 c8 F9 N9; exact k8 _ [] _ _ _ (show VI _ _ _ from ⟨rfl, t8, rfl⟩) Sub.no Sub.refl' ⟨F9, N9, S8⟩) | (refine' CallP.mk ?_; intro nw8 s8 q8 I8 k8; obtain ⟨F8, N8, S8⟩ := I8; refine' peek16_c ?k1 F8 ?k3 N8 ?k5 ?kK ?hm ?hM ?kd ?ku ?_; (case k1 => assumption); (case k3 => assumption); (case k5 => assumption); (case hm => first | exact S8 _ (.head _) | exact S8 _ (List.mem_append_right _ (.head _))); (case hM => assumption); (case kK => first | exact rfl | assumption); (case kd => ktr_room); (case ku => ktr_units); intro t8 h8 tk8 F9 N9; exact k8 _ [] _ _ _ (show VI _ _ _ from ⟨rfl, t8, rfl⟩) Sub.no Sub.refl' ⟨F9, N9, S8⟩) | (refine' CallP.mk ?_; intro nw8 s8 q8 I8 k8; obtain ⟨F8, N8, S8⟩ := I8; refine' pair_told_c ?k1 F8 ?k3 N8 ?k5 ?kK ?p0 ?p1 ?hix ?hla ?kd ?ku ?_; (case k1 => assumption); (case k3 => assumption); (case k5 => assumption); (case p0 => first | assumption | omega | l_fact); (case p1 => first | assumption | omega | l_fact); (case hix => first | assumption | exact .inl rfl | exact .inr (.inl rfl) | exact .inr (.inr rfl)); (case hla => first | assumption | exact plain_of (by decide +kernel)); (case kK => first | exact rfl | assumption); (case kd => ktr_room); (case ku => ktr_units); first | exact opK k8 S8 | exact opK' k8 S8 | exact opKA k8 S8) | (refine' CallP.mk ?_; intro nw8 s8 q8 I8 k8; obtain ⟨F8, N8, S8⟩ := I8; refine' place_told_c ?k1 F8 ?k3 N8 ?k5 ?kK ?hVb ?p0 ?p1 ?hix ?hbx ?kd ?ku ?_; (case k1 => assumption); (case k3 => assumption); (case k5 => assumption); (case hVb => assumption); (case p0 => first | assumption | omega | l_fact); (case p1 => first | assumption | omega | l_fact); (case hix => first | assumption | exact .inl rfl | exact .inr (.inl rfl) | exact .inr (.inr rfl)); (case hbx => first | assumption | exact fun h => absurd rfl h | exact fun _ => rfl); (case kK => first | exact rfl | assumption); (case kd => ktr_room); (case ku => ktr_units); first | exact opK k8 S8 | exact opK' k8 S8 | exact opKA k8 S8) | fail "call") | ((first | (with_reducible show _ = true → EvP _ _ _ _) | (with_reducible show _ = false → EvP _ _ _ _) | (with_reducible show _ = true → Ex _ _ _ _) | (with_reducible show _ = false → Ex _ _ _ _)); intro hb) | (intro t1 t2 t3) | (intro t1 t2) | ((with_reducible show ∀ t : Tok, CallP _ _ _ _ _); intro t1) | (intro l9 u9; with_unfolding_all rfl) | exact plain_of (by decide +kernel) | exact trivial | ((with_reducible show IntMulOk _ _); exact IntMulOk.of_left (by decide)) | ((with_reducible show OrN _ _ _ _ _); exact .inl rfl) | (exact hpr.1) | (exact hpr.2) | (exact hyr.1) | (exact hyr.2) | (exact hzr.1) | (exact hzr.2) | (exact of_decide_eq_true (by assumption)) | (exact VIf.out (by assumption) (farL1 (by assumption) (by assumption) (by assumption) (by assumption) (by assumption) (by assumption))) | (exact VIf.out (by assumption) (farL2 (by assumption) (by assumption) (by assumption) (by assumption) (by assumption) (by assumption))) | omega | (first | exact VLow.out (by assumption) _ hc09.2 | exact VLow.out (by assumption) _ (by omega) | exact VIf.out (by assumption) (farA (by assumption) (by assumption) (by assumption) (by assumption) (by assumption)) | exact VIf.out (by assumption) (farB (by assumption) (by assumption) (by assumption) (by assumption) (by assumption) (by assumption)) | fail "none") | fail "none")); intro v9 led9 news9 h9 tk9 m9 p9 l9 s9 F9 N9; (try dsimp only); k_steps)
  all_goals (
    (with_reducible rename Fr _ _ _ _ => kFF)
    (with_reducible rename News _ _ _ _ => kNN)
    rcases p9 with p9 | ⟨r9, wd9, tw9, k9, g9, gt9, gu9, nn9, e9, hr9, hl9, hg9, hw9, hf9⟩ | ⟨r9, wd9, tw9, k9, f9, g9, gt9, gu9, nn9, e9, hr9, hl9, hg9, hw9, hf9⟩
    · exact ordFin (news := news) p9 l9 (fun p hp => s9 p (.tail _ hp)) kFF kNN (fun r wd tw l ops nn led e hp hlen hops F N => by subst e; exact hret r wd tw l ops nn led _ _ hp hlen hops F N)
    · subst e9; exact hJ1 _ _ _ _ _ _ _ _ _ _ hw9 hf9 kFF (newsSub kNN (Sub.cons (l9 _ hr9) (Sub.cons (l9 _ hl9) (Sub.cons (l9 _ hg9) (fun p hp => s9 p (.tail _ hp))))))
    · subst e9; exact hJ2 _ _ _ _ _ _ _ _ _ _ _ hw9 hf9 kFF (newsSub kNN (Sub.cons (l9 _ hr9) (Sub.cons (l9 _ hl9) (Sub.cons (l9 _ hg9) (fun p hp => s9 p (.tail _ hp))))))
)
theorem high_order_c {w : World} {mean : ExcName → Option Value} {mg mb : Str → Option Value} {dp un : Nat} {gd : Option (List Code)} {cn : Str} {cs : Scope} {a : Addr} {ccd : Value} {cl : List (Str × Addr)} {outer : List Env} {A₀ : Around} {base h₀ : Heap} {L : Addr} {m : Str → Option Value} {news : CbLed} {s : Shared} {Q E : Value → Shared → Prop} {ml : Addr} {vs : List Value} {kk : Nat} {ns : List Int} {V : Int → Prop} {bs : Int} {n : Int} {tn : Tok} {octet : Int} {to : Tok} {ix : Str} {tx : Tok}
    (B : Below A₀ base outer h₀) (F : Fr h₀ L s.heap m) (X : (Mine.hd.heap_39 w.params).In h₀) (N : News h₀ L s.heap news) (T : Top Mine.hd.view_39 (looseW Mine.hd.view_39 []) mean mg mb h₀) (hk : cs.kind = .function) (hVb : VB V bs) (hm : (ml, listOf vs.toArray kk) ∈ news) (hM : Mem vs ns) (p0 : 0 ≤ octet) (p1 : octet < 256) (hx : fx octet = 3) (hno : ([203, 221, 237, 253].any fun x => x == octet) = false) (hix : ix = Str.ofString "" ∨ ix = Str.ofString "IX" ∨ ix = Str.ofString "IY") (hV1 : VLow V) (hV2 : VIf V (farOctets octet = 2) (cell ns n + 256 * cell ns (n + 1))) (hd : dp + 4 < recursionLimit) (hu : un + 32 < cLine)
    (hret : ∀ (r : Addr) (wd : Str) (tw : Tok) (l : Addr) (ops : List Value) (nn : Nat) (led : CbLed) (h' : Heap) (tk' : Nat), Plain wd → ops.length ≤ 2 → OpsIn led V bs ops → Fr h₀ L h' m → News h₀ L h' ((r, { cls := .type "tuple", data := .seq [Value.str wd tw, Value.ref l].toArray }) :: (l, listOf ops.toArray nn) :: (led ++ news)) → Q (.ref r) { s with heap := h', toks := tk' }) :
    wpAny (model PySem.Challenge.rw_nz0573_01.row.prog w) (ktrTop dp un gd cn cs L a ccd cl outer) (call (.ref 105) [Value.ref ml, Value.int n tn, Value.int octet to, Value.str ix tx]) Q E s := by
  revert X; k_fill; intro X
  replace N := newsCons N hm
  have hMi := hM.are
  have hMl := hM.size
  have hyr := fy_rng octet
  have hzr := fz_rng octet
  have hxr := fx_rng p0 p1
  have hpr := half_rng hyr.1 hyr.2
  have hpc := half_case hyr.1
  have hc09 := cell_oct hM n
  have hip := plain_ix hix
  all_goals (refine wpAny_call ?_; k_dflt cell_enter; (try ((with_reducible rename Fr _ _ _ (fun y => List.lookup y _) => kF0); replace kF0 : Fr _ _ _ (fun yy => List.lookup yy [(Str.ofString "index", Value.str ix tx), (Str.ofString "octet", Value.int octet to), (Str.ofString "at", Value.int n tn), (Str.ofString "memory", Value.ref ml)]) := kF0)); (with_reducible refine' ex_use0 ([(ml, listOf vs.toArray kk)]) (OrdP V bs 2) ?hk ?X ?TR ?F ?N ?hb ?H ?k); k_dflt ((case X => assumption); (case TR => exact topRead_of (by assumption)); (case F => k_asm); (case N => k_asm); (case hk => exact rfl); (case hb => first | exact Sub.no | exact Sub.cons (.head _) Sub.no)); (case H => repeat' ((with_reducible show (_ : Prop)); first | ((with_reducible show EvP _ _ _ (OrN _ _ _)); (first | (with_reducible show EvP _ _ (PySem.Expr.Tuple _ _ _) _) | (with_reducible show EvP _ _ (PySem.Expr.Subscript _ _ _) _) | (with_reducible show EvP _ _ (PySem.Expr.Call _ _ _ _) _)); refine' evMono (P := OrdP V bs 2) ?_ orInr) | ((with_reducible show EvP _ _ (PySem.Expr.Call (PySem.Expr.Name (Str.ofString "other_order") _) _ _ _) _); refine' callVVVS ?_ ?_ ?_ ?_ ?_ ?_ ?_ ?_ ?_ ?_ ?_ ?_ ?_ ?_ ?_) | ((with_reducible show EvP _ _ (PySem.Expr.Call (PySem.Expr.Name (Str.ofString "reckoning") _) _ _ _) _); refine' callVO (P2 := OpP V bs) ?_ ?_ ?_ ?_ ?_ ?_ ?_ ?_ ?_ ?_ ?_) | ((with_reducible show Ex _ _ (Stmt.Assign [PySem.Expr.Name (Str.ofString "base") _] _ _ :: _) _); refine' exAsgS (R := Plain) ?_ ?_ ?_ ?_) | ((with_reducible show ∀ u t, Plain u → Ex _ _ _ _); intro u9 t9 r9) | ((with_reducible show ∀ t1 t2 t3 u t4, Plain u → CallP _ _ _ _ _); intro t1 t2 t3 u9 t4 r9; refine' CallP.mk ?_; intro nw8 s8 q8 I8 k8; obtain ⟨F8, N8, S8⟩ := I8; refine' other_order_c ?k1 F8 ?k3 N8 ?k5 ?kK ?hVb ?hm ?hM ?p0 ?p1 ?p2 ?hba ?hV1 ?hVy ?kd ?ku ?_; (case k1 => assumption); (case k3 => assumption); (case k5 => assumption); (case hVb => assumption); (case hm => first | exact S8 _ (.head _) | exact S8 _ (List.mem_append_right _ (.head _))); (case hM => assumption); (case p0 => first | assumption | omega | l_fact); (case p1 => first | assumption | omega | l_fact); (case p2 => first | assumption | exact y1C (by assumption) (by assumption) (by assumption) (by assumption) (by assumption) | exact y1 (by assumption) (by assumption) (by assumption) (by assumption) (by assumption)); (case hba => first | assumption | exact plain_of (by decide +kernel)); (case hV1 => assumption); (case hVy => first | assumption | exact farC (by assumption) (by assumption) (by assumption) (by assumption) (by assumption) (by assumption) | exact ⟨fun hy0 => VIf.out (by assumption) (far2 (by assumption) (by assumption) (by assumption) (.inr (.inr (.inr (.inl ⟨by assumption, by assumption, hy0⟩)))))⟩); (case kK => first | exact rfl | assumption); (case kd => ktr_room); (case ku => ktr_units); exact ordK k8 S8) | ((with_reducible show ∀ t1 x led, OpP _ _ x led → CallP _ _ _ _ _); rintro t1 x9 led8 ⟨a9, o9, rfl, hm9, ho9⟩; refine' CallP.mk ?_; intro nw8 s8 q8 I8 k8; obtain ⟨F8, N8, S8⟩ := I8; refine' reckoning_c ?k1 F8 ?k3 N8 ?k5 ?kK ?hVb ?p0 ?p1 ?h1 ?q1 ?kd ?ku ?_; (case k1 => assumption); (case k3 => assumption); (case k5 => assumption); (case hVb => assumption); (case p0 => first | assumption | omega | l_fact); (case p1 => first | assumption | omega | l_fact); (case h1 => exact S8 _ (List.mem_append_left _ hm9)); (case q1 => exact ho9); (case kK => first | exact rfl | assumption); (case kd => ktr_room); (case ku => ktr_units); exact ordK k8 S8) | ((with_reducible refine' opS ?hk ?_ ?_ ?_); (case hk => with_reducible first | exact .inl rfl | exact .inr (.inl rfl) | exact .inr (.inr (.inl rfl)) | exact .inr (.inr (.inr rfl)))) | ((with_reducible refine' opSA ?hk ?_ ?_ ?_); (case hk => with_reducible first | exact .inl rfl | exact .inr (.inl rfl) | exact .inr (.inr (.inl rfl)) | exact .inr (.inr (.inr rfl)))) | ((with_reducible refine' opN ?hk ?_ ?_ ?_ ?_); (case hk => with_reducible first | exact .inl rfl | exact .inr rfl)) | (with_reducible first | exact evConst | exact evBool | exact Ks.nil | refine' Ks.cons ?_ | exact cpEq | exact cpNe | exact cpLt | exact cpGt | exact cpLe | exact cpNeB | exact cpEqS | exact cpNeS | exact cnIn | exact cnNot | refine' evShr ?_ ?_ ?_ | refine' evAnd ?_ ?_ | refine' evMod ?_ ?_ ?_ | refine' evSub ?_ ?_ | refine' evAdd ?_ ?_ | refine' evOr ?_ ?_ | refine' evShl ?_ ?_ ?_ ?_ | refine' evIn ?_ ?_ ?_ ?_ ?_ | refine' isIn ?_ ?_ ?_ ?_ ?_ | refine' evCmp ?_ ?_ ?_ ?_ | refine' isCmp ?_ ?_ ?_ ?_ | refine' evChain ?_ ?_ ?_ ?_ ?_ ?_ | refine' isNot ?_ | refine' evNot ?_ | refine' isAnd ?_ ?_ | refine' isAnd1 ?_ | refine' isOr ?_ ?_ | refine' isOr1 ?_ | refine' evBAnd ?_ ?_ | refine' evBOr ?_ ?_ | refine' evB1 ?_ | refine' evIfP ?_ ?_ ?_ | refine' exRet ?_ | refine' exIfP ?_ ?_ ?_ | refine' exAsg3 ?_ ?_ ?_ ?_ ?_ ?_ ?_ ?_ ?_ ?_ ?_ ?_ ?_ | refine' exAsg2 ?_ ?_ ?_ ?_ ?_ ?_ ?_ ?_ ?_ ?_ | refine' ordE ?_ ?_ ?_ ?_ | refine' lstE ?_ ?_ | refine' listE ?_ ?_ | exact rowNil | refine' rowCons ?_ ?_ ?_ | refine' esC ?_ | refine' pickOf ?_ ?_ ?_ ?_ ?_ ?_ | exact evStrC | refine' evNone ?_ | refine' evMul ?_ ?_ ?_ | refine' call1 ?_ ?_ ?_ ?_ ?_ ?_ ?_ ?_ ?_ | refine' call2 ?_ ?_ ?_ ?_ ?_ ?_ ?_ ?_ ?_ ?_ ?_ | refine' call3 ?_ ?_ ?_ ?_ ?_ ?_ ?_ ?_ ?_ ?_ ?_ ?_ ?_ | refine' call4 ?_ ?_ ?_ ?_ ?_ ?_ ?_ ?_ ?_ ?_ ?_ ?_ ?_ ?_ ?_ | refine' call5 ?_ ?_ ?_ ?_ ?_ ?_ ?_ ?_ ?_ ?_ ?_ ?_ ?_ ?_ ?_ ?_ ?_ | refine' call0 ?_ ?_ ?_ ?_ ?_ ?_) | ((with_reducible show _ = _); first | kernel_rfl! | (k_is; done) | exact rfl | fail "eq") | ((with_reducible show EvP _ _ (PySem.Expr.Name _ _) _); first | exact evName rfl (by kernel_rfl!) (by kernel_rfl!) | exact esN rfl (by kernel_rfl!) (by kernel_rfl!) trivial | exact esN rfl (by kernel_rfl!) (by kernel_rfl!) (by assumption) | exact opName rfl (List.mem_append_left _ (by assumption)) (by assumption) (by kernel_rfl!) (by kernel_rfl!) | exact opName rfl (.head _) (by assumption) (by kernel_rfl!) (by kernel_rfl!) | exact nmP rfl (by assumption) (fun _ h => List.mem_append_left _ h) (by kernel_rfl!) (by kernel_rfl!) | exact evNameV rfl (by kernel_rfl!) (by kernel_rfl!) | fail "name") | ((with_reducible show IsT _ _ _ _); first | exact isName rfl (by kernel_rfl!) (by kernel_rfl!) | (with_reducible refine' isW ?_) | fail "isT") | ((with_reducible show CallP _ _ _ _ _); first | (refine' CallP.mk ?_; intro nw8 s8 q8 I8 k8; obtain ⟨F8, N8, S8⟩ := I8; refine' peek_c ?k1 F8 ?k3 N8 ?k5 ?kK ?hm ?hM ?kd ?ku ?_; (case k1 => assumption); (case k3 => assumption); (case k5 => assumption); (case hm => first | exact S8 _ (.head _) | exact S8 _ (List.mem_append_right _ (.head _))); (case hM => assumption); (case kK => first | exact rfl | assumption); (case kd => ktr_room); (case ku => ktr_units); intro t8 h8 tk8 c8 c8 F9 N9; exact k8 _ [] _ _ _ (show VI _ _ _ from ⟨rfl, t8, rfl⟩) Sub.no Sub.refl' ⟨F9, N9, S8⟩) | (refine' CallP.mk ?_; intro nw8 s8 q8 I8 k8; obtain ⟨F8, N8, S8⟩ := I8; refine' peek16_c ?k1 F8 ?k3 N8 ?k5 ?kK ?hm ?hM ?kd ?ku ?_; (case k1 => assumption); (case k3 => assumption); (case k5 => assumption); (case hm => first | exact S8 _ (.head _) | exact S8 _ (List.mem_append_right _ (.head _))); (case hM => assumption); (case kK => first | exact rfl | assumption); (case kd => ktr_room); (case ku => ktr_units); intro t8 h8 tk8 F9 N9; exact k8 _ [] _ _ _ (show VI _ _ _ from ⟨rfl, t8, rfl⟩) Sub.no Sub.refl' ⟨F9, N9, S8⟩) | (refine' CallP.mk ?_; intro nw8 s8 q8 I8 k8; obtain ⟨F8, N8, S8⟩ := I8; refine' flag_told_c ?k1 F8 ?k3 N8 ?k5 ?kK ?p0 ?p1 ?kd ?ku ?_; (case k1 => assumption); (case k3 => assumption); (case k5 => assumption); (case p0 => first | assumption | omega | l_fact); (case p1 => first | assumption | omega | l_fact); (case kK => first | exact rfl | assumption); (case kd => ktr_room); (case ku => ktr_units); first | exact opK k8 S8 | exact opK' k8 S8 | exact opKA k8 S8) | (refine' CallP.mk ?_; intro nw8 s8 q8 I8 k8; obtain ⟨F8, N8, S8⟩ := I8; refine' pair_told_c ?k1 F8 ?k3 N8 ?k5 ?kK ?p0 ?p1 ?hix ?hla ?kd ?ku ?_; (case k1 => assumption); (case k3 => assumption); (case k5 => assumption); (case p0 => first | assumption | omega | l_fact); (case p1 => first | assumption | omega | l_fact); (case hix => first | assumption | exact .inl rfl | exact .inr (.inl rfl) | exact .inr (.inr rfl)); (case hla => first | assumption | exact plain_of (by decide +kernel)); (case kK => first | exact rfl | assumption); (case kd => ktr_room); (case ku => ktr_units); first | exact opK k8 S8 | exact opK' k8 S8 | exact opKA k8 S8) | fail "call") | ((first | (with_reducible show _ = true → EvP _ _ _ _) | (with_reducible show _ = false → EvP _ _ _ _) | (with_reducible show _ = true → Ex _ _ _ _) | (with_reducible show _ = false → Ex _ _ _ _)); intro hb) | (intro t1 t2 t3) | (intro t1 t2) | ((with_reducible show ∀ t : Tok, CallP _ _ _ _ _); intro t1) | (intro l9 u9; with_unfolding_all rfl) | exact plain_of (by decide +kernel) | exact trivial | ((with_reducible show IntMulOk _ _); exact IntMulOk.of_left (by decide)) | ((with_reducible show OrN _ _ _ _ _); exact .inl rfl) | (exact hpr.1) | (exact hpr.2) | (exact hyr.1) | (exact hyr.2) | (exact hzr.1) | (exact hzr.2) | omega | (first | exact VLow.out (by assumption) _ hc09.2 | exact VLow.out (by assumption) _ (by omega) | exact VIf.out (by assumption) (farA (by assumption) (by assumption) (by assumption) (by assumption) (by assumption)) | exact VIf.out (by assumption) (farB (by assumption) (by assumption) (by assumption) (by assumption) (by assumption) (by assumption)) | fail "none") | fail "none")); intro v9 led9 news9 h9 tk9 m9 p9 l9 s9 F9 N9; (try dsimp only); k_steps)
  all_goals (
    (with_reducible rename Fr _ _ _ _ => kFF)
    (with_reducible rename News _ _ _ _ => kNN)
    exact ordFin (news := news) p9 l9 (by first | exact s9 | exact fun p hp => s9 p (.tail _ hp)) kFF kNN (fun r wd tw l ops nn led e hp hlen hops F N => by subst e; exact hret r wd tw l ops nn led _ _ hp hlen hops F N)
)

-- S8
theorem lines_S8_0 : True := by
  w_top off
  k_with_none
  k_with "subscriptTail" => ((k_here; (with_reducible show wpAny _ _ (subscriptTail _ _ (Value.ref _) (Value.int _ _)) _ _ _); k_dflt (refine' pickK ?k1 ?k3 ?k4 ?k5 ?_ ?k6; (case k1 => exact News.isList (by k_asm) (by k_mem)); (case k3 => l_idx); (case k4 => l_idx); (case k5 => l_idx); (case k6 => with_unfolding_all rfl); k_whole)); k_few; (dsimp only [PickAt]); k_places; (all_goals try k_fold))
  k_with "subscriptTail" => (k_here; (with_reducible show wpAny _ _ (subscriptTail _ _ (Value.ref _) (Value.int _ _)) _ _ _); k_dflt (refine' pickName ?k1 ?k2 ?k3 ?k4 ?k5 ?_ ?k6; (case k1 => exact News.isList (by k_asm) (by k_mem)); (case k2 => repeat (first | exact Names.nil | refine Names.cons (by first | assumption | exact plain_of (by decide +kernel)) ?_)); (case k3 => l_idx); (case k4 => l_idx); (case k5 => l_idx); (case k6 => with_unfolding_all rfl); k_whole); intro x9 t9 p9; (try dsimp only); (all_goals try k_fold))
  k_with "call ref" => (k_here; k_dflt (refine' place_told_c ?k1 ?k2 ?k3 ?k4 ?k5 ?kK ?hVb ?p0 ?p1 ?hix ?hbx ?kd ?ku ?_; (case k1 => k_asm); (case k2 => k_asm); (case k3 => k_asm); (case k4 => k_asm); (case k5 => k_asm); (case hVb => assumption); (case p0 => first | assumption | omega | l_fact); (case p1 => first | assumption | omega | l_fact); (case hix => first | assumption | exact .inl rfl | exact .inr (.inl rfl) | exact .inr (.inr rfl)); (case hbx => first | assumption | exact fun h => absurd rfl h | exact fun _ => rfl); (case kK => first | exact rfl | assumption); (case kd => ktr_room); (case ku => ktr_units)); intro b9 o9 h9 tk9 q9 F9 N9; (try dsimp only); (try k_sweep); (all_goals try k_fold))
  k_with "call ref" => (k_here; k_dflt (refine' reckoning_c ?k1 ?k2 ?k3 ?k4 ?k5 ?kK ?hVb ?p0 ?p1 ?h1 ?q1 ?kd ?ku ?_; (case k1 => k_asm); (case k2 => k_asm); (case k3 => k_asm); (case k4 => k_asm); (case k5 => k_asm); (case hVb => assumption); (case p0 => first | assumption | omega | l_fact); (case p1 => first | assumption | omega | l_fact); (case h1 => k_mem); (case q1 => first | exact Opd.x | (apply_assumption; done) | exact Opd.s (by first | exact .inl rfl | exact .inr (.inl rfl) | exact .inr (.inr (.inl rfl)) | exact .inr (.inr (.inr rfl))) | exact Opd.n (by first | exact .inl rfl | exact .inr rfl) (by first | assumption | exact VLow.out (by assumption) _ (by omega) | exact VLow.out (by assumption) _ (by simp only [bitAnd_m3] at *; omega) | exact VIf.out (by assumption) (by first | assumption | exact far2 (by assumption) (by assumption) (by assumption) (.inl ⟨by assumption, by assumption, by assumption⟩) | exact far2 (by assumption) (by assumption) (by assumption) (.inr (.inl ⟨by assumption, by assumption, by dsimp only [fy]; omega⟩)) | exact far2 (by assumption) (by assumption) (by assumption) (.inr (.inr (.inl ⟨by assumption, .inl (by assumption)⟩))) | exact far2 (by assumption) (by assumption) (by assumption) (.inr (.inr (.inl ⟨by assumption, .inr (by assumption)⟩))) | exact far2 (by assumption) (by assumption) (by assumption) (.inr (.inr (.inr (.inl ⟨by assumption, by assumption, by assumption⟩)))) | exact far2 (by assumption) (by assumption) (by assumption) (.inr (.inr (.inr (.inr ⟨by assumption, by assumption, by assumption⟩))))))); (case kK => first | exact rfl | assumption); (case kd => ktr_room); (case ku => ktr_units)); intro r9 wd9 tw9 l9 ops9 nn9 led9 h9 tk9 pw9 len9 q9 F9 N9; (try dsimp only); (try k_sweep); (all_goals try k_fold))
  k_with "call ref" => (k_here; k_dflt (refine' low_order_c ?k1 ?k2 ?k3 ?k4 ?k5 ?kK ?hVb ?hm ?hM ?p0 ?p1 ?hx ?hno ?hix ?hbx ?hV1 ?hV2 ?kd ?ku ?_ ?_ ?_; (case k1 => k_asm); (case k2 => k_asm); (case k3 => k_asm); (case k4 => k_asm); (case k5 => k_asm); (case hVb => assumption); (case hm => k_mem); (case hM => assumption); (case p0 => first | assumption | omega | l_fact); (case p1 => first | assumption | omega | l_fact); (case hx => assumption); (case hno => assumption); (case hix => first | assumption | exact .inl rfl | exact .inr (.inl rfl) | exact .inr (.inr rfl)); (case hbx => first | assumption | exact fun h => absurd rfl h | exact fun _ => rfl); (case hV1 => assumption); (case hV2 => assumption); (case kK => first | exact rfl | assumption); (case kd => ktr_room); (case ku => ktr_units)); (intro r9 wd9 tw9 l9 ops9 nn9 led9 h9 tk9 pw9 len9 q9 F9 N9); rotate_left; (intro r9 wd9 tw9 l9 g9 gt9 gu9 nn9 h9 tk9 jw9 jf9 F9 N9); rotate_left; (intro r9 wd9 tw9 l9 f9 g9 gt9 gu9 nn9 h9 tk9 jw9 jf9 F9 N9); rotate_left; (try dsimp only); (try k_sweep); (all_goals try k_fold))
  k_with "call ref" => (k_here; k_dflt (refine' high_order_c ?k1 ?k2 ?k3 ?k4 ?k5 ?kK ?hVb ?hm ?hM ?p0 ?p1 ?hx ?hno ?hix ?hV1 ?hV2 ?kd ?ku ?_; (case k1 => k_asm); (case k2 => k_asm); (case k3 => k_asm); (case k4 => k_asm); (case k5 => k_asm); (case hVb => assumption); (case hm => k_mem); (case hM => assumption); (case p0 => first | assumption | omega | l_fact); (case p1 => first | assumption | omega | l_fact); (case hx => assumption); (case hno => assumption); (case hix => first | assumption | exact .inl rfl | exact .inr (.inl rfl) | exact .inr (.inr rfl)); (case hV1 => assumption); (case hV2 => assumption); (case kK => first | exact rfl | assumption); (case kd => ktr_room); (case ku => ktr_units)); intro r9 wd9 tw9 l9 ops9 nn9 led9 h9 tk9 pw9 len9 q9 F9 N9; (try dsimp only); (try k_sweep); (all_goals try k_fold))
  trivial
theorem main_order_c {w : World} {mean : ExcName → Option Value} {mg mb : Str → Option Value} {dp un : Nat} {gd : Option (List Code)} {cn : Str} {cs : Scope} {a : Addr} {ccd : Value} {cl : List (Str × Addr)} {outer : List Env} {A₀ : Around} {base h₀ : Heap} {L : Addr} {m : Str → Option Value} {news : CbLed} {s : Shared} {Q E : Value → Shared → Prop} {ml : Addr} {vs : List Value} {kk : Nat} {ns : List Int} {V : Int → Prop} {bs : Int} {n : Int} {tn : Tok} {octet : Int} {to : Tok} {ix : Str} {tx : Tok} {ba : Int} {tb : Tok}
    (B : Below A₀ base outer h₀) (F : Fr h₀ L s.heap m) (X : (Mine.hd.heap_39 w.params).In h₀) (N : News h₀ L s.heap news) (T : Top Mine.hd.view_39 (looseW Mine.hd.view_39 []) mean mg mb h₀) (hk : cs.kind = .function) (hVb : VB V bs) (hm : (ml, listOf vs.toArray kk) ∈ news) (hM : Mem vs ns) (p0 : 0 ≤ octet) (p1 : octet < 256) (hno : ([203, 221, 237, 253].any fun x => x == octet) = false) (hix : ix = Str.ofString "" ∨ ix = Str.ofString "IX" ∨ ix = Str.ofString "IY") (hbx : ix ≠ Str.ofString "" → ba = bs) (hV1 : VLow V) (hV2 : VIf V (farOctets octet = 2) (cell ns n + 256 * cell ns (n + 1))) (hd : dp + 5 < recursionLimit) (hu : un + 40 < cLine)
    (hret : ∀ (r : Addr) (wd : Str) (tw : Tok) (l : Addr) (ops : List Value) (nn : Nat) (led : CbLed) (h' : Heap) (tk' : Nat), Plain wd → ops.length ≤ 2 → OpsIn led V bs ops → Fr h₀ L h' m → News h₀ L h' ((r, { cls := .type "tuple", data := .seq [Value.str wd tw, Value.ref l].toArray }) :: (l, listOf ops.toArray nn) :: (led ++ news)) → Q (.ref r) { s with heap := h', toks := tk' }) (hJ1 : ∀ (r : Addr) (wd : Str) (tw : Tok) (l  g : Addr) (gt gu : Tok) (nn : Nat) (h' : Heap) (tk' : Nat), (wd = Str.ofString "JR" ∨ wd = Str.ofString "DJNZ") → fx octet = 0 ∧ fz octet = 0 ∧ 2 ≤ fy octet → Fr h₀ L h' m → News h₀ L h' ((r, { cls := .type "tuple", data := .seq [Value.str wd tw, Value.ref l].toArray }) :: (l, listOf [Value.ref g].toArray nn) :: (g, { cls := .type "tuple", data := .seq [Value.str (Str.ofString "n") gt, Value.int ((n + 1 + signedOctet (cell ns n)) % 65536) gu].toArray }) :: news) → Q (.ref r) { s with heap := h', toks := tk' }) (hJ2 : ∀ (r : Addr) (wd : Str) (tw : Tok) (l f g : Addr) (gt gu : Tok) (nn : Nat) (h' : Heap) (tk' : Nat), (wd = Str.ofString "JR" ∨ wd = Str.ofString "DJNZ") → fx octet = 0 ∧ fz octet = 0 ∧ 2 ≤ fy octet → Fr h₀ L h' m → News h₀ L h' ((r, { cls := .type "tuple", data := .seq [Value.str wd tw, Value.ref l].toArray }) :: (l, listOf [Value.ref f, Value.ref g].toArray nn) :: (g, { cls := .type "tuple", data := .seq [Value.str (Str.ofString "n") gt, Value.int ((n + 1 + signedOctet (cell ns n)) % 65536) gu].toArray }) :: news) → Q (.ref r) { s with heap := h', toks := tk' }) :
    wpAny (model PySem.Challenge.rw_nz0573_01.row.prog w) (ktrTop dp un gd cn cs L a ccd cl outer) (call (.ref 119) [Value.ref ml, Value.int n tn, Value.int octet to, Value.str ix tx, Value.int ba tb]) Q E s := by
  revert X; k_fill; intro X
  replace N := newsCons N hm
  have hMi := hM.are
  have hMl := hM.size
  have hyr := fy_rng octet
  have hzr := fz_rng octet
  have hxr := fx_rng p0 p1
  have hpr := half_rng hyr.1 hyr.2
  have hpc := half_case hyr.1
  all_goals (refine wpAny_call ?_; k_dflt cell_enter; (try ((with_reducible rename Fr _ _ _ (fun y => List.lookup y _) => kF0); replace kF0 : Fr _ _ _ (fun yy => List.lookup yy [(Str.ofString "beside", Value.int ba tb), (Str.ofString "index", Value.str ix tx), (Str.ofString "octet", Value.int octet to), (Str.ofString "at", Value.int n tn), (Str.ofString "memory", Value.ref ml)]) := kF0)); (with_reducible refine' ex_use0 ([(ml, listOf vs.toArray kk)]) (OrdJ V bs 2 (fx octet = 0 ∧ fz octet = 0 ∧ 2 ≤ fy octet) ((n + 1 + signedOctet (cell ns n)) % 65536)) ?hk ?X ?TR ?F ?N ?hb ?H ?k); k_dflt ((case X => assumption); (case TR => exact topRead_of (by assumption)); (case F => k_asm); (case N => k_asm); (case hk => exact rfl); (case hb => first | exact Sub.no | exact Sub.cons (.head _) Sub.no)); (case H => repeat' ((with_reducible show (_ : Prop)); first | ((with_reducible show EvP _ _ _ (OrN _ _ _)); (first | (with_reducible show EvP _ _ (PySem.Expr.Tuple _ _ _) _) | (with_reducible show EvP _ _ (PySem.Expr.Subscript _ _ _) _) | (with_reducible show EvP _ _ (PySem.Expr.Call _ _ _ _) _)); refine' evMono (P := OrdP V bs 2) ?_ orInr) | (((with_reducible show EvP _ _ _ (OrdJ _ _ _ _ _)); (first | (with_reducible show EvP _ _ (PySem.Expr.Tuple _ _ _) _) | (with_reducible show EvP _ _ (PySem.Expr.Subscript _ _ _) _) | (with_reducible show EvP _ _ (PySem.Expr.Call (PySem.Expr.Name (Str.ofString "in_order") _) _ _ _) _) | (with_reducible show EvP _ _ (PySem.Expr.Call (PySem.Expr.Name (Str.ofString "reckoning") _) _ _ _) _) | (with_reducible show EvP _ _ (PySem.Expr.Call (PySem.Expr.Name (Str.ofString "high_order") _) _ _ _) _)); refine' evMono (P := OrdP V bs 2) ?_ ordJl)) | ((with_reducible show EvP _ _ (PySem.Expr.Call (PySem.Expr.Name (Str.ofString "reckoning") _) _ _ _) _); refine' callVO (P2 := OpP V bs) ?_ ?_ ?_ ?_ ?_ ?_ ?_ ?_ ?_ ?_ ?_) | ((with_reducible show ∀ t1 x led, OpP V bs x led → CallP _ _ _ _ _); rintro t1 x9 led8 ⟨a9, o9, rfl, hm9, ho9⟩; refine' CallP.mk ?_; intro nw8 s8 q8 I8 k8; obtain ⟨F8, N8, S8⟩ := I8; refine' reckoning_c ?k1 F8 ?k3 N8 ?k5 ?kK ?hVb ?p0 ?p1 ?h1 ?q1 ?kd ?ku ?_; (case k1 => assumption); (case k3 => assumption); (case k5 => assumption); (case hVb => assumption); (case p0 => first | assumption | omega | l_fact); (case p1 => first | assumption | omega | l_fact); (case h1 => exact S8 _ (List.mem_append_left _ hm9)); (case q1 => exact ho9); (case kK => first | exact rfl | assumption); (case kd => ktr_room); (case ku => ktr_units); exact ordK k8 S8) | ((with_reducible show EvP _ _ (PySem.Expr.Call _ [_, PySem.Expr.IfExp _ _ _ _, _] _ _) _); refine' callVSV (R := IxOk ba bs) ?_ ?_ ?_ ?_ ?_ ?_ ?_ ?_ ?_ ?_ ?_ ?_ ?_) | ((with_reducible show ∀ t1 u t2 t3, IxOk _ _ u → CallP _ _ _ _ _); rintro t1 u9 t2 t3 ⟨hi9, hb9⟩; refine' CallP.mk ?_; intro nw8 s8 q8 I8 k8; obtain ⟨F8, N8, S8⟩ := I8; refine' place_told_c ?k1 F8 ?k3 N8 ?k5 ?kK ?hVb ?p0 ?p1 ?hix ?hbx ?kd ?ku ?_; (case k1 => assumption); (case k3 => assumption); (case k5 => assumption); (case hVb => assumption); (case p0 => first | assumption | omega | l_fact); (case p1 => first | assumption | omega | l_fact); (case hix => first | assumption | exact .inl rfl | exact .inr (.inl rfl) | exact .inr (.inr rfl)); (case hbx => first | assumption | exact fun h => absurd rfl h | exact fun _ => rfl); (case kK => first | exact rfl | assumption); (case kd => ktr_room); (case ku => ktr_units); first | exact opK k8 S8 | exact opK' k8 S8 | exact opKA k8 S8) | ((with_reducible show CallP _ _ _ [_, _, _, _, _] (OrdJ _ _ _ _ _)); refine' CallP.mk ?_; intro nw8 s8 q8 I8 k8; obtain ⟨F8, N8, S8⟩ := I8; refine' low_order_c ?k1 F8 ?k3 N8 ?k5 ?kK ?hVb ?hm ?hM ?p0 ?p1 ?hx ?hno ?hix ?hbx ?hV1 ?hV2 ?kd ?ku ?_ ?_ ?_; (case k1 => assumption); (case k3 => assumption); (case k5 => assumption); (case hVb => assumption); (case hm => first | exact S8 _ (.head _) | exact S8 _ (List.mem_append_right _ (.head _))); (case hM => assumption); (case p0 => first | assumption | omega | l_fact); (case p1 => first | assumption | omega | l_fact); (case hx => exact eqI (by assumption)); (case hno => assumption); (case hix => first | assumption | exact .inl rfl | exact .inr (.inl rfl) | exact .inr (.inr rfl)); (case hbx => first | assumption | exact fun h => absurd rfl h | exact fun _ => rfl); (case hV1 => assumption); (case hV2 => assumption); (case kK => first | exact rfl | assumption); (case kd => ktr_room); (case ku => ktr_units); (exact ordKJ k8 S8); (exact j1K k8 S8 (fzE (by assumption))); (exact j2K k8 S8 (fzE (by assumption)))) | ((with_reducible show EvP _ _ (PySem.Expr.Name _ _) (Vs (IxOk _ _))); exact esN rfl (by kernel_rfl!) (by kernel_rfl!) ⟨hix, hbx⟩) | ((with_reducible show IxOk _ _ _); exact ixNo) | ((with_reducible show Ex _ _ (Stmt.Assign [PySem.Expr.Name (Str.ofString "one") _] _ _ :: _) _); refine' exAsgO (b := bs) (V := V) ?_ ?_ ?_ ?_) | ((with_reducible show ∀ a o led, _ ∈ led → Opd _ _ o → Ex _ _ _ _); intro a9 o9 led7 hm9 ho9) | ((with_reducible refine' opS ?hk ?_ ?_ ?_); (case hk => with_reducible first | exact .inl rfl | exact .inr (.inl rfl) | exact .inr (.inr (.inl rfl)) | exact .inr (.inr (.inr rfl)))) | ((with_reducible refine' opSA ?hk ?_ ?_ ?_); (case hk => with_reducible first | exact .inl rfl | exact .inr (.inl rfl) | exact .inr (.inr (.inl rfl)) | exact .inr (.inr (.inr rfl)))) | ((with_reducible refine' opN ?hk ?_ ?_ ?_ ?_); (case hk => with_reducible first | exact .inl rfl | exact .inr rfl)) | (with_reducible first | exact evConst | exact evBool | exact Ks.nil | refine' Ks.cons ?_ | exact cpEq | exact cpNe | exact cpLt | exact cpGt | exact cpLe | exact cpNeB | exact cpEqS | exact cpNeS | exact cnIn | exact cnNot | refine' evShr ?_ ?_ ?_ | refine' evAnd ?_ ?_ | refine' evMod ?_ ?_ ?_ | refine' evSub ?_ ?_ | refine' evAdd ?_ ?_ | refine' evOr ?_ ?_ | refine' evShl ?_ ?_ ?_ ?_ | refine' evIn ?_ ?_ ?_ ?_ ?_ | refine' isIn ?_ ?_ ?_ ?_ ?_ | refine' evCmp ?_ ?_ ?_ ?_ | refine' isCmp ?_ ?_ ?_ ?_ | refine' evChain ?_ ?_ ?_ ?_ ?_ ?_ | refine' isNot ?_ | refine' evNot ?_ | refine' isAnd ?_ ?_ | refine' isAnd1 ?_ | refine' isOr ?_ ?_ | refine' isOr1 ?_ | refine' evBAnd ?_ ?_ | refine' evBOr ?_ ?_ | refine' evB1 ?_ | refine' evIfP ?_ ?_ ?_ | refine' exRet ?_ | refine' exIfP ?_ ?_ ?_ | refine' exAsg3 ?_ ?_ ?_ ?_ ?_ ?_ ?_ ?_ ?_ ?_ ?_ ?_ ?_ | refine' exAsg2 ?_ ?_ ?_ ?_ ?_ ?_ ?_ ?_ ?_ ?_ | refine' ordE ?_ ?_ ?_ ?_ | refine' lstE ?_ ?_ | refine' listE ?_ ?_ | exact rowNil | refine' rowCons ?_ ?_ ?_ | refine' esC ?_ | refine' pickOf ?_ ?_ ?_ ?_ ?_ ?_ | exact evStrC | refine' evNone ?_ | refine' evMul ?_ ?_ ?_ | refine' call1 ?_ ?_ ?_ ?_ ?_ ?_ ?_ ?_ ?_ | refine' call2 ?_ ?_ ?_ ?_ ?_ ?_ ?_ ?_ ?_ ?_ ?_ | refine' call3 ?_ ?_ ?_ ?_ ?_ ?_ ?_ ?_ ?_ ?_ ?_ ?_ ?_ | refine' call4 ?_ ?_ ?_ ?_ ?_ ?_ ?_ ?_ ?_ ?_ ?_ ?_ ?_ ?_ ?_ | refine' call5 ?_ ?_ ?_ ?_ ?_ ?_ ?_ ?_ ?_ ?_ ?_ ?_ ?_ ?_ ?_ ?_ ?_ | refine' call0 ?_ ?_ ?_ ?_ ?_ ?_) | ((with_reducible show _ = _); first | kernel_rfl! | (k_is; done) | exact rfl | fail "eq") | ((with_reducible show EvP _ _ (PySem.Expr.Name _ _) _); first | exact evName rfl (by kernel_rfl!) (by kernel_rfl!) | exact esN rfl (by kernel_rfl!) (by kernel_rfl!) trivial | exact esN rfl (by kernel_rfl!) (by kernel_rfl!) (by assumption) | exact opName rfl (List.mem_append_left _ (by assumption)) (by assumption) (by kernel_rfl!) (by kernel_rfl!) | exact opName rfl (.head _) (by assumption) (by kernel_rfl!) (by kernel_rfl!) | exact nmP rfl (by assumption) (fun _ h => List.mem_append_left _ h) (by kernel_rfl!) (by kernel_rfl!) | exact evNameV rfl (by kernel_rfl!) (by kernel_rfl!) | fail "name") | ((with_reducible show IsT _ _ _ _); first | exact isName rfl (by kernel_rfl!) (by kernel_rfl!) | (with_reducible refine' isW ?_) | fail "isT") | ((with_reducible show CallP _ _ _ _ _); first | (refine' CallP.mk ?_; intro nw8 s8 q8 I8 k8; obtain ⟨F8, N8, S8⟩ := I8; refine' place_told_c ?k1 F8 ?k3 N8 ?k5 ?kK ?hVb ?p0 ?p1 ?hix ?hbx ?kd ?ku ?_; (case k1 => assumption); (case k3 => assumption); (case k5 => assumption); (case hVb => assumption); (case p0 => first | assumption | omega | l_fact); (case p1 => first | assumption | omega | l_fact); (case hix => first | assumption | exact .inl rfl | exact .inr (.inl rfl) | exact .inr (.inr rfl)); (case hbx => first | assumption | exact fun h => absurd rfl h | exact fun _ => rfl); (case kK => first | exact rfl | assumption); (case kd => ktr_room); (case ku => ktr_units); first | exact opK k8 S8 | exact opK' k8 S8 | exact opKA k8 S8) | (refine' CallP.mk ?_; intro nw8 s8 q8 I8 k8; obtain ⟨F8, N8, S8⟩ := I8; refine' high_order_c ?k1 F8 ?k3 N8 ?k5 ?kK ?hVb ?hm ?hM ?p0 ?p1 ?hx ?hno ?hix ?hV1 ?hV2 ?kd ?ku ?_; (case k1 => assumption); (case k3 => assumption); (case k5 => assumption); (case hVb => assumption); (case hm => first | exact S8 _ (.head _) | exact S8 _ (List.mem_append_right _ (.head _))); (case hM => assumption); (case p0 => first | assumption | omega | l_fact); (case p1 => first | assumption | omega | l_fact); (case hx => exact eqI (by assumption)); (case hno => assumption); (case hix => first | assumption | exact .inl rfl | exact .inr (.inl rfl) | exact .inr (.inr rfl)); (case hV1 => assumption); (case hV2 => assumption); (case kK => first | exact rfl | assumption); (case kd => ktr_room); (case ku => ktr_units); exact ordK k8 S8) | fail "call") | ((first | (with_reducible show _ = true → EvP _ _ _ _) | (with_reducible show _ = false → EvP _ _ _ _) | (with_reducible show _ = true → Ex _ _ _ _) | (with_reducible show _ = false → Ex _ _ _ _)); intro hb) | (intro t1 t2 t3) | (intro t1 t2) | ((with_reducible show ∀ t : Tok, CallP _ _ _ _ _); intro t1) | (intro l9 u9; with_unfolding_all rfl) | exact plain_of (by decide +kernel) | exact trivial | ((with_reducible show IntMulOk _ _); exact IntMulOk.of_left (by decide)) | ((with_reducible show OrN _ _ _ _ _); exact .inl rfl) | (exact hpr.1) | (exact hpr.2) | (exact hyr.1) | (exact hyr.2) | (exact hzr.1) | (exact hzr.2) | omega | (first | fail "v" | fail "none") | fail "none")); intro v9 led9 news9 h9 tk9 m9 p9 l9 s9 F9 N9; (try dsimp only); k_steps)
  all_goals (
    (with_reducible rename Fr _ _ _ _ => kFF)
    (with_reducible rename News _ _ _ _ => kNN)
    rcases p9 with p9 | ⟨r9, wd9, tw9, k9, g9, gt9, gu9, nn9, e9, hr9, hl9, hg9, hw9, hf9⟩ | ⟨r9, wd9, tw9, k9, f9, g9, gt9, gu9, nn9, e9, hr9, hl9, hg9, hw9, hf9⟩
    · exact ordFin (news := news) p9 l9 (fun p hp => s9 p (.tail _ hp)) kFF kNN (fun r wd tw l ops nn led e hp hlen hops F N => by subst e; exact hret r wd tw l ops nn led _ _ hp hlen hops F N)
    · subst e9; exact hJ1 _ _ _ _ _ _ _ _ _ _ hw9 hf9 kFF (newsSub kNN (Sub.cons (l9 _ hr9) (Sub.cons (l9 _ hl9) (Sub.cons (l9 _ hg9) (fun p hp => s9 p (.tail _ hp))))))
    · subst e9; exact hJ2 _ _ _ _ _ _ _ _ _ _ _ hw9 hf9 kFF (newsSub kNN (Sub.cons (l9 _ hr9) (Sub.cons (l9 _ hl9) (Sub.cons (l9 _ hg9) (fun p hp => s9 p (.tail _ hp))))))
)

-- S9
theorem lines_S9_0 : True := by
  w_top off
  k_with_none
  k_with "subscriptTail" => ((k_here; (with_reducible show wpAny _ _ (subscriptTail _ _ (Value.ref _) (Value.int _ _)) _ _ _); k_dflt (refine' pickK ?k1 ?k3 ?k4 ?k5 ?_ ?k6; (case k1 => exact News.isList (by k_asm) (by k_mem)); (case k3 => l_idx); (case k4 => l_idx); (case k5 => l_idx); (case k6 => with_unfolding_all rfl); k_whole)); k_few; (dsimp only [PickAt]); k_places; (all_goals try k_fold))
  k_with "subscriptTail" => (k_here; (with_reducible show wpAny _ _ (subscriptTail _ _ (Value.ref _) (Value.int _ _)) _ _ _); k_dflt (refine' pickName ?k1 ?k2 ?k3 ?k4 ?k5 ?_ ?k6; (case k1 => exact News.isList (by k_asm) (by k_mem)); (case k2 => repeat (first | exact Names.nil | refine Names.cons (by first | assumption | exact plain_of (by decide +kernel)) ?_)); (case k3 => l_idx); (case k4 => l_idx); (case k5 => l_idx); (case k6 => with_unfolding_all rfl); k_whole); intro x9 t9 p9; (try dsimp only); (all_goals try k_fold))
  k_with "call builtin:dict.get" => (k_here; k_dflt (refine' getAny ?k1 ?k2 ?k3 ?k4 ?_ ?_; (case k1 => k_asm); (case k2 => k_mem); (case k3 => k_asm); (case k4 => k_asm)); rotate_left; (repeat' (first | exact List.forall_mem_nil _ | (refine List.forall_mem_cons.mpr ⟨?_, ?_⟩))); (all_goals (try dsimp only)); (all_goals try k_fold))
  k_with "call ref" => (k_here; k_dflt (refine' peek_c ?k1 ?k2 ?k3 ?k4 ?k5 ?kK ?hm ?hM ?kd ?ku ?_; (case k1 => k_asm); (case k2 => k_asm); (case k3 => k_asm); (case k4 => k_asm); (case k5 => k_asm); (case hm => k_mem); (case hM => assumption); (case kK => first | exact rfl | assumption); (case kd => ktr_room); (case ku => ktr_units)); intro t9 h9 tk9 c9 c9 F9 N9; (try dsimp only); (try k_sweep); (all_goals try k_fold))
  k_with "call ref" => (k_here; k_dflt (refine' peek16_c ?k1 ?k2 ?k3 ?k4 ?k5 ?kK ?hm ?hM ?kd ?ku ?_; (case k1 => k_asm); (case k2 => k_asm); (case k3 => k_asm); (case k4 => k_asm); (case k5 => k_asm); (case hm => k_mem); (case hM => assumption); (case kK => first | exact rfl | assumption); (case kd => ktr_room); (case ku => ktr_units)); intro t9 h9 tk9  F9 N9; (try dsimp only); (try k_sweep); (all_goals try k_fold))
  k_with "call ref" => (k_here; k_dflt (refine' pair_told_c ?k1 ?k2 ?k3 ?k4 ?k5 ?kK ?p0 ?p1 ?hix ?hla ?kd ?ku ?_; (case k1 => k_asm); (case k2 => k_asm); (case k3 => k_asm); (case k4 => k_asm); (case k5 => k_asm); (case p0 => first | assumption | omega | l_fact); (case p1 => first | assumption | omega | l_fact); (case hix => first | assumption | exact .inl rfl | exact .inr (.inl rfl) | exact .inr (.inr rfl)); (case hla => first | assumption | exact plain_of (by decide +kernel)); (case kK => first | exact rfl | assumption); (case kd => ktr_room); (case ku => ktr_units)); intro b9 o9 h9 tk9 q9 F9 N9; (try dsimp only); (try k_sweep); (all_goals try k_fold))
  k_with "call ref" => (k_here; k_dflt (refine' in_order_c ?k1 ?k2 ?k3 ?k4 ?k5 ?kK ?hVb ?hl ?h1 ?h2 ?q1 ?q2 ?kd ?ku ?_; (case k1 => k_asm); (case k2 => k_asm); (case k3 => k_asm); (case k4 => k_asm); (case k5 => k_asm); (case hVb => assumption); (case hl => k_mem); (case h1 => k_mem); (case h2 => k_mem); (case q1 => first | exact Opd.x | (apply_assumption; done) | exact Opd.s (by first | exact .inl rfl | exact .inr (.inl rfl) | exact .inr (.inr (.inl rfl)) | exact .inr (.inr (.inr rfl))) | exact Opd.n (by first | exact .inl rfl | exact .inr rfl) (by first | assumption | exact VLow.out (by assumption) _ (by omega) | exact VLow.out (by assumption) _ (by simp only [bitAnd_m3] at *; omega) | exact VIf.out (by assumption) (by first | assumption | exact far2 (by assumption) (by assumption) (by assumption) (.inl ⟨by assumption, by assumption, by assumption⟩) | exact far2 (by assumption) (by assumption) (by assumption) (.inr (.inl ⟨by assumption, by assumption, by dsimp only [fy]; omega⟩)) | exact far2 (by assumption) (by assumption) (by assumption) (.inr (.inr (.inl ⟨by assumption, .inl (by assumption)⟩))) | exact far2 (by assumption) (by assumption) (by assumption) (.inr (.inr (.inl ⟨by assumption, .inr (by assumption)⟩))) | exact far2 (by assumption) (by assumption) (by assumption) (.inr (.inr (.inr (.inl ⟨by assumption, by assumption, by assumption⟩)))) | exact far2 (by assumption) (by assumption) (by assumption) (.inr (.inr (.inr (.inr ⟨by assumption, by assumption, by assumption⟩))))))); (case q2 => first | exact Opd.x | (apply_assumption; done) | exact Opd.s (by first | exact .inl rfl | exact .inr (.inl rfl) | exact .inr (.inr (.inl rfl)) | exact .inr (.inr (.inr rfl))) | exact Opd.n (by first | exact .inl rfl | exact .inr rfl) (by first | assumption | exact VLow.out (by assumption) _ (by omega) | exact VLow.out (by assumption) _ (by simp only [bitAnd_m3] at *; omega) | exact VIf.out (by assumption) (by first | assumption | exact far2 (by assumption) (by assumption) (by assumption) (.inl ⟨by assumption, by assumption, by assumption⟩) | exact far2 (by assumption) (by assumption) (by assumption) (.inr (.inl ⟨by assumption, by assumption, by dsimp only [fy]; omega⟩)) | exact far2 (by assumption) (by assumption) (by assumption) (.inr (.inr (.inl ⟨by assumption, .inl (by assumption)⟩))) | exact far2 (by assumption) (by assumption) (by assumption) (.inr (.inr (.inl ⟨by assumption, .inr (by assumption)⟩))) | exact far2 (by assumption) (by assumption) (by assumption) (.inr (.inr (.inr (.inl ⟨by assumption, by assumption, by assumption⟩)))) | exact far2 (by assumption) (by assumption) (by assumption) (.inr (.inr (.inr (.inr ⟨by assumption, by assumption, by assumption⟩))))))); (case kK => first | exact rfl | assumption); (case kd => ktr_room); (case ku => ktr_units)); intro r9 wd9 tw9 l9 ops9 nn9 led9 h9 tk9 pw9 len9 q9 F9 N9; (try dsimp only); (try k_sweep); (all_goals try k_fold))
  trivial
theorem block_names_c {w : World} {mean : ExcName → Option Value} {mg mb : Str → Option Value} {dp un : Nat} {gd : Option (List Code)} {cn : Str} {cs : Scope} {a : Addr} {ccd : Value} {cl : List (Str × Addr)} {outer : List Env} {A₀ : Around} {base h₀ : Heap} {L : Addr} {m : Str → Option Value} {news : CbLed} {s : Shared} {Q E : Value → Shared → Prop}
    (B : Below A₀ base outer h₀) (F : Fr h₀ L s.heap m) (X : (Mine.hd.heap_39 w.params).In h₀) (N : News h₀ L s.heap news) (T : Top Mine.hd.view_39 (looseW Mine.hd.view_39 []) mean mg mb h₀) (hk : cs.kind = .function)  (hd : dp + 1 < recursionLimit) (hu : un + 8 < cLine)
    (hret : ∀ (v : Value) (led news' : CbLed) (h' : Heap) (tk' : Nat), LsOf (LsOf (Vs Plain) 4) 4 v led → Sub led news' → Sub news news' → Fr h₀ L h' m → News h₀ L h' news' → Q v { s with heap := h', toks := tk' }) :
    wpAny (model PySem.Challenge.rw_nz0573_01.row.prog w) (ktrTop dp un gd cn cs L a ccd cl outer) (call (.ref 140) []) Q E s := by
  revert X; k_fill; intro X
  all_goals (refine wpAny_call ?_; k_dflt cell_enter; skip; (with_reducible refine' ex_use0 ([]) (LsOf (LsOf (Vs Plain) 4) 4) ?hk ?X ?TR ?F ?N ?hb ?H ?k); k_dflt ((case X => assumption); (case TR => exact topRead_of (by assumption)); (case F => k_asm); (case N => k_asm); (case hk => exact rfl); (case hb => first | exact Sub.no | exact Sub.cons (.head _) Sub.no)); (case H => repeat' ((with_reducible show (_ : Prop)); first | ((with_reducible show EvP _ _ _ (OrN _ _ _)); (first | (with_reducible show EvP _ _ (PySem.Expr.Tuple _ _ _) _) | (with_reducible show EvP _ _ (PySem.Expr.Subscript _ _ _) _) | (with_reducible show EvP _ _ (PySem.Expr.Call _ _ _ _) _)); refine' evMono (P := OrdP V bs 2) ?_ orInr) | ((with_reducible refine' opS ?hk ?_ ?_ ?_); (case hk => with_reducible first | exact .inl rfl | exact .inr (.inl rfl) | exact .inr (.inr (.inl rfl)) | exact .inr (.inr (.inr rfl)))) | ((with_reducible refine' opSA ?hk ?_ ?_ ?_); (case hk => with_reducible first | exact .inl rfl | exact .inr (.inl rfl) | exact .inr (.inr (.inl rfl)) | exact .inr (.inr (.inr rfl)))) | ((with_reducible refine' opN ?hk ?_ ?_ ?_ ?_); (case hk => with_reducible first | exact .inl rfl | exact .inr rfl)) | (with_reducible first | exact evConst | exact evBool | exact Ks.nil | refine' Ks.cons ?_ | exact cpEq | exact cpNe | exact cpLt | exact cpGt | exact cpLe | exact cpNeB | exact cpEqS | exact cpNeS | exact cnIn | exact cnNot | refine' evShr ?_ ?_ ?_ | refine' evAnd ?_ ?_ | refine' evMod ?_ ?_ ?_ | refine' evSub ?_ ?_ | refine' evAdd ?_ ?_ | refine' evOr ?_ ?_ | refine' evShl ?_ ?_ ?_ ?_ | refine' evIn ?_ ?_ ?_ ?_ ?_ | refine' isIn ?_ ?_ ?_ ?_ ?_ | refine' evCmp ?_ ?_ ?_ ?_ | refine' isCmp ?_ ?_ ?_ ?_ | refine' evChain ?_ ?_ ?_ ?_ ?_ ?_ | refine' isNot ?_ | refine' evNot ?_ | refine' isAnd ?_ ?_ | refine' isAnd1 ?_ | refine' isOr ?_ ?_ | refine' isOr1 ?_ | refine' evBAnd ?_ ?_ | refine' evBOr ?_ ?_ | refine' evB1 ?_ | refine' evIfP ?_ ?_ ?_ | refine' exRet ?_ | refine' exIfP ?_ ?_ ?_ | refine' exAsg3 ?_ ?_ ?_ ?_ ?_ ?_ ?_ ?_ ?_ ?_ ?_ ?_ ?_ | refine' exAsg2 ?_ ?_ ?_ ?_ ?_ ?_ ?_ ?_ ?_ ?_ | refine' ordE ?_ ?_ ?_ ?_ | refine' lstE ?_ ?_ | refine' listE ?_ ?_ | exact rowNil | refine' rowCons ?_ ?_ ?_ | refine' esC ?_ | refine' pickOf ?_ ?_ ?_ ?_ ?_ ?_ | exact evStrC | refine' evNone ?_ | refine' evMul ?_ ?_ ?_ | refine' call1 ?_ ?_ ?_ ?_ ?_ ?_ ?_ ?_ ?_ | refine' call2 ?_ ?_ ?_ ?_ ?_ ?_ ?_ ?_ ?_ ?_ ?_ | refine' call3 ?_ ?_ ?_ ?_ ?_ ?_ ?_ ?_ ?_ ?_ ?_ ?_ ?_ | refine' call4 ?_ ?_ ?_ ?_ ?_ ?_ ?_ ?_ ?_ ?_ ?_ ?_ ?_ ?_ ?_ | refine' call5 ?_ ?_ ?_ ?_ ?_ ?_ ?_ ?_ ?_ ?_ ?_ ?_ ?_ ?_ ?_ ?_ ?_ | refine' call0 ?_ ?_ ?_ ?_ ?_ ?_) | ((with_reducible show _ = _); first | kernel_rfl! | (k_is; done) | exact rfl | fail "eq") | ((with_reducible show EvP _ _ (PySem.Expr.Name _ _) _); first | exact evName rfl (by kernel_rfl!) (by kernel_rfl!) | exact esN rfl (by kernel_rfl!) (by kernel_rfl!) trivial | exact esN rfl (by kernel_rfl!) (by kernel_rfl!) (by assumption) | exact opName rfl (List.mem_append_left _ (by assumption)) (by assumption) (by kernel_rfl!) (by kernel_rfl!) | exact opName rfl (.head _) (by assumption) (by kernel_rfl!) (by kernel_rfl!) | exact nmP rfl (by assumption) (fun _ h => List.mem_append_left _ h) (by kernel_rfl!) (by kernel_rfl!) | exact evNameV rfl (by kernel_rfl!) (by kernel_rfl!) | fail "name") | ((with_reducible show IsT _ _ _ _); first | exact isName rfl (by kernel_rfl!) (by kernel_rfl!) | (with_reducible refine' isW ?_) | fail "isT") | ((first | (with_reducible show _ = true → EvP _ _ _ _) | (with_reducible show _ = false → EvP _ _ _ _) | (with_reducible show _ = true → Ex _ _ _ _) | (with_reducible show _ = false → Ex _ _ _ _)); intro hb) | (intro t1 t2 t3) | (intro t1 t2) | ((with_reducible show ∀ t : Tok, CallP _ _ _ _ _); intro t1) | (intro l9 u9; with_unfolding_all rfl) | exact plain_of (by decide +kernel) | exact trivial | ((with_reducible show IntMulOk _ _); exact IntMulOk.of_left (by decide)) | ((with_reducible show OrN _ _ _ _ _); exact .inl rfl) | (exact hpr.1) | (exact hpr.2) | (exact hyr.1) | (exact hyr.2) | (exact hzr.1) | (exact hzr.2) | omega | (first | exact VLow.out (by assumption) _ hc09.2 | exact VLow.out (by assumption) _ (by omega) | exact VIf.out (by assumption) (farA (by assumption) (by assumption) (by assumption) (by assumption) (by assumption)) | exact VIf.out (by assumption) (farB (by assumption) (by assumption) (by assumption) (by assumption) (by assumption) (by assumption)) | fail "none") | fail "none")); intro v9 led9 news9 h9 tk9 m9 p9 l9 s9 F9 N9; (try dsimp only); k_steps)
  all_goals (
    (with_reducible rename Fr _ _ _ _ => kFF)
    (with_reducible rename News _ _ _ _ => kNN)
    exact hret _ _ _ _ _ p9 l9 s9 kFF kNN
)
theorem extra_order_c {w : World} {mean : ExcName → Option Value} {mg mb : Str → Option Value} {dp un : Nat} {gd : Option (List Code)} {cn : Str} {cs : Scope} {a : Addr} {ccd : Value} {cl : List (Str × Addr)} {outer : List Env} {A₀ : Around} {base h₀ : Heap} {L : Addr} {m : Str → Option Value} {news : CbLed} {s : Shared} {Q E : Value → Shared → Prop} {ml : Addr} {vs : List Value} {kk : Nat} {ns : List Int} {V : Int → Prop} {bs : Int} {n : Int} {tn : Tok} {octet : Int} {to : Tok}
    (B : Below A₀ base outer h₀) (F : Fr h₀ L s.heap m) (X : (Mine.hd.heap_39 w.params).In h₀) (N : News h₀ L s.heap news) (T : Top Mine.hd.view_39 (looseW Mine.hd.view_39 []) mean mg mb h₀) (hk : cs.kind = .function) (hVb : VB V bs) (hm : (ml, listOf vs.toArray kk) ∈ news) (hM : Mem vs ns) (p0 : 0 ≤ octet) (p1 : octet < 256) (hV1 : VLow V) (hV2 : VIf V (fx octet = 1 ∧ fz octet = 3) (cell ns n + 256 * cell ns (n + 1))) (hd : dp + 4 < recursionLimit) (hu : un + 32 < cLine)
    (hret : ∀ (r : Addr) (wd : Str) (tw : Tok) (l : Addr) (ops : List Value) (nn : Nat) (led : CbLed) (h' : Heap) (tk' : Nat), Plain wd → ops.length ≤ 2 → OpsIn led V bs ops → Fr h₀ L h' m → News h₀ L h' ((r, { cls := .type "tuple", data := .seq [Value.str wd tw, Value.ref l].toArray }) :: (l, listOf ops.toArray nn) :: (led ++ news)) → Q (.ref r) { s with heap := h', toks := tk' }) (hnone : ∀ (h' : Heap) (tk' : Nat), Fr h₀ L h' m → News h₀ L h' news → Q .none { s with heap := h', toks := tk' }) :
    wpAny (model PySem.Challenge.rw_nz0573_01.row.prog w) (ktrTop dp un gd cn cs L a ccd cl outer) (call (.ref 133) [Value.ref ml, Value.int n tn, Value.int octet to]) Q E s := by
  revert X; k_fill; intro X
  replace N := newsCons N hm
  have hMi := hM.are
  have hMl := hM.size
  have hyr := fy_rng octet
  have hzr := fz_rng octet
  have hxr := fx_rng p0 p1
  have hpr := half_rng hyr.1 hyr.2
  have hpc := half_case hyr.1
  have hc09 := cell_oct hM n
  all_goals (refine wpAny_call ?_; k_dflt cell_enter; (try ((with_reducible rename Fr _ _ _ (fun y => List.lookup y _) => kF0); replace kF0 : Fr _ _ _ (fun yy => List.lookup yy [(Str.ofString "octet", Value.int octet to), (Str.ofString "at", Value.int n tn), (Str.ofString "memory", Value.ref ml)]) := kF0)); (with_reducible refine' ex_use0 ([(ml, listOf vs.toArray kk)]) (OrN V bs 2) ?hk ?X ?TR ?F ?N ?hb ?H ?k); k_dflt ((case X => assumption); (case TR => exact topRead_of (by assumption)); (case F => k_asm); (case N => k_asm); (case hk => exact rfl); (case hb => first | exact Sub.no | exact Sub.cons (.head _) Sub.no)); (case H => repeat' ((with_reducible show (_ : Prop)); first | ((with_reducible show EvP _ _ _ (OrN _ _ _)); (first | (with_reducible show EvP _ _ (PySem.Expr.Tuple _ _ _) _) | (with_reducible show EvP _ _ (PySem.Expr.Subscript _ _ _) _) | (with_reducible show EvP _ _ (PySem.Expr.Call _ _ _ _) _)); refine' evMono (P := OrdP V bs 2) ?_ orInr) | ((with_reducible show EvP _ _ (PySem.Expr.Call (PySem.Expr.Name (Str.ofString "small_names") _) _ _ _) _); refine' call0 ?_ ?_ ?_ ?_ ?_ ?_) | ((with_reducible show EvP _ _ (PySem.Expr.Call (PySem.Expr.Name (Str.ofString "block_names") _) _ _ _) _); refine' call0 ?_ ?_ ?_ ?_ ?_ ?_) | (((with_reducible show EvP _ _ (PySem.Expr.Subscript _ _ _) (Vs fun _ => True)); refine' evMono (P := Vs Plain) ?_ vsTrue)) | ((with_reducible show Ex _ _ (Stmt.Assign [PySem.Expr.Name (Str.ofString "told") _] _ _ :: _) _); refine' ⟨?_⟩; intro nw7 s7 q7 I7 k7; obtain ⟨F7, N7, S7⟩ := I7; dsimp only at F7 N7 S7 k7 ⊢; k_steps; all_goals ((with_reducible rename Fr _ _ _ _ => kFF); (with_reducible rename News _ _ _ _ => kNN); first | (refine' k7 _ [] _ _ _ _ (Or.inl rfl) Sub.no ?su ⟨kFF, kNN, ?sb⟩; (case su => exact (by intro p hp; repeat (first | exact hp | exact List.mem_append_right _ hp | exact List.mem_append_left _ hp | apply List.Mem.tail | apply List.mem_append_right))); (case sb => exact Sub.tr S7 (by intro p hp; repeat (first | exact hp | exact List.mem_append_right _ hp | exact List.mem_append_left _ hp | apply List.Mem.tail | apply List.mem_append_right)))) | (refine' k7 _ _ _ _ _ _ (Or.inr ⟨_, _, _, _, _, _, rfl, ?m1, ?m2, ?pl, ?le, ?op⟩) Sub.refl' ?su ⟨kFF, kNN, ?sb⟩; (case m1 => k_mem); (case m2 => k_mem); (case pl => exact plain_of (by decide +kernel)); (case le => (simp; done)); (case op => repeat (first | exact OpsIn.nil | (refine OpsIn.cons (by k_mem) (by first | exact Opd.x | (apply_assumption; done) | exact Opd.s (by first | exact .inl rfl | exact .inr (.inl rfl) | exact .inr (.inr (.inl rfl)) | exact .inr (.inr (.inr rfl))) | exact Opd.n (by first | exact .inl rfl | exact .inr rfl) (by first | assumption | exact VLow.out (by assumption) _ (by omega) | exact VLow.out (by assumption) _ (by simp only [bitAnd_m3] at *; omega) | exact VIf.out (by assumption) (by first | assumption | exact far2 (by assumption) (by assumption) (by assumption) (.inl ⟨by assumption, by assumption, by assumption⟩) | exact far2 (by assumption) (by assumption) (by assumption) (.inr (.inl ⟨by assumption, by assumption, by dsimp only [fy]; omega⟩)) | exact far2 (by assumption) (by assumption) (by assumption) (.inr (.inr (.inl ⟨by assumption, .inl (by assumption)⟩))) | exact far2 (by assumption) (by assumption) (by assumption) (.inr (.inr (.inl ⟨by assumption, .inr (by assumption)⟩))) | exact far2 (by assumption) (by assumption) (by assumption) (.inr (.inr (.inr (.inl ⟨by assumption, by assumption, by assumption⟩)))) | exact far2 (by assumption) (by assumption) (by assumption) (.inr (.inr (.inr (.inr ⟨by assumption, by assumption, by assumption⟩))))))) ?_) | (refine OpsIn.mono (by assumption) (by intro p hp; repeat (first | exact hp | exact List.mem_append_right _ hp | exact List.mem_append_left _ hp | apply List.Mem.tail | apply List.mem_append_right))) | refine OpsIn.append ?_ ?_ | refine OpsIn.reverse ?_)); (case su => exact (by intro p hp; repeat (first | exact hp | exact List.mem_append_right _ hp | exact List.mem_append_left _ hp | apply List.Mem.tail | apply List.mem_append_right))); (case sb => exact Sub.tr S7 (by intro p hp; repeat (first | exact hp | exact List.mem_append_right _ hp | exact List.mem_append_left _ hp | apply List.Mem.tail | apply List.mem_append_right)))))) | ((with_reducible show EvP _ _ (PySem.Expr.Call (PySem.Expr.Name (Str.ofString "in_order") _) _ _ _) _); refine' callOV (P1 := LsOf (OpP V bs) 2) ?_ ?_ ?_ ?_ ?_ ?_ ?_ ?_ ?_ ?_ ?_) | ((with_reducible show ∀ x led t2, LsOf (OpP V bs) 2 x led → CallP _ _ _ _ _); rintro x9 led8 t2 ⟨lo9, vs9, rfl, hl9, hr9⟩; obtain ⟨a19, o19, a29, o29, rfl, m19, m29, q19, q29⟩ := row2 hr9; refine' CallP.mk ?_; intro nw8 s8 q8 I8 k8; obtain ⟨F8, N8, S8⟩ := I8; refine' in_order_c ?k1 F8 ?k3 N8 ?k5 ?kK ?hVb ?hl ?h1 ?h2 ?q1 ?q2 ?kd ?ku ?_; (case k1 => assumption); (case k3 => assumption); (case k5 => assumption); (case hVb => assumption); (case hl => exact S8 _ (List.mem_append_left _ hl9)); (case h1 => exact S8 _ (List.mem_append_left _ m19)); (case h2 => exact S8 _ (List.mem_append_left _ m29)); (case q1 => exact q19); (case q2 => exact q29); (case kK => first | exact rfl | assumption); (case kd => ktr_room); (case ku => ktr_units); exact ordK k8 S8) | ((with_reducible show Ex _ _ (Stmt.Assign [PySem.Expr.Name (Str.ofString "place") _] _ _ :: _) _); refine' exAsgO (b := bs) (V := V) ?_ ?_ ?_ ?_) | ((with_reducible show Ex _ _ (Stmt.Assign [PySem.Expr.Name (Str.ofString "operands") _] _ _ :: _) _); refine' exAsg (P := LsOf (OpP V bs) 2) ?_ ?_ ?_ ?_) | ((with_reducible show ∀ a o led, _ ∈ led → Opd _ _ o → Ex _ _ _ _); intro a9 o9 led7 hm9 ho9) | ((with_reducible show ∀ v led, LsOf _ _ v led → Ex _ _ _ _); intro v7 led7 p7) | ((with_reducible refine' opS ?hk ?_ ?_ ?_); (case hk => with_reducible first | exact .inl rfl | exact .inr (.inl rfl) | exact .inr (.inr (.inl rfl)) | exact .inr (.inr (.inr rfl)))) | ((with_reducible refine' opSA ?hk ?_ ?_ ?_); (case hk => with_reducible first | exact .inl rfl | exact .inr (.inl rfl) | exact .inr (.inr (.inl rfl)) | exact .inr (.inr (.inr rfl)))) | ((with_reducible refine' opN ?hk ?_ ?_ ?_ ?_); (case hk => with_reducible first | exact .inl rfl | exact .inr rfl)) | (with_reducible first | exact evConst | exact evBool | exact Ks.nil | refine' Ks.cons ?_ | exact cpEq | exact cpNe | exact cpLt | exact cpGt | exact cpLe | exact cpNeB | exact cpEqS | exact cpNeS | exact cnIn | exact cnNot | refine' evShr ?_ ?_ ?_ | refine' evAnd ?_ ?_ | refine' evMod ?_ ?_ ?_ | refine' evSub ?_ ?_ | refine' evAdd ?_ ?_ | refine' evOr ?_ ?_ | refine' evShl ?_ ?_ ?_ ?_ | refine' evIn ?_ ?_ ?_ ?_ ?_ | refine' isIn ?_ ?_ ?_ ?_ ?_ | refine' evCmp ?_ ?_ ?_ ?_ | refine' isCmp ?_ ?_ ?_ ?_ | refine' evChain ?_ ?_ ?_ ?_ ?_ ?_ | refine' isNot ?_ | refine' evNot ?_ | refine' isAnd ?_ ?_ | refine' isAnd1 ?_ | refine' isOr ?_ ?_ | refine' isOr1 ?_ | refine' evBAnd ?_ ?_ | refine' evBOr ?_ ?_ | refine' evB1 ?_ | refine' evIfP ?_ ?_ ?_ | refine' exRet ?_ | refine' exIfP ?_ ?_ ?_ | refine' exAsg3 ?_ ?_ ?_ ?_ ?_ ?_ ?_ ?_ ?_ ?_ ?_ ?_ ?_ | refine' exAsg2 ?_ ?_ ?_ ?_ ?_ ?_ ?_ ?_ ?_ ?_ | refine' ordE ?_ ?_ ?_ ?_ | refine' lstE ?_ ?_ | refine' listE ?_ ?_ | exact rowNil | refine' rowCons ?_ ?_ ?_ | refine' esC ?_ | refine' pickOf ?_ ?_ ?_ ?_ ?_ ?_ | exact evStrC | refine' evNone ?_ | refine' evMul ?_ ?_ ?_ | refine' call1 ?_ ?_ ?_ ?_ ?_ ?_ ?_ ?_ ?_ | refine' call2 ?_ ?_ ?_ ?_ ?_ ?_ ?_ ?_ ?_ ?_ ?_ | refine' call3 ?_ ?_ ?_ ?_ ?_ ?_ ?_ ?_ ?_ ?_ ?_ ?_ ?_ | refine' call4 ?_ ?_ ?_ ?_ ?_ ?_ ?_ ?_ ?_ ?_ ?_ ?_ ?_ ?_ ?_ | refine' call5 ?_ ?_ ?_ ?_ ?_ ?_ ?_ ?_ ?_ ?_ ?_ ?_ ?_ ?_ ?_ ?_ ?_ | refine' call0 ?_ ?_ ?_ ?_ ?_ ?_) | ((with_reducible show _ = _); first | kernel_rfl! | (k_is; done) | exact rfl | fail "eq") | ((with_reducible show EvP _ _ (PySem.Expr.Name _ _) _); first | exact evName rfl (by kernel_rfl!) (by kernel_rfl!) | exact esN rfl (by kernel_rfl!) (by kernel_rfl!) trivial | exact esN rfl (by kernel_rfl!) (by kernel_rfl!) (by assumption) | exact opName rfl (List.mem_append_left _ (by assumption)) (by assumption) (by kernel_rfl!) (by kernel_rfl!) | exact opName rfl (.head _) (by assumption) (by kernel_rfl!) (by kernel_rfl!) | exact nmP rfl (by assumption) (fun _ h => List.mem_append_left _ h) (by kernel_rfl!) (by kernel_rfl!) | exact evNameV rfl (by kernel_rfl!) (by kernel_rfl!) | fail "name") | ((with_reducible show IsT _ _ _ _); first | exact isName rfl (by kernel_rfl!) (by kernel_rfl!) | (with_reducible refine' isW ?_) | fail "isT") | ((with_reducible show CallP _ _ _ _ _); first | (refine' CallP.mk ?_; intro nw8 s8 q8 I8 k8; obtain ⟨F8, N8, S8⟩ := I8; refine' peek_c ?k1 F8 ?k3 N8 ?k5 ?kK ?hm ?hM ?kd ?ku ?_; (case k1 => assumption); (case k3 => assumption); (case k5 => assumption); (case hm => first | exact S8 _ (.head _) | exact S8 _ (List.mem_append_right _ (.head _))); (case hM => assumption); (case kK => first | exact rfl | assumption); (case kd => ktr_room); (case ku => ktr_units); intro t8 h8 tk8 c8 c8 F9 N9; exact k8 _ [] _ _ _ (show VI _ _ _ from ⟨rfl, t8, rfl⟩) Sub.no Sub.refl' ⟨F9, N9, S8⟩) | (refine' CallP.mk ?_; intro nw8 s8 q8 I8 k8; obtain ⟨F8, N8, S8⟩ := I8; refine' peek16_c ?k1 F8 ?k3 N8 ?k5 ?kK ?hm ?hM ?kd ?ku ?_; (case k1 => assumption); (case k3 => assumption); (case k5 => assumption); (case hm => first | exact S8 _ (.head _) | exact S8 _ (List.mem_append_right _ (.head _))); (case hM => assumption); (case kK => first | exact rfl | assumption); (case kd => ktr_room); (case ku => ktr_units); intro t8 h8 tk8 F9 N9; exact k8 _ [] _ _ _ (show VI _ _ _ from ⟨rfl, t8, rfl⟩) Sub.no Sub.refl' ⟨F9, N9, S8⟩) | (refine' CallP.mk ?_; intro nw8 s8 q8 I8 k8; obtain ⟨F8, N8, S8⟩ := I8; refine' pair_told_c ?k1 F8 ?k3 N8 ?k5 ?kK ?p0 ?p1 ?hix ?hla ?kd ?ku ?_; (case k1 => assumption); (case k3 => assumption); (case k5 => assumption); (case p0 => first | assumption | omega | l_fact); (case p1 => first | assumption | omega | l_fact); (case hix => first | assumption | exact .inl rfl | exact .inr (.inl rfl) | exact .inr (.inr rfl)); (case hla => first | assumption | exact plain_of (by decide +kernel)); (case kK => first | exact rfl | assumption); (case kd => ktr_room); (case ku => ktr_units); first | exact opK k8 S8 | exact opK' k8 S8 | exact opKA k8 S8) | (refine' CallP.mk ?_; intro nw8 s8 q8 I8 k8; obtain ⟨F8, N8, S8⟩ := I8; refine' small_names_c ?k1 F8 ?k3 N8 ?k5 ?kK  ?kd ?ku ?_; (case k1 => assumption); (case k3 => assumption); (case k5 => assumption);  (case kK => first | exact rfl | assumption); (case kd => ktr_room); (case ku => ktr_units); intro v9 led9 n9 h9 tk9 p9 l9 s9 F9 N9; exact k8 v9 led9 n9 h9 tk9 p9 l9 s9 ⟨F9, N9, S8.tr s9⟩) | (refine' CallP.mk ?_; intro nw8 s8 q8 I8 k8; obtain ⟨F8, N8, S8⟩ := I8; refine' block_names_c ?k1 F8 ?k3 N8 ?k5 ?kK  ?kd ?ku ?_; (case k1 => assumption); (case k3 => assumption); (case k5 => assumption);  (case kK => first | exact rfl | assumption); (case kd => ktr_room); (case ku => ktr_units); intro v9 led9 n9 h9 tk9 p9 l9 s9 F9 N9; exact k8 v9 led9 n9 h9 tk9 p9 l9 s9 ⟨F9, N9, S8.tr s9⟩) | fail "call") | ((first | (with_reducible show _ = true → EvP _ _ _ _) | (with_reducible show _ = false → EvP _ _ _ _) | (with_reducible show _ = true → Ex _ _ _ _) | (with_reducible show _ = false → Ex _ _ _ _)); intro hb) | (intro t1 t2 t3) | (intro t1 t2) | ((with_reducible show ∀ t : Tok, CallP _ _ _ _ _); intro t1) | (intro l9 u9; with_unfolding_all rfl) | exact plain_of (by decide +kernel) | exact trivial | ((with_reducible show IntMulOk _ _); exact IntMulOk.of_left (by decide)) | ((with_reducible show OrN _ _ _ _ _); exact .inl rfl) | (exact hpr.1) | (exact hpr.2) | (exact hyr.1) | (exact hyr.2) | (exact hzr.1) | (exact hzr.2) | (exact (blk (by assumption) hyr.2).1) | (exact (blk (by assumption) hyr.2).2.1) | (exact (blk (by assumption) hyr.2).2.2) | (exact lt6 (by assumption)) | (exact hveT (by assumption) (by assumption) (by assumption)) | omega | (first | exact VLow.out (by assumption) _ hc09.2 | exact VLow.out (by assumption) _ (by omega) | exact VIf.out (by assumption) (farA (by assumption) (by assumption) (by assumption) (by assumption) (by assumption)) | exact VIf.out (by assumption) (farB (by assumption) (by assumption) (by assumption) (by assumption) (by assumption) (by assumption)) | fail "none") | fail "none")); intro v9 led9 news9 h9 tk9 m9 p9 l9 s9 F9 N9; (try dsimp only); k_steps)
  all_goals (
    (with_reducible rename Fr _ _ _ _ => kFF)
    (with_reducible rename News _ _ _ _ => kNN)
    rcases p9 with p9 | p9
    · subst p9; exact hnone _ _ kFF (newsSub kNN fun p hp => s9 p (.tail _ hp))
    · exact ordFin (news := news) p9 l9 (fun p hp => s9 p (.tail _ hp)) kFF kNN (fun r wd tw l ops nn led e hp hlen hops F N => by subst e; exact hret r wd tw l ops nn led _ _ hp hlen hops F N)
)

-- S10
theorem lines_S10_0 : True := by
  w_top off
  k_with_none
  k_with "subscriptTail" => ((k_here; (with_reducible show wpAny _ _ (subscriptTail _ _ (Value.ref _) (Value.int _ _)) _ _ _); k_dflt (refine' pickK ?k1 ?k3 ?k4 ?k5 ?_ ?k6; (case k1 => exact News.isList (by k_asm) (by k_mem)); (case k3 => l_idx); (case k4 => l_idx); (case k5 => l_idx); (case k6 => with_unfolding_all rfl); k_whole)); k_few; (dsimp only [PickAt]); k_places; (all_goals try k_fold))
  k_with "subscriptTail" => (k_here; (with_reducible show wpAny _ _ (subscriptTail _ _ (Value.ref _) (Value.int _ _)) _ _ _); k_dflt (refine' pickName ?k1 ?k2 ?k3 ?k4 ?k5 ?_ ?k6; (case k1 => exact News.isList (by k_asm) (by k_mem)); (case k2 => repeat (first | exact Names.nil | refine Names.cons (by first | assumption | exact plain_of (by decide +kernel)) ?_)); (case k3 => l_idx); (case k4 => l_idx); (case k5 => l_idx); (case k6 => with_unfolding_all rfl); k_whole); intro x9 t9 p9; (try dsimp only); (all_goals try k_fold))
  trivial
theorem addT21 {prog : Program} {w : World} {A : Around} {E : Value → Shared → Prop} {s : Shared} {h₀ : Heap} {L t b : Addr} {m : Str → Option Value} {news : CbLed} {x y z : Value} {Q : Value → Shared → Prop} (F : Fr h₀ L s.heap m) (N : News h₀ L s.heap news)
    (h1 : (t, { cls := .type "tuple", data := .seq [x, y].toArray }) ∈ news) (h2 : (b, { cls := .type "tuple", data := .seq [z].toArray }) ∈ news)
    (h : ∀ D h', Fr h₀ L h' m → News h₀ L h' ((D, ({ cls := .type "tuple", data := .seq [x, y, z].toArray } : Obj)) :: news) → (∀ p ∈ news, p.1 < D) → Q (.ref D) { s with heap := h' }) : wpAny (model prog w) A (binaryOp .Add (.ref t) (.ref b)) Q E s :=
  kde_addT F N (N.isTup h1) (N.isTup h2) (List.cons_ne_nil _ _) (List.cons_ne_nil _ _) (Nat.le_of_ble_eq_true rfl) rfl h
theorem lines_S10_1 : True := by
  k_with "binaryOp Add ref ref" => (k_here; (with_reducible show wpAny _ _ (binaryOp _ (Value.ref _) (Value.ref _)) _ _ _); k_dflt (refine' addT21 ?F ?N ?h1 ?h2 ?_; (case F => k_asm); (case N => k_asm); (case h1 => k_mem); (case h2 => k_mem)); intro D' h' F' N' l1; (try k_lt l1); (try k_sweep))
  k_with "call ref" => (k_here; k_dflt (refine' peek_c ?k1 ?k2 ?k3 ?k4 ?k5 ?kK ?hm ?hM ?kd ?ku ?_; (case k1 => k_asm); (case k2 => k_asm); (case k3 => k_asm); (case k4 => k_asm); (case k5 => k_asm); (case hm => k_mem); (case hM => assumption); (case kK => first | exact rfl | assumption); (case kd => ktr_room); (case ku => ktr_units)); intro t9 h9 tk9 c9 c9 F9 N9; (try dsimp only); (try k_sweep); (all_goals try k_fold))
  k_with "call ref" => (k_here; k_dflt (refine' told1_c ?k1 ?k2 ?k3 ?k4 ?k5 ?kK ?hm ?hM ?kd ?ku ?_; (case k1 => k_asm); (case k2 => k_asm); (case k3 => k_asm); (case k4 => k_asm); (case k5 => k_asm); (case hm => k_mem); (case hM => assumption); (case kK => first | exact rfl | assumption); (case kd => ktr_room); (case ku => ktr_units)); intro r9 l9 b9 t9 t9 u9 v9 nn9 h9 tk9 F9 N9; (try dsimp only); (try k_sweep); (all_goals try k_fold))
  k_with "call ref" => (k_here; k_dflt (refine' told4_c ?k1 ?k2 ?k3 ?k4 ?k5 ?kK ?hm ?hM ?kd ?ku ?_; (case k1 => k_asm); (case k2 => k_asm); (case k3 => k_asm); (case k4 => k_asm); (case k5 => k_asm); (case hm => k_mem); (case hM => assumption); (case kK => first | exact rfl | assumption); (case kd => ktr_room); (case ku => ktr_units)); intro r9 l9 b9 b9 b9 b9 t9 t9 u9 v9 u9 v9 u9 v9 u9 v9 nn9 h9 tk9 F9 N9; (try dsimp only); (try k_sweep); (all_goals try k_fold))
  k_with "call ref" => (k_here; k_dflt (refine' signed_octet_c ?k1 ?k2 ?k3 ?k4 ?k5 ?kK  ?kd ?ku ?_; (case k1 => k_asm); (case k2 => k_asm); (case k3 => k_asm); (case k4 => k_asm); (case k5 => k_asm);  (case kK => first | exact rfl | assumption); (case kd => ktr_room); (case ku => ktr_units)); intro t9 h9 tk9  F9 N9; (try dsimp only); (try k_sweep); (all_goals try k_fold))
  k_with "call ref" => (k_here; k_dflt (refine' turns_by_index_c ?k1 ?k2 ?k3 ?k4 ?k5 ?kK  ?kd ?ku ?_; (case k1 => k_asm); (case k2 => k_asm); (case k3 => k_asm); (case k4 => k_asm); (case k5 => k_asm);  (case kK => first | exact rfl | assumption); (case kd => ktr_room); (case ku => ktr_units)); intro t9 h9 tk9  F9 N9; (try dsimp only); (try k_sweep); (all_goals try k_fold))
  k_with "call ref" => (k_here; k_dflt (refine' is_beside_c ?k1 ?k2 ?k3 ?k4 ?k5 ?kK  ?kd ?ku ?_; (case k1 => k_asm); (case k2 => k_asm); (case k3 => k_asm); (case k4 => k_asm); (case k5 => k_asm);  (case kK => first | exact rfl | assumption); (case kd => ktr_room); (case ku => ktr_units)); intro t9 h9 tk9  F9 N9; (try dsimp only); (try k_sweep); (all_goals try k_fold))
  k_with "call ref" => (k_here; k_dflt (refine' far_octets_c ?k1 ?k2 ?k3 ?k4 ?k5 ?kK  ?kd ?ku ?_; (case k1 => k_asm); (case k2 => k_asm); (case k3 => k_asm); (case k4 => k_asm); (case k5 => k_asm);  (case kK => first | exact rfl | assumption); (case kd => ktr_room); (case ku => ktr_units)); intro t9 h9 tk9  F9 N9; (try dsimp only); (try k_sweep); (all_goals try k_fold))
  k_with "call ref" => (k_here; k_dflt (refine' bits_order_c ?k1 ?k2 ?k3 ?k4 ?k5 ?kK ?hVb ?p0 ?p1 ?hl ?ho ?hn ?hV1 ?kd ?ku ?_; (case k1 => k_asm); (case k2 => k_asm); (case k3 => k_asm); (case k4 => k_asm); (case k5 => k_asm); (case hVb => assumption); (case p0 => first | assumption | omega | l_fact); (case p1 => first | assumption | omega | l_fact); (case hl => k_mem); (case ho => repeat (first | exact OpsIn.nil | (refine OpsIn.cons (by k_mem) (by first | exact Opd.x | (apply_assumption; done) | exact Opd.s (by first | exact .inl rfl | exact .inr (.inl rfl) | exact .inr (.inr (.inl rfl)) | exact .inr (.inr (.inr rfl))) | exact Opd.n (by first | exact .inl rfl | exact .inr rfl) (by first | assumption | exact VLow.out (by assumption) _ (by omega) | exact VLow.out (by assumption) _ (by simp only [bitAnd_m3] at *; omega) | exact VIf.out (by assumption) (by first | assumption | exact far2 (by assumption) (by assumption) (by assumption) (.inl ⟨by assumption, by assumption, by assumption⟩) | exact far2 (by assumption) (by assumption) (by assumption) (.inr (.inl ⟨by assumption, by assumption, by dsimp only [fy]; omega⟩)) | exact far2 (by assumption) (by assumption) (by assumption) (.inr (.inr (.inl ⟨by assumption, .inl (by assumption)⟩))) | exact far2 (by assumption) (by assumption) (by assumption) (.inr (.inr (.inl ⟨by assumption, .inr (by assumption)⟩))) | exact far2 (by assumption) (by assumption) (by assumption) (.inr (.inr (.inr (.inl ⟨by assumption, by assumption, by assumption⟩)))) | exact far2 (by assumption) (by assumption) (by assumption) (.inr (.inr (.inr (.inr ⟨by assumption, by assumption, by assumption⟩))))))) ?_) | (refine OpsIn.mono (by assumption) (by intro p hp; repeat (first | exact hp | exact List.mem_append_right _ hp | exact List.mem_append_left _ hp | apply List.Mem.tail | apply List.mem_append_right))) | refine OpsIn.append ?_ ?_ | refine OpsIn.reverse ?_)); (case hn => first | (simp; done) | omega); (case hV1 => assumption); (case kK => first | exact rfl | assumption); (case kd => ktr_room); (case ku => ktr_units)); intro r9 wd9 tw9 l9 ops9 nn9 led9 h9 tk9 pw9 len9 q9 F9 N9; (try dsimp only); (try k_sweep); (all_goals try k_fold))
  k_with "call ref" => (k_here; k_dflt (refine' main_order_c ?k1 ?k2 ?k3 ?k4 ?k5 ?kK ?hVb ?hm ?hM ?p0 ?p1 ?hno ?hix ?hbx ?hV1 ?hV2 ?kd ?ku ?_ ?_ ?_; (case k1 => k_asm); (case k2 => k_asm); (case k3 => k_asm); (case k4 => k_asm); (case k5 => k_asm); (case hVb => assumption); (case hm => k_mem); (case hM => assumption); (case p0 => first | assumption | omega | l_fact); (case p1 => first | assumption | omega | l_fact); (case hno => first | assumption | exact hno_ix (by assumption) (by assumption) | exact hno_main (by assumption) (by assumption) (by assumption)); (case hix => first | assumption | exact .inl rfl | exact .inr (.inl rfl) | exact .inr (.inr rfl)); (case hbx => first | assumption | exact fun h => absurd rfl h | exact fun _ => rfl); (case hV1 => assumption); (case hV2 => first | assumption | exact VIf.imp (P := (_ ≠ (203 : Int) ∧ _)) (by assumption) (fun h => ⟨by assumption, h⟩) | exact VIf.no (far_beside (by assumption) (by assumption) (by assumption) (by assumption) (by assumption))); (case kK => first | exact rfl | assumption); (case kd => ktr_room); (case ku => ktr_units)); (intro r9 wd9 tw9 l9 ops9 nn9 led9 h9 tk9 pw9 len9 q9 F9 N9); rotate_left; (intro r9 wd9 tw9 l9 g9 gt9 gu9 nn9 h9 tk9 jw9 jf9 F9 N9); rotate_left; (intro r9 wd9 tw9 l9 f9 g9 gt9 gu9 nn9 h9 tk9 jw9 jf9 F9 N9); rotate_left; (try dsimp only); (try k_sweep); (all_goals try k_fold))
  trivial
theorem index_order_c {w : World} {mean : ExcName → Option Value} {mg mb : Str → Option Value} {dp un : Nat} {gd : Option (List Code)} {cn : Str} {cs : Scope} {a : Addr} {ccd : Value} {cl : List (Str × Addr)} {outer : List Env} {A₀ : Around} {base h₀ : Heap} {L : Addr} {m : Str → Option Value} {news : CbLed} {s : Shared} {Q E : Value → Shared → Prop} {ml : Addr} {vs : List Value} {kk : Nat} {ns : List Int} {V : Int → Prop} {n : Int} {tn : Tok} {ix : Str} {tx : Tok}
    (B : Below A₀ base outer h₀) (F : Fr h₀ L s.heap m) (X : (Mine.hd.heap_39 w.params).In h₀) (N : News h₀ L s.heap news) (T : Top Mine.hd.view_39 (looseW Mine.hd.view_39 []) mean mg mb h₀) (hk : cs.kind = .function) (hm : (ml, listOf vs.toArray kk) ∈ news) (hM : Mem vs ns) (hix : ix = Str.ofString "" ∨ ix = Str.ofString "IX" ∨ ix = Str.ofString "IY") (hV1 : VLow V) (hV2 : VIf V (cell ns (n + 1) ≠ 203 ∧ farOctets (cell ns (n + 1)) = 2) (cell ns (n + 2) + 256 * cell ns (n + 2 + 1))) (hd : dp + 6 < recursionLimit) (hu : un + 48 < cLine)
    (hDB4 : ∀ (r l b0 b1 b2 b3 : Addr) (t1 t2 u0 v0 u1 v1 u2 v2 u3 v3 : Tok) (nn : Nat) (h' : Heap) (tk' : Nat), cell ns (n + 1) = 203 → Fr h₀ L h' m → News h₀ L h' ((r, { cls := .type "tuple", data := .seq [Value.str (Str.ofString "DB") t1, Value.ref l, Value.int 4 t2].toArray }) :: (l, listOf [Value.ref b0, Value.ref b1, Value.ref b2, Value.ref b3].toArray nn) :: (b3, { cls := .type "tuple", data := .seq [Value.str (Str.ofString "n") u3, Value.int (cell ns (n + 3)) v3].toArray }) :: (b2, { cls := .type "tuple", data := .seq [Value.str (Str.ofString "n") u2, Value.int (cell ns (n + 2)) v2].toArray }) :: (b1, { cls := .type "tuple", data := .seq [Value.str (Str.ofString "n") u1, Value.int (cell ns (n + 1)) v1].toArray }) :: (b0, { cls := .type "tuple", data := .seq [Value.str (Str.ofString "n") u0, Value.int (cell ns n) v0].toArray }) :: news) → Q (.ref r) { s with heap := h', toks := tk' }) (hDB1 : ∀ (r l b0 : Addr) (t1 t2 u0 v0 : Tok) (nn : Nat) (h' : Heap) (tk' : Nat), IdleIx (cell ns (n + 1)) → Fr h₀ L h' m → News h₀ L h' ((r, { cls := .type "tuple", data := .seq [Value.str (Str.ofString "DB") t1, Value.ref l, Value.int 1 t2].toArray }) :: (l, listOf [Value.ref b0].toArray nn) :: (b0, { cls := .type "tuple", data := .seq [Value.str (Str.ofString "n") u0, Value.int (cell ns n) v0].toArray }) :: news) → Q (.ref r) { s with heap := h', toks := tk' }) (hB : ∀ (r : Addr) (wd : Str) (tw : Tok) (l : Addr) (ops : List Value) (nn : Nat) (many : Int) (tm : Tok) (led : CbLed) (h' : Heap) (tk' : Nat), Plain wd → ops.length ≤ 3 → OpsIn led V (signedOctet (cell ns (n + 2))) ops → (many = lenIx (cell ns (n + 1)) ∧ (cell ns (n + 1) = 203 ∨ (([221, 237, 253].any fun x => x == cell ns (n + 1)) = false ∧ turnsByIndex (cell ns (n + 1)) = true))) → Fr h₀ L h' m → News h₀ L h' ((r, { cls := .type "tuple", data := .seq [Value.str wd tw, Value.ref l, Value.int many tm].toArray }) :: (l, listOf ops.toArray nn) :: (led ++ news)) → Q (.ref r) { s with heap := h', toks := tk' }) :
    wpAny (model PySem.Challenge.rw_nz0573_01.row.prog w) (ktrTop dp un gd cn cs L a ccd cl outer) (call (.ref 173) [Value.ref ml, Value.int n tn, Value.str ix tx]) Q E s := by
  revert X; k_fill; intro X
  replace N := newsCons N hm
  have hMi := hM.are
  have hMl := hM.size
  have hzr := fz_rng (cell ns (n + 3))
  have hVb : VB V (signedOctet (cell ns (n + 2))) := ⟨⟩
  have hV20 : VIf V (cell ns (n + 1) ≠ 203 ∧ farOctets (cell ns (n + 1)) = 2) (cell ns (n + 2 + 0) + 256 * cell ns (n + 2 + 0 + 1)) := by rw [Int.add_zero]; exact hV2
  have ho1 := cell_oct hM (n + 1)
  have ho3 := cell_oct hM (n + 3)
  all_goals (refine wpAny_call ?_; k_dflt cell_enter; (try ((with_reducible rename Fr _ _ _ (fun y => List.lookup y _) => kF0); replace kF0 : Fr _ _ _ (fun yy => List.lookup yy [(Str.ofString "index", Value.str ix tx), (Str.ofString "at", Value.int n tn), (Str.ofString "memory", Value.ref ml)]) := kF0)); (with_reducible refine' ex_use0 ([(ml, listOf vs.toArray kk)]) (IxP V (signedOctet (cell ns (n + 2))) ns n) ?hk ?X ?TR ?F ?N ?hb ?H ?k); k_dflt ((case X => assumption); (case TR => exact topRead_of (by assumption)); (case F => k_asm); (case N => k_asm); (case hk => exact rfl); (case hb => first | exact Sub.no | exact Sub.cons (.head _) Sub.no)); (case H => repeat' ((with_reducible show (_ : Prop)); first | ((with_reducible show EvP _ _ _ (OrN _ _ _)); (first | (with_reducible show EvP _ _ (PySem.Expr.Tuple _ _ _) _) | (with_reducible show EvP _ _ (PySem.Expr.Subscript _ _ _) _) | (with_reducible show EvP _ _ (PySem.Expr.Call _ _ _ _) _)); refine' evMono (P := OrdP V bs 2) ?_ orInr) | ((with_reducible show EvP _ _ (PySem.Expr.Call (PySem.Expr.Name (Str.ofString "told_octets") _) [_, _, PySem.Expr.Constant (PySem.Const.int 4) _ _] _ _) (IxP _ _ _ _)); refine' evMono (P := D4P (cell ns n) (cell ns (n + 1)) (cell ns (n + 2)) (cell ns (n + 3))) ?_ (ix4 (by assumption))) | ((with_reducible show EvP _ _ (PySem.Expr.Call (PySem.Expr.Name (Str.ofString "told_octets") _) [_, _, PySem.Expr.Constant (PySem.Const.int 1) _ _] _ _) (IxP _ _ _ _)); refine' evMono (P := D1P (cell ns n)) ?_ (ix1 (by assumption) (by assumption))) | ((with_reducible show EvP _ _ (PySem.Expr.BinOp (PySem.Expr.Call (PySem.Expr.Name (Str.ofString "bits_order") _) _ _ _) _ _ _) (IxP _ _ _ _)); refine' evMono (P := BP V (signedOctet (cell ns (n + 2))) 4) ?_ (ixB4 (by assumption))) | ((with_reducible show EvP _ _ (PySem.Expr.BinOp (PySem.Expr.Call (PySem.Expr.Name (Str.ofString "main_order") _) _ _ _) _ _ _) (IxP _ _ _ _)); refine' evMono (P := BP V (signedOctet (cell ns (n + 2))) (2 + (bif isBeside (cell ns (n + 1)) then 1 else 0) + farOctets (cell ns (n + 1)))) ?_ (ixBM ho1.1 ho1.2 (by assumption) (by assumption))) | ((with_reducible show EvP _ _ (PySem.Expr.BinOp (PySem.Expr.Call (PySem.Expr.Name (Str.ofString "bits_order") _) _ _ _) _ _ _) (BP _ _ _)); refine' addTupE (k := 3) ?_ rfl ?_ ?_) | ((with_reducible show EvP _ _ (PySem.Expr.BinOp (PySem.Expr.Call (PySem.Expr.Name (Str.ofString "main_order") _) _ _ _) _ _ _) (BP _ _ _)); refine' addTupE (k := 2) ?_ rfl ?_ ?_) | ((with_reducible show CallP _ _ _ _ (D4P _ _ _ _)); refine' CallP.mk ?_; intro nw8 s8 q8 I8 k8; obtain ⟨F8, N8, S8⟩ := I8; refine' told4_c ?k1 F8 ?k3 N8 ?k5 ?kK ?hm ?hM ?kd ?ku ?_; (case k1 => assumption); (case k3 => assumption); (case k5 => assumption); (case hm => first | exact S8 _ (.head _) | exact S8 _ (List.mem_append_right _ (.head _))); (case hM => assumption); (case kK => first | exact rfl | assumption); (case kd => ktr_room); (case ku => ktr_units); exact d4K k8 S8) | ((with_reducible show CallP _ _ _ _ (D1P _)); refine' CallP.mk ?_; intro nw8 s8 q8 I8 k8; obtain ⟨F8, N8, S8⟩ := I8; refine' told1_c ?k1 F8 ?k3 N8 ?k5 ?kK ?hm ?hM ?kd ?ku ?_; (case k1 => assumption); (case k3 => assumption); (case k5 => assumption); (case hm => first | exact S8 _ (.head _) | exact S8 _ (List.mem_append_right _ (.head _))); (case hM => assumption); (case kK => first | exact rfl | assumption); (case kd => ktr_room); (case ku => ktr_units); exact d1K k8 S8) | ((with_reducible show EvP _ _ (PySem.Expr.Call (PySem.Expr.Name (Str.ofString "bits_order") _) _ _ _) _); refine' callVO (P2 := LstP V (signedOctet (cell ns (n + 2))) 2) ?_ ?_ ?_ ?_ ?_ ?_ ?_ ?_ ?_ ?_ ?_) | ((with_reducible show ∀ t1 x led, LstP _ _ _ x led → CallP _ _ _ _ _); rintro t1 x9 led8 ⟨lo9, ops9, nn9, rfl, hl9, hlen9, hops9⟩; refine' CallP.mk ?_; intro nw8 s8 q8 I8 k8; obtain ⟨F8, N8, S8⟩ := I8; refine' bits_order_c ?k1 F8 ?k3 N8 ?k5 ?kK ?hVb ?p0 ?p1 ?hl ?ho ?hn ?hV1 ?kd ?ku ?_; (case k1 => assumption); (case k3 => assumption); (case k5 => assumption); (case hVb => assumption); (case p0 => first | assumption | omega | l_fact); (case p1 => first | assumption | omega | l_fact); (case hl => exact S8 _ (List.mem_append_left _ hl9)); (case ho => exact hops9.mono fun p hp => S8 _ (List.mem_append_left _ hp)); (case hn => exact hlen9); (case hV1 => assumption); (case kK => first | exact rfl | assumption); (case kd => ktr_room); (case ku => ktr_units); exact ordK k8 S8) | ((with_reducible show CallP _ _ _ [_, _, _, _, _] (OrdP _ _ _)); refine' CallP.mk ?_; intro nw8 s8 q8 I8 k8; obtain ⟨F8, N8, S8⟩ := I8; refine' main_order_c ?k1 F8 ?k3 N8 ?k5 ?kK ?hVb ?hm ?hM ?p0 ?p1 ?hno ?hix ?hbx ?hV1 ?hV2 ?kd ?ku ?_ ?_ ?_; (case k1 => assumption); (case k3 => assumption); (case k5 => assumption); (case hVb => assumption); (case hm => first | exact S8 _ (.head _) | exact S8 _ (List.mem_append_right _ (.head _))); (case hM => assumption); (case p0 => first | assumption | omega | l_fact); (case p1 => first | assumption | omega | l_fact); (case hno => exact hno_ix (ne203 (by assumption)) (ix_any (by assumption))); (case hix => first | assumption | exact .inl rfl | exact .inr (.inl rfl) | exact .inr (.inr rfl)); (case hbx => first | assumption | exact fun h => absurd rfl h | exact fun _ => rfl); (case hV1 => assumption); (case hV2 => exact vMain ho1.1 ho1.2 (ne203 (by assumption)) (ix_any (by assumption)) hV2); (case kK => first | exact rfl | assumption); (case kd => ktr_room); (case ku => ktr_units); (exact ordK k8 S8); (intros; exact absurd (by assumption) (turns_short ho1.1 ho1.2 (ix_tb (by assumption)))); (intros; exact absurd (by assumption) (turns_short ho1.1 ho1.2 (ix_tb (by assumption))))) | ((with_reducible show Ex _ _ (Stmt.Assign [PySem.Expr.Name (Str.ofString "operands") _] _ _ :: _) _); refine' exAsg (P := LstP V (signedOctet (cell ns (n + 2))) 2) ?_ ?_ ?_ ?_) | ((with_reducible show ∀ v led, LstP _ _ _ v led → Ex _ _ _ _); intro v7 led7 p7) | ((with_reducible show EvP _ _ (PySem.Expr.BinOp _ _ _ _) (LstP _ _ _)); refine' lstAdd (k1 := 1) (k2 := 1) ?_ ?_ rfl) | ((with_reducible show EvP _ _ (PySem.Expr.Tuple [_, _, _] _ _) (OpP _ _)); refine' evMono (P := OpB _) ?_ opBP; refine' opXB ?_ (evName rfl (by kernel_rfl!) (by kernel_rfl!)) ?_ ?_ ?_) | (((with_reducible show EvP _ _ (PySem.Expr.Subscript _ _ _) (Vs fun _ => True)); refine' evMono (P := Vs Plain) ?_ vsTrue)) | ((with_reducible show EvP _ _ (PySem.Expr.Call (PySem.Expr.Name (Str.ofString "small_names") _) _ _ _) _); refine' call0 ?_ ?_ ?_ ?_ ?_ ?_) | ((with_reducible show Ex _ _ (Stmt.Assign [PySem.Expr.Name _ _] _ _ :: _) _); refine' exAsgI ?_ ?_ ?_ ?_) | ((with_reducible show ∀ t : Tok, Ex _ _ _ _); intro t1) | ((with_reducible show EvP _ _ (PySem.Expr.IfExp _ (PySem.Expr.Constant _ _ _) _ _) _); refine' evIf ?_ ?_ ?_) | ((with_reducible show IsT _ _ (PySem.Expr.Call _ _ _ _) _); refine' isCall ?_) | ((with_reducible refine' opS ?hk ?_ ?_ ?_); (case hk => with_reducible first | exact .inl rfl | exact .inr (.inl rfl) | exact .inr (.inr (.inl rfl)) | exact .inr (.inr (.inr rfl)))) | ((with_reducible refine' opSA ?hk ?_ ?_ ?_); (case hk => with_reducible first | exact .inl rfl | exact .inr (.inl rfl) | exact .inr (.inr (.inl rfl)) | exact .inr (.inr (.inr rfl)))) | ((with_reducible refine' opN ?hk ?_ ?_ ?_ ?_); (case hk => with_reducible first | exact .inl rfl | exact .inr rfl)) | (with_reducible first | exact evConst | exact evBool | exact Ks.nil | refine' Ks.cons ?_ | exact cpEq | exact cpNe | exact cpLt | exact cpGt | exact cpLe | exact cpNeB | exact cpEqS | exact cpNeS | exact cnIn | exact cnNot | refine' evShr ?_ ?_ ?_ | refine' evAnd ?_ ?_ | refine' evMod ?_ ?_ ?_ | refine' evSub ?_ ?_ | refine' evAdd ?_ ?_ | refine' evOr ?_ ?_ | refine' evShl ?_ ?_ ?_ ?_ | refine' evIn ?_ ?_ ?_ ?_ ?_ | refine' isIn ?_ ?_ ?_ ?_ ?_ | refine' evCmp ?_ ?_ ?_ ?_ | refine' isCmp ?_ ?_ ?_ ?_ | refine' evChain ?_ ?_ ?_ ?_ ?_ ?_ | refine' isNot ?_ | refine' evNot ?_ | refine' isAnd ?_ ?_ | refine' isAnd1 ?_ | refine' isOr ?_ ?_ | refine' isOr1 ?_ | refine' evBAnd ?_ ?_ | refine' evBOr ?_ ?_ | refine' evB1 ?_ | refine' evIfP ?_ ?_ ?_ | refine' exRet ?_ | refine' exIfP ?_ ?_ ?_ | refine' exAsg3 ?_ ?_ ?_ ?_ ?_ ?_ ?_ ?_ ?_ ?_ ?_ ?_ ?_ | refine' exAsg2 ?_ ?_ ?_ ?_ ?_ ?_ ?_ ?_ ?_ ?_ | refine' ordE ?_ ?_ ?_ ?_ | refine' lstE ?_ ?_ | refine' listE ?_ ?_ | exact rowNil | refine' rowCons ?_ ?_ ?_ | refine' esC ?_ | refine' pickOf ?_ ?_ ?_ ?_ ?_ ?_ | exact evStrC | refine' evNone ?_ | refine' evMul ?_ ?_ ?_ | refine' call1 ?_ ?_ ?_ ?_ ?_ ?_ ?_ ?_ ?_ | refine' call2 ?_ ?_ ?_ ?_ ?_ ?_ ?_ ?_ ?_ ?_ ?_ | refine' call3 ?_ ?_ ?_ ?_ ?_ ?_ ?_ ?_ ?_ ?_ ?_ ?_ ?_ | refine' call4 ?_ ?_ ?_ ?_ ?_ ?_ ?_ ?_ ?_ ?_ ?_ ?_ ?_ ?_ ?_ | refine' call5 ?_ ?_ ?_ ?_ ?_ ?_ ?_ ?_ ?_ ?_ ?_ ?_ ?_ ?_ ?_ ?_ ?_ | refine' call0 ?_ ?_ ?_ ?_ ?_ ?_) | ((with_reducible show _ = _); first | kernel_rfl! | (k_is; done) | exact rfl | fail "eq") | ((with_reducible show EvP _ _ (PySem.Expr.Name _ _) _); first | exact evName rfl (by kernel_rfl!) (by kernel_rfl!) | exact esN rfl (by kernel_rfl!) (by kernel_rfl!) trivial | exact esN rfl (by kernel_rfl!) (by kernel_rfl!) (by assumption) | exact opName rfl (List.mem_append_left _ (by assumption)) (by assumption) (by kernel_rfl!) (by kernel_rfl!) | exact opName rfl (.head _) (by assumption) (by kernel_rfl!) (by kernel_rfl!) | exact nmP rfl (by assumption) (fun _ h => List.mem_append_left _ h) (by kernel_rfl!) (by kernel_rfl!) | exact evNameV rfl (by kernel_rfl!) (by kernel_rfl!) | fail "name") | ((with_reducible show IsT _ _ _ _); first | exact isName rfl (by kernel_rfl!) (by kernel_rfl!) | (with_reducible refine' isW ?_) | fail "isT") | ((with_reducible show CallP _ _ _ _ _); first | (refine' CallP.mk ?_; intro nw8 s8 q8 I8 k8; obtain ⟨F8, N8, S8⟩ := I8; refine' peek_c ?k1 F8 ?k3 N8 ?k5 ?kK ?hm ?hM ?kd ?ku ?_; (case k1 => assumption); (case k3 => assumption); (case k5 => assumption); (case hm => first | exact S8 _ (.head _) | exact S8 _ (List.mem_append_right _ (.head _))); (case hM => assumption); (case kK => first | exact rfl | assumption); (case kd => ktr_room); (case ku => ktr_units); intro t8 h8 tk8 c8 c8 F9 N9; exact k8 _ [] _ _ _ (show VI _ _ _ from ⟨rfl, t8, rfl⟩) Sub.no Sub.refl' ⟨F9, N9, S8⟩) | (refine' CallP.mk ?_; intro nw8 s8 q8 I8 k8; obtain ⟨F8, N8, S8⟩ := I8; refine' signed_octet_c ?k1 F8 ?k3 N8 ?k5 ?kK  ?kd ?ku ?_; (case k1 => assumption); (case k3 => assumption); (case k5 => assumption);  (case kK => first | exact rfl | assumption); (case kd => ktr_room); (case ku => ktr_units); intro t8 h8 tk8 F9 N9; exact k8 _ [] _ _ _ (show VI _ _ _ from ⟨rfl, t8, rfl⟩) Sub.no Sub.refl' ⟨F9, N9, S8⟩) | (refine' CallP.mk ?_; intro nw8 s8 q8 I8 k8; obtain ⟨F8, N8, S8⟩ := I8; refine' turns_by_index_c ?k1 F8 ?k3 N8 ?k5 ?kK  ?kd ?ku ?_; (case k1 => assumption); (case k3 => assumption); (case k5 => assumption);  (case kK => first | exact rfl | assumption); (case kd => ktr_room); (case ku => ktr_units); intro t8 h8 tk8 F9 N9; exact k8 _ [] _ _ _ (show VBo _ _ _ from ⟨rfl, default, rfl⟩) Sub.no Sub.refl' ⟨F9, N9, S8⟩) | (refine' CallP.mk ?_; intro nw8 s8 q8 I8 k8; obtain ⟨F8, N8, S8⟩ := I8; refine' is_beside_c ?k1 F8 ?k3 N8 ?k5 ?kK  ?kd ?ku ?_; (case k1 => assumption); (case k3 => assumption); (case k5 => assumption);  (case kK => first | exact rfl | assumption); (case kd => ktr_room); (case ku => ktr_units); intro t8 h8 tk8 F9 N9; exact k8 _ [] _ _ _ (show VBo _ _ _ from ⟨rfl, default, rfl⟩) Sub.no Sub.refl' ⟨F9, N9, S8⟩) | (refine' CallP.mk ?_; intro nw8 s8 q8 I8 k8; obtain ⟨F8, N8, S8⟩ := I8; refine' far_octets_c ?k1 F8 ?k3 N8 ?k5 ?kK  ?kd ?ku ?_; (case k1 => assumption); (case k3 => assumption); (case k5 => assumption);  (case kK => first | exact rfl | assumption); (case kd => ktr_room); (case ku => ktr_units); intro t8 h8 tk8 F9 N9; exact k8 _ [] _ _ _ (show VI _ _ _ from ⟨rfl, t8, rfl⟩) Sub.no Sub.refl' ⟨F9, N9, S8⟩) | (refine' CallP.mk ?_; intro nw8 s8 q8 I8 k8; obtain ⟨F8, N8, S8⟩ := I8; refine' small_names_c ?k1 F8 ?k3 N8 ?k5 ?kK  ?kd ?ku ?_; (case k1 => assumption); (case k3 => assumption); (case k5 => assumption);  (case kK => first | exact rfl | assumption); (case kd => ktr_room); (case ku => ktr_units); intro v9 led9 n9 h9 tk9 p9 l9 s9 F9 N9; exact k8 v9 led9 n9 h9 tk9 p9 l9 s9 ⟨F9, N9, S8.tr s9⟩) | fail "call") | ((first | (with_reducible show _ = true → EvP _ _ _ _) | (with_reducible show _ = false → EvP _ _ _ _) | (with_reducible show _ = true → Ex _ _ _ _) | (with_reducible show _ = false → Ex _ _ _ _)); intro hb) | (intro t1 t2 t3) | (intro t1 t2) | ((with_reducible show ∀ t : Tok, CallP _ _ _ _ _); intro t1) | (intro l9 u9; with_unfolding_all rfl) | exact plain_of (by decide +kernel) | exact trivial | ((with_reducible show IntMulOk _ _); exact IntMulOk.of_left (by decide)) | ((with_reducible show OrN _ _ _ _ _); exact .inl rfl) | (exact hpr.1) | (exact hpr.2) | (exact hyr.1) | (exact hyr.2) | (exact hzr.1) | (exact hzr.2) | omega | (first | fail "v" | fail "none") | fail "none")); intro v9 led9 news9 h9 tk9 m9 p9 l9 s9 F9 N9; (try dsimp only); k_steps)
  all_goals (
    (with_reducible rename Fr _ _ _ _ => kFF)
    (with_reducible rename News _ _ _ _ => kNN)
    rcases p9 with ⟨f9, r9, k9, b09, b19, b29, b39, t19, t29, u09, v09, u19, v19, u29, v29, u39, v39, nn9, e9, el9⟩ | ⟨f9, r9, k9, b09, t19, t29, u09, v09, nn9, e9, el9⟩ | ⟨many9, f9, r9, wd9, tw9, k9, ops9, nn9, tm9, e9, hr9, hl9, hp9, hlen9, hops9⟩
    · subst e9; subst el9; exact hDB4 _ _ _ _ _ _ _ _ _ _ _ _ _ _ _ _ _ _ _ f9 kFF (newsPre kNN l9 (fun p hp => s9 p (.tail _ hp)))
    · subst e9; subst el9; exact hDB1 _ _ _ _ _ _ _ _ _ _ f9 kFF (newsPre kNN l9 (fun p hp => s9 p (.tail _ hp)))
    · subst e9; exact hB _ _ _ _ _ _ _ _ _ _ _ hp9 hlen9 hops9 f9 kFF (newsSub kNN (Sub.cons (l9 _ hr9) (Sub.cons (l9 _ hl9) (Sub.app l9 (fun p hp => s9 p (.tail _ hp))))))
)

-- S11
theorem lines_S11_0 : True := by
  w_top off
  k_with_none
  k_with "subscriptTail" => ((k_here; (with_reducible show wpAny _ _ (subscriptTail _ _ (Value.ref _) (Value.int _ _)) _ _ _); k_dflt (refine' pickK ?k1 ?k3 ?k4 ?k5 ?_ ?k6; (case k1 => exact News.isList (by k_asm) (by k_mem)); (case k3 => l_idx); (case k4 => l_idx); (case k5 => l_idx); (case k6 => with_unfolding_all rfl); k_whole)); k_few; (dsimp only [PickAt]); k_places; (all_goals try k_fold))
  k_with "subscriptTail" => (k_here; (with_reducible show wpAny _ _ (subscriptTail _ _ (Value.ref _) (Value.int _ _)) _ _ _); k_dflt (refine' pickName ?k1 ?k2 ?k3 ?k4 ?k5 ?_ ?k6; (case k1 => exact News.isList (by k_asm) (by k_mem)); (case k2 => repeat (first | exact Names.nil | refine Names.cons (by first | assumption | exact plain_of (by decide +kernel)) ?_)); (case k3 => l_idx); (case k4 => l_idx); (case k5 => l_idx); (case k6 => with_unfolding_all rfl); k_whole); intro x9 t9 p9; (try dsimp only); (all_goals try k_fold))
  trivial
theorem addT21b {prog : Program} {w : World} {A : Around} {E : Value → Shared → Prop} {s : Shared} {h₀ : Heap} {L t b : Addr} {m : Str → Option Value} {news : CbLed} {x y z : Value} {Q : Value → Shared → Prop} (F : Fr h₀ L s.heap m) (N : News h₀ L s.heap news)
    (h1 : (t, { cls := .type "tuple", data := .seq [x, y].toArray }) ∈ news) (h2 : (b, { cls := .type "tuple", data := .seq [z].toArray }) ∈ news)
    (h : ∀ D h', Fr h₀ L h' m → News h₀ L h' ((D, ({ cls := .type "tuple", data := .seq [x, y, z].toArray } : Obj)) :: news) → (∀ p ∈ news, p.1 < D) → Q (.ref D) { s with heap := h' }) : wpAny (model prog w) A (binaryOp .Add (.ref t) (.ref b)) Q E s :=
  kde_addT F N (N.isTup h1) (N.isTup h2) (List.cons_ne_nil _ _) (List.cons_ne_nil _ _) (Nat.le_of_ble_eq_true rfl) rfl h
theorem lines_S11_1 : True := by
  k_with "binaryOp Add ref ref" => (k_here; (with_reducible show wpAny _ _ (binaryOp _ (Value.ref _) (Value.ref _)) _ _ _); k_dflt (refine' addT21b ?F ?N ?h1 ?h2 ?_; (case F => k_asm); (case N => k_asm); (case h1 => k_mem); (case h2 => k_mem)); intro D' h' F' N' l1; (try k_lt l1); (try k_sweep))
  k_with "call ref" => (k_here; k_dflt (refine' peek_c ?k1 ?k2 ?k3 ?k4 ?k5 ?kK ?hm ?hM ?kd ?ku ?_; (case k1 => k_asm); (case k2 => k_asm); (case k3 => k_asm); (case k4 => k_asm); (case k5 => k_asm); (case hm => k_mem); (case hM => assumption); (case kK => first | exact rfl | assumption); (case kd => ktr_room); (case ku => ktr_units)); intro t9 h9 tk9 c9 c9 F9 N9; (try dsimp only); (try k_sweep); (all_goals try k_fold))
  k_with "call ref" => (k_here; k_dflt (refine' told2_c ?k1 ?k2 ?k3 ?k4 ?k5 ?kK ?hm ?hM ?kd ?ku ?_; (case k1 => k_asm); (case k2 => k_asm); (case k3 => k_asm); (case k4 => k_asm); (case k5 => k_asm); (case hm => k_mem); (case hM => assumption); (case kK => first | exact rfl | assumption); (case kd => ktr_room); (case ku => ktr_units)); intro r9 l9 b9 b9 t9 t9 u9 v9 u9 v9 nn9 h9 tk9 F9 N9; (try dsimp only); (try k_sweep); (all_goals try k_fold))
  k_with "call ref" => (k_here; k_dflt (refine' told4_c ?k1 ?k2 ?k3 ?k4 ?k5 ?kK ?hm ?hM ?kd ?ku ?_; (case k1 => k_asm); (case k2 => k_asm); (case k3 => k_asm); (case k4 => k_asm); (case k5 => k_asm); (case hm => k_mem); (case hM => assumption); (case kK => first | exact rfl | assumption); (case kd => ktr_room); (case ku => ktr_units)); intro r9 l9 b9 b9 b9 b9 t9 t9 u9 v9 u9 v9 u9 v9 u9 v9 nn9 h9 tk9 F9 N9; (try dsimp only); (try k_sweep); (all_goals try k_fold))
  k_with "call ref" => (k_here; k_dflt (refine' far_octets_c ?k1 ?k2 ?k3 ?k4 ?k5 ?kK  ?kd ?ku ?_; (case k1 => k_asm); (case k2 => k_asm); (case k3 => k_asm); (case k4 => k_asm); (case k5 => k_asm);  (case kK => first | exact rfl | assumption); (case kd => ktr_room); (case ku => ktr_units)); intro t9 h9 tk9  F9 N9; (try dsimp only); (try k_sweep); (all_goals try k_fold))
  k_with "call ref" => (k_here; k_dflt (refine' place_told_c ?k1 ?k2 ?k3 ?k4 ?k5 ?kK ?hVb ?p0 ?p1 ?hix ?hbx ?kd ?ku ?_; (case k1 => k_asm); (case k2 => k_asm); (case k3 => k_asm); (case k4 => k_asm); (case k5 => k_asm); (case hVb => assumption); (case p0 => first | assumption | omega | l_fact); (case p1 => first | assumption | omega | l_fact); (case hix => first | assumption | exact .inl rfl | exact .inr (.inl rfl) | exact .inr (.inr rfl)); (case hbx => first | assumption | exact fun h => absurd rfl h | exact fun _ => rfl); (case kK => first | exact rfl | assumption); (case kd => ktr_room); (case ku => ktr_units)); intro b9 o9 h9 tk9 q9 F9 N9; (try dsimp only); (try k_sweep); (all_goals try k_fold))
  k_with "call ref" => (k_here; k_dflt (refine' bits_order_c ?k1 ?k2 ?k3 ?k4 ?k5 ?kK ?hVb ?p0 ?p1 ?hl ?ho ?hn ?hV1 ?kd ?ku ?_; (case k1 => k_asm); (case k2 => k_asm); (case k3 => k_asm); (case k4 => k_asm); (case k5 => k_asm); (case hVb => assumption); (case p0 => first | assumption | omega | l_fact); (case p1 => first | assumption | omega | l_fact); (case hl => k_mem); (case ho => repeat (first | exact OpsIn.nil | (refine OpsIn.cons (by k_mem) (by first | exact Opd.x | (apply_assumption; done) | exact Opd.s (by first | exact .inl rfl | exact .inr (.inl rfl) | exact .inr (.inr (.inl rfl)) | exact .inr (.inr (.inr rfl))) | exact Opd.n (by first | exact .inl rfl | exact .inr rfl) (by first | assumption | exact VLow.out (by assumption) _ (by omega) | exact VLow.out (by assumption) _ (by simp only [bitAnd_m3] at *; omega) | exact VIf.out (by assumption) (by first | assumption | exact far2 (by assumption) (by assumption) (by assumption) (.inl ⟨by assumption, by assumption, by assumption⟩) | exact far2 (by assumption) (by assumption) (by assumption) (.inr (.inl ⟨by assumption, by assumption, by dsimp only [fy]; omega⟩)) | exact far2 (by assumption) (by assumption) (by assumption) (.inr (.inr (.inl ⟨by assumption, .inl (by assumption)⟩))) | exact far2 (by assumption) (by assumption) (by assumption) (.inr (.inr (.inl ⟨by assumption, .inr (by assumption)⟩))) | exact far2 (by assumption) (by assumption) (by assumption) (.inr (.inr (.inr (.inl ⟨by assumption, by assumption, by assumption⟩)))) | exact far2 (by assumption) (by assumption) (by assumption) (.inr (.inr (.inr (.inr ⟨by assumption, by assumption, by assumption⟩))))))) ?_) | (refine OpsIn.mono (by assumption) (by intro p hp; repeat (first | exact hp | exact List.mem_append_right _ hp | exact List.mem_append_left _ hp | apply List.Mem.tail | apply List.mem_append_right))) | refine OpsIn.append ?_ ?_ | refine OpsIn.reverse ?_)); (case hn => first | (simp; done) | omega); (case hV1 => assumption); (case kK => first | exact rfl | assumption); (case kd => ktr_room); (case ku => ktr_units)); intro r9 wd9 tw9 l9 ops9 nn9 led9 h9 tk9 pw9 len9 q9 F9 N9; (try dsimp only); (try k_sweep); (all_goals try k_fold))
  k_with "call ref" => (k_here; k_dflt (refine' main_order_c ?k1 ?k2 ?k3 ?k4 ?k5 ?kK ?hVb ?hm ?hM ?p0 ?p1 ?hno ?hix ?hbx ?hV1 ?hV2 ?kd ?ku ?_ ?_ ?_; (case k1 => k_asm); (case k2 => k_asm); (case k3 => k_asm); (case k4 => k_asm); (case k5 => k_asm); (case hVb => assumption); (case hm => k_mem); (case hM => assumption); (case p0 => first | assumption | omega | l_fact); (case p1 => first | assumption | omega | l_fact); (case hno => first | assumption | exact hno_ix (by assumption) (by assumption) | exact hno_main (by assumption) (by assumption) (by assumption)); (case hix => first | assumption | exact .inl rfl | exact .inr (.inl rfl) | exact .inr (.inr rfl)); (case hbx => first | assumption | exact fun h => absurd rfl h | exact fun _ => rfl); (case hV1 => assumption); (case hV2 => first | assumption | exact VIf.imp (P := (([(203 : Int), 221, 237, 253].any fun x => x == _) = false ∧ _)) (by assumption) (fun h => ⟨hno_main (by assumption) (by assumption) (by assumption), h⟩) | exact VIf.imp (P := (_ ≠ (203 : Int) ∧ _)) (by assumption) (fun h => ⟨by assumption, h⟩) | exact VIf.no (far_beside (by assumption) (by assumption) (by assumption) (by assumption) (by assumption))); (case kK => first | exact rfl | assumption); (case kd => ktr_room); (case ku => ktr_units)); (intro r9 wd9 tw9 l9 ops9 nn9 led9 h9 tk9 pw9 len9 q9 F9 N9); rotate_left; (intro r9 wd9 tw9 l9 g9 gt9 gu9 nn9 h9 tk9 jw9 jf9 F9 N9); rotate_left; (intro r9 wd9 tw9 l9 f9 g9 gt9 gu9 nn9 h9 tk9 jw9 jf9 F9 N9); rotate_left; (try dsimp only); (try k_sweep); (all_goals try k_fold))
  k_with "call ref" => (k_here; k_dflt (refine' extra_order_c ?k1 ?k2 ?k3 ?k4 ?k5 ?kK ?hVb ?hm ?hM ?p0 ?p1 ?hV1 ?hV2 ?kd ?ku ?_ ?_; (case k1 => k_asm); (case k2 => k_asm); (case k3 => k_asm); (case k4 => k_asm); (case k5 => k_asm); (case hVb => assumption); (case hm => k_mem); (case hM => assumption); (case p0 => first | assumption | omega | l_fact); (case p1 => first | assumption | omega | l_fact); (case hV1 => assumption); (case hV2 => first | assumption | exact VIf.imp (P := (_ = (237 : Int) ∧ fx _ = 1 ∧ fz _ = 3)) (by assumption) (fun h => ⟨by assumption, h⟩)); (case kK => first | exact rfl | assumption); (case kd => ktr_room); (case ku => ktr_units)); (intro r9 wd9 tw9 l9 ops9 nn9 led9 h9 tk9 pw9 len9 q9 F9 N9); rotate_left; (intro h9 tk9 F9 N9); rotate_left; (try dsimp only); (try k_sweep); (all_goals try k_fold))
  k_with "call ref" => (k_here; k_dflt (refine' index_order_c ?k1 ?k2 ?k3 ?k4 ?k5 ?kK ?hm ?hM ?hix ?hV1 ?hV2 ?kd ?ku ?_ ?_ ?_; (case k1 => k_asm); (case k2 => k_asm); (case k3 => k_asm); (case k4 => k_asm); (case k5 => k_asm); (case hm => k_mem); (case hM => assumption); (case hix => first | assumption | exact .inl rfl | exact .inr (.inl rfl) | exact .inr (.inr rfl)); (case hV1 => assumption); (case hV2 => first | assumption | exact VIf.imp (P := (([(221 : Int), 253].any fun x => x == _) = true ∧ _)) (by assumption) (fun h => ⟨by assumption, h⟩)); (case kK => first | exact rfl | assumption); (case kd => ktr_room); (case ku => ktr_units)); (intro r9 l9 b9 b9 b9 b9 t9 t9 u9 v9 u9 v9 u9 v9 u9 v9 nn9 h9 tk9 f9 F9 N9); rotate_left; (intro r9 l9 b9 t9 t9 u9 v9 nn9 h9 tk9 f9 F9 N9); rotate_left; (intro r9 wd9 tw9 l9 ops9 nn9 many9 tm9 led9 h9 tk9 pw9 len9 q9 f9 F9 N9); rotate_left; (try dsimp only); (try k_sweep); (all_goals try k_fold))
  trivial
theorem decode_c {w : World} {mean : ExcName → Option Value} {mg mb : Str → Option Value} {dp un : Nat} {gd : Option (List Code)} {cn : Str} {cs : Scope} {a : Addr} {ccd : Value} {cl : List (Str × Addr)} {outer : List Env} {A₀ : Around} {base h₀ : Heap} {L : Addr} {m : Str → Option Value} {news : CbLed} {s : Shared} {Q E : Value → Shared → Prop} {ml : Addr} {vs : List Value} {kk : Nat} {ns : List Int} {V : Int → Prop} {n : Int} {tn : Tok}
    (B : Below A₀ base outer h₀) (F : Fr h₀ L s.heap m) (X : (Mine.hd.heap_39 w.params).In h₀) (N : News h₀ L s.heap news) (T : Top Mine.hd.view_39 (looseW Mine.hd.view_39 []) mean mg mb h₀) (hk : cs.kind = .function) (hVb : VB V (signedOctet (cell ns (n + 2)))) (hm : (ml, listOf vs.toArray kk) ∈ news) (hM : Mem vs ns) (hV1 : VLow V) (hVm : VIf V (([203, 221, 237, 253].any fun x => x == cell ns n) = false ∧ farOctets (cell ns n) = 2) (cell ns (n + 1) + 256 * cell ns (n + 1 + 1))) (hVe : VIf V (cell ns n = 237 ∧ fx (cell ns (n + 1)) = 1 ∧ fz (cell ns (n + 1)) = 3) (cell ns (n + 2) + 256 * cell ns (n + 2 + 1))) (hVi : VIf V (([221, 253].any fun x => x == cell ns n) = true ∧ cell ns (n + 1) ≠ 203 ∧ farOctets (cell ns (n + 1)) = 2) (cell ns (n + 2) + 256 * cell ns (n + 2 + 1))) (hd : dp + 7 < recursionLimit) (hu : un + 56 < cLine)
    (hDB1 : ∀ (r l b0 : Addr) (t1 t2 u0 v0 : Tok) (nn : Nat) (h' : Heap) (tk' : Nat), (([221, 253].any fun x => x == cell ns n) = true ∧ IdleIx (cell ns (n + 1))) → Fr h₀ L h' m → News h₀ L h' ((r, { cls := .type "tuple", data := .seq [Value.str (Str.ofString "DB") t1, Value.ref l, Value.int 1 t2].toArray }) :: (l, listOf [Value.ref b0].toArray nn) :: (b0, { cls := .type "tuple", data := .seq [Value.str (Str.ofString "n") u0, Value.int (cell ns n) v0].toArray }) :: news) → Q (.ref r) { s with heap := h', toks := tk' }) (hDB2 : ∀ (r l b0 b1 : Addr) (t1 t2 u0 v0 u1 v1 : Tok) (nn : Nat) (h' : Heap) (tk' : Nat), Told (cell ns n) (cell ns (n + 1)) 2 → Fr h₀ L h' m → News h₀ L h' ((r, { cls := .type "tuple", data := .seq [Value.str (Str.ofString "DB") t1, Value.ref l, Value.int 2 t2].toArray }) :: (l, listOf [Value.ref b0, Value.ref b1].toArray nn) :: (b1, { cls := .type "tuple", data := .seq [Value.str (Str.ofString "n") u1, Value.int (cell ns (n + 1)) v1].toArray }) :: (b0, { cls := .type "tuple", data := .seq [Value.str (Str.ofString "n") u0, Value.int (cell ns n) v0].toArray }) :: news) → Q (.ref r) { s with heap := h', toks := tk' }) (hDB4 : ∀ (r l b0 b1 b2 b3 : Addr) (t1 t2 u0 v0 u1 v1 u2 v2 u3 v3 : Tok) (nn : Nat) (h' : Heap) (tk' : Nat), Told (cell ns n) (cell ns (n + 1)) 4 → Fr h₀ L h' m → News h₀ L h' ((r, { cls := .type "tuple", data := .seq [Value.str (Str.ofString "DB") t1, Value.ref l, Value.int 4 t2].toArray }) :: (l, listOf [Value.ref b0, Value.ref b1, Value.ref b2, Value.ref b3].toArray nn) :: (b3, { cls := .type "tuple", data := .seq [Value.str (Str.ofString "n") u3, Value.int (cell ns (n + 3)) v3].toArray }) :: (b2, { cls := .type "tuple", data := .seq [Value.str (Str.ofString "n") u2, Value.int (cell ns (n + 2)) v2].toArray }) :: (b1, { cls := .type "tuple", data := .seq [Value.str (Str.ofString "n") u1, Value.int (cell ns (n + 1)) v1].toArray }) :: (b0, { cls := .type "tuple", data := .seq [Value.str (Str.ofString "n") u0, Value.int (cell ns n) v0].toArray }) :: news) → Q (.ref r) { s with heap := h', toks := tk' }) (hJ1 : ∀ (r : Addr) (wd : Str) (tw : Tok) (l  g : Addr) (gt gu : Tok) (nn : Nat) (many : Int) (tm : Tok) (h' : Heap) (tk' : Nat), (wd = Str.ofString "JR" ∨ wd = Str.ofString "DJNZ") → (fx (cell ns n) = 0 ∧ fz (cell ns n) = 0 ∧ 2 ≤ fy (cell ns n)) → Told (cell ns n) (cell ns (n + 1)) many → Fr h₀ L h' m → News h₀ L h' ((r, { cls := .type "tuple", data := .seq [Value.str wd tw, Value.ref l, Value.int many tm].toArray }) :: (l, listOf [Value.ref g].toArray nn) :: (g, { cls := .type "tuple", data := .seq [Value.str (Str.ofString "n") gt, Value.int ((n + 1 + 1 + signedOctet (cell ns (n + 1))) % 65536) gu].toArray }) :: news) → Q (.ref r) { s with heap := h', toks := tk' }) (hJ2 : ∀ (r : Addr) (wd : Str) (tw : Tok) (l f g : Addr) (gt gu : Tok) (nn : Nat) (many : Int) (tm : Tok) (h' : Heap) (tk' : Nat), (wd = Str.ofString "JR" ∨ wd = Str.ofString "DJNZ") → (fx (cell ns n) = 0 ∧ fz (cell ns n) = 0 ∧ 2 ≤ fy (cell ns n)) → Told (cell ns n) (cell ns (n + 1)) many → Fr h₀ L h' m → News h₀ L h' ((r, { cls := .type "tuple", data := .seq [Value.str wd tw, Value.ref l, Value.int many tm].toArray }) :: (l, listOf [Value.ref f, Value.ref g].toArray nn) :: (g, { cls := .type "tuple", data := .seq [Value.str (Str.ofString "n") gt, Value.int ((n + 1 + 1 + signedOctet (cell ns (n + 1))) % 65536) gu].toArray }) :: news) → Q (.ref r) { s with heap := h', toks := tk' }) (hB : ∀ (r : Addr) (wd : Str) (tw : Tok) (l : Addr) (ops : List Value) (nn : Nat) (many : Int) (tm : Tok) (led : CbLed) (h' : Heap) (tk' : Nat), Plain wd → ops.length ≤ 3 → OpsIn led V (signedOctet (cell ns (n + 2))) ops → Told (cell ns n) (cell ns (n + 1)) many → Fr h₀ L h' m → News h₀ L h' ((r, { cls := .type "tuple", data := .seq [Value.str wd tw, Value.ref l, Value.int many tm].toArray }) :: (l, listOf ops.toArray nn) :: (led ++ news)) → Q (.ref r) { s with heap := h', toks := tk' }) :
    wpAny (model PySem.Challenge.rw_nz0573_01.row.prog w) (ktrTop dp un gd cn cs L a ccd cl outer) (call (.ref 180) [Value.ref ml, Value.int n tn]) Q E s := by
  revert X; k_fill; intro X
  replace N := newsCons N hm
  have hMi := hM.are
  have hMl := hM.size
  have hzr := fz_rng (cell ns (n + 1))
  all_goals (refine wpAny_call ?_; k_dflt cell_enter; (try ((with_reducible rename Fr _ _ _ (fun y => List.lookup y _) => kF0); replace kF0 : Fr _ _ _ (fun yy => List.lookup yy [(Str.ofString "at", Value.int n tn), (Str.ofString "memory", Value.ref ml)]) := kF0)); k_steps)
  all_goals (
    first
    | (
    (with_reducible rename News _ _ _ _ => kNN)
    refine' hDB4 _ _ _ _ _ _ _ _ _ _ _ _ _ _ _ _ _ _ _ ?e0 ?e2 (newsTl kNN fun N => newsTl N fun N => newsTl N fun N => newsTl N fun N => newsTl N fun N => newsTl N fun N => newsSub N (by intro p hp; repeat (first | exact hp | exact List.mem_append_right _ hp | exact List.mem_append_left _ hp | apply List.Mem.tail | apply List.mem_append_right)))
    (case e2 => ((with_reducible rename Fr _ _ _ _ => kFF); exact kFF))
    (case e0 => first | exact told_203 (by assumption) | exact told_237a (by assumption) (by assumption) (by assumption) | exact told_237b (by assumption) (fun h => absurd h.2 (by assumption)) | exact told_237b (by assumption) (fun h => absurd h.1 (by assumption)) | exact told_ix203 (by assumption) (by assumption) | exact told_ix (by assumption) (by assumption) | exact told_main (by assumption) (by assumption) (by assumption) (by assumption) (by assumption))
    )
    | (
    (with_reducible rename News _ _ _ _ => kNN)
    refine' hDB2 _ _ _ _ _ _ _ _ _ _ _ _ _ ?e0 ?e2 (newsTl kNN fun N => newsTl N fun N => newsTl N fun N => newsTl N fun N => newsSub N (by intro p hp; repeat (first | exact hp | exact List.mem_append_right _ hp | exact List.mem_append_left _ hp | apply List.Mem.tail | apply List.mem_append_right)))
    (case e2 => ((with_reducible rename Fr _ _ _ _ => kFF); exact kFF))
    (case e0 => first | exact told_203 (by assumption) | exact told_237a (by assumption) (by assumption) (by assumption) | exact told_237b (by assumption) (fun h => absurd h.2 (by assumption)) | exact told_237b (by assumption) (fun h => absurd h.1 (by assumption)) | exact told_ix203 (by assumption) (by assumption) | exact told_ix (by assumption) (by assumption) | exact told_main (by assumption) (by assumption) (by assumption) (by assumption) (by assumption))
    )
    | (
    (with_reducible rename News _ _ _ _ => kNN)
    refine' hDB1 _ _ _ _ _ _ _ _ _ _ ?e0 ?e2 (newsTl kNN fun N => newsTl N fun N => newsTl N fun N => newsSub N (by intro p hp; repeat (first | exact hp | exact List.mem_append_right _ hp | exact List.mem_append_left _ hp | apply List.Mem.tail | apply List.mem_append_right)))
    (case e2 => ((with_reducible rename Fr _ _ _ _ => kFF); exact kFF))
    (case e0 => exact ⟨by assumption, by assumption⟩)
    )
    | (
    (with_reducible rename News _ _ _ _ => kNN)
    refine' hJ1 _ _ _ _ _ _ _ _ _ _ _ _ ?e0 ?e1 ?e8 ?e2 (news3 kNN ?e3 ?e6 ?e7 ?e4)
    (case e2 => ((with_reducible rename Fr _ _ _ _ => kFF); exact kFF))
    (case e3 => k_mem)
    (case e6 => k_mem)
    (case e7 => k_mem)
    (case e4 => exact (by intro p hp; repeat (first | exact hp | exact List.mem_append_right _ hp | exact List.mem_append_left _ hp | apply List.Mem.tail | apply List.mem_append_right)))
    (case e0 => first | assumption | exact .inl rfl | exact .inr rfl)
    (case e1 => assumption)
    (case e8 => first | exact told_203 (by assumption) | exact told_237a (by assumption) (by assumption) (by assumption) | exact told_237b (by assumption) (fun h => absurd h.2 (by assumption)) | exact told_237b (by assumption) (fun h => absurd h.1 (by assumption)) | exact told_ix203 (by assumption) (by assumption) | exact told_ix (by assumption) (by assumption) | exact told_main (by assumption) (by assumption) (by assumption) (by assumption) (by assumption))
    )
    | (
    (with_reducible rename News _ _ _ _ => kNN)
    refine' hJ2 _ _ _ _ _ _ _ _ _ _ _ _ _ ?e0 ?e1 ?e8 ?e2 (news3 kNN ?e3 ?e6 ?e7 ?e4)
    (case e2 => ((with_reducible rename Fr _ _ _ _ => kFF); exact kFF))
    (case e3 => k_mem)
    (case e6 => k_mem)
    (case e7 => k_mem)
    (case e4 => exact (by intro p hp; repeat (first | exact hp | exact List.mem_append_right _ hp | exact List.mem_append_left _ hp | apply List.Mem.tail | apply List.mem_append_right)))
    (case e0 => first | assumption | exact .inl rfl | exact .inr rfl)
    (case e1 => assumption)
    (case e8 => first | exact told_203 (by assumption) | exact told_237a (by assumption) (by assumption) (by assumption) | exact told_237b (by assumption) (fun h => absurd h.2 (by assumption)) | exact told_237b (by assumption) (fun h => absurd h.1 (by assumption)) | exact told_ix203 (by assumption) (by assumption) | exact told_ix (by assumption) (by assumption) | exact told_main (by assumption) (by assumption) (by assumption) (by assumption) (by assumption))
    )
    | (
    (with_reducible rename News _ _ _ _ => kNN)
    refine' hB _ _ _ _ _ _ _ _ _ _ _ ?e0 ?e1 ?e5 ?e7 ?e2 (ordEnd kNN ?e3 ?e6 ?e4)
    (case e2 => ((with_reducible rename Fr _ _ _ _ => kFF); exact kFF))
    (case e3 => k_mem)
    (case e6 => k_mem)
    (case e4 => exact (by intro p hp; repeat (first | exact hp | exact List.mem_append_right _ hp | exact List.mem_append_left _ hp | apply List.Mem.tail | apply List.mem_append_right)))
    (case e0 => first | assumption | exact plain_of (by decide +kernel))
    (case e1 => first | (simp; done) | (simp; omega) | omega)
    (case e5 => repeat (first | exact OpsIn.nil | (refine OpsIn.cons (by k_mem) (by first | exact Opd.x | (apply_assumption; done) | exact Opd.s (by first | exact .inl rfl | exact .inr (.inl rfl) | exact .inr (.inr (.inl rfl)) | exact .inr (.inr (.inr rfl))) | exact Opd.n (by first | exact .inl rfl | exact .inr rfl) (by first | assumption | exact VLow.out (by assumption) _ (by omega) | exact VLow.out (by assumption) _ (by simp only [bitAnd_m3] at *; omega) | exact VIf.out (by assumption) (by first | assumption | exact far2 (by assumption) (by assumption) (by assumption) (.inl ⟨by assumption, by assumption, by assumption⟩) | exact far2 (by assumption) (by assumption) (by assumption) (.inr (.inl ⟨by assumption, by assumption, by dsimp only [fy]; omega⟩)) | exact far2 (by assumption) (by assumption) (by assumption) (.inr (.inr (.inl ⟨by assumption, .inl (by assumption)⟩))) | exact far2 (by assumption) (by assumption) (by assumption) (.inr (.inr (.inl ⟨by assumption, .inr (by assumption)⟩))) | exact far2 (by assumption) (by assumption) (by assumption) (.inr (.inr (.inr (.inl ⟨by assumption, by assumption, by assumption⟩)))) | exact far2 (by assumption) (by assumption) (by assumption) (.inr (.inr (.inr (.inr ⟨by assumption, by assumption, by assumption⟩))))))) ?_) | (refine OpsIn.mono (by assumption) (by intro p hp; repeat (first | exact hp | exact List.mem_append_right _ hp | exact List.mem_append_left _ hp | apply List.Mem.tail | apply List.mem_append_right))) | refine OpsIn.append ?_ ?_ | refine OpsIn.reverse ?_))
    (case e7 => first | exact told_203 (by assumption) | exact told_237a (by assumption) (by assumption) (by assumption) | exact told_237b (by assumption) (fun h => absurd h.2 (by assumption)) | exact told_237b (by assumption) (fun h => absurd h.1 (by assumption)) | exact told_ix203 (by assumption) (by assumption) | exact told_ix (by assumption) (by assumption) | exact told_main (by assumption) (by assumption) (by assumption) (by assumption) (by assumption))
    )
)

-- W2
section
variable {prog : Program} {w : World} {A : Around} {E : Value → Shared → Prop} {s : Shared} {env : Env} {h₀ : Heap} {x : Str} {px pos : Pos} {iter : PySem.Expr} {body : List Stmt} {Q : Flow → Shared → Prop} {c : Addr}
/-- the end of a turn of a loop whose target is a cell -/
def TurnEnd (h₀ : Heap) (L I : Addr) (oI : Obj) (c : Addr) (adr : List Addr) (J : List (Addr × Obj) → Prop) (s s' : Shared) : Prop :=
  ∃ (h' : Heap) (tk : Nat) (m' : Str → Option Value) (o' : Obj) (v' : Option Value) (rest : List (Addr × Obj)), s' = { s with heap := h', toks := tk } ∧ Fr h₀ L h' m' ∧ News h₀ L h' ((I, oI) :: (c, o') :: rest) ∧ o'.data = .cell v' ∧ rest.map (·.1) = adr ∧ J rest
def TurnPost (h₀ : Heap) (L I : Addr) (oI : Obj) (c : Addr) (adr : List Addr) (J : List (Addr × Obj) → Prop) (s : Shared) (Q : Flow → Shared → Prop) : Flow → Shared → Prop
  | .next, s' => TurnEnd h₀ L I oI c adr J s s'
  | .cont, s' => TurnEnd h₀ L I oI c adr J s s'
  | .brk, s' => Q .next s'
  | .ret v, s' => Q (.ret v) s'
def LoopAtC (prog : Program) (w : World) (A : Around) (h₀ : Heap) (env : Env) (c : Addr) (body : List Stmt) (Q : Flow → Shared → Prop) (E : Value → Shared → Prop) (it : Value) (s : Shared) : Prop :=
  ∃ (I : Addr) (a : Int) (n : Nat) (adr : List Addr) (J : List (Addr × Obj) → Prop) (m : Str → Option Value) (o : Obj) (v : Option Value) (rest : List (Addr × Obj)),
    it = .ref I ∧ A.handled = none ∧ IsRangeIter s.heap I a (n : Int) 1 ∧ h₀.get? I = none ∧ I ≠ env.locals ∧ I ≠ c ∧ c ∉ adr ∧ I ∉ adr ∧ Fr h₀ env.locals s.heap m ∧ News h₀ env.locals s.heap ((c, o) :: rest) ∧ o.data = .cell v ∧ rest.map (·.1) = adr ∧ J rest ∧
    (∀ (i : Nat) (t : Tok) m' o' rest' oI h tk, i < n → J rest' → rest'.map (·.1) = adr → o'.data = .cell (some (.int (a + (i : Int)) t)) → Fr h₀ env.locals h m' → News h₀ env.locals h ((I, oI) :: (c, o') :: rest') →
      wpAny (model prog w) A (execs body env) (TurnPost h₀ env.locals I oI c adr J { s with heap := h, toks := tk } Q) E { s with heap := h, toks := tk }) ∧
    (∀ m' o' v' rest' h tk, J rest' → o'.data = .cell v' → Fr h₀ env.locals h m' → News h₀ env.locals h ((c, o') :: rest') → Q .next { s with heap := h, toks := tk })
theorem codeAny_forC {R : Result → Shared → Prop} {I : Addr} {a : Int} {n : Nat} {adr : List Addr} {J : List (Addr × Obj) → Prop} {m : Str → Option Value} {o : Obj} {v : Option Value} {rest : List (Addr × Obj)}
    (hk : env.scope.kind = .function) (hx : env.kindOf x = some .cell) (hc : env.cells.lookup x = some c) (hh : A.handled = none) (hI : IsRangeIter s.heap I a (n : Int) 1) (hI0 : h₀.get? I = none) (hIL : I ≠ env.locals) (hIc : I ≠ c) (hca : c ∉ adr) (hIa : I ∉ adr)
    (F : Fr h₀ env.locals s.heap m) (N : News h₀ env.locals s.heap ((c, o) :: rest)) (ho : o.data = .cell v) (hr : rest.map (·.1) = adr) (hj : J rest)
    (turn : ∀ (i : Nat) (t : Tok) m' o' rest' oI h tk, i < n → J rest' → rest'.map (·.1) = adr → o'.data = .cell (some (.int (a + (i : Int)) t)) → Fr h₀ env.locals h m' → News h₀ env.locals h ((I, oI) :: (c, o') :: rest') →
      wpAny (model prog w) A (execs body env) (TurnPost h₀ env.locals I oI c adr J { s with heap := h, toks := tk } fun f s' => R (.ok f) s') (notedBy (model prog w) A env fun e s' => R (.error e) s') { s with heap := h, toks := tk })
    (done : ∀ m' o' v' rest' h tk, J rest' → o'.data = .cell v' → Fr h₀ env.locals h m' → News h₀ env.locals h ((c, o') :: rest') → R (.ok .next) { s with heap := h, toks := tk }) :
    codeAny (model prog w) A (.forLoop (.Name x px) (.ref I) body [] env) R s := by
  have W : Walks prog w A I [I] [I] n (fun i v => i < n ∧ ∃ t, v = .int (a + i * 1) t)
      (fun i h => IsRangeIter h I (a + (i : Nat) * 1) ((n : Int) - (i : Nat)) 1) := (Walks.range hh I a 1 n).bound
  refine codeAny_forLoop
    (fun k s' => ∃ h' tk m' o' v' rest' i, s' = { s with heap := h', toks := tk } ∧ IsRangeIter h' I (a + (i : Nat) * 1) ((n : Int) - (i : Nat)) 1 ∧ Fr h₀ env.locals h' m' ∧ News h₀ env.locals h' ((c, o') :: rest') ∧ o'.data = .cell v' ∧ rest'.map (·.1) = adr ∧ J rest' ∧ i ≤ n ∧ k = n + 1 - i) ?_ (n + 1)
    ⟨s.heap, s.toks, m, o, v, rest, 0, rfl, by simpa using hI, F, N, ho, hr, hj, Nat.zero_le _, rfl⟩
  rintro k s' ⟨h', tk, m', o', v', rest', i, rfl, hst', F', N', ho', hr', hj', hi, rfl⟩
  have off : ∀ p ∈ (c, o') :: rest', p.1 ≠ I := fun p hp => by
    rcases List.mem_cons.mp hp with rfl | hp
    · exact fun e => hIc e.symm
    · exact fun e => hIa (hr' ▸ e ▸ List.mem_map_of_mem hp)
  have next : ∀ h₁ : Heap, (∀ b o, b ∉ [I] → h'.get? b = some o → h₁.get? b = some o) → Fr h₀ env.locals h₁ m' ∧ News h₀ env.locals h₁ ((c, o') :: rest') := fun h₁ hk₁ =>
    ⟨⟨F'.ns.at' fun o e => hk₁ _ o (by simpa using Ne.symm hIL) e, fun b o e => hk₁ b o (fun hb => by rw [List.mem_singleton.mp hb, hI0] at e; cases e) (F'.keep b o e), F'.above⟩,
     fun p hp => ⟨hk₁ _ _ (by simpa using off p hp) (N' p hp).1, (N' p hp).2⟩⟩
  by_cases hlt : i < n
  · refine W.item i _ _ _ hlt hst' fun v₁ h₁ tk₁ hP hst₁ hk₁ => ?_
    obtain ⟨_, t, rfl⟩ := hP
    obtain ⟨F₁, N₁⟩ := next h₁ hk₁
    obtain ⟨oI, hoI⟩ : ∃ o, h₁.get? I = some o := ⟨_, hst₁⟩
    have hcm := N₁ (c, o') (.head _)
    refine wpAny_assign_Name (wpAny_storeName_cell hk hx hc ⟨o', hcm.1, ho'⟩ fun h₂ hv hs => ?_)
    obtain ⟨o₂, ho₂, hd₂⟩ := hv
    have F₂ : Fr h₀ env.locals h₂ m' := ⟨F₁.ns.sameBut hs (Ne.symm hcm.2.1), fun b ob e => (hs.2 b (fun q => by rw [q, hcm.2.2] at e; cases e)).trans (F₁.keep b ob e), F₁.above⟩
    have hoI₂ : h₂.get? I = some oI := (hs.2 I hIc).trans hoI
    have N₂ : News h₀ env.locals h₂ ((I, oI) :: (c, o₂) :: rest') := fun p hp => by
      rcases List.mem_cons.mp hp with rfl | hp
      · exact ⟨hoI₂, hIL, hI0⟩
      rcases List.mem_cons.mp hp with rfl | hp
      · exact ⟨ho₂, hcm.2⟩
      · have := N₁ p (List.mem_cons_of_mem _ hp)
        exact ⟨(hs.2 p.1 fun q => hca (hr' ▸ q ▸ List.mem_map_of_mem hp)).trans this.1, this.2⟩
    have hd₃ : o₂.data = .cell (some (.int (a + (i : Int)) t)) := by rw [hd₂]; simp
    refine wpAny_mono (turn i t m' o₂ rest' oI h₂ tk₁ hlt hj' hr' hd₃ F₂ N₂) (fun f s₃ h₃ => ?_) fun _ _ e => e
    have fin : TurnEnd h₀ env.locals I oI c adr J { s with heap := h₂, toks := tk₁ } s₃ → ∃ m, m < n + 1 - i ∧ ∃ h' tk m' o' v' rest' i, s₃ = { s with heap := h', toks := tk } ∧ IsRangeIter h' I (a + (i : Nat) * 1) ((n : Int) - (i : Nat)) 1 ∧ Fr h₀ env.locals h' m' ∧ News h₀ env.locals h' ((c, o') :: rest') ∧ o'.data = .cell v' ∧ rest'.map (·.1) = adr ∧ J rest' ∧ i ≤ n ∧ m = n + 1 - i := by
      rintro ⟨h₃', tk₃, m₃, o₃, v₃, rest₃, rfl, F₃, N₃, ho₃, hr₃, hj₃⟩
      refine ⟨n + 1 - (i + 1), by omega, h₃', tk₃, m₃, o₃, v₃, rest₃, i + 1, rfl, ?_, F₃, fun p hp => N₃ p (List.mem_cons_of_mem _ hp), ho₃, hr₃, hj₃, hlt, rfl⟩
      refine W.frame _ _ _ hst₁ fun b hb o e => ?_
      rw [List.mem_singleton.mp hb] at e ⊢
      rw [hoI] at e
      cases e
      exact (N₃ _ (.head _)).1
    cases f with
    | ret v => exact h₃
    | brk => exact h₃
    | cont => exact fin h₃
    | next => exact fin h₃
  · have hin : i = n := by omega
    subst hin
    refine W.done _ _ _ hst' fun h₁ tk₁ hk₁ => wpAny_execs_nil ?_
    obtain ⟨F₁, N₁⟩ := next h₁ hk₁
    exact done m' o' v' rest' h₁ tk₁ hj' ho' F₁ N₁
theorem For_cell (h₀ : Heap) (hk : env.scope.kind = .function) (hx : env.kindOf x = some .cell) (hc : env.cells.lookup x = some c)
    (h : wpAny (model prog w) A (eval iter env) (fun xv s₁ => wpAny (model prog w) A (pyIter xv) (fun it s₂ => LoopAtC prog w A h₀ env c body Q E it s₂) E s₁) E s)
    (hs : ∀ x, foldedSetIterable iter env x = pure x := by intro _; rfl)
    (hE : PassesOwn (model prog w) A env E := by passes_own) :
    wpAny (model prog w) A (exec (.For (.Name x px) iter body [] pos) env) Q E s := by
  refine wpAny_For (wpAny_mono h (fun xv s₁ h₁ => wpAny_mono h₁ (fun it s₂ h₂ => ?_) fun _ _ e => e) fun _ _ e => e) hs
  obtain ⟨I, a, n, adr, J, m, o, v, rest, rfl, hh, hI, hI0, hIL, hIc, hca, hIa, F, N, ho, hr, hj, turn, done⟩ := h₂
  exact codeAny_forC (R := fun r s' => match r with | .ok f => Q f s' | .error e => cameBackBy (model prog w) A env E e s') hk hx hc hh hI hI0 hIL hIc hca hIa F N ho hr hj (by intros; exact wpAny_mono (wpAny_passesOwn hE (by apply turn <;> assumption)) (fun f s' p => by cases f <;> exact p) fun _ _ e => e) done
theorem forC_range {r : Addr} {a₀ b₀ : Int} {t₀ u₀ v₀ : Tok} {n : Nat} {m : Str → Option Value} {o : Obj} {v : Option Value} {rest news : List (Addr × Obj)} (J : List (Addr × Obj) → Prop)
    (hh : A.handled = none) (hr : IsRange s.heap r a₀ b₀ 1 t₀ u₀ v₀) (hsmall : Builtin.Range.small a₀ b₀ 1 = true) (hsz : Builtin.Range.rangeSize a₀ b₀ 1 = (n : Int)) (F : Fr h₀ env.locals s.heap m) (N : News h₀ env.locals s.heap news) (hn : ∀ p ∈ (c, o) :: rest, p ∈ news) (hcr : c ∉ rest.map (·.1)) (ho : o.data = .cell v) (hj : J rest)
    (turn : ∀ (i : Nat) (t : Tok) m' o' rest' I oI h tk, (∀ p ∈ (c, o) :: rest, I ≠ p.1) → i < n → J rest' → rest'.map (·.1) = rest.map (·.1) → o'.data = .cell (some (.int (a₀ + (i : Int)) t)) → Fr h₀ env.locals h m' → News h₀ env.locals h ((I, oI) :: (c, o') :: rest') →
      wpAny (model prog w) A (execs body env) (TurnPost h₀ env.locals I oI c (rest.map (·.1)) J { s with heap := h, toks := tk } Q) E { s with heap := h, toks := tk })
    (done : ∀ m' o' v' rest' h tk, J rest' → o'.data = .cell v' → Fr h₀ env.locals h m' → News h₀ env.locals h ((c, o') :: rest') → Q .next { s with heap := h, toks := tk }) :
    wpAny (model prog w) A (pyIter (.ref r)) (fun it s₂ => LoopAtC prog w A h₀ env c body Q E it s₂) E s := by
  refine wpAny_pyIter_range hr hsmall ?_
  have lt : ∀ p ∈ (c, o) :: rest, s.heap.objs.size ≠ p.1 := fun p hp e => absurd (Heap.lt_size (N p (hn p hp)).1) (e ▸ Nat.lt_irrefl _)
  refine ⟨_, a₀, n, rest.map (·.1), J, m, o, v, rest, rfl, hh, by rw [hsz]; exact Heap.get?_push_size _ rfl, next_is_new F, fun e => absurd F.ns.lt (e ▸ Nat.lt_irrefl _), lt _ (.head _), hcr, fun hm => ?_, F.push _, (fun p hp => ⟨Heap.get?_push_of_some _ (N p (hn p hp)).1, (N p (hn p hp)).2⟩), ho, rfl, hj, ?_, ?_⟩
  · obtain ⟨q, hq, e⟩ := List.mem_map.mp hm
    exact lt q (List.mem_cons_of_mem _ hq) e.symm
  · intro i t m' o' rest' oI h tk hi hJ hr' ho' F' N'
    exact turn i t m' o' rest' _ oI h tk lt hi hJ hr' ho' F' N'
  · intro m' o' v' rest' h tk hJ ho' F' N'
    exact done m' o' v' rest' h tk hJ ho' F' N'
end

-- W3
/-- the box of the draws, as its object says it -/
abbrev IsBox (w : World) (od : Obj) (cla : Addr) (c : Int) (tc : Tok) (S : Int) (tS : Tok) : Prop :=
  PySem.Obj.IsDictOf (PySem.strKind PySem.Challenge.rw_nz0573_01.row.prog w) od [(Str.ofString "cells", Value.ref cla), (Str.ofString "count", Value.int c tc), (Str.ofString "sum", Value.int S tS)]
section
variable {w : World} {A : Around} {E : Value → Shared → Prop} {s : Shared} {env : Env} {h₀ : Heap} {x : Str} {body : List Stmt} {Q : Flow → Shared → Prop}
structure Turn1 (w : World) (h₀ : Heap) (L : Addr) (D d cla : Addr) (S c : Int) (tS : Tok) (kept : CbLed) (oct x : Str) (m₀ : Str → Option Value) (s s' : Shared) : Prop where
  intro ::
  out : ∃ h' tk m' od' c' tc' vs' ns' kk', s' = { s with heap := h', toks := tk } ∧ Fr h₀ L h' m' ∧ News h₀ L h' ((D, listOf (List.toArray vs') kk') :: (d, od') :: kept) ∧ Mem vs' ns' ∧ IsBox w od' cla c' tc' S tS ∧ 0 ≤ c' ∧ c' ≤ c + 2 ∧ ∀ z, z ≠ x → z ≠ oct → m' z = m₀ z
def Post1 (w : World) (h₀ : Heap) (L : Addr) (D d cla : Addr) (S c : Int) (tS : Tok) (kept : CbLed) (oct x : Str) (m₀ : Str → Option Value) (s : Shared) (Q : Flow → Shared → Prop) : Flow → Shared → Prop
  | .next, s' => Turn1 w h₀ L D d cla S c tS kept oct x m₀ s s'
  | .cont, s' => Turn1 w h₀ L D d cla S c tS kept oct x m₀ s s'
  | .brk, s' => Q .next s'
  | .ret v, s' => Q (.ret v) s'
structure S1 where
  od : Obj
  c : Int
  tc : Tok
  vs : List Value
  ns : List Int
  kk : Nat
theorem loop1 {r D d cla : Addr} {t₀ u₀ v₀ : Tok} {m₀ : Str → Option Value} {news cells : CbLed} {vs : List Value} {ns : List Int} {kk : Nat} {od : Obj} {c S : Int} {tc tS : Tok} (oct : Str)
    (hh : A.handled = none) (hr : IsRange s.heap r 0 8 1 t₀ u₀ v₀) (F : Fr h₀ env.locals s.heap m₀) (N : News h₀ env.locals s.heap news)
    (hd : (d, od) ∈ news) (hod : IsBox w od cla c tc S tS) (hD : (D, listOf vs.toArray kk) ∈ news) (hM : Mem vs ns) (hc : ∀ p ∈ cells, p ∈ news) (h0 : 0 ≤ c) (h1 : c ≤ 2)
    (turn : ∀ od' c' tc' vs' ns' kk' k t (u : Option Value) h tk own, Mem vs' ns' → IsBox w od' cla c' tc' S tS → 0 ≤ c' → c' ≤ 100 → 0 ≤ k → k < 8 → (∀ p ∈ own, p.1 ≠ D) → (∀ p ∈ own, p.1 ≠ d) →
      Fr h₀ env.locals h (fun y => if y = x then some (.int k t) else if y = oct then u else m₀ y) → News h₀ env.locals h ((D, listOf vs'.toArray kk') :: (d, od') :: (cells ++ own)) →
      wpAny (model PySem.Challenge.rw_nz0573_01.row.prog w) A (execs body env) (Post1 w h₀ env.locals D d cla S c' tS (cells ++ own) oct x m₀ { s with heap := h, toks := tk } Q) E { s with heap := h, toks := tk })
    (done : ∀ vs' ns' kk' (u v : Option Value) h tk, Mem vs' ns' → Fr h₀ env.locals h (fun y => if y = x then u else if y = oct then v else m₀ y) → News h₀ env.locals h ((D, listOf vs'.toArray kk') :: cells) → Q .next { s with heap := h, toks := tk }) :
    wpAny (model PySem.Challenge.rw_nz0573_01.row.prog w) A (pyIter (.ref r)) (fun it s₂ => LoopAtV PySem.Challenge.rw_nz0573_01.row.prog w A h₀ env x body Q E it s₂) E s := by
  have fr : ∀ {h : Heap} {u : Str → Option Value} {v : Option Value}, Fr h₀ env.locals h (fun y => if y = x then v else kstB (fun z => if [oct].contains z then u z else m₀ z) [] y) → Fr h₀ env.locals h (fun y => if y = x then v else if y = oct then u oct else m₀ y) := by
    intro h u v F
    have e : (fun y => if y = x then v else kstB (fun z => if [oct].contains z then u z else m₀ z) [] y) = fun y => if y = x then v else if y = oct then u oct else m₀ y := by
      funext y
      by_cases hy : y = x
      · simp [hy]
      · simp only [if_neg hy, kstB, List.contains_cons, List.contains_nil, Bool.or_false, beq_iff_eq]
        by_cases ho : y = oct
        · simp [ho]
        · simp [ho]
    rwa [e] at F
  refine kst_range (σ := S1) (fun c => (D, listOf c.vs.toArray c.kk) :: (d, c.od) :: cells) (fun _ => []) (fun c => Mem c.vs c.ns ∧ IsBox w c.od cla c.c c.tc S tS) [oct] (fun pre e => 0 ≤ e.c ∧ e.c ≤ c + 2 * (pre.length : Int)) ⟨od, c, tc, vs, ns, kk⟩
    hh hr (by decide) (n := 8) (by decide) F (fun p hp => ?_) ⟨hM, hod⟩ (fun p hp => nomatch hp) ⟨h0, by simp⟩ ?_ ?_
  · rcases List.mem_cons.mp hp with rfl | hp
    · exact N _ hD
    rcases List.mem_cons.mp hp with rfl | hp
    · exact N _ hd
    · exact N _ (hc _ hp)
  · rintro ⟨od', c', tc', vs', ns', kk'⟩ pre k t u h tk own hk hlt hoff ⟨hM', hb'⟩ ⟨hc0, hc1⟩ F' N'
    have hx : ∀ (e : Addr), (e ∈ ((fun c : S1 => (D, listOf c.vs.toArray c.kk) :: (d, c.od) :: cells) ⟨od, c, tc, vs, ns, kk⟩).map (·.1)) → ∀ p ∈ own, p.1 ≠ e := fun e he p hp => hoff p hp e he
    have N2 : News h₀ env.locals h ((D, listOf vs'.toArray kk') :: (d, od') :: (cells ++ own)) := fun p hp => N' p (by simpa [or_assoc] using hp)
    refine wpAny_mono (turn od' c' tc' vs' ns' kk' k t (u oct) h tk own hM' hb' hc0 (by simp only at hc1; omega) (by omega) (by omega) (hx D (.head _)) (hx d (.tail _ (.head _))) (fr F') N2) (fun f s₂ p => ?_) fun _ _ e => e
    have fin : Turn1 w h₀ env.locals D d cla S c' tS (cells ++ own) oct x m₀ { s with heap := h, toks := tk } s₂ → InvEndN h₀ env.locals (KstS (σ := S1) (fun c => (D, listOf c.vs.toArray c.kk) :: (d, c.od) :: cells) (fun _ => []) (fun c => Mem c.vs c.ns ∧ IsBox w c.od cla c.c c.tc S tS) x [oct] m₀ (fun pre e => 0 ≤ e.c ∧ e.c ≤ c + 2 * (pre.length : Int)) (pre ++ [k])) own (((fun c : S1 => (D, listOf c.vs.toArray c.kk) :: (d, c.od) :: cells) ⟨od, c, tc, vs, ns, kk⟩).map (·.1)) { s with heap := h, toks := tk } s₂ := by
      rintro ⟨h', tk', m', od'', c'', tc'', vs'', ns'', kk'', rfl, F'', N'', hM'', hb'', hc0', hc1', hm⟩
      refine kst_end (σ := S1) ⟨od'', c'', tc'', vs'', ns'', kk''⟩ F'' N'' (fun p hp => ?_) (fun p hp => ?_) rfl ⟨hM'', hb''⟩ (fun p hp => nomatch hp) (fun z h1 _ h2 => hm z h1 ?_) ⟨hc0', ?_⟩
      · rcases List.mem_cons.mp hp with rfl | hp
        · exact .head _
        rcases List.mem_cons.mp hp with rfl | hp
        · exact .tail _ (.head _)
        · exact .tail _ (.tail _ (List.mem_append_left _ hp))
      · exact .tail _ (.tail _ (List.mem_append_right _ hp))
      · intro e
        subst e
        simp at h2
      · simp only [List.length_append, List.length_cons, List.length_nil] at *
        omega
    cases f with
    | ret v => exact p
    | brk => exact p
    | cont => exact fin p
    | next => exact fin p
  · rintro ⟨od', c', tc', vs', ns', kk'⟩ u h tk ⟨hM', hb'⟩ _ F' N'
    have e : (fun y => if y = x then u y else kstB (fun z => if [oct].contains z then u z else m₀ z) [] y) = fun y => if y = x then u x else kstB (fun z => if [oct].contains z then u z else m₀ z) [] y := by
      funext y
      by_cases hy : y = x
      · simp [hy]
      · simp only [if_neg hy]
    exact done vs' ns' kk' _ _ h tk hM' (fr (e ▸ F')) fun p hp => N' p (by
      rcases List.mem_cons.mp hp with rfl | hp
      · exact .head _
      · exact .tail _ (.tail _ hp))
theorem next1 {L D d cla : Addr} {S c c' : Int} {tS tc' : Tok} {kept news : CbLed} {oct : Str} {m₀ m' : Str → Option Value} {h' : Heap} {tk : Nat} {od' : Obj} {vs' : List Value} {ns' : List Int} {kk' : Nat}
    (F : Fr h₀ L h' m') (N : News h₀ L h' news) (hd : (d, od') ∈ news) (hod : IsBox w od' cla c' tc' S tS) (hD : (D, listOf vs'.toArray kk') ∈ news) (hM : Mem vs' ns') (hc : ∀ p ∈ kept, p ∈ news) (h0 : 0 ≤ c') (h1 : c' ≤ c + 2) (hm : ∀ z, z ≠ x → z ≠ oct → m' z = m₀ z) :
    Post1 w h₀ L D d cla S c tS kept oct x m₀ s Q .next { s with heap := h', toks := tk } :=
  ⟨h', tk, m', od', c', tc', vs', ns', kk', rfl, F, (fun p hp => by
    rcases List.mem_cons.mp hp with rfl | hp
    · exact N _ hD
    rcases List.mem_cons.mp hp with rfl | hp
    · exact N _ hd
    · exact N _ (hc _ hp)), hM, hod, h0, h1, hm⟩
theorem mem0 {vs : List Value} (h : IntsAre vs (List.replicate (Int.toNat 64) [(0 : Int)]).flatten) : Mem vs (List.replicate (Int.toNat 64) [(0 : Int)]).flatten := ⟨h, by decide, by decide⟩
theorem loop1L {r D d cla : Addr} {t₀ u₀ v₀ : Tok} {m₀ : Str → Option Value} {p1 p2 p3 p4 q3 q2 q1 : Addr × Obj} {vs ws : List Value} {ns : List Int} {kk kc : Nat} {od : Obj} {c S : Int} {tc tS : Tok} (oct : Str)
    (hh : A.handled = none) (hr : IsRange s.heap r 0 8 1 t₀ u₀ v₀) (F : Fr h₀ env.locals s.heap m₀) (N : News h₀ env.locals s.heap [p1, (D, listOf vs.toArray kk), p2, p3, p4, (cla, listOf ws.toArray kc), (d, od), q3, q2, q1])
    (hod : IsBox w od cla c tc S tS) (hM : Mem vs ns) (h0 : 0 ≤ c) (h1 : c ≤ 2)
    (turn : ∀ od' c' tc' vs' ns' kk' k t (u : Option Value) h tk own, Mem vs' ns' → IsBox w od' cla c' tc' S tS → 0 ≤ c' → c' ≤ 100 → 0 ≤ k → k < 8 → (∀ p ∈ own, p.1 ≠ D) → (∀ p ∈ own, p.1 ≠ d) →
      Fr h₀ env.locals h (fun y => if y = x then some (.int k t) else if y = oct then u else m₀ y) → News h₀ env.locals h ((D, listOf vs'.toArray kk') :: (d, od') :: (cla, listOf ws.toArray kc) :: q3 :: q2 :: q1 :: own) →
      wpAny (model PySem.Challenge.rw_nz0573_01.row.prog w) A (execs body env) (Post1 w h₀ env.locals D d cla S c' tS ((cla, listOf ws.toArray kc) :: q3 :: q2 :: q1 :: own) oct x m₀ { s with heap := h, toks := tk } Q) E { s with heap := h, toks := tk })
    (done : ∀ vs' ns' kk' (u v : Option Value) h tk, Mem vs' ns' → Fr h₀ env.locals h (fun y => if y = x then u else if y = oct then v else m₀ y) → News h₀ env.locals h [(D, listOf vs'.toArray kk'), q3, q2, q1] → Q .next { s with heap := h, toks := tk }) :
    wpAny (model PySem.Challenge.rw_nz0573_01.row.prog w) A (pyIter (.ref r)) (fun it s₂ => LoopAtV PySem.Challenge.rw_nz0573_01.row.prog w A h₀ env x body Q E it s₂) E s :=
  loop1 (cells := [(cla, listOf ws.toArray kc), q3, q2, q1]) (kk := kk) oct hh hr F N (by simp) hod (by simp) hM (by intro p hp; simp only [List.mem_cons, List.not_mem_nil, or_false] at hp ⊢; rcases hp with h | h | h | h <;> simp [h]) h0 h1
    (fun od' c' tc' vs' ns' kk' k t u h tk own a b c1 d1 e f g i F' N' => turn od' c' tc' vs' ns' kk' k t u h tk own a b c1 d1 e f g i F' N')
    (fun vs' ns' kk' u v h tk hM F' N' => done vs' ns' kk' u v h tk hM F' (newsSub N' (by intro p hp; simp only [List.mem_cons, List.not_mem_nil, or_false] at hp ⊢; rcases hp with h | h | h | h <;> simp [h])))
end

-- D1
local macro_rules | `(tactic| k_all) => `(tactic| assumption)
theorem lines_D1_0 : True := by
  w_top off
  k_with_none
  trivial
theorem modR0 {x : Int} (y : Int) (h : 0 < y) : 0 ≤ x.fmod y := by rw [Int.fmod_eq_emod_of_nonneg _ (Int.le_of_lt h)]; exact Int.emod_nonneg _ (Int.ne_of_gt h)
theorem modR1 {x : Int} (y : Int) (h : 0 < y) : x.fmod y < y := by rw [Int.fmod_eq_emod_of_nonneg _ (Int.le_of_lt h)]; exact Int.emod_lt_of_pos _ h
theorem draw_c {w : World} {mean : ExcName → Option Value} {mg mb : Str → Option Value} {dp un : Nat} {gd : Option (List Code)} {cn : Str} {cs : Scope} {a : Addr} {ccd : Value} {cl : List (Str × Addr)} {outer : List Env} {A₀ : Around} {base h₀ : Heap} {L : Addr} {m : Str → Option Value} {news : CbLed} {s : Shared} {Q E : Value → Shared → Prop} {d cla : Addr} {od : Obj} {g : Obj → CbLed} {vs : List Value} {ns : List Int} {kk : Nat} {c S many : Int} {tc tS tm : Tok}
    (B : Below A₀ base outer h₀) (F : Fr h₀ L s.heap m) (X : (Mine.hd.heap_39 w.params).In h₀) (N : News h₀ L s.heap news) (T : Top Mine.hd.view_39 (looseW Mine.hd.view_39 []) mean mg mb h₀) (hk : cs.kind = .function) (hU : UpdF d od news g) (hdc : (d == sysModules) = false) (hod : PySem.Obj.IsDictOf (PySem.strKind PySem.Challenge.rw_nz0573_01.row.prog w) od [(Str.ofString "cells", Value.ref cla), (Str.ofString "count", Value.int (c) tc), (Str.ofString "sum", Value.int S tS)]) (hcl : (cla, listOf vs.toArray kk) ∈ news) (hne : cla ≠ d) (hI : IntsAre vs ns) (hn : ns.length ≤ 48) (c0 : 0 ≤ c) (c1 : c < 1000) (m0 : 0 < many) (hd : dp + 1 < recursionLimit) (hu : un + 8 < cLine)
    (hret : ∀ (r : Int) (t tc' : Tok) (od' : Obj) (h' : Heap) (tk' : Nat), 0 ≤ r → r < many → PySem.Obj.IsDictOf (PySem.strKind PySem.Challenge.rw_nz0573_01.row.prog w) od' [(Str.ofString "cells", Value.ref cla), (Str.ofString "count", Value.int (c + 1) tc'), (Str.ofString "sum", Value.int S tS)] → Fr h₀ L h' m → News h₀ L h' (g od') → Q (.int r t) { s with heap := h', toks := tk' }) :
    wpAny (model PySem.Challenge.rw_nz0573_01.row.prog w) (ktrTop dp un gd cn cs L a ccd cl outer) (call (.ref 222) [Value.ref d, Value.int many tm]) Q E s := by
  revert X; k_fill; intro X
  obtain ⟨pre, post, rfl, hg, a9, b9⟩ := hU.split
  have hcl' : (cla, listOf vs.toArray kk) ∈ pre ++ post := by
    rcases List.mem_append.mp hcl with h | h
    · exact List.mem_append_left _ h
    · rcases List.mem_cons.mp h with h | h
      · exact absurd (congrArg Prod.fst h) hne
      · exact List.mem_append_right _ h
  have hoff : ∀ p ∈ pre ++ post, p.1 ≠ d := fun p hp => (List.mem_append.mp hp).elim (a9 p) (b9 p)
  have N2 : News h₀ L s.heap ((d, od) :: (cla, listOf vs.toArray kk) :: (pre ++ post)) := by
    intro p hp
    rcases List.mem_cons.mp hp with rfl | hp
    · exact N _ (List.mem_append_right _ (.head _))
    rcases List.mem_cons.mp hp with rfl | hp
    · exact N _ hcl
    rcases List.mem_append.mp hp with hp | hp
    · exact N _ (List.mem_append_left _ hp)
    · exact N _ (List.mem_append_right _ (.tail _ hp))
  replace N := N2
  have hup : ∀ {h' : Heap} (o' : Obj), News h₀ L h' ((d, o') :: (cla, listOf vs.toArray kk) :: (pre ++ post)) → News h₀ L h' (g o') := by
    intro h' o' M p hp
    rw [hg] at hp
    rcases List.mem_append.mp hp with hp | hp
    · exact M _ (.tail _ (.tail _ (List.mem_append_left _ hp)))
    rcases List.mem_cons.mp hp with rfl | hp
    · exact M _ (.head _)
    · exact M _ (.tail _ (.tail _ (List.mem_append_right _ hp)))
  have hMl := hI.length
  all_goals (refine wpAny_call ?_; k_dflt cell_enter; skip; k_steps)
  all_goals (
    refine' hret _ _ _ _ _ _ ?e0 ?e1 ?e5 ?e2 (hup _ ?e3)
    (case e2 => ((with_reducible rename Fr _ _ _ _ => kFF); exact kFF))
    (case e3 => ((with_reducible rename News _ _ _ _ => kNN); exact kNN))
    (case e5 => assumption)
    (case e0 => exact modR0 _ m0)
    (case e1 => exact modR1 _ m0)
)

-- W4
section
variable {prog : Program} {w : World} {A : Around} {E : Value → Shared → Prop} {s : Shared} {env : Env} {h₀ : Heap} {x : Str} {px pos : Pos} {iter : PySem.Expr} {body : List Stmt} {Q : Flow → Shared → Prop} {c : Addr}
theorem For_cellF {m : Str → Option Value} (_F : Fr h₀ env.locals s.heap m) (hk : env.scope.kind = .function) (hx : env.kindOf x = some .cell) (hc : env.cells.lookup x = some c)
    (h : wpAny (model prog w) A (eval iter env) (fun xv s₁ => wpAny (model prog w) A (pyIter xv) (fun it s₂ => LoopAtC prog w A h₀ env c body Q E it s₂) E s₁) E s)
    (hs : ∀ x, foldedSetIterable iter env x = pure x := by intro _; rfl)
    (hE : PassesOwn (model prog w) A env E := by passes_own) :
    wpAny (model prog w) A (exec (.For (.Name x px) iter body [] pos) env) Q E s := For_cell h₀ hk hx hc h hs hE
/-- the ledger of the second loop, but for the loop's own target -/
def J2 (D cr cm : Addr) (om oo : Obj) (rest : CbLed) : Prop := ∃ orow v, orow.data = .cell v ∧ rest = [(D, om), (cr, orow), (cm, oo)]
def Post2 (h₀ : Heap) (L I : Addr) (oI : Obj) (c D cr cm : Addr) (om oo : Obj) (s : Shared) (Q : Flow → Shared → Prop) : Flow → Shared → Prop := TurnPost h₀ L I oI c [D, cr, cm] (J2 D cr cm om oo) s Q
theorem loop2L {r D cr cm : Addr} {a₀ b₀ : Int} {t₀ u₀ v₀ : Tok} {m : Str → Option Value} {om oo orow o : Obj} {v vr : Option Value}
    (hh : A.handled = none) (hr : IsRange s.heap r a₀ b₀ 1 t₀ u₀ v₀) (hsmall : Builtin.Range.small a₀ b₀ 1 = true) (hsz : Builtin.Range.rangeSize a₀ b₀ 1 = ((5 : Nat) : Int)) (F : Fr h₀ env.locals s.heap m) (N : News h₀ env.locals s.heap [(D, om), (cr, orow), (c, o), (cm, oo)])
    (n1 : c ≠ D) (n2 : c ≠ cr) (n3 : c ≠ cm) (ho : o.data = .cell v) (hor : orow.data = .cell vr)
    (turn : ∀ (n : Int) (t : Tok) m' o' orow' vr' I oI h tk, I ≠ c → I ≠ D → I ≠ cr → I ≠ cm → orow'.data = .cell vr' → o'.data = .cell (some (.int n t)) → Fr h₀ env.locals h m' → News h₀ env.locals h [(I, oI), (c, o'), (D, om), (cr, orow'), (cm, oo)] →
      wpAny (model prog w) A (execs body env) (Post2 h₀ env.locals I oI c D cr cm om oo { s with heap := h, toks := tk } Q) E { s with heap := h, toks := tk })
    (done : ∀ m' h tk, Fr h₀ env.locals h m' → Q .next { s with heap := h, toks := tk }) :
    wpAny (model prog w) A (pyIter (.ref r)) (fun it s₂ => LoopAtC prog w A h₀ env c body Q E it s₂) E s := by
  refine forC_range (n := 5) (rest := [(D, om), (cr, orow), (cm, oo)]) (J2 D cr cm om oo) hh hr hsmall hsz F N (by intro p hp; simp only [List.mem_cons, List.not_mem_nil, or_false] at hp ⊢; rcases hp with h | h | h | h <;> simp [h]) ?_ ho ⟨orow, vr, hor, rfl⟩ ?_ ?_
  · simp [n1, n2, n3]
  · rintro i t m' o' rest' I oI h tk hlt hi ⟨orow', vr', hr', rfl⟩ _ ho' F' N'
    exact turn _ t m' o' orow' vr' I oI h tk (hlt _ (.head _)) (hlt _ (.tail _ (.head _))) (hlt _ (.tail _ (.tail _ (.head _)))) (hlt _ (.tail _ (.tail _ (.tail _ (.head _))))) hr' ho' F' N'
  · rintro m' o' v' rest' h tk _ _ F' _
    exact done m' h tk F'
theorem next2 {L I D cr cm : Addr} {oI om oo o' orow' : Obj} {v' vr' : Option Value} {m' : Str → Option Value} {h' : Heap} {tk : Nat} {news : CbLed}
    (F : Fr h₀ L h' m') (N : News h₀ L h' news) (hI : (I, oI) ∈ news) (hc : (c, o') ∈ news) (hD : (D, om) ∈ news) (hr : (cr, orow') ∈ news) (hm : (cm, oo) ∈ news) (ho' : o'.data = .cell v') (hor : orow'.data = .cell vr') :
    Post2 h₀ L I oI c D cr cm om oo s Q .next { s with heap := h', toks := tk } :=
  ⟨h', tk, m', o', v', [(D, om), (cr, orow'), (cm, oo)], rfl, F, (fun p hp => by
    simp only [List.mem_cons, List.not_mem_nil, or_false] at hp
    rcases hp with h | h | h | h | h <;> rw [h]
    · exact N _ hI
    · exact N _ hc
    · exact N _ hD
    · exact N _ hr
    · exact N _ hm), ho', rfl, orow', vr', hor, rfl⟩
end

-- W5
section
variable {prog : Program} {w : World} {A : Around} {E : Value → Shared → Prop} {s : Shared} {env : Env} {h₀ : Heap} {x : Str} {body : List Stmt} {Q : Flow → Shared → Prop}
structure Turn3 (h₀ : Heap) (L : Addr) (kept : CbLed) (x : Str) (m₀ : Str → Option Value) (s s' : Shared) : Prop where
  intro ::
  out : ∃ h' tk m', s' = { s with heap := h', toks := tk } ∧ Fr h₀ L h' m' ∧ News h₀ L h' kept ∧ ∀ z, z ≠ x → m' z = m₀ z
def Post3 (h₀ : Heap) (L : Addr) (kept : CbLed) (x : Str) (m₀ : Str → Option Value) (s : Shared) (Q : Flow → Shared → Prop) : Flow → Shared → Prop
  | .next, s' => Turn3 h₀ L kept x m₀ s s'
  | .cont, s' => Turn3 h₀ L kept x m₀ s s'
  | .brk, s' => Q .next s'
  | .ret v, s' => Q (.ret v) s'
theorem next3 {L : Addr} {kept news : CbLed} {m₀ m' : Str → Option Value} {h' : Heap} {tk : Nat} (F : Fr h₀ L h' m') (N : News h₀ L h' news) (hk : ∀ p ∈ kept, p ∈ news) (hm : ∀ z, z ≠ x → m' z = m₀ z) :
    Post3 h₀ L kept x m₀ s Q .next { s with heap := h', toks := tk } := ⟨h', tk, m', rfl, F, newsSub N hk, hm⟩
theorem opsLoop {l : Addr} {ops : List Value} {nn : Nat} {m₀ : Str → Option Value} {news : CbLed} {V : Int → Prop} {b : Int}
    (hh : A.handled = none) (hl : (l, listOf ops.toArray nn) ∈ news) (hO : OpsIn news V b ops) (F : Fr h₀ env.locals s.heap m₀) (N : News h₀ env.locals s.heap news)
    (turn : ∀ a o h tk own, (a, o) ∈ news → Opd V b o → Fr h₀ env.locals h (fun y => if y = x then some (.ref a) else m₀ y) → News h₀ env.locals h ((a, o) :: (news ++ own)) →
      wpAny (model prog w) A (execs body env) (Post3 h₀ env.locals (news ++ own) x m₀ { s with heap := h, toks := tk } Q) E { s with heap := h, toks := tk })
    (done : ∀ m₁ h tk, Fr h₀ env.locals h m₁ → News h₀ env.locals h news → Q .next { s with heap := h, toks := tk }) :
    wpAny (model prog w) A (pyIter (.ref l)) (fun it s₂ => LoopAtV prog w A h₀ env x body Q E it s₂) E s := by
  have hol : s.heap.get? l = some (listOf ops.toArray nn) := (N _ hl).1
  have hls : s.heap.IsList l ops.toArray := ⟨_, hol, rfl, nn, rfl⟩
  have hne : l ≠ s.heap.objs.size := Nat.ne_of_lt (Heap.lt_size hol)
  refine wpAny_pyIter_list hls ?_
  have W := Walks.list (prog := prog) (w := w) hh s.heap.objs.size l hne ops.toArray
  refine ⟨_, _, _, _, _, _, m₀, news, (fun _ m nx => nx = news ∧ ∀ z, z ≠ x → m z = m₀ z), rfl, W, ?_, ?_, ?_, ⟨⟨_, Heap.get?_push_size _ rfl, rfl, rfl⟩, hls.at fun o e => Heap.get?_push_of_some _ e⟩, F.push _, (fun p hp => ⟨Heap.get?_push_of_some _ (N p hp).1, (N p hp).2⟩), ⟨rfl, fun _ _ => rfl⟩, ?_, ?_⟩
  · intro hm
    rcases List.mem_cons.mp hm with e | hm
    · exact absurd F.ns.lt (e ▸ Nat.lt_irrefl _)
    · exact (N _ hl).2.1 ((List.mem_singleton.mp hm).symm)
  · intro c hc
    rw [List.mem_singleton.mp hc]
    exact next_is_new F
  · intro p hp hI
    exact absurd (Heap.lt_size (N p hp).1) ((List.mem_singleton.mp hI) ▸ Nat.lt_irrefl _)
  · rintro i v m₁ news₁ s₁ own ⟨hh', tk', rfl⟩ hin hP ⟨rfl, hm⟩ hoff _ _ _ _ F₁ N₁
    have hv : v ∈ ops := by
      have hP' : ops[i]? = some v := by simpa using hP
      exact List.mem_of_getElem? hP'
    obtain ⟨a, o, rfl, hmem, hopd⟩ := hO v hv
    have e : (fun y => if y = x then some (Value.ref a) else m₁ y) = fun y => if y = x then some (Value.ref a) else m₀ y := by
      funext y
      by_cases hy : y = x
      · simp [hy]
      · simp only [if_neg hy]; exact hm y hy
    rw [e] at F₁
    have N₂ : News h₀ env.locals hh' ((a, o) :: (news₁ ++ own)) := fun p hp => by
      rcases List.mem_cons.mp hp with rfl | hp
      · exact N₁ _ (List.mem_append_right _ hmem)
      · exact N₁ p ((List.mem_append.mp hp).elim (fun h => List.mem_append_right _ h) fun h => List.mem_append_left _ h)
    refine wpAny_mono (turn a o hh' tk' own hmem hopd F₁ N₂) (fun f s₂ p => ?_) fun _ _ e => e
    have fin : Turn3 h₀ env.locals (news₁ ++ own) x m₀ { s with heap := hh', toks := tk' } s₂ → LoopStepU h₀ env.locals [s.heap.objs.size] own (fun m nx => nx = news₁ ∧ ∀ z, z ≠ x → m z = m₀ z) { s with heap := hh', toks := tk' } .next s₂ := by
      rintro ⟨h', tk, m', rfl, F', N', hm'⟩
      exact ⟨rfl, h', tk, m', news₁, rfl, F', newsSub N' (fun p hp => (List.mem_append.mp hp).elim (fun h => List.mem_append_right _ h) fun h => List.mem_append_left _ h), hoff, rfl, hm'⟩
    cases f with
    | ret v => exact p
    | brk => exact p
    | next => exact fin p
    | cont => exact fin p
  · rintro h' tk m' news' F' N' _ ⟨rfl, _⟩
    exact done m' h' tk F' N'
end

-- N1
theorem lines_N1_0 : True := by
  w_top off
  k_with_none
  trivial
theorem opd_elim {V W : Int → Prop} {b : Int} {o : Obj} (h : Opd V b o) (hV : ∀ v : Int, V v → W v) :
    (∃ (k x : Str) (t u : Tok), (k = Str.ofString "r" ∨ k = Str.ofString "p" ∨ k = Str.ofString "f" ∨ k = Str.ofString "m") ∧ o = { cls := .type "tuple", data := .seq [Value.str k t, Value.str x u].toArray }) ∨
    (∃ (k : Str) (t u : Tok) (v : Int), (k = Str.ofString "n" ∨ k = Str.ofString "a") ∧ W v ∧ o = { cls := .type "tuple", data := .seq [Value.str k t, Value.int v u].toArray }) ∨
    (∃ (ix : Str) (t u tv : Tok), o = { cls := .type "tuple", data := .seq [Value.str (Str.ofString "x") t, Value.str ix u, Value.int b tv].toArray }) := by
  cases h with
  | s hk => exact .inl ⟨_, _, _, _, hk, rfl⟩
  | n hk hv => exact .inr (.inl ⟨_, _, _, _, hk, hV _ hv, rfl⟩)
  | x => exact .inr (.inr ⟨_, _, _, _, rfl⟩)
/-- a number that the law takes: an octet, or two octets of the row, one behind the other -/
def NumOk (many r0 r1 r2 r3 v : Int) : Prop := v ≤ 255 ∨ (1 < many ∧ v = r0 + 256 * r1) ∨ (2 < many ∧ v = r1 + 256 * r2) ∨ (3 < many ∧ v = r2 + 256 * r3)
theorem nk1 {r0 r1 r2 r3 v : Int} (h : NumOk 1 r0 r1 r2 r3 v) (h1 : 255 < v) : False := by
  unfold NumOk at h
  omega
theorem nk2 {r0 r1 r2 r3 v : Int} (h : NumOk 2 r0 r1 r2 r3 v) (h1 : 255 < v) (h3 : ([r0 + 256 * r1].any fun x => x == v) = false) : False := by
  unfold NumOk at h
  simp only [List.any_cons, List.any_nil, Bool.or_false, Bool.or_eq_false_iff, beq_eq_false_iff_ne, ne_eq] at h3
  omega
theorem nk3 {r0 r1 r2 r3 v : Int} (h : NumOk 3 r0 r1 r2 r3 v) (h1 : 255 < v) (h3 : ([r0 + 256 * r1, r1 + 256 * r2].any fun x => x == v) = false) : False := by
  unfold NumOk at h
  simp only [List.any_cons, List.any_nil, Bool.or_false, Bool.or_eq_false_iff, beq_eq_false_iff_ne, ne_eq] at h3
  omega
theorem nk4 {r0 r1 r2 r3 v : Int} (h : NumOk 4 r0 r1 r2 r3 v) (h1 : 255 < v) (h3 : ([r0 + 256 * r1, r1 + 256 * r2, r2 + 256 * r3].any fun x => x == v) = false) : False := by
  unfold NumOk at h
  simp only [List.any_cons, List.any_nil, Bool.or_false, Bool.or_eq_false_iff, beq_eq_false_iff_ne, ne_eq] at h3
  omega
theorem compEnd0 {h₀ h' : Heap} {L I C D : Addr} {m : Str → Option Value} {s₁ : Shared} {oI oC oD : Obj} {S : List (Addr × Obj) → Prop} {rest : Value → List (Addr × Obj) → Prop} {y : Value} {tk : Nat} {news : CbLed}
    (F : Fr h₀ L h' m) (N : News h₀ L h' ((I, oI) :: (C, oC) :: (D, oD) :: news)) (off : LCg.Off3 I C D news) (hS : S news) (r : rest y news) :
    LCg.CompEnd h₀ L m s₁ I oI C oC D oD S rest y { s₁ with heap := h', toks := tk } :=
  LCg.CompEnd.intro F N news (fun p hp => hp) off hS r
theorem lines_N1_1 : True := by
  k_with "CompEnd" => (k_dflt (refine' compEnd0 ?k1 ?k2 ?k3 ?k5 ?_; (case k1 => ((with_reducible rename Fr _ _ _ _ => kFF); exact kFF)); (case k2 => ((with_reducible rename News _ _ _ _ => kNN); exact kNN)); (case k3 => first | assumption | (simp only [LCg.Off3, and_true]; first | done | assumption)); (case k5 => lcg_src)); (try dsimp only))
  k_with "CompSrc" => (k_here; k_dflt (refine LCg.CompSrc.range (by rfl) (by k_asm) (by k_asm) (by assumption) (by first | decide | rfl) (by first | rfl | decide) (by first | size_fits | exact Nat.le_of_ble_eq_true rfl) ?_; intro g'; lcg_lit))
  k_with "subscriptTail" => (k_here; (with_reducible show wpAny _ _ (subscriptTail _ _ (Value.ref _) (Value.int _ _)) _ _ _); k_dflt (refine' item_tupleT (l := _) ?t ?a ?b ?c ?d ?_ ?e; (case t => exact News.isTup (by k_asm) (by k_mem)); (case a => decide); (case b => decide); (case c => rfl); (case d => rfl); (case e => with_unfolding_all rfl); k_whole))
  k_with "exec For" => (k_here; (rename Fr _ _ _ _ => lF'); (with_unfolding_all refine' For_invVF lF' ?k1 ?k2 ?_; (case k1 => exact rfl); (case k2 => exact rfl); k_whole))
  k_with "pyIter ref" => (k_here; (with_reducible show wpAny _ _ (pyIter (Value.ref _)) (fun it s₂ => LoopAtV _ _ _ _ _ _ _ _ _ it s₂) _ _); (rename Fr _ _ _ _ => lF'); (rename News _ _ _ _ => lN'); k_dflt (refine' opsLoop ?hh ?hl ?hO lF' lN' ?gturn ?gdone; (case hh => exact rfl); (case hl => k_mem); (case hO => exact OpsIn.mono (by assumption) (by intro p hp; repeat (first | exact hp | exact List.mem_append_right _ hp | exact List.mem_append_left _ hp | apply List.Mem.tail | apply List.mem_append_right)))); clear lF' lN'; (case' gturn => intro a9 o9 h9 tk9 own9 mem9 q9 F' N'; (try dsimp only at F'); (rcases opd_elim q9 (by assumption) with ⟨k9, x9, tt9, uu9, hk9, e9⟩ | ⟨k9, tt9, uu9, v9, hk9, hw9, e9⟩ | ⟨ix9, tt9, uu9, tv9, e9⟩) <;> (subst e9) <;> (try ((rcases hk9 with hk9 | hk9 | hk9 | hk9) <;> (subst hk9))) <;> (try ((rcases hk9 with hk9 | hk9) <;> (subst hk9)))); (case' gdone => intro m9 h9 tk9 F' N'); (all_goals (try simp only [List.cons_append, List.nil_append] at N')); (all_goals try k_fold))
  k_with "eval ListComp" => (k_here; (rename (_ = (1 : Int) ∨ _ = (2 : Int) ∨ _ = (3 : Int) ∨ _ = (4 : Int)) => hm9); (rcases hm9 with hm9 | hm9 | hm9 | hm9) <;> (subst hm9))
  k_with "Post3 next" => (k_dflt (refine' next3 ?F ?N ?hk ?hm; (case F => ((with_reducible rename Fr _ _ _ _ => kFF); exact kFF)); (case N => ((with_reducible rename News _ _ _ _ => kNN); exact kNN)); (case hk => exact (by intro p hp; repeat (first | exact hp | exact List.mem_append_right _ hp | exact List.mem_append_left _ hp | apply List.Mem.tail | apply List.mem_append_right))); (case hm => (intro z9 hz9; simp only [if_neg hz9]))))
  trivial
theorem numbers_c {w : World} {mean : ExcName → Option Value} {mg mb : Str → Option Value} {dp un : Nat} {gd : Option (List Code)} {cn : Str} {cs : Scope} {a : Addr} {ccd : Value} {cl : List (Str × Addr)} {outer : List Env} {A₀ : Around} {base h₀ : Heap} {L : Addr} {m : Str → Option Value} {news : CbLed} {s : Shared} {Q E : Value → Shared → Prop} {V : Int → Prop} {b : Int} {rl lo : Addr} {ops : List Value} {nn kr : Nat} {r0 r1 r2 r3 r4 many : Int} {t0 t1 t2 t3 t4 tm : Tok}
    (B : Below A₀ base outer h₀) (F : Fr h₀ L s.heap m) (X : (Mine.hd.heap_39 w.params).In h₀) (N : News h₀ L s.heap news) (T : Top Mine.hd.view_39 (looseW Mine.hd.view_39 []) mean mg mb h₀) (hk : cs.kind = .function) (hrl : (rl, listOf [Value.int r0 t0, Value.int r1 t1, Value.int r2 t2, Value.int r3 t3, Value.int r4 t4].toArray kr) ∈ news) (hlo : (lo, listOf ops.toArray nn) ∈ news) (hO : OpsIn news V b ops) (hV : ∀ v : Int, V v → NumOk many r0 r1 r2 r3 v) (hb : b.fmod 256 = r2) (hmany : many = 1 ∨ many = 2 ∨ many = 3 ∨ many = 4) (hd : dp + 1 < recursionLimit) (hu : un + 8 < cLine)
    (hret : ∀ (h' : Heap) (tk' : Nat), Fr h₀ L h' m → News h₀ L h' news → Q (.bool true) { s with heap := h', toks := tk' }) :
    wpAny (model PySem.Challenge.rw_nz0573_01.row.prog w) (ktrTop dp un gd cn cs L a ccd cl outer) (call (.ref 234) [Value.ref rl, Value.ref lo, Value.int many tm]) Q E s := by
  revert X; k_fill; intro X
  replace N := newsCons N hlo
  replace N := newsCons N (.tail _ hrl)
  all_goals (refine wpAny_call ?_; k_dflt (refine' code_defC ?k1 ?k2 ?k3 ?k4 ?k5 ?kA ?kF ?kK ?k6 ?k7 ?k8 ?k9 ?kB ?kD ?_ ?c2 ?c3 ?c4; (case kA => exact rfl); (case kF => exact rfl); (case kK => assumption); (case k1 => k_asm); (case k2 => k_asm); (case k3 => k_asm); (case k4 => k_asm); (case k5 => k_asm); (case k6 => k_is); (case k7 => k_is); (case k8 => ktr_room); (case k9 => exact BindsTo.of_eq rfl); (case kB => exact rfl); (case kD => decide +kernel); (case c2 => exact rfl); (case c3 => exact rfl); (case c4 => exact rfl); k_whole; intro g' L' h' tk' cells' FG' F' N' Y' B' X' T' l1; (try k_lt l1); k_cells Y'; (try simp only [List.cons_append, List.nil_append] at N'); (try dsimp only); (try k_lift B'); (try k_fold)); skip; k_steps)
  all_goals (
    first
    | (
    refine' hret _ _ ?e2 ?e3
    (case e2 => ((with_reducible rename Fr _ _ _ _ => kFF); exact kFF))
    (case e3 => ((with_reducible rename News _ _ _ _ => kNN); exact newsSub kNN (by first | exact s9 | exact fun p hp => s9 p (.tail _ hp) | (intro p hp; repeat (first | exact hp | apply List.Mem.tail)))))
    )
    | (exact (nk1 (by assumption) (by assumption)).elim)
    | (exact (nk2 (by assumption) (by assumption) (by assumption)).elim)
    | (exact (nk3 (by assumption) (by assumption) (by assumption)).elim)
    | (exact (nk4 (by assumption) (by assumption) (by assumption)).elim)
    | (exact absurd hb (by assumption))
)

-- J1
local macro_rules | `(tactic| units_room) => `(tactic| ktr_units)
theorem lines_J1_0 : True := by
  w_top off
  k_with_none
  k_with "call ref" => (k_here; k_dflt (refine' short_goal_c ?k1 ?k2 ?k3 ?k4 ?k5 ?kK ?hm ?hM ?kd ?ku ?_; (case k1 => k_asm); (case k2 => k_asm); (case k3 => k_asm); (case k4 => k_asm); (case k5 => k_asm); (case hm => k_mem); (case hM => assumption); (case kK => first | exact rfl | assumption); (case kd => ktr_room); (case ku => ktr_units)); intro t9 h9 tk9  F9 N9; (try dsimp only); (try k_sweep); (all_goals try k_fold))
  k_with "call ref" => (k_here; k_dflt (refine' can_take_c ?k1 ?k2 ?k3 ?k4 ?k5 ?kK ?hm ?hM ?kd ?ku ?_; (case k1 => k_asm); (case k2 => k_asm); (case k3 => k_asm); (case k4 => k_asm); (case k5 => k_asm); (case hm => k_mem); (case hM => assumption); (case kK => first | exact rfl | assumption); (case kd => ktr_room); (case ku => ktr_units)); intro t9 h9 tk9  F9 N9; (try dsimp only); (try k_sweep); (all_goals try k_fold))
  trivial
theorem jno {wd : Str} (h1 : wd ≠ Str.ofString "JR") (h2 : wd ≠ Str.ofString "DJNZ") (h : ([Str.ofString "JR", Str.ofString "DJNZ"].any fun x => x == wd) = true) : False := by
  simp only [List.any_cons, List.any_nil, Bool.or_false, Bool.or_eq_true, beq_iff_eq] at h
  rcases h with h | h
  · exact h1 h.symm
  · exact h2 h.symm
theorem jg1 {gv p r1 : Int} (hg : gv = (p + 1 + 1 + signedOctet r1) % 65536) (h : 127 < r1) : (gv == (p + 2 + (r1 - 256)).fmod 65536) = true := by
  rw [beq_iff_eq, hg, signedOctet, if_pos h, Int.fmod_eq_emod_of_nonneg _ (by decide)]; congr 1; omega
theorem jg2 {gv p r1 : Int} (hg : gv = (p + 1 + 1 + signedOctet r1) % 65536) (h : ¬ 127 < r1) : (gv == (p + 2 + r1).fmod 65536) = true := by
  rw [beq_iff_eq, hg, signedOctet, if_neg h, Int.fmod_eq_emod_of_nonneg _ (by decide)]; congr 1; omega
theorem js1 {c p r1 : Int} (hc : c = r1) (h : 127 < r1) : ((p + 1 + 1 + signedOctet c) % 65536 == (p + 2 + (r1 - 256)).fmod 65536) = true := jg1 (by rw [hc]) h
theorem js2 {c p r1 : Int} (hc : c = r1) (h : ¬ 127 < r1) : ((p + 1 + 1 + signedOctet c) % 65536 == (p + 2 + r1).fmod 65536) = true := jg2 (by rw [hc]) h
theorem jt {c0 c1 r0 r1 : Int} (h0 : c0 = r0) (h1 : c1 = r1) (h : canTake r0 r1 = decide (r0 ≠ 24)) : (canTake c0 c1 == (r0 != 24)) = true := by
  subst h0 h1
  rw [h, beq_iff_eq, bne, Bool.beq_eq_decide_eq]
  simp
theorem jump_no {w : World} {mean : ExcName → Option Value} {mg mb : Str → Option Value} {dp un : Nat} {gd : Option (List Code)} {cn : Str} {cs : Scope} {a : Addr} {ccd : Value} {cl : List (Str × Addr)} {outer : List Env} {A₀ : Around} {base h₀ : Heap} {L : Addr} {m : Str → Option Value} {news : CbLed} {s : Shared} {Q E : Value → Shared → Prop} {ml rl lo : Addr} {p : Int} {tp tw : Tok} {wd : Str}
    (B : Below A₀ base outer h₀) (F : Fr h₀ L s.heap m) (X : (Mine.hd.heap_39 w.params).In h₀) (N : News h₀ L s.heap news) (T : Top Mine.hd.view_39 (looseW Mine.hd.view_39 []) mean mg mb h₀) (hk : cs.kind = .function) (hj1 : wd ≠ Str.ofString "JR") (hj2 : wd ≠ Str.ofString "DJNZ") (hd : dp + 1 < recursionLimit) (hu : un + 8 < cLine)
    (hret : ∀ (h' : Heap) (tk' : Nat), Fr h₀ L h' m → News h₀ L h' news → Q (.bool true) { s with heap := h', toks := tk' }) :
    wpAny (model PySem.Challenge.rw_nz0573_01.row.prog w) (ktrTop dp un gd cn cs L a ccd cl outer) (call (.ref 241) [Value.ref ml, Value.ref rl, Value.int p tp, Value.str wd tw, Value.ref lo]) Q E s := by
  revert X; k_fill; intro X
  all_goals (refine wpAny_call ?_; k_dflt cell_enter; (try ((with_reducible rename Fr _ _ _ (fun y => List.lookup y _) => kF0); replace kF0 : Fr _ _ _ (fun yy => List.lookup yy [(Str.ofString "operands", Value.ref lo), (Str.ofString "word", Value.str wd tw), (Str.ofString "at", Value.int p tp), (Str.ofString "row", Value.ref rl), (Str.ofString "memory", Value.ref ml)]) := kF0)); k_steps)
  all_goals (
    first
    | (exact (jno hj1 hj2 (by assumption)).elim)
    | (
    refine' hret _ _ ?e2 ?e3
    (case e2 => ((with_reducible rename Fr _ _ _ _ => kFF); exact kFF))
    (case e3 => ((with_reducible rename News _ _ _ _ => kNN); exact newsSub kNN (by first | exact s9 | exact fun p hp => s9 p (.tail _ hp) | (intro p hp; repeat (first | exact hp | apply List.Mem.tail)))))
    )
)
theorem jump_c {w : World} {mean : ExcName → Option Value} {mg mb : Str → Option Value} {dp un : Nat} {gd : Option (List Code)} {cn : Str} {cs : Scope} {a : Addr} {ccd : Value} {cl : List (Str × Addr)} {outer : List Env} {A₀ : Around} {base h₀ : Heap} {L : Addr} {m : Str → Option Value} {news : CbLed} {s : Shared} {Q E : Value → Shared → Prop} {ml rl lo ga fa : Addr} {vs : List Value} {kk : Nat} {ns : List Int} {ops : List Value} {nn kr : Nat} {p gv r0 r1 r2 r3 r4 : Int} {tp tw tg ug t0 t1 t2 t3 t4 : Tok} {wd : Str}
    (B : Below A₀ base outer h₀) (F : Fr h₀ L s.heap m) (X : (Mine.hd.heap_39 w.params).In h₀) (N : News h₀ L s.heap news) (T : Top Mine.hd.view_39 (looseW Mine.hd.view_39 []) mean mg mb h₀) (hk : cs.kind = .function) (hm : (ml, listOf vs.toArray kk) ∈ news) (hM : Mem vs ns) (hrl : (rl, listOf [Value.int r0 t0, Value.int r1 t1, Value.int r2 t2, Value.int r3 t3, Value.int r4 t4].toArray kr) ∈ news) (hlo : (lo, listOf ops.toArray nn) ∈ news) (hops : ops = [Value.ref ga] ∨ ops = [Value.ref fa, Value.ref ga]) (hg : (ga, { cls := .type "tuple", data := .seq [Value.str (Str.ofString "n") tg, Value.int gv ug].toArray }) ∈ news) (hw : wd = Str.ofString "JR" ∨ wd = Str.ofString "DJNZ") (hgoal : gv = (p + 1 + 1 + signedOctet r1) % 65536) (hc0 : cell ns p = r0) (hc1 : cell ns (p + 1) = r1) (hct : canTake r0 r1 = decide (r0 ≠ 24)) (hd : dp + 12 < recursionLimit) (hu : un + 96 < cLine)
    (hret : ∀ (h' : Heap) (tk' : Nat), Fr h₀ L h' m → News h₀ L h' news → Q (.bool true) { s with heap := h', toks := tk' }) :
    wpAny (model PySem.Challenge.rw_nz0573_01.row.prog w) (ktrTop dp un gd cn cs L a ccd cl outer) (call (.ref 241) [Value.ref ml, Value.ref rl, Value.int p tp, Value.str wd tw, Value.ref lo]) Q E s := by
  revert X; k_fill; intro X
  replace N := newsCons N hm
  replace N := newsCons N (.tail _ hlo)
  replace N := newsCons N (.tail _ (.tail _ hrl))
  replace N := newsCons N (.tail _ (.tail _ (.tail _ hg)))
  have hMi := hM.are
  have hMl := hM.size
  rcases hops with rfl | rfl <;> rcases hw with rfl | rfl
  all_goals (refine wpAny_call ?_; k_dflt cell_enter; (try ((with_reducible rename Fr _ _ _ (fun y => List.lookup y _) => kF0); replace kF0 : Fr _ _ _ (fun yy => List.lookup yy [(Str.ofString "operands", Value.ref lo), (Str.ofString "word", Value.str wd tw), (Str.ofString "at", Value.int p tp), (Str.ofString "row", Value.ref rl), (Str.ofString "memory", Value.ref ml)]) := kF0)); k_steps)
  all_goals (
    refine' cb_retB (Q := Q) (fun t h' tk' F N => hret h' tk' F N) ?e1 ?e2 ?e3
    (case e2 => ((with_reducible rename Fr _ _ _ _ => kFF); exact kFF))
    (case e3 => ((with_reducible rename News _ _ _ _ => kNN); exact newsSub kNN (by first | exact s9 | exact fun p hp => s9 p (.tail _ hp) | (intro p hp; repeat (first | exact hp | apply List.Mem.tail)))))
    (case e1 => first | exact jt hc0 hc1 hct | exact jg1 hgoal (by assumption) | exact js1 hc1 (by assumption) | exact jg2 hgoal (by assumption) | exact js2 hc1 (by assumption))
)

-- W6
theorem rs5 (a : Int) : Builtin.Range.rangeSize a (a + 5) 1 = ((5 : Nat) : Int) := by
  unfold Builtin.Range.rangeSize
  rw [if_pos (by decide), if_pos (by omega)]
  omega
theorem ml_rng0 : ∀ k : Fin 256, (mainLength k.val = 1 ∨ mainLength k.val = 2 ∨ mainLength k.val = 3) ∧ mainLength k.val + (if usesMemory k.val then 1 else 0) ≤ 3 := by decide +kernel
theorem ml_rng {n : Int} (h0 : 0 ≤ n) (h1 : n < 256) : (mainLength n = 1 ∨ mainLength n = 2 ∨ mainLength n = 3) ∧ mainLength n + (if usesMemory n then 1 else 0) ≤ 3 :=
  octs (P := fun n => (mainLength n = 1 ∨ mainLength n = 2 ∨ mainLength n = 3) ∧ mainLength n + (if usesMemory n then 1 else 0) ≤ 3) ml_rng0 h0 h1
theorem len_cases {r0 r1 : Int} (h0 : 0 ≤ r0) (h1 : r0 < 256) (h2 : 0 ≤ r1) (h3 : r1 < 256) : lengthOf r0 r1 = 1 ∨ lengthOf r0 r1 = 2 ∨ lengthOf r0 r1 = 3 ∨ lengthOf r0 r1 = 4 := by
  have a := (ml_rng h0 h1).1
  have b := (ml_rng h2 h3).1
  have c := (ml_rng h2 h3).2
  unfold lengthOf
  repeat' split
  all_goals first | omega | (rcases a with a | a | a <;> simp [a]) | skip
  all_goals (simp only [*, if_true, if_false, Bool.false_eq_true] at c ⊢; omega)
/-- what the law takes as a number of the order at n -/
def VS (ns : List Int) (n v : Int) : Prop := NumOk (lengthOf (cell ns n) (cell ns (n + 1))) (cell ns n) (cell ns (n + 1)) (cell ns (n + 2)) (cell ns (n + 3)) v
section
variable {vs : List Value} {ns : List Int}
theorem vs_b (_ : Mem vs ns) (n : Int) : VB (VS ns n) (signedOctet (cell ns (n + 2))) := ⟨⟩
theorem vs_low (_ : Mem vs ns) (n : Int) : VLow (VS ns n) := ⟨fun _ h => .inl (by omega)⟩
theorem len_plain {r0 r1 : Int} (h0 : 0 ≤ r0) (h1 : r0 < 256) (h : ([203, 221, 237, 253].any fun x => x == r0) = false) : lengthOf r0 r1 = 1 + farOctets r0 := by
  simp only [List.any_cons, List.any_nil, Bool.or_false, Bool.or_eq_false_iff, beq_eq_false_iff_ne, ne_eq] at h
  refine (told_main (r1 := r1) h0 h1 (fun e => h.1 e.symm) (fun e => h.2.2.1 e.symm) ?_).len
  simp only [List.any_cons, List.any_nil, Bool.or_false, Bool.or_eq_false_iff, beq_eq_false_iff_ne, ne_eq]
  exact ⟨h.2.1, h.2.2.2⟩
theorem vs_m (M : Mem vs ns) (n : Int) : VIf (VS ns n) (([203, 221, 237, 253].any fun x => x == cell ns n) = false ∧ farOctets (cell ns n) = 2) (cell ns (n + 1) + 256 * cell ns (n + 1 + 1)) := ⟨fun ⟨h, hf⟩ => by
  have l := len_plain (r1 := cell ns (n + 1)) (cell_oct M n).1 (cell_oct M n).2 h
  rw [hf] at l
  unfold VS
  rw [l, show n + 1 + 1 = n + 2 by omega]
  exact .inr (.inr (.inl ⟨by decide, rfl⟩))⟩
theorem vs_e (_ : Mem vs ns) (n : Int) : VIf (VS ns n) (cell ns n = 237 ∧ fx (cell ns (n + 1)) = 1 ∧ fz (cell ns (n + 1)) = 3) (cell ns (n + 2) + 256 * cell ns (n + 2 + 1)) := ⟨fun ⟨h, hx, hz⟩ => by
  have l := (told_237a h hx hz).len
  unfold VS
  rw [l, show n + 2 + 1 = n + 3 by omega]
  exact .inr (.inr (.inr ⟨by decide, rfl⟩))⟩
theorem lenIx2_0 : ∀ k : Fin 256, (k.val : Int) ≠ 203 → farOctets k.val = 2 → lenIx k.val = 4 ∨ inL [221, 237, 253] k.val := by decide +kernel
theorem far_ix0 : ∀ k : Fin 256, inL [221, 237, 253] (k.val : Int) → farOctets k.val ≠ 2 := by decide +kernel
theorem vs_i (M : Mem vs ns) (n : Int) : VIf (VS ns n) (([221, 253].any fun x => x == cell ns n) = true ∧ cell ns (n + 1) ≠ 203 ∧ farOctets (cell ns (n + 1)) = 2) (cell ns (n + 2) + 256 * cell ns (n + 2 + 1)) := ⟨fun ⟨h, h1, hf⟩ => by
  have o := cell_oct M (n + 1)
  have hx : ¬ inL [221, 237, 253] (cell ns (n + 1)) := fun hx => octs (P := fun n => inL [221, 237, 253] n → farOctets n ≠ 2) far_ix0 o.1 o.2 hx hf
  have l4 : lenIx (cell ns (n + 1)) = 4 := (octs (P := fun n => n ≠ 203 → farOctets n = 2 → lenIx n = 4 ∨ inL [221, 237, 253] n) lenIx2_0 o.1 o.2 h1 hf).resolve_right hx
  have l : lengthOf (cell ns n) (cell ns (n + 1)) = 4 := by
    rw [← l4]
    unfold lengthOf
    rw [if_neg (ix_no h), if_neg (fun q => q h)]
    rfl
  unfold VS
  rw [l, show n + 2 + 1 = n + 3 by omega]
  exact .inr (.inr (.inr ⟨by decide, rfl⟩))⟩
end

-- W7
section
variable {prog : Program} {w : World} {A : Around} {E : Value → Shared → Prop} {s : Shared} {env : Env} {h₀ : Heap} {L : Addr} {m : Str → Option Value} {news : CbLed} {Q : Value → Shared → Prop}
/-- an octet of the memory at a reckoned place -/
theorem cellItem {value slice : PySem.Expr} {l : Addr} {vs : List Value} {ns : List Int} {kk : Nat} {n n' : Int} {u : Tok} (N : News h₀ L s.heap news) (hl : (l, listOf vs.toArray kk) ∈ news) (M : Mem vs ns) (e : n = n')
    (h : ∀ t, 0 ≤ cell ns n' → cell ns n' < 256 → Q (.int (cell ns n') t) s)
    (hs : subscripted slice false (.ref l) (.int (n.fmod 64) u) = operate [.ref l, .int (n.fmod 64) u] (getItem (.ref l) (.int (n.fmod 64) u)) := by with_unfolding_all rfl) :
    wpAny (model prog w) A (subscriptTail value slice (.ref l) (.int (n.fmod 64) u)) Q E s := by
  subst e
  have k0 : 0 ≤ n.fmod 64 := by rw [Int.fmod_eq_emod_of_nonneg _ (by decide)]; omega
  have k1 : n.fmod 64 < 64 := by rw [Int.fmod_eq_emod_of_nonneg _ (by decide)]; omega
  have hlt : (n.fmod 64).toNat < ns.length := by rw [M.size]; omega
  obtain ⟨t, hx⟩ := M.are.get (n.fmod 64).toNat ns[(n.fmod 64).toNat] (by simp [hlt])
  have hc : ns[(n.fmod 64).toNat] = cell ns n := by
    rw [cell_eq M n, List.getD_eq_getElem?_getD, List.getElem?_eq_getElem hlt]; rfl
  rw [hc] at hx
  exact tail_any (News.isList N hl).typeIs slot_list_getitem.lookup (wpAny_getItem_list (News.isList N hl) k0 (by omega) (x := .int (cell ns n) t) (by simpa using hx) (h t (cell_oct M n).1 (cell_oct M n).2)) hs
theorem newsSwap {h : Heap} {a b : Addr × Obj} {led rest : CbLed} (N : News h₀ L h (a :: b :: (led ++ rest))) : News h₀ L h (a :: b :: (rest ++ led)) := newsSub N (by
  intro p hp
  simp only [List.mem_cons, List.mem_append] at hp ⊢
  rcases hp with h | h | h | h <;> simp [h])
/-- a bool that is reckoned on several ways: the ways meet -/
def CutPost (h₀ : Heap) (L : Addr) (m : Str → Option Value) (news : CbLed) (b : Bool) (s : Shared) : Value → Shared → Prop := fun v s' => ∃ h' tk', v = .bool b ∧ s' = { s with heap := h', toks := tk' } ∧ Fr h₀ L h' m ∧ News h₀ L h' news
theorem cutEval {M : Model} {e : PySem.Expr} (b : Bool) (_F : Fr h₀ L s.heap m) (_N : News h₀ L s.heap news) (h : wpAny M A (eval e env) (CutPost h₀ L m news b s) E s)
    (k : ∀ h' tk', Fr h₀ L h' m → News h₀ L h' news → Q (.bool b) { s with heap := h', toks := tk' }) : wpAny M A (eval e env) Q E s :=
  wpAny_mono h (fun v s' ⟨h', tk', hv, hs, F, N⟩ => by subst hv hs; exact k h' tk' F N) fun _ _ e => e
theorem cutEnd {b x : Bool} {h' : Heap} {tk' : Nat} {news' : CbLed} (e : x = b) (F : Fr h₀ L h' m) (N : News h₀ L h' news') (hs : ∀ p ∈ news, p ∈ news') : CutPost h₀ L m news b s (.bool x) { s with heap := h', toks := tk' } :=
  ⟨h', tk', by rw [e], rfl, F, newsSub N hs⟩
end
section
variable {r0 r1 many : Int}
theorem told_t1 (T : Told r0 r1 many) (h0 : ([221, 253].any fun x => x == r0) = true) (h1 : r1 ≠ 203) (h2 : ([221, 237, 253].any fun x => x == r1) = true) : true = false := by
  rcases T.ni h0 with h | h
  · exact absurd h h1
  · exact h2.symm.trans h.1
theorem told_t2 (T : Told r0 r1 many) (h0 : ([221, 253].any fun x => x == r0) = true) (h1 : r1 ≠ 203) (h2 : ([221, 237, 253].any fun x => x == r1) = false) : (!turnsByIndex r1) = false := by
  rcases T.ni h0 with h | h
  · exact absurd h h1
  · rw [h.2]; rfl
theorem idle_t1 (I : ([221, 253].any fun x => x == r0) = true ∧ IdleIx r1) (h0 : ([221, 253].any fun x => x == r0) = false) : false = true := h0.symm.trans I.1
theorem idle_t2 (I : ([221, 253].any fun x => x == r0) = true ∧ IdleIx r1) (h1 : r1 = 203) : false = true := absurd h1 I.2.1
theorem idle_t3 (I : ([221, 253].any fun x => x == r0) = true ∧ IdleIx r1) (h2 : ([221, 237, 253].any fun x => x == r1) = false) : (!turnsByIndex r1) = true := by
  rcases I.2.2 with h | h
  · exact absurd h (not_inL h2)
  · rw [h]; rfl
theorem idle_a (I : ([221, 253].any fun x => x == r0) = true ∧ IdleIx r1) : ([221, 253].any fun x => x == r0) = true := I.1
theorem told_n (h : r1 = 203) : (r1 != 203) = false := by rw [h]; rfl
theorem idle_n (I : ([221, 253].any fun x => x == r0) = true ∧ IdleIx r1) : (r1 != 203) = true := bne_iff_ne.mpr I.2.1
theorem no_len (h : lengthOf r0 r1 = many) (h' : many ≠ lengthOf r0 r1) : False := h' h.symm
theorem told_t3 (T : Told r0 r1 many) (h0 : ([221, 253].any fun x => x == r0) = true) (h1 : r1 ≠ 203) : ([221, 237, 253].any fun x => x == r1) = false := by
  rcases T.ni h0 with h | h
  · exact absurd h h1
  · exact h.1
theorem plain_db {wd : Str} (h : Plain wd) : (wd == Str.ofString "DB") = false := beq_eq_false_iff_ne.mpr h.db
theorem no_db {wd : Str} (h : (wd == Str.ofString "DB") = false) (h' : (wd == Str.ofString "DB") = true) : False := Bool.false_ne_true (h.symm.trans h')
theorem told_cases (T : Told r0 r1 many) (a : 0 ≤ r0) (b : r0 < 256) (c : 0 ≤ r1) (d : r1 < 256) : many = 1 ∨ many = 2 ∨ many = 3 ∨ many = 4 := T.len ▸ len_cases a b c d
theorem vs_num {ns : List Int} {n : Int} (T : Told (cell ns n) (cell ns (n + 1)) many) : ∀ v : Int, VS ns n v → NumOk many (cell ns n) (cell ns (n + 1)) (cell ns (n + 2)) (cell ns (n + 3)) v := fun v h => by
  unfold VS at h
  rwa [T.len] at h
theorem so_mod {r : Int} (h0 : 0 ≤ r) (h1 : r < 256) : (signedOctet r).fmod 256 = r := by
  rw [Int.fmod_eq_emod_of_nonneg _ (by decide)]
  unfold signedOctet
  split <;> omega
theorem cell_p {vs : List Value} {ns : List Int} (M : Mem vs ns) (n : Int) : cell ns (n.fmod 65536) = cell ns n := by
  rw [cell_eq M, cell_eq M]
  simp only [Int.fmod_eq_emod_of_nonneg _ (show (0 : Int) ≤ 64 by decide), Int.fmod_eq_emod_of_nonneg _ (show (0 : Int) ≤ 65536 by decide)]
  congr 2
  omega
theorem cell_p1 {vs : List Value} {ns : List Int} (M : Mem vs ns) (n : Int) : cell ns (n.fmod 65536 + 1) = cell ns (n + 1) := by
  rw [cell_eq M, cell_eq M]
  simp only [Int.fmod_eq_emod_of_nonneg _ (show (0 : Int) ≤ 64 by decide), Int.fmod_eq_emod_of_nonneg _ (show (0 : Int) ≤ 65536 by decide)]
  congr 2
  omega
theorem goal_p (n r : Int) : (n + 1 + 1 + signedOctet r) % 65536 = (n.fmod 65536 + 1 + 1 + signedOctet r) % 65536 := by
  rw [Int.fmod_eq_emod_of_nonneg _ (by decide)]; omega
theorem take_0 : ∀ k : Fin 256, (fx k.val = 0 ∧ fz k.val = 0 ∧ 2 ≤ fy k.val) → inL [221, 253] k.val = False ∧ (k.val : Int) ≠ 237 ∧ canMain k.val = decide ((k.val : Int) ≠ 24) := by decide +kernel
theorem take_s (a : 0 ≤ r0) (b : r0 < 256) (h : fx r0 = 0 ∧ fz r0 = 0 ∧ 2 ≤ fy r0) : canTake r0 r1 = decide (r0 ≠ 24) := by
  obtain ⟨h1, h2, h3⟩ := octs (P := fun n => (fx n = 0 ∧ fz n = 0 ∧ 2 ≤ fy n) → inL [221, 253] n = False ∧ n ≠ 237 ∧ canMain n = decide (n ≠ 24)) take_0 a b h
  unfold canTake
  rw [if_neg (by rw [h1]; exact id), if_neg h2]
  exact h3
end
theorem listItem {prog : Program} {w : World} {A : Around} {E : Value → Shared → Prop} {s : Shared} {value slice : PySem.Expr} {h₀ : Heap} {L l : Addr} {news : CbLed} {vs : List Value} {kk : Nat} {k : Int} {u : Tok} {v : Value} {Q : Value → Shared → Prop} (N : News h₀ L s.heap news)
    (hl : (l, listOf vs.toArray kk) ∈ news) (h0 : 0 ≤ k) (hhi : k < 2 ^ 63) (hx : vs[k.toNat]? = some v) (h : Q v s)
    (hs : subscripted slice false (.ref l) (.int k u) = operate [.ref l, .int k u] (getItem (.ref l) (.int k u)) := by with_unfolding_all rfl) :
    wpAny (model prog w) A (subscriptTail value slice (.ref l) (.int k u)) Q E s :=
  tail_any (News.isList N hl).typeIs slot_list_getitem.lookup (wpAny_getItem_list (News.isList N hl) h0 hhi (by simpa using hx) h) hs
section
theorem memSet {vs : List Value} {ns : List Int} {i : Nat} {x : Value} {v : Int} (M : Mem vs ns) (hi : IntsAre (vs.set i x) (ns.set i v)) (h0 : 0 ≤ v) (h1 : v < 256) : Mem (vs.set i x) (ns.set i v) :=
  ⟨hi, by rw [List.length_set]; exact M.size, fun y hy => by
    rcases List.mem_or_eq_of_mem_set hy with h | h
    · exact M.octs y h
    · rw [h]; exact ⟨h0, h1⟩⟩
theorem pick_rng {r : Int} (h0 : 0 ≤ r) (h1 : r < 256) (k : Nat) : 0 ≤ [203, 221, 237, 253, r].getD k 0 ∧ [203, 221, 237, 253, r].getD k 0 < 256 := by
  match k with
  | 0 => simp
  | 1 => simp
  | 2 => simp
  | 3 => simp
  | 4 => simp [h0, h1]
  | k + 5 => simp
theorem memPick {vs : List Value} {ns : List Int} {i k : Nat} {x : Value} {r : Int} (M : Mem vs ns) (hi : IntsAre (vs.set i x) (ns.set i ([203, 221, 237, 253, r].getD k 0))) (h0 : 0 ≤ r) (h1 : r < 256) : Mem (vs.set i x) (ns.set i ([203, 221, 237, 253, r].getD k 0)) :=
  memSet M hi (pick_rng h0 h1 k).1 (pick_rng h0 h1 k).2
theorem vs_at {vs : List Value} {ns : List Int} {o : Obj} {n : Int} {t : Tok} (M : Mem vs ns) (_ : o.data = Data.cell (some (Value.int n t))) : VB (VS ns n) (signedOctet (cell ns (n + 2))) ∧ VLow (VS ns n) ∧
    VIf (VS ns n) (([203, 221, 237, 253].any fun x => x == cell ns n) = false ∧ farOctets (cell ns n) = 2) (cell ns (n + 1) + 256 * cell ns (n + 1 + 1)) ∧
    VIf (VS ns n) (cell ns n = 237 ∧ fx (cell ns (n + 1)) = 1 ∧ fz (cell ns (n + 1)) = 3) (cell ns (n + 2) + 256 * cell ns (n + 2 + 1)) ∧
    VIf (VS ns n) (([221, 253].any fun x => x == cell ns n) = true ∧ cell ns (n + 1) ≠ 203 ∧ farOctets (cell ns (n + 1)) = 2) (cell ns (n + 2) + 256 * cell ns (n + 2 + 1)) :=
  ⟨vs_b M n, vs_low M n, vs_m M n, vs_e M n, vs_i M n⟩
end

-- C1
/-- a goal that the walk leaves as it is -/
theorem lines_C1_0 : True := by
  w_top off
  k_with_none
  trivial
structure Stop (P : Prop) : Prop where
  out : P
/-- what a part of the proof leaves to another text -/
structure Given (P : Prop) : Prop where
  it : P
theorem stop_in {P : Prop} (h : Stop P) : P := h.out
theorem lines_C1_1 : True := by
  k_with "call ref" => (k_here; k_dflt (refine' draw_c ?k1 ?k2 ?k3 ?k4 ?k5 ?kK ?hU ?hdc ?hod ?hcl ?hne ?hI ?hn ?c0 ?c1 ?m0 ?kd ?ku ?_; (case k1 => k_asm); (case k2 => k_asm); (case k3 => k_asm); (case k4 => k_asm); (case k5 => k_asm); (case hU => k_updF); (case hdc => assumption); (case hod => first | assumption | exact ‹Obj.IsDictOf _ _ _›); (case hcl => k_mem); (case hne => k_ne); (case hI => assumption); (case hn => omega); (case c0 => omega); (case c1 => omega); (case m0 => first | decide | omega); (case kK => first | exact rfl | assumption); (case kd => ktr_room); (case ku => ktr_units)); intro r9 t9 tc9 od9 h9 tk9 r0 r1 dd9 F9 N9; (try dsimp only at N9); (try dsimp only); (try k_sweep); (all_goals try k_fold))
  k_with "pyIter ref" => (k_here; (with_reducible show wpAny _ _ (pyIter (Value.ref _)) (fun it s₂ => LoopAtV _ _ _ _ _ _ _ _ _ it s₂) _ _); (rename Fr _ _ _ _ => lF'); (rename News _ _ _ _ => lN'); (rename IsRange _ _ _ _ _ _ _ _ => rgX); k_dflt (refine' loop1L (Str.ofString "octet") ?hh rgX lF' lN' ?hod ?hM ?h0 ?h1 ?gturn ?gdone; (case hh => exact rfl); (case hod => assumption); (case hM => exact mem0 (by assumption)); (case h0 => omega); (case h1 => omega)); clear lF' lN'; (case' gturn => intro od9 c9 tc9 vs9 ns9 kk9 k9 t9 u9 h9 tk9 own9 hM9 hb9 c0 c1 k0 k1 o1 o2 F' N'; (have hMi := hM9.are); (have hMl := hM9.size); (try dsimp only at F'); refine stop_in ?_); (case' gdone => intro vs9 ns9 kk9 u9 v9 h9 tk9 hM9 F' N'; (have hMi := hM9.are); (have hMl := hM9.size); (try dsimp only at F')); (all_goals try k_fold))
  k_with "exec For Name Call cons nil" => (k_here; (rename Fr _ _ _ _ => lF'); (with_unfolding_all refine' For_invVF lF' ?k1 ?k2 ?_; (case k1 => exact rfl); (case k2 => exact rfl); k_whole))
  k_with "exec For Name Call cons nil" => (k_here; (rename Fr _ _ _ _ => lF'); (with_unfolding_all refine' For_cellF lF' ?k1 ?k2 ?k3 ?_; (case k1 => exact rfl); (case k2 => exact rfl); (case k3 => exact rfl); k_whole))
  k_with "pyIter ref" => (k_here; (with_reducible show wpAny _ _ (pyIter (Value.ref _)) (fun it s₂ => LoopAtC _ _ _ _ _ _ _ _ _ it s₂) _ _); (rename Fr _ _ _ _ => lF'); (rename News _ _ _ _ => lN'); (rename IsRange _ _ _ _ _ _ _ _ => rgX); k_dflt (refine' loop2L ?hh rgX ?hs ?hz lF' lN' ?n1 ?n2 ?n3 ?ho ?hor ?gturnB ?gdoneB; (case hh => exact rfl); (case hs => exact small_one (by omega) (by omega) (by omega) (by omega)); (case hz => exact rs5 _); (case n1 => k_ne); (case n2 => k_ne); (case n3 => k_ne); (case ho => assumption); (case hor => assumption)); clear lF' lN'; (case' gturnB => intro n9 t9 m9 o9 or9 vr9 I9 oI9 h9 tk9 i1 i2 i3 i4 ho9 hr9 F' N'; (repeat ((rename Obj.IsDictOf _ _ _ => dd9); clear dd9)); refine stop_in ?_); (case' gdoneB => intro m9 h9 tk9 F'); (all_goals try k_fold))
  trivial
def c1 : (R1 : Prop) ×' (R2 : Prop) ×' (Given R1 → Given R2 → PySem.Challenge.rw_nz0573_01.Holds) := ⟨_, _, fun turnA turnB => Mine.hd (by
  k_go0; (all_goals try k_fold); k_steps
  skip
  · (rename Fr _ _ _ _ => kF9); (rename News _ _ _ _ => kN9); revert kF9 kN9; (repeat (rename Fr _ _ _ _ => z9; clear z9)); (repeat (rename News _ _ _ _ => z9; clear z9)); (repeat (rename CellsAre _ _ _ _ => z9; clear z9)); (repeat (rename Dflts _ _ _ _ _ _ => z9; clear z9)); (repeat (rename (_ = Data.cell (bindC _ _ _ _)) => z9; clear z9)); intro kF9 kN9
    (repeat (rename _ => zz; revert zz)); intro turnA turnB
    exact turnA.it
  · (rename Fr _ _ _ _ => kF9); (rename News _ _ _ _ => kN9); revert kF9 kN9; (repeat (rename Fr _ _ _ _ => z9; clear z9)); (repeat (rename News _ _ _ _ => z9; clear z9)); (repeat (rename CellsAre _ _ _ _ => z9; clear z9)); (repeat (rename Dflts _ _ _ _ _ _ => z9; clear z9)); (repeat (rename (_ = Data.cell (bindC _ _ _ _)) => z9; clear z9)); intro kF9 kN9
    (repeat (rename _ => zz; revert zz)); intro turnA turnB
    exact turnB.it)⟩

-- T1
theorem lines_T1_0 : True := by
  w_top off
  k_with_none
  k_with "Post1 cons next" => (k_dflt (refine' next1 ?F ?N ?hd ?hod ?hD ?hM ?hc ?h0 ?h1 ?hm; (case F => ((with_reducible rename Fr _ _ _ _ => kFF); exact kFF)); (case N => ((with_reducible rename News _ _ _ _ => kNN); exact kNN)); (case hd => k_mem); (case hod => assumption); (case hD => k_mem); (case hM => first | exact memPick (by assumption) (by assumption) (by omega) (by omega) | exact memSet (by assumption) (by assumption) (by omega) (by omega)); (case hc => exact (by intro p hp; repeat (first | exact hp | exact List.mem_append_right _ hp | exact List.mem_append_left _ hp | apply List.Mem.tail | apply List.mem_append_right))); (case h0 => omega); (case h1 => omega); (case hm => (intro z9 hz1 hz2; simp only [if_neg hz1, if_neg hz2]))))
  k_with "call ref" => (k_here; k_dflt (refine' draw_c ?k1 ?k2 ?k3 ?k4 ?k5 ?kK ?hU ?hdc ?hod ?hcl ?hne ?hI ?hn ?c0 ?c1 ?m0 ?kd ?ku ?_; (case k1 => k_asm); (case k2 => k_asm); (case k3 => k_asm); (case k4 => k_asm); (case k5 => k_asm); (case hU => k_updF); (case hdc => assumption); (case hod => first | assumption | exact ‹Obj.IsDictOf _ _ _›); (case hcl => k_mem); (case hne => k_ne); (case hI => assumption); (case hn => omega); (case c0 => omega); (case c1 => omega); (case m0 => first | decide | omega); (case kK => first | exact rfl | assumption); (case kd => ktr_room); (case ku => ktr_units)); intro r9 t9 tc9 od9 h9 tk9 r0 r1 dd9 F9 N9; (try dsimp only at N9); (try dsimp only); (try k_sweep); (all_goals try k_fold))
  trivial
theorem t1 : c1.2.1 := by
  delta c1
  dsimp only
  intros
  refine Stop.mk ?_
  (rename Frag.In _ _ => X9); revert X9; k_fill; intro X9
  (try k_fold)
  k_steps
  skip

-- C2
theorem lines_C2_0 : True := by
  w_top off
  k_with_none
  k_with "CompEnd" => (k_dflt (refine' compEnd0 ?k1 ?k2 ?k3 ?k5 ?_; (case k1 => ((with_reducible rename Fr _ _ _ _ => kFF); exact kFF)); (case k2 => ((with_reducible rename News _ _ _ _ => kNN); exact kNN)); (case k3 => first | assumption | (simp only [LCg.Off3, and_true]; first | done | assumption)); (case k5 => lcg_src)); (try dsimp only))
  k_with "CompSrc" => (k_here; k_dflt (refine LCg.CompSrc.range (by rfl) (by k_asm) (by k_asm) (by assumption) (by first | decide | rfl) (by first | rfl | decide) (by first | size_fits | exact Nat.le_of_ble_eq_true rfl) ?_; intro g'; lcg_lit))
  k_with "subscriptTail" => (k_here; (with_reducible show wpAny _ _ (subscriptTail _ _ (Value.ref _) (Value.int _ _)) _ _ _); k_dflt (refine' listItem ?N ?hl ?h0 ?h1 ?hx ?_ ?hs; (case h0 => decide); (case h1 => decide); (case N => k_asm); (case hl => k_mem); (case hx => exact rfl); (case hs => with_unfolding_all rfl)); (try dsimp only))
  k_with "subscriptTail Name Constant ref int" => (k_here; (with_reducible show wpAny _ _ (subscriptTail _ _ (Value.ref _) (Value.int _ _)) _ _ _); k_dflt (refine' listItem ?N ?hl ?h0 ?h1 ?hx ?_ ?hs; (case h0 => decide); (case h1 => decide); (case N => k_asm); (case hl => k_mem); (case hx => exact rfl); (case hs => with_unfolding_all rfl)); (try dsimp only))
  k_with "subscriptTail Name Name ref int" => (k_here; (with_reducible show wpAny _ _ (subscriptTail _ _ (Value.ref _) (Value.int _ _)) _ _ _); k_dflt (refine' listItem ?N ?hl ?h0 ?h1 ?hx ?_ ?hs; (case h0 => decide); (case h1 => decide); (case N => k_asm); (case hl => k_mem); (case hx => exact rfl); (case hs => with_unfolding_all rfl)); (try dsimp only))
  k_with "subscriptTail" => (k_here; (with_reducible show wpAny _ _ (subscriptTail _ _ (Value.ref _) (Value.int (Int.fmod _ 64) _)) _ _ _); k_dflt (refine' cellItem ?N ?hl ?hM ?he ?_ ?hs; (case N => k_asm); (case hl => k_mem); (case hM => assumption); (case he => first | exact cz0 _ | exact cz1 _ | exact cz2 _ | exact cz3 _ | exact cz4 _); (case hs => with_unfolding_all rfl)); intro t9 c9 c9; (try dsimp only))
  k_with "subscriptTail Name BinOp ref int" => (k_here; (with_reducible show wpAny _ _ (subscriptTail _ _ (Value.ref _) (Value.int (Int.fmod _ 64) _)) _ _ _); k_dflt (refine' cellItem ?N ?hl ?hM ?he ?_ ?hs; (case N => k_asm); (case hl => k_mem); (case hM => assumption); (case he => first | exact cz0 _ | exact cz1 _ | exact cz2 _ | exact cz3 _ | exact cz4 _); (case hs => with_unfolding_all rfl)); intro t9 c9 c9; (try dsimp only))
  k_with "compareOp In int ref" => (k_here; (with_reducible show wpAny _ _ (compareOp CmpOp.In (Value.int _ _) (Value.ref _)) _ _ _); k_dflt (refine' in_tuple_ints ?ht ?hi ?_; (case ht => exact News.isTup (by k_asm) (by k_mem)); (case hi => repeat constructor)); (try dsimp only))
  k_with "call ref" => (k_here; k_dflt (refine' decode_c ?k1 ?k2 ?k3 ?k4 ?k5 ?kK ?hVb ?hm ?hM ?hV1 ?hVm ?hVe ?hVi ?kd ?ku ?_ ?_ ?_ ?_ ?_ ?_; (case k1 => k_asm); (case k2 => k_asm); (case k3 => k_asm); (case k4 => k_asm); (case k5 => k_asm); (case hVb => assumption); (case hm => k_mem); (case hM => assumption); (case hV1 => assumption); (case hVm => assumption); (case hVe => assumption); (case hVi => assumption); (case kK => first | exact rfl | assumption); (case kd => ktr_room); (case ku => ktr_units)); (intro r9 l9 b9 t9 t9 u9 v9 nn9 h9 tk9 f9 F9 N9; refine stop_in ?_); rotate_left; (intro r9 l9 b9 b9 t9 t9 u9 v9 u9 v9 nn9 h9 tk9 f9 F9 N9; have hl9 := f9.len; refine stop_in ?_); rotate_left; (intro r9 l9 b9 b9 b9 b9 t9 t9 u9 v9 u9 v9 u9 v9 u9 v9 nn9 h9 tk9 f9 F9 N9; have hl9 := f9.len; refine stop_in ?_); rotate_left; (intro r9 wd9 tw9 l9 g9 gt9 gu9 nn9 many9 tm9 h9 tk9 jw9 jf9 td9 F9 N9; have hl9 := td9.len; (rcases jw9 with jw9 | jw9) <;> (subst jw9; refine stop_in ?_)); rotate_left 2; (intro r9 wd9 tw9 l9 f9 g9 gt9 gu9 nn9 many9 tm9 h9 tk9 jw9 jf9 td9 F9 N9; have hl9 := td9.len; (rcases jw9 with jw9 | jw9) <;> (subst jw9; refine stop_in ?_)); rotate_left 2; (intro r9 wd9 tw9 l9 ops9 nn9 many9 tm9 led9 h9 tk9 pw9 len9 q9 f9 F9 N9; have hl9 := f9.len; have hw9 := plain_db pw9; replace N9 := newsSwap N9; (try simp only [List.cons_append, List.nil_append] at N9); refine stop_in ?_); rotate_left; (try dsimp only); (try k_sweep); (all_goals try k_fold))
  trivial
def c2 : (S1 : Prop) ×' (S2 : Prop) ×' (S3 : Prop) ×' (S4 : Prop) ×' (S5 : Prop) ×' (S6 : Prop) ×' (S7 : Prop) ×' (S8 : Prop) ×' (Given S1 → Given S2 → Given S3 → Given S4 → Given S5 → Given S6 → Given S7 → Given S8 → c1.1) := ⟨_, _, _, _, _, _, _, _, fun partS1 partS2 partS3 partS4 partS5 partS6 partS7 partS8 => by
  delta c1
  dsimp only
  intros
  refine Stop.mk ?_
  (rename Frag.In _ _ => X9); revert X9; k_fill; intro X9
  (try k_fold)
  (rename Mem _ _ => hMM); (rename (_ = Data.cell (some (Value.int _ _))) => hHH); obtain ⟨hVb9, hV19, hVm9, hVe9, hVi9⟩ := vs_at hMM hHH
  k_steps
  skip
  · (rename Fr _ _ _ _ => kF9); (rename News _ _ _ _ => kN9); revert kF9 kN9; (repeat (rename Fr _ _ _ _ => z9; clear z9)); (repeat (rename News _ _ _ _ => z9; clear z9)); (repeat (rename CellsAre _ _ _ _ => z9; clear z9)); (repeat (rename Dflts _ _ _ _ _ _ => z9; clear z9)); (repeat (rename (_ = Data.cell (bindC _ _ _ _)) => z9; clear z9)); intro kF9 kN9; (repeat (rename IntsAre _ _ => z9; clear z9)); (repeat (rename ReadsAll _ _ _ _ => z9; clear z9)); (repeat (rename Reads _ _ _ _ => z9; clear z9)); (repeat (rename VIf _ _ _ => z9; clear z9))
    (repeat (rename _ => zz; revert zz)); intro partS1 partS2 partS3 partS4 partS5 partS6 partS7 partS8
    exact partS1.it
  · (rename Fr _ _ _ _ => kF9); (rename News _ _ _ _ => kN9); revert kF9 kN9; (repeat (rename Fr _ _ _ _ => z9; clear z9)); (repeat (rename News _ _ _ _ => z9; clear z9)); (repeat (rename CellsAre _ _ _ _ => z9; clear z9)); (repeat (rename Dflts _ _ _ _ _ _ => z9; clear z9)); (repeat (rename (_ = Data.cell (bindC _ _ _ _)) => z9; clear z9)); intro kF9 kN9; (repeat (rename IntsAre _ _ => z9; clear z9)); (repeat (rename ReadsAll _ _ _ _ => z9; clear z9)); (repeat (rename Reads _ _ _ _ => z9; clear z9)); (repeat (rename VIf _ _ _ => z9; clear z9))
    (repeat (rename _ => zz; revert zz)); intro partS1 partS2 partS3 partS4 partS5 partS6 partS7 partS8
    exact partS2.it
  · (rename Fr _ _ _ _ => kF9); (rename News _ _ _ _ => kN9); revert kF9 kN9; (repeat (rename Fr _ _ _ _ => z9; clear z9)); (repeat (rename News _ _ _ _ => z9; clear z9)); (repeat (rename CellsAre _ _ _ _ => z9; clear z9)); (repeat (rename Dflts _ _ _ _ _ _ => z9; clear z9)); (repeat (rename (_ = Data.cell (bindC _ _ _ _)) => z9; clear z9)); intro kF9 kN9; (repeat (rename IntsAre _ _ => z9; clear z9)); (repeat (rename ReadsAll _ _ _ _ => z9; clear z9)); (repeat (rename Reads _ _ _ _ => z9; clear z9)); (repeat (rename VIf _ _ _ => z9; clear z9))
    (repeat (rename _ => zz; revert zz)); intro partS1 partS2 partS3 partS4 partS5 partS6 partS7 partS8
    exact partS3.it
  · (rename Fr _ _ _ _ => kF9); (rename News _ _ _ _ => kN9); revert kF9 kN9; (repeat (rename Fr _ _ _ _ => z9; clear z9)); (repeat (rename News _ _ _ _ => z9; clear z9)); (repeat (rename CellsAre _ _ _ _ => z9; clear z9)); (repeat (rename Dflts _ _ _ _ _ _ => z9; clear z9)); (repeat (rename (_ = Data.cell (bindC _ _ _ _)) => z9; clear z9)); intro kF9 kN9; (repeat (rename IntsAre _ _ => z9; clear z9)); (repeat (rename ReadsAll _ _ _ _ => z9; clear z9)); (repeat (rename Reads _ _ _ _ => z9; clear z9)); (repeat (rename VIf _ _ _ => z9; clear z9))
    (repeat (rename _ => zz; revert zz)); intro partS1 partS2 partS3 partS4 partS5 partS6 partS7 partS8
    exact partS4.it
  · (rename Fr _ _ _ _ => kF9); (rename News _ _ _ _ => kN9); revert kF9 kN9; (repeat (rename Fr _ _ _ _ => z9; clear z9)); (repeat (rename News _ _ _ _ => z9; clear z9)); (repeat (rename CellsAre _ _ _ _ => z9; clear z9)); (repeat (rename Dflts _ _ _ _ _ _ => z9; clear z9)); (repeat (rename (_ = Data.cell (bindC _ _ _ _)) => z9; clear z9)); intro kF9 kN9; (repeat (rename IntsAre _ _ => z9; clear z9)); (repeat (rename ReadsAll _ _ _ _ => z9; clear z9)); (repeat (rename Reads _ _ _ _ => z9; clear z9)); (repeat (rename VIf _ _ _ => z9; clear z9))
    (repeat (rename _ => zz; revert zz)); intro partS1 partS2 partS3 partS4 partS5 partS6 partS7 partS8
    exact partS5.it
  · (rename Fr _ _ _ _ => kF9); (rename News _ _ _ _ => kN9); revert kF9 kN9; (repeat (rename Fr _ _ _ _ => z9; clear z9)); (repeat (rename News _ _ _ _ => z9; clear z9)); (repeat (rename CellsAre _ _ _ _ => z9; clear z9)); (repeat (rename Dflts _ _ _ _ _ _ => z9; clear z9)); (repeat (rename (_ = Data.cell (bindC _ _ _ _)) => z9; clear z9)); intro kF9 kN9; (repeat (rename IntsAre _ _ => z9; clear z9)); (repeat (rename ReadsAll _ _ _ _ => z9; clear z9)); (repeat (rename Reads _ _ _ _ => z9; clear z9)); (repeat (rename VIf _ _ _ => z9; clear z9))
    (repeat (rename _ => zz; revert zz)); intro partS1 partS2 partS3 partS4 partS5 partS6 partS7 partS8
    exact partS6.it
  · (rename Fr _ _ _ _ => kF9); (rename News _ _ _ _ => kN9); revert kF9 kN9; (repeat (rename Fr _ _ _ _ => z9; clear z9)); (repeat (rename News _ _ _ _ => z9; clear z9)); (repeat (rename CellsAre _ _ _ _ => z9; clear z9)); (repeat (rename Dflts _ _ _ _ _ _ => z9; clear z9)); (repeat (rename (_ = Data.cell (bindC _ _ _ _)) => z9; clear z9)); intro kF9 kN9; (repeat (rename IntsAre _ _ => z9; clear z9)); (repeat (rename ReadsAll _ _ _ _ => z9; clear z9)); (repeat (rename Reads _ _ _ _ => z9; clear z9)); (repeat (rename VIf _ _ _ => z9; clear z9))
    (repeat (rename _ => zz; revert zz)); intro partS1 partS2 partS3 partS4 partS5 partS6 partS7 partS8
    exact partS7.it
  · (rename Fr _ _ _ _ => kF9); (rename News _ _ _ _ => kN9); revert kF9 kN9; (repeat (rename Fr _ _ _ _ => z9; clear z9)); (repeat (rename News _ _ _ _ => z9; clear z9)); (repeat (rename CellsAre _ _ _ _ => z9; clear z9)); (repeat (rename Dflts _ _ _ _ _ _ => z9; clear z9)); (repeat (rename (_ = Data.cell (bindC _ _ _ _)) => z9; clear z9)); intro kF9 kN9; (repeat (rename IntsAre _ _ => z9; clear z9)); (repeat (rename ReadsAll _ _ _ _ => z9; clear z9)); (repeat (rename Reads _ _ _ _ => z9; clear z9)); (repeat (rename VIf _ _ _ => z9; clear z9))
    (repeat (rename _ => zz; revert zz)); intro partS1 partS2 partS3 partS4 partS5 partS6 partS7 partS8
    exact partS8.it⟩

-- U1
theorem lines_U1_0 : True := by
  w_top off
  k_with_none
  k_with "CompEnd" => (k_dflt (refine' compEnd0 ?k1 ?k2 ?k3 ?k5 ?_; (case k1 => ((with_reducible rename Fr _ _ _ _ => kFF); exact kFF)); (case k2 => ((with_reducible rename News _ _ _ _ => kNN); exact kNN)); (case k3 => first | assumption | (simp only [LCg.Off3, and_true]; first | done | assumption)); (case k5 => lcg_src)); (try dsimp only))
  k_with "CompEnd" => (k_dflt (refine' compEnd1 ?k1 ?k2 ?k3 ?k4 ?k5 ?_; (case k1 => ((with_reducible rename Fr _ _ _ _ => kFF); exact kFF)); (case k2 => ((with_reducible rename News _ _ _ _ => kNN); exact kNN)); (case k3 => first | assumption | (simp only [LCg.Off3, and_true]; first | done | assumption)); (case k4 => refine ⟨?_, ?_, ?_⟩ <;> (refine ltN ?_; omega)); (case k5 => lcg_src)); (try dsimp only))
  k_with "CompSrc" => (k_here; k_dflt (refine LCg.CompSrc.range (by rfl) (by k_asm) (by k_asm) (by assumption) (by first | decide | rfl) (by first | rfl | decide) (by first | size_fits | exact Nat.le_of_ble_eq_true rfl) ?_; intro g'; lcg_lit))
  k_with "subscriptTail" => (k_here; (with_reducible show wpAny _ _ (subscriptTail _ _ (Value.ref _) (Value.int _ _)) _ _ _); k_dflt (refine' listItem ?N ?hl ?h0 ?h1 ?hx ?_ ?hs; (case h0 => decide); (case h1 => decide); (case N => k_asm); (case hl => k_mem); (case hx => exact rfl); (case hs => with_unfolding_all rfl)); (try dsimp only))
  k_with "subscriptTail Name Constant ref int" => (k_here; (with_reducible show wpAny _ _ (subscriptTail _ _ (Value.ref _) (Value.int _ _)) _ _ _); k_dflt (refine' listItem ?N ?hl ?h0 ?h1 ?hx ?_ ?hs; (case h0 => decide); (case h1 => decide); (case N => k_asm); (case hl => k_mem); (case hx => exact rfl); (case hs => with_unfolding_all rfl)); (try dsimp only))
  k_with "subscriptTail Name Name ref int" => (k_here; (with_reducible show wpAny _ _ (subscriptTail _ _ (Value.ref _) (Value.int _ _)) _ _ _); k_dflt (refine' listItem ?N ?hl ?h0 ?h1 ?hx ?_ ?hs; (case h0 => decide); (case h1 => decide); (case N => k_asm); (case hl => k_mem); (case hx => exact rfl); (case hs => with_unfolding_all rfl)); (try dsimp only))
  k_with "subscriptTail" => (k_here; (with_reducible show wpAny _ _ (subscriptTail _ _ (Value.ref _) (Value.int (Int.fmod _ 64) _)) _ _ _); k_dflt (refine' cellItem ?N ?hl ?hM ?he ?_ ?hs; (case N => k_asm); (case hl => k_mem); (case hM => assumption); (case he => first | exact cz0 _ | exact cz1 _ | exact cz2 _ | exact cz3 _ | exact cz4 _); (case hs => with_unfolding_all rfl)); intro t9 c9 c9; (try dsimp only))
  k_with "subscriptTail Name BinOp ref int" => (k_here; (with_reducible show wpAny _ _ (subscriptTail _ _ (Value.ref _) (Value.int (Int.fmod _ 64) _)) _ _ _); k_dflt (refine' cellItem ?N ?hl ?hM ?he ?_ ?hs; (case N => k_asm); (case hl => k_mem); (case hM => assumption); (case he => first | exact cz0 _ | exact cz1 _ | exact cz2 _ | exact cz3 _ | exact cz4 _); (case hs => with_unfolding_all rfl)); intro t9 c9 c9; (try dsimp only))
  k_with "compareOp In int ref" => (k_here; (with_reducible show wpAny _ _ (compareOp CmpOp.In (Value.int _ _) (Value.ref _)) _ _ _); k_dflt (refine' in_tuple_ints ?ht ?hi ?_; (case ht => exact News.isTup (by k_asm) (by k_mem)); (case hi => repeat constructor)); (try dsimp only))
  k_with "eval BoolOp And cons" => (k_here; goal_lacks Mine.CutPost; (rename (Told _ _ _) => hTo); (rename Fr _ _ _ _ => lF'); (rename News _ _ _ _ => lN'); k_dflt (refine' cutEval false lF' lN' ?_ ?_); rotate_left; (clear lF' lN'; intro h9 tk9 F' N'; (try dsimp only)); rotate_left; (try dsimp only))
  k_with "eval BoolOp And cons" => (k_here; goal_lacks Mine.CutPost; (rename (_ ∧ IdleIx _) => hTo); (rename Fr _ _ _ _ => lF'); (rename News _ _ _ _ => lN'); k_dflt (refine' cutEval true lF' lN' ?_ ?_); rotate_left; (clear lF' lN'; intro h9 tk9 F' N'; (try dsimp only)); rotate_left; (try dsimp only))
  k_with "CutPost" => (k_dflt (refine' cutEnd ?e ?F ?N ?hs; (case F => ((with_reducible rename Fr _ _ _ _ => kFF); exact kFF)); (case N => ((with_reducible rename News _ _ _ _ => kNN); exact kNN)); (case e => first | rfl | assumption | exact told_t1 (by assumption) (by assumption) (by assumption) (by assumption) | exact told_t2 (by assumption) (by assumption) (by assumption) (by assumption) | exact idle_t1 (by assumption) (by assumption) | exact idle_t2 (by assumption) (by assumption) | exact idle_t3 (by assumption) (by assumption) | exact idle_a (by assumption) | exact told_t3 (by assumption) (by assumption) (by assumption) | exact told_n (by assumption) | exact idle_n (by assumption)); (case hs => exact (by intro p hp; repeat (first | exact hp | exact List.mem_append_right _ hp | exact List.mem_append_left _ hp | apply List.Mem.tail | apply List.mem_append_right)))))
  k_with "Post2 cons next" => (k_dflt (refine' next2 ?F ?N ?h1 ?h2 ?h3 ?h4 ?h5 ?h6 ?h7; (case F => ((with_reducible rename Fr _ _ _ _ => kFF); exact kFF)); (case N => ((with_reducible rename News _ _ _ _ => kNN); exact kNN)); (case h1 => k_mem); (case h2 => k_mem); (case h3 => k_mem); (case h4 => k_mem); (case h5 => k_mem); (case h6 => assumption); (case h7 => assumption)))
  k_with "Post2 next" => (k_dflt (refine' next2 ?F ?N ?h1 ?h2 ?h3 ?h4 ?h5 ?h6 ?h7; (case F => ((with_reducible rename Fr _ _ _ _ => kFF); exact kFF)); (case N => ((with_reducible rename News _ _ _ _ => kNN); exact kNN)); (case h1 => k_mem); (case h2 => k_mem); (case h3 => k_mem); (case h4 => k_mem); (case h5 => k_mem); (case h6 => assumption); (case h7 => assumption)))
  k_with "call ref" => (k_here; k_dflt (refine' turns_by_index_c ?k1 ?k2 ?k3 ?k4 ?k5 ?kK  ?kd ?ku ?_; (case k1 => k_asm); (case k2 => k_asm); (case k3 => k_asm); (case k4 => k_asm); (case k5 => k_asm);  (case kK => first | exact rfl | assumption); (case kd => ktr_room); (case ku => ktr_units)); intro t9 h9 tk9  F9 N9; (try dsimp only); (try k_sweep); (all_goals try k_fold))
  k_with "call ref" => (k_here; k_dflt (refine' length_of_c ?k1 ?k2 ?k3 ?k4 ?k5 ?kK ?hm ?hM ?kd ?ku ?_; (case k1 => k_asm); (case k2 => k_asm); (case k3 => k_asm); (case k4 => k_asm); (case k5 => k_asm); (case hm => k_mem); (case hM => assumption); (case kK => first | exact rfl | assumption); (case kd => ktr_room); (case ku => ktr_units)); intro t9 h9 tk9  F9 N9; (try dsimp only); (try k_sweep); (all_goals try k_fold))
  k_with "call ref" => (k_here; k_dflt (refine' codes_right_c ?k1 ?k2 ?k3 ?k4 ?k5 ?kK ?p0 ?p1 ?kd ?ku ?_; (case k1 => k_asm); (case k2 => k_asm); (case k3 => k_asm); (case k4 => k_asm); (case k5 => k_asm); (case p0 => first | assumption | omega | l_fact); (case p1 => first | assumption | omega | l_fact); (case kK => first | exact rfl | assumption); (case kd => ktr_room); (case ku => ktr_units)); intro t9 h9 tk9  F9 N9; (try dsimp only); (try k_sweep); (all_goals try k_fold))
  k_with "call ref" => (k_here; k_dflt (refine' numbers_c ?k1 ?k2 ?k3 ?k4 ?k5 ?kK ?hrl ?hlo ?hO ?hV ?hb ?hmany ?kd ?ku ?_; (case k1 => k_asm); (case k2 => k_asm); (case k3 => k_asm); (case k4 => k_asm); (case k5 => k_asm); (case hrl => k_mem); (case hlo => k_mem); (case hO => exact OpsIn.mono (by assumption) (by intro p hp; repeat (first | exact hp | exact List.mem_append_right _ hp | exact List.mem_append_left _ hp | apply List.Mem.tail | apply List.mem_append_right))); (case hV => exact vs_num (by assumption)); (case hb => exact so_mod (by assumption) (by assumption)); (case hmany => exact told_cases (by assumption) (by assumption) (by assumption) (by assumption) (by assumption)); (case kK => first | exact rfl | assumption); (case kd => ktr_room); (case ku => ktr_units)); intro h9 tk9 F9 N9; (try dsimp only); (try k_sweep); (all_goals try k_fold))
  k_with "call ref" => (k_here; k_dflt (refine' jump_no ?k1 ?k2 ?k3 ?k4 ?k5 ?kK ?hj1 ?hj2 ?kd ?ku ?_; (case k1 => k_asm); (case k2 => k_asm); (case k3 => k_asm); (case k4 => k_asm); (case k5 => k_asm); (case hj1 => first | assumption | exact Plain.jr (by assumption) | (decide +kernel)); (case hj2 => first | assumption | exact Plain.djnz (by assumption) | (decide +kernel)); (case kK => first | exact rfl | assumption); (case kd => ktr_room); (case ku => ktr_units)); intro h9 tk9 F9 N9; (try dsimp only); (try k_sweep); (all_goals try k_fold))
  k_with "call ref" => (k_here; k_dflt (refine' jump_c ?k1 ?k2 ?k3 ?k4 ?k5 ?kK ?hm ?hM ?hrl ?hlo ?hops ?hg ?hw ?hgoal ?hc0 ?hc1 ?hct ?kd ?ku ?_; (case k1 => k_asm); (case k2 => k_asm); (case k3 => k_asm); (case k4 => k_asm); (case k5 => k_asm); (case hm => k_mem); (case hM => assumption); (case hrl => k_mem); (case hlo => k_mem); (case hops => first | exact .inl rfl | exact .inr rfl); (case hg => k_mem); (case hw => first | assumption | exact .inl rfl | exact .inr rfl); (case hgoal => exact goal_p _ _); (case hc0 => exact cell_p (by assumption) _); (case hc1 => exact cell_p1 (by assumption) _); (case hct => exact take_s (by assumption) (by assumption) (by assumption)); (case kK => first | exact rfl | assumption); (case kd => ktr_room); (case ku => ktr_units)); intro h9 tk9 F9 N9; (try dsimp only); (try k_sweep); (all_goals try k_fold))
  k_with "call ref" => (k_here; k_dflt (refine' jump_c (fa := (0 : Nat)) ?k1 ?k2 ?k3 ?k4 ?k5 ?kK ?hm ?hM ?hrl ?hlo ?hops ?hg ?hw ?hgoal ?hc0 ?hc1 ?hct ?kd ?ku ?_; (case k1 => k_asm); (case k2 => k_asm); (case k3 => k_asm); (case k4 => k_asm); (case k5 => k_asm); (case hm => k_mem); (case hM => assumption); (case hrl => k_mem); (case hlo => k_mem); (case hops => first | exact .inl rfl | exact .inr rfl); (case hg => k_mem); (case hw => first | assumption | exact .inl rfl | exact .inr rfl); (case hgoal => exact goal_p _ _); (case hc0 => exact cell_p (by assumption) _); (case hc1 => exact cell_p1 (by assumption) _); (case hct => exact take_s (by assumption) (by assumption) (by assumption)); (case kK => first | exact rfl | assumption); (case kd => ktr_room); (case ku => ktr_units)); intro h9 tk9 F9 N9; (try dsimp only); (try k_sweep); (all_goals try k_fold))
  trivial
theorem u1 : c2.1 := by
  delta c2
  dsimp only
  intros
  refine Stop.mk ?_
  (rename Frag.In _ _ => X9); revert X9; k_fill; intro X9
  (try k_fold)
  k_steps
  all_goals first | (exact (no_len (by assumption) (by assumption)).elim) | (exact (no_db (by assumption) (by assumption)).elim)

-- U2
theorem lines_U2_0 : True := by
  w_top off
  k_with_none
  k_with "CompEnd" => (k_dflt (refine' compEnd0 ?k1 ?k2 ?k3 ?k5 ?_; (case k1 => ((with_reducible rename Fr _ _ _ _ => kFF); exact kFF)); (case k2 => ((with_reducible rename News _ _ _ _ => kNN); exact kNN)); (case k3 => first | assumption | (simp only [LCg.Off3, and_true]; first | done | assumption)); (case k5 => lcg_src)); (try dsimp only))
  k_with "CompEnd" => (k_dflt (refine' compEnd1 ?k1 ?k2 ?k3 ?k4 ?k5 ?_; (case k1 => ((with_reducible rename Fr _ _ _ _ => kFF); exact kFF)); (case k2 => ((with_reducible rename News _ _ _ _ => kNN); exact kNN)); (case k3 => first | assumption | (simp only [LCg.Off3, and_true]; first | done | assumption)); (case k4 => refine ⟨?_, ?_, ?_⟩ <;> (refine ltN ?_; omega)); (case k5 => lcg_src)); (try dsimp only))
  k_with "CompSrc" => (k_here; k_dflt (refine LCg.CompSrc.range (by rfl) (by k_asm) (by k_asm) (by assumption) (by first | decide | rfl) (by first | rfl | decide) (by first | size_fits | exact Nat.le_of_ble_eq_true rfl) ?_; intro g'; lcg_lit))
  k_with "subscriptTail" => (k_here; (with_reducible show wpAny _ _ (subscriptTail _ _ (Value.ref _) (Value.int _ _)) _ _ _); k_dflt (refine' listItem ?N ?hl ?h0 ?h1 ?hx ?_ ?hs; (case h0 => decide); (case h1 => decide); (case N => k_asm); (case hl => k_mem); (case hx => exact rfl); (case hs => with_unfolding_all rfl)); (try dsimp only))
  k_with "subscriptTail Name Constant ref int" => (k_here; (with_reducible show wpAny _ _ (subscriptTail _ _ (Value.ref _) (Value.int _ _)) _ _ _); k_dflt (refine' listItem ?N ?hl ?h0 ?h1 ?hx ?_ ?hs; (case h0 => decide); (case h1 => decide); (case N => k_asm); (case hl => k_mem); (case hx => exact rfl); (case hs => with_unfolding_all rfl)); (try dsimp only))
  k_with "subscriptTail Name Name ref int" => (k_here; (with_reducible show wpAny _ _ (subscriptTail _ _ (Value.ref _) (Value.int _ _)) _ _ _); k_dflt (refine' listItem ?N ?hl ?h0 ?h1 ?hx ?_ ?hs; (case h0 => decide); (case h1 => decide); (case N => k_asm); (case hl => k_mem); (case hx => exact rfl); (case hs => with_unfolding_all rfl)); (try dsimp only))
  k_with "subscriptTail" => (k_here; (with_reducible show wpAny _ _ (subscriptTail _ _ (Value.ref _) (Value.int (Int.fmod _ 64) _)) _ _ _); k_dflt (refine' cellItem ?N ?hl ?hM ?he ?_ ?hs; (case N => k_asm); (case hl => k_mem); (case hM => assumption); (case he => first | exact cz0 _ | exact cz1 _ | exact cz2 _ | exact cz3 _ | exact cz4 _); (case hs => with_unfolding_all rfl)); intro t9 c9 c9; (try dsimp only))
  k_with "subscriptTail Name BinOp ref int" => (k_here; (with_reducible show wpAny _ _ (subscriptTail _ _ (Value.ref _) (Value.int (Int.fmod _ 64) _)) _ _ _); k_dflt (refine' cellItem ?N ?hl ?hM ?he ?_ ?hs; (case N => k_asm); (case hl => k_mem); (case hM => assumption); (case he => first | exact cz0 _ | exact cz1 _ | exact cz2 _ | exact cz3 _ | exact cz4 _); (case hs => with_unfolding_all rfl)); intro t9 c9 c9; (try dsimp only))
  k_with "compareOp In int ref" => (k_here; (with_reducible show wpAny _ _ (compareOp CmpOp.In (Value.int _ _) (Value.ref _)) _ _ _); k_dflt (refine' in_tuple_ints ?ht ?hi ?_; (case ht => exact News.isTup (by k_asm) (by k_mem)); (case hi => repeat constructor)); (try dsimp only))
  k_with "eval BoolOp And cons" => (k_here; goal_lacks Mine.CutPost; (rename (Told _ _ _) => hTo); (rename Fr _ _ _ _ => lF'); (rename News _ _ _ _ => lN'); k_dflt (refine' cutEval false lF' lN' ?_ ?_); rotate_left; (clear lF' lN'; intro h9 tk9 F' N'; (try dsimp only)); rotate_left; (try dsimp only))
  k_with "eval BoolOp And cons" => (k_here; goal_lacks Mine.CutPost; (rename (_ ∧ IdleIx _) => hTo); (rename Fr _ _ _ _ => lF'); (rename News _ _ _ _ => lN'); k_dflt (refine' cutEval true lF' lN' ?_ ?_); rotate_left; (clear lF' lN'; intro h9 tk9 F' N'; (try dsimp only)); rotate_left; (try dsimp only))
  k_with "CutPost" => (k_dflt (refine' cutEnd ?e ?F ?N ?hs; (case F => ((with_reducible rename Fr _ _ _ _ => kFF); exact kFF)); (case N => ((with_reducible rename News _ _ _ _ => kNN); exact kNN)); (case e => first | rfl | assumption | exact told_t1 (by assumption) (by assumption) (by assumption) (by assumption) | exact told_t2 (by assumption) (by assumption) (by assumption) (by assumption) | exact idle_t1 (by assumption) (by assumption) | exact idle_t2 (by assumption) (by assumption) | exact idle_t3 (by assumption) (by assumption) | exact idle_a (by assumption) | exact told_t3 (by assumption) (by assumption) (by assumption) | exact told_n (by assumption) | exact idle_n (by assumption)); (case hs => exact (by intro p hp; repeat (first | exact hp | exact List.mem_append_right _ hp | exact List.mem_append_left _ hp | apply List.Mem.tail | apply List.mem_append_right)))))
  k_with "Post2 cons next" => (k_dflt (refine' next2 ?F ?N ?h1 ?h2 ?h3 ?h4 ?h5 ?h6 ?h7; (case F => ((with_reducible rename Fr _ _ _ _ => kFF); exact kFF)); (case N => ((with_reducible rename News _ _ _ _ => kNN); exact kNN)); (case h1 => k_mem); (case h2 => k_mem); (case h3 => k_mem); (case h4 => k_mem); (case h5 => k_mem); (case h6 => assumption); (case h7 => assumption)))
  k_with "Post2 next" => (k_dflt (refine' next2 ?F ?N ?h1 ?h2 ?h3 ?h4 ?h5 ?h6 ?h7; (case F => ((with_reducible rename Fr _ _ _ _ => kFF); exact kFF)); (case N => ((with_reducible rename News _ _ _ _ => kNN); exact kNN)); (case h1 => k_mem); (case h2 => k_mem); (case h3 => k_mem); (case h4 => k_mem); (case h5 => k_mem); (case h6 => assumption); (case h7 => assumption)))
  k_with "call ref" => (k_here; k_dflt (refine' turns_by_index_c ?k1 ?k2 ?k3 ?k4 ?k5 ?kK  ?kd ?ku ?_; (case k1 => k_asm); (case k2 => k_asm); (case k3 => k_asm); (case k4 => k_asm); (case k5 => k_asm);  (case kK => first | exact rfl | assumption); (case kd => ktr_room); (case ku => ktr_units)); intro t9 h9 tk9  F9 N9; (try dsimp only); (try k_sweep); (all_goals try k_fold))
  k_with "call ref" => (k_here; k_dflt (refine' length_of_c ?k1 ?k2 ?k3 ?k4 ?k5 ?kK ?hm ?hM ?kd ?ku ?_; (case k1 => k_asm); (case k2 => k_asm); (case k3 => k_asm); (case k4 => k_asm); (case k5 => k_asm); (case hm => k_mem); (case hM => assumption); (case kK => first | exact rfl | assumption); (case kd => ktr_room); (case ku => ktr_units)); intro t9 h9 tk9  F9 N9; (try dsimp only); (try k_sweep); (all_goals try k_fold))
  k_with "call ref" => (k_here; k_dflt (refine' codes_right_c ?k1 ?k2 ?k3 ?k4 ?k5 ?kK ?p0 ?p1 ?kd ?ku ?_; (case k1 => k_asm); (case k2 => k_asm); (case k3 => k_asm); (case k4 => k_asm); (case k5 => k_asm); (case p0 => first | assumption | omega | l_fact); (case p1 => first | assumption | omega | l_fact); (case kK => first | exact rfl | assumption); (case kd => ktr_room); (case ku => ktr_units)); intro t9 h9 tk9  F9 N9; (try dsimp only); (try k_sweep); (all_goals try k_fold))
  k_with "call ref" => (k_here; k_dflt (refine' numbers_c ?k1 ?k2 ?k3 ?k4 ?k5 ?kK ?hrl ?hlo ?hO ?hV ?hb ?hmany ?kd ?ku ?_; (case k1 => k_asm); (case k2 => k_asm); (case k3 => k_asm); (case k4 => k_asm); (case k5 => k_asm); (case hrl => k_mem); (case hlo => k_mem); (case hO => exact OpsIn.mono (by assumption) (by intro p hp; repeat (first | exact hp | exact List.mem_append_right _ hp | exact List.mem_append_left _ hp | apply List.Mem.tail | apply List.mem_append_right))); (case hV => exact vs_num (by assumption)); (case hb => exact so_mod (by assumption) (by assumption)); (case hmany => exact told_cases (by assumption) (by assumption) (by assumption) (by assumption) (by assumption)); (case kK => first | exact rfl | assumption); (case kd => ktr_room); (case ku => ktr_units)); intro h9 tk9 F9 N9; (try dsimp only); (try k_sweep); (all_goals try k_fold))
  k_with "call ref" => (k_here; k_dflt (refine' jump_no ?k1 ?k2 ?k3 ?k4 ?k5 ?kK ?hj1 ?hj2 ?kd ?ku ?_; (case k1 => k_asm); (case k2 => k_asm); (case k3 => k_asm); (case k4 => k_asm); (case k5 => k_asm); (case hj1 => first | assumption | exact Plain.jr (by assumption) | (decide +kernel)); (case hj2 => first | assumption | exact Plain.djnz (by assumption) | (decide +kernel)); (case kK => first | exact rfl | assumption); (case kd => ktr_room); (case ku => ktr_units)); intro h9 tk9 F9 N9; (try dsimp only); (try k_sweep); (all_goals try k_fold))
  k_with "call ref" => (k_here; k_dflt (refine' jump_c ?k1 ?k2 ?k3 ?k4 ?k5 ?kK ?hm ?hM ?hrl ?hlo ?hops ?hg ?hw ?hgoal ?hc0 ?hc1 ?hct ?kd ?ku ?_; (case k1 => k_asm); (case k2 => k_asm); (case k3 => k_asm); (case k4 => k_asm); (case k5 => k_asm); (case hm => k_mem); (case hM => assumption); (case hrl => k_mem); (case hlo => k_mem); (case hops => first | exact .inl rfl | exact .inr rfl); (case hg => k_mem); (case hw => first | assumption | exact .inl rfl | exact .inr rfl); (case hgoal => exact goal_p _ _); (case hc0 => exact cell_p (by assumption) _); (case hc1 => exact cell_p1 (by assumption) _); (case hct => exact take_s (by assumption) (by assumption) (by assumption)); (case kK => first | exact rfl | assumption); (case kd => ktr_room); (case ku => ktr_units)); intro h9 tk9 F9 N9; (try dsimp only); (try k_sweep); (all_goals try k_fold))
  k_with "call ref" => (k_here; k_dflt (refine' jump_c (fa := (0 : Nat)) ?k1 ?k2 ?k3 ?k4 ?k5 ?kK ?hm ?hM ?hrl ?hlo ?hops ?hg ?hw ?hgoal ?hc0 ?hc1 ?hct ?kd ?ku ?_; (case k1 => k_asm); (case k2 => k_asm); (case k3 => k_asm); (case k4 => k_asm); (case k5 => k_asm); (case hm => k_mem); (case hM => assumption); (case hrl => k_mem); (case hlo => k_mem); (case hops => first | exact .inl rfl | exact .inr rfl); (case hg => k_mem); (case hw => first | assumption | exact .inl rfl | exact .inr rfl); (case hgoal => exact goal_p _ _); (case hc0 => exact cell_p (by assumption) _); (case hc1 => exact cell_p1 (by assumption) _); (case hct => exact take_s (by assumption) (by assumption) (by assumption)); (case kK => first | exact rfl | assumption); (case kd => ktr_room); (case ku => ktr_units)); intro h9 tk9 F9 N9; (try dsimp only); (try k_sweep); (all_goals try k_fold))
  trivial
theorem u2 : c2.2.1 := by
  delta c2
  dsimp only
  intros
  refine Stop.mk ?_
  (rename Frag.In _ _ => X9); revert X9; k_fill; intro X9
  (try k_fold)
  k_steps
  all_goals first | (exact (no_len (by assumption) (by assumption)).elim) | (exact (no_db (by assumption) (by assumption)).elim)

-- U3
theorem lines_U3_0 : True := by
  w_top off
  k_with_none
  k_with "CompEnd" => (k_dflt (refine' compEnd0 ?k1 ?k2 ?k3 ?k5 ?_; (case k1 => ((with_reducible rename Fr _ _ _ _ => kFF); exact kFF)); (case k2 => ((with_reducible rename News _ _ _ _ => kNN); exact kNN)); (case k3 => first | assumption | (simp only [LCg.Off3, and_true]; first | done | assumption)); (case k5 => lcg_src)); (try dsimp only))
  k_with "CompEnd" => (k_dflt (refine' compEnd1 ?k1 ?k2 ?k3 ?k4 ?k5 ?_; (case k1 => ((with_reducible rename Fr _ _ _ _ => kFF); exact kFF)); (case k2 => ((with_reducible rename News _ _ _ _ => kNN); exact kNN)); (case k3 => first | assumption | (simp only [LCg.Off3, and_true]; first | done | assumption)); (case k4 => refine ⟨?_, ?_, ?_⟩ <;> (refine ltN ?_; omega)); (case k5 => lcg_src)); (try dsimp only))
  k_with "CompSrc" => (k_here; k_dflt (refine LCg.CompSrc.range (by rfl) (by k_asm) (by k_asm) (by assumption) (by first | decide | rfl) (by first | rfl | decide) (by first | size_fits | exact Nat.le_of_ble_eq_true rfl) ?_; intro g'; lcg_lit))
  k_with "subscriptTail" => (k_here; (with_reducible show wpAny _ _ (subscriptTail _ _ (Value.ref _) (Value.int _ _)) _ _ _); k_dflt (refine' listItem ?N ?hl ?h0 ?h1 ?hx ?_ ?hs; (case h0 => decide); (case h1 => decide); (case N => k_asm); (case hl => k_mem); (case hx => exact rfl); (case hs => with_unfolding_all rfl)); (try dsimp only))
  k_with "subscriptTail Name Constant ref int" => (k_here; (with_reducible show wpAny _ _ (subscriptTail _ _ (Value.ref _) (Value.int _ _)) _ _ _); k_dflt (refine' listItem ?N ?hl ?h0 ?h1 ?hx ?_ ?hs; (case h0 => decide); (case h1 => decide); (case N => k_asm); (case hl => k_mem); (case hx => exact rfl); (case hs => with_unfolding_all rfl)); (try dsimp only))
  k_with "subscriptTail Name Name ref int" => (k_here; (with_reducible show wpAny _ _ (subscriptTail _ _ (Value.ref _) (Value.int _ _)) _ _ _); k_dflt (refine' listItem ?N ?hl ?h0 ?h1 ?hx ?_ ?hs; (case h0 => decide); (case h1 => decide); (case N => k_asm); (case hl => k_mem); (case hx => exact rfl); (case hs => with_unfolding_all rfl)); (try dsimp only))
  k_with "subscriptTail" => (k_here; (with_reducible show wpAny _ _ (subscriptTail _ _ (Value.ref _) (Value.int (Int.fmod _ 64) _)) _ _ _); k_dflt (refine' cellItem ?N ?hl ?hM ?he ?_ ?hs; (case N => k_asm); (case hl => k_mem); (case hM => assumption); (case he => first | exact cz0 _ | exact cz1 _ | exact cz2 _ | exact cz3 _ | exact cz4 _); (case hs => with_unfolding_all rfl)); intro t9 c9 c9; (try dsimp only))
  k_with "subscriptTail Name BinOp ref int" => (k_here; (with_reducible show wpAny _ _ (subscriptTail _ _ (Value.ref _) (Value.int (Int.fmod _ 64) _)) _ _ _); k_dflt (refine' cellItem ?N ?hl ?hM ?he ?_ ?hs; (case N => k_asm); (case hl => k_mem); (case hM => assumption); (case he => first | exact cz0 _ | exact cz1 _ | exact cz2 _ | exact cz3 _ | exact cz4 _); (case hs => with_unfolding_all rfl)); intro t9 c9 c9; (try dsimp only))
  k_with "compareOp In int ref" => (k_here; (with_reducible show wpAny _ _ (compareOp CmpOp.In (Value.int _ _) (Value.ref _)) _ _ _); k_dflt (refine' in_tuple_ints ?ht ?hi ?_; (case ht => exact News.isTup (by k_asm) (by k_mem)); (case hi => repeat constructor)); (try dsimp only))
  k_with "eval BoolOp And cons" => (k_here; goal_lacks Mine.CutPost; (rename (Told _ _ _) => hTo); (rename Fr _ _ _ _ => lF'); (rename News _ _ _ _ => lN'); k_dflt (refine' cutEval false lF' lN' ?_ ?_); rotate_left; (clear lF' lN'; intro h9 tk9 F' N'; (try dsimp only)); rotate_left; (try dsimp only))
  k_with "eval BoolOp And cons" => (k_here; goal_lacks Mine.CutPost; (rename (_ ∧ IdleIx _) => hTo); (rename Fr _ _ _ _ => lF'); (rename News _ _ _ _ => lN'); k_dflt (refine' cutEval true lF' lN' ?_ ?_); rotate_left; (clear lF' lN'; intro h9 tk9 F' N'; (try dsimp only)); rotate_left; (try dsimp only))
  k_with "CutPost" => (k_dflt (refine' cutEnd ?e ?F ?N ?hs; (case F => ((with_reducible rename Fr _ _ _ _ => kFF); exact kFF)); (case N => ((with_reducible rename News _ _ _ _ => kNN); exact kNN)); (case e => first | rfl | assumption | exact told_t1 (by assumption) (by assumption) (by assumption) (by assumption) | exact told_t2 (by assumption) (by assumption) (by assumption) (by assumption) | exact idle_t1 (by assumption) (by assumption) | exact idle_t2 (by assumption) (by assumption) | exact idle_t3 (by assumption) (by assumption) | exact idle_a (by assumption) | exact told_t3 (by assumption) (by assumption) (by assumption) | exact told_n (by assumption) | exact idle_n (by assumption)); (case hs => exact (by intro p hp; repeat (first | exact hp | exact List.mem_append_right _ hp | exact List.mem_append_left _ hp | apply List.Mem.tail | apply List.mem_append_right)))))
  k_with "Post2 cons next" => (k_dflt (refine' next2 ?F ?N ?h1 ?h2 ?h3 ?h4 ?h5 ?h6 ?h7; (case F => ((with_reducible rename Fr _ _ _ _ => kFF); exact kFF)); (case N => ((with_reducible rename News _ _ _ _ => kNN); exact kNN)); (case h1 => k_mem); (case h2 => k_mem); (case h3 => k_mem); (case h4 => k_mem); (case h5 => k_mem); (case h6 => assumption); (case h7 => assumption)))
  k_with "Post2 next" => (k_dflt (refine' next2 ?F ?N ?h1 ?h2 ?h3 ?h4 ?h5 ?h6 ?h7; (case F => ((with_reducible rename Fr _ _ _ _ => kFF); exact kFF)); (case N => ((with_reducible rename News _ _ _ _ => kNN); exact kNN)); (case h1 => k_mem); (case h2 => k_mem); (case h3 => k_mem); (case h4 => k_mem); (case h5 => k_mem); (case h6 => assumption); (case h7 => assumption)))
  k_with "call ref" => (k_here; k_dflt (refine' turns_by_index_c ?k1 ?k2 ?k3 ?k4 ?k5 ?kK  ?kd ?ku ?_; (case k1 => k_asm); (case k2 => k_asm); (case k3 => k_asm); (case k4 => k_asm); (case k5 => k_asm);  (case kK => first | exact rfl | assumption); (case kd => ktr_room); (case ku => ktr_units)); intro t9 h9 tk9  F9 N9; (try dsimp only); (try k_sweep); (all_goals try k_fold))
  k_with "call ref" => (k_here; k_dflt (refine' length_of_c ?k1 ?k2 ?k3 ?k4 ?k5 ?kK ?hm ?hM ?kd ?ku ?_; (case k1 => k_asm); (case k2 => k_asm); (case k3 => k_asm); (case k4 => k_asm); (case k5 => k_asm); (case hm => k_mem); (case hM => assumption); (case kK => first | exact rfl | assumption); (case kd => ktr_room); (case ku => ktr_units)); intro t9 h9 tk9  F9 N9; (try dsimp only); (try k_sweep); (all_goals try k_fold))
  k_with "call ref" => (k_here; k_dflt (refine' codes_right_c ?k1 ?k2 ?k3 ?k4 ?k5 ?kK ?p0 ?p1 ?kd ?ku ?_; (case k1 => k_asm); (case k2 => k_asm); (case k3 => k_asm); (case k4 => k_asm); (case k5 => k_asm); (case p0 => first | assumption | omega | l_fact); (case p1 => first | assumption | omega | l_fact); (case kK => first | exact rfl | assumption); (case kd => ktr_room); (case ku => ktr_units)); intro t9 h9 tk9  F9 N9; (try dsimp only); (try k_sweep); (all_goals try k_fold))
  k_with "call ref" => (k_here; k_dflt (refine' numbers_c ?k1 ?k2 ?k3 ?k4 ?k5 ?kK ?hrl ?hlo ?hO ?hV ?hb ?hmany ?kd ?ku ?_; (case k1 => k_asm); (case k2 => k_asm); (case k3 => k_asm); (case k4 => k_asm); (case k5 => k_asm); (case hrl => k_mem); (case hlo => k_mem); (case hO => exact OpsIn.mono (by assumption) (by intro p hp; repeat (first | exact hp | exact List.mem_append_right _ hp | exact List.mem_append_left _ hp | apply List.Mem.tail | apply List.mem_append_right))); (case hV => exact vs_num (by assumption)); (case hb => exact so_mod (by assumption) (by assumption)); (case hmany => exact told_cases (by assumption) (by assumption) (by assumption) (by assumption) (by assumption)); (case kK => first | exact rfl | assumption); (case kd => ktr_room); (case ku => ktr_units)); intro h9 tk9 F9 N9; (try dsimp only); (try k_sweep); (all_goals try k_fold))
  k_with "call ref" => (k_here; k_dflt (refine' jump_no ?k1 ?k2 ?k3 ?k4 ?k5 ?kK ?hj1 ?hj2 ?kd ?ku ?_; (case k1 => k_asm); (case k2 => k_asm); (case k3 => k_asm); (case k4 => k_asm); (case k5 => k_asm); (case hj1 => first | assumption | exact Plain.jr (by assumption) | (decide +kernel)); (case hj2 => first | assumption | exact Plain.djnz (by assumption) | (decide +kernel)); (case kK => first | exact rfl | assumption); (case kd => ktr_room); (case ku => ktr_units)); intro h9 tk9 F9 N9; (try dsimp only); (try k_sweep); (all_goals try k_fold))
  k_with "call ref" => (k_here; k_dflt (refine' jump_c ?k1 ?k2 ?k3 ?k4 ?k5 ?kK ?hm ?hM ?hrl ?hlo ?hops ?hg ?hw ?hgoal ?hc0 ?hc1 ?hct ?kd ?ku ?_; (case k1 => k_asm); (case k2 => k_asm); (case k3 => k_asm); (case k4 => k_asm); (case k5 => k_asm); (case hm => k_mem); (case hM => assumption); (case hrl => k_mem); (case hlo => k_mem); (case hops => first | exact .inl rfl | exact .inr rfl); (case hg => k_mem); (case hw => first | assumption | exact .inl rfl | exact .inr rfl); (case hgoal => exact goal_p _ _); (case hc0 => exact cell_p (by assumption) _); (case hc1 => exact cell_p1 (by assumption) _); (case hct => exact take_s (by assumption) (by assumption) (by assumption)); (case kK => first | exact rfl | assumption); (case kd => ktr_room); (case ku => ktr_units)); intro h9 tk9 F9 N9; (try dsimp only); (try k_sweep); (all_goals try k_fold))
  k_with "call ref" => (k_here; k_dflt (refine' jump_c (fa := (0 : Nat)) ?k1 ?k2 ?k3 ?k4 ?k5 ?kK ?hm ?hM ?hrl ?hlo ?hops ?hg ?hw ?hgoal ?hc0 ?hc1 ?hct ?kd ?ku ?_; (case k1 => k_asm); (case k2 => k_asm); (case k3 => k_asm); (case k4 => k_asm); (case k5 => k_asm); (case hm => k_mem); (case hM => assumption); (case hrl => k_mem); (case hlo => k_mem); (case hops => first | exact .inl rfl | exact .inr rfl); (case hg => k_mem); (case hw => first | assumption | exact .inl rfl | exact .inr rfl); (case hgoal => exact goal_p _ _); (case hc0 => exact cell_p (by assumption) _); (case hc1 => exact cell_p1 (by assumption) _); (case hct => exact take_s (by assumption) (by assumption) (by assumption)); (case kK => first | exact rfl | assumption); (case kd => ktr_room); (case ku => ktr_units)); intro h9 tk9 F9 N9; (try dsimp only); (try k_sweep); (all_goals try k_fold))
  trivial
theorem u3 : c2.2.2.1 := by
  delta c2
  dsimp only
  intros
  refine Stop.mk ?_
  (rename Frag.In _ _ => X9); revert X9; k_fill; intro X9
  (try k_fold)
  k_steps
  all_goals first | (exact (no_len (by assumption) (by assumption)).elim) | (exact (no_db (by assumption) (by assumption)).elim)

-- U4
theorem lines_U4_0 : True := by
  w_top off
  k_with_none
  k_with "CompEnd" => (k_dflt (refine' compEnd0 ?k1 ?k2 ?k3 ?k5 ?_; (case k1 => ((with_reducible rename Fr _ _ _ _ => kFF); exact kFF)); (case k2 => ((with_reducible rename News _ _ _ _ => kNN); exact kNN)); (case k3 => first | assumption | (simp only [LCg.Off3, and_true]; first | done | assumption)); (case k5 => lcg_src)); (try dsimp only))
  k_with "CompEnd" => (k_dflt (refine' compEnd1 ?k1 ?k2 ?k3 ?k4 ?k5 ?_; (case k1 => ((with_reducible rename Fr _ _ _ _ => kFF); exact kFF)); (case k2 => ((with_reducible rename News _ _ _ _ => kNN); exact kNN)); (case k3 => first | assumption | (simp only [LCg.Off3, and_true]; first | done | assumption)); (case k4 => refine ⟨?_, ?_, ?_⟩ <;> (refine ltN ?_; omega)); (case k5 => lcg_src)); (try dsimp only))
  k_with "CompSrc" => (k_here; k_dflt (refine LCg.CompSrc.range (by rfl) (by k_asm) (by k_asm) (by assumption) (by first | decide | rfl) (by first | rfl | decide) (by first | size_fits | exact Nat.le_of_ble_eq_true rfl) ?_; intro g'; lcg_lit))
  k_with "subscriptTail" => (k_here; (with_reducible show wpAny _ _ (subscriptTail _ _ (Value.ref _) (Value.int _ _)) _ _ _); k_dflt (refine' listItem ?N ?hl ?h0 ?h1 ?hx ?_ ?hs; (case h0 => decide); (case h1 => decide); (case N => k_asm); (case hl => k_mem); (case hx => exact rfl); (case hs => with_unfolding_all rfl)); (try dsimp only))
  k_with "subscriptTail Name Constant ref int" => (k_here; (with_reducible show wpAny _ _ (subscriptTail _ _ (Value.ref _) (Value.int _ _)) _ _ _); k_dflt (refine' listItem ?N ?hl ?h0 ?h1 ?hx ?_ ?hs; (case h0 => decide); (case h1 => decide); (case N => k_asm); (case hl => k_mem); (case hx => exact rfl); (case hs => with_unfolding_all rfl)); (try dsimp only))
  k_with "subscriptTail Name Name ref int" => (k_here; (with_reducible show wpAny _ _ (subscriptTail _ _ (Value.ref _) (Value.int _ _)) _ _ _); k_dflt (refine' listItem ?N ?hl ?h0 ?h1 ?hx ?_ ?hs; (case h0 => decide); (case h1 => decide); (case N => k_asm); (case hl => k_mem); (case hx => exact rfl); (case hs => with_unfolding_all rfl)); (try dsimp only))
  k_with "subscriptTail" => (k_here; (with_reducible show wpAny _ _ (subscriptTail _ _ (Value.ref _) (Value.int (Int.fmod _ 64) _)) _ _ _); k_dflt (refine' cellItem ?N ?hl ?hM ?he ?_ ?hs; (case N => k_asm); (case hl => k_mem); (case hM => assumption); (case he => first | exact cz0 _ | exact cz1 _ | exact cz2 _ | exact cz3 _ | exact cz4 _); (case hs => with_unfolding_all rfl)); intro t9 c9 c9; (try dsimp only))
  k_with "subscriptTail Name BinOp ref int" => (k_here; (with_reducible show wpAny _ _ (subscriptTail _ _ (Value.ref _) (Value.int (Int.fmod _ 64) _)) _ _ _); k_dflt (refine' cellItem ?N ?hl ?hM ?he ?_ ?hs; (case N => k_asm); (case hl => k_mem); (case hM => assumption); (case he => first | exact cz0 _ | exact cz1 _ | exact cz2 _ | exact cz3 _ | exact cz4 _); (case hs => with_unfolding_all rfl)); intro t9 c9 c9; (try dsimp only))
  k_with "compareOp In int ref" => (k_here; (with_reducible show wpAny _ _ (compareOp CmpOp.In (Value.int _ _) (Value.ref _)) _ _ _); k_dflt (refine' in_tuple_ints ?ht ?hi ?_; (case ht => exact News.isTup (by k_asm) (by k_mem)); (case hi => repeat constructor)); (try dsimp only))
  k_with "eval BoolOp And cons" => (k_here; goal_lacks Mine.CutPost; (rename (Told _ _ _) => hTo); (rename Fr _ _ _ _ => lF'); (rename News _ _ _ _ => lN'); k_dflt (refine' cutEval false lF' lN' ?_ ?_); rotate_left; (clear lF' lN'; intro h9 tk9 F' N'; (try dsimp only)); rotate_left; (try dsimp only))
  k_with "eval BoolOp And cons" => (k_here; goal_lacks Mine.CutPost; (rename (_ ∧ IdleIx _) => hTo); (rename Fr _ _ _ _ => lF'); (rename News _ _ _ _ => lN'); k_dflt (refine' cutEval true lF' lN' ?_ ?_); rotate_left; (clear lF' lN'; intro h9 tk9 F' N'; (try dsimp only)); rotate_left; (try dsimp only))
  k_with "CutPost" => (k_dflt (refine' cutEnd ?e ?F ?N ?hs; (case F => ((with_reducible rename Fr _ _ _ _ => kFF); exact kFF)); (case N => ((with_reducible rename News _ _ _ _ => kNN); exact kNN)); (case e => first | rfl | assumption | exact told_t1 (by assumption) (by assumption) (by assumption) (by assumption) | exact told_t2 (by assumption) (by assumption) (by assumption) (by assumption) | exact idle_t1 (by assumption) (by assumption) | exact idle_t2 (by assumption) (by assumption) | exact idle_t3 (by assumption) (by assumption) | exact idle_a (by assumption) | exact told_t3 (by assumption) (by assumption) (by assumption) | exact told_n (by assumption) | exact idle_n (by assumption)); (case hs => exact (by intro p hp; repeat (first | exact hp | exact List.mem_append_right _ hp | exact List.mem_append_left _ hp | apply List.Mem.tail | apply List.mem_append_right)))))
  k_with "Post2 cons next" => (k_dflt (refine' next2 ?F ?N ?h1 ?h2 ?h3 ?h4 ?h5 ?h6 ?h7; (case F => ((with_reducible rename Fr _ _ _ _ => kFF); exact kFF)); (case N => ((with_reducible rename News _ _ _ _ => kNN); exact kNN)); (case h1 => k_mem); (case h2 => k_mem); (case h3 => k_mem); (case h4 => k_mem); (case h5 => k_mem); (case h6 => assumption); (case h7 => assumption)))
  k_with "Post2 next" => (k_dflt (refine' next2 ?F ?N ?h1 ?h2 ?h3 ?h4 ?h5 ?h6 ?h7; (case F => ((with_reducible rename Fr _ _ _ _ => kFF); exact kFF)); (case N => ((with_reducible rename News _ _ _ _ => kNN); exact kNN)); (case h1 => k_mem); (case h2 => k_mem); (case h3 => k_mem); (case h4 => k_mem); (case h5 => k_mem); (case h6 => assumption); (case h7 => assumption)))
  k_with "call ref" => (k_here; k_dflt (refine' turns_by_index_c ?k1 ?k2 ?k3 ?k4 ?k5 ?kK  ?kd ?ku ?_; (case k1 => k_asm); (case k2 => k_asm); (case k3 => k_asm); (case k4 => k_asm); (case k5 => k_asm);  (case kK => first | exact rfl | assumption); (case kd => ktr_room); (case ku => ktr_units)); intro t9 h9 tk9  F9 N9; (try dsimp only); (try k_sweep); (all_goals try k_fold))
  k_with "call ref" => (k_here; k_dflt (refine' length_of_c ?k1 ?k2 ?k3 ?k4 ?k5 ?kK ?hm ?hM ?kd ?ku ?_; (case k1 => k_asm); (case k2 => k_asm); (case k3 => k_asm); (case k4 => k_asm); (case k5 => k_asm); (case hm => k_mem); (case hM => assumption); (case kK => first | exact rfl | assumption); (case kd => ktr_room); (case ku => ktr_units)); intro t9 h9 tk9  F9 N9; (try dsimp only); (try k_sweep); (all_goals try k_fold))
  k_with "call ref" => (k_here; k_dflt (refine' codes_right_c ?k1 ?k2 ?k3 ?k4 ?k5 ?kK ?p0 ?p1 ?kd ?ku ?_; (case k1 => k_asm); (case k2 => k_asm); (case k3 => k_asm); (case k4 => k_asm); (case k5 => k_asm); (case p0 => first | assumption | omega | l_fact); (case p1 => first | assumption | omega | l_fact); (case kK => first | exact rfl | assumption); (case kd => ktr_room); (case ku => ktr_units)); intro t9 h9 tk9  F9 N9; (try dsimp only); (try k_sweep); (all_goals try k_fold))
  k_with "call ref" => (k_here; k_dflt (refine' numbers_c ?k1 ?k2 ?k3 ?k4 ?k5 ?kK ?hrl ?hlo ?hO ?hV ?hb ?hmany ?kd ?ku ?_; (case k1 => k_asm); (case k2 => k_asm); (case k3 => k_asm); (case k4 => k_asm); (case k5 => k_asm); (case hrl => k_mem); (case hlo => k_mem); (case hO => exact OpsIn.mono (by assumption) (by intro p hp; repeat (first | exact hp | exact List.mem_append_right _ hp | exact List.mem_append_left _ hp | apply List.Mem.tail | apply List.mem_append_right))); (case hV => exact vs_num (by assumption)); (case hb => exact so_mod (by assumption) (by assumption)); (case hmany => exact told_cases (by assumption) (by assumption) (by assumption) (by assumption) (by assumption)); (case kK => first | exact rfl | assumption); (case kd => ktr_room); (case ku => ktr_units)); intro h9 tk9 F9 N9; (try dsimp only); (try k_sweep); (all_goals try k_fold))
  k_with "call ref" => (k_here; k_dflt (refine' jump_no ?k1 ?k2 ?k3 ?k4 ?k5 ?kK ?hj1 ?hj2 ?kd ?ku ?_; (case k1 => k_asm); (case k2 => k_asm); (case k3 => k_asm); (case k4 => k_asm); (case k5 => k_asm); (case hj1 => first | assumption | exact Plain.jr (by assumption) | (decide +kernel)); (case hj2 => first | assumption | exact Plain.djnz (by assumption) | (decide +kernel)); (case kK => first | exact rfl | assumption); (case kd => ktr_room); (case ku => ktr_units)); intro h9 tk9 F9 N9; (try dsimp only); (try k_sweep); (all_goals try k_fold))
  k_with "call ref" => (k_here; k_dflt (refine' jump_c ?k1 ?k2 ?k3 ?k4 ?k5 ?kK ?hm ?hM ?hrl ?hlo ?hops ?hg ?hw ?hgoal ?hc0 ?hc1 ?hct ?kd ?ku ?_; (case k1 => k_asm); (case k2 => k_asm); (case k3 => k_asm); (case k4 => k_asm); (case k5 => k_asm); (case hm => k_mem); (case hM => assumption); (case hrl => k_mem); (case hlo => k_mem); (case hops => first | exact .inl rfl | exact .inr rfl); (case hg => k_mem); (case hw => first | assumption | exact .inl rfl | exact .inr rfl); (case hgoal => exact goal_p _ _); (case hc0 => exact cell_p (by assumption) _); (case hc1 => exact cell_p1 (by assumption) _); (case hct => exact take_s (by assumption) (by assumption) (by assumption)); (case kK => first | exact rfl | assumption); (case kd => ktr_room); (case ku => ktr_units)); intro h9 tk9 F9 N9; (try dsimp only); (try k_sweep); (all_goals try k_fold))
  k_with "call ref" => (k_here; k_dflt (refine' jump_c (fa := (0 : Nat)) ?k1 ?k2 ?k3 ?k4 ?k5 ?kK ?hm ?hM ?hrl ?hlo ?hops ?hg ?hw ?hgoal ?hc0 ?hc1 ?hct ?kd ?ku ?_; (case k1 => k_asm); (case k2 => k_asm); (case k3 => k_asm); (case k4 => k_asm); (case k5 => k_asm); (case hm => k_mem); (case hM => assumption); (case hrl => k_mem); (case hlo => k_mem); (case hops => first | exact .inl rfl | exact .inr rfl); (case hg => k_mem); (case hw => first | assumption | exact .inl rfl | exact .inr rfl); (case hgoal => exact goal_p _ _); (case hc0 => exact cell_p (by assumption) _); (case hc1 => exact cell_p1 (by assumption) _); (case hct => exact take_s (by assumption) (by assumption) (by assumption)); (case kK => first | exact rfl | assumption); (case kd => ktr_room); (case ku => ktr_units)); intro h9 tk9 F9 N9; (try dsimp only); (try k_sweep); (all_goals try k_fold))
  trivial
theorem u4 : c2.2.2.2.1 := by
  delta c2
  dsimp only
  intros
  refine Stop.mk ?_
  (rename Frag.In _ _ => X9); revert X9; k_fill; intro X9
  (try k_fold)
  k_steps
  all_goals first | (exact (no_len (by assumption) (by assumption)).elim) | (exact (no_db (by assumption) (by assumption)).elim)

-- U5
theorem lines_U5_0 : True := by
  w_top off
  k_with_none
  k_with "CompEnd" => (k_dflt (refine' compEnd0 ?k1 ?k2 ?k3 ?k5 ?_; (case k1 => ((with_reducible rename Fr _ _ _ _ => kFF); exact kFF)); (case k2 => ((with_reducible rename News _ _ _ _ => kNN); exact kNN)); (case k3 => first | assumption | (simp only [LCg.Off3, and_true]; first | done | assumption)); (case k5 => lcg_src)); (try dsimp only))
  k_with "CompEnd" => (k_dflt (refine' compEnd1 ?k1 ?k2 ?k3 ?k4 ?k5 ?_; (case k1 => ((with_reducible rename Fr _ _ _ _ => kFF); exact kFF)); (case k2 => ((with_reducible rename News _ _ _ _ => kNN); exact kNN)); (case k3 => first | assumption | (simp only [LCg.Off3, and_true]; first | done | assumption)); (case k4 => refine ⟨?_, ?_, ?_⟩ <;> (refine ltN ?_; omega)); (case k5 => lcg_src)); (try dsimp only))
  k_with "CompSrc" => (k_here; k_dflt (refine LCg.CompSrc.range (by rfl) (by k_asm) (by k_asm) (by assumption) (by first | decide | rfl) (by first | rfl | decide) (by first | size_fits | exact Nat.le_of_ble_eq_true rfl) ?_; intro g'; lcg_lit))
  k_with "subscriptTail" => (k_here; (with_reducible show wpAny _ _ (subscriptTail _ _ (Value.ref _) (Value.int _ _)) _ _ _); k_dflt (refine' listItem ?N ?hl ?h0 ?h1 ?hx ?_ ?hs; (case h0 => decide); (case h1 => decide); (case N => k_asm); (case hl => k_mem); (case hx => exact rfl); (case hs => with_unfolding_all rfl)); (try dsimp only))
  k_with "subscriptTail Name Constant ref int" => (k_here; (with_reducible show wpAny _ _ (subscriptTail _ _ (Value.ref _) (Value.int _ _)) _ _ _); k_dflt (refine' listItem ?N ?hl ?h0 ?h1 ?hx ?_ ?hs; (case h0 => decide); (case h1 => decide); (case N => k_asm); (case hl => k_mem); (case hx => exact rfl); (case hs => with_unfolding_all rfl)); (try dsimp only))
  k_with "subscriptTail Name Name ref int" => (k_here; (with_reducible show wpAny _ _ (subscriptTail _ _ (Value.ref _) (Value.int _ _)) _ _ _); k_dflt (refine' listItem ?N ?hl ?h0 ?h1 ?hx ?_ ?hs; (case h0 => decide); (case h1 => decide); (case N => k_asm); (case hl => k_mem); (case hx => exact rfl); (case hs => with_unfolding_all rfl)); (try dsimp only))
  k_with "subscriptTail" => (k_here; (with_reducible show wpAny _ _ (subscriptTail _ _ (Value.ref _) (Value.int (Int.fmod _ 64) _)) _ _ _); k_dflt (refine' cellItem ?N ?hl ?hM ?he ?_ ?hs; (case N => k_asm); (case hl => k_mem); (case hM => assumption); (case he => first | exact cz0 _ | exact cz1 _ | exact cz2 _ | exact cz3 _ | exact cz4 _); (case hs => with_unfolding_all rfl)); intro t9 c9 c9; (try dsimp only))
  k_with "subscriptTail Name BinOp ref int" => (k_here; (with_reducible show wpAny _ _ (subscriptTail _ _ (Value.ref _) (Value.int (Int.fmod _ 64) _)) _ _ _); k_dflt (refine' cellItem ?N ?hl ?hM ?he ?_ ?hs; (case N => k_asm); (case hl => k_mem); (case hM => assumption); (case he => first | exact cz0 _ | exact cz1 _ | exact cz2 _ | exact cz3 _ | exact cz4 _); (case hs => with_unfolding_all rfl)); intro t9 c9 c9; (try dsimp only))
  k_with "compareOp In int ref" => (k_here; (with_reducible show wpAny _ _ (compareOp CmpOp.In (Value.int _ _) (Value.ref _)) _ _ _); k_dflt (refine' in_tuple_ints ?ht ?hi ?_; (case ht => exact News.isTup (by k_asm) (by k_mem)); (case hi => repeat constructor)); (try dsimp only))
  k_with "eval BoolOp And cons" => (k_here; goal_lacks Mine.CutPost; (rename (Told _ _ _) => hTo); (rename Fr _ _ _ _ => lF'); (rename News _ _ _ _ => lN'); k_dflt (refine' cutEval false lF' lN' ?_ ?_); rotate_left; (clear lF' lN'; intro h9 tk9 F' N'; (try dsimp only)); rotate_left; (try dsimp only))
  k_with "eval BoolOp And cons" => (k_here; goal_lacks Mine.CutPost; (rename (_ ∧ IdleIx _) => hTo); (rename Fr _ _ _ _ => lF'); (rename News _ _ _ _ => lN'); k_dflt (refine' cutEval true lF' lN' ?_ ?_); rotate_left; (clear lF' lN'; intro h9 tk9 F' N'; (try dsimp only)); rotate_left; (try dsimp only))
  k_with "CutPost" => (k_dflt (refine' cutEnd ?e ?F ?N ?hs; (case F => ((with_reducible rename Fr _ _ _ _ => kFF); exact kFF)); (case N => ((with_reducible rename News _ _ _ _ => kNN); exact kNN)); (case e => first | rfl | assumption | exact told_t1 (by assumption) (by assumption) (by assumption) (by assumption) | exact told_t2 (by assumption) (by assumption) (by assumption) (by assumption) | exact idle_t1 (by assumption) (by assumption) | exact idle_t2 (by assumption) (by assumption) | exact idle_t3 (by assumption) (by assumption) | exact idle_a (by assumption) | exact told_t3 (by assumption) (by assumption) (by assumption) | exact told_n (by assumption) | exact idle_n (by assumption)); (case hs => exact (by intro p hp; repeat (first | exact hp | exact List.mem_append_right _ hp | exact List.mem_append_left _ hp | apply List.Mem.tail | apply List.mem_append_right)))))
  k_with "Post2 cons next" => (k_dflt (refine' next2 ?F ?N ?h1 ?h2 ?h3 ?h4 ?h5 ?h6 ?h7; (case F => ((with_reducible rename Fr _ _ _ _ => kFF); exact kFF)); (case N => ((with_reducible rename News _ _ _ _ => kNN); exact kNN)); (case h1 => k_mem); (case h2 => k_mem); (case h3 => k_mem); (case h4 => k_mem); (case h5 => k_mem); (case h6 => assumption); (case h7 => assumption)))
  k_with "Post2 next" => (k_dflt (refine' next2 ?F ?N ?h1 ?h2 ?h3 ?h4 ?h5 ?h6 ?h7; (case F => ((with_reducible rename Fr _ _ _ _ => kFF); exact kFF)); (case N => ((with_reducible rename News _ _ _ _ => kNN); exact kNN)); (case h1 => k_mem); (case h2 => k_mem); (case h3 => k_mem); (case h4 => k_mem); (case h5 => k_mem); (case h6 => assumption); (case h7 => assumption)))
  k_with "call ref" => (k_here; k_dflt (refine' turns_by_index_c ?k1 ?k2 ?k3 ?k4 ?k5 ?kK  ?kd ?ku ?_; (case k1 => k_asm); (case k2 => k_asm); (case k3 => k_asm); (case k4 => k_asm); (case k5 => k_asm);  (case kK => first | exact rfl | assumption); (case kd => ktr_room); (case ku => ktr_units)); intro t9 h9 tk9  F9 N9; (try dsimp only); (try k_sweep); (all_goals try k_fold))
  k_with "call ref" => (k_here; k_dflt (refine' length_of_c ?k1 ?k2 ?k3 ?k4 ?k5 ?kK ?hm ?hM ?kd ?ku ?_; (case k1 => k_asm); (case k2 => k_asm); (case k3 => k_asm); (case k4 => k_asm); (case k5 => k_asm); (case hm => k_mem); (case hM => assumption); (case kK => first | exact rfl | assumption); (case kd => ktr_room); (case ku => ktr_units)); intro t9 h9 tk9  F9 N9; (try dsimp only); (try k_sweep); (all_goals try k_fold))
  k_with "call ref" => (k_here; k_dflt (refine' codes_right_c ?k1 ?k2 ?k3 ?k4 ?k5 ?kK ?p0 ?p1 ?kd ?ku ?_; (case k1 => k_asm); (case k2 => k_asm); (case k3 => k_asm); (case k4 => k_asm); (case k5 => k_asm); (case p0 => first | assumption | omega | l_fact); (case p1 => first | assumption | omega | l_fact); (case kK => first | exact rfl | assumption); (case kd => ktr_room); (case ku => ktr_units)); intro t9 h9 tk9  F9 N9; (try dsimp only); (try k_sweep); (all_goals try k_fold))
  k_with "call ref" => (k_here; k_dflt (refine' numbers_c ?k1 ?k2 ?k3 ?k4 ?k5 ?kK ?hrl ?hlo ?hO ?hV ?hb ?hmany ?kd ?ku ?_; (case k1 => k_asm); (case k2 => k_asm); (case k3 => k_asm); (case k4 => k_asm); (case k5 => k_asm); (case hrl => k_mem); (case hlo => k_mem); (case hO => exact OpsIn.mono (by assumption) (by intro p hp; repeat (first | exact hp | exact List.mem_append_right _ hp | exact List.mem_append_left _ hp | apply List.Mem.tail | apply List.mem_append_right))); (case hV => exact vs_num (by assumption)); (case hb => exact so_mod (by assumption) (by assumption)); (case hmany => exact told_cases (by assumption) (by assumption) (by assumption) (by assumption) (by assumption)); (case kK => first | exact rfl | assumption); (case kd => ktr_room); (case ku => ktr_units)); intro h9 tk9 F9 N9; (try dsimp only); (try k_sweep); (all_goals try k_fold))
  k_with "call ref" => (k_here; k_dflt (refine' jump_no ?k1 ?k2 ?k3 ?k4 ?k5 ?kK ?hj1 ?hj2 ?kd ?ku ?_; (case k1 => k_asm); (case k2 => k_asm); (case k3 => k_asm); (case k4 => k_asm); (case k5 => k_asm); (case hj1 => first | assumption | exact Plain.jr (by assumption) | (decide +kernel)); (case hj2 => first | assumption | exact Plain.djnz (by assumption) | (decide +kernel)); (case kK => first | exact rfl | assumption); (case kd => ktr_room); (case ku => ktr_units)); intro h9 tk9 F9 N9; (try dsimp only); (try k_sweep); (all_goals try k_fold))
  k_with "call ref" => (k_here; k_dflt (refine' jump_c ?k1 ?k2 ?k3 ?k4 ?k5 ?kK ?hm ?hM ?hrl ?hlo ?hops ?hg ?hw ?hgoal ?hc0 ?hc1 ?hct ?kd ?ku ?_; (case k1 => k_asm); (case k2 => k_asm); (case k3 => k_asm); (case k4 => k_asm); (case k5 => k_asm); (case hm => k_mem); (case hM => assumption); (case hrl => k_mem); (case hlo => k_mem); (case hops => first | exact .inl rfl | exact .inr rfl); (case hg => k_mem); (case hw => first | assumption | exact .inl rfl | exact .inr rfl); (case hgoal => exact goal_p _ _); (case hc0 => exact cell_p (by assumption) _); (case hc1 => exact cell_p1 (by assumption) _); (case hct => exact take_s (by assumption) (by assumption) (by assumption)); (case kK => first | exact rfl | assumption); (case kd => ktr_room); (case ku => ktr_units)); intro h9 tk9 F9 N9; (try dsimp only); (try k_sweep); (all_goals try k_fold))
  k_with "call ref" => (k_here; k_dflt (refine' jump_c (fa := (0 : Nat)) ?k1 ?k2 ?k3 ?k4 ?k5 ?kK ?hm ?hM ?hrl ?hlo ?hops ?hg ?hw ?hgoal ?hc0 ?hc1 ?hct ?kd ?ku ?_; (case k1 => k_asm); (case k2 => k_asm); (case k3 => k_asm); (case k4 => k_asm); (case k5 => k_asm); (case hm => k_mem); (case hM => assumption); (case hrl => k_mem); (case hlo => k_mem); (case hops => first | exact .inl rfl | exact .inr rfl); (case hg => k_mem); (case hw => first | assumption | exact .inl rfl | exact .inr rfl); (case hgoal => exact goal_p _ _); (case hc0 => exact cell_p (by assumption) _); (case hc1 => exact cell_p1 (by assumption) _); (case hct => exact take_s (by assumption) (by assumption) (by assumption)); (case kK => first | exact rfl | assumption); (case kd => ktr_room); (case ku => ktr_units)); intro h9 tk9 F9 N9; (try dsimp only); (try k_sweep); (all_goals try k_fold))
  trivial
theorem u5 : c2.2.2.2.2.1 := by
  delta c2
  dsimp only
  intros
  refine Stop.mk ?_
  (rename Frag.In _ _ => X9); revert X9; k_fill; intro X9
  (try k_fold)
  k_steps
  all_goals first | (exact (no_len (by assumption) (by assumption)).elim) | (exact (no_db (by assumption) (by assumption)).elim)

-- U6
theorem lines_U6_0 : True := by
  w_top off
  k_with_none
  k_with "CompEnd" => (k_dflt (refine' compEnd0 ?k1 ?k2 ?k3 ?k5 ?_; (case k1 => ((with_reducible rename Fr _ _ _ _ => kFF); exact kFF)); (case k2 => ((with_reducible rename News _ _ _ _ => kNN); exact kNN)); (case k3 => first | assumption | (simp only [LCg.Off3, and_true]; first | done | assumption)); (case k5 => lcg_src)); (try dsimp only))
  k_with "CompEnd" => (k_dflt (refine' compEnd1 ?k1 ?k2 ?k3 ?k4 ?k5 ?_; (case k1 => ((with_reducible rename Fr _ _ _ _ => kFF); exact kFF)); (case k2 => ((with_reducible rename News _ _ _ _ => kNN); exact kNN)); (case k3 => first | assumption | (simp only [LCg.Off3, and_true]; first | done | assumption)); (case k4 => refine ⟨?_, ?_, ?_⟩ <;> (refine ltN ?_; omega)); (case k5 => lcg_src)); (try dsimp only))
  k_with "CompSrc" => (k_here; k_dflt (refine LCg.CompSrc.range (by rfl) (by k_asm) (by k_asm) (by assumption) (by first | decide | rfl) (by first | rfl | decide) (by first | size_fits | exact Nat.le_of_ble_eq_true rfl) ?_; intro g'; lcg_lit))
  k_with "subscriptTail" => (k_here; (with_reducible show wpAny _ _ (subscriptTail _ _ (Value.ref _) (Value.int _ _)) _ _ _); k_dflt (refine' listItem ?N ?hl ?h0 ?h1 ?hx ?_ ?hs; (case h0 => decide); (case h1 => decide); (case N => k_asm); (case hl => k_mem); (case hx => exact rfl); (case hs => with_unfolding_all rfl)); (try dsimp only))
  k_with "subscriptTail Name Constant ref int" => (k_here; (with_reducible show wpAny _ _ (subscriptTail _ _ (Value.ref _) (Value.int _ _)) _ _ _); k_dflt (refine' listItem ?N ?hl ?h0 ?h1 ?hx ?_ ?hs; (case h0 => decide); (case h1 => decide); (case N => k_asm); (case hl => k_mem); (case hx => exact rfl); (case hs => with_unfolding_all rfl)); (try dsimp only))
  k_with "subscriptTail Name Name ref int" => (k_here; (with_reducible show wpAny _ _ (subscriptTail _ _ (Value.ref _) (Value.int _ _)) _ _ _); k_dflt (refine' listItem ?N ?hl ?h0 ?h1 ?hx ?_ ?hs; (case h0 => decide); (case h1 => decide); (case N => k_asm); (case hl => k_mem); (case hx => exact rfl); (case hs => with_unfolding_all rfl)); (try dsimp only))
  k_with "subscriptTail" => (k_here; (with_reducible show wpAny _ _ (subscriptTail _ _ (Value.ref _) (Value.int (Int.fmod _ 64) _)) _ _ _); k_dflt (refine' cellItem ?N ?hl ?hM ?he ?_ ?hs; (case N => k_asm); (case hl => k_mem); (case hM => assumption); (case he => first | exact cz0 _ | exact cz1 _ | exact cz2 _ | exact cz3 _ | exact cz4 _); (case hs => with_unfolding_all rfl)); intro t9 c9 c9; (try dsimp only))
  k_with "subscriptTail Name BinOp ref int" => (k_here; (with_reducible show wpAny _ _ (subscriptTail _ _ (Value.ref _) (Value.int (Int.fmod _ 64) _)) _ _ _); k_dflt (refine' cellItem ?N ?hl ?hM ?he ?_ ?hs; (case N => k_asm); (case hl => k_mem); (case hM => assumption); (case he => first | exact cz0 _ | exact cz1 _ | exact cz2 _ | exact cz3 _ | exact cz4 _); (case hs => with_unfolding_all rfl)); intro t9 c9 c9; (try dsimp only))
  k_with "compareOp In int ref" => (k_here; (with_reducible show wpAny _ _ (compareOp CmpOp.In (Value.int _ _) (Value.ref _)) _ _ _); k_dflt (refine' in_tuple_ints ?ht ?hi ?_; (case ht => exact News.isTup (by k_asm) (by k_mem)); (case hi => repeat constructor)); (try dsimp only))
  k_with "eval BoolOp And cons" => (k_here; goal_lacks Mine.CutPost; (rename (Told _ _ _) => hTo); (rename Fr _ _ _ _ => lF'); (rename News _ _ _ _ => lN'); k_dflt (refine' cutEval false lF' lN' ?_ ?_); rotate_left; (clear lF' lN'; intro h9 tk9 F' N'; (try dsimp only)); rotate_left; (try dsimp only))
  k_with "eval BoolOp And cons" => (k_here; goal_lacks Mine.CutPost; (rename (_ ∧ IdleIx _) => hTo); (rename Fr _ _ _ _ => lF'); (rename News _ _ _ _ => lN'); k_dflt (refine' cutEval true lF' lN' ?_ ?_); rotate_left; (clear lF' lN'; intro h9 tk9 F' N'; (try dsimp only)); rotate_left; (try dsimp only))
  k_with "CutPost" => (k_dflt (refine' cutEnd ?e ?F ?N ?hs; (case F => ((with_reducible rename Fr _ _ _ _ => kFF); exact kFF)); (case N => ((with_reducible rename News _ _ _ _ => kNN); exact kNN)); (case e => first | rfl | assumption | exact told_t1 (by assumption) (by assumption) (by assumption) (by assumption) | exact told_t2 (by assumption) (by assumption) (by assumption) (by assumption) | exact idle_t1 (by assumption) (by assumption) | exact idle_t2 (by assumption) (by assumption) | exact idle_t3 (by assumption) (by assumption) | exact idle_a (by assumption) | exact told_t3 (by assumption) (by assumption) (by assumption) | exact told_n (by assumption) | exact idle_n (by assumption)); (case hs => exact (by intro p hp; repeat (first | exact hp | exact List.mem_append_right _ hp | exact List.mem_append_left _ hp | apply List.Mem.tail | apply List.mem_append_right)))))
  k_with "Post2 cons next" => (k_dflt (refine' next2 ?F ?N ?h1 ?h2 ?h3 ?h4 ?h5 ?h6 ?h7; (case F => ((with_reducible rename Fr _ _ _ _ => kFF); exact kFF)); (case N => ((with_reducible rename News _ _ _ _ => kNN); exact kNN)); (case h1 => k_mem); (case h2 => k_mem); (case h3 => k_mem); (case h4 => k_mem); (case h5 => k_mem); (case h6 => assumption); (case h7 => assumption)))
  k_with "Post2 next" => (k_dflt (refine' next2 ?F ?N ?h1 ?h2 ?h3 ?h4 ?h5 ?h6 ?h7; (case F => ((with_reducible rename Fr _ _ _ _ => kFF); exact kFF)); (case N => ((with_reducible rename News _ _ _ _ => kNN); exact kNN)); (case h1 => k_mem); (case h2 => k_mem); (case h3 => k_mem); (case h4 => k_mem); (case h5 => k_mem); (case h6 => assumption); (case h7 => assumption)))
  k_with "call ref" => (k_here; k_dflt (refine' turns_by_index_c ?k1 ?k2 ?k3 ?k4 ?k5 ?kK  ?kd ?ku ?_; (case k1 => k_asm); (case k2 => k_asm); (case k3 => k_asm); (case k4 => k_asm); (case k5 => k_asm);  (case kK => first | exact rfl | assumption); (case kd => ktr_room); (case ku => ktr_units)); intro t9 h9 tk9  F9 N9; (try dsimp only); (try k_sweep); (all_goals try k_fold))
  k_with "call ref" => (k_here; k_dflt (refine' length_of_c ?k1 ?k2 ?k3 ?k4 ?k5 ?kK ?hm ?hM ?kd ?ku ?_; (case k1 => k_asm); (case k2 => k_asm); (case k3 => k_asm); (case k4 => k_asm); (case k5 => k_asm); (case hm => k_mem); (case hM => assumption); (case kK => first | exact rfl | assumption); (case kd => ktr_room); (case ku => ktr_units)); intro t9 h9 tk9  F9 N9; (try dsimp only); (try k_sweep); (all_goals try k_fold))
  k_with "call ref" => (k_here; k_dflt (refine' codes_right_c ?k1 ?k2 ?k3 ?k4 ?k5 ?kK ?p0 ?p1 ?kd ?ku ?_; (case k1 => k_asm); (case k2 => k_asm); (case k3 => k_asm); (case k4 => k_asm); (case k5 => k_asm); (case p0 => first | assumption | omega | l_fact); (case p1 => first | assumption | omega | l_fact); (case kK => first | exact rfl | assumption); (case kd => ktr_room); (case ku => ktr_units)); intro t9 h9 tk9  F9 N9; (try dsimp only); (try k_sweep); (all_goals try k_fold))
  k_with "call ref" => (k_here; k_dflt (refine' numbers_c ?k1 ?k2 ?k3 ?k4 ?k5 ?kK ?hrl ?hlo ?hO ?hV ?hb ?hmany ?kd ?ku ?_; (case k1 => k_asm); (case k2 => k_asm); (case k3 => k_asm); (case k4 => k_asm); (case k5 => k_asm); (case hrl => k_mem); (case hlo => k_mem); (case hO => exact OpsIn.mono (by assumption) (by intro p hp; repeat (first | exact hp | exact List.mem_append_right _ hp | exact List.mem_append_left _ hp | apply List.Mem.tail | apply List.mem_append_right))); (case hV => exact vs_num (by assumption)); (case hb => exact so_mod (by assumption) (by assumption)); (case hmany => exact told_cases (by assumption) (by assumption) (by assumption) (by assumption) (by assumption)); (case kK => first | exact rfl | assumption); (case kd => ktr_room); (case ku => ktr_units)); intro h9 tk9 F9 N9; (try dsimp only); (try k_sweep); (all_goals try k_fold))
  k_with "call ref" => (k_here; k_dflt (refine' jump_no ?k1 ?k2 ?k3 ?k4 ?k5 ?kK ?hj1 ?hj2 ?kd ?ku ?_; (case k1 => k_asm); (case k2 => k_asm); (case k3 => k_asm); (case k4 => k_asm); (case k5 => k_asm); (case hj1 => first | assumption | exact Plain.jr (by assumption) | (decide +kernel)); (case hj2 => first | assumption | exact Plain.djnz (by assumption) | (decide +kernel)); (case kK => first | exact rfl | assumption); (case kd => ktr_room); (case ku => ktr_units)); intro h9 tk9 F9 N9; (try dsimp only); (try k_sweep); (all_goals try k_fold))
  k_with "call ref" => (k_here; k_dflt (refine' jump_c ?k1 ?k2 ?k3 ?k4 ?k5 ?kK ?hm ?hM ?hrl ?hlo ?hops ?hg ?hw ?hgoal ?hc0 ?hc1 ?hct ?kd ?ku ?_; (case k1 => k_asm); (case k2 => k_asm); (case k3 => k_asm); (case k4 => k_asm); (case k5 => k_asm); (case hm => k_mem); (case hM => assumption); (case hrl => k_mem); (case hlo => k_mem); (case hops => first | exact .inl rfl | exact .inr rfl); (case hg => k_mem); (case hw => first | assumption | exact .inl rfl | exact .inr rfl); (case hgoal => exact goal_p _ _); (case hc0 => exact cell_p (by assumption) _); (case hc1 => exact cell_p1 (by assumption) _); (case hct => exact take_s (by assumption) (by assumption) (by assumption)); (case kK => first | exact rfl | assumption); (case kd => ktr_room); (case ku => ktr_units)); intro h9 tk9 F9 N9; (try dsimp only); (try k_sweep); (all_goals try k_fold))
  k_with "call ref" => (k_here; k_dflt (refine' jump_c (fa := (0 : Nat)) ?k1 ?k2 ?k3 ?k4 ?k5 ?kK ?hm ?hM ?hrl ?hlo ?hops ?hg ?hw ?hgoal ?hc0 ?hc1 ?hct ?kd ?ku ?_; (case k1 => k_asm); (case k2 => k_asm); (case k3 => k_asm); (case k4 => k_asm); (case k5 => k_asm); (case hm => k_mem); (case hM => assumption); (case hrl => k_mem); (case hlo => k_mem); (case hops => first | exact .inl rfl | exact .inr rfl); (case hg => k_mem); (case hw => first | assumption | exact .inl rfl | exact .inr rfl); (case hgoal => exact goal_p _ _); (case hc0 => exact cell_p (by assumption) _); (case hc1 => exact cell_p1 (by assumption) _); (case hct => exact take_s (by assumption) (by assumption) (by assumption)); (case kK => first | exact rfl | assumption); (case kd => ktr_room); (case ku => ktr_units)); intro h9 tk9 F9 N9; (try dsimp only); (try k_sweep); (all_goals try k_fold))
  trivial
theorem u6 : c2.2.2.2.2.2.1 := by
  delta c2
  dsimp only
  intros
  refine Stop.mk ?_
  (rename Frag.In _ _ => X9); revert X9; k_fill; intro X9
  (try k_fold)
  k_steps
  all_goals first | (exact (no_len (by assumption) (by assumption)).elim) | (exact (no_db (by assumption) (by assumption)).elim)

-- U7
theorem lines_U7_0 : True := by
  w_top off
  k_with_none
  k_with "CompEnd" => (k_dflt (refine' compEnd0 ?k1 ?k2 ?k3 ?k5 ?_; (case k1 => ((with_reducible rename Fr _ _ _ _ => kFF); exact kFF)); (case k2 => ((with_reducible rename News _ _ _ _ => kNN); exact kNN)); (case k3 => first | assumption | (simp only [LCg.Off3, and_true]; first | done | assumption)); (case k5 => lcg_src)); (try dsimp only))
  k_with "CompEnd" => (k_dflt (refine' compEnd1 ?k1 ?k2 ?k3 ?k4 ?k5 ?_; (case k1 => ((with_reducible rename Fr _ _ _ _ => kFF); exact kFF)); (case k2 => ((with_reducible rename News _ _ _ _ => kNN); exact kNN)); (case k3 => first | assumption | (simp only [LCg.Off3, and_true]; first | done | assumption)); (case k4 => refine ⟨?_, ?_, ?_⟩ <;> (refine ltN ?_; omega)); (case k5 => lcg_src)); (try dsimp only))
  k_with "CompSrc" => (k_here; k_dflt (refine LCg.CompSrc.range (by rfl) (by k_asm) (by k_asm) (by assumption) (by first | decide | rfl) (by first | rfl | decide) (by first | size_fits | exact Nat.le_of_ble_eq_true rfl) ?_; intro g'; lcg_lit))
  k_with "subscriptTail" => (k_here; (with_reducible show wpAny _ _ (subscriptTail _ _ (Value.ref _) (Value.int _ _)) _ _ _); k_dflt (refine' listItem ?N ?hl ?h0 ?h1 ?hx ?_ ?hs; (case h0 => decide); (case h1 => decide); (case N => k_asm); (case hl => k_mem); (case hx => exact rfl); (case hs => with_unfolding_all rfl)); (try dsimp only))
  k_with "subscriptTail Name Constant ref int" => (k_here; (with_reducible show wpAny _ _ (subscriptTail _ _ (Value.ref _) (Value.int _ _)) _ _ _); k_dflt (refine' listItem ?N ?hl ?h0 ?h1 ?hx ?_ ?hs; (case h0 => decide); (case h1 => decide); (case N => k_asm); (case hl => k_mem); (case hx => exact rfl); (case hs => with_unfolding_all rfl)); (try dsimp only))
  k_with "subscriptTail Name Name ref int" => (k_here; (with_reducible show wpAny _ _ (subscriptTail _ _ (Value.ref _) (Value.int _ _)) _ _ _); k_dflt (refine' listItem ?N ?hl ?h0 ?h1 ?hx ?_ ?hs; (case h0 => decide); (case h1 => decide); (case N => k_asm); (case hl => k_mem); (case hx => exact rfl); (case hs => with_unfolding_all rfl)); (try dsimp only))
  k_with "subscriptTail" => (k_here; (with_reducible show wpAny _ _ (subscriptTail _ _ (Value.ref _) (Value.int (Int.fmod _ 64) _)) _ _ _); k_dflt (refine' cellItem ?N ?hl ?hM ?he ?_ ?hs; (case N => k_asm); (case hl => k_mem); (case hM => assumption); (case he => first | exact cz0 _ | exact cz1 _ | exact cz2 _ | exact cz3 _ | exact cz4 _); (case hs => with_unfolding_all rfl)); intro t9 c9 c9; (try dsimp only))
  k_with "subscriptTail Name BinOp ref int" => (k_here; (with_reducible show wpAny _ _ (subscriptTail _ _ (Value.ref _) (Value.int (Int.fmod _ 64) _)) _ _ _); k_dflt (refine' cellItem ?N ?hl ?hM ?he ?_ ?hs; (case N => k_asm); (case hl => k_mem); (case hM => assumption); (case he => first | exact cz0 _ | exact cz1 _ | exact cz2 _ | exact cz3 _ | exact cz4 _); (case hs => with_unfolding_all rfl)); intro t9 c9 c9; (try dsimp only))
  k_with "compareOp In int ref" => (k_here; (with_reducible show wpAny _ _ (compareOp CmpOp.In (Value.int _ _) (Value.ref _)) _ _ _); k_dflt (refine' in_tuple_ints ?ht ?hi ?_; (case ht => exact News.isTup (by k_asm) (by k_mem)); (case hi => repeat constructor)); (try dsimp only))
  k_with "eval BoolOp And cons" => (k_here; goal_lacks Mine.CutPost; (rename (Told _ _ _) => hTo); (rename Fr _ _ _ _ => lF'); (rename News _ _ _ _ => lN'); k_dflt (refine' cutEval false lF' lN' ?_ ?_); rotate_left; (clear lF' lN'; intro h9 tk9 F' N'; (try dsimp only)); rotate_left; (try dsimp only))
  k_with "eval BoolOp And cons" => (k_here; goal_lacks Mine.CutPost; (rename (_ ∧ IdleIx _) => hTo); (rename Fr _ _ _ _ => lF'); (rename News _ _ _ _ => lN'); k_dflt (refine' cutEval true lF' lN' ?_ ?_); rotate_left; (clear lF' lN'; intro h9 tk9 F' N'; (try dsimp only)); rotate_left; (try dsimp only))
  k_with "CutPost" => (k_dflt (refine' cutEnd ?e ?F ?N ?hs; (case F => ((with_reducible rename Fr _ _ _ _ => kFF); exact kFF)); (case N => ((with_reducible rename News _ _ _ _ => kNN); exact kNN)); (case e => first | rfl | assumption | exact told_t1 (by assumption) (by assumption) (by assumption) (by assumption) | exact told_t2 (by assumption) (by assumption) (by assumption) (by assumption) | exact idle_t1 (by assumption) (by assumption) | exact idle_t2 (by assumption) (by assumption) | exact idle_t3 (by assumption) (by assumption) | exact idle_a (by assumption) | exact told_t3 (by assumption) (by assumption) (by assumption) | exact told_n (by assumption) | exact idle_n (by assumption)); (case hs => exact (by intro p hp; repeat (first | exact hp | exact List.mem_append_right _ hp | exact List.mem_append_left _ hp | apply List.Mem.tail | apply List.mem_append_right)))))
  k_with "Post2 cons next" => (k_dflt (refine' next2 ?F ?N ?h1 ?h2 ?h3 ?h4 ?h5 ?h6 ?h7; (case F => ((with_reducible rename Fr _ _ _ _ => kFF); exact kFF)); (case N => ((with_reducible rename News _ _ _ _ => kNN); exact kNN)); (case h1 => k_mem); (case h2 => k_mem); (case h3 => k_mem); (case h4 => k_mem); (case h5 => k_mem); (case h6 => assumption); (case h7 => assumption)))
  k_with "Post2 next" => (k_dflt (refine' next2 ?F ?N ?h1 ?h2 ?h3 ?h4 ?h5 ?h6 ?h7; (case F => ((with_reducible rename Fr _ _ _ _ => kFF); exact kFF)); (case N => ((with_reducible rename News _ _ _ _ => kNN); exact kNN)); (case h1 => k_mem); (case h2 => k_mem); (case h3 => k_mem); (case h4 => k_mem); (case h5 => k_mem); (case h6 => assumption); (case h7 => assumption)))
  k_with "call ref" => (k_here; k_dflt (refine' turns_by_index_c ?k1 ?k2 ?k3 ?k4 ?k5 ?kK  ?kd ?ku ?_; (case k1 => k_asm); (case k2 => k_asm); (case k3 => k_asm); (case k4 => k_asm); (case k5 => k_asm);  (case kK => first | exact rfl | assumption); (case kd => ktr_room); (case ku => ktr_units)); intro t9 h9 tk9  F9 N9; (try dsimp only); (try k_sweep); (all_goals try k_fold))
  k_with "call ref" => (k_here; k_dflt (refine' length_of_c ?k1 ?k2 ?k3 ?k4 ?k5 ?kK ?hm ?hM ?kd ?ku ?_; (case k1 => k_asm); (case k2 => k_asm); (case k3 => k_asm); (case k4 => k_asm); (case k5 => k_asm); (case hm => k_mem); (case hM => assumption); (case kK => first | exact rfl | assumption); (case kd => ktr_room); (case ku => ktr_units)); intro t9 h9 tk9  F9 N9; (try dsimp only); (try k_sweep); (all_goals try k_fold))
  k_with "call ref" => (k_here; k_dflt (refine' codes_right_c ?k1 ?k2 ?k3 ?k4 ?k5 ?kK ?p0 ?p1 ?kd ?ku ?_; (case k1 => k_asm); (case k2 => k_asm); (case k3 => k_asm); (case k4 => k_asm); (case k5 => k_asm); (case p0 => first | assumption | omega | l_fact); (case p1 => first | assumption | omega | l_fact); (case kK => first | exact rfl | assumption); (case kd => ktr_room); (case ku => ktr_units)); intro t9 h9 tk9  F9 N9; (try dsimp only); (try k_sweep); (all_goals try k_fold))
  k_with "call ref" => (k_here; k_dflt (refine' numbers_c ?k1 ?k2 ?k3 ?k4 ?k5 ?kK ?hrl ?hlo ?hO ?hV ?hb ?hmany ?kd ?ku ?_; (case k1 => k_asm); (case k2 => k_asm); (case k3 => k_asm); (case k4 => k_asm); (case k5 => k_asm); (case hrl => k_mem); (case hlo => k_mem); (case hO => exact OpsIn.mono (by assumption) (by intro p hp; repeat (first | exact hp | exact List.mem_append_right _ hp | exact List.mem_append_left _ hp | apply List.Mem.tail | apply List.mem_append_right))); (case hV => exact vs_num (by assumption)); (case hb => exact so_mod (by assumption) (by assumption)); (case hmany => exact told_cases (by assumption) (by assumption) (by assumption) (by assumption) (by assumption)); (case kK => first | exact rfl | assumption); (case kd => ktr_room); (case ku => ktr_units)); intro h9 tk9 F9 N9; (try dsimp only); (try k_sweep); (all_goals try k_fold))
  k_with "call ref" => (k_here; k_dflt (refine' jump_no ?k1 ?k2 ?k3 ?k4 ?k5 ?kK ?hj1 ?hj2 ?kd ?ku ?_; (case k1 => k_asm); (case k2 => k_asm); (case k3 => k_asm); (case k4 => k_asm); (case k5 => k_asm); (case hj1 => first | assumption | exact Plain.jr (by assumption) | (decide +kernel)); (case hj2 => first | assumption | exact Plain.djnz (by assumption) | (decide +kernel)); (case kK => first | exact rfl | assumption); (case kd => ktr_room); (case ku => ktr_units)); intro h9 tk9 F9 N9; (try dsimp only); (try k_sweep); (all_goals try k_fold))
  k_with "call ref" => (k_here; k_dflt (refine' jump_c ?k1 ?k2 ?k3 ?k4 ?k5 ?kK ?hm ?hM ?hrl ?hlo ?hops ?hg ?hw ?hgoal ?hc0 ?hc1 ?hct ?kd ?ku ?_; (case k1 => k_asm); (case k2 => k_asm); (case k3 => k_asm); (case k4 => k_asm); (case k5 => k_asm); (case hm => k_mem); (case hM => assumption); (case hrl => k_mem); (case hlo => k_mem); (case hops => first | exact .inl rfl | exact .inr rfl); (case hg => k_mem); (case hw => first | assumption | exact .inl rfl | exact .inr rfl); (case hgoal => exact goal_p _ _); (case hc0 => exact cell_p (by assumption) _); (case hc1 => exact cell_p1 (by assumption) _); (case hct => exact take_s (by assumption) (by assumption) (by assumption)); (case kK => first | exact rfl | assumption); (case kd => ktr_room); (case ku => ktr_units)); intro h9 tk9 F9 N9; (try dsimp only); (try k_sweep); (all_goals try k_fold))
  k_with "call ref" => (k_here; k_dflt (refine' jump_c (fa := (0 : Nat)) ?k1 ?k2 ?k3 ?k4 ?k5 ?kK ?hm ?hM ?hrl ?hlo ?hops ?hg ?hw ?hgoal ?hc0 ?hc1 ?hct ?kd ?ku ?_; (case k1 => k_asm); (case k2 => k_asm); (case k3 => k_asm); (case k4 => k_asm); (case k5 => k_asm); (case hm => k_mem); (case hM => assumption); (case hrl => k_mem); (case hlo => k_mem); (case hops => first | exact .inl rfl | exact .inr rfl); (case hg => k_mem); (case hw => first | assumption | exact .inl rfl | exact .inr rfl); (case hgoal => exact goal_p _ _); (case hc0 => exact cell_p (by assumption) _); (case hc1 => exact cell_p1 (by assumption) _); (case hct => exact take_s (by assumption) (by assumption) (by assumption)); (case kK => first | exact rfl | assumption); (case kd => ktr_room); (case ku => ktr_units)); intro h9 tk9 F9 N9; (try dsimp only); (try k_sweep); (all_goals try k_fold))
  trivial
theorem u7 : c2.2.2.2.2.2.2.1 := by
  delta c2
  dsimp only
  intros
  refine Stop.mk ?_
  (rename Frag.In _ _ => X9); revert X9; k_fill; intro X9
  (try k_fold)
  k_steps
  all_goals first | (exact (no_len (by assumption) (by assumption)).elim) | (exact (no_db (by assumption) (by assumption)).elim)

-- U8
theorem lines_U8_0 : True := by
  w_top off
  k_with_none
  k_with "CompEnd" => (k_dflt (refine' compEnd0 ?k1 ?k2 ?k3 ?k5 ?_; (case k1 => ((with_reducible rename Fr _ _ _ _ => kFF); exact kFF)); (case k2 => ((with_reducible rename News _ _ _ _ => kNN); exact kNN)); (case k3 => first | assumption | (simp only [LCg.Off3, and_true]; first | done | assumption)); (case k5 => lcg_src)); (try dsimp only))
  k_with "CompEnd" => (k_dflt (refine' compEnd1 ?k1 ?k2 ?k3 ?k4 ?k5 ?_; (case k1 => ((with_reducible rename Fr _ _ _ _ => kFF); exact kFF)); (case k2 => ((with_reducible rename News _ _ _ _ => kNN); exact kNN)); (case k3 => first | assumption | (simp only [LCg.Off3, and_true]; first | done | assumption)); (case k4 => refine ⟨?_, ?_, ?_⟩ <;> (refine ltN ?_; omega)); (case k5 => lcg_src)); (try dsimp only))
  k_with "CompSrc" => (k_here; k_dflt (refine LCg.CompSrc.range (by rfl) (by k_asm) (by k_asm) (by assumption) (by first | decide | rfl) (by first | rfl | decide) (by first | size_fits | exact Nat.le_of_ble_eq_true rfl) ?_; intro g'; lcg_lit))
  k_with "subscriptTail" => (k_here; (with_reducible show wpAny _ _ (subscriptTail _ _ (Value.ref _) (Value.int _ _)) _ _ _); k_dflt (refine' listItem ?N ?hl ?h0 ?h1 ?hx ?_ ?hs; (case h0 => decide); (case h1 => decide); (case N => k_asm); (case hl => k_mem); (case hx => exact rfl); (case hs => with_unfolding_all rfl)); (try dsimp only))
  k_with "subscriptTail Name Constant ref int" => (k_here; (with_reducible show wpAny _ _ (subscriptTail _ _ (Value.ref _) (Value.int _ _)) _ _ _); k_dflt (refine' listItem ?N ?hl ?h0 ?h1 ?hx ?_ ?hs; (case h0 => decide); (case h1 => decide); (case N => k_asm); (case hl => k_mem); (case hx => exact rfl); (case hs => with_unfolding_all rfl)); (try dsimp only))
  k_with "subscriptTail Name Name ref int" => (k_here; (with_reducible show wpAny _ _ (subscriptTail _ _ (Value.ref _) (Value.int _ _)) _ _ _); k_dflt (refine' listItem ?N ?hl ?h0 ?h1 ?hx ?_ ?hs; (case h0 => decide); (case h1 => decide); (case N => k_asm); (case hl => k_mem); (case hx => exact rfl); (case hs => with_unfolding_all rfl)); (try dsimp only))
  k_with "subscriptTail" => (k_here; (with_reducible show wpAny _ _ (subscriptTail _ _ (Value.ref _) (Value.int (Int.fmod _ 64) _)) _ _ _); k_dflt (refine' cellItem ?N ?hl ?hM ?he ?_ ?hs; (case N => k_asm); (case hl => k_mem); (case hM => assumption); (case he => first | exact cz0 _ | exact cz1 _ | exact cz2 _ | exact cz3 _ | exact cz4 _); (case hs => with_unfolding_all rfl)); intro t9 c9 c9; (try dsimp only))
  k_with "subscriptTail Name BinOp ref int" => (k_here; (with_reducible show wpAny _ _ (subscriptTail _ _ (Value.ref _) (Value.int (Int.fmod _ 64) _)) _ _ _); k_dflt (refine' cellItem ?N ?hl ?hM ?he ?_ ?hs; (case N => k_asm); (case hl => k_mem); (case hM => assumption); (case he => first | exact cz0 _ | exact cz1 _ | exact cz2 _ | exact cz3 _ | exact cz4 _); (case hs => with_unfolding_all rfl)); intro t9 c9 c9; (try dsimp only))
  k_with "compareOp In int ref" => (k_here; (with_reducible show wpAny _ _ (compareOp CmpOp.In (Value.int _ _) (Value.ref _)) _ _ _); k_dflt (refine' in_tuple_ints ?ht ?hi ?_; (case ht => exact News.isTup (by k_asm) (by k_mem)); (case hi => repeat constructor)); (try dsimp only))
  k_with "eval BoolOp And cons" => (k_here; goal_lacks Mine.CutPost; (rename (Told _ _ _) => hTo); (rename Fr _ _ _ _ => lF'); (rename News _ _ _ _ => lN'); k_dflt (refine' cutEval false lF' lN' ?_ ?_); rotate_left; (clear lF' lN'; intro h9 tk9 F' N'; (try dsimp only)); rotate_left; (try dsimp only))
  k_with "eval BoolOp And cons" => (k_here; goal_lacks Mine.CutPost; (rename (_ ∧ IdleIx _) => hTo); (rename Fr _ _ _ _ => lF'); (rename News _ _ _ _ => lN'); k_dflt (refine' cutEval true lF' lN' ?_ ?_); rotate_left; (clear lF' lN'; intro h9 tk9 F' N'; (try dsimp only)); rotate_left; (try dsimp only))
  k_with "CutPost" => (k_dflt (refine' cutEnd ?e ?F ?N ?hs; (case F => ((with_reducible rename Fr _ _ _ _ => kFF); exact kFF)); (case N => ((with_reducible rename News _ _ _ _ => kNN); exact kNN)); (case e => first | rfl | assumption | exact told_t1 (by assumption) (by assumption) (by assumption) (by assumption) | exact told_t2 (by assumption) (by assumption) (by assumption) (by assumption) | exact idle_t1 (by assumption) (by assumption) | exact idle_t2 (by assumption) (by assumption) | exact idle_t3 (by assumption) (by assumption) | exact idle_a (by assumption) | exact told_t3 (by assumption) (by assumption) (by assumption) | exact told_n (by assumption) | exact idle_n (by assumption)); (case hs => exact (by intro p hp; repeat (first | exact hp | exact List.mem_append_right _ hp | exact List.mem_append_left _ hp | apply List.Mem.tail | apply List.mem_append_right)))))
  k_with "Post2 cons next" => (k_dflt (refine' next2 ?F ?N ?h1 ?h2 ?h3 ?h4 ?h5 ?h6 ?h7; (case F => ((with_reducible rename Fr _ _ _ _ => kFF); exact kFF)); (case N => ((with_reducible rename News _ _ _ _ => kNN); exact kNN)); (case h1 => k_mem); (case h2 => k_mem); (case h3 => k_mem); (case h4 => k_mem); (case h5 => k_mem); (case h6 => assumption); (case h7 => assumption)))
  k_with "Post2 next" => (k_dflt (refine' next2 ?F ?N ?h1 ?h2 ?h3 ?h4 ?h5 ?h6 ?h7; (case F => ((with_reducible rename Fr _ _ _ _ => kFF); exact kFF)); (case N => ((with_reducible rename News _ _ _ _ => kNN); exact kNN)); (case h1 => k_mem); (case h2 => k_mem); (case h3 => k_mem); (case h4 => k_mem); (case h5 => k_mem); (case h6 => assumption); (case h7 => assumption)))
  k_with "call ref" => (k_here; k_dflt (refine' turns_by_index_c ?k1 ?k2 ?k3 ?k4 ?k5 ?kK  ?kd ?ku ?_; (case k1 => k_asm); (case k2 => k_asm); (case k3 => k_asm); (case k4 => k_asm); (case k5 => k_asm);  (case kK => first | exact rfl | assumption); (case kd => ktr_room); (case ku => ktr_units)); intro t9 h9 tk9  F9 N9; (try dsimp only); (try k_sweep); (all_goals try k_fold))
  k_with "call ref" => (k_here; k_dflt (refine' length_of_c ?k1 ?k2 ?k3 ?k4 ?k5 ?kK ?hm ?hM ?kd ?ku ?_; (case k1 => k_asm); (case k2 => k_asm); (case k3 => k_asm); (case k4 => k_asm); (case k5 => k_asm); (case hm => k_mem); (case hM => assumption); (case kK => first | exact rfl | assumption); (case kd => ktr_room); (case ku => ktr_units)); intro t9 h9 tk9  F9 N9; (try dsimp only); (try k_sweep); (all_goals try k_fold))
  k_with "call ref" => (k_here; k_dflt (refine' codes_right_c ?k1 ?k2 ?k3 ?k4 ?k5 ?kK ?p0 ?p1 ?kd ?ku ?_; (case k1 => k_asm); (case k2 => k_asm); (case k3 => k_asm); (case k4 => k_asm); (case k5 => k_asm); (case p0 => first | assumption | omega | l_fact); (case p1 => first | assumption | omega | l_fact); (case kK => first | exact rfl | assumption); (case kd => ktr_room); (case ku => ktr_units)); intro t9 h9 tk9  F9 N9; (try dsimp only); (try k_sweep); (all_goals try k_fold))
  k_with "call ref" => (k_here; k_dflt (refine' numbers_c ?k1 ?k2 ?k3 ?k4 ?k5 ?kK ?hrl ?hlo ?hO ?hV ?hb ?hmany ?kd ?ku ?_; (case k1 => k_asm); (case k2 => k_asm); (case k3 => k_asm); (case k4 => k_asm); (case k5 => k_asm); (case hrl => k_mem); (case hlo => k_mem); (case hO => exact OpsIn.mono (by assumption) (by intro p hp; repeat (first | exact hp | exact List.mem_append_right _ hp | exact List.mem_append_left _ hp | apply List.Mem.tail | apply List.mem_append_right))); (case hV => exact vs_num (by assumption)); (case hb => exact so_mod (by assumption) (by assumption)); (case hmany => exact told_cases (by assumption) (by assumption) (by assumption) (by assumption) (by assumption)); (case kK => first | exact rfl | assumption); (case kd => ktr_room); (case ku => ktr_units)); intro h9 tk9 F9 N9; (try dsimp only); (try k_sweep); (all_goals try k_fold))
  k_with "call ref" => (k_here; k_dflt (refine' jump_no ?k1 ?k2 ?k3 ?k4 ?k5 ?kK ?hj1 ?hj2 ?kd ?ku ?_; (case k1 => k_asm); (case k2 => k_asm); (case k3 => k_asm); (case k4 => k_asm); (case k5 => k_asm); (case hj1 => first | assumption | exact Plain.jr (by assumption) | (decide +kernel)); (case hj2 => first | assumption | exact Plain.djnz (by assumption) | (decide +kernel)); (case kK => first | exact rfl | assumption); (case kd => ktr_room); (case ku => ktr_units)); intro h9 tk9 F9 N9; (try dsimp only); (try k_sweep); (all_goals try k_fold))
  k_with "call ref" => (k_here; k_dflt (refine' jump_c ?k1 ?k2 ?k3 ?k4 ?k5 ?kK ?hm ?hM ?hrl ?hlo ?hops ?hg ?hw ?hgoal ?hc0 ?hc1 ?hct ?kd ?ku ?_; (case k1 => k_asm); (case k2 => k_asm); (case k3 => k_asm); (case k4 => k_asm); (case k5 => k_asm); (case hm => k_mem); (case hM => assumption); (case hrl => k_mem); (case hlo => k_mem); (case hops => first | exact .inl rfl | exact .inr rfl); (case hg => k_mem); (case hw => first | assumption | exact .inl rfl | exact .inr rfl); (case hgoal => exact goal_p _ _); (case hc0 => exact cell_p (by assumption) _); (case hc1 => exact cell_p1 (by assumption) _); (case hct => exact take_s (by assumption) (by assumption) (by assumption)); (case kK => first | exact rfl | assumption); (case kd => ktr_room); (case ku => ktr_units)); intro h9 tk9 F9 N9; (try dsimp only); (try k_sweep); (all_goals try k_fold))
  k_with "call ref" => (k_here; k_dflt (refine' jump_c (fa := (0 : Nat)) ?k1 ?k2 ?k3 ?k4 ?k5 ?kK ?hm ?hM ?hrl ?hlo ?hops ?hg ?hw ?hgoal ?hc0 ?hc1 ?hct ?kd ?ku ?_; (case k1 => k_asm); (case k2 => k_asm); (case k3 => k_asm); (case k4 => k_asm); (case k5 => k_asm); (case hm => k_mem); (case hM => assumption); (case hrl => k_mem); (case hlo => k_mem); (case hops => first | exact .inl rfl | exact .inr rfl); (case hg => k_mem); (case hw => first | assumption | exact .inl rfl | exact .inr rfl); (case hgoal => exact goal_p _ _); (case hc0 => exact cell_p (by assumption) _); (case hc1 => exact cell_p1 (by assumption) _); (case hct => exact take_s (by assumption) (by assumption) (by assumption)); (case kK => first | exact rfl | assumption); (case kd => ktr_room); (case ku => ktr_units)); intro h9 tk9 F9 N9; (try dsimp only); (try k_sweep); (all_goals try k_fold))
  trivial
theorem u8 : c2.2.2.2.2.2.2.2.1 := by
  delta c2
  dsimp only
  intros
  refine Stop.mk ?_
  (rename Frag.In _ _ => X9); revert X9; k_fill; intro X9
  (try k_fold)
  k_steps
  all_goals first | (exact (no_len (by assumption) (by assumption)).elim) | (exact (no_db (by assumption) (by assumption)).elim)

theorem whole : PySem.Challenge.rw_nz0573_01.Holds := c1.2.2 ⟨c2.2.2.2.2.2.2.2.2 ⟨u1⟩ ⟨u2⟩ ⟨u3⟩ ⟨u4⟩ ⟨u5⟩ ⟨u6⟩ ⟨u7⟩ ⟨u8⟩⟩ ⟨t1⟩
end Mine
theorem PySem.Challenge.cw_nz0573_01_holds : PySem.Challenge.rw_nz0573_01.Holds :=
  Mine.whole
