import PyProof.Rows.All
import Wide.All
import OpenK.AllK
import Wide.FinOn
import PySem.Challenge.RW_swapmart_k60_shown_and_read_again
import HandS.ForMost
import HandS.ForExc
import HandS.Wide
import HandS.IsInst
import HandS.StrMore
import HandS.More
import Flt.Len
import HandS.SortRule
import PyProof.Rows.StrJoinStr
import PyProof.Rows.SortKeyStr
import PyProof.Rows.StrMeet
set_option Elab.async false
set_option linter.all false
set_option maxRecDepth 100000
set_option maxHeartbeats 4000000
/-! ### my own words over the hand layer -/
namespace My
open PySem PySem.Spec PyProof.Rows L2

/-- a def of the text as it stands: at f, bound as its parameters say -/
structure Fa0 (K : PySem.W.Frag) (mg : Str → Option Value) (x : Str) (ps : List Str) (st : Stmt) (f : Addr) (fd : FuncData) : Prop where
  g : mg x = some (.ref f)
  F : Fun K x x st f fd
  b : Binds K fd ps []
def Fa (K : PySem.W.Frag) (mg : Str → Option Value) (x : Str) (ps : List Str) (st : Stmt) : Prop := ∃ f fd, Fa0 K mg x ps st f fd
/-- a def that keeps its promise, as callers want it -/
structure Dn0 (P : Program) (w : World) (K : PySem.W.Frag) (mg : Str → Option Value) (base : Heap) (CX : CXT) (x : Str) (ps : List Str) (k : Nat) (sp : Sp) (f : Addr) (fd : FuncData) : Prop where
  g : mg x = some (.ref f)
  kp : PySem.W.keepIn K (.ref f) = true
  b : Binds K fd ps []
  G : FnOk P w K mg base CX k f fd ps sp
def Dn (P : Program) (w : World) (K : PySem.W.Frag) (mg : Str → Option Value) (base : Heap) (CX : CXT) (x : Str) (ps : List Str) (k : Nat) (sp : Sp) : Prop := ∃ f fd, Dn0 P w K mg base CX x ps k sp f fd
/-- an exception class of the text -/
structure Xc (K : PySem.W.Frag) (mg : Str → Option Value) (x : Str) (C : Addr) : Prop where
  g : mg x = some (.ref C)
  x : PySem.W.excIn K C [.type "ValueError", .type "Exception", .type "BaseException", .type "object"] "ValueError.__new__" = true
  k : PySem.W.keepIn K (.ref C) = true
  b : PySem.W.subIn K (.ref C) (.type "BaseException") = some true
  t : PySem.W.typeIn K (.ref C) = some (.type "type")

theorem passX {P : Program} {w : World} {K : PySem.W.Frag} {mg : Str → Option Value} {base : Heap} {N : List Str} {qual : Str} {scope : Scope} {f : Addr} {cd : Value} {A : Around} {outer : List Env} {s : Shared} {H : Hp} {E : XK} :
    Passes (L2.CX P w) (cxOf (L2.CX P w) P w K mg base N qual scope f cd A outer s H E) E :=
  passes_call (takes_of rfl rfl rfl rfl) (fun _ _ _ _ h => h)

/-- one statement; what follows is a letter -/
theorem sq {t u : TS} {D : Ends} {σ : L2.St} {H : Hp} (h : ∀ R : L2.St → Hp → Prop, (∀ σ H, u D σ H → R σ H) → t { D with nx := R } σ H) : tSeq t u D σ H := h _ fun _ _ q => q

theorem g0 {α : Type} {a : α} {l : List α} : (a :: l)[0]? = some a := rfl
theorem g1 {α : Type} {a b : α} {l : List α} : (a :: b :: l)[1]? = some b := rfl
theorem g2 {α : Type} {a b c : α} {l : List α} : (a :: b :: c :: l)[2]? = some c := rfl
theorem g3 {α : Type} {a b c d : α} {l : List α} : (a :: b :: c :: d :: l)[3]? = some d := rfl
theorem g4 {α : Type} {a b c d e : α} {l : List α} : (a :: b :: c :: d :: e :: l)[4]? = some e := rfl
theorem g5 {α : Type} {a b c d e f : α} {l : List α} : (a :: b :: c :: d :: e :: f :: l)[5]? = some f := rfl
theorem g6 {α : Type} {a b c d e f g : α} {l : List α} : (a :: b :: c :: d :: e :: f :: g :: l)[6]? = some g := rfl
theorem g7 {α : Type} {a b c d e f g h : α} {l : List α} : (a :: b :: c :: d :: e :: f :: g :: h :: l)[7]? = some h := rfl
theorem g8 {α : Type} {a b c d e f g h i : α} {l : List α} : (a :: b :: c :: d :: e :: f :: g :: h :: i :: l)[8]? = some i := rfl
theorem g9 {α : Type} {a b c d e f g h i j : α} {l : List α} : (a :: b :: c :: d :: e :: f :: g :: h :: i :: j :: l)[9]? = some j := rfl
theorem g10 {α : Type} {a b c d e f g h i j k : α} {l : List α} : (a :: b :: c :: d :: e :: f :: g :: h :: i :: j :: k :: l)[10]? = some k := rfl
theorem g11 {α : Type} {a b c d e f g h i j k m : α} {l : List α} : (a :: b :: c :: d :: e :: f :: g :: h :: i :: j :: k :: m :: l)[11]? = some m := rfl
theorem g12 {α : Type} {a b c d e f g h i j k m n : α} {l : List α} : (a :: b :: c :: d :: e :: f :: g :: h :: i :: j :: k :: m :: n :: l)[12]? = some n := rfl
theorem ex1 {α : Type} {p : α → Prop} {a : α} : (∃ x, some (some a) = some (some x) ∧ p x) = p a := by simp
theorem vint {i j : Int} : (V.int i = V.int j) = (i = j) := by simp
theorem vstr {i j : Str} : (V.str i = V.str j) = (i = j) := by simp
theorem vbl {i j : Bool} : (V.bl i = V.bl j) = (i = j) := by simp
theorem vref {i j : Addr} : (V.ref i = V.ref j) = (i = j) := by simp
theorem exq {α : Type} {p : α → Prop} {a : α} : (∃ x, a = x ∧ p x) = p a := by simp
theorem start_eq (N : List Str) (vs : List V) : L2.start N vs = vs.map some ++ List.replicate (N.length - vs.length) none := rfl
end My
/-! ### texts as lists of codes -/
namespace My
theorem erase_perm {α : Type} : ∀ {l : List α} {k : Nat} (h : k < l.length), (l[k] :: l.eraseIdx k).Perm l
  | a :: l, 0, _ => by simp
  | a :: l, k + 1, h => by
    have hk : k < l.length := by simpa using h
    have ih := erase_perm (l := l) (k := k) hk
    rw [List.getElem_cons_succ, List.eraseIdx_cons_succ]
    exact (List.Perm.swap a l[k] (l.eraseIdx k)).trans (List.Perm.cons a ih)
theorem erase_map {α β : Type} (f : α → β) : ∀ (l : List α) (k : Nat), (l.map f).eraseIdx k = (l.eraseIdx k).map f
  | [], _ => by simp
  | _ :: _, 0 => by simp
  | a :: l, k + 1 => by simp [erase_map f l k]
open PySem PySem.Spec PyProof.Rows L2
abbrev C := List Nat
def T (l : C) : Str := ⟨l.toArray⟩
def abc : C := [97, 98, 99, 100, 101, 102, 103, 104, 105, 106, 107, 108, 109, 110, 111, 112, 113, 114, 115, 116, 117, 118, 119, 120, 121, 122]
def fig : C := [48, 49, 50, 51, 52, 53, 54, 55, 56, 57]
theorem T_len {l : C} : (T l).length = l.length := by simp [T, Str.length]
theorem T_list {l : C} : (T l).cps.toList = l := by simp [T]
theorem T_app {a b : C} : T a ++ T b = T (a ++ b) := by
  show Str.append (T a) (T b) = _
  simp [T, Str.append]
theorem T_inj {a b : C} : T a = T b ↔ a = b := by
  constructor
  · intro h
    have := congrArg (fun s : Str => s.cps.toList) h
    simpa [T_list] using this
  · intro h; rw [h]
theorem T_dec {a b : C} : decide (V.str (T a) = V.str (T b)) = decide (a = b) := by
  by_cases h : a = b
  · subst h; simp
  · have : ¬ V.str (T a) = V.str (T b) := fun e => h (T_inj.mp (V.str.inj e))
    rw [decide_eq_false this, decide_eq_false h]
theorem sl_len {n : Nat} (h : n ≤ 100000) : n ≤ sizeLine := Nat.le_trans h (by decide)
theorem sl_lt {n : Nat} (h : n < 100000) : n < sizeLine := Nat.lt_of_lt_of_le h (by decide)
theorem T_line {l : C} (h : l.length ≤ 100000) : (T l).length ≤ sizeLine := by rw [T_len]; exact sl_len h
theorem sIx_n (len d i : Nat) : HT.sIx len d (some (i : Int)) = min i len := HT.sIx_nat len d i
theorem cutS_T {l : C} {i j : Nat} : cutS (T l) (some (i : Int)) (some (j : Int)) = T ((l.drop i).take (j - i)) := by
  unfold cutS
  rw [sIx_n, sIx_n, T_list, T_len]
  unfold T
  congr 2
  by_cases h : i ≤ l.length
  · rw [Nat.min_eq_left h]
    by_cases h2 : j ≤ l.length
    · rw [Nat.min_eq_left h2]
    · rw [Nat.min_eq_right (by omega)]
      rw [List.take_of_length_le (by simp), List.take_of_length_le (by simp; omega)]
  · rw [show min i l.length = l.length by omega]
    rw [List.drop_of_length_le (by omega), List.drop_of_length_le (by omega)]
    simp
/-- at the place a the rest of x is s -/
structure At (x : C) (a : Nat) (s : C) : Prop where
  le : a ≤ x.length
  eq : x.drop a = s
theorem At.len {x s : C} {a : Nat} (h : At x a s) : a + s.length = x.length := by
  have h1 := congrArg List.length h.eq
  rw [List.length_drop] at h1
  have h2 := h.le
  omega
theorem At.get {x s : C} {a c : Nat} (h : At x a (c :: s)) : x[a]? = some c := by
  have := congrArg (fun l : C => l[0]?) h.eq
  simpa using this
theorem At.next {x s : C} {a c : Nat} (h : At x a (c :: s)) : At x (a + 1) s := by
  have l := h.len
  refine ⟨by simp at l; omega, ?_⟩
  have := congrArg (fun l : C => l.drop 1) h.eq
  simpa using this
theorem At.more {x s t : C} {a : Nat} (h : At x a (t ++ s)) : At x (a + t.length) s := by
  induction t generalizing a with
  | nil => simpa using h
  | cons c t ih =>
    have := ih (a := a + 1) h.next
    have e : a + (c :: t).length = a + 1 + t.length := by simp; omega
    rw [e]; exact this
theorem At.run {x s : C} {a : Nat} (p : Nat → Bool) (h : At x a s) : At x (a + (s.takeWhile p).length) (s.dropWhile p) := by
  refine At.more ?_
  rw [List.takeWhile_append_dropWhile]; exact h
theorem At.z {x : C} : At x 0 x := ⟨Nat.zero_le _, rfl⟩
theorem At.cut {x s : C} {a n : Nat} (h : At x a s) : cutS (T x) (some (a : Int)) (some ((a + n : Nat) : Int)) = T (s.take n) := by
  rw [cutS_T, h.eq]; congr 2; omega
theorem At.cut1 {x s : C} {a : Nat} (h : At x a s) : cutS (T x) (some (a : Int)) (some ((a : Int) + 1)) = T (s.take 1) := by
  have := h.cut (n := 1)
  simpa using this
theorem At.cutW {x s : C} {a : Nat} (p : Nat → Bool) (h : At x a s) : cutS (T x) (some (a : Int)) (some (((a + (s.takeWhile p).length : Nat)) : Int)) = T (s.takeWhile p) := by
  rw [h.cut]
  congr 1
  have := (List.takeWhile_prefix p (l := s))
  exact (List.prefix_iff_eq_take.mp this).symm
def rn (y s : C) : C := s.takeWhile (fun c => decide (c ∈ y))
def rs (y s : C) : C := s.dropWhile (fun c => decide (c ∈ y))
theorem At.runY {x s : C} {a : Nat} (y : C) (h : At x a s) : At x (a + (rn y s).length) (rs y s) := h.run _
theorem At.cutY {x s : C} {a : Nat} (y : C) (h : At x a s) : cutS (T x) (some (a : Int)) (some (((a + (rn y s).length : Nat)) : Int)) = T (rn y s) := h.cutW _
theorem rn_rs (y s : C) : rn y s ++ rs y s = s := List.takeWhile_append_dropWhile
theorem sum_ones (w : C) : ((w.map fun c => [c]).map (fun x => x.length)).sum = w.length := by
  induction w with
  | nil => rfl
  | cons c r ih => simp only [List.map_cons, List.sum_cons, ih]; simp; omega
theorem flat_ones (w : C) : (w.map fun c => [c]).flatten = w := by
  induction w with
  | nil => rfl
  | cons c r ih => simp only [List.map_cons, List.flatten_cons, ih]; rfl
theorem cutS_T0 {l : C} {j : Nat} : cutS (T l) none (some (j : Int)) = T (l.take j) := by
  unfold cutS
  rw [HT.sIx_none, sIx_n, T_list, T_len]
  unfold T
  congr 2
  rw [List.drop_zero, Nat.sub_zero]
  by_cases h : j ≤ l.length
  · rw [Nat.min_eq_left h]
  · rw [Nat.min_eq_right (by omega), List.take_length, List.take_of_length_le (by omega)]
theorem T_nil : Str.empty = T [] := rfl
theorem join_nil (ys : List C) : Txt.join (T []) (ys.map T) = T ys.flatten := by
  rw [TL.join_eq]
  induction ys with
  | nil => rfl
  | cons y r ih =>
    cases r with
    | nil => simp [Str.join]
    | cons z r =>
      show T y ++ T [] ++ Str.join (T []) ((z :: r).map T) = _
      rw [ih, T_app, T_app]; simp
theorem rn_all {y x : C} : (rn y x).length = x.length ↔ ∀ c ∈ x, c ∈ y := by
  unfold rn
  induction x with
  | nil => simp
  | cons c r ih =>
    by_cases h : c ∈ y
    · simp [List.takeWhile_cons, h, ih]
    · simp [List.takeWhile_cons, h]
theorem rn_len (y x : C) : (rn y x).length ≤ x.length := List.IsPrefix.length_le (List.takeWhile_prefix _)
theorem rn_mem {y x : C} : ∀ c ∈ rn y x, c ∈ y := fun c hc => by
  have := List.all_takeWhile (p := fun c => decide (c ∈ y)) (l := x)
  exact of_decide_eq_true (List.all_eq_true.mp this c hc)
theorem take1_iff {s : C} {c : Nat} : s.take 1 = [c] ↔ s.head? = some c := by cases s <;> simp
theorem take1_nil {s : C} : s.take 1 = [] ↔ s.head? = none := by cases s <;> simp
theorem T1_iff {c d : Nat} : (({ cps := #[c] } : Str) = T [d]) ↔ c = d := by
  constructor
  · intro h
    have : T [c] = T [d] := h
    have := T_inj.mp this
    simpa using this
  · rintro rfl; rfl
theorem fig_iff {c : Nat} : c ∈ fig ↔ 48 ≤ c ∧ c ≤ 57 := by
  unfold fig
  simp only [List.mem_cons, List.mem_nil_iff, or_false]
  omega
theorem abc_iff {c : Nat} : c ∈ abc ↔ 97 ≤ c ∧ c ≤ 122 := by
  unfold abc
  simp only [List.mem_cons, List.mem_nil_iff, or_false]
  omega
theorem rn_fig (s : C) : NumText.AllDigits (rn fig s) := fun c hc => fig_iff.mp (rn_mem c hc)
end My
/-! ### rules that the layer lacks -/
namespace My
open PySem PySem.Spec PyProof.Rows L2
theorem foldl_app (l : List (Array Nat)) (a : Array Nat) : (l.foldl (· ++ ·) a).toList = a.toList ++ (l.map Array.toList).flatten := by
  induction l generalizing a with
  | nil => simp
  | cons x r ih => rw [List.foldl_cons, ih]; simp
/-- a text many times -/
def rMulS : R2 := fun x y H Q => ∃ (z : C) (n : Int), x = .str (T z) ∧ y = .int n ∧ 0 ≤ n ∧ n ≤ 1000 ∧ z.length ≤ 1000 ∧ Q (.str (T (List.replicate n.toNat z).flatten)) H
theorem op_mul_str {X : Cx} : OpR X (binaryOp .Mult) rMulS := by
  intro pins s σ H x y v u Q I rx ry h
  obtain ⟨z, n, rfl, rfl, h0, h1, h2, q⟩ := h
  obtain ⟨t, rfl⟩ := rx
  obtain ⟨t', rfl⟩ := ry
  refine PySem.SB.mul ⟨?_, fun hn hh => ?_, fun hn hh => ?_⟩ fun t' k => ⟨.str (T (List.replicate n.toNat z).flatten), H, I.tok _, ?_, q⟩
  · rw [decide_eq_false (by omega), decide_eq_false (by omega)]; rfl
  · rw [T_len]
    have : (1000 : Int) ≤ (2 ^ 63 - 1) / n := by
      rw [Int.le_ediv_iff_mul_le (by omega)]; omega
    omega
  · unfold Builtin.Str.tooLong
    rw [T_len]
    have h3 : n.toNat ≤ 1000 := by omega
    have h4 : z.length * n.toNat ≤ 1000 * 1000 := Nat.mul_le_mul h2 h3
    have : sizeLine = 16777216 := by decide
    simp [this]
    omega
  · have e : Txt.mul (T z) n = T (List.replicate n.toNat z).flatten := by
      unfold Txt.mul
      by_cases hn : n < 1
      · rw [if_pos hn]
        have : n.toNat = 0 := by omega
        rw [this]; rfl
      · rw [if_neg hn]
        by_cases hc : (n == 1 || (T z).length == 0) = true
        · rw [if_pos hc]
          rw [T_len] at hc
          simp at hc
          rcases hc with hc | hc
          · subst hc; simp
          · subst hc; simp
        · rw [if_neg hc]
          unfold T
          congr 1
          apply Array.toList_inj.mp
          rw [foldl_app]
          simp
    rw [e]
    exact ⟨t', rfl⟩
end My
namespace My
open PySem PySem.Spec PyProof.Rows L2
theorem seq_nat {i : Int} {n : Nat} (h0 : 0 ≤ i) (h1 : i < n) : seqIndex? i n = some i.toNat := by
  refine (ixN_seq ?_).1
  unfold ixN
  rw [if_pos h0, if_pos (by omega)]
/-- a comprehension over a text -/
theorem lc_txt {l : C} {g : TG} {tt : TT} {te : TE} {vs : List Nat} {σ : L2.St} {H1 : Hp} {D : Addr} {Qd : Hp → Prop} (Pv : Nat → Hp → Prop) (h0 : Pv 0 (upd H1 D (.lst [])))
    (hs : ∀ i c H, l[i]? = some c → Pv i H → g (.str (T [c])) (wipe σ vs) H fun σ2 H2 => wipe σ2 vs = wipe σ vs ∧ tt σ2 H2 fun b H3 =>
      if b = true then te σ2 H3 fun y H4 => ∃ acc, H4 D = some (.lst acc) ∧ acc.length < sizeLine ∧ Pv (i + 1) (upd H4 D (.lst (acc ++ [y]))) else Pv (i + 1) H3) (hd : ∀ H, Pv l.length H → Qd H) :
    ∃ W : Nat → Nat → Hp → Prop, (∃ m, W 0 m (upd H1 D (.lst []))) ∧ ∀ i m H, W i m H →
      ((Its (T l)).stop i H ∧ Qd H) ∨ ((Its (T l)).go i H ∧ ∃ Nx : Hp → Prop, (∀ H', Nx H' → ∃ m', m' < m ∧ W (i + 1) m' H') ∧ ∀ x H', (Its (T l)).yld i H x H' → g x (wipe σ vs) H' fun σ2 H2 => wipe σ2 vs = wipe σ vs ∧ tt σ2 H2 fun b H3 =>
        if b = true then te σ2 H3 fun y H4 => ∃ acc, H4 D = some (.lst acc) ∧ acc.length < sizeLine ∧ Nx (upd H4 D (.lst (acc ++ [y]))) else Nx H3) := by
  have sz : (T l).cps.size = l.length := by simp [T]
  refine ⟨fun i m H => m = l.length - i ∧ i ≤ l.length ∧ Pv i H, ⟨l.length, by simp, Nat.zero_le _, h0⟩, ?_⟩
  rintro i m H ⟨rfl, hi, p⟩
  by_cases hlt : i < l.length
  · refine .inr ⟨show i < (T l).cps.size by rw [sz]; exact hlt, Pv (i + 1), fun H' p' => ⟨l.length - (i + 1), by omega, rfl, hlt, p'⟩, fun x H' y => ?_⟩
    obtain ⟨e, c, hc, ev⟩ := y
    subst e; subst ev
    have hc' : l[i]? = some c := by simpa [T] using hc
    exact hs i c _ hc' p
  · have e : i = l.length := by omega
    subst e
    exact .inl ⟨show (T l).cps.size ≤ _ by rw [sz]; exact Nat.le_refl _, hd _ p⟩
end My
/-! ### the layer's rules, the written part told by name (so they serve within comprehensions, too) -/
namespace My
open PySem PySem.Spec PyProof.Rows L2
section
variable {X : Cx} {K : PySem.W.Frag}
theorem ix_listK (hK : X.K = K := by rfl) : IxR X (rIxL K) := by subst hK; exact ix_list
theorem ix_tupK (hK : X.K = K := by rfl) : IxR X (rIxT K) := by subst hK; exact ix_tup
theorem sl_listK (hK : X.K = K := by rfl) : SlR X (rSlL K) := by subst hK; exact sl_list
theorem sl_tupK (hK : X.K = K := by rfl) : SlR X (rSlT K) := by subst hK; exact sl_tup
theorem pi_listK {tg l : Expr} {tl : TE} (hl : PE X l tl) (hK : X.K = K := by rfl) : PI X tg l (iList K tl) := by subst hK; exact pi_list hl
theorem pi_tupK {tg l : Expr} {tl : TE} (hl : PE X l tl) (hK : X.K = K := by rfl) : PI X tg l (iTup K tl) := by subst hK; exact pi_tup hl
theorem pg_tupK {pos : Pos} {es : List Expr} {k : Nat} {t : TGs} {n : Nat} (hc : X.calm = true) (h : PGs X es t) (hK : X.K = K := by rfl)
    (hn : (assignEach es X.env).length = n := by rfl) (hst : (assignEach es X.env).findIdx? (·.1) = none := by rfl) : PG X (.Tuple es k pos) (gTup K n t) := by subst hK; exact pg_tup hc h hn hst
theorem op_eqDK (hu : X.A.units + 64 < cLine) (hK : X.K = K := by rfl) : OpR X (compareOp .Eq) (rEqD K) := by subst hK; exact op_eqD hu
theorem op_neDK (hu : X.A.units + 64 < cLine) (hK : X.K = K := by rfl) : OpR X (compareOp .NotEq) (rNeD K) := by subst hK; exact op_neD hu
theorem op_in_seqK (hK : X.K = K := by rfl) : OpR X (compareOp .In) (rIn K false) := by subst hK; exact op_in_seq
theorem op_notIn_seqK (hK : X.K = K := by rfl) : OpR X (compareOp .NotIn) (rIn K true) := by subst hK; exact op_notIn_seq
def rLenB (K : PySem.W.Frag) : List V → Hp → VK → Prop := fun xs H Q => ∃ x n, xs = [x] ∧ LenV K x H n ∧ Q (.int n) H
theorem call_lenK (hK : X.K = K := by rfl) : CallR X (.builtin "len") (rLenB K) := by subst hK; exact call_len
def rLenQ (K : PySem.W.Frag) : List V → Hp → VK → Prop := fun xs H Q => ∃ p ys, xs = [.ref p] ∧ (SqL K H p ys ∨ SqT K H p ys) ∧ Q (.int ys.length) H
theorem call_lenQ (hK : X.K = K := by rfl) : CallR X (.builtin "len") (rLenQ K) := by subst hK; exact call_len_seq
def rListO (K : PySem.W.Frag) : List V → Hp → VK → Prop := fun xs H Q => ∃ p ys, xs = [.ref p] ∧ (SqL K H p ys ∨ SqT K H p ys) ∧ ∀ l, H l = none → Q (.ref l) (upd H l (.lst ys))
theorem call_listK (hK : X.K = K := by rfl) : CallR X (.type "list") (rListO K) := by subst hK; exact call_list_of
theorem cr_sumK (hc : X.calm = true) (hK : X.K = K := by rfl) : CallR X (.builtin "sum") (rSum K) := by subst hK; exact cr_sum hc
theorem cr_allK (hc : X.calm = true) (hK : X.K = K := by rfl) : CallR X (.builtin "all") (rAll K) := by subst hK; exact cr_all hc
theorem cr_anyK (hc : X.calm = true) (hK : X.K = K := by rfl) : CallR X (.builtin "any") (rAny K) := by subst hK; exact cr_any hc
theorem call_isiK (hK : X.K = K := by rfl) : CallR X (.builtin "isinstance") (rIsi K) := by subst hK; exact call_isi
theorem call_isiTK (hK : X.K = K := by rfl) : CallR X (.builtin "isinstance") (rIsiT K) := by subst hK; exact call_isiT
def rJoin (K : PySem.W.Frag) : V → List V → Hp → VK → Prop := fun x xs H Q => ∃ (a : C) (p : Addr) (ys : List C), x = .str (T a) ∧ xs = [.ref p] ∧ (SqL K H p (ys.map fun y => .str (T y)) ∨ SqT K H p (ys.map fun y => .str (T y))) ∧
  (ys.map (·.length)).sum + ys.length * a.length ≤ 16777216 ∧ Q (.str (Txt.join (T a) (ys.map T))) H
theorem pe_joinK {o e : Expr} {to te : TE} {apos pos : Pos} (ho : PE X o to) (he : PE X e te) (hK : X.K = K := by rfl) (hs : starEach [e] X.env = [(false, eval e X.env)] := by rfl)
    (hbase : attributeBase o "join" X.env (eval o X.env) = eval o X.env := by rfl) (hline : (apos.endLine == pos.line) = true := by rfl) :
    PE X (.Call (.Attribute o "join" apos) [e] [] pos) (tM1 (rJoin K) to te) := by
  subst hK
  refine pe_m1 F.slot_str_join F.type_str_join (fun pins s σ H x xs u us Q I rx rs h => ?_) ho he hs hbase hline
  obtain ⟨a, p, ys, rfl, rfl, hh, hl, q⟩ := h
  refine mt_join pins s σ H _ _ u us Q I rx rs ⟨T a, p, ys.map T, rfl, rfl, ?_, ?_, q⟩
  · rw [List.map_map]; exact hh
  · rw [List.map_map, List.length_map, T_len]
    have e : (ys.map ((fun x : Str => x.length) ∘ T)) = ys.map (·.length) := List.map_congr_left fun y _ => T_len
    rw [e]; exact hl
theorem pi_zipK {e e2 : Expr} {ta : TA} {p pos tpos : Pos} {elts : List Expr} {kk : Nat} (hg : Gl X "zip") (hm : X.mg "zip" = none) (ha : PA X [e, e2] ta) (hK : X.K = K := by rfl)
    (hs : starEach [e, e2] X.env = (false, eval e X.env) :: starEach [e2] X.env := by rfl) (hpl : (backTo pos (starEach [e2] X.env)).any (·.1) = false := by rfl) :
    PI X (.Tuple elts kk tpos) (.Call (.Name "zip" p) [e, e2] [] pos) (iZip K ta) := by subst hK; exact pi_zip hg hm ha hs hpl
theorem pi_enumK {e : Expr} {ta : TA} {p pos tpos : Pos} {elts : List Expr} {kk : Nat} (hg : Gl X "enumerate") (hm : X.mg "enumerate" = none) (ha : PA X [e] ta) (hK : X.K = K := by rfl) (hs : starEach [e] X.env = [(false, eval e X.env)] := by rfl) :
    PI X (.Tuple elts kk tpos) (.Call (.Name "enumerate" p) [e] [] pos) (iEnum K ta) := by subst hK; exact pi_enum hg hm ha hs
variable {T id : String} {name : Str} {r : V → List V → Hp → VK → Prop} {o e : Expr} {es : List Expr} {to : TE} {t : TA} {apos cpos : Pos}
theorem pe_bm0K (pa : PlainAttrs T) (slot : Slot T name id) (hty : typeOf (.builtin id) = pure (.type "method_descriptor")) (hm : MtR X id r) (ho : PE X o to) (hK : X.K = K := by rfl)
    (hbase : attributeBase o name X.env (eval o X.env) = eval o X.env := by rfl) (hline : (apos.endLine == cpos.line) = true := by rfl) : PE X (.Call (.Attribute o name apos) [] [] cpos) (tBM0 K T r to) := by subst hK; exact pe_bm0 pa slot hty hm ho hbase hline
theorem pe_bmK (pa : PlainAttrs T) (slot : Slot T name id) (hty : typeOf (.builtin id) = pure (.type "method_descriptor")) (hm : MtR X id r) (ho : PE X o to) (ha : PA X (e :: es) t) (hK : X.K = K := by rfl)
    (hbase : attributeBase o name X.env (eval o X.env) = eval o X.env := by rfl)
    (hfew : ((backTo cpos (starEach (e :: es) X.env)).all (fun x => !x.1) && (backToKw cpos (keywordEach [] X.env)).all (fun x => x.1.isSome) && decide ((e :: es).length + ([] : List Keyword).length + (if ([] : List Keyword).isEmpty then 0 else 1) < 30)) = true := by rfl)
    (hline : (apos.endLine == cpos.line) = true := by rfl) (hs : starEach (e :: es) X.env = (false, eval e X.env) :: starEach es X.env := by rfl) (hplain : (backTo cpos (starEach es X.env)).any (·.1) = false := by rfl) :
    PE X (.Call (.Attribute o name apos) (e :: es) [] cpos) (tBM K T r to t) := by subst hK; exact pe_bm pa slot hty hm ho ha hbase hfew hline hs hplain
end
theorem isi_str {K : PySem.W.Frag} {H : Hp} {Q : VK} {z : Str} {n : String} {b : Bool} (hb : kitB "str" n = some b) (q : Q (.bl b) H) : rIsi K [.str z, .ty n] H Q := ⟨_, _, _, _, b, rfl, .ty _, .base (.str _), kit_ty hb, q⟩
theorem isi_int {K : PySem.W.Frag} {H : Hp} {Q : VK} {z : Int} {n : String} {b : Bool} (hb : kitB "int" n = some b) (q : Q (.bl b) H) : rIsi K [.int z, .ty n] H Q := ⟨_, _, _, _, b, rfl, .ty _, .base (.int _), kit_ty hb, q⟩
theorem isi_lst {K : PySem.W.Frag} {H : Hp} {Q : VK} {a : Addr} {xs : List V} {n : String} {b : Bool} (h : H a = some (.lst xs)) (hb : kitB "list" n = some b) (q : Q (.bl b) H) : rIsi K [.ref a, .ty n] H Q := ⟨_, _, _, _, b, rfl, .ty _, .base (.lst h), kit_ty hb, q⟩
theorem isi_tup {K : PySem.W.Frag} {H : Hp} {Q : VK} {a : Addr} {xs : List V} {n : String} {b : Bool} (h : H a = some (.tup xs)) (hb : kitB "tuple" n = some b) (q : Q (.bl b) H) : rIsi K [.ref a, .ty n] H Q := ⟨_, _, _, _, b, rfl, .ty _, .base (.tup h), kit_ty hb, q⟩
theorem ty_str {K : PySem.W.Frag} {z : Str} {H : Hp} : tyV K "str" (.str z) H := rfl
end My
/-! ### the law's box of drawn numbers -/
namespace My
open PySem PySem.Spec PyProof.Rows L2
/-- all but what stands at b is kept -/
def Kb (b : Addr) (H H' : Hp) : Prop := ∀ a o, a ≠ b → H a = some o → H' a = some o
/-- all is kept -/
def Ex (H H' : Hp) : Prop := ∀ a o, H a = some o → H' a = some o
theorem Ex.refl (H : Hp) : Ex H H := fun _ _ h => h
theorem Ex.trans {H H1 H2 : Hp} (a : Ex H H1) (b : Ex H1 H2) : Ex H H2 := fun x o h => b x o (a x o h)
theorem Ex.new {H : Hp} {p : Addr} {o : HO} (h : H p = none) : Ex H (upd H p o) := fun a u e => by
  rw [upd_ne (ne_of_none e h)]; exact e
theorem Ex.free {H H' : Hp} (e : Ex H H') {p : Addr} (h : H' p = none) : H p = none := by
  cases q : H p with
  | none => rfl
  | some o => rw [e p o q] at h; cases h
theorem Ex.put {H H' : Hp} {p : Addr} {o : HO} (e : Ex H H') (h : H p = none) : Ex H (upd H' p o) := fun a u ha => by
  rw [upd_ne (ne_of_none ha h)]; exact e a u ha
theorem Ex.kb {H H' : Hp} {b : Addr} (e : Ex H H') : Kb b H H' := fun a o _ h => e a o h
theorem Kb.refl (b : Addr) (H : Hp) : Kb b H H := fun _ _ _ h => h
theorem Kb.trans {b : Addr} {H H1 H2 : Hp} (a : Kb b H H1) (c : Kb b H1 H2) : Kb b H H2 := fun x o n h => c x o n (a x o n h)
theorem Kb.put {b : Addr} {H H' : Hp} {o : HO} (e : Kb b H H') : Kb b H (upd H' b o) := fun a u n h => by
  rw [upd_ne n]; exact e a u n h
theorem Kb.new {b p : Addr} {H H' : Hp} {o : HO} (e : Kb b H H') (h : H' p = none) : Kb b H (upd H' p o) := fun a u n q => by
  have := e a u n q
  rw [upd_ne (ne_of_none this h)]; exact this
theorem Kb.mut {b p : Addr} {H H' : Hp} {o : HO} (e : Kb b H H') (h : H p = none) : Kb b H (upd H' p o) := fun a u n q => by
  rw [upd_ne (ne_of_none q h)]; exact e a u n q
theorem Kb.free {b p : Addr} {H H' : Hp} (e : Kb b H H') (n : p ≠ b) (h : H' p = none) : H p = none := by
  cases q : H p with
  | none => rfl
  | some o => rw [e p o n q] at h; cases h
theorem rd_ne {H : Hp} {a b : Addr} {u o : HO} (r : Rd H a u) (h : H b = some o) (d : o ≠ u) (d' : ∀ x y, o ≠ .frz x y) : a ≠ b := by
  rintro rfl
  rcases r with r | ⟨x, r⟩
  · rw [r] at h; exact d (Option.some.inj h).symm
  · rw [r] at h; exact d' _ _ (Option.some.inj h).symm
theorem SqL.kb {K : PySem.W.Frag} {b a : Addr} {H H' : Hp} {xs : List V} (e : Kb b H H') (n : Rd H a (.lst xs) → a ≠ b) (h : SqL K H a xs) : SqL K H' a xs := by
  rcases h with h | h
  · have := n h
    rcases h with h | ⟨o, h⟩
    · exact .inl (.inl (e _ _ this h))
    · exact .inl (.inr ⟨o, e _ _ this h⟩)
  · exact .inr h
theorem SqL.ex {K : PySem.W.Frag} {a : Addr} {H H' : Hp} {xs : List V} (e : Ex H H') (h : SqL K H a xs) : SqL K H' a xs := by
  rcases h with (h | ⟨o, h⟩) | h
  · exact .inl (.inl (e _ _ h))
  · exact .inl (.inr ⟨o, e _ _ h⟩)
  · exact .inr h
theorem lsq {K : PySem.W.Frag} {a : Addr} {H : Hp} {xs : List V} (h : H a = some (.lst xs)) : SqL K H a xs := .inl (.inl h)
theorem tsq {K : PySem.W.Frag} {a : Addr} {H : Hp} {xs : List V} (h : H a = some (.tup xs)) : SqT K H a xs := .inl (.inl h)
/-- the box at b: the script's list, the place, what is left; at most n numbers were taken -/
structure Bx (K : PySem.W.Frag) (b sc : Addr) (ns : List Int) (n : Nat) (H : Hp) : Prop where
  ex : ∃ a s : Int, H b = some (.lst [.ref sc, .int a, .int s]) ∧ 0 ≤ a ∧ a ≤ n
  sq : SqL K H sc (ns.map V.int)
  le : ns.length ≤ 63
theorem Bx.sep {K : PySem.W.Frag} {b sc : Addr} {ns : List Int} {n : Nat} {H : Hp} (h : Bx K b sc ns n H) : Rd H sc (.lst (ns.map V.int)) → sc ≠ b := fun r => by
  obtain ⟨a, s, e, _⟩ := h.ex
  refine rd_ne r e (fun z => ?_) (fun _ _ z => nomatch z)
  have z := HO.lst.inj z
  cases ns with
  | nil => simp at z
  | cons x r => simp at z
theorem Bx.keep {K : PySem.W.Frag} {b sc : Addr} {ns : List Int} {n : Nat} {H H' : Hp} (h : Bx K b sc ns n H) (e : Ex H H') : Bx K b sc ns n H' :=
  ⟨let ⟨a, s, q, r⟩ := h.ex; ⟨a, s, e _ _ q, r⟩, SqL.ex e h.sq, h.le⟩
theorem Bx.up {K : PySem.W.Frag} {b sc : Addr} {ns : List Int} {n m : Nat} {H : Hp} (h : Bx K b sc ns n H) (e : n ≤ m) : Bx K b sc ns m H :=
  ⟨let ⟨a, s, q, r, t⟩ := h.ex; ⟨a, s, q, r, by omega⟩, h.sq, h.le⟩
theorem Bx.put {K : PySem.W.Frag} {b sc : Addr} {ns : List Int} {n m : Nat} {H : Hp} {a s : Int} (h : Bx K b sc ns n H) (h0 : 0 ≤ a) (h1 : a ≤ m) : Bx K b sc ns m (upd H b (.lst [.ref sc, .int a, .int s])) :=
  ⟨⟨a, s, upd_same, h0, h1⟩, SqL.kb (Kb.put (Kb.refl b H)) h.sep h.sq, h.le⟩
theorem lenV {ns : List Int} : (ns.map V.int).length = ns.length := List.length_map ..
theorem getV {ns : List Int} {i : Nat} (h : i < ns.length) : (ns.map V.int)[i]? = some (.int ns[i]) := by
  rw [List.getElem?_map, List.getElem?_eq_getElem h]; rfl
theorem at_i {α : Type} {xs : List α} {z : Int} {v : α} (h0 : 0 ≤ z) (h : xs[z.toNat]? = some v) : atI xs z = some v := by
  have : z = (z.toNat : Int) := by omega
  rw [this]; exact atI_nat h
theorem at_V {ns : List Int} {z : Int} (h0 : 0 ≤ z) (h : z < ns.length) : ∃ c, atI (ns.map V.int) z = some (.int c) :=
  ⟨_, at_i h0 (getV (by omega))⟩
theorem ix0 {α : Type} {a : α} {l : List α} : atI (a :: l) 0 = some a := at_i (by decide) rfl
theorem ix1 {α : Type} {a b : α} {l : List α} : atI (a :: b :: l) 1 = some b := at_i (by decide) rfl
theorem ix2 {α : Type} {a b c : α} {l : List α} : atI (a :: b :: c :: l) 2 = some c := at_i (by decide) rfl
theorem in1 {α : Type} {a b c : α} : ixN [a, b, c].length 1 = some 1 := rfl
theorem in2 {α : Type} {a b c : α} : ixN [a, b, c].length 2 = some 2 := rfl
theorem log_lt {m : Int} {k : Nat} (h0 : 0 < m) (h : m < 2 ^ k) (hk : 0 < k) : m.natAbs.log2 < k := by
  refine PySem.Flt.log2_lt_of hk ?_
  have : (m.natAbs : Int) = m := by omega
  have h' : (m.natAbs : Int) < ((2 ^ k : Nat) : Int) := by rw [this]; simpa using h
  exact_mod_cast h'
theorem at_all {xs : List V} {r : Int} (P : V → Prop) (h : ∀ x ∈ xs, P x) (h0 : 0 ≤ r) (h1 : r < xs.length) : ∃ v, atI xs r = some v ∧ P v := by
  have hl : r.toNat < xs.length := by omega
  exact ⟨xs[r.toNat], at_i h0 (List.getElem?_eq_getElem hl), h _ (List.getElem_mem hl)⟩
theorem at_ints {xs : List Int} {r : Int} (P : Int → Prop) (h : ∀ x ∈ xs, P x) (h0 : 0 ≤ r) (h1 : r < xs.length) : ∃ v : Int, atI (xs.map V.int) r = some (.int v) ∧ P v := by
  have hl : r.toNat < xs.length := by omega
  exact ⟨xs[r.toNat], at_i h0 (getV hl), h _ (List.getElem_mem hl)⟩
theorem Bx.mut {K : PySem.W.Frag} {b sc p : Addr} {ns : List Int} {n : Nat} {H0 H : Hp} {o : HO} (h0 : Bx K b sc ns n H0) (hp : H0 p = none) (kb : Kb b H0 H) {m : Nat} (h : Bx K b sc ns m H) : Bx K b sc ns m (upd H p o) := by
  have nb : p ≠ b := by
    rintro rfl
    obtain ⟨_, _, e, _⟩ := h0.ex
    rw [hp] at e; cases e
  exact ⟨let ⟨a, s, q, r⟩ := h.ex; ⟨a, s, by rw [upd_ne nb.symm]; exact q, r⟩, SqL.kb (Kb.mut kb hp) h0.sep h0.sq, h.le⟩
theorem Bx.ne {K : PySem.W.Frag} {b sc p : Addr} {ns : List Int} {n : Nat} {H : Hp} (h : Bx K b sc ns n H) (hp : H p = none) : p ≠ b := by
  rintro rfl
  obtain ⟨_, _, e, _⟩ := h.ex
  rw [hp] at e; cases e
/-- a name: one to eight small letters -/
structure NameOk (l : C) : Prop where
  pos : 1 ≤ l.length
  le : l.length ≤ 8
  all : ∀ c ∈ l, c ∈ abc
def rowWords : List C := [[107, 105, 110, 100], [115, 119, 97, 112], [115, 97, 109, 101], [112, 108, 97, 105, 110], [115, 112, 97, 110], [119, 104, 101, 101, 108, 115], [109, 97, 110, 121], [98, 121]]
def rowText : C := [107, 105, 110, 100, 124, 115, 119, 97, 112, 124, 115, 97, 109, 101, 124, 112, 108, 97, 105, 110, 124, 115, 112, 97, 110, 124, 119, 104, 101, 101, 108, 115, 124, 109, 97, 110, 121, 124, 98, 121]
theorem row_split : Txt.split (T rowText) (T [124]) = rowWords.map T := by decide +kernel
instance (l : C) : Decidable (NameOk l) := decidable_of_iff (1 ≤ l.length ∧ l.length ≤ 8 ∧ ∀ c ∈ l, c ∈ abc) ⟨fun h => ⟨h.1, h.2.1, h.2.2⟩, fun h => ⟨h.pos, h.le, h.all⟩⟩
theorem row_ok : (∀ x ∈ rowWords, NameOk x) ∧ rowWords.Nodup := by decide
/-- the first k + 1 letters -/
def heads (w : C) (i : Nat) : List C := (List.range i).map fun k => w.take (k + 1)
theorem heads_ok {w : C} (h : w.length = 8) (h2 : ∀ c ∈ w, c ∈ abc) : ∀ x ∈ heads w 8, NameOk x := by
  intro x hx
  obtain ⟨k, hk, rfl⟩ := List.mem_map.mp hx
  have hk := List.mem_range.mp hk
  exact ⟨by rw [List.length_take]; omega, by rw [List.length_take]; omega, fun c hc => h2 c (List.mem_of_mem_take hc)⟩
theorem heads_nd {w : C} (h : w.length = 8) : (heads w 8).Nodup := by
  unfold heads List.Nodup
  rw [List.pairwise_map]
  refine List.Pairwise.imp_of_mem (fun {a b} ha hb hab e => ?_) (List.nodup_range (n := 8))
  have := congrArg List.length e
  rw [List.length_take, List.length_take] at this
  have := List.mem_range.mp ha
  have := List.mem_range.mp hb
  omega
/-- one letter, so many times -/
def lots (l : C) (f : Nat → Nat) : List C := l.map fun c => List.replicate (1 + f c) c
def tV (l : C) : V := .str (T l)
/-- a list of unlike names, made since H -/
structure Left (K : PySem.W.Frag) (b sc : Addr) (ns : List Int) (n : Nat) (H H3 : Hp) (L : Addr) (l : List C) : Prop where
  new : H L = none
  at_ : H3 L = some (.lst (l.map tV))
  ok : ∀ x ∈ l, NameOk x
  nd : l.Nodup
  kb : Kb b H H3
  bx : Bx K b sc ns n H3
theorem lots_ok {l : C} {f : Nat → Nat} (h : ∀ c ∈ l, c ∈ abc) (hf : ∀ c, f c ≤ 7) : ∀ x ∈ lots l f, NameOk x := by
  intro x hx
  obtain ⟨c, hc, rfl⟩ := List.mem_map.mp hx
  refine ⟨by rw [List.length_replicate]; omega, by rw [List.length_replicate]; have := hf c; omega, fun d hd => ?_⟩
  rw [List.eq_of_mem_replicate hd]; exact h c hc
/-- a list of one letter again and again, unlike letters -/
inductive Lots : C → List C → Prop
  | nil : Lots [] []
  | cons {c : Nat} {l : C} {r : List C} {j : Nat} : j ≤ 7 → Lots l r → Lots (l ++ [c]) (r ++ [List.replicate (1 + j) c])
theorem Lots.mem {l : C} {r : List C} (h : Lots l r) : ∀ x ∈ r, ∃ c ∈ l, ∃ j, j ≤ 7 ∧ x = List.replicate (1 + j) c := by
  induction h with
  | nil => intro x hx; cases hx
  | cons hj _ ih =>
    intro x hx
    rcases List.mem_append.mp hx with hx | hx
    · obtain ⟨c, hc, q⟩ := ih x hx
      exact ⟨c, List.mem_append_left _ hc, q⟩
    · rw [List.mem_singleton.mp hx]
      exact ⟨_, List.mem_append_right _ (List.mem_singleton.mpr rfl), _, hj, rfl⟩
theorem Lots.len {l : C} {r : List C} (h : Lots l r) : r.length = l.length := by
  induction h with
  | nil => rfl
  | cons _ _ ih => simp [ih]
theorem Lots.ok {l : C} {r : List C} (h : Lots l r) (hl : ∀ c ∈ l, c ∈ abc) : ∀ x ∈ r, NameOk x := by
  intro x hx
  obtain ⟨c, hc, j, hj, rfl⟩ := h.mem x hx
  refine ⟨by rw [List.length_replicate]; omega, by rw [List.length_replicate]; omega, fun d hd => ?_⟩
  rw [List.eq_of_mem_replicate hd]; exact hl c hc
theorem Lots.nd {l : C} {r : List C} (h : Lots l r) (hl : l.Nodup) : r.Nodup := by
  induction h with
  | nil => exact List.nodup_nil
  | @cons c l r j hj hh ih =>
    rw [List.nodup_append] at hl ⊢
    refine ⟨ih hl.1, by simp, fun x hx y hy e => ?_⟩
    rw [List.mem_singleton.mp hy] at e
    obtain ⟨d, hd, j', _, rfl⟩ := hh.mem x hx
    have e1 : (List.replicate (1 + j') d)[0]? = (List.replicate (1 + j) c)[0]? := by rw [e]
    rw [List.getElem?_replicate, List.getElem?_replicate, if_pos (by omega), if_pos (by omega)] at e1
    exact hl.2.2 d hd c (List.mem_singleton.mpr rfl) (Option.some.inj e1)
theorem abc_nd : abc.Nodup := by decide
end My
/-! ### what reading a text comes to -/
namespace My
open PySem PySem.Spec PyProof.Rows L2
/-- the number and the blanks behind it -/
def numM (s : C) : Option (Int × C) :=
  if (rn fig s).length > 60 ∨ s.head? = some 48 ∨ (rs fig s).head? ≠ some 32 then none else some (((NumText.digitsVal (rn fig s) : Nat) : Int), rs [32] (rs fig s))
def many1 (s : C) : Option (Int × C) := if ∃ c, s.head? = some c ∧ c ∈ fig then numM s else some (1, s)
instance (s : C) : Decidable (∃ c, s.head? = some c ∧ c ∈ fig) := match s with
  | [] => isFalse (fun ⟨_, h, _⟩ => by cases h)
  | c :: _ => decidable_of_iff (c ∈ fig) ⟨fun h => ⟨c, rfl, h⟩, fun ⟨_, e, h⟩ => by cases e; exact h⟩
def nameM (m : Int) (s : C) : Option (C × Int × C) := if NameOk (rn abc s) then some (rn abc s, m, rs [32] (rs abc s)) else none
def termM (s : C) : Option (C × Int × C) := (many1 s).bind fun e => nameM e.1 e.2
/-- + or - -/
def by_ (c : Nat) : Int := if c = 45 then -1 else 1
def loopM : Nat → C → Option (List (C × Int))
  | _, [] => some []
  | 0, _ :: _ => none
  | n + 1, c :: s => if c = 43 ∨ c = 45 then (termM (rs [32] s)).bind fun e => (loopM n e.2.2).map fun l => (e.1, by_ c * e.2.1) :: l else none
def firstM (s : C) : Int × C := if s.head? = some 45 then (-1, rs [32] (s.drop 1)) else (1, s)
def termsM (x : C) : Option (List (C × Int)) :=
  let e := firstM (rs [32] x)
  (termM e.2).bind fun f => (loopM f.2.2.length f.2.2).map fun l => (f.1, e.1 * f.2.1) :: l
def strip32 (x : C) : C := ((rs [32] x).reverse.dropWhile (fun c => decide (c ∈ ([32] : C)))).reverse

theorem strip_T (x : C) : Txt.stripChars (T x) (T [32]) = T (strip32 x) := by
  have hg : ∀ c, (T [32]).cps.contains c = decide (c ∈ ([32] : C)) := fun c => by simp [T]
  unfold Txt.stripChars
  rw [PySem.W.stripBy_eq]
  unfold PySem.W.stripped
  rw [show (T [32]).cps.contains = fun c => decide (c ∈ ([32] : C)) from funext hg, T_list, T_len]
  simp only [if_true]
  have e1 : x.drop (x.takeWhile fun c => decide (c ∈ ([32] : C))).length = rs [32] x := by
    have := List.takeWhile_append_dropWhile (p := fun c => decide (c ∈ ([32] : C))) (l := x)
    conv => lhs; rw [← this]
    rw [List.drop_left']
    · rfl
    · rw [this]
  have e2 : x.length = (x.takeWhile fun c => decide (c ∈ ([32] : C))).length + (rs [32] x).length := by
    have := congrArg List.length (List.takeWhile_append_dropWhile (p := fun c => decide (c ∈ ([32] : C))) (l := x))
    rw [List.length_append] at this
    exact this.symm
  rw [e1]
  unfold Builtin.Str.strSub strip32 T
  congr 1
  apply Array.toList_inj.mp
  rw [Array.toList_extract]
  simp only [List.extract]
  rw [e1]
  generalize rs [32] x = y at *
  have e3 : y.reverse = (y.reverse.takeWhile fun c => decide (c ∈ ([32] : C))) ++ (y.reverse.dropWhile fun c => decide (c ∈ ([32] : C))) := List.takeWhile_append_dropWhile.symm
  generalize hA : (y.reverse.takeWhile fun c => decide (c ∈ ([32] : C))) = A at *
  generalize hB : (y.reverse.dropWhile fun c => decide (c ∈ ([32] : C))) = B at *
  have e4 : y = B.reverse ++ A.reverse := by
    have := congrArg List.reverse e3
    rw [List.reverse_reverse, List.reverse_append] at this
    exact this
  have e5 : y.length = B.length + A.length := by rw [e4]; simp
  rw [show x.length - A.length - (x.takeWhile fun c => decide (c ∈ ([32] : C))).length = B.reverse.length by rw [List.length_reverse]; omega, e4, List.take_left']
  rfl
/-! a table of names -/
abbrev Tb := List (C × Int)
def hput (h : Tb) (n : C) (v : Int) : Tb := if h.any (fun e => decide (e.1 = n)) then h.map (fun e => if e.1 = n then (e.1, v) else e) else h ++ [(n, v)]
def hfind (h : Tb) (n : C) : Option Int := (h.find? fun e => decide (e.1 = n)).map (·.2)
def hget (h : Tb) (n : C) : Int := (hfind h n).getD 0
def hadd (h : Tb) (e : C × Int) : Tb := hput h e.1 (hget h e.1 + e.2)
def held (ts : List (C × Int)) : Tb := ts.foldl hadd []
def hK (h : Tb) : List (Key × V) := h.map fun e => (Sum.inr (T e.1), V.int e.2)
theorem hK_len (h : Tb) : (hK h).length = h.length := List.length_map ..
theorem key_dec (a b : C) : decide ((Sum.inr (T a) : Key) = Sum.inr (T b)) = decide (a = b) := by
  by_cases h : a = b
  · subst h; simp
  · rw [decide_eq_false h, decide_eq_false]
    intro e; exact h (T_inj.mp (Sum.inr.inj e))
theorem hK_find (h : Tb) (n : C) : valV (hK h) (Sum.inr (T n)) = (hfind h n).map V.int := by
  unfold valV hK hfind
  rw [List.find?_map]
  have : ((fun kv : Key × V => decide (kv.1 = Sum.inr (T n))) ∘ fun e : C × Int => (Sum.inr (T e.1), V.int e.2)) = fun e => decide (e.1 = n) := by
    funext e; exact key_dec e.1 n
  rw [this, Option.map_map, Option.map_map]; rfl
theorem hK_put (h : Tb) (n : C) (v : Int) : putK (hK h) (Sum.inr (T n)) (V.int v) = hK (hput h n v) := by
  unfold putK hput hK
  have e1 : ((h.map fun e : C × Int => ((Sum.inr (T e.1) : Key), V.int e.2)).any fun kv => decide (kv.1 = Sum.inr (T n))) = h.any (fun e => decide (e.1 = n)) := by
    rw [List.any_map]; congr 1; funext e; exact key_dec e.1 n
  rw [e1]
  by_cases hc : (h.any fun e => decide (e.1 = n)) = true
  · rw [if_pos hc, if_pos hc, List.map_map, List.map_map]
    apply List.map_congr_left
    intro e _
    show (if (Sum.inr (T e.1) : Key) = Sum.inr (T n) then ((Sum.inr (T e.1) : Key), V.int v) else (Sum.inr (T e.1), V.int e.2)) = _
    by_cases hn : e.1 = n
    · rw [if_pos (by rw [hn])]
      show _ = ((Sum.inr (T (if e.1 = n then (e.1, v) else e).1) : Key), V.int (if e.1 = n then (e.1, v) else e).2)
      rw [if_pos hn]
    · rw [if_neg (fun q => hn (T_inj.mp (Sum.inr.inj q)))]
      show _ = ((Sum.inr (T (if e.1 = n then (e.1, v) else e).1) : Key), V.int (if e.1 = n then (e.1, v) else e).2)
      rw [if_neg hn]
  · rw [if_neg hc, if_neg hc, List.map_append]; rfl
theorem hput_len (h : Tb) (n : C) (v : Int) : (hput h n v).length ≤ h.length + 1 := by
  unfold hput; split <;> simp
theorem hput_keys (h : Tb) (n : C) (v : Int) : (hput h n v).map (·.1) = if (h.any fun e => decide (e.1 = n)) then h.map (·.1) else h.map (·.1) ++ [n] := by
  unfold hput
  by_cases hc : (h.any fun e => decide (e.1 = n)) = true
  · rw [if_pos hc, if_pos hc, List.map_map]
    apply List.map_congr_left
    intro e _
    show (if e.1 = n then (e.1, v) else e).1 = e.1
    split <;> rfl
  · rw [if_neg hc, if_neg hc, List.map_append]; rfl
theorem hput_nd {h : Tb} (n : C) (v : Int) (hn : (h.map (·.1)).Nodup) : ((hput h n v).map (·.1)).Nodup := by
  rw [hput_keys]
  by_cases hc : (h.any fun e => decide (e.1 = n)) = true
  · rw [if_pos hc]; exact hn
  · rw [if_neg hc, List.nodup_append]
    refine ⟨hn, by simp, fun a ha b hb e => hc ?_⟩
    rw [List.mem_singleton.mp hb] at e
    obtain ⟨x, hx, rfl⟩ := List.mem_map.mp ha
    exact List.any_eq_true.mpr ⟨x, hx, decide_eq_true e⟩
theorem held_len (ts : List (C × Int)) : (held ts).length ≤ ts.length := by
  have : ∀ (ts : List (C × Int)) (h : Tb), (ts.foldl hadd h).length ≤ h.length + ts.length := by
    intro ts
    induction ts with
    | nil => intro h; simp
    | cons e r ih =>
      intro h
      rw [List.foldl_cons]
      have h1 := ih (hadd h e)
      have h2 : (hadd h e).length ≤ h.length + 1 := hput_len _ _ _
      simp only [List.length_cons]; omega
  have := this ts []
  simpa [held] using this
theorem held_nd (ts : List (C × Int)) : ((held ts).map (·.1)).Nodup := by
  have : ∀ (ts : List (C × Int)) (h : Tb), (h.map (·.1)).Nodup → ((ts.foldl hadd h).map (·.1)).Nodup := by
    intro ts
    induction ts with
    | nil => intro h hh; exact hh
    | cons e r ih => intro h hh; exact ih _ (hput_nd _ _ hh)
  exact this ts [] List.nodup_nil
theorem hget_mem {h : Tb} {n : C} (hm : n ∈ h.map (·.1)) : hfind h n = some (hget h n) := by
  unfold hget
  cases e : hfind h n with
  | some v => rfl
  | none =>
    exfalso
    obtain ⟨x, hx, rfl⟩ := List.mem_map.mp hm
    unfold hfind at e
    rw [Option.map_eq_none_iff, List.find?_eq_none] at e
    exact e x hx (by simp)

/-! names in their order -/
theorem lt_irr : ∀ a : C, ltCps a a = false
  | [] => rfl
  | a :: r => by simp [ltCps, lt_irr r]
theorem lt_tri : ∀ {a b : C}, ltCps a b = false → ltCps b a = false → a = b
  | [], [], _, _ => rfl
  | [], _ :: _, h, _ => by simp [ltCps] at h
  | _ :: _, [], _, h => by simp [ltCps] at h
  | a :: r, b :: t, h1, h2 => by
    simp [ltCps] at h1 h2
    have e : a = b := by omega
    subst e
    rw [lt_tri (h1.2 rfl) (h2.2 rfl)]
theorem lt_tr : ∀ {a b c : C}, ltCps a b = true → ltCps b c = true → ltCps a c = true
  | [], [], _, h, _ => by simp [ltCps] at h
  | [], _ :: _, [], _, h => by simp [ltCps] at h
  | [], _ :: _, _ :: _, _, _ => by simp [ltCps]
  | _ :: _, [], _, h, _ => by simp [ltCps] at h
  | _ :: _, _ :: _, [], _, h => by simp [ltCps] at h
  | a :: r, b :: t, c :: u, h1, h2 => by
    simp [ltCps] at h1 h2 ⊢
    rcases h1 with h1 | ⟨rfl, h1⟩
    · rcases h2 with h2 | ⟨rfl, h2⟩
      · left; omega
      · left; exact h1
    · rcases h2 with h2 | ⟨rfl, h2⟩
      · left; exact h2
      · right; exact ⟨rfl, lt_tr h1 h2⟩
/-- not above -/
def leC (a b : C) : Prop := ltCps b a = false
theorem leC_tr {a b c : C} (h1 : leC a b) (h2 : leC b c) : leC a c := by
  unfold leC at *
  cases e : ltCps c a with
  | false => rfl
  | true =>
    exfalso
    -- c < a; a ≤ b ≤ c
    cases e1 : ltCps a b with
    | true =>
      have := lt_tr e e1
      rw [h2] at this; cases this
    | false =>
      have := lt_tri e1 h1
      subst this
      rw [h2] at e; cases e
theorem rising_pair : ∀ (p : C) (l : List C), risingS (T p) (l.map T) = true → (p :: l).Pairwise leC
  | p, [], _ => by simp
  | p, x :: r, h => by
    simp only [List.map_cons, risingS, Bool.and_eq_true, Bool.not_eq_true', T_list] at h
    have ih := rising_pair x r h.2
    rw [List.pairwise_cons]
    refine ⟨fun y hy => ?_, ih⟩
    rcases List.mem_cons.mp hy with rfl | hy
    · exact h.1
    · exact leC_tr h.1 ((List.pairwise_cons.mp ih).1 y hy)
theorem sorted_pair (l : List C) (h : sortedS (l.map T) = true) : l.Pairwise leC := by
  cases l with
  | nil => exact .nil
  | cons x r => exact rising_pair x r h
/-- names in order, each once -/
structure Ord (ks ys : List C) : Prop where
  perm : ys.Perm ks
  ord : ys.Pairwise leC
theorem Ord.same {ks ys zs : List C} (a : Ord ks ys) (b : Ord ks zs) : ys = zs :=
  (a.perm.trans b.perm.symm).eq_of_pairwise (fun _ _ _ _ h1 h2 => lt_tri h2 h1) a.ord b.ord
/-- texts of a list of codes, back -/
theorem unT {ys : List Str} {ks : List C} (h : ys.Perm (ks.map T)) : ∃ zs : List C, ys = zs.map T ∧ zs.Perm ks := by
  refine ⟨ys.map (fun s => s.cps.toList), ?_, ?_⟩
  · rw [List.map_map]
    have : ∀ y ∈ ys, (T ∘ fun s : Str => s.cps.toList) y = y := fun y hy => by
      obtain ⟨k, _, rfl⟩ := List.mem_map.mp (h.mem_iff.mp hy)
      show T (T k).cps.toList = T k
      rw [T_list]
    conv => lhs; rw [← List.map_id ys]
    exact (List.map_congr_left this).symm
  · have := h.map (fun s : Str => s.cps.toList)
    rw [List.map_map] at this
    have e : ((fun s : Str => s.cps.toList) ∘ T) = id := by funext k; exact T_list
    rw [e, List.map_id] at this
    exact this
/-- the pairs told of a table, its names in order -/
def pairsOf (h : Tb) (ys : List C) : Tb := (ys.filter fun n => decide (hget h n ≠ 0)).map fun n => (n, hget h n)
/-- what is due of a text's terms -/
def Due (ts : List (C × Int)) (l : Tb) : Prop := ∃ ys, Ord ((held ts).map (·.1)) ys ∧ l = pairsOf (held ts) ys
theorem Due.same {ts : List (C × Int)} {l m : Tb} (a : Due ts l) (b : Due ts m) : l = m := by
  obtain ⟨y, h, rfl⟩ := a
  obtain ⟨z, h', rfl⟩ := b
  rw [h.same h']
/-- a list of pairs at p -/
def PL (H : Hp) (p : Addr) (l : Tb) : Prop := ∃ rs : List Addr, H p = some (.lst (rs.map V.ref)) ∧ Paired (fun r (e : C × Int) => H r = some (.tup [.str (T e.1), .int e.2])) rs l
theorem PL.keep {H H' : Hp} {p : Addr} {l : Tb} (h : PL H p l) (e : Ex H H') : PL H' p l := by
  obtain ⟨rs, h1, h2⟩ := h
  exact ⟨rs, e _ _ h1, Paired.mapP h2 fun _ _ q => e _ _ q⟩
def readM (x : C) : Option (List (C × Int)) := if x.length > 200 then none else if strip32 x = [48] then some [] else termsM x
theorem rs_len (y s : C) : (rs y s).length ≤ s.length := by
  have := congrArg List.length (rn_rs y s)
  rw [List.length_append] at this; omega
theorem numM_len {s s2 : C} {v : Int} (h : numM s = some (v, s2)) : s2.length ≤ s.length := by
  unfold numM at h
  split at h
  · cases h
  · cases h; exact Nat.le_trans (rs_len _ _) (rs_len _ _)
theorem many1_len {s s2 : C} {v : Int} (h : many1 s = some (v, s2)) : s2.length ≤ s.length := by
  unfold many1 at h
  split at h
  · exact numM_len h
  · cases h; exact Nat.le_refl _
theorem termM_len {s n s2 : C} {v : Int} (h : termM s = some (n, v, s2)) : s2.length < s.length := by
  unfold termM at h
  rw [Option.bind_eq_some_iff] at h
  obtain ⟨⟨m, s1⟩, e, h⟩ := h
  have h1 := many1_len e
  unfold nameM at h
  split at h
  · rename_i hn
    cases h
    have h2 := congrArg List.length (rn_rs abc s1)
    rw [List.length_append] at h2
    have h3 : 1 ≤ (rn abc s1).length := hn.pos
    have h4 := rs_len [32] (rs abc s1)
    show (rs [32] (rs abc s1)).length < _
    omega
  · cases h
theorem loopM_fuel : ∀ (n m : Nat) (s : C), s.length ≤ n → s.length ≤ m → loopM n s = loopM m s
  | n, m, [], _, _ => by cases n <;> cases m <;> rfl
  | 0, _, _ :: _, h, _ => by simp at h
  | _ + 1, 0, _ :: _, _, h => by simp at h
  | n + 1, m + 1, c :: s, hn, hm => by
    unfold loopM
    split
    · cases e : termM (rs [32] s) with
      | none => rfl
      | some t =>
        obtain ⟨a, v, s2⟩ := t
        have h1 := termM_len e
        have h2 := rs_len [32] s
        simp only [Option.bind_some]
        rw [loopM_fuel n m s2 (by simp at hn; omega) (by simp at hm; omega)]
    · rfl
theorem loopM_nil (n : Nat) : loopM n [] = some [] := by cases n <;> rfl
theorem loopM_cons (n c : Nat) (s : C) : loopM (n + 1) (c :: s) = if c = 43 ∨ c = 45 then (termM (rs [32] s)).bind fun e => (loopM n e.2.2).map fun l => (e.1, by_ c * e.2.1) :: l else none := rfl
theorem loopM_step {c : Nat} {s n s2 : C} {v : Int} (hc : c = 43 ∨ c = 45) (h : termM (rs [32] s) = some (n, v, s2)) : loopM (c :: s).length (c :: s) = (loopM s2.length s2).map fun l => (n, by_ c * v) :: l := by
  show loopM (s.length + 1) (c :: s) = _
  rw [loopM_cons, if_pos hc, h]
  have h1 := termM_len h
  have h2 := rs_len [32] s
  simp only [Option.bind_some]
  rw [loopM_fuel s.length s2.length s2 (by omega) (Nat.le_refl _)]
theorem held_add (ts : List (C × Int)) (e : C × Int) : held (ts ++ [e]) = hadd (held ts) e := by
  unfold held; rw [List.foldl_append]; rfl
theorem pairs_take {h : Tb} {ys : List C} {i : Nat} {n : C} (hi : ys[i]? = some n) : pairsOf h (ys.take (i + 1)) = pairsOf h (ys.take i) ++ (if hget h n ≠ 0 then [(n, hget h n)] else []) := by
  unfold pairsOf
  rw [List.take_add_one, hi, Option.toList_some, List.filter_append, List.map_append]
  congr 1
  by_cases hz : hget h n ≠ 0
  · rw [if_pos hz, List.filter_cons, if_pos (decide_eq_true hz)]; rfl
  · rw [if_neg hz, List.filter_cons, if_neg (by simpa using hz)]; rfl
/-- between two turns of read's loop -/
structure Lp (x : C) (d : Addr) (H H' : Hp) (b : Nat) (s : C) (done : List (C × Int)) : Prop where
  at_ : At x b s
  dk : H' d = some (.dK (hK (held done)))
  ex : Ex H H'
  all : termsM x = (loopM s.length s).map fun l => done ++ l
  len : done.length + s.length ≤ x.length
theorem held_one (n : C) (v : Int) : hK (held [(n, v)]) = putK [] (Sum.inr (T n)) (V.int v) := by
  show hK (hput [] n (hget [] n + v)) = _
  have : hget [] n + v = v := by show (0 : Int) + v = v; omega
  rw [this, ← hK_put]; rfl
theorem hD_val (h : Tb) (n : C) : ((valV (hK h) (Sum.inr (T n))).getD (V.int 0)) = V.int (hget h n) := by
  rw [hK_find]; unfold hget; cases hfind h n <;> rfl
theorem by_two (c : Nat) : by_ c = 1 ∨ by_ c = -1 := by unfold by_; split <;> simp
theorem paired_snoc {α β : Type} {F : α → β → Prop} {a : α} {b : β} (h : F a b) : ∀ {l : List α} {m : List β}, Paired F l m → Paired F (l ++ [a]) (m ++ [b])
  | _, _, .nil => .cons h .nil
  | _, _, .cons r t => .cons r (paired_snoc h t)
theorem PL.snoc {H : Hp} {p t : Addr} {l : Tb} {n : C} {v : Int} {rs : List Addr} (h : Paired (fun r (e : C × Int) => H r = some (.tup [.str (T e.1), .int e.2])) rs l) (hp : H p = some (.lst (rs.map V.ref))) (ht : H t = none) :
    PL (upd (upd H t (.tup [.str (T n), .int v])) p (.lst (rs.map V.ref ++ [.ref t]))) p (l ++ [(n, v)]) := by
  refine ⟨rs ++ [t], by rw [upd_same, List.map_append]; rfl, ?_⟩
  have hne : ∀ r xs, H r = some (.tup xs) → r ≠ p := fun r xs e z => by subst z; rw [hp] at e; cases e
  have htp : t ≠ p := fun z => by subst z; rw [hp] at ht; cases ht
  refine paired_snoc ?_ (Paired.mapP h fun r e q => ?_)
  · rw [upd_ne htp, upd_same]
  · rw [upd_ne (hne r _ q), upd_ne (ne_of_none q ht)]; exact q
theorem pairs_len (h : Tb) (ys : List C) : (pairsOf h ys).length ≤ ys.length := by unfold pairsOf; rw [List.length_map]; exact List.length_filter_le _ _
end My
/-! ### data compared -/
namespace My
open PySem PySem.Spec PyProof.Rows L2
def pD (l : Tb) : PyData := .list (l.map fun e => .tuple [.str (T e.1), .int e.2])
theorem dpAll {K : PySem.W.Frag} {H : Hp} : ∀ {rs : List Addr} {l : Tb}, Paired (fun r (e : C × Int) => H r = some (.tup [.str (T e.1), .int e.2])) rs l → DpAll K H (rs.map V.ref) (l.map fun e => .tuple [.str (T e.1), .int e.2])
  | _, _, .nil => .nil
  | _, _, .cons r t => .cons (.tup (tsq r) (.cons (.str _) (.cons (.int _) .nil))) (dpAll t)
theorem PL.dp {K : PySem.W.Frag} {H : Hp} {p : Addr} {l : Tb} (h : PL H p l) : Dp K H (.ref p) (pD l) := by
  obtain ⟨rs, h1, h2⟩ := h
  exact .lst (lsq h1) (dpAll h2)
theorem name_str {n : C} (h : NameOk n) : PyData.strOk (T n) = true := by
  unfold PyData.strOk T
  simp only [List.all_toArray, List.all_eq_true, decide_eq_true_eq]
  intro c hc
  have := abc_iff.mp (h.all c hc)
  omega
theorem pD_lay : ∀ {l : Tb}, (∀ e ∈ l, NameOk e.1) → PyData.canLayAll0 (l.map fun e => PyData.tuple [.str (T e.1), .int e.2]) = true
  | [], _ => by simp [PyData.canLayAll0]
  | e :: l, h => by
    have h1 := name_str (h e (List.mem_cons_self ..))
    have h2 := pD_lay (l := l) fun x hx => h x (List.mem_cons_of_mem _ hx)
    simp [PyData.canLayAll0, PyData.canLay0, h1, h2]
theorem pD_depth : ∀ (l : Tb), PyData.depthAll (l.map fun e => PyData.tuple [.str (T e.1), .int e.2]) ≤ 1
  | [] => by simp [PyData.depthAll]
  | e :: l => by
    have h2 := pD_depth l
    simp [PyData.depthAll, PyData.depth]
    omega
theorem pD_ok {l : Tb} (h : ∀ e ∈ l, NameOk e.1) : SeqAt.shaped (pD l) = true ∧ PyData.eqv (pD l) (pD l) = true := by
  have h1 : PyData.canLay0 (pD l) = true := by
    unfold pD
    rw [PyData.canLay0]
    exact pD_lay h
  have h2 : PyData.depth (pD l) ≤ 64 := by
    unfold pD
    rw [PyData.depth]
    have := pD_depth l
    omega
  exact ⟨by unfold SeqAt.shaped; rw [h1, decide_eq_true h2]; rfl, SeqAt.eqv_refl _ h1⟩
theorem paired_get {α β : Type} {F : α → β → Prop} : ∀ {l : List α} {m : List β} {i : Nat} {a : α}, Paired F l m → l[i]? = some a → ∃ b, m[i]? = some b ∧ F a b
  | _, _, _, _, .nil, h => by simp at h
  | _, _, 0, _, .cons r _, h => by
    simp at h; subst h; exact ⟨_, rfl, r⟩
  | _, _, i + 1, _, .cons _ t, h => by
    obtain ⟨b, h1, h2⟩ := paired_get (i := i) t (by simpa using h)
    exact ⟨b, by simpa using h1, h2⟩
theorem Due.len {ts : List (C × Int)} {l : Tb} (h : Due ts l) : l.length ≤ (held ts).length := by
  obtain ⟨ys, ho, rfl⟩ := h
  have h1 := pairs_len (held ts) ys
  have h2 := ho.perm.length_eq
  rw [List.length_map] at h2
  omega
end My
/-! ### texts that are made of terms are read so -/
namespace My
open PySem PySem.Spec PyProof.Rows L2
def Tail (t : C) : Prop := ∀ c, t.head? = some c → c = 32 ∨ c = 43 ∨ c = 45
theorem run_app {p : Nat → Bool} {a t : C} (ha : ∀ c ∈ a, p c = true) (ht : ∀ c, t.head? = some c → p c = false) : (a ++ t).takeWhile p = a ∧ (a ++ t).dropWhile p = t := by
  induction a with
  | nil =>
    cases t with
    | nil => exact ⟨rfl, rfl⟩
    | cons c r => simp [ht c rfl]
  | cons c a ih =>
    have h1 := ha c (List.mem_cons_self ..)
    have h2 := ih fun d hd => ha d (List.mem_cons_of_mem _ hd)
    simp [h1, h2]
theorem rn_app {y a t : C} (ha : ∀ c ∈ a, c ∈ y) (ht : ∀ c, t.head? = some c → c ∉ y) : rn y (a ++ t) = a ∧ rs y (a ++ t) = t :=
  run_app (fun c h => decide_eq_true (ha c h)) (fun c h => decide_eq_false (ht c h))
theorem rs_blank (j : Nat) (t : C) : rs [32] (List.replicate j 32 ++ t) = rs [32] t := by
  induction j with
  | zero => rfl
  | succ j ih => rw [List.replicate_succ]; simp only [List.cons_append]; show rs [32] (32 :: _) = _; unfold rs at *; simp [ih]
theorem rs_no {t : C} (h : ∀ c, t.head? = some c → c ≠ 32) : rs [32] t = t := by
  cases t with
  | nil => rfl
  | cons c r => have := h c rfl; unfold rs; simp [this]
theorem rs_cons {c : Nat} {t : C} (h : c ≠ 32) : rs [32] (c :: t) = c :: t := rs_no fun d hd => by cases hd; exact h
theorem Tail.rs {t : C} (h : Tail t) : ∀ c, t.head? = some c → c ∉ abc := fun c hc hm => by
  have := abc_iff.mp hm
  have := h c hc
  omega
theorem name_head {n : C} (h : NameOk n) (t : C) : ∃ c r, n ++ t = c :: r ∧ c ∈ abc := by
  cases n with
  | nil => have := h.pos; simp at this
  | cons c r => exact ⟨c, r ++ t, rfl, h.all c (List.mem_cons_self ..)⟩
theorem nameM_app {n t : C} {m : Int} (h : NameOk n) (ht : Tail t) : nameM m (n ++ t) = some (n, m, rs [32] t) := by
  have e := rn_app (y := abc) h.all ht.rs
  unfold nameM
  rw [e.1, e.2, if_pos h]
theorem termM_name {n t : C} (h : NameOk n) (ht : Tail t) : termM (n ++ t) = some (n, 1, rs [32] t) := by
  have e : many1 (n ++ t) = some (1, n ++ t) := by
    unfold many1
    rw [if_neg]
    rintro ⟨c, hc, hf⟩
    obtain ⟨d, r, e, hd⟩ := name_head h t
    rw [e] at hc
    cases hc
    have := abc_iff.mp hd
    have := fig_iff.mp hf
    omega
  unfold termM
  rw [e]
  exact nameM_app h ht
theorem numL_head : ∀ (n : Nat), 0 < n → ∃ c r, TL.numL n = c :: r ∧ c ≠ 48 := by
  intro n
  induction n using Nat.strongRecOn with
  | _ n ih =>
    intro hn
    by_cases h : n < 10
    · rw [TL.numL_lt h]; exact ⟨48 + n, [], rfl, by omega⟩
    · rw [TL.numL_step (by omega)]
      obtain ⟨c, r, e, hc⟩ := ih (n / 10) (by omega) (by omega)
      rw [e]; exact ⟨c, _, rfl, hc⟩
theorem termM_num {m j : Nat} {n t : C} (hm : 0 < m) (hm2 : m < 10 ^ 60) (h : NameOk n) (ht : Tail t) : termM (TL.numL m ++ 32 :: (List.replicate j 32 ++ (n ++ t))) = some (n, (m : Int), rs [32] t) := by
  have e := rn_app (y := fig) (a := TL.numL m) (t := 32 :: (List.replicate j 32 ++ (n ++ t))) (fun c hc => fig_iff.mpr (TL.numL_digits m c hc)) (fun c hc => by cases hc; decide)
  obtain ⟨c, r, ec, hc⟩ := numL_head m hm
  have hf : c ∈ fig := fig_iff.mpr (TL.numL_digits m c (by rw [ec]; exact List.mem_cons_self ..))
  have e2 : many1 (TL.numL m ++ 32 :: (List.replicate j 32 ++ (n ++ t))) = some ((m : Int), n ++ t) := by
    unfold many1
    rw [if_pos ⟨c, by rw [ec]; rfl, hf⟩]
    unfold numM
    rw [e.1, e.2, if_neg]
    · rw [TL.numL_val]
      have : rs [32] (32 :: (List.replicate j 32 ++ (n ++ t))) = n ++ t := by
        have := rs_blank (j + 1) (n ++ t)
        rw [List.replicate_succ] at this
        rw [show (32 :: (List.replicate j 32 ++ (n ++ t))) = 32 :: List.replicate j 32 ++ (n ++ t) from rfl, this]
        refine rs_no fun d hd => ?_
        obtain ⟨d', r', e', hd'⟩ := name_head h t
        rw [e'] at hd; cases hd
        have := abc_iff.mp hd'; omega
      rw [this]
    · rintro (q | q | q)
      · have := TL.numL_len (k := 60) (by decide) hm2; omega
      · rw [ec] at q; exact hc (Option.some.inj q)
      · exact q rfl
  unfold termM
  rw [e2]
  exact nameM_app h ht
/-- a term as it is written, without its sign -/
inductive Bare : C → C → Int → Prop
  | name {n : C} : NameOk n → Bare n n 1
  | num {n : C} {m j : Nat} : 0 < m → m < 10 ^ 60 → NameOk n → Bare (TL.numL m ++ 32 :: (List.replicate j 32 ++ n)) n m
theorem Bare.term {b n t : C} {m : Int} (h : Bare b n m) (ht : Tail t) : termM (b ++ t) = some (n, m, rs [32] t) := by
  cases h with
  | name hn => exact termM_name hn ht
  | num h0 h1 hn =>
    have := termM_num h0 h1 hn ht (j := by assumption)
    simpa using this
theorem Bare.head {b n : C} {m : Int} (h : Bare b n m) : ∃ c r, b = c :: r ∧ c ≠ 32 ∧ c ≠ 45 := by
  cases h with
  | name hn =>
    obtain ⟨c, r, e, hc⟩ := name_head hn []
    rw [List.append_nil] at e
    have := abc_iff.mp hc
    exact ⟨c, r, e, by omega, by omega⟩
  | @num n m j h0 h1 hn =>
    obtain ⟨c, r, e, _⟩ := numL_head m h0
    have := TL.numL_digits m c (by rw [e]; exact List.mem_cons_self ..)
    exact ⟨c, _, by rw [e]; rfl, by omega, by omega⟩
theorem Bare.letter {b n : C} {m : Int} (h : Bare b n m) : ∃ c ∈ b, c ∈ abc := by
  cases h with
  | name hn => obtain ⟨c, r, e, hc⟩ := name_head hn []; rw [List.append_nil] at e; exact ⟨c, by rw [e]; exact List.mem_cons_self .., hc⟩
  | num _ _ hn =>
    obtain ⟨c, r, e, hc⟩ := name_head hn []
    rw [List.append_nil] at e
    exact ⟨c, by rw [e]; simp, hc⟩
theorem Bare.ok {b n : C} {m : Int} (h : Bare b n m) : NameOk n := by cases h <;> assumption
theorem numL_lt61 {m : Nat} (h : m < 10 ^ 60) : (TL.numL m).length ≤ 60 := TL.numL_len (by decide) h
/-- x tells the terms ts, whatever stands behind -/
structure Tells (x : C) (ts : List (C × Int)) : Prop where
  parse : ∀ t, Tail t → termsM (x ++ t) = (loopM (rs [32] t).length (rs [32] t)).map fun l => ts ++ l
  letter : ∃ c ∈ x, c ∈ abc
theorem Tells.first {b n : C} {m : Int} {i j : Nat} (h : Bare b n m) (neg : Bool) :
    Tells (List.replicate i 32 ++ ((if neg then 45 :: List.replicate j 32 else []) ++ b)) [(n, (if neg then -1 else 1) * m)] where
  parse := fun t ht => by
    obtain ⟨c, r, e, h1, h2⟩ := h.head
    unfold termsM
    rw [List.append_assoc, rs_blank]
    cases neg with
    | true =>
      simp only [if_true]
      rw [show rs [32] (45 :: List.replicate j 32 ++ b ++ t) = 45 :: (List.replicate j 32 ++ (b ++ t)) by
        rw [List.cons_append, List.cons_append, rs_cons (by decide), List.append_assoc]]
      have ef : firstM (45 :: (List.replicate j 32 ++ (b ++ t))) = (-1, b ++ t) := by
        unfold firstM
        refine (if_pos rfl).trans ?_
        show (-1, rs [32] (List.replicate j 32 ++ (b ++ t))) = _
        rw [rs_blank, e, List.cons_append, rs_cons h1]
      rw [ef]
      simp only [h.term ht, Option.bind_some]
      rfl
    | false =>
      rw [if_neg Bool.false_ne_true, List.nil_append]
      rw [show rs [32] (b ++ t) = b ++ t by rw [e, List.cons_append, rs_cons h1]]
      have ef : firstM (b ++ t) = (1, b ++ t) := by
        unfold firstM
        rw [if_neg]
        rw [e]
        intro q
        exact h2 (Option.some.inj q)
      rw [ef]
      simp only [h.term ht, Option.bind_some]
      rfl
  letter := by
    obtain ⟨c, hc, ha⟩ := h.letter
    exact ⟨c, List.mem_append_right _ (List.mem_append_right _ hc), ha⟩
theorem Tells.more {x b n : C} {m : Int} {ts : List (C × Int)} {i j c : Nat} (h : Tells x ts) (hb : Bare b n m) (hc : c = 43 ∨ c = 45) :
    Tells (x ++ (List.replicate i 32 ++ c :: (List.replicate j 32 ++ b))) (ts ++ [(n, by_ c * m)]) where
  parse := fun t ht => by
    have hT : Tail (List.replicate i 32 ++ c :: (List.replicate j 32 ++ b) ++ t) := by
      intro d hd
      cases i with
      | zero => cases hd; exact .inr hc
      | succ i => rw [List.replicate_succ] at hd; cases hd; exact .inl rfl
    have h1 := h.parse _ hT
    rw [← List.append_assoc] at h1
    rw [h1, List.append_assoc, rs_blank, List.cons_append, rs_cons (by omega), List.append_assoc]
    obtain ⟨d, r, e, hd, _⟩ := hb.head
    have e2 : rs [32] (List.replicate j 32 ++ (b ++ t)) = b ++ t := by rw [rs_blank, e, List.cons_append, rs_cons hd]
    rw [loopM_step hc (by rw [e2]; exact hb.term ht), Option.map_map]
    congr 1
    funext l
    show ts ++ ((n, by_ c * m) :: l) = ts ++ [(n, by_ c * m)] ++ l
    simp
  letter := by
    obtain ⟨c, hc, ha⟩ := h.letter
    exact ⟨c, List.mem_append_left _ hc, ha⟩
theorem strip_mem {x : C} {c : Nat} (h : c ∈ x) (hc : c ≠ 32) : c ∈ strip32 x := by
  unfold strip32
  have key : ∀ (y : C), c ∈ y → c ∈ y.dropWhile (fun c => decide (c ∈ ([32] : C))) := by
    intro y hy
    induction y with
    | nil => cases hy
    | cons d r ih =>
      rw [List.dropWhile_cons]
      split
      · rename_i hd
        rcases List.mem_cons.mp hy with rfl | hy
        · simp at hd; exact absurd hd hc
        · exact ih hy
      · exact hy
  have h1 := key x h
  have h2 := key (rs [32] x).reverse (List.mem_reverse.mpr h1)
  exact List.mem_reverse.mpr h2
theorem Tells.read {x : C} {ts : List (C × Int)} {j : Nat} (h : Tells x ts) (hx : x.length + j ≤ 200) : readM (x ++ List.replicate j 32) = some ts := by
  have h1 := h.parse (List.replicate j 32) (fun c hc => by
    cases j with
    | zero => cases hc
    | succ j => rw [List.replicate_succ] at hc; cases hc; exact .inl rfl)
  have e : rs [32] (List.replicate j 32) = [] := by
    have := rs_blank j []
    rw [List.append_nil] at this
    exact this
  rw [e, loopM_nil] at h1
  unfold readM
  rw [if_neg (by rw [List.length_append, List.length_replicate]; omega), if_neg, h1]
  · simp
  · intro q
    obtain ⟨c, hc, ha⟩ := h.letter
    have := abc_iff.mp ha
    have := strip_mem (List.mem_append_left (List.replicate j 32) hc) (by omega)
    rw [q] at this
    simp at this
    omega
end My
namespace My
open PySem PySem.Spec PyProof.Rows L2
/-- a list of terms at p: name, sign, number -/
def TL (H : Hp) (p : Addr) (l : List (C × Int × Int)) : Prop := ∃ rs : List Addr, H p = some (.lst (rs.map V.ref)) ∧ Paired (fun r (e : C × Int × Int) => H r = some (.tup [.str (T e.1), .int e.2.1, .int e.2.2])) rs l
def TmOk (e : C × Int × Int) : Prop := NameOk e.1 ∧ (e.2.1 = 1 ∨ e.2.1 = -1) ∧ 1 ≤ e.2.2 ∧ e.2.2 < 10 ^ 60
def tmD (l : List (C × Int × Int)) : PyData := .list (l.map fun e => .tuple [.str (T e.1), .int e.2.1, .int e.2.2])
theorem tmAll {K : PySem.W.Frag} {H : Hp} : ∀ {rs : List Addr} {l : List (C × Int × Int)}, Paired (fun r (e : C × Int × Int) => H r = some (.tup [.str (T e.1), .int e.2.1, .int e.2.2])) rs l → DpAll K H (rs.map V.ref) (l.map fun e => .tuple [.str (T e.1), .int e.2.1, .int e.2.2])
  | _, _, .nil => .nil
  | _, _, .cons r t => .cons (.tup (tsq r) (.cons (.str _) (.cons (.int _) (.cons (.int _) .nil)))) (tmAll t)
theorem TL.dp {K : PySem.W.Frag} {H : Hp} {p : Addr} {l : List (C × Int × Int)} (h : TL H p l) : Dp K H (.ref p) (tmD l) := by
  obtain ⟨rs, h1, h2⟩ := h
  exact .lst (lsq h1) (tmAll h2)
theorem tmD_lay : ∀ {l : List (C × Int × Int)}, (∀ e ∈ l, TmOk e) → PyData.canLayAll0 (l.map fun e => PyData.tuple [.str (T e.1), .int e.2.1, .int e.2.2]) = true
  | [], _ => by simp [PyData.canLayAll0]
  | e :: l, h => by
    have h1 := name_str (h e (List.mem_cons_self ..)).1
    have h2 := tmD_lay (l := l) fun x hx => h x (List.mem_cons_of_mem _ hx)
    simp [PyData.canLayAll0, PyData.canLay0, h1, h2]
theorem tmD_depth : ∀ (l : List (C × Int × Int)), PyData.depthAll (l.map fun e => PyData.tuple [.str (T e.1), .int e.2.1, .int e.2.2]) ≤ 1
  | [] => by simp [PyData.depthAll]
  | e :: l => by
    have h2 := tmD_depth l
    simp [PyData.depthAll, PyData.depth]
    omega
theorem tmD_ok {l : List (C × Int × Int)} (h : ∀ e ∈ l, TmOk e) : SeqAt.shaped (tmD l) = true := by
  have h1 : PyData.canLay0 (tmD l) = true := by
    unfold tmD
    rw [PyData.canLay0]
    exact tmD_lay h
  have h2 : PyData.depth (tmD l) ≤ 64 := by
    unfold tmD
    rw [PyData.depth]
    have := tmD_depth l
    omega
  unfold SeqAt.shaped; rw [h1, decide_eq_true h2]; rfl
theorem nil_ok : SeqAt.shaped (.list []) = true := by decide
theorem tmD_nil : ∀ (l : List (C × Int × Int)), PyData.eqv (tmD l) (.list []) = l.isEmpty
  | [] => by simp [tmD, PyData.eqv, PyData.eqvAll]
  | e :: l => by simp [tmD, PyData.eqv, PyData.eqvAll]
/-- the heap between two steps of a text's making -/
structure Mk (K : PySem.W.Frag) (b sc : Addr) (ns : List Int) (n : Nat) (H H' : Hp) (pn d tl : Addr) (nl : List C) (ts : List (C × Int)) (tms : List (C × Int × Int)) : Prop where
  pn : H' pn = some (.lst (nl.map tV))
  d : H' d = some (.dK (hK (held ts)))
  tl : TL H' tl tms
  kb : Kb b H H'
  bx : Bx K b sc ns n H'
theorem Mk.step {K : PySem.W.Frag} {b sc : Addr} {ns : List Int} {n m : Nat} {H H' H2 : Hp} {pn d tl : Addr} {nl : List C} {ts : List (C × Int)} {tms : List (C × Int × Int)} (h : Mk K b sc ns n H H' pn d tl nl ts tms)
    (e1 : pn ≠ b) (e2 : d ≠ b) (e3 : tl ≠ b) (kb : Kb b H' H2) (bx : Bx K b sc ns m H2) : Mk K b sc ns m H H2 pn d tl nl ts tms where
  pn := kb _ _ e1 h.pn
  d := kb _ _ e2 h.d
  tl := by
    obtain ⟨rs, h1, h2⟩ := h.tl
    refine ⟨rs, kb _ _ e3 h1, Paired.mapP h2 fun r e q => kb _ _ (fun z => ?_) q⟩
    subst z
    obtain ⟨_, _, q2, _⟩ := h.bx.ex
    rw [q] at q2; cases q2
  kb := h.kb.trans kb
  bx := bx
theorem TL.snoc {H : Hp} {p t : Addr} {l : List (C × Int × Int)} {e0 : C × Int × Int} {rs : List Addr} (h : Paired (fun r (e : C × Int × Int) => H r = some (.tup [.str (T e.1), .int e.2.1, .int e.2.2])) rs l) (hp : H p = some (.lst (rs.map V.ref))) (ht : H t = none) :
    TL (upd (upd H t (.tup [.str (T e0.1), .int e0.2.1, .int e0.2.2])) p (.lst (rs.map V.ref ++ [.ref t]))) p (l ++ [e0]) := by
  refine ⟨rs ++ [t], by rw [upd_same, List.map_append]; rfl, ?_⟩
  have hne : ∀ r xs, H r = some (.tup xs) → r ≠ p := fun r xs e z => by subst z; rw [hp] at e; cases e
  have htp : t ≠ p := fun z => by subst z; rw [hp] at ht; cases ht
  refine paired_snoc ?_ (Paired.mapP h fun r e q => ?_)
  · rw [upd_ne htp, upd_same]
  · rw [upd_ne (hne r _ q), upd_ne (ne_of_none q ht)]; exact q
theorem TL.other {H : Hp} {p d : Addr} {o : HO} {l : List (C × Int × Int)} (h : TL H p l) (hd : d ≠ p) (hn : ∀ xs, H d ≠ some (.tup xs)) : TL (upd H d o) p l := by
  obtain ⟨rs, h1, h2⟩ := h
  refine ⟨rs, by rw [upd_ne hd.symm]; exact h1, Paired.mapP h2 fun r e q => ?_⟩
  rw [upd_ne (fun z => by subst z; exact hn _ q)]; exact q
theorem Mk.up {K : PySem.W.Frag} {b sc : Addr} {ns : List Int} {n m : Nat} {H H' : Hp} {pn d tl : Addr} {nl : List C} {ts : List (C × Int)} {tms : List (C × Int × Int)} (h : Mk K b sc ns n H H' pn d tl nl ts tms) (e : n ≤ m) : Mk K b sc ns m H H' pn d tl nl ts tms :=
  ⟨h.pn, h.d, h.tl, h.kb, h.bx.up e⟩
theorem str_num {v : Int} (h : 0 ≤ v) : Str.ofString (toString v) = T (_root_.TL.numL v.toNat) := by
  have e : v = ((v.toNat : Nat) : Int) := by omega
  have := PySem.W.KIN.signs_num v.toNat
  rw [← e] at this
  have h2 : (Str.ofString (toString v)).cps.toList = (T (_root_.TL.numL v.toNat)).cps.toList := by rw [T_list]; exact this
  have h3 := Array.toList_inj.mp h2
  generalize Str.ofString (toString v) = s at h3 ⊢
  cases s
  simp only at h3
  subst h3
  rfl
theorem log60 {v : Int} (h0 : 0 < v) (h : v < 10 ^ 60) : v.natAbs.log2 < 1920 := Nat.lt_trans (log_lt (k := 250) h0 (Int.lt_trans h (by decide)) (by decide)) (by decide)
theorem held_keys (ts : List (C × Int)) : ∀ n ∈ (held ts).map (·.1), ∃ e ∈ ts, e.1 = n := by
  have : ∀ (ts : List (C × Int)) (h : Tb), ∀ n ∈ (ts.foldl hadd h).map (·.1), n ∈ h.map (·.1) ∨ ∃ e ∈ ts, e.1 = n := by
    intro ts
    induction ts with
    | nil => intro h n hn; exact .inl hn
    | cons e r ih =>
      intro h n hn
      rcases ih (hadd h e) n hn with q | ⟨x, hx, q⟩
      · have : n ∈ (hput h e.1 (hget h e.1 + e.2)).map (·.1) := q
        rw [hput_keys] at this
        split at this
        · exact .inl this
        · rcases List.mem_append.mp this with z | z
          · exact .inl z
          · exact .inr ⟨e, List.mem_cons_self .., (List.mem_singleton.mp z).symm⟩
      · exact .inr ⟨x, List.mem_cons_of_mem _ hx, q⟩
  intro n hn
  rcases this ts [] n hn with q | q
  · cases q
  · exact q
theorem Due.names {ts : List (C × Int)} {l : Tb} (h : Due ts l) (ok : ∀ e ∈ ts, NameOk e.1) : ∀ e ∈ l, NameOk e.1 := by
  obtain ⟨ys, ho, rfl⟩ := h
  intro e he
  obtain ⟨n, hn, rfl⟩ := List.mem_map.mp he
  have := ho.perm.mem_iff.mp (List.mem_filter.mp hn).1
  obtain ⟨x, hx, q⟩ := held_keys ts n this
  show NameOk n
  rw [← q]; exact ok x hx
theorem zero_strip (i j : Nat) : strip32 (List.replicate i 32 ++ 48 :: List.replicate j 32) = [48] := by
  unfold strip32
  rw [rs_blank, rs_cons (by decide), List.reverse_cons, List.reverse_replicate]
  have : (List.replicate j 32 ++ [48]).dropWhile (fun c => decide (c ∈ ([32] : C))) = [48] := by
    have h := rs_blank j [48]
    rw [rs_cons (by decide)] at h
    exact h
  rw [this]; rfl
theorem zero_read {i j : Nat} (h : i + j ≤ 100) : readM (List.replicate i 32 ++ 48 :: List.replicate j 32) = some [] := by
  unfold readM
  rw [if_neg (by simp; omega), if_pos (zero_strip i j)]
theorem due_nil : Due [] [] := ⟨[], ⟨.nil, .nil⟩, rfl⟩
end My
/-! ### more rules that the layer lacks: sorted pairs of a text and an int, join over a text -/
namespace My
open PySem PySem.Spec PyProof.Rows L2
/-- a tuple of a text and an int -/
def IsSI (h : Heap) (v : Value) (x : C) (y : Int) : Prop := ∃ a o t u n, v = .ref a ∧ h.get? a = some o ∧ o.cls = .type "tuple" ∧ o.data = .seq #[.str (T x) t, .int y u] n
theorem IsSI.keeps {h h' : Heap} {v : Value} {x : C} {y : Int} (p : IsSI h v x y) (k : ∀ b o, h.get? b = some o → o.cls = .type "tuple" → h'.get? b = some o) : IsSI h' v x y := by
  obtain ⟨a, o, t, u, n, e, ho, hc, hd⟩ := p
  exact ⟨a, o, t, u, n, e, k _ _ ho hc, hc, hd⟩
/-- by the text, then by the int -/
def lexS (p q : C × Int) : Bool := if p.1 = q.1 then decide (p.2 < q.2) else ltCps p.1 q.1
theorem lexS_iff {p q : C × Int} : lexS p q = true ↔ ltCps p.1 q.1 = true ∨ (p.1 = q.1 ∧ p.2 < q.2) := by
  unfold lexS
  by_cases e : p.1 = q.1
  · rw [if_pos e, decide_eq_true_eq]
    constructor
    · exact fun h => .inr ⟨e, h⟩
    · rintro (h | h)
      · rw [e, lt_irr] at h; cases h
      · exact h.2
  · rw [if_neg e]
    constructor
    · exact .inl
    · rintro (h | h)
      · exact h
      · exact absurd h.1 e
theorem lexS_no {p q : C × Int} : lexS p q = false ↔ ltCps p.1 q.1 = false ∧ ¬ (p.1 = q.1 ∧ p.2 < q.2) := by
  have := lexS_iff (p := p) (q := q)
  cases e : lexS p q <;> cases e2 : ltCps p.1 q.1 <;> rw [e, e2] at this <;> simp at this ⊢ <;> exact this
theorem swo_S {α : Type} (k : α → C × Int) : SrtO.Swo fun v u => lexS (k v) (k u) := by
  refine ⟨fun x y h => ?_, fun x y z h1 h2 => ?_⟩
  · have a := lexS_iff.mp h
    refine lexS_no.mpr ⟨?_, fun b => ?_⟩
    · rcases a with a | a
      · cases e : ltCps (k y).1 (k x).1 with
        | false => rfl
        | true => have := lt_tr a e; rw [lt_irr] at this; cases this
      · rw [a.1, lt_irr]
    · rcases a with a | a
      · rw [b.1, lt_irr] at a; cases a
      · have := a.2; have := b.2; omega
  · have a := lexS_no.mp h1
    have b := lexS_no.mp h2
    refine lexS_no.mpr ⟨leC_tr a.1 b.1, fun c => ?_⟩
    have e1 : ltCps (k x).1 (k y).1 = false := by rw [← c.1]; exact b.1
    have e2 := lt_tri a.1 e1
    have e3 := c.1
    have h3 := a.2
    have h4 := b.2
    rw [e2] at h3
    rw [e3, e2] at h4
    have c2 := c.2
    by_cases q : (k y).2 < (k x).2
    · exact h3 ⟨rfl, q⟩
    · exact h4 ⟨rfl, by omega⟩
section
variable {prog : Program} {w : World} {A : Around} {s : Shared} {E : Value → Shared → Prop}
theorem si_cmp {vs : List Value} {k : Value → C × Int} (hp : ∀ v ∈ vs, IsSI s.heap v (k v).1 (k v).2) : SrtO.Cmp prog w A s (tuples' true) (fun p => p.1 ∈ vs) (SrtO.lt2 fun v u => lexS (k v) (k u)) := by
  intro p q hm hm'
  have h1 := hp _ hm
  have h2 := hp _ hm'
  show wpAny (model prog w) A (keyLt' (tuples' true) p.1 q.1) (fun r s' => s' = s ∧ r = lexS (k p.1) (k q.1)) (fun _ _ => False) s
  unfold lexS
  generalize (k p.1).1 = x at h1 ⊢
  generalize (k p.1).2 = y at h1 ⊢
  generalize (k q.1).1 = x' at h2 ⊢
  generalize (k q.1).2 = y' at h2 ⊢
  obtain ⟨a, o, t, u, n, e, ho, hc, hd⟩ := h1
  obtain ⟨a', o', t', u', n', e', ho', hc', hd'⟩ := h2
  rw [e, e']
  refine PySem.W.kat_lt ho hd ho' hd' ?_
  show PySem.W.KatLex prog w A true (decide (2 < 2)) _ [(.str (T x) t, .str (T x') t'), (.int y u, .int y' u')] 0 s
  refine PySem.W.kat_cons (SeqAt.EqAt.str_str (T x) t (T x') t' prog w _ _ ?_)
  refine PySem.W.kat_go (fun e1 => ?_) (fun e1 => ?_)
  · have ex : x = x' := T_inj.mp (by simpa using e1)
    refine PySem.W.kat_yes (PySem.W.kat_cons (SeqAt.EqAt.int_int y u y' u' prog w _ _ ?_))
    refine PySem.W.kat_go (fun e2 => ?_) (fun e2 => ?_)
    · have ey : y = y' := by simpa using e2
      have e3 : (if x = x' then decide (y < y') else ltCps x x') = false := by
        rw [if_pos ex, ey]
        exact decide_eq_false (Int.lt_irrefl _)
      exact PySem.W.kat_yes (PySem.W.kat_nil ⟨rfl, e3.symm⟩)
    · have e3 : (if x = x' then decide (y < y') else ltCps x x') = decide (y < y') := if_pos ex
      refine PySem.W.kat_no (PySem.W.kat_one _ _ (PyProof.Rows.lt_int ?_))
      exact (show s = s ∧ decide (y < y') = (if x = x' then decide (y < y') else ltCps x x') from ⟨rfl, e3.symm⟩)
  · have ex : ¬ x = x' := fun z => by rw [z] at e1; simp at e1
    have e3 : (if x = x' then decide (y < y') else ltCps x x') = ltCps x x' := if_neg ex
    refine PySem.W.kat_no (oneLt_str ⟨rfl, ?_⟩)
    rw [e3, ltCps_eq, T_list, T_list]
theorem firsts_S {h : Heap} : ∀ {vs : List Value}, (∀ v ∈ vs, ∃ x y, IsSI h v x y) → ∃ fs : List Value, PySem.W.KatTups h vs fs ∧ fs.length = vs.length ∧ ∀ f ∈ fs, ∃ x t, f = Value.str x t
  | [], _ => ⟨[], PySem.W.KatTups.nil, rfl, fun _ hm => by simp at hm⟩
  | v :: vs, hp => by
    obtain ⟨fs, h1, h2, h3⟩ := firsts_S (vs := vs) fun v' hm => hp v' (List.mem_cons_of_mem _ hm)
    obtain ⟨x, y, a, o, t, u, n, e, ho, hc, hd⟩ := hp v (List.mem_cons_self ..)
    subst e
    refine ⟨.str (T x) t :: fs, PySem.W.KatTups.cons ho hc hd rfl h1, by rw [List.length_cons, List.length_cons, h2], fun f hm => ?_⟩
    rcases List.mem_cons.mp hm with rfl | hm
    · exact ⟨_, t, rfl⟩
    · exact h3 f hm
theorem si_sortable {a : Addr} {vs : List Value} {k : Value → C × Int} (h0 : 0 < vs.length) (hp : ∀ v ∈ vs, IsSI s.heap v (k v).1 (k v).2) (ha : ∀ o, s.heap.get? a = some o → o.cls ≠ .type "tuple") : SrtO.SortableO prog w A s a vs fun v u => lexS (k v) (k u) := by
  intro h' keep
  have hp' : ∀ v ∈ vs, IsSI h' v (k v).1 (k v).2 := fun v hm => (hp v hm).keeps fun b o e c => keep b o (fun z => by subst z; exact ha o e c) e
  obtain ⟨fs, h1, h2, h3⟩ := firsts_S fun v hm => ⟨_, _, hp' v hm⟩
  refine ⟨tuples' true, fun Q E hq => ?_, si_cmp hp'⟩
  refine PySem.W.kat_kind (T := .type "str") h1 (by omega) (fun f hm => ?_) (by rfl) ?_
  · obtain ⟨x, t, rfl⟩ := h3 f hm
    exact PySem.W.Looks.now
  · have e : (Value.type "str" != Value.type "tuple") = true := by first | decide +kernel | rfl | decide
    rw [e]
    exact hq
theorem sorted_S {l : Addr} {vs : List Value} {k : Value → C × Int} {Q : Value → Shared → Prop} (hl : s.heap.IsList l vs.toArray) (hz : vs.length ≤ sizeLine) (hp : ∀ v ∈ vs, IsSI s.heap v (k v).1 (k v).2)
    (h : ∀ (h' : Heap) (d : Addr) (out : List Value), SrtO.Srtd (fun v u => lexS (k v) (k u)) out → SrtO.Stb (fun v u => lexS (k v) (k u)) out vs → (∀ b o, s.heap.get? b = some o → h'.get? b = some o) → s.heap.objs.size ≤ d → (∃ n, h'.get? d = some (seqObj "list" out.toArray n)) → Q (.ref d) { s with heap := h' }) :
    wpAny (model prog w) A (call (.builtin "sorted") [.ref l]) Q E s := by
  refine SrtO.sorted_ord (swo_S k) hl hz (fun h2 h₁ a ha kk => ?_) fun out hs hb => ?_
  · refine si_sortable (s := { s with heap := h₁ }) (by omega) (fun v hm => (hp v hm).keeps fun b o e _ => (kk b o e).2) fun o e => ?_
    have e' : some o = some (seqObj "list" vs.toArray 0) := e.symm.trans ha
    cases e'
    intro c
    exact absurd (Value.type.inj c) (by decide)
  · exact h _ _ out hs hb (fun b o e => PyProof.Rows.sortedAll_old e) (Nat.le_succ _) (PyProof.Rows.sortedAll_at s.heap vs out.toArray)
end
/-- sorted(xs), xs a list of pairs of a text and an int, unlike each other by k -/
def rSortedSI (K : PySem.W.Frag) : List V → Hp → VK → Prop := fun vs H Q => ∃ (a : Addr) (xs : List V) (k : V → C × Int), vs = [V.ref a] ∧ SqL K H a xs ∧ (∀ x ∈ xs, ∃ t, x = V.ref t ∧ H t = some (.tup [.str (T (k x).1), .int (k x).2])) ∧
  ∀ ys p, ys.Pairwise (fun x y => lexS (k y) (k x) = false) → ys.Perm xs → H p = none → Q (.ref p) (upd H p (.lst ys))
theorem cr_sortedSI {X : Cx} {K : PySem.W.Frag} (hK : X.K = K := by rfl) : CallR X (.builtin "sorted") (rSortedSI K) := by
  subst hK
  intro pins s σ H vs us Q I r h
  obtain ⟨a, xs, k, rfl, hs, hx, q⟩ := h
  obtain ⟨its, rv, hl, hz⟩ := I.list hs
  obtain ⟨u, rfl, ru⟩ := vals1 r
  obtain rfl : u = Value.ref a := ru
  obtain ⟨e1, e2⟩ := refs_back rv fun x m => by
    obtain ⟨t, e, _⟩ := hx x m
    exact ⟨t, e⟩
  refine sorted_S (k := fun u => k (backV u)) hl.isList (by rw [← rv.length]; exact hz) (fun v hv => ?_) fun h' d out h1 h2 kp hd hn => ?_
  · obtain ⟨t, rfl⟩ := e2 v hv
    have hm : V.ref t ∈ xs := by rw [e1]; exact List.mem_map.mpr ⟨_, hv, rfl⟩
    obtain ⟨t', e, ht⟩ := hx _ hm
    cases e
    obtain ⟨_, its2, r2, o, ho, hc, n, hd⟩ := I.hok _ _ ht
    obtain ⟨u1, u2, rfl, ri, rj⟩ := vals2 r2
    obtain ⟨t1, rfl⟩ := ri
    obtain ⟨t2, rfl⟩ := rj
    exact ⟨t, o, t1, t2, n, rfl, ho, hc, hd⟩
  · have h3 : ∀ u ∈ out, ∃ a, u = Value.ref a := fun u hu => e2 u (h2.perm.mem_iff.mp hu)
    obtain ⟨n, hn⟩ := hn
    have hb : (out.map backV).Perm xs := by
      rw [e1]
      exact h2.perm.map backV
    refine ⟨.ref d, upd H d (.lst (out.map backV)), I.laid (t' := s.toks) kp hd ⟨?_, out, n, vals_back h3, hn⟩, rfl, q _ d ?_ hb (I.hok.fresh hd)⟩
    · rw [hb.length_eq]
      exact hz
    · exact List.pairwise_map.mpr h1
theorem signs_T (l : C) : signs (T l) = l.map fun c => T [c] := by
  unfold signs
  rw [T_list]; rfl
/-- sep.join(a text) -/
def rJoinS : V → List V → Hp → VK → Prop := fun x xs H Q => ∃ (a y : C), x = .str (T a) ∧ xs = [.str (T y)] ∧ y.length ≤ 1000 ∧ a.length ≤ 1000 ∧ Q (.str (Txt.join (T a) ((y.map fun c => [c]).map T))) H
theorem mt_joinS {X : Cx} (hc : X.calm = true) : MtR X "str.join" rJoinS := by
  intro pins s σ H x xs v us Q I rx rs h
  obtain ⟨a, y, rfl, rfl, h1, h2, q⟩ := h
  obtain ⟨t, rfl⟩ := rx
  cases rs with
  | cons r1 rs =>
    cases rs
    obtain ⟨t2, rfl⟩ := r1
    refine SC.joinStr (I.ok.hd hc) (joinOk_signsN (N := 1000) (S := 1000) (by rw [T_len]; exact h1) (by rw [T_len]; exact h2) (by decide)) fun h' k t' hk => ?_
    refine ⟨.str _, H, I.kept (t' := k) hk, ⟨t', rfl⟩, ?_⟩
    rw [signs_T]
    rw [List.map_map] at q
    exact q
theorem pe_joinS {X : Cx} {o e : Expr} {to te : TE} {apos pos : Pos} (hc : X.calm = true) (ho : PE X o to) (he : PE X e te) (hs : starEach [e] X.env = [(false, eval e X.env)] := by rfl)
    (hbase : attributeBase o "join" X.env (eval o X.env) = eval o X.env := by rfl) (hline : (apos.endLine == pos.line) = true := by rfl) :
    PE X (.Call (.Attribute o "join" apos) [e] [] pos) (tM1 rJoinS to te) :=
  pe_m1 F.slot_str_join F.type_str_join (mt_joinS hc) ho he hs hbase hline
end My
/-! ### what telling a list of pairs comes to -/
namespace My
open PySem PySem.Spec PyProof.Rows L2
def joinM (x : C) (v : Int) : C := if x = [] then (if v < 0 then [45, 32] else []) else (if v < 0 then [32, 45, 32] else [32, 43, 32])
def bareM (n : C) (v : Int) : C := if v.natAbs = 1 then n else _root_.TL.numL v.natAbs ++ 32 :: n
def addM (x : C) (e : C × Int) : C := x ++ joinM x e.2 ++ bareM e.1 e.2
def foldM (l : Tb) : C := l.foldl addM []
def shownM (l : Tb) : C := if foldM l = [] then [48] else foldM l
/-- a pair that can be told -/
def PairOk (e : C × Int) : Prop := NameOk e.1 ∧ e.2 ≠ 0 ∧ e.2.natAbs < 10 ^ 300
theorem joinM_len (x : C) (v : Int) : (joinM x v).length ≤ 3 := by
  unfold joinM
  by_cases h : x = [] <;> by_cases h2 : v < 0 <;> simp [h, h2]
theorem bareM_len {e : C × Int} (h : PairOk e) : (bareM e.1 e.2).length ≤ 309 := by
  have h1 := h.1.le
  have h2 := TL.numL_len (k := 300) (by decide) h.2.2
  unfold bareM
  split
  · omega
  · rw [List.length_append, List.length_cons]; omega
theorem addM_len {x : C} {e : C × Int} (h : PairOk e) : (addM x e).length ≤ x.length + 312 := by
  have h1 := joinM_len x e.2
  have h2 := bareM_len h
  unfold addM
  rw [List.length_append, List.length_append]; omega
theorem foldl_len : ∀ {l : Tb} {x : C}, (∀ e ∈ l, PairOk e) → (l.foldl addM x).length ≤ x.length + 312 * l.length
  | [], _, _ => by simp
  | e :: l, x, h => by
    have h1 := addM_len (x := x) (h e (List.mem_cons_self ..))
    have h2 := foldl_len (l := l) (x := addM x e) fun y hy => h y (List.mem_cons_of_mem _ hy)
    rw [List.foldl_cons, List.length_cons]; omega
theorem bareM_ne {n : C} {v : Int} (h : NameOk n) : bareM n v ≠ [] := by
  intro q
  unfold bareM at q
  have := h.pos
  split at q
  · rw [q] at this; simp at this
  · simp at q
theorem addM_ne {x : C} {e : C × Int} (h : NameOk e.1) : addM x e ≠ [] := by
  intro q
  unfold addM at q
  exact bareM_ne h (List.append_eq_nil_iff.mp q).2
theorem foldM_take {l : Tb} {i : Nat} {e : C × Int} (h : l[i]? = some e) : foldM (l.take (i + 1)) = addM (foldM (l.take i)) e := by
  unfold foldM
  rw [List.take_add_one, h, Option.toList_some, List.foldl_append]; rfl
theorem bareM_bare {n : C} {v : Int} (h : NameOk n) (h0 : v ≠ 0) (h1 : v.natAbs < 10 ^ 60) : Bare (bareM n v) n (v.natAbs : Int) := by
  unfold bareM
  by_cases e : v.natAbs = 1
  · rw [if_pos e, e]; exact .name h
  · rw [if_neg e]
    have := Bare.num (n := n) (m := v.natAbs) (j := 0) (by omega) h1 h
    simpa using this
theorem tells_add {x : C} {ts : Tb} {e : C × Int} (h : ts = [] ∧ x = [] ∨ Tells x ts) (hn : NameOk e.1) (h0 : e.2 ≠ 0) (h1 : e.2.natAbs < 10 ^ 60) : Tells (addM x e) (ts ++ [e]) := by
  have hb := bareM_bare hn h0 h1
  obtain ⟨n, v⟩ := e
  dsimp only at *
  rcases h with ⟨rfl, rfl⟩ | h
  · by_cases hv : v < 0
    · have := Tells.first (i := 0) (j := 1) hb true
      have e1 : (if true = true then (-1 : Int) else 1) * (v.natAbs : Int) = v := by rw [if_pos rfl]; omega
      rw [e1] at this
      unfold addM joinM
      rw [if_pos rfl, if_pos hv]
      exact this
    · have := Tells.first (i := 0) (j := 1) hb false
      have e1 : (if false = true then (-1 : Int) else 1) * (v.natAbs : Int) = v := by rw [if_neg (fun h => by cases h)]; omega
      rw [e1] at this
      unfold addM joinM
      rw [if_pos rfl, if_neg hv]
      exact this
  · have hx : x ≠ [] := by
      obtain ⟨c, hc, _⟩ := h.letter
      intro q; rw [q] at hc; cases hc
    by_cases hv : v < 0
    · have := h.more (i := 1) (j := 1) (c := 45) hb (.inr rfl)
      have e1 : by_ 45 * (v.natAbs : Int) = v := by unfold by_; rw [if_pos rfl]; omega
      rw [e1] at this
      unfold addM joinM
      rw [if_neg hx, if_pos hv]
      simpa using this
    · have := h.more (i := 1) (j := 1) (c := 43) hb (.inl rfl)
      have e1 : by_ 43 * (v.natAbs : Int) = v := by unfold by_; rw [if_neg (by decide)]; omega
      rw [e1] at this
      unfold addM joinM
      rw [if_neg hx, if_neg hv]
      simpa using this
theorem tells_fold : ∀ {l : Tb} {x : C} {ts : Tb}, (ts = [] ∧ x = [] ∨ Tells x ts) → (∀ e ∈ l, NameOk e.1 ∧ e.2 ≠ 0 ∧ e.2.natAbs < 10 ^ 60) → (ts ++ l = [] ∧ l.foldl addM x = [] ∨ Tells (l.foldl addM x) (ts ++ l))
  | [], x, ts, h, _ => by simpa using h
  | e :: l, x, ts, h, ok => by
    obtain ⟨a, b, c⟩ := ok e (List.mem_cons_self ..)
    have := tells_fold (l := l) (x := addM x e) (ts := ts ++ [e]) (.inr (tells_add h a b c)) fun y hy => ok y (List.mem_cons_of_mem _ hy)
    simpa using this
theorem shown_read {l : Tb} (ok : ∀ e ∈ l, NameOk e.1 ∧ e.2 ≠ 0 ∧ e.2.natAbs < 10 ^ 60) (h : (shownM l).length ≤ 200) : readM (shownM l) = some l := by
  rcases tells_fold (l := l) (x := []) (ts := []) (.inl ⟨rfl, rfl⟩) ok with ⟨h1, h2⟩ | h1
  · rw [List.nil_append] at h1
    subst h1
    exact zero_read (i := 0) (j := 0) (by decide)
  · rw [List.nil_append] at h1
    have hx : foldM l ≠ [] := by
      obtain ⟨c, hc, _⟩ := h1.letter
      intro q; unfold foldM at q; rw [q] at hc; cases hc
    unfold shownM at h ⊢
    rw [if_neg hx] at h ⊢
    have := Tells.read (j := 0) h1 (by unfold foldM at h; omega)
    rw [List.replicate_zero, List.append_nil] at this
    exact this
/-! a table of unlike names -/
theorem hfind_none {h : Tb} {n : C} (hn : n ∉ h.map (·.1)) : hfind h n = none := by
  unfold hfind
  rw [Option.map_eq_none_iff, List.find?_eq_none]
  intro e he q
  exact hn (List.mem_map.mpr ⟨e, he, of_decide_eq_true q⟩)
theorem hadd_new {h : Tb} {e : C × Int} (hn : e.1 ∉ h.map (·.1)) : hadd h e = h ++ [e] := by
  unfold hadd hput hget
  rw [hfind_none hn, if_neg]
  · simp
  · intro q
    obtain ⟨x, hx, q⟩ := List.any_eq_true.mp q
    exact hn (List.mem_map.mpr ⟨x, hx, of_decide_eq_true q⟩)
theorem held_self {l : Tb} (h : (l.map (·.1)).Nodup) : held l = l := by
  have : ∀ (l h : Tb), ((h ++ l).map (·.1)).Nodup → l.foldl hadd h = h ++ l := by
    intro l
    induction l with
    | nil => intro h _; simp
    | cons e r ih =>
      intro h hn
      have hx : e.1 ∉ h.map (·.1) := by
        rw [List.map_append, List.nodup_append] at hn
        intro q
        exact hn.2.2 _ q _ (by simp) rfl
      rw [List.foldl_cons, hadd_new hx, ih _ (by simpa using hn)]
      simp
  have := this l [] (by simpa using h)
  simpa [held] using this
theorem hget_self : ∀ {l : Tb}, (l.map (·.1)).Nodup → ∀ e ∈ l, hget l e.1 = e.2
  | [], _, e, he => by cases he
  | a :: l, h, e, he => by
    unfold hget hfind
    rw [List.find?_cons]
    by_cases q : a.1 = e.1
    · rw [decide_eq_true q]
      rcases List.mem_cons.mp he with rfl | he
      · rfl
      · rw [List.map_cons, List.nodup_cons] at h
        exact absurd (List.mem_map.mpr ⟨e, he, q.symm⟩) h.1
    · rw [decide_eq_false q]
      rw [List.map_cons, List.nodup_cons] at h
      rcases List.mem_cons.mp he with rfl | he
      · exact absurd rfl q
      · exact hget_self h.2 e he
/-- l's pairs, in the order of their names, are what is due of l -/
theorem due_of {l m : Tb} (h : (l.map (·.1)).Nodup) (h0 : ∀ e ∈ l, e.2 ≠ 0) (hp : m.Perm l) (ho : (m.map (·.1)).Pairwise leC) : Due l m := by
  refine ⟨m.map (·.1), ?_, ?_⟩
  · rw [held_self h]; exact ⟨hp.map _, ho⟩
  · rw [held_self h]
    unfold pairsOf
    rw [List.filter_eq_self.mpr, List.map_map]
    · have : ∀ e ∈ m, ((fun n => (n, hget l n)) ∘ fun x : C × Int => x.1) e = e := fun e he => by
        show (e.1, hget l e.1) = e
        rw [hget_self h e (hp.mem_iff.mp he)]
      conv => lhs; rw [← List.map_id m]
      exact (List.map_congr_left this).symm
    · intro n hn
      obtain ⟨e, he, rfl⟩ := List.mem_map.mp hn
      have he' := hp.mem_iff.mp he
      rw [hget_self h e he']
      exact decide_eq_true (h0 e he')
/-- the pair that stands at a place -/
def kH (H : Hp) : V → C × Int
  | .ref t => match H t with
    | some (.tup [.str s, .int i]) => (s.cps.toList, i)
    | _ => ([], 0)
  | _ => ([], 0)
theorem kH_at {H : Hp} {t : Addr} {x : C} {i : Int} (h : H t = some (.tup [.str (T x), .int i])) : kH H (.ref t) = (x, i) := by
  unfold kH; simp only [h]; rw [T_list]
theorem paired_k {H : Hp} : ∀ {rs : List Addr} {l : Tb}, Paired (fun r (e : C × Int) => H r = some (.tup [.str (T e.1), .int e.2])) rs l → (rs.map V.ref).map (kH H) = l
  | _, _, .nil => rfl
  | _, _, .cons r t => by
    rw [List.map_cons, List.map_cons, paired_k t, kH_at r]
theorem paired_of {H : Hp} : ∀ {ys : List V}, (∀ x ∈ ys, ∃ t, x = V.ref t ∧ H t = some (.tup [.str (T (kH H x).1), .int (kH H x).2])) → ∃ rs : List Addr, ys = rs.map V.ref ∧ Paired (fun r (e : C × Int) => H r = some (.tup [.str (T e.1), .int e.2])) rs (ys.map (kH H))
  | [], _ => ⟨[], rfl, .nil⟩
  | y :: ys, h => by
    obtain ⟨rs, h1, h2⟩ := paired_of (ys := ys) fun x hx => h x (List.mem_cons_of_mem _ hx)
    obtain ⟨t, rfl, h3⟩ := h y (List.mem_cons_self ..)
    exact ⟨t :: rs, by rw [h1]; rfl, .cons h3 h2⟩
theorem paired_mem {H : Hp} : ∀ {rs : List Addr} {l : Tb}, Paired (fun r (e : C × Int) => H r = some (.tup [.str (T e.1), .int e.2])) rs l → ∀ x ∈ rs.map V.ref, ∃ t, x = V.ref t ∧ H t = some (.tup [.str (T (kH H x).1), .int (kH H x).2])
  | _, _, .nil, _, h => by cases h
  | _, _, .cons (a := a) r t, x, h => by
    rcases List.mem_cons.mp h with rfl | h
    · exact ⟨a, rfl, by rw [kH_at r]; exact r⟩
    · exact paired_mem t x h
/-- what sorted hands back of a list of pairs with unlike names -/
theorem PL.sort {H : Hp} {a p : Addr} {l : Tb} {rs : List Addr} {ys : List V} (h2 : Paired (fun r (e : C × Int) => H r = some (.tup [.str (T e.1), .int e.2])) rs l)
    (hn : (l.map (·.1)).Nodup) (h0 : ∀ e ∈ l, e.2 ≠ 0) (hs : ys.Pairwise (fun x y => lexS (kH H y) (kH H x) = false)) (hp : ys.Perm (rs.map V.ref)) (hf : H p = none) :
    ∃ m, Due l m ∧ PL (upd H p (.lst ys)) p m := by
  obtain ⟨rs', e1, e2⟩ := paired_of (H := H) (ys := ys) fun x hx => paired_mem h2 x (hp.mem_iff.mp hx)
  refine ⟨ys.map (kH H), due_of hn h0 ?_ ?_, rs', by rw [upd_same, ← e1], Paired.mapP e2 fun r e q => by rw [upd_ne (ne_of_none q hf)]; exact q⟩
  · have := hp.map (kH H)
    rw [paired_k h2] at this
    exact this
  · rw [List.pairwise_map, List.pairwise_map]
    exact hs.imp fun h => (lexS_no.mp h).1
theorem Due.self {l m : Tb} (hn : (l.map (·.1)).Nodup) (h0 : ∀ e ∈ l, e.2 ≠ 0) (h : Due l m) : m.Perm l ∧ (m.map (·.1)).Pairwise leC ∧ Due m m := by
  obtain ⟨ys, ho, rfl⟩ := h
  rw [held_self hn] at *
  have key : ∀ n ∈ ys, hget l n ≠ 0 := fun n hn' => by
    obtain ⟨e, he, rfl⟩ := List.mem_map.mp (ho.perm.mem_iff.mp hn')
    rw [hget_self hn e he]; exact h0 e he
  have e1 : pairsOf l ys = ys.map fun n => (n, hget l n) := by
    unfold pairsOf
    rw [List.filter_eq_self.mpr fun n h => decide_eq_true (key n h)]
  have e2 : (pairsOf l ys).map (·.1) = ys := by rw [e1, List.map_map]; exact List.map_id _
  have hp : (pairsOf l ys).Perm l := by
    rw [e1]
    have := ho.perm.map fun n => (n, hget l n)
    rw [List.map_map] at this
    have e3 : l.map ((fun n => (n, hget l n)) ∘ fun x : C × Int => x.1) = l := by
      conv => rhs; rw [← List.map_id l]
      exact List.map_congr_left fun e he => by
        show (e.1, hget l e.1) = e
        rw [hget_self hn e he]
    rw [e3] at this
    exact this
  refine ⟨hp, by rw [e2]; exact ho.ord, due_of ?_ ?_ (.refl _) (by rw [e2]; exact ho.ord)⟩
  · rw [e2]; exact ho.perm.nodup_iff.mpr hn
  · exact fun e he => h0 e (hp.mem_iff.mp he)
theorem str_abs {v : Int} : Str.ofString (toString (if v < 0 then -v else v)) = T (_root_.TL.numL v.natAbs) := by
  rw [str_num (by split <;> omega)]
  congr 2
  split <;> omega
theorem abs_one {v : Int} : ((if v < 0 then -v else v) = 1) ↔ v.natAbs = 1 := by split <;> omega
theorem abs_log {v : Int} (h0 : v ≠ 0) (h : v.natAbs < 10 ^ 300) : (if v < 0 then -v else v).natAbs.log2 < 1920 := by
  have e : (if v < 0 then -v else v).natAbs = v.natAbs := by split <;> omega
  rw [e]
  exact Nat.lt_trans (PySem.Flt.log2_lt_of (k := 1000) (by decide) (Nat.lt_of_lt_of_le h (by decide +kernel))) (by decide)
theorem paired_ins {α β : Type} {F : α → β → Prop} {r : α} {e : β} (h : F r e) : ∀ (q : Nat) {rs : List α} {l : List β}, Paired F rs l → Paired F (rs.take q ++ [r] ++ rs.drop q) (l.take q ++ [e] ++ l.drop q)
  | 0, _, _, t => by simpa using .cons h t
  | q + 1, _, _, .nil => by simpa using .cons h .nil
  | q + 1, _, _, .cons a t => .cons a (paired_ins h q t)
theorem PL.ins {H : Hp} {p pt : Addr} {rs : List Addr} {l : Tb} {q : Nat} {e : C × Int} (g1 : H p = some (.lst (rs.map V.ref))) (g2 : Paired (fun r (e : C × Int) => H r = some (.tup [.str (T e.1), .int e.2])) rs l) (hpt : H pt = none) :
    PL (upd (upd H pt (.tup [.str (T e.1), .int e.2])) p (.lst ((rs.map V.ref).take q ++ [.ref pt] ++ (rs.map V.ref).drop q))) p (l.take q ++ [e] ++ l.drop q) := by
  have hpp : pt ≠ p := fun z => by subst z; rw [g1] at hpt; cases hpt
  refine ⟨rs.take q ++ [pt] ++ rs.drop q, by rw [upd_same]; simp [List.map_take, List.map_drop], paired_ins ?_ q (Paired.mapP g2 fun r e z => ?_)⟩
  · rw [upd_ne hpp, upd_same]
  · rw [upd_ne (fun y => by subst y; rw [g1] at z; cases z), upd_ne (ne_of_none z hpt)]; exact z
theorem PL.kb {K : PySem.W.Frag} {b sc p : Addr} {ns : List Int} {n : Nat} {H H' : Hp} {l : Tb} (h : PL H p l) (hB : Bx K b sc ns n H) (hp : p ≠ b) (kb : Kb b H H') : PL H' p l := by
  obtain ⟨rs, h1, h2⟩ := h
  refine ⟨rs, kb _ _ hp h1, Paired.mapP h2 fun r e z => kb _ _ (fun y => ?_) z⟩
  subst y
  obtain ⟨_, _, q, _⟩ := hB.ex
  rw [q] at z; cases z
theorem ins_perm {α : Type} (l : List α) (q : Nat) (e : α) : (l.take q ++ [e] ++ l.drop q).Perm (e :: l) := by
  have h : (l.take q ++ e :: l.drop q).Perm (e :: (l.take q ++ l.drop q)) := List.perm_middle
  rw [List.take_append_drop] at h
  rw [List.append_assoc]
  exact h
/-- a loop over a written list: the list first -/
theorem for_lit {K : PySem.W.Frag} {ta : TA} {g : TG} {tb : TS} {D : Ends} {σ : L2.St} {H : Hp}
    (h : ta σ H fun vs H1 => vs.length ≤ sizeLine ∧ ∀ p, H1 p = none → ∃ a, V.ref p = .ref a ∧ (∃ xs, SqL K (upd H1 p (.lst vs)) a xs) ∧ L2.tFor (fun _ H R => R (L2.Itl K a) H) g tb D σ (upd H1 p (.lst vs))) :
    L2.tFor (L2.iList K (L2.tLst ta)) g tb D σ H := h
def jnC (sep : C) : C → C
  | [] => []
  | [c] => [c]
  | c :: d :: r => c :: (sep ++ jnC sep (d :: r))
theorem jn1 : Txt.join (T [32, 43, 32]) ((abc.map fun c => [c]).map T) = T (jnC [32, 43, 32] abc) := by decide +kernel
theorem jn2 : Txt.join (T [32, 45, 32]) ((abc.map fun c => [c]).map T) = T (jnC [32, 45, 32] abc) := by decide +kernel
theorem jn3 : Txt.join (T [32, 43, 32]) (((abc.drop 1).map fun c => [c]).map T) = T (jnC [32, 43, 32] (abc.drop 1)) := by decide +kernel
theorem cut1 : cutS (T abc) (some 1) none = T (abc.drop 1) := by decide +kernel
/-- a text that is told, read and told again -/
structure Rnd (x : C) (l : Tb) : Prop where
  len : x.length ≤ 1000
  rd : readM x = some l
  ok : ∀ e ∈ l, PairOk e
  nd : (l.map (·.1)).Nodup
  ord : (l.map (·.1)).Pairwise leC
  ll : l.length ≤ 63
  tl : shownM l = x
theorem Rnd.due {x : C} {l m : Tb} (h : Rnd x l) (d : Due l m) : m = l :=
  d.same (due_of h.nd (fun e he => (h.ok e he).2.1) (.refl _) h.ord)
def oneT (v : Int) (l : C) : Tb := l.map fun c => ([c], v)
instance (e : C × Int) : Decidable (PairOk e) := inferInstanceAs (Decidable (_ ∧ _ ∧ _))
instance (a b : C) : Decidable (leC a b) := inferInstanceAs (Decidable (_ = false))
theorem rnd1 : Rnd (jnC [32, 43, 32] abc) (oneT 1 abc) := ⟨by decide +kernel, by decide +kernel, by decide +kernel, by decide +kernel, by decide +kernel, by decide +kernel, by decide +kernel⟩
theorem rnd2 : Rnd ([45, 32] ++ jnC [32, 45, 32] abc) (oneT (-1) abc) := ⟨by decide +kernel, by decide +kernel, by decide +kernel, by decide +kernel, by decide +kernel, by decide +kernel, by decide +kernel⟩
theorem rnd3 : Rnd ([45, 32, 97, 32, 43, 32] ++ jnC [32, 43, 32] (abc.drop 1)) (([97], -1) :: oneT 1 (abc.drop 1)) := ⟨by decide +kernel, by decide +kernel, by decide +kernel, by decide +kernel, by decide +kernel, by decide +kernel, by decide +kernel⟩
theorem lc_lit {K : PySem.W.Frag} {ta : TA} {g : TG} {tt : TT} {te : TE} {ws : List Nat} {σ : L2.St} {H : Hp} {Q : VK}
    (h : ta σ H fun vs H1 => vs.length ≤ sizeLine ∧ ∀ p, H1 p = none → ∃ a, V.ref p = .ref a ∧ (∃ xs, SqL K (upd H1 p (.lst vs)) a xs) ∧ L2.tLc (fun _ H R => R (L2.Itl K a) H) g tt te ws σ (upd H1 p (.lst vs)) Q) :
    L2.tLc (L2.iList K (L2.tLst ta)) g tt te ws σ H Q := h
theorem PL.two {H : Hp} {p t1 t2 : Addr} {e1 e2 : C × Int} (h : H p = some (.lst [.ref t1, .ref t2])) (h1 : H t1 = some (.tup [.str (T e1.1), .int e1.2])) (h2 : H t2 = some (.tup [.str (T e2.1), .int e2.2])) : PL H p [e1, e2] :=
  ⟨[t1, t2], h, .cons h1 (.cons h2 .nil)⟩
end My
namespace My
open PySem
theorem lit_2 : Str.ofString "0123456789" = T fig := by decide +kernel
theorem lit_3 : Str.ofString "abcdefghijklmnopqrstuvwxyz" = T abc := by decide +kernel
theorem lit_4 : Str.ofString " " = T [32] := by decide +kernel
theorem lit_5 : Str.ofString "0" = T [48] := by decide +kernel
theorem lit_6 : Str.ofString "no number of tokens" = T [110, 111, 32, 110, 117, 109, 98, 101, 114, 32, 111, 102, 32, 116, 111, 107, 101, 110, 115] := by decide +kernel
theorem lit_7 : Str.ofString "" = T [] := by decide +kernel
theorem lit_8 : Str.ofString "no name" = T [110, 111, 32, 110, 97, 109, 101] := by decide +kernel
theorem lit_9 : Str.ofString "-" = T [45] := by decide +kernel
theorem lit_10 : Str.ofString "no text, or too long a one" = T [110, 111, 32, 116, 101, 120, 116, 44, 32, 111, 114, 32, 116, 111, 111, 32, 108, 111, 110, 103, 32, 97, 32, 111, 110, 101] := by decide +kernel
theorem lit_11 : Str.ofString "+" = T [43] := by decide +kernel
theorem lit_12 : Str.ofString "a sign that joins no terms" = T [97, 32, 115, 105, 103, 110, 32, 116, 104, 97, 116, 32, 106, 111, 105, 110, 115, 32, 110, 111, 32, 116, 101, 114, 109, 115] := by decide +kernel
theorem lit_13 : Str.ofString " + " = T [32, 43, 32] := by decide +kernel
theorem lit_14 : Str.ofString " - " = T [32, 45, 32] := by decide +kernel
theorem lit_15 : Str.ofString "- " = T [45, 32] := by decide +kernel
theorem lit_17 : Str.ofString "- a + " = T [45, 32, 97, 32, 43, 32] := by decide +kernel
theorem lit_18 : Str.ofString "zz" = T [122, 122] := by decide +kernel
theorem lit_19 : Str.ofString "a" = T [97] := by decide +kernel
theorem lit_20 : Str.ofString "b" = T [98] := by decide +kernel
end My
local macro_rules | `(tactic| kwd_rel) => `(tactic| simp only [L2.tVar, L2.tC, L2.tIsN, L2.tNotN, L2.tB, L2.tAnd, L2.tOr, L2.tNot, L2.tAndV, L2.tOrV, L2.tNotV, L2.tIf, L2.tNext, L2.tBreak, L2.tCont, L2.tDrop, L2.tRet, L2.tRetN, L2.tIfS, L2.gName, L2.gNil, L2.gCons, L2.gTup, L2.gSub, L2.tAsg, L2.tPar, L2.tAug, L2.tOp, L2.tUn, L2.rI, L2.rI0, L2.rU, L2.rEq, L2.rNe, L2.tTest, L2.tChain, L2.rAdd, L2.rSub, L2.tNil, L2.tCons, L2.tTup, L2.tLst, L2.tCall, L2.tCB, L2.tNoPart, L2.tPart, L2.tSl, L2.rSlT, L2.rIxL, L2.rIxT, L2.rIxS, L2.rSetL, L2.rSlL, L2.tBM0, L2.tBM, L2.rAppend, L2.rPop, L2.rPopAt, L2.rClear, L2.rCat, L2.tYes, L2.tDGet, L2.tDIn, L2.tDNotIn, L2.tDNewK, L2.tDGet1, L2.tDGet2, L2.sDPut, L2.tM0, L2.tM1, L2.rSlS, My.rMulS, My.rLenB, My.rLenQ, My.rListO, My.rJoin, L2.wipe, L2.rNewStrs, Bool.true_eq_false, Bool.false_eq_true, if_true, if_false, eq_self_iff_true, ne_eq, reduceCtorEq, My.start_eq, My.lit_2, My.lit_3, My.lit_4, My.lit_5, My.lit_6, My.lit_7, My.lit_8, My.lit_9, My.lit_10, My.lit_11, My.lit_12, My.lit_13, My.lit_14, My.lit_15, My.lit_17, My.lit_18, My.lit_19, My.lit_20, My.T_inj, My.T_app, My.T_len, My.T_list, My.g0, My.g1, My.g2, My.g3, My.g4, My.g5, My.g6, My.g7, My.g8, My.g9, My.g10, My.g11, My.g12, My.ex1, My.vint, My.vstr, My.vbl, My.vref, My.exq, List.map_cons, List.map_nil, List.length_cons, List.length_nil, List.replicate, List.cons_append, List.nil_append, List.append_nil, List.set_cons_zero, List.set_cons_succ, Nat.reduceAdd, Nat.reduceSub, Option.some.injEq, exists_eq_left', exists_eq_left, exists_and_left, exists_and_right, true_and, and_true, L2.CPow, L2.CMul, L2.scal, Int.reduceLE, Int.reduceLT, Nat.reduceLT, decide_eq_true_eq, Bool.not_eq_true', decide_eq_false_iff_not, List.cons.injEq])
local macro_rules | `(tactic| kwd_less) => `(tactic| repeat (refine And.intro (by first | omega | decide) ?_))
namespace My
open PySem PySem.Spec PyProof.Rows L2
def topS (i : Nat) : Stmt := PySem.Challenge.pw_swapmart_k60_shown_and_read_again.main.body.getD i (.Pass ⟨0, 0, 0, 0⟩)
abbrev s_run_end : Stmt := topS 9
abbrev N_run_end : List Str := ["text", "at", "some"]
theorem sc_run_end : FnScope N_run_end ["text", "at", "some"] (defScope s_run_end) := ⟨rfl, rfl, rfl, by decide +kernel, rfl, by decide +kernel, by decide +kernel⟩
abbrev s_is_name : Stmt := topS 10
abbrev N_is_name : List Str := ["word"]
theorem sc_is_name : FnScope N_is_name ["word"] (defScope s_is_name) := ⟨rfl, rfl, rfl, by decide +kernel, rfl, by decide +kernel, by decide +kernel⟩
abbrev s_past_blanks : Stmt := topS 11
abbrev N_past_blanks : List Str := ["text", "at"]
theorem sc_past_blanks : FnScope N_past_blanks ["text", "at"] (defScope s_past_blanks) := ⟨rfl, rfl, rfl, by decide +kernel, rfl, by decide +kernel, by decide +kernel⟩
abbrev s_number_at : Stmt := topS 12
abbrev N_number_at : List Str := ["text", "at", "end"]
theorem sc_number_at : FnScope N_number_at ["text", "at"] (defScope s_number_at) := ⟨rfl, rfl, rfl, by decide +kernel, rfl, by decide +kernel, by decide +kernel⟩
abbrev s_term_at : Stmt := topS 13
abbrev N_term_at : List Str := ["text", "at", "many", "end"]
theorem sc_term_at : FnScope N_term_at ["text", "at"] (defScope s_term_at) := ⟨rfl, rfl, rfl, by decide +kernel, rfl, by decide +kernel, by decide +kernel⟩
abbrev s_read : Stmt := topS 14
abbrev N_read : List Str := ["text", "held", "at", "by", "name", "many"]
theorem sc_read : FnScope N_read ["text"] (defScope s_read) := ⟨rfl, rfl, rfl, by decide +kernel, rfl, by decide +kernel, by decide +kernel⟩
abbrev s_shown : Stmt := topS 15
abbrev N_shown : List Str := ["pairs", "words", "name", "many", "join", "bare"]
theorem sc_shown : FnScope N_shown ["pairs"] (defScope s_shown) := ⟨rfl, rfl, rfl, by decide +kernel, rfl, by decide +kernel, by decide +kernel⟩
abbrev s_law_e_sifted : Stmt := topS 17
abbrev N_law_e_sifted : List Str := ["cell", "at", "one", "two", "three"]
theorem sc_law_e_sifted : FnScope N_law_e_sifted ["cell", "at"] (defScope s_law_e_sifted) := ⟨rfl, rfl, rfl, by decide +kernel, rfl, by decide +kernel, by decide +kernel⟩
abbrev s_law_e_pick : Stmt := topS 18
abbrev N_law_e_pick : List Str := ["box", "many", "at", "cell", "found"]
theorem sc_law_e_pick : FnScope N_law_e_pick ["box", "many"] (defScope s_law_e_pick) := ⟨rfl, rfl, rfl, by decide +kernel, rfl, by decide +kernel, by decide +kernel⟩
abbrev s_law_e_shown : Stmt := topS 19
abbrev N_law_e_shown : List Str := ["pairs", "text", "name", "many", "sign", "join"]
theorem sc_law_e_shown : FnScope N_law_e_shown ["pairs"] (defScope s_law_e_shown) := ⟨rfl, rfl, rfl, by decide +kernel, rfl, by decide +kernel, by decide +kernel⟩
abbrev s_law_e_number : Stmt := topS 20
abbrev N_law_e_number : List Str := ["box", "way", "sixty", "least"]
theorem sc_law_e_number : FnScope N_law_e_number ["box"] (defScope s_law_e_number) := ⟨rfl, rfl, rfl, by decide +kernel, rfl, by decide +kernel, by decide +kernel⟩
abbrev s_law_e_pairs : Stmt := topS 21
abbrev N_law_e_pairs : List Str := ["box", "most", "letters", "found", "k", "begin"]
theorem sc_law_e_pairs : FnScope N_law_e_pairs ["box", "most"] (defScope s_law_e_pairs) := ⟨rfl, rfl, rfl, by decide +kernel, rfl, by decide +kernel, by decide +kernel⟩
abbrev s_law_e_right : Stmt := topS 22
abbrev N_law_e_right : List Str := ["pairs", "due", "turn", "handed", "found", "name", "many", "again", "text"]
theorem sc_law_e_right : FnScope N_law_e_right ["pairs"] (defScope s_law_e_right) := ⟨rfl, rfl, rfl, by decide +kernel, rfl, by decide +kernel, by decide +kernel⟩
abbrev s_law : Stmt := topS 23
abbrev N_law : List Str := ["script", "box", "k", "letters", "text", "pairs"]
theorem sc_law : FnScope N_law ["script"] (defScope s_law) := ⟨rfl, rfl, rfl, by decide +kernel, rfl, by decide +kernel, by decide +kernel⟩
end My
namespace My
open PySem PySem.Spec PyProof.Rows L2
def sp_law_e_sifted (K : PySem.W.Frag) : Sp := fun vs H Q E => ∃ (c a : Int), vs = [.int c, .int a] ∧ (0 ≤ a ∧ a ≤ 1000000000 ∧ ∀ v : Int, Q (.int v) H)
def sp_run_end (K : PySem.W.Frag) : Sp := fun vs H Q E => ∃ (x y s : C) (a : Nat), vs = [.str (T x), .int (a : Int), .str (T y)] ∧ (At x a s ∧ x.length ≤ 100000 ∧ ∀ a' : Nat, a' = a + (rn y s).length → At x a' (rs y s) → Q (.int (a' : Int)) H)
def sp_law_e_pick (K : PySem.W.Frag) : Sp := fun vs H Q E => ∃ (b sc : Addr) (ns : List Int) (n : Nat) (m : Int), vs = [.ref b, .int m] ∧ (Bx K b sc ns n H ∧ n ≤ 900000000 ∧ 0 < m ∧ m.natAbs.log2 < 9000 ∧ ∀ H' r, Kb b H H' → Bx K b sc ns (n + 1) H' → 0 ≤ r → r < m → Q (.int r) H')
def sp_is_name (K : PySem.W.Frag) : Sp := fun vs H Q E => ∃ (x : C), vs = [.str (T x)] ∧ (x.length ≤ 100000 ∧ Q (.bl (decide (NameOk x))) H)
def sp_past_blanks (K : PySem.W.Frag) : Sp := fun vs H Q E => ∃ (x s : C) (a : Nat), vs = [.str (T x), .int (a : Int)] ∧ (At x a s ∧ x.length ≤ 100000 ∧ ∀ a' : Nat, At x a' (rs [32] s) → Q (.int (a' : Int)) H)
def sp_number_at (K : PySem.W.Frag) (XNoText : Addr) : Sp := fun vs H Q E => ∃ (x s : C) (a : Nat), vs = [.str (T x), .int (a : Int)] ∧ (At x a s ∧ x.length ≤ 300 ∧ (∃ c, s.head? = some c ∧ c ∈ fig) ∧ (match numM s with | none => ∀ H', Ex H H' → E (.ref XNoText) none H' | some (v, s2) => ∀ (p : Addr) (a' : Nat), H p = none → At x a' s2 → Q (.ref p) (upd H p (.tup [.int v, .int (a' : Int)]))))
def sp_term_at (K : PySem.W.Frag) (XNoText : Addr) : Sp := fun vs H Q E => ∃ (x s : C) (a : Nat), vs = [.str (T x), .int (a : Int)] ∧ (At x a s ∧ x.length ≤ 300 ∧ (match termM s with | none => ∀ H', Ex H H' → E (.ref XNoText) none H' | some (n, v, s2) => ∀ (H' : Hp) (p : Addr) (a' : Nat), H p = none → Ex H H' → H' p = some (.tup [.str (T n), .int v, .int (a' : Int)]) → At x a' s2 → Q (.ref p) H'))
def sp_read (K : PySem.W.Frag) (XNoText : Addr) : Sp := fun vs H Q E => ∃ (x : C), vs = [.str (T x)] ∧ (x.length ≤ 100000 ∧ (match readM x with | none => ∀ H', Ex H H' → E (.ref XNoText) none H' | some ts => (held ts).length < 64 ∧ ∀ (H' : Hp) (p : Addr) (l : Tb), H p = none → Ex H H' → Due ts l → PL H' p l → Q (.ref p) H'))
def sp_shown (K : PySem.W.Frag) : Sp := fun vs H Q E => ∃ (p : Addr) (l : Tb), vs = [.ref p] ∧ (PL H p l ∧ (∀ e ∈ l, PairOk e) ∧ l.length ≤ 64 ∧ Q (.str (T (shownM l))) H)
def sp_law_e_shown (K : PySem.W.Frag) : Sp := fun vs H Q E => ∃ (p : Addr) (l : Tb), vs = [.ref p] ∧ (PL H p l ∧ (∀ e ∈ l, PairOk e) ∧ l.length ≤ 64 ∧ ∀ H', Ex H H' → Q (.str (T (shownM l))) H')
def sp_law_e_number (K : PySem.W.Frag) : Sp := fun vs H Q E => ∃ (b sc : Addr) (ns : List Int) (n : Nat), vs = [.ref b] ∧ (Bx K b sc ns n H ∧ n ≤ 800000000 ∧ ∀ H' (v : Int), v ≠ 0 → v.natAbs < 10 ^ 300 → Kb b H H' → Bx K b sc ns (n + 3) H' → Q (.int v) H')
def sp_law_e_pairs (K : PySem.W.Frag) : Sp := fun vs H Q E => ∃ (b sc : Addr) (ns : List Int) (n m : Nat), vs = [.ref b, .int (m : Int)] ∧ (Bx K b sc ns n H ∧ n ≤ 700000000 ∧ m ≤ 16 ∧ ∀ H' p (l : Tb), H p = none → PL H' p l → l.length = m → (∀ e ∈ l, PairOk e) → (l.map (·.1)).Nodup → Kb b H H' → Bx K b sc ns (n + 200) H' → Q (.ref p) H')
def sp_law_e_right (K : PySem.W.Frag) : Sp := fun vs H Q E => ∃ (p : Addr) (l : Tb), vs = [.ref p] ∧ (PL H p l ∧ (∀ e ∈ l, PairOk e) ∧ (l.map (·.1)).Nodup ∧ l.length ≤ 63 ∧ ∀ H', Ex H H' → Q (.bl true) H')
def sp_law (K : PySem.W.Frag) : Sp := fun vs H Q E => ∃ (sc : Addr) (ns : List Int), vs = [.ref sc] ∧ (SqL K H sc (ns.map V.int) ∧ ns.length ≤ 63 ∧ ∀ H', Q (.bl true) H')
end My
namespace My
open PySem PySem.Spec PyProof.Rows L2
theorem ok_law_e_sifted {P : Program} {w : World} {K : PySem.W.Frag} {mg : Str → Option Value} {base : Heap}
    (F : Fa K mg "_law_e_sifted" ["cell", "at"] s_law_e_sifted)
    : Dn P w K mg base CX0 "_law_e_sifted" ["cell", "at"] 1 (sp_law_e_sifted K) := by
  obtain ⟨f, fd, F⟩ := F
  refine ⟨f, fd, F.g, F.F.kp, F.b, ?_⟩
  refine F.F.ok sc_law_e_sifted (fun vs H Q E h => by obtain ⟨_, _, rfl, _⟩ := h; rfl) (fun cdv A outer s H vs Q E hr h => ?_)
  obtain ⟨c, a, rfl, h⟩ := h
  refine ⟨_, (pss_cons (ps_if (pt_cmpR op_ge (pv 0) (pe_op op_pow pe_int pe_int) (nomark _)) (pss_one (ps_ret (pv 0))) pss_nil)
      (pss_cons (ps_set (i := 2) sc_law_e_sifted.nd rfl (.inl rfl) (pe_op op_mod (pe_op op_add (pe_op op_add (pe_op op_mul (pe_op op_mod (pv 0) pe_int) pe_int) (pe_op op_mul (pv 1) pe_int)) pe_int) pe_int))
      (pss_cons (ps_set (i := 3) sc_law_e_sifted.nd rfl (.inl rfl) (pe_op op_mod (pe_op op_add (pe_op op_add (pe_op op_add (pe_op op_mul (pv 2) (pv 2)) (pe_op op_mul (pe_op op_mul pe_int (pv 1)) (pv 1))) (pe_op op_mul pe_int (pv 2))) pe_int) pe_int))
      (pss_cons (ps_set (i := 4) sc_law_e_sifted.nd rfl (.inl rfl) (pe_op op_mod (pe_op op_add (pe_op op_add (pe_op op_mul (pv 3) (pv 3)) (pe_op op_mul pe_int (pv 2))) (pe_op op_mul pe_int (pv 1))) pe_int))
      (pss_one (ps_ret (pe_op op_add (pe_op op_mul (pv 4) pe_int) (pv 3)))))))), ?_⟩
  obtain ⟨h0, h1, q⟩ := h
  refine sq fun R1 k1 => ?_
  kwd_rel; kwd_less
  split
  · exact q c
  · refine k1 _ _ (sq fun R2 k2 => ?_)
    kwd_rel; kwd_less
    generalize e1 : (c % 2147483069 * 45007 + a * 12007 + 61) % 2147483059 = one
    have o0 : 0 ≤ one ∧ one < 2147483059 := by omega
    clear e1
    refine k2 _ _ (sq fun R3 k3 => ?_)
    kwd_rel; kwd_less
    generalize e2 : (one * one + 613 * a * a + 17 * one + 11) % 2147483053 = two
    have o1 : 0 ≤ two ∧ two < 2147483053 := by omega
    clear e2
    refine k3 _ _ (sq fun R4 k4 => ?_)
    kwd_rel; kwd_less
    generalize e2 : (two * two + 271 * one + 23 * a) % 2147483033 = three
    have o2 : 0 ≤ three ∧ three < 2147483033 := by omega
    refine k4 _ _ ?_
    kwd_rel; kwd_less
    exact q _
end My
namespace My
open PySem PySem.Spec PyProof.Rows L2
theorem ok_run_end {P : Program} {w : World} {K : PySem.W.Frag} {mg : Str → Option Value} {base : Heap}
    (F : Fa K mg "run_end" ["text", "at", "some"] s_run_end)
    (b_len : mg "len" = none)
    : Dn P w K mg base CX0 "run_end" ["text", "at", "some"] 1 (sp_run_end K) := by
  obtain ⟨f, fd, F⟩ := F
  refine ⟨f, fd, F.g, F.F.kp, F.b, ?_⟩
  refine F.F.ok sc_run_end (fun vs H Q E h => by obtain ⟨_, _, _, _, rfl, _⟩ := h; rfl) (fun cdv A outer s H vs Q E hr h => ?_)
  obtain ⟨x, y, s, a, rfl, h⟩ := h
  refine ⟨_, (pss_cons (ps_while PassesOwn.never (PW.pt (pw_and (pt_cmpR op_lt (pv 1) (pe_callB call_len_str (by rfl) b_len (by decide +kernel) (pa_cons (pv 0) pa_nil)) (nomark _)) (pw_and1 (pt_cmpR op_in_sign (pe_ix ix_str (pv 0) (pv 1) (fun _ _ => rfl)) (pv 2) rfl))))
        (pss_one (ps_set (i := 1) sc_run_end.nd rfl (.inl rfl) (pe_op op_add (pv 1) pe_int))))
      (pss_one (ps_ret (pv 1)))), ?_⟩
  obtain ⟨hA, hx, q⟩ := h
  refine sq fun R1 k1 => ?_
  have k2 : ∀ (e : Nat), At x e (rs y s) → e = a + (rn y s).length → R1 [some (.str (T x)), some (.int (e : Int)), some (.str (T y))] H := fun e h1 h2 => by
    refine k1 _ _ ?_
    kwd_rel
    exact q e h2 h1
  clear k1
  refine ⟨fun m σ H' => ∃ (b : Nat) (s' : C), σ = [some (.str (T x)), some (.int (b : Int)), some (.str (T y))] ∧ H' = H ∧ At x b s' ∧ m = s'.length ∧ b + (rn y s').length = a + (rn y s).length ∧ rs y s' = rs y s, ⟨s.length, a, s, rfl, rfl, hA, rfl, rfl, rfl⟩, ?_⟩
  rintro m σ H' ⟨b, s', rfl, rfl, hb, rfl, e1, e2⟩
  have hl := hb.len
  kwd_rel
  refine ⟨sl_len hx, ?_⟩
  cases s' with
  | nil =>
    rw [if_neg (by simp at hl; omega)]
    refine k2 b ?_ (by simpa [rn] using e1)
    rw [← e2]; exact hb
  | cons c s' =>
    rw [if_pos (by simp at hl; omega)]
    refine ⟨sl_len hx, c, atI_nat hb.get, c, rfl, ?_⟩
    by_cases hc : c ∈ y
    · rw [if_pos hc]
      refine ⟨_, fun _ _ h => h, s'.length, by simp, b + 1, rfl, rfl, s', hb.next, rfl, ?_, ?_⟩
      · rw [← e1]; simp [rn, hc]; omega
      · rw [← e2]; simp [rs, hc]
    · rw [if_neg hc]
      refine k2 b ?_ ?_
      · rw [← e2]; simpa [rs, hc] using hb
      · rw [← e1]; simp [rn, hc]
end My
namespace My
open PySem PySem.Spec PyProof.Rows L2
theorem ok_law_e_pick {P : Program} {w : World} {K : PySem.W.Frag} {mg : Str → Option Value} {base : Heap}
    (F : Fa K mg "_law_e_pick" ["box", "many"] s_law_e_pick)
    (b_len : mg "len" = none)
    (D_law_e_sifted : Dn P w K mg base CX0 "_law_e_sifted" ["cell", "at"] 1 (sp_law_e_sifted K))
    : Dn P w K mg base CX0 "_law_e_pick" ["box", "many"] 2 (sp_law_e_pick K) := by
  obtain ⟨f, fd, F⟩ := F
  obtain ⟨_, _, D_law_e_sifted⟩ := D_law_e_sifted
  refine ⟨f, fd, F.g, F.F.kp, F.b, ?_⟩
  refine F.F.ok sc_law_e_pick (fun vs H Q E h => by obtain ⟨_, _, _, _, _, rfl, _⟩ := h; rfl) (fun cdv A outer s H vs Q E hr h => ?_)
  obtain ⟨b, sc, ns, n, m, rfl, h⟩ := h
  refine ⟨_, (pss_cons (ps_if (pt_cmpR op_lt (pe_ix (ix_listK (K := K)) (pv 0) pe_int (fun _ _ => rfl)) (pv 1) (nomark _)) (pss_cons (ps_set (i := 2) sc_law_e_pick.nd rfl (.inl rfl) (pe_ix (ix_listK (K := K)) (pv 0) pe_int (fun _ _ => rfl)))
        (pss_cons (ps_set (i := 3) sc_law_e_pick.nd rfl (.inl rfl) (pe_op op_add (pe_op op_mul pe_int (pv 2)) pe_int))
        (pss_cons (ps_if (pt_cmpR op_lt (pv 2) (pe_callB (call_lenK (K := K)) (by rfl) b_len (by decide +kernel) (pa_cons (pe_ix (ix_listK (K := K)) (pv 0) pe_int (fun _ _ => rfl)) pa_nil)) (nomark _)) (pss_one (ps_set (i := 3) sc_law_e_pick.nd rfl (.inl rfl) (pe_ix (ix_listK (K := K)) (pe_ix (ix_listK (K := K)) (pv 0) pe_int (fun _ _ => rfl)) (pv 2) (fun _ _ => rfl)))) (pss_one (ps_if (pt_cmpR op_gt (pe_callB (call_lenK (K := K)) (by rfl) b_len (by decide +kernel) (pa_cons (pe_ix (ix_listK (K := K)) (pv 0) pe_int (fun _ _ => rfl)) pa_nil)) pe_int (nomark _)) (pss_one (ps_set (i := 3) sc_law_e_pick.nd rfl (.inl rfl) (pe_op op_add (pe_op op_mod (pe_ix (ix_listK (K := K)) (pe_ix (ix_listK (K := K)) (pv 0) pe_int (fun _ _ => rfl)) (pe_op op_mod (pe_op op_add (pe_op op_mul pe_int (pv 2)) pe_int) (pe_callB (call_lenK (K := K)) (by rfl) b_len (by decide +kernel) (pa_cons (pe_ix (ix_listK (K := K)) (pv 0) pe_int (fun _ _ => rfl)) pa_nil))) (fun _ _ => rfl)) pe_int) (pe_op op_mul (pv 2) pe_int)))) pss_nil)))
        (pss_cons (ps_asg (pe_op op_add (pv 2) pe_int) (pg_sub (pv 0) pe_int set_list))
        (pss_one (ps_asg (pe_call D_law_e_sifted.G (hr.mono (by decide)) (by rfl) D_law_e_sifted.g D_law_e_sifted.kp D_law_e_sifted.b .nil pass0 (pa_cons (pv 3) (pa_cons (pv 2) pa_nil))) (pg_sub (pv 0) pe_int set_list))))))) pss_nil)
      (pss_cons (ps_set (i := 4) sc_law_e_pick.nd rfl (.inl rfl) (pe_op op_mod (pe_ix (ix_listK (K := K)) (pv 0) pe_int (fun _ _ => rfl)) (pv 1)))
      (pss_cons (ps_asg (pe_op op_fdivW (pe_ix (ix_listK (K := K)) (pv 0) pe_int (fun _ _ => rfl)) (pv 1)) (pg_sub (pv 0) pe_int set_list))
      (pss_one (ps_ret (pv 4)))))), ?_⟩
  obtain ⟨hB, hn, hm, hl, q⟩ := h
  obtain ⟨a, s0, eb, a0, a1⟩ := hB.ex
  refine sq fun R1 k1 => ?_
  have k2 : ∀ (H' : Hp) (v2 v3 : Option V) (a' s' : Int), Kb b H H' → Bx K b sc ns (n + 1) H' → H' b = some (.lst [.ref sc, .int a', .int s']) → 0 ≤ a' → a' ≤ (n : Int) + 1 → R1 [some (.ref b), some (.int m), v2, v3, none] H' := fun H' v2 v3 a' s' kb hB' e z0 z1 => by
    refine k1 _ _ (sq fun R2 k2 => ?_)
    kwd_rel
    refine ⟨_, lsq e, _, ix2, _, rfl, hm, ?_⟩
    refine k2 _ _ (sq fun R3 k3 => ?_)
    kwd_rel
    refine ⟨_, lsq e, _, ix2, _, rfl, ⟨hm, hl⟩, _, e, 2, in2, ?_⟩
    refine k3 _ _ ?_
    kwd_rel
    refine q _ _ (Kb.put kb) ?_ (Int.emod_nonneg _ (by omega)) (Int.emod_lt_of_pos _ hm)
    exact hB'.put (a := a') (s := s' / m) z0 (by omega)
  clear k1
  kwd_rel
  refine ⟨_, lsq eb, _, ix2, _, rfl, ?_⟩
  split
  case isFalse => exact k2 H none none a s0 (Kb.refl b H) (hB.up (by omega)) eb a0 (by omega)
  refine sq fun R2 k3 => ?_
  kwd_rel
  refine ⟨_, lsq eb, _, ix1, ?_⟩
  refine k3 _ _ (sq fun R3 k4 => ?_)
  kwd_rel; kwd_less
  refine k4 _ _ (sq fun R4 k6 => ?_)
  have k7 : ∀ c : Int, R4 [some (.ref b), some (.int m), some (.int a), some (.int c), none] H := fun c => by
    refine k6 _ _ (sq fun R5 k8 => ?_)
    kwd_rel
    refine ⟨_, eb, 1, in1, k8 _ _ ?_⟩
    kwd_rel
    refine ⟨c, a, rfl, a0, by omega, fun v => ?_⟩
    refine ⟨_, upd_same, 2, in2, ?_⟩
    rw [upd_upd]
    exact k2 _ _ _ (a + 1) v (Kb.put (Kb.refl b H)) (hB.put (by omega) (by omega)) upd_same (by omega) (by omega)
  clear k6
  kwd_rel
  refine ⟨_, lsq eb, _, ix0, _, .inl ⟨_, hB.sq, rfl⟩, ?_⟩
  rw [lenV]
  split
  · rename_i hlt
    obtain ⟨c, hc⟩ := at_V a0 hlt
    exact ⟨_, lsq eb, _, ix0, _, rfl, _, hB.sq, _, hc, k7 c⟩
  · refine ⟨_, lsq eb, _, ix0, _, .inl ⟨_, hB.sq, rfl⟩, ?_⟩
    rw [lenV]
    split
    · rename_i hp
      have hq : 0 ≤ (11 * a + 4) % (ns.length : Int) := Int.emod_nonneg _ (by omega)
      have hq2 : (11 * a + 4) % (ns.length : Int) < ns.length := Int.emod_lt_of_pos _ hp
      obtain ⟨c, hc⟩ := at_V hq hq2
      exact ⟨_, lsq eb, _, ix0, by omega, _, lsq eb, _, ix0, _, .inl ⟨_, hB.sq, rfl⟩, by rw [lenV]; exact hp, _, rfl, _, hB.sq, by rw [lenV]; exact ⟨_, hc, _, rfl, by omega, k7 _⟩⟩
    · exact k7 _
end My
namespace My
open PySem PySem.Spec PyProof.Rows L2
theorem ok_is_name {P : Program} {w : World} {K : PySem.W.Frag} {mg : Str → Option Value} {base : Heap}
    (F : Fa K mg "is_name" ["word"] s_is_name)
    (b_len : mg "len" = none)
    (g_MOST_LETTERS : ∃ t, mg "MOST_LETTERS" = some (.int 8 t))
    (g_LETTERS : ∃ t, mg "LETTERS" = some (.str (Str.ofString "abcdefghijklmnopqrstuvwxyz") t))
    (D_run_end : Dn P w K mg base CX0 "run_end" ["text", "at", "some"] 1 (sp_run_end K))
    : Dn P w K mg base CX0 "is_name" ["word"] 2 (sp_is_name K) := by
  obtain ⟨f, fd, F⟩ := F
  obtain ⟨t_MOST_LETTERS, g_MOST_LETTERS⟩ := g_MOST_LETTERS
  obtain ⟨t_LETTERS, g_LETTERS⟩ := g_LETTERS
  obtain ⟨_, _, D_run_end⟩ := D_run_end
  refine ⟨f, fd, F.g, F.F.kp, F.b, ?_⟩
  refine F.F.ok sc_is_name (fun vs H Q E h => by obtain ⟨_, rfl, _⟩ := h; rfl) (fun cdv A outer s H vs Q E hr h => ?_)
  obtain ⟨x, rfl, h⟩ := h
  refine ⟨_, (pss_one (ps_ret (pe_and (pe_chain op_le op_le pe_int (pe_callB call_len_str (by rfl) b_len (by decide +kernel) (pa_cons (pv 0) pa_nil)) (pe_glob (v := .int 8) rfl g_MOST_LETTERS ⟨_, rfl⟩)) (pe_one (pe_cmpR op_eq (pe_call D_run_end.G (hr.mono (by decide)) (by rfl) D_run_end.g D_run_end.kp D_run_end.b .nil pass0 (pa_cons (pv 0) (pa_cons pe_int (pa_cons (pe_glob (v := .str (Str.ofString "abcdefghijklmnopqrstuvwxyz")) rfl g_LETTERS ⟨_, rfl⟩) pa_nil)))) (pe_callB call_len_str (by rfl) b_len (by decide +kernel) (pa_cons (pv 0) pa_nil)) (nomark _)))))), ?_⟩
  obtain ⟨hx, q⟩ := h
  kwd_rel
  refine ⟨sl_len hx, ?_⟩
  by_cases h1 : 1 ≤ x.length
  · rw [if_pos (by omega)]
    by_cases h2 : x.length ≤ 8
    · rw [if_pos (by omega)]
      refine ⟨x, abc, x, 0, rfl, At.z, hx, fun e he hE => ⟨sl_len hx, rfl, ?_⟩⟩
      have : decide (V.int (e : Int) = V.int (x.length : Int)) = decide (NameOk x) := by
        rw [dec_int]
        by_cases hn : NameOk x
        · rw [decide_eq_true hn, he, rn_all.mpr hn.all]; simp
        · rw [decide_eq_false hn]
          rw [beq_eq_false_iff_ne]
          intro q
          exact hn ⟨h1, h2, rn_all.mp (by omega)⟩
      rw [this]; exact q
    · rw [if_neg (by omega)]
      rw [decide_eq_false (fun hn => h2 hn.le)] at q; exact q
  · rw [if_neg (by omega)]
    rw [decide_eq_false (fun hn => h1 hn.pos)] at q; exact q
end My
namespace My
open PySem PySem.Spec PyProof.Rows L2
theorem ok_past_blanks {P : Program} {w : World} {K : PySem.W.Frag} {mg : Str → Option Value} {base : Heap}
    (F : Fa K mg "past_blanks" ["text", "at"] s_past_blanks)
    (D_run_end : Dn P w K mg base CX0 "run_end" ["text", "at", "some"] 1 (sp_run_end K))
    : Dn P w K mg base CX0 "past_blanks" ["text", "at"] 2 (sp_past_blanks K) := by
  obtain ⟨f, fd, F⟩ := F
  obtain ⟨_, _, D_run_end⟩ := D_run_end
  refine ⟨f, fd, F.g, F.F.kp, F.b, ?_⟩
  refine F.F.ok sc_past_blanks (fun vs H Q E h => by obtain ⟨_, _, _, rfl, _⟩ := h; rfl) (fun cdv A outer s H vs Q E hr h => ?_)
  obtain ⟨x, s, a, rfl, h⟩ := h
  refine ⟨_, (pss_one (ps_ret (pe_call D_run_end.G (hr.mono (by decide)) (by rfl) D_run_end.g D_run_end.kp D_run_end.b .nil pass0 (pa_cons (pv 0) (pa_cons (pv 1) (pa_cons pe_str pa_nil)))))), ?_⟩
  obtain ⟨hA, hx, q⟩ := h
  kwd_rel
  exact ⟨x, [32], s, a, rfl, hA, hx, fun a' _ h => q a' h⟩
end My
namespace My
open PySem PySem.Spec PyProof.Rows L2
theorem ok_number_at {P : Program} {w : World} {K : PySem.W.Frag} {mg : Str → Option Value} {base : Heap} {XNoText : Addr}
    (F : Fa K mg "number_at" ["text", "at"] s_number_at)
    (b_int : mg "int" = none)
    (g_FIGURES : ∃ t, mg "FIGURES" = some (.str (Str.ofString "0123456789") t))
    (g_MOST_FIGURES : ∃ t, mg "MOST_FIGURES" = some (.int 60 t))
    (X_NoText : Xc K mg "NoText" XNoText)
    (D_run_end : Dn P w K mg base CX0 "run_end" ["text", "at", "some"] 1 (sp_run_end K))
    (D_past_blanks : Dn P w K mg base CX0 "past_blanks" ["text", "at"] 2 (sp_past_blanks K))
    : Dn P w K mg base (L2.CX P w) "number_at" ["text", "at"] 3 (sp_number_at K XNoText) := by
  obtain ⟨f, fd, F⟩ := F
  obtain ⟨t_FIGURES, g_FIGURES⟩ := g_FIGURES
  obtain ⟨t_MOST_FIGURES, g_MOST_FIGURES⟩ := g_MOST_FIGURES
  obtain ⟨_, _, D_run_end⟩ := D_run_end
  obtain ⟨_, _, D_past_blanks⟩ := D_past_blanks
  refine ⟨f, fd, F.g, F.F.kp, F.b, ?_⟩
  refine F.F.okX sc_number_at (fun vs H Q E h => by obtain ⟨_, _, _, rfl, _⟩ := h; rfl) (fun cdv A outer s H vs Q E hr h => ?_)
  obtain ⟨x, s, a, rfl, h⟩ := h
  refine ⟨_, (pss_cons (ps_set (i := 2) sc_number_at.nd rfl (.inl rfl) (pe_call D_run_end.G (hr.mono (by decide)) (by rfl) D_run_end.g D_run_end.kp D_run_end.b .nil pass0 (pa_cons (pv 0) (pa_cons (pv 1) (pa_cons (pe_glob (v := .str (Str.ofString "0123456789")) rfl g_FIGURES ⟨_, rfl⟩) pa_nil)))))
      (pss_cons (ps_if (PW.pt (pw_or (pt_cmpR op_gt (pe_op op_sub (pv 2) (pv 1)) (pe_glob (v := .int 60) rfl g_MOST_FIGURES ⟨_, rfl⟩) (nomark _)) (pw_or (pt_cmpR op_eq (pe_ix ix_str (pv 0) (pv 1) (fun _ _ => rfl)) pe_str (nomark _)) (pw_or1 (pt_cmpR op_ne (pe_slice sl_str (pv 0) (po_some (pv 2)) (po_some (pe_op op_add (pv 2) pe_int))) pe_str (nomark _)))))) (pss_one (ps_raise rfl (takes_of rfl rfl rfl rfl) (pmk_own PySem.F.excBase_ValueError X_NoText.x X_NoText.g X_NoText.k (raises_own X_NoText.b X_NoText.t) (by rfl)))) pss_nil)
      (pss_one (ps_ret (pe_tup (pa_cons (pe_callTy call_int_str (by rfl) b_int (by decide +kernel) (pa_cons (pe_slice sl_str (pv 0) (po_some (pv 1)) (po_some (pv 2))) pa_nil)) (pa_cons (pe_call D_past_blanks.G (hr.mono (by decide)) (by rfl) D_past_blanks.g D_past_blanks.kp D_past_blanks.b .nil pass0 (pa_cons (pv 0) (pa_cons (pv 2) pa_nil))) pa_nil))))))), ?_⟩
  obtain ⟨hA, hx, hc, q⟩ := h
  refine _root_.My.sq fun R1 k1 => ?_
  kwd_rel
  refine ⟨x, fig, s, a, rfl, hA, by omega, fun e he hE => ?_⟩
  refine k1 _ _ (_root_.My.sq fun R2 k2 => ?_)
  kwd_rel
  obtain ⟨c, hc0, hcf⟩ := hc
  obtain ⟨s', hs⟩ : ∃ s', s = c :: s' := by
    cases s with
    | nil => cases hc0
    | cons d r => cases hc0; exact ⟨r, rfl⟩
  have no : (rn fig s).length > 60 ∨ s.head? = some 48 ∨ (rs fig s).head? ≠ some 32 → E (.ref XNoText) none H := fun hh => by
    have e1 : numM s = none := by unfold numM; rw [if_pos hh]
    rw [e1] at q; exact q H (Ex.refl H)
  by_cases g1 : (rn fig s).length > 60
  · rw [if_pos (by omega)]; exact no (.inl g1)
  rw [if_neg (by omega)]
  refine ⟨sl_len (by omega), c, atI_nat (hs ▸ hA).get, ?_⟩
  by_cases g2 : c = 48
  · rw [if_pos (T1_iff.mpr g2)]; exact no (.inr (.inl (by rw [hc0, g2])))
  rw [if_neg (fun h => g2 (T1_iff.mp h))]
  refine ⟨sl_len (by omega), ?_⟩
  rw [hE.cut1]
  have i3 : T ((rs fig s).take 1) = T [32] ↔ (rs fig s).head? = some 32 := T_inj.trans take1_iff
  by_cases g3 : (rs fig s).head? = some 32
  case neg => rw [if_pos (fun h => g3 (i3.mp h))]; exact no (.inr (.inr g3))
  rw [if_neg (fun h => h (i3.mpr g3))]
  have e1 : numM s = some (((NumText.digitsVal (rn fig s) : Nat) : Int), rs [32] (rs fig s)) := by
    unfold numM; rw [if_neg]
    rintro (h | h | h)
    · exact g1 h
    · rw [hc0] at h; exact g2 (Option.some.inj h)
    · exact h g3
  rw [e1] at q
  refine k2 _ _ ?_
  kwd_rel
  subst he
  refine ⟨sl_len (by omega), (NumText.digitsVal (rn fig s) : Nat), ?_, ?_, ?_⟩
  · rw [hA.cutY]
    have := intText_digits (x := T (rn fig s)) (by rw [T_list]; exact rn_fig s) (by rw [T_list, hs]; simp [rn, hcf]) (by rw [T_len]; omega)
    rw [T_list] at this; exact this
  · rw [hA.cutY, T_len]; omega
  · refine ⟨x, rs fig s, a + (rn fig s).length, rfl, hE, by omega, fun a' hA' => ⟨by decide, fun p hp => ?_⟩⟩
    exact q p a' hp hA'
end My
namespace My
open PySem PySem.Spec PyProof.Rows L2
theorem ok_term_at {P : Program} {w : World} {K : PySem.W.Frag} {mg : Str → Option Value} {base : Heap} {XNoText : Addr}
    (F : Fa K mg "term_at" ["text", "at"] s_term_at)
    (g_LETTERS : ∃ t, mg "LETTERS" = some (.str (Str.ofString "abcdefghijklmnopqrstuvwxyz") t))
    (g_FIGURES : ∃ t, mg "FIGURES" = some (.str (Str.ofString "0123456789") t))
    (X_NoText : Xc K mg "NoText" XNoText)
    (D_run_end : Dn P w K mg base CX0 "run_end" ["text", "at", "some"] 1 (sp_run_end K))
    (D_number_at : Dn P w K mg base (L2.CX P w) "number_at" ["text", "at"] 3 (sp_number_at K XNoText))
    (D_is_name : Dn P w K mg base CX0 "is_name" ["word"] 2 (sp_is_name K))
    (D_past_blanks : Dn P w K mg base CX0 "past_blanks" ["text", "at"] 2 (sp_past_blanks K))
    : Dn P w K mg base (L2.CX P w) "term_at" ["text", "at"] 4 (sp_term_at K XNoText) := by
  obtain ⟨f, fd, F⟩ := F
  obtain ⟨t_LETTERS, g_LETTERS⟩ := g_LETTERS
  obtain ⟨t_FIGURES, g_FIGURES⟩ := g_FIGURES
  obtain ⟨_, _, D_run_end⟩ := D_run_end
  obtain ⟨_, _, D_number_at⟩ := D_number_at
  obtain ⟨_, _, D_is_name⟩ := D_is_name
  obtain ⟨_, _, D_past_blanks⟩ := D_past_blanks
  refine ⟨f, fd, F.g, F.F.kp, F.b, ?_⟩
  refine F.F.okX sc_term_at (fun vs H Q E h => by obtain ⟨_, _, _, rfl, _⟩ := h; rfl) (fun cdv A outer s H vs Q E hr h => ?_)
  obtain ⟨x, s, a, rfl, h⟩ := h
  refine ⟨_, (pss_cons (ps_set (i := 2) sc_term_at.nd rfl (.inl rfl) pe_int)
      (pss_cons (ps_if (PW.pt (pw_and (pt_cmpR op_ne (pe_slice sl_str (pv 0) (po_some (pv 1)) (po_some (pe_op op_add (pv 1) pe_int))) pe_str (nomark _)) (pw_and1 (pt_cmpR op_in_sign (pe_ix ix_str (pv 0) (pv 1) (fun _ _ => rfl)) (pe_glob (v := .str (Str.ofString "0123456789")) rfl g_FIGURES ⟨_, rfl⟩) rfl)))) (pss_one (ps_asg (pe_call D_number_at.G (hr.mono (by decide)) (by rfl) D_number_at.g D_number_at.kp D_number_at.b .nil passX (pa_cons (pv 0) (pa_cons (pv 1) pa_nil))) (pg_tupK (K := K) (n := 2) rfl (pgs_cons (pg_name (i := 2) sc_term_at.nd rfl (.inl rfl)) (pgs_cons (pg_name (i := 1) sc_term_at.nd rfl (.inl rfl)) pgs_nil))))) pss_nil)
      (pss_cons (ps_set (i := 3) sc_term_at.nd rfl (.inl rfl) (pe_call D_run_end.G (hr.mono (by decide)) (by rfl) D_run_end.g D_run_end.kp D_run_end.b .nil pass0 (pa_cons (pv 0) (pa_cons (pv 1) (pa_cons (pe_glob (v := .str (Str.ofString "abcdefghijklmnopqrstuvwxyz")) rfl g_LETTERS ⟨_, rfl⟩) pa_nil)))))
      (pss_cons (ps_if (pt_not (pt_val (pe_call D_is_name.G (hr.mono (by decide)) (by rfl) D_is_name.g D_is_name.kp D_is_name.b .nil pass0 (pa_cons (pe_slice sl_str (pv 0) (po_some (pv 1)) (po_some (pv 3))) pa_nil)))) (pss_one (ps_raise rfl (takes_of rfl rfl rfl rfl) (pmk_own PySem.F.excBase_ValueError X_NoText.x X_NoText.g X_NoText.k (raises_own X_NoText.b X_NoText.t) (by rfl)))) pss_nil)
      (pss_one (ps_ret (pe_tup (pa_cons (pe_slice sl_str (pv 0) (po_some (pv 1)) (po_some (pv 3))) (pa_cons (pv 2) (pa_cons (pe_call D_past_blanks.G (hr.mono (by decide)) (by rfl) D_past_blanks.g D_past_blanks.kp D_past_blanks.b .nil pass0 (pa_cons (pv 0) (pa_cons (pv 3) pa_nil))) pa_nil)))))))))), ?_⟩
  obtain ⟨hA, hx, q⟩ := h
  refine _root_.My.sq fun R1 k1 => ?_
  kwd_rel
  refine k1 _ _ (_root_.My.sq fun R2 k2 => ?_)
  have k3 : ∀ (H' : Hp) (m : Int) (s1 : C) (e : Nat), many1 s = some (m, s1) → At x e s1 → Ex H H' → R2 [some (.str (T x)), some (.int (e : Int)), some (.int m), none] H' := fun H' m s1 e em hE hH => by
    have q1 : termM s = nameM m s1 := by unfold termM; rw [em]; rfl
    refine k2 _ _ (_root_.My.sq fun R3 k3 => ?_)
    kwd_rel
    refine ⟨x, abc, s1, e, rfl, hE, by omega, fun e2 he2 hE2 => ?_⟩
    refine k3 _ _ (_root_.My.sq fun R4 k4 => ?_)
    kwd_rel
    subst he2
    rw [hE.cutY]
    refine ⟨sl_len (by omega), rn abc s1, rfl, by have := rn_len abc s1; have := hE.len; omega, ?_⟩
    by_cases hn : NameOk (rn abc s1)
    · have e3 : termM s = some (rn abc s1, m, rs [32] (rs abc s1)) := by rw [q1]; unfold nameM; rw [if_pos hn]
      rw [e3] at q
      refine ⟨true, by rw [decide_eq_true hn], ?_⟩
      rw [if_neg (fun h => by cases h)]
      refine k4 _ _ ?_
      kwd_rel
      rw [hE.cutY]
      refine ⟨sl_len (by omega), x, rs abc s1, e + (rn abc s1).length, rfl, hE2, by omega, fun a' hA' => ⟨by decide, fun p hp => ?_⟩⟩
      exact q _ p a' (hH.free hp) (hH.trans (Ex.new hp)) upd_same hA'
    · have e3 : termM s = none := by rw [q1]; unfold nameM; rw [if_neg hn]
      rw [e3] at q
      refine ⟨false, by rw [decide_eq_false hn], ?_⟩
      rw [if_pos rfl]
      exact q _ hH
  clear k2
  kwd_rel
  refine ⟨sl_len (by omega), ?_⟩
  have i1 : cutS (T x) (some (a : Int)) (some ((a : Int) + 1)) = T [] ↔ s.head? = none := by rw [hA.cut1]; exact T_inj.trans take1_nil
  cases s with
  | nil =>
    rw [if_neg (fun h => h (i1.mpr rfl))]
    exact k3 H 1 [] a (by unfold many1; rw [if_neg]; rintro ⟨c, hc, _⟩; cases hc) hA (Ex.refl H)
  | cons c s' =>
    rw [if_pos (fun h => by have := i1.mp h; cases this)]
    refine ⟨sl_len (by omega), c, atI_nat hA.get, c, rfl, ?_⟩
    by_cases hc : c ∈ fig
    · rw [if_pos hc]
      have em : many1 (c :: s') = numM (c :: s') := by unfold many1; rw [if_pos ⟨c, rfl, hc⟩]
      refine ⟨x, c :: s', a, rfl, hA, hx, ⟨c, rfl, hc⟩, ?_⟩
      cases hm : numM (c :: s') with
      | none =>
        have e3 : termM (c :: s') = none := by unfold termM; rw [em, hm]; rfl
        rw [e3] at q; exact q
      | some v =>
        obtain ⟨v, s2⟩ := v
        intro p a' hp hA'
        refine ⟨p, rfl, _, tsq upd_same, rfl, _, _, rfl, _, _, rfl, rfl, ?_⟩
        exact k3 _ v s2 a' (by rw [em, hm]) hA' (Ex.new hp)
    · rw [if_neg hc]
      exact k3 H 1 (c :: s') a (by unfold many1; rw [if_neg]; rintro ⟨d, hd, h2⟩; cases hd; exact hc h2) hA (Ex.refl H)
end My
namespace My
open PySem PySem.Spec PyProof.Rows L2
theorem ok_read {P : Program} {w : World} {K : PySem.W.Frag} {mg : Str → Option Value} {base : Heap} {XNoText : Addr}
    (F : Fa K mg "read" ["text"] s_read)
    (b_len : mg "len" = none)
    (b_isinstance : mg "isinstance" = none)
    (b_str : mg "str" = none)
    (b_sorted : mg "sorted" = none)
    (g_MOST_SIGNS : ∃ t, mg "MOST_SIGNS" = some (.int 200 t))
    (X_NoText : Xc K mg "NoText" XNoText)
    (D_past_blanks : Dn P w K mg base CX0 "past_blanks" ["text", "at"] 2 (sp_past_blanks K))
    (D_term_at : Dn P w K mg base (L2.CX P w) "term_at" ["text", "at"] 4 (sp_term_at K XNoText))
    : Dn P w K mg base (L2.CX P w) "read" ["text"] 5 (sp_read K XNoText) := by
  obtain ⟨f, fd, F⟩ := F
  obtain ⟨t_MOST_SIGNS, g_MOST_SIGNS⟩ := g_MOST_SIGNS
  obtain ⟨_, _, D_past_blanks⟩ := D_past_blanks
  obtain ⟨_, _, D_term_at⟩ := D_term_at
  refine ⟨f, fd, F.g, F.F.kp, F.b, ?_⟩
  refine F.F.okX sc_read (fun vs H Q E h => by obtain ⟨_, rfl, _⟩ := h; rfl) (fun cdv A outer s H vs Q E hr h => ?_)
  obtain ⟨x, rfl, h⟩ := h
  refine ⟨_, (pss_cons (ps_if (PW.pt (pw_or (pt_not (pt_val (pe_callB (call_isiK (K := K)) (by rfl) b_isinstance (by decide +kernel) (pa_cons (pv 0) (pa_cons (pe_bltn (v := .ty "str") (u := .type "str") (by rfl) b_str (by decide +kernel) rfl) pa_nil))))) (pw_or1 (pt_cmpR op_gt (pe_callB call_len_str (by rfl) b_len (by decide +kernel) (pa_cons (pv 0) pa_nil)) (pe_glob (v := .int 200) rfl g_MOST_SIGNS ⟨_, rfl⟩) (nomark _))))) (pss_one (ps_raise rfl (takes_of rfl rfl rfl rfl) (pmk_own PySem.F.excBase_ValueError X_NoText.x X_NoText.g X_NoText.k (raises_own X_NoText.b X_NoText.t) (by rfl)))) pss_nil)
      (pss_cons (ps_if (pt_cmpR op_eq (pe_bmK (K := K) PySem.F.plainAttrs_str PySem.F.slot_str_strip PySem.F.type_str_strip mt_stripChars (pv 0) (pa_cons pe_str pa_nil)) pe_str (nomark _)) (pss_one (ps_ret (pe_lst pa_nil))) pss_nil)
      (pss_cons (ps_set (i := 1) sc_read.nd rfl (.inr rfl) pe_dnewK)
      (pss_cons (ps_set (i := 2) sc_read.nd rfl (.inl rfl) (pe_call D_past_blanks.G (hr.mono (by decide)) (by rfl) D_past_blanks.g D_past_blanks.kp D_past_blanks.b .nil pass0 (pa_cons (pv 0) (pa_cons pe_int pa_nil))))
      (pss_cons (ps_set (i := 3) sc_read.nd rfl (.inl rfl) pe_int)
      (pss_cons (ps_if (pt_cmpR op_eq (pe_slice sl_str (pv 0) (po_some (pv 2)) (po_some (pe_op op_add (pv 2) pe_int))) pe_str (nomark _)) (pss_cons (ps_set (i := 3) sc_read.nd rfl (.inl rfl) (pe_un un_neg pe_int))
        (pss_one (ps_set (i := 2) sc_read.nd rfl (.inl rfl) (pe_call D_past_blanks.G (hr.mono (by decide)) (by rfl) D_past_blanks.g D_past_blanks.kp D_past_blanks.b .nil pass0 (pa_cons (pv 0) (pa_cons (pe_op op_add (pv 2) pe_int) pa_nil)))))) pss_nil)
      (pss_cons (ps_asg (pe_call D_term_at.G (hr.mono (by decide)) (by rfl) D_term_at.g D_term_at.kp D_term_at.b .nil passX (pa_cons (pv 0) (pa_cons (pv 2) pa_nil))) (pg_tupK (K := K) (n := 3) rfl (pgs_cons (pg_name (i := 4) sc_read.nd rfl (.inl rfl)) (pgs_cons (pg_name (i := 5) sc_read.nd rfl (.inl rfl)) (pgs_cons (pg_name (i := 2) sc_read.nd rfl (.inl rfl)) pgs_nil)))))
      (pss_cons (ps_dput (hu_of hr) (pv 1) (pv 4) (pe_op op_mul (pv 3) (pv 5)) rfl)
      (pss_cons (ps_while (passes_of rfl) (pt_cmpR op_lt (pv 2) (pe_callB call_len_str (by rfl) b_len (by decide +kernel) (pa_cons (pv 0) pa_nil)) (nomark _))
        (pss_cons (ps_if (PW.pt (pw_and (pt_cmpR op_ne (pe_ix ix_str (pv 0) (pv 2) (fun _ _ => rfl)) pe_str (nomark _)) (pw_and1 (pt_cmpR op_ne (pe_ix ix_str (pv 0) (pv 2) (fun _ _ => rfl)) pe_str (nomark _))))) (pss_one (ps_raise rfl (takes_of rfl rfl rfl rfl) (pmk_own PySem.F.excBase_ValueError X_NoText.x X_NoText.g X_NoText.k (raises_own X_NoText.b X_NoText.t) (by rfl)))) pss_nil)
        (pss_cons (ps_set (i := 3) sc_read.nd rfl (.inl rfl) pe_int)
        (pss_cons (ps_if (pt_cmpR op_eq (pe_ix ix_str (pv 0) (pv 2) (fun _ _ => rfl)) pe_str (nomark _)) (pss_one (ps_set (i := 3) sc_read.nd rfl (.inl rfl) (pe_un un_neg pe_int))) pss_nil)
        (pss_cons (ps_asg (pe_call D_term_at.G (hr.mono (by decide)) (by rfl) D_term_at.g D_term_at.kp D_term_at.b .nil passX (pa_cons (pv 0) (pa_cons (pe_call D_past_blanks.G (hr.mono (by decide)) (by rfl) D_past_blanks.g D_past_blanks.kp D_past_blanks.b .nil pass0 (pa_cons (pv 0) (pa_cons (pe_op op_add (pv 2) pe_int) pa_nil))) pa_nil))) (pg_tupK (K := K) (n := 3) rfl (pgs_cons (pg_name (i := 4) sc_read.nd rfl (.inl rfl)) (pgs_cons (pg_name (i := 5) sc_read.nd rfl (.inl rfl)) (pgs_cons (pg_name (i := 2) sc_read.nd rfl (.inl rfl)) pgs_nil)))))
        (pss_one (ps_dput (hu_of hr) (pv 1) (pv 4) (pe_op op_add (pe_dget2 (hu_of hr) (pv 1) (pv 4) pe_int (by constructor <;> rfl)) (pe_op op_mul (pv 3) (pv 5))) rfl)))))))
      (pss_one (ps_ret (pe_lc (own := [("name", 4)]) (g := gName 4) (by rfl) sc_read.nd (pi_listK (K := K) (pe_callB (call_sortedD rfl) (by rfl) b_sorted (by decide +kernel) (pa_cons (pv 1) pa_nil))) (blkOk_by (own := [("name", 4)]) (N := N_read) (sc := defScope s_read) (by decide +kernel)) (fun _ _ _ _ _ => pg_name (i := 4) sc_read.nd rfl (Or.inl rfl)) (fun _ _ _ _ _ => pts_one (pt_cmpR op_ne (pe_dget (hu_of hr) (pv 1) (pv 4) (fun _ _ => rfl)) pe_int (nomark _))) (fun _ _ _ _ _ => (pe_tup (pa_cons (pv 4) (pa_cons (pe_dget (hu_of hr) (pv 1) (pv 4) (fun _ _ => rfl)) pa_nil)))))))))))))))), ?_⟩
  obtain ⟨hx, q⟩ := h
  refine _root_.My.sq fun R1 k1 => ?_
  kwd_rel
  refine isi_str (b := true) (by decide +kernel) ⟨true, rfl, ?_⟩
  rw [if_neg (fun h => by cases h)]
  refine ⟨sl_len hx, ?_⟩
  by_cases h200 : x.length > 200
  · rw [if_pos (by omega)]
    have e : readM x = none := by unfold readM; rw [if_pos h200]
    rw [e] at q; exact q H (Ex.refl H)
  rw [if_neg (by omega)]
  refine k1 _ _ (_root_.My.sq fun R2 k2 => ?_)
  clear k1
  kwd_rel
  refine ⟨ty_str, sl_len hx, ?_⟩
  rw [strip_T]
  by_cases h48 : strip32 x = [48]
  · rw [if_pos (T_inj.mpr h48)]
    have e : readM x = some [] := by unfold readM; rw [if_neg h200, if_pos h48]
    rw [e] at q
    exact ⟨by decide, fun p hp => q.2 _ p [] hp (Ex.new hp) ⟨[], ⟨.nil, .nil⟩, rfl⟩ ⟨[], upd_same, .nil⟩⟩
  rw [if_neg (fun h => h48 (T_inj.mp h))]
  have hr : readM x = termsM x := by unfold readM; rw [if_neg h200, if_neg h48]
  rw [hr] at q
  refine k2 _ _ (_root_.My.sq fun R3 k3 => ?_)
  clear k2
  kwd_rel
  intro d hd
  refine k3 _ _ (_root_.My.sq fun R4 k4 => ?_)
  clear k3
  kwd_rel
  refine ⟨x, x, 0, rfl, At.z, by omega, fun a1 hA1 => ?_⟩
  refine k4 _ _ (_root_.My.sq fun R5 k5 => ?_)
  clear k4
  kwd_rel
  refine k5 _ _ (_root_.My.sq fun R6 k6 => ?_)
  clear k5
  have k7 : ∀ (a2 : Nat) (s2 : C) (sg : Int), firstM (rs [32] x) = (sg, s2) → At x a2 s2 → (sg = 1 ∨ sg = -1) → R6 [some (.str (T x)), some (.ref d), some (.int (a2 : Int)), some (.int sg), none, none] (upd H d (.dK [])) := by
    intro a2 s2 sg hf hA2 hsg
    have q1 : termsM x = (termM s2).bind fun f => (loopM f.2.2.length f.2.2).map fun l => (f.1, sg * f.2.1) :: l := by unfold termsM; rw [hf]
    refine k6 _ _ (_root_.My.sq fun R7 k7 => ?_)
    clear k6
    kwd_rel
    refine ⟨x, s2, a2, rfl, hA2, by omega, ?_⟩
    cases hm : termM s2 with
    | none =>
      have e3 : termsM x = none := by rw [q1, hm]; rfl
      rw [e3] at q
      exact fun H' e => q H' ((Ex.new hd).trans e)
    | some v =>
      obtain ⟨n1, v1, s3⟩ := v
      intro H1 p a3 hp e hp2 hA3
      refine ⟨p, rfl, _, tsq hp2, rfl, _, _, rfl, _, _, rfl, _, _, rfl, rfl, ?_⟩
      have q2 : termsM x = (loopM s3.length s3).map fun l => [(n1, sg * v1)] ++ l := by rw [q1, hm]; rfl
      have hd1 : H1 d = some (.dK []) := e d _ upd_same
      have eH : Ex H H1 := (Ex.new hd).trans e
      have ls := termM_len hm
      have la := hA2.len
      refine k7 _ _ (_root_.My.sq fun R8 k8 => ?_)
      clear k7
      kwd_rel
      refine ⟨.inl (by omega), _, DPut.k (k := Sum.inr (T n1)) hd1 (by decide), ?_⟩
      rw [← held_one]
      refine k8 _ _ (_root_.My.sq fun R9 k9 => ?_)
      clear k8
      have k10 : ∀ (b : Nat) (done : List (C × Int)) (v3 v4 v5 : Option V) (H2 : Hp), Lp x d H H2 b [] done → R9 [some (.str (T x)), some (.ref d), some (.int (b : Int)), v3, v4, v5] H2 := by
        intro b done v3 v4 v5 H2 hL
        have q3 : termsM x = some done := by rw [hL.all, loopM_nil]; simp
        rw [q3] at q
        refine k9 _ _ ?_
        kwd_rel
        have hks : (hK (held done)).map (fun x => x.fst) = (((held done).map (·.1)).map T).map Sum.inr := by
          unfold hK; simp [List.map_map, Function.comp_def]
        refine ⟨_, rfl, d, rfl, _, .inl hL.dk, ((held done).map (·.1)).map T, hks, by rw [List.length_map, List.length_map]; exact q.1, fun ys0 p1 pm so hp1 => ?_⟩
        obtain ⟨ys, rfl, pm2⟩ := unT pm
        have ho : Ord ((held done).map (·.1)) ys := ⟨pm2, sorted_pair ys so⟩
        rw [show List.map V.str (List.map T ys) = ys.map tV by rw [List.map_map]; rfl]
        have hls : (upd H2 p1 (.lst (ys.map tV))) p1 = some (.lst (ys.map tV)) := upd_same
        have e4 : Ex H2 (upd H2 p1 (.lst (ys.map tV))) := Ex.new hp1
        generalize upd H2 p1 (.lst (ys.map tV)) = H4 at *
        refine ⟨p1, rfl, ⟨_, lsq hls⟩, fun D hD => ?_⟩
        refine lc_list (K := K) (xs := ys.map tV) (fun i H' => PL H' D (pairsOf (held done) (ys.take i)) ∧ Ex H4 H') ⟨⟨[], upd_same, .nil⟩, Ex.new hD⟩ (fun i H' _ hp => lsq (hp.2 _ _ hls)) (fun i z H' hz hp => ?_) (fun H' hp => ?_)
        · obtain ⟨⟨rs, r1, r2⟩, r3⟩ := hp
          rw [List.getElem?_map, Option.map_eq_some_iff] at hz
          obtain ⟨n, hn, rfl⟩ := hz
          have hd4 : H' d = some (.dK (hK (held done))) := r3 _ _ (e4 _ _ hL.dk)
          have hmem : n ∈ (held done).map (·.1) := ho.perm.mem_iff.mp (List.mem_of_getElem? hn)
          have hv : valV (hK (held done)) (Sum.inr (T n)) = some (.int (hget (held done) n)) := by rw [hK_find, hget_mem hmem]; rfl
          kwd_rel
          have hg : DGet H' d (tV n) (some (.int (hget (held done) n))) := by
            have := DGet.k (k := Sum.inr (T n)) hd4
            rw [hv] at this; exact this
          refine ⟨_, hg, rfl, ?_⟩
          by_cases hz : hget (held done) n = 0
          · rw [if_neg (fun h => h (by rw [hz]))]
            refine ⟨?_, r3⟩
            rw [pairs_take hn, if_neg (fun h => h hz), List.append_nil]; exact ⟨rs, r1, r2⟩
          · rw [if_pos (fun h => hz (V.int.inj h))]
            refine ⟨_, hg, by decide, fun pt hpt => ⟨rs.map V.ref, ?_, ?_, ?_, ?_⟩⟩
            · rw [upd_ne (ne_of_none r1 hpt)]; exact r1
            · rw [List.length_map, r2.length]
              have l1 := pairs_len (held done) (ys.take i)
              have l2 : (ys.take i).length ≤ i := by rw [List.length_take]; omega
              have l3 := (List.getElem?_eq_some_iff.mp hn).1
              have l4 := ho.perm.length_eq
              rw [List.length_map] at l4
              have l5 := q.1
              exact sl_lt (by omega)
            · rw [pairs_take hn, if_pos hz]
              exact PL.snoc r2 r1 hpt
            · exact (r3.trans (Ex.new hpt)).put hD
        · rw [List.length_map] at hp
          have ht : ys.take ys.length = ys := List.take_length
          rw [ht] at hp
          exact q.2 H' D _ (((hL.ex.trans e4)).free hD) ((hL.ex.trans e4).trans hp.2) ⟨ys, ho, rfl⟩ hp.1
      clear k9
      refine ⟨fun m σ H2 => ∃ (b : Nat) (s : C) (done : List (C × Int)) (v3 v4 v5 : Option V), σ = [some (.str (T x)), some (.ref d), some (.int (b : Int)), v3, v4, v5] ∧ Lp x d H H2 b s done ∧ m = s.length, ⟨_, a3, s3, [(n1, sg * v1)], _, _, _, rfl, ⟨hA3, upd_same, eH.put hd, q2, by simp; omega⟩, rfl⟩, ?_⟩
      rintro m σ H2 ⟨b, s, done, v3, v4, v5, rfl, hL, rfl⟩
      have hl := hL.at_.len
      kwd_rel
      refine ⟨sl_len hx, ?_⟩
      cases s with
      | nil =>
        rw [if_neg (by simp at hl; omega)]
        exact k10 b done v3 v4 v5 H2 hL
      | cons c s =>
        rw [if_pos (by simp at hl; omega)]
        refine ⟨_, fun _ _ h => h, ?_⟩
        refine _root_.My.sq fun B1 b1 => ?_
        have hB1 : c = 43 ∨ c = 45 → B1 [some (.str (T x)), some (.ref d), some (.int (b : Int)), v3, v4, v5] H2 := by
          intro hc
          refine b1 _ _ (_root_.My.sq fun B2 b2 => ?_)
          clear b1
          kwd_rel
          refine b2 _ _ (_root_.My.sq fun B3 b3 => ?_)
          clear b2
          have hB3 : B3 [some (.str (T x)), some (.ref d), some (.int (b : Int)), some (.int (by_ c)), v4, v5] H2 := by
            refine b3 _ _ (_root_.My.sq fun B4 b4 => ?_)
            clear b3
            kwd_rel
            refine ⟨x, s, b + 1, rfl, hL.at_.next, by omega, fun a4 hA4 => ⟨x, rs [32] s, a4, rfl, hA4, by omega, ?_⟩⟩
            cases hm2 : termM (rs [32] s) with
            | none =>
              have e3 : termsM x = none := by
                rw [hL.all]
                show (loopM (s.length + 1) (c :: s)).map _ = _
                rw [loopM_cons, if_pos hc, hm2]; rfl
              rw [e3] at q
              exact fun H' e => q H' (hL.ex.trans e)
            | some v =>
              obtain ⟨n2, v2, s4⟩ := v
              intro H3 p2 a5 hp3 e2 hp4 hA5
              refine ⟨p2, rfl, _, tsq hp4, rfl, _, _, rfl, _, _, rfl, _, _, rfl, rfl, ?_⟩
              have hd3 : H3 d = some (.dK (hK (held done))) := e2 d _ hL.dk
              have hlen : (hK (held done)).length < sizeLine := by
                rw [hK_len]
                have := held_len done
                have := hL.len
                exact sl_lt (by omega)
              refine b4 _ _ ?_
              kwd_rel
              refine ⟨.inl ⟨_, .inl hd3⟩, _, DGet.k (k := Sum.inr (T n2)) hd3, ?_⟩
              rw [hD_val]
              have l1 := termM_len hm2
              have l2 := rs_len [32] s
              have l3 := hL.len
              refine ⟨.inl (by rcases by_two c with h | h <;> rw [h] <;> decide), _, rfl, _, DPut.k (k := Sum.inr (T n2)) hd3 hlen, s4.length, by omega, a5, ⟨rfl, _, rfl⟩, s4, ⟨done ++ [(n2, by_ c * v2)], hA5, ?_, (hL.ex.trans e2).put hd, ?_, ?_⟩, rfl⟩
              · rw [upd_same, hK_put, held_add]; rfl
              · rw [hL.all, loopM_step hc hm2, Option.map_map]
                congr 1
                funext l
                show done ++ ((n2, by_ c * v2) :: l) = (done ++ [(n2, by_ c * v2)]) ++ l
                simp
              · simp at l3 ⊢; omega
          kwd_rel
          refine ⟨sl_len hx, c, atI_nat hL.at_.get, ?_⟩
          by_cases h5 : c = 45
          · rw [if_pos (T1_iff.mpr h5)]
            have : by_ c = -1 := by unfold by_; rw [if_pos h5]
            rw [this] at hB3; exact hB3
          · rw [if_neg (fun h => h5 (T1_iff.mp h))]
            have : by_ c = 1 := by unfold by_; rw [if_neg h5]
            rw [this] at hB3; exact hB3
        kwd_rel
        refine ⟨sl_len hx, c, atI_nat hL.at_.get, ?_⟩
        by_cases h3 : c = 43
        · rw [if_neg (fun h => h (T1_iff.mpr h3))]; exact hB1 (.inl h3)
        · rw [if_pos (fun h => h3 (T1_iff.mp h))]
          refine ⟨sl_len hx, c, atI_nat hL.at_.get, ?_⟩
          by_cases h5 : c = 45
          · rw [if_neg (fun h => h (T1_iff.mpr h5))]; exact hB1 (.inr h5)
          · rw [if_pos (fun h => h5 (T1_iff.mp h))]
            have e3 : termsM x = none := by
              rw [hL.all]
              show (loopM (s.length + 1) (c :: s)).map _ = _
              rw [loopM_cons, if_neg (by omega)]; rfl
            rw [e3] at q
            exact q H2 hL.ex
  clear k6
  kwd_rel
  refine ⟨sl_len hx, ?_⟩
  rw [hA1.cut1]
  by_cases h45 : (rs [32] x).head? = some 45
  · rw [if_pos (T_inj.mpr (take1_iff.mpr h45))]
    obtain ⟨s', hs⟩ : ∃ s', rs [32] x = 45 :: s' := by
      cases e : rs [32] x with
      | nil => rw [e] at h45; cases h45
      | cons d r => rw [e] at h45; cases h45; exact ⟨r, rfl⟩
    rw [hs] at hA1
    refine _root_.My.sq fun B1 b1 => ?_
    kwd_rel
    refine b1 _ _ ?_
    kwd_rel
    refine ⟨x, s', a1 + 1, rfl, hA1.next, by omega, fun a2 hA2 => ?_⟩
    refine k7 a2 _ (-1) ?_ hA2 (.inr rfl)
    unfold firstM; rw [if_pos h45, hs]; rfl
  · rw [if_neg (fun h => h45 (take1_iff.mp (T_inj.mp h)))]
    refine k7 a1 _ 1 ?_ hA1 (.inl rfl)
    unfold firstM; rw [if_neg h45]
end My
namespace My
open PySem PySem.Spec PyProof.Rows L2
theorem ok_shown {P : Program} {w : World} {K : PySem.W.Frag} {mg : Str → Option Value} {base : Heap}
    (F : Fa K mg "shown" ["pairs"] s_shown)
    (b_abs : mg "abs" = none)
    (b_str : mg "str" = none)
    : Dn P w K mg base CX0 "shown" ["pairs"] 1 (sp_shown K) := by
  obtain ⟨f, fd, F⟩ := F
  refine ⟨f, fd, F.g, F.F.kp, F.b, ?_⟩
  refine F.F.ok sc_shown (fun vs H Q E h => by obtain ⟨_, _, rfl, _⟩ := h; rfl) (fun cdv A outer s H vs Q E hr h => ?_)
  obtain ⟨p, l, rfl, h⟩ := h
  refine ⟨_, (pss_cons (ps_set (i := 1) sc_shown.nd rfl (.inl rfl) pe_str)
      (pss_cons (ps_for PassesOwn.never rfl (pi_listK (K := K) (pv 0)) (pg_tupK (K := K) (n := 2) rfl (pgs_cons (pg_name (i := 2) sc_shown.nd rfl (.inl rfl)) (pgs_cons (pg_name (i := 3) sc_shown.nd rfl (.inl rfl)) pgs_nil)))
        (pss_cons (ps_set (i := 4) sc_shown.nd rfl (.inl rfl) pe_str)
        (pss_cons (ps_if (pt_cmpR op_lt (pv 3) pe_int (nomark _)) (pss_one (ps_set (i := 4) sc_shown.nd rfl (.inl rfl) pe_str)) pss_nil)
        (pss_cons (ps_if (pt_cmpR op_eq (pv 1) pe_str (nomark _)) (pss_cons (ps_set (i := 4) sc_shown.nd rfl (.inl rfl) (pe_bmK (K := K) PySem.F.plainAttrs_str PySem.F.slot_str_strip PySem.F.type_str_strip mt_stripChars (pv 4) (pa_cons pe_str pa_nil)))
          (pss_one (ps_if (pt_cmpR op_eq (pv 4) pe_str (nomark _)) (pss_one (ps_set (i := 4) sc_shown.nd rfl (.inl rfl) pe_str)) (pss_one (ps_set (i := 4) sc_shown.nd rfl (.inl rfl) pe_str))))) pss_nil)
        (pss_cons (ps_set (i := 5) sc_shown.nd rfl (.inl rfl) (pv 2))
        (pss_cons (ps_if (pt_cmpR op_ne (pe_callB call_abs (by rfl) b_abs (by decide +kernel) (pa_cons (pv 3) pa_nil)) pe_int (nomark _)) (pss_one (ps_set (i := 5) sc_shown.nd rfl (.inl rfl) (pe_op op_add_str (pe_op op_add_str (pe_callTy call_str_int (by rfl) b_str (by decide +kernel) (pa_cons (pe_callB call_abs (by rfl) b_abs (by decide +kernel) (pa_cons (pv 3) pa_nil)) pa_nil)) pe_str) (pv 2)))) pss_nil)
        (pss_one (ps_set (i := 1) sc_shown.nd rfl (.inl rfl) (pe_op op_add_str (pe_op op_add_str (pv 1) (pv 4)) (pv 5))))))))))
      (pss_cons (ps_if (pt_cmpR op_eq (pv 1) pe_str (nomark _)) (pss_one (ps_ret pe_str)) pss_nil)
      (pss_one (ps_ret (pv 1)))))), ?_⟩
  obtain ⟨hpl, hok, hlen, q⟩ := h
  obtain ⟨rs, hp1, hp2⟩ := id hpl
  refine _root_.My.sq fun R1 k1 => ?_
  kwd_rel
  refine k1 _ _ (_root_.My.sq fun R2 k2 => ?_)
  clear k1
  refine ⟨_, rfl, p, rfl, ⟨_, lsq hp1⟩, for_list (K := K) (a := p) (xs := rs.map V.ref) (fun j σ H' => (∃ v2 v3 v4 v5, σ = [some (.ref p), some (.str (T (foldM (l.take j)))), v2, v3, v4, v5]) ∧ H' = H) ⟨⟨_, _, _, _, rfl⟩, rfl⟩ (fun j σ H' _ hp => by rw [hp.2]; exact lsq hp1) (fun j z σ H' hz hp => ?_) (fun σ H' hp => ?_)⟩
  · obtain ⟨⟨v2, v3, v4, v5, rfl⟩, rfl⟩ := hp
    rw [List.getElem?_map, Option.map_eq_some_iff] at hz
    obtain ⟨r, hr, rfl⟩ := hz
    obtain ⟨e, hle, hre⟩ := paired_get hp2 hr
    have hoke := hok e (List.mem_of_getElem? hle)
    have hfl : (foldM (l.take j)).length ≤ 312 * l.length := by
      have h1 := foldl_len (l := l.take j) (x := []) fun y hy => hok y (List.mem_of_mem_take hy)
      rw [List.length_take] at h1
      show ((l.take j).foldl addM []).length ≤ _
      simp at h1; omega
    have hst := foldM_take hle
    generalize foldM (l.take j) = x at *
    obtain ⟨nm, v⟩ := e
    have hbl := bareM_len hoke
    have hjl := joinM_len x v
    have hnl := hoke.1.le
    dsimp only at *
    kwd_rel
    refine ⟨_, tsq hre, rfl, _, _, rfl, _, _, rfl, rfl, ?_⟩
    refine _root_.My.sq fun B1 b1 => ?_
    kwd_rel
    refine b1 _ _ (_root_.My.sq fun B2 b2 => ?_)
    clear b1
    have h2 : ∀ jn : C, jn = (if v < 0 then [32, 45, 32] else [32, 43, 32]) → B2 [some (.ref p), some (.str (T x)), some (.str (T nm)), some (.int v), some (.str (T jn)), v5] H' := by
      intro jn hj
      refine b2 _ _ (_root_.My.sq fun B3 b3 => ?_)
      clear b2
      have h3 : ∀ jn : C, jn = joinM x v → B3 [some (.ref p), some (.str (T x)), some (.str (T nm)), some (.int v), some (.str (T jn)), v5] H' := by
        clear hj jn
        intro jn hj
        refine b3 _ _ (_root_.My.sq fun B4 b4 => ?_)
        clear b3
        kwd_rel
        refine b4 _ _ (_root_.My.sq fun B5 b5 => ?_)
        clear b4
        have h5 : ∀ bm : C, bm = bareM nm v → B5 [some (.ref p), some (.str (T x)), some (.str (T nm)), some (.int v), some (.str (T jn)), some (.str (T bm))] H' := by
          intro bm hb
          refine b5 _ _ ?_
          kwd_rel
          rw [← hj] at hjl
          rw [← hb] at hbl
          refine ⟨sl_len (by omega), sl_len (by rw [List.length_append]; omega), ?_⟩
          rw [hst, hj, hb]
          exact ⟨rfl, _, rfl⟩
        clear b5
        kwd_rel
        by_cases hn : v.natAbs = 1
        case neg =>
          rw [if_pos (fun q => hn (abs_one.mp q))]
          refine ⟨abs_log hoke.2.1 hoke.2.2, ?_⟩
          rw [str_abs]
          have hb : bareM nm v = _root_.TL.numL v.natAbs ++ 32 :: nm := by unfold bareM; rw [if_neg hn]
          rw [hb, List.length_append, List.length_cons] at hbl
          refine ⟨by rw [T_len]; exact sl_len (by omega), by rw [T_app, T_len, List.length_append]; exact sl_len (by simp only [List.length_cons, List.length_nil]; omega), ?_⟩
          simp only [T_app]
          exact h5 _ (by rw [hb]; simp)
        case pos =>
          rw [if_neg (fun q => q (abs_one.mpr hn))]
          exact h5 _ (by unfold bareM; rw [if_pos hn])
      clear b3
      have hj3 : jn.length = 3 := by rw [hj]; split <;> rfl
      kwd_rel
      split
      · rename_i hx
        refine _root_.My.sq fun C1 c1 => ?_
        kwd_rel
        refine ⟨ty_str, sl_len (by omega), ?_⟩
        rw [strip_T]
        refine c1 _ _ ?_
        clear c1
        kwd_rel
        by_cases hv : v < 0
        · rw [hj, if_pos hv, if_neg (by decide)]
          exact h3 _ (by unfold joinM; rw [if_pos hx, if_pos hv])
        · rw [hj, if_neg hv, if_pos (by decide)]
          exact h3 _ (by unfold joinM; rw [if_pos hx, if_neg hv])
      · rename_i hx
        exact h3 _ (by unfold joinM; rw [if_neg hx, hj])
    clear b2
    kwd_rel
    split
    · exact h2 _ (by rw [if_pos (by assumption)])
    · exact h2 _ (by rw [if_neg (by assumption)])
  · obtain ⟨⟨v2, v3, v4, v5, rfl⟩, rfl⟩ := hp
    have hl : l.take (rs.map V.ref).length = l := by rw [List.length_map, hp2.length, List.take_length]
    rw [hl]
    refine k2 _ _ (_root_.My.sq fun R3 k3 => ?_)
    clear k2
    kwd_rel
    split
    · rename_i hx
      unfold shownM at q
      rw [if_pos hx] at q
      exact q
    · rename_i hx
      unfold shownM at q
      rw [if_neg hx] at q
      refine k3 _ _ ?_
      kwd_rel
      exact q
end My
namespace My
open PySem PySem.Spec PyProof.Rows L2
theorem ok_law_e_shown {P : Program} {w : World} {K : PySem.W.Frag} {mg : Str → Option Value} {base : Heap}
    (F : Fa K mg "_law_e_shown" ["pairs"] s_law_e_shown)
    (b_int : mg "int" = none)
    (b_str : mg "str" = none)
    (b_abs : mg "abs" = none)
    : Dn P w K mg base CX0 "_law_e_shown" ["pairs"] 1 (sp_law_e_shown K) := by
  obtain ⟨f, fd, F⟩ := F
  refine ⟨f, fd, F.g, F.F.kp, F.b, ?_⟩
  refine F.F.ok sc_law_e_shown (fun vs H Q E h => by obtain ⟨_, _, rfl, _⟩ := h; rfl) (fun cdv A outer s H vs Q E hr h => ?_)
  obtain ⟨p, l, rfl, h⟩ := h
  refine ⟨_, (pss_cons (ps_set (i := 1) sc_law_e_shown.nd rfl (.inl rfl) pe_str)
      (pss_cons (ps_for PassesOwn.never rfl (pi_listK (K := K) (pv 0)) (pg_tupK (K := K) (n := 2) rfl (pgs_cons (pg_name (i := 2) sc_law_e_shown.nd rfl (.inl rfl)) (pgs_cons (pg_name (i := 3) sc_law_e_shown.nd rfl (.inl rfl)) pgs_nil)))
        (pss_cons (ps_set (i := 4) sc_law_e_shown.nd rfl (.inl rfl) (pe_ix (ix_listK (K := K)) (pe_lst (pa_cons pe_str (pa_cons pe_str pa_nil))) (pe_callTy call_int1 (by rfl) b_int (by decide +kernel) (pa_cons (pe_cmpR op_lt (pv 3) pe_int (nomark _)) pa_nil)) (fun _ _ => rfl)))
        (pss_cons (ps_set (i := 5) sc_law_e_shown.nd rfl (.inl rfl) (pe_op op_add_str (pe_op op_add_str pe_str (pv 4)) pe_str))
        (pss_cons (ps_if (pt_cmpR op_eq (pv 1) pe_str (nomark _)) (pss_one (ps_set (i := 5) sc_law_e_shown.nd rfl (.inl rfl) (pe_ix (ix_listK (K := K)) (pe_lst (pa_cons pe_str (pa_cons pe_str pa_nil))) (pe_callTy call_int1 (by rfl) b_int (by decide +kernel) (pa_cons (pe_cmpR op_lt (pv 3) pe_int (nomark _)) pa_nil)) (fun _ _ => rfl)))) pss_nil)
        (pss_one (ps_set (i := 1) sc_law_e_shown.nd rfl (.inl rfl) (pe_op op_add_str (pe_op op_add_str (pe_op op_add_str (pv 1) (pv 5)) (pe_ix (ix_listK (K := K)) (pe_lst (pa_cons (pe_op op_add_str (pe_callTy call_str_int (by rfl) b_str (by decide +kernel) (pa_cons (pe_callB call_abs (by rfl) b_abs (by decide +kernel) (pa_cons (pv 3) pa_nil)) pa_nil)) pe_str) (pa_cons pe_str pa_nil))) (pe_callTy call_int1 (by rfl) b_int (by decide +kernel) (pa_cons (pe_cmpR op_eq (pe_callB call_abs (by rfl) b_abs (by decide +kernel) (pa_cons (pv 3) pa_nil)) pe_int (nomark _)) pa_nil)) (fun _ _ => rfl))) (pv 2))))))))
      (pss_one (ps_ret (pe_ix (ix_listK (K := K)) (pe_lst (pa_cons (pv 1) (pa_cons pe_str pa_nil))) (pe_callTy call_int1 (by rfl) b_int (by decide +kernel) (pa_cons (pe_cmpR op_eq (pv 1) pe_str (nomark _)) pa_nil)) (fun _ _ => rfl)))))), ?_⟩
  obtain ⟨hpl, hok, hlen, q⟩ := h
  obtain ⟨rs, hp1, hp2⟩ := id hpl
  refine _root_.My.sq fun R1 k1 => ?_
  kwd_rel
  refine k1 _ _ (_root_.My.sq fun R2 k2 => ?_)
  clear k1
  refine ⟨_, rfl, p, rfl, ⟨_, lsq hp1⟩, for_list (K := K) (a := p) (xs := rs.map V.ref) (fun j σ H' => (∃ v2 v3 v4 v5, σ = [some (.ref p), some (.str (T (foldM (l.take j)))), v2, v3, v4, v5]) ∧ Ex H H') ⟨⟨_, _, _, _, rfl⟩, Ex.refl H⟩ (fun j σ H' _ hp => lsq (hp.2 _ _ hp1)) (fun j z σ H' hz hp => ?_) (fun σ H' hp => ?_)⟩
  · obtain ⟨⟨v2, v3, v4, v5, rfl⟩, ex⟩ := hp
    rw [List.getElem?_map, Option.map_eq_some_iff] at hz
    obtain ⟨r, hr, rfl⟩ := hz
    obtain ⟨e, hle, hre⟩ := paired_get hp2 hr
    have hoke := hok e (List.mem_of_getElem? hle)
    have hfl : (foldM (l.take j)).length ≤ 312 * l.length := by
      have h1 := foldl_len (l := l.take j) (x := []) fun y hy => hok y (List.mem_of_mem_take hy)
      rw [List.length_take] at h1
      show ((l.take j).foldl addM []).length ≤ _
      simp at h1; omega
    have hst := foldM_take hle
    generalize foldM (l.take j) = x at *
    obtain ⟨nm, v⟩ := e
    have hbl := bareM_len hoke
    have hjl := joinM_len x v
    have hnl := hoke.1.le
    have hnum := TL.numL_len (k := 300) (by decide) hoke.2.2
    dsimp only at *
    kwd_rel
    refine ⟨_, tsq (ex _ _ hre), rfl, _, _, rfl, _, _, rfl, rfl, ?_⟩
    refine _root_.My.sq fun B1 b1 => ?_
    kwd_rel
    refine ⟨by decide, fun p1 hp1' => .inr ?_⟩
    have ex1 := ex.trans (Ex.new (o := .lst [V.str (T [43]), V.str (T [45])]) hp1')
    have hsg : atI [V.str (T [43]), V.str (T [45])] (if v < 0 then (1 : Int) else 0) = some (.str (T [if v < 0 then 45 else 43])) := by
      split
      · exact ix1
      · exact ix0
    refine ⟨_, lsq upd_same, _, hsg, ?_⟩
    refine b1 _ _ (_root_.My.sq fun B2 b2 => ?_)
    clear b1
    generalize upd H' p1 (.lst [V.str (T [43]), V.str (T [45])]) = H1 at ex1 ⊢
    kwd_rel
    refine ⟨by decide, by decide, ?_⟩
    refine b2 _ _ (_root_.My.sq fun B3 b3 => ?_)
    clear b2
    have h3 : ∀ (v4 v5 : Option V) (jn : C) (H2 : Hp), jn = joinM x v → Ex H H2 → B3 [some (.ref p), some (.str (T x)), some (.str (T nm)), some (.int v), v4, some (.str (T jn))] H2 := by
      intro v4 v5 jn H2 hj ex2
      refine b3 _ _ ?_
      clear b3
      rw [← hj] at hjl
      kwd_rel
      rw [str_abs]
      obtain ⟨c, hc⟩ : ∃ c : C, c = if v.natAbs = 1 then [] else _root_.TL.numL v.natAbs ++ [32] := ⟨_, rfl⟩
      have hcl : c.length ≤ 301 := by rw [hc]; split <;> simp; omega
      refine ⟨sl_len (by omega), abs_log hoke.2.1 hoke.2.2, by rw [T_len]; exact sl_len (by omega), by decide, fun p2 hp2' => .inr ⟨_, lsq upd_same, .str (T c), ?_, _, rfl, by rw [List.length_append, T_len]; exact sl_len (by omega), by rw [T_app, T_len, List.length_append, List.length_append]; exact sl_len (by omega), ⟨?_, _, rfl⟩, ex2.trans (Ex.new hp2')⟩⟩
      · rw [T_app, hc]
        by_cases hn : v.natAbs = 1
        · rw [if_pos (abs_one.mpr hn), if_pos hn]; exact ix1
        · rw [if_neg (fun q => hn (abs_one.mp q)), if_neg hn]; exact ix0
      · rw [T_app, T_app, hst, hj, hc]
        unfold addM bareM
        split <;> simp
    clear b3
    kwd_rel
    split
    · rename_i hx
      refine ⟨by decide, fun p2 hp2' => .inr ?_⟩
      have hsg2 : atI [V.str (T []), V.str (T [45, 32])] (if v < 0 then (1 : Int) else 0) = some (.str (T (joinM x v))) := by
        unfold joinM
        rw [if_pos hx]
        split
        · exact ix1
        · exact ix0
      refine ⟨_, lsq upd_same, _, hsg2, ?_⟩
      exact h3 _ v5 _ _ rfl (ex1.trans (Ex.new hp2'))
    · rename_i hx
      refine h3 _ v5 _ _ ?_ ex1
      unfold joinM
      rw [if_neg hx]
      split <;> rfl
  · obtain ⟨⟨v2, v3, v4, v5, rfl⟩, ex⟩ := hp
    have hl : l.take (rs.map V.ref).length = l := by rw [List.length_map, hp2.length, List.take_length]
    rw [hl]
    refine k2 _ _ ?_
    clear k2
    kwd_rel
    refine ⟨by decide, fun p2 hp2' => .inr ⟨_, lsq upd_same, .str (T (shownM l)), ?_, q _ (ex.trans (Ex.new hp2'))⟩⟩
    unfold shownM
    split
    · exact ix1
    · exact ix0
end My
namespace My
open PySem PySem.Spec PyProof.Rows L2
theorem ok_law_e_number {P : Program} {w : World} {K : PySem.W.Frag} {mg : Str → Option Value} {base : Heap}
    (F : Fa K mg "_law_e_number" ["box"] s_law_e_number)
    (D_law_e_pick : Dn P w K mg base CX0 "_law_e_pick" ["box", "many"] 2 (sp_law_e_pick K))
    : Dn P w K mg base CX0 "_law_e_number" ["box"] 3 (sp_law_e_number K) := by
  obtain ⟨f, fd, F⟩ := F
  obtain ⟨_, _, D_law_e_pick⟩ := D_law_e_pick
  refine ⟨f, fd, F.g, F.F.kp, F.b, ?_⟩
  refine F.F.ok sc_law_e_number (fun vs H Q E h => by obtain ⟨_, _, _, _, rfl, _⟩ := h; rfl) (fun cdv A outer s H vs Q E hr h => ?_)
  obtain ⟨b, sc, ns, n, rfl, h⟩ := h
  refine ⟨_, (pss_cons (ps_set (i := 1) sc_law_e_number.nd rfl (.inl rfl) (pe_call D_law_e_pick.G (hr.mono (by decide)) (by rfl) D_law_e_pick.g D_law_e_pick.kp D_law_e_pick.b .nil pass0 (pa_cons (pv 0) (pa_cons pe_int pa_nil))))
      (pss_cons (ps_if (pt_cmpR op_lt (pv 1) pe_int (nomark _)) (pss_one (ps_ret (pe_op op_sub pe_int (pe_op op_mul pe_int (pv 1))))) pss_nil)
      (pss_cons (ps_set (i := 2) sc_law_e_number.nd rfl (.inl rfl) (pe_op op_pow pe_int pe_int))
      (pss_cons (ps_set (i := 3) sc_law_e_number.nd rfl (.inl rfl) (pe_ix (ix_listK (K := K)) (pe_lst (pa_cons pe_int (pa_cons pe_int (pa_cons (pe_op op_pow pe_int pe_int) (pa_cons (pe_op op_mulW (pe_op op_mulW (pe_op op_mulW (pe_op op_mulW (pe_op op_pow pe_int pe_int) (pv 2)) (pv 2)) (pv 2)) (pv 2)) pa_nil))))) (pe_op op_sub (pv 1) pe_int) (fun _ _ => rfl)))
      (pss_one (ps_ret (pe_op op_mulW (pe_op op_add (pv 3) (pe_call D_law_e_pick.G (hr.mono (by decide)) (by rfl) D_law_e_pick.g D_law_e_pick.kp D_law_e_pick.b .nil pass0 (pa_cons (pv 0) (pa_cons (pe_op op_mulW pe_int (pv 3)) pa_nil)))) (pe_op op_sub pe_int (pe_op op_mul pe_int (pe_call D_law_e_pick.G (hr.mono (by decide)) (by rfl) D_law_e_pick.g D_law_e_pick.kp D_law_e_pick.b .nil pass0 (pa_cons (pv 0) (pa_cons pe_int pa_nil)))))))))))), ?_⟩
  obtain ⟨hB, hn, q⟩ := h
  refine _root_.My.sq fun R1 k1 => ?_
  kwd_rel
  refine ⟨b, sc, ns, n, 6, rfl, hB, by omega, by decide, by decide, fun H1 way kb1 hB1 r0 r1 => ?_⟩
  refine k1 _ _ (_root_.My.sq fun R2 k2 => ?_)
  clear k1
  kwd_rel
  split
  · rename_i hw
    exact ⟨.inl (by decide), q _ _ (by omega) (by omega) kb1 (hB1.up (by omega))⟩
  refine k2 _ _ (_root_.My.sq fun R3 k3 => ?_)
  clear k2
  kwd_rel
  refine ⟨by decide, ?_⟩
  refine k3 _ _ (_root_.My.sq fun R4 k4 => ?_)
  clear k3
  kwd_rel
  refine ⟨by decide, by decide, by unfold CMulW; decide +kernel, by unfold CMulW; decide +kernel, by unfold CMulW; decide +kernel, by unfold CMulW; decide +kernel, by decide, fun p hp => ?_⟩
  obtain ⟨v, hv, v0, v1⟩ := at_ints (r := way - 2) (fun v => 1 ≤ v ∧ v ≤ 10 ^ 299) (xs := [1, 10, 10 ^ Int.toNat 59, 10 ^ Int.toNat 59 * 10 ^ Int.toNat 60 * 10 ^ Int.toNat 60 * 10 ^ Int.toNat 60 * 10 ^ Int.toNat 60]) (by decide +kernel) (by omega) (by show way - 2 < 4; omega)
  refine ⟨_, lsq upd_same, _, hv, ?_⟩
  have kb2 : Kb b H (upd H1 p (.lst [V.int 1, V.int 10, V.int (10 ^ Int.toNat 59), V.int (10 ^ Int.toNat 59 * 10 ^ Int.toNat 60 * 10 ^ Int.toNat 60 * 10 ^ Int.toNat 60 * 10 ^ Int.toNat 60)])) := kb1.new hp
  have hB2 := hB1.keep (Ex.new (o := .lst [V.int 1, V.int 10, V.int (10 ^ Int.toNat 59), V.int (10 ^ Int.toNat 59 * 10 ^ Int.toNat 60 * 10 ^ Int.toNat 60 * 10 ^ Int.toNat 60 * 10 ^ Int.toNat 60)]) hp)
  refine k4 _ _ ?_
  clear k4 hv
  generalize upd H1 p (.lst [V.int 1, V.int 10, V.int (10 ^ Int.toNat 59), V.int (10 ^ Int.toNat 59 * 10 ^ Int.toNat 60 * 10 ^ Int.toNat 60 * 10 ^ Int.toNat 60 * 10 ^ Int.toNat 60)]) = H2 at kb2 hB2 ⊢
  kwd_rel
  have hc9 : CMulW 9 v := by
    have h1 := log_lt (m := v) (k := 1000) (by omega) (Int.lt_of_le_of_lt v1 (by decide +kernel)) (by decide)
    have h2 : (Int.natAbs 9).log2 = 3 := by decide +kernel
    unfold CMulW
    rw [h2]; omega
  refine ⟨hc9, b, sc, ns, _, 9 * v, rfl, hB2, by omega, by omega, Nat.lt_trans (log_lt (m := 9 * v) (k := 1100) (by omega) (Int.lt_of_le_of_lt (show 9 * v ≤ 9 * 10 ^ 299 by omega) (by decide +kernel)) (by decide)) (by decide), fun H3 x kb3 hB3 x0 x1 => ?_⟩
  refine ⟨x, rfl, b, sc, ns, _, 2, rfl, hB3, by omega, by decide, by decide, fun H4 y kb4 hB4 y0 y1 => ?_⟩
  have hy : 1 - 2 * y = 1 ∨ 1 - 2 * y = -1 := by omega
  have hvx : v + x < 10 ^ 300 := by
    have : (10 : Int) ^ 300 = 10 * 10 ^ 299 := by decide +kernel
    omega
  refine ⟨y, rfl, .inl (by decide), ?_, q _ _ ?_ ?_ ((kb2.trans kb3).trans kb4) (hB4.up (by omega))⟩
  · unfold CMulW
    have h1 := log_lt (m := v + x) (k := 1000) (by omega) (Int.lt_trans hvx (by decide +kernel)) (by decide)
    have h2 : (1 - 2 * y).natAbs.log2 = 0 := by rcases hy with e | e <;> rw [e] <;> decide +kernel
    omega
  · rcases hy with e | e <;> rw [e] <;> omega
  · have e3 : ((v + x) * (1 - 2 * y)).natAbs = (v + x).natAbs := by rcases hy with e | e <;> rw [e] <;> omega
    rw [e3]
    have : ((v + x).natAbs : Int) < ((10 ^ 300 : Nat) : Int) := by
      have e4 : ((v + x).natAbs : Int) = v + x := by omega
      rw [e4]
      have e5 : ((10 ^ 300 : Nat) : Int) = 10 ^ 300 := by decide +kernel
      rw [e5]; exact hvx
    exact_mod_cast this
end My
namespace My
open PySem PySem.Spec PyProof.Rows L2
theorem ok_law_e_pairs {P : Program} {w : World} {K : PySem.W.Frag} {mg : Str → Option Value} {base : Heap}
    (F : Fa K mg "_law_e_pairs" ["box", "most"] s_law_e_pairs)
    (b_range : mg "range" = none)
    (D_law_e_pick : Dn P w K mg base CX0 "_law_e_pick" ["box", "many"] 2 (sp_law_e_pick K))
    (D_law_e_number : Dn P w K mg base CX0 "_law_e_number" ["box"] 3 (sp_law_e_number K))
    : Dn P w K mg base CX0 "_law_e_pairs" ["box", "most"] 4 (sp_law_e_pairs K) := by
  obtain ⟨f, fd, F⟩ := F
  obtain ⟨_, _, D_law_e_pick⟩ := D_law_e_pick
  obtain ⟨_, _, D_law_e_number⟩ := D_law_e_number
  refine ⟨f, fd, F.g, F.F.kp, F.b, ?_⟩
  refine F.F.ok sc_law_e_pairs (fun vs H Q E h => by obtain ⟨_, _, _, _, _, rfl, _⟩ := h; rfl) (fun cdv A outer s H vs Q E hr h => ?_)
  obtain ⟨b, sc, ns, n, m, rfl, h⟩ := h
  refine ⟨_, (pss_cons (ps_set (i := 2) sc_law_e_pairs.nd rfl (.inl rfl) pe_str)
      (pss_cons (ps_set (i := 3) sc_law_e_pairs.nd rfl (.inl rfl) (pe_lst pa_nil))
      (pss_cons (ps_for PassesOwn.never rfl (pi_range1 (by rfl) b_range (pa_cons (pv 1) pa_nil)) (pg_name (i := 4) sc_law_e_pairs.nd rfl (.inl rfl))
        (pss_cons (ps_set (i := 5) sc_law_e_pairs.nd rfl (.inl rfl) (pe_op op_mul_str (pe_ix ix_str (pe_slice sl_str (pv 2) po_none (po_some pe_int)) (pe_call D_law_e_pick.G (hr.mono (by decide)) (by rfl) D_law_e_pick.g D_law_e_pick.kp D_law_e_pick.b .nil pass0 (pa_cons (pv 0) (pa_cons pe_int pa_nil))) (fun _ _ => rfl)) (pe_call D_law_e_pick.G (hr.mono (by decide)) (by rfl) D_law_e_pick.g D_law_e_pick.kp D_law_e_pick.b .nil pass0 (pa_cons (pv 0) (pa_cons pe_int pa_nil)))))
        (pss_one (ps_expr (pe_bmK (K := K) PySem.F.plainAttrs_list PySem.F.slot_list_insert PySem.F.type_list_insert mt_insert (pv 3) (pa_cons (pe_call D_law_e_pick.G (hr.mono (by decide)) (by rfl) D_law_e_pick.g D_law_e_pick.kp D_law_e_pick.b .nil pass0 (pa_cons (pv 0) (pa_cons (pe_op op_add (pv 4) pe_int) pa_nil))) (pa_cons (pe_tup (pa_cons (pe_op op_add_str (pv 5) (pe_ix ix_str (pv 2) (pv 4) (fun _ _ => rfl))) (pa_cons (pe_call D_law_e_number.G (hr.mono (by decide)) (by rfl) D_law_e_number.g D_law_e_number.kp D_law_e_number.b .nil pass0 (pa_cons (pv 0) pa_nil)) pa_nil))) pa_nil)))))))
      (pss_one (ps_ret (pv 3)))))), ?_⟩
  obtain ⟨hB, hn, hm, q⟩ := h
  refine _root_.My.sq fun R1 k1 => ?_
  kwd_rel
  refine k1 _ _ (_root_.My.sq fun R2 k2 => ?_)
  clear k1
  kwd_rel
  refine ⟨by decide, fun p hp => k2 _ _ (_root_.My.sq fun R3 k3 => ?_)⟩
  clear k2
  refine ⟨_, rfl, (m : Int), rfl, by omega, by omega, ?_⟩
  refine for_range (n := ((m : Int)).toNat) (fun i σ H' => (∃ v4 v5, σ = [some (.ref b), some (.int (m : Int)), some (.str (T abc)), some (.ref p), v4, v5]) ∧ ∃ l : Tb, PL H' p l ∧ l.length = i ∧ (∀ e ∈ l, PairOk e) ∧ (l.map (·.1)).Nodup ∧ (∀ e ∈ l, ∃ c ∈ abc.take i, e.1.getLast? = some c) ∧ Kb b H H' ∧ Bx K b sc ns (n + 10 * i) H') ⟨⟨_, _, rfl⟩, [], ⟨[], upd_same, .nil⟩, rfl, (by simp), (by simp), (by simp), Kb.mut (Kb.refl b H) hp, hB.mut hp (Kb.refl b H) hB⟩ (fun i σ H' hi hpp => ?_) (fun σ H' hpp => ?_)
  · obtain ⟨⟨v4, v5, rfl⟩, l, hpl, hli, hok, hnd, hlast, kb, hB2⟩ := hpp
    refine _root_.My.sq fun B1 b1 => ?_
    kwd_rel
    have e25 : cutS (T abc) none (some (25 : Int)) = T (abc.take 25) := cutS_T0 (j := 25)
    rw [e25]
    have hi2 : i < m := by omega
    refine ⟨by decide, b, sc, ns, _, 25, rfl, hB2, by omega, by decide, by decide, fun H2 r kb2 hB3 r0 r1 => ⟨r, rfl, by decide, ?_⟩⟩
    obtain ⟨c, hc, hm1⟩ : ∃ c, atI (abc.take 25) r = some c ∧ c ∈ abc := ⟨_, at_i r0 (List.getElem?_eq_getElem (by show r.toNat < 25; omega)), List.mem_of_mem_take (List.getElem_mem _)⟩
    refine ⟨c, by rw [T_list]; exact hc, b, sc, ns, _, 7, rfl, hB3, by omega, by decide, by decide, fun H3 t kb3 hB4 t0 t1 => ⟨[c], rfl, t, rfl, t0, by omega, (by show 1 ≤ 1000; decide), ?_⟩⟩
    rw [List.flatten_replicate_singleton]
    refine b1 _ _ ?_
    clear b1
    kwd_rel
    have npb : p ≠ b := hB.ne hp
    obtain ⟨rs, g1, g2⟩ := id ((hpl.kb hB2 npb kb2).kb hB3 npb kb3)
    have hi26 : i < abc.length := by show i < 26; omega
    refine ⟨.inl ⟨rfl, _, .inl (.inl g1)⟩, b, sc, ns, _, _, rfl, hB4, by omega, by omega, Nat.lt_trans (log_lt (m := 0 + (i : Int) + 1) (k := 200) (by omega) (Int.lt_trans (show 0 + (i : Int) + 1 < 27 by omega) (by decide)) (by decide)) (by decide), fun H4 qv kb4 hB5 q0 q1 => ⟨by decide, abc[i], at_i (by omega) (by rw [show (0 + (i : Int)).toNat = i by omega]; exact List.getElem?_eq_getElem hi26), by rw [List.length_replicate]; exact sl_len (show t.toNat + 1 ≤ 100000 by omega), ?_⟩⟩
    have eT : T (List.replicate t.toNat c) ++ ({ cps := #[abc[i]] } : Str) = T (List.replicate t.toNat c ++ [abc[i]]) := T_app
    simp only [eT]
    obtain ⟨w, hw⟩ : ∃ w : C, w = List.replicate t.toNat c ++ [abc[i]] := ⟨_, rfl⟩
    rw [← hw]
    have hwok : NameOk w := by
      refine ⟨by rw [hw]; simp, by rw [hw]; simp; omega, fun x hx => ?_⟩
      rw [hw] at hx
      rcases List.mem_append.mp hx with hx | hx
      · rw [List.eq_of_mem_replicate hx]; exact hm1
      · rw [List.mem_singleton.mp hx]; exact List.getElem_mem _
    refine ⟨b, sc, ns, _, rfl, hB5, by omega, fun H5 v v0 v1 kb5 hB6 => ⟨by decide, fun pt hpt => ?_⟩⟩
    have hpl5 : PL H5 p l := PL.kb (K := K) (PL.kb (K := K) ⟨rs, g1, g2⟩ hB4 npb kb4) hB5 npb kb5
    obtain ⟨rs5, f1, f2⟩ := id hpl5
    have hpe := PL.ins (q := qv.toNat) (e := (w, v)) f1 f2 hpt
    have hkb := (((kb.trans kb2).trans kb3).trans kb4).trans kb5
    have hptH : H pt = none := Kb.free hkb (hB6.ne hpt) hpt
    have hper := ins_perm l qv.toNat ((w, v) : C × Int)
    refine ⟨_, qv, _, ⟨rfl, rfl⟩, by rw [upd_ne (ne_of_none f1 hpt)]; exact f1, by rw [List.length_map, f2.length]; exact sl_lt (by omega), q0, by omega, ⟨_, rfl⟩, _, hpe, by rw [hper.length_eq, List.length_cons, hli], ?_, ?_, ?_, (hkb.mut (o := .tup [.str (T w), .int v]) hptH).mut hp, hB.mut hp (hkb.mut (o := .tup [.str (T w), .int v]) hptH) (hB.mut hptH hkb (hB6.up (by omega)))⟩
    · intro e he
      rcases List.mem_cons.mp (hper.mem_iff.mp he) with rfl | he
      · exact ⟨hwok, v0, v1⟩
      · exact hok e he
    · refine ((hper.map (·.1)).nodup_iff).mpr ?_
      rw [List.map_cons, List.nodup_cons]
      refine ⟨fun hm => ?_, hnd⟩
      obtain ⟨e, he, hee⟩ := List.mem_map.mp hm
      obtain ⟨c', hc', hl'⟩ := hlast e he
      have hl2 : w.getLast? = some abc[i] := by rw [hw]; simp
      have hee2 : e.1 = w := hee
      rw [hee2, hl2] at hl'
      have : abc[i] = c' := Option.some.inj hl'
      rw [← this] at hc'
      obtain ⟨j', hj', hj2⟩ := List.mem_iff_getElem.mp hc'
      rw [List.getElem_take] at hj2
      rw [List.length_take] at hj'
      exact List.pairwise_iff_getElem.mp abc_nd j' i (by omega) hi26 (by omega) hj2
    · intro e he
      rcases List.mem_cons.mp (hper.mem_iff.mp he) with rfl | he
      · exact ⟨abc[i], List.mem_iff_getElem.mpr ⟨i, by rw [List.length_take]; omega, by rw [List.getElem_take]⟩, by show w.getLast? = _; rw [hw]; simp⟩
      · obtain ⟨c', hc', hl'⟩ := hlast e he
        refine ⟨c', ?_, hl'⟩
        rw [List.take_add_one]
        exact List.mem_append_left _ hc'
  · obtain ⟨⟨v4, v5, rfl⟩, l, hpl, hli, hok, hnd, hlast, kb, hB2⟩ := hpp
    refine k3 _ _ ?_
    kwd_rel
    exact q _ p l hp hpl (by omega) hok hnd kb (hB2.up (by omega))
end My
namespace My
open PySem PySem.Spec PyProof.Rows L2
theorem ok_law_e_right {P : Program} {w : World} {K : PySem.W.Frag} {mg : Str → Option Value} {base : Heap} {XNoText : Addr}
    (F : Fa K mg "_law_e_right" ["pairs"] s_law_e_right)
    (b_range : mg "range" = none)
    (b_list : mg "list" = none)
    (b_any : mg "any" = none)
    (b_len : mg "len" = none)
    (b_sorted : mg "sorted" = none)
    (b_isinstance : mg "isinstance" = none)
    (b_str : mg "str" = none)
    (b_abs : mg "abs" = none)
    (D_law_e_shown : Dn P w K mg base CX0 "_law_e_shown" ["pairs"] 1 (sp_law_e_shown K))
    (D_read : Dn P w K mg base (L2.CX P w) "read" ["text"] 5 (sp_read K XNoText))
    (D_shown : Dn P w K mg base CX0 "shown" ["pairs"] 1 (sp_shown K))
    : Dn P w K mg base CX0 "_law_e_right" ["pairs"] 6 (sp_law_e_right K) := by
  obtain ⟨f, fd, F⟩ := F
  obtain ⟨_, _, D_law_e_shown⟩ := D_law_e_shown
  obtain ⟨_, _, D_read⟩ := D_read
  obtain ⟨_, _, D_shown⟩ := D_shown
  refine ⟨f, fd, F.g, F.F.kp, F.b, ?_⟩
  refine F.F.ok sc_law_e_right (fun vs H Q E h => by obtain ⟨_, _, rfl, _⟩ := h; rfl) (fun cdv A outer s H vs Q E hr h => ?_)
  obtain ⟨p, l, rfl, h⟩ := h
  refine ⟨_, (pss_cons (ps_set (i := 1) sc_law_e_right.nd rfl (.inl rfl) (pe_call D_law_e_shown.G (hr.mono (by decide)) (by rfl) D_law_e_shown.g D_law_e_shown.kp D_law_e_shown.b .nil pass0 (pa_cons (pv 0) pa_nil)))
      (pss_cons (ps_for PassesOwn.never rfl (pi_range1 (by rfl) b_range (pa_cons pe_int pa_nil)) (pg_name (i := 2) sc_law_e_right.nd rfl (.inl rfl))
        (pss_cons (ps_set (i := 3) sc_law_e_right.nd rfl (.inl rfl) (pe_callTy (call_listK (K := K)) (by rfl) b_list (by decide +kernel) (pa_cons (pv 0) pa_nil)))
        (pss_cons (ps_set (i := 4) sc_law_e_right.nd rfl (.inl rfl) (pe_call D_shown.G (hr.mono (by decide)) (by rfl) D_shown.g D_shown.kp D_shown.b .nil pass0 (pa_cons (pv 3) pa_nil)))
        (pss_cons (ps_if (PW.pt (pw_or (pt_not (pt_val (pe_callB (call_isiK (K := K)) (by rfl) b_isinstance (by decide +kernel) (pa_cons (pv 4) (pa_cons (pe_bltn (v := .ty "str") (u := .type "str") (by rfl) b_str (by decide +kernel) rfl) pa_nil))))) (pw_or (pt_cmpR op_ne (pv 4) (pv 1) (nomark _)) (pw_or1 (pt_cmpR (op_neDK (K := K) hr.units) (pv 3) (pv 0) (nomark _)))))) (pss_one (ps_ret pe_bl)) pss_nil)
        (pss_one (ps_expr (pe_bm0K (K := K) PySem.F.plainAttrs_list PySem.F.slot_list_clear PySem.F.type_list_clear mt_clear (pv 3))))))))
      (pss_cons (ps_if (PW.pt (pw_or (pt_cmpR op_gt (pe_callB call_len_str (by rfl) b_len (by decide +kernel) (pa_cons (pv 1) pa_nil)) pe_int (nomark _)) (pw_or1 (pt_val (pe_callB (cr_anyK (K := K) rfl) (by rfl) b_any (by decide +kernel) (pa_cons (pe_lc (own := [("name", 5), ("many", 6)]) (by rfl) sc_law_e_right.nd (pi_listK (K := K) (pv 0)) (blkOk_by (own := [("name", 5), ("many", 6)]) (N := N_law_e_right) (sc := defScope s_law_e_right) (by decide +kernel)) (fun _ _ _ _ _ => (pg_tupK (K := K) (n := 2) rfl (pgs_cons (pg_name (i := 5) sc_law_e_right.nd rfl (.inl rfl)) (pgs_cons (pg_name (i := 6) sc_law_e_right.nd rfl (.inl rfl)) pgs_nil)))) (fun _ _ _ _ _ => pts_nil) (fun _ _ _ _ _ => (pe_cmpR op_ge (pe_callB call_abs (by rfl) b_abs (by decide +kernel) (pa_cons (pv 6) pa_nil)) (pe_op op_pow pe_int pe_int) (nomark _)))) pa_nil)))))) (pss_one (ps_ret pe_bl)) pss_nil)
      (pss_cons (ps_set (i := 7) sc_law_e_right.nd rfl (.inl rfl) (pe_call D_read.G (hr.mono (by decide)) (by rfl) D_read.g D_read.kp D_read.b .nil passL (pa_cons (pv 1) pa_nil)))
      (pss_cons (ps_set (i := 8) sc_law_e_right.nd rfl (.inl rfl) (pe_call D_shown.G (hr.mono (by decide)) (by rfl) D_shown.g D_shown.kp D_shown.b .nil pass0 (pa_cons (pv 7) pa_nil)))
      (pss_one (ps_ret (pe_and (pe_cmpR (op_eqDK (K := K) hr.units) (pv 7) (pe_callB (cr_sortedSI (K := K)) (by rfl) b_sorted (by decide +kernel) (pa_cons (pv 0) pa_nil)) (nomark _)) (pe_one (pe_or (pe_cmpR op_gt (pe_callB call_len_str (by rfl) b_len (by decide +kernel) (pa_cons (pv 8) pa_nil)) pe_int (nomark _)) (pe_one (pe_cmpR (op_eqDK (K := K) hr.units) (pe_call D_read.G (hr.mono (by decide)) (by rfl) D_read.g D_read.kp D_read.b .nil passL (pa_cons (pv 8) pa_nil)) (pv 7) (nomark _))))))))))))), ?_⟩
  obtain ⟨hpl, hok, hnd, hlen, q⟩ := h
  refine _root_.My.sq fun R1 k1 => ?_
  kwd_rel
  refine ⟨p, l, rfl, hpl, hok, by omega, fun H1 e1 => ?_⟩
  refine k1 _ _ (_root_.My.sq fun R2 k2 => ?_)
  clear k1
  refine ⟨2, rfl, by decide, by decide, ?_⟩
  refine for_range (n := 2) (fun i σ H' => (∃ v2 v3 v4 v5 v6 v7 v8, σ = [some (.ref p), some (.str (T (shownM l))), v2, v3, v4, v5, v6, v7, v8]) ∧ Ex H H') ⟨⟨_, _, _, _, _, _, _, rfl⟩, e1⟩ (fun i σ H' hi hp => ?_) (fun σ H' hp => ?_)
  · obtain ⟨⟨v2, v3, v4, v5, v6, v7, v8, rfl⟩, ex⟩ := hp
    obtain ⟨rs, hp1, hp2⟩ := id (hpl.keep ex)
    kwd_rel
    refine _root_.My.sq fun B1 b1 => ?_
    kwd_rel
    refine ⟨_, .inl (lsq hp1), fun p1 hf1 => ?_⟩
    have hpl1 : PL (upd H' p1 (.lst (rs.map V.ref))) p1 l := ⟨rs, upd_same, Paired.mapP hp2 fun r e z => by rw [upd_ne (ne_of_none z hf1)]; exact z⟩
    have ex1 := ex.trans (Ex.new (o := .lst (rs.map V.ref)) hf1)
    refine b1 _ _ (_root_.My.sq fun B2 b2 => ?_)
    clear b1
    have hl1 : (upd H' p1 (.lst (rs.map V.ref))) p1 = some (.lst (rs.map V.ref)) := upd_same
    have hfp : H p1 = none := ex.free hf1
    generalize upd H' p1 (.lst (rs.map V.ref)) = H2 at *
    kwd_rel
    refine ⟨p1, l, rfl, hpl1, hok, by omega, ?_⟩
    refine b2 _ _ (_root_.My.sq fun B3 b3 => ?_)
    clear b2
    kwd_rel
    have hnm : ∀ e ∈ l, NameOk e.1 := fun e he => (hok e he).1
    refine isi_str (b := true) (by decide +kernel) ⟨true, rfl, ?_⟩
    rw [if_neg (fun h => by cases h), if_neg (fun h => h trivial)]
    refine ⟨pD l, pD l, hpl1.dp, (hpl.keep ex1).dp, (pD_ok hnm).1, (pD_ok hnm).1, ?_⟩
    rw [(pD_ok hnm).2]
    refine ⟨false, rfl, ?_⟩
    rw [if_neg (fun h => by cases h)]
    refine b3 _ _ ?_
    clear b3
    kwd_rel
    exact ⟨.inl ⟨rfl, _, .inl (.inl hl1)⟩, ⟨_, hl1⟩, ⟨_, rfl⟩, ex1.put hfp⟩
  · obtain ⟨⟨v2, v3, v4, v5, v6, v7, v8, rfl⟩, ex⟩ := hp
    refine k2 _ _ (_root_.My.sq fun R3 k3 => ?_)
    clear k2
    have hsl := foldl_len (l := l) (x := []) hok
    have hsl2 : (shownM l).length ≤ 30000 := by
      unfold shownM
      split
      · decide
      · show (l.foldl addM []).length ≤ _
        simp at hsl; omega
    kwd_rel
    refine ⟨sl_len (by omega), ?_⟩
    split
    · exact q _ ex
    rename_i h200
    obtain ⟨rs, hp1, hp2⟩ := id (hpl.keep ex)
    refine ⟨_, rfl, p, rfl, ⟨_, lsq hp1⟩, fun D hD => ?_⟩
    refine lc_list (K := K) (xs := rs.map V.ref) (fun i H2 => Ex H' H2 ∧ H2 D = some (.lst (((l.take i).map fun e => decide (10 ^ 60 ≤ (if e.2 < 0 then -e.2 else e.2))).map V.bl))) ⟨Ex.new hD, upd_same⟩ (fun i H2 _ hpp => lsq (hpp.1 _ _ hp1)) (fun i z H2 hz hpp => ?_) (fun H2 hpp => ?_)
    · obtain ⟨ex2, hDD⟩ := hpp
      rw [List.getElem?_map, Option.map_eq_some_iff] at hz
      obtain ⟨r, hr, rfl⟩ := hz
      obtain ⟨e, hle, hre⟩ := paired_get hp2 hr
      kwd_rel
      refine ⟨_, tsq (ex2 _ _ hre), rfl, _, _, rfl, _, _, rfl, rfl, ?_⟩
      refine ⟨_, rfl, by decide, _, hDD, by rw [List.length_map, List.length_map, List.length_take]; exact sl_lt (by omega), ex2.put hD, ?_⟩
      rw [upd_same, List.take_add_one, hle, List.map_append, List.map_append]
      rfl
    · obtain ⟨ex2, hDD⟩ := hpp
      rw [List.length_map, hp2.length, List.take_length] at hDD
      have exD := ex.trans ex2
      refine ⟨D, _, rfl, lsq hDD, _, rfl, ?_⟩
      split
      · exact q _ exD
      rename_i hany
      have h60 : ∀ e ∈ l, NameOk e.1 ∧ e.2 ≠ 0 ∧ e.2.natAbs < 10 ^ 60 := by
        intro e he
        refine ⟨(hok e he).1, (hok e he).2.1, ?_⟩
        by_cases hb : (10 : Int) ^ 60 ≤ (if e.2 < 0 then -e.2 else e.2)
        · exfalso
          apply hany
          rw [List.any_eq_true]
          exact ⟨true, List.mem_map.mpr ⟨e, he, decide_eq_true hb⟩, rfl⟩
        · have e1 : (e.2.natAbs : Int) < ((10 ^ 60 : Nat) : Int) := by
            have e2 : (e.2.natAbs : Int) = if e.2 < 0 then -e.2 else e.2 := by split <;> omega
            rw [e2]
            have e3 : ((10 ^ 60 : Nat) : Int) = 10 ^ 60 := by decide +kernel
            rw [e3]; omega
          exact_mod_cast e1
      refine k3 _ _ (_root_.My.sq fun R4 k4 => ?_)
      clear k3
      kwd_rel
      refine ⟨shownM l, rfl, by omega, ?_⟩
      rw [shown_read h60 (by omega)]
      refine ⟨by rw [held_self hnd]; omega, fun H3 p2 m hf2 ex3 due hplm => ?_⟩
      obtain ⟨hper, hord, hself⟩ := due.self hnd (fun e he => (hok e he).2.1)
      have hokm : ∀ e ∈ m, PairOk e := fun e he => hok e (hper.mem_iff.mp he)
      have hlm := hper.length_eq
      refine k4 _ _ (_root_.My.sq fun R5 k5 => ?_)
      clear k4
      kwd_rel
      refine ⟨p2, m, rfl, hplm, hokm, by omega, ?_⟩
      refine k5 _ _ ?_
      clear k5
      kwd_rel
      have exE := exD.trans ex3
      obtain ⟨rs3, hp3, hp4⟩ := id (hpl.keep exE)
      refine ⟨p, rs3.map V.ref, kH H3, rfl, lsq hp3, paired_mem hp4, fun ys ps hso hpe hfs => ?_⟩
      obtain ⟨m2, due2, hpl2⟩ := PL.sort (a := p) hp4 hnd (fun e he => (hok e he).2.1) hso hpe hfs
      have hmm := due.same due2
      subst hmm
      have exF := exE.trans (Ex.new (o := .lst ys) hfs)
      have hplmF := hplm.keep (Ex.new (o := .lst ys) hfs)
      generalize upd H3 ps (.lst ys) = H4 at hpl2 exF hplmF ⊢
      have hnm : ∀ e ∈ m, NameOk e.1 := fun e he => (hokm e he).1
      have hsl3 := foldl_len (l := m) (x := []) hokm
      have hsl4 : (shownM m).length ≤ 30000 := by
        unfold shownM
        split
        · decide
        · show (m.foldl addM []).length ≤ _
          simp at hsl3; omega
      refine ⟨pD m, pD m, hplmF.dp, hpl2.dp, (pD_ok hnm).1, (pD_ok hnm).1, ?_⟩
      rw [(pD_ok hnm).2]
      refine ⟨true, rfl, ?_⟩
      rw [if_pos rfl]
      refine ⟨sl_len (by omega), ?_⟩
      split
      · exact q _ exF
      rename_i h2
      refine ⟨shownM m, rfl, by omega, ?_⟩
      rw [shown_read (fun e he => h60 e (hper.mem_iff.mp he)) (by omega)]
      have hndm : (m.map (·.1)).Nodup := (hper.map (·.1)).nodup_iff.mpr hnd
      refine ⟨by rw [held_self hndm]; omega, fun H5 p3 m3 hf3 ex5 due3 hpl3 => ?_⟩
      have hm3 := hself.same due3
      subst hm3
      refine ⟨pD m, pD m, hpl3.dp, (hplmF.keep ex5).dp, (pD_ok hnm).1, (pD_ok hnm).1, ?_⟩
      rw [(pD_ok hnm).2]
      exact q _ (exF.trans ex5)
end My
namespace My
open PySem PySem.Spec PyProof.Rows L2
theorem ok_law {P : Program} {w : World} {K : PySem.W.Frag} {mg : Str → Option Value} {base : Heap} {f : Addr} {fd : FuncData} {XNoText : Addr}
    (F : Fa0 K mg "law" ["script"] s_law f fd)
    (b_range : mg "range" = none)
    (b_all : mg "all" = none)
    (b_len : mg "len" = none)
    (D_law_e_right : Dn P w K mg base CX0 "_law_e_right" ["pairs"] 6 (sp_law_e_right K))
    (D_shown : Dn P w K mg base CX0 "shown" ["pairs"] 1 (sp_shown K))
    (D_law_e_pairs : Dn P w K mg base CX0 "_law_e_pairs" ["box", "most"] 4 (sp_law_e_pairs K))
    (D_read : Dn P w K mg base (L2.CX P w) "read" ["text"] 5 (sp_read K XNoText))
    (D_law_e_pick : Dn P w K mg base CX0 "_law_e_pick" ["box", "many"] 2 (sp_law_e_pick K))
    : FnOk P w K mg base CX0 7 f fd ["script"] (sp_law K) := by
  obtain ⟨_, _, D_law_e_right⟩ := D_law_e_right
  obtain ⟨_, _, D_shown⟩ := D_shown
  obtain ⟨_, _, D_law_e_pairs⟩ := D_law_e_pairs
  obtain ⟨_, _, D_read⟩ := D_read
  obtain ⟨_, _, D_law_e_pick⟩ := D_law_e_pick
  refine F.F.ok sc_law (fun vs H Q E h => by obtain ⟨_, _, rfl, _⟩ := h; rfl) (fun cdv A outer s H vs Q E hr h => ?_)
  obtain ⟨sc, ns, rfl, h⟩ := h
  refine ⟨_, (pss_cons (ps_set (i := 1) sc_law.nd rfl (.inl rfl) (pe_lst (pa_cons (pv 0) (pa_cons pe_int (pa_cons pe_int pa_nil)))))
      (pss_cons (ps_for PassesOwn.never rfl (pi_range1 (by rfl) b_range (pa_cons pe_int pa_nil)) (pg_name (i := 2) sc_law.nd rfl (.inl rfl))
        (pss_cons (ps_if (PW.pt (pw_and (pt_cmpR op_gt (pv 2) pe_int (nomark _)) (pw_and1 (pt_cmpR op_ge (pe_ix (ix_listK (K := K)) (pv 1) pe_int (fun _ _ => rfl)) (pe_callB (call_lenQ (K := K)) (by rfl) b_len (by decide +kernel) (pa_cons (pv 0) pa_nil)) (nomark _))))) (pss_one ps_break) pss_nil)
        (pss_one (ps_if (pt_not (pt_val (pe_call D_law_e_right.G (hr.mono (by decide)) (by rfl) D_law_e_right.g D_law_e_right.kp D_law_e_right.b .nil pass0 (pa_cons (pe_call D_law_e_pairs.G (hr.mono (by decide)) (by rfl) D_law_e_pairs.g D_law_e_pairs.kp D_law_e_pairs.b .nil pass0 (pa_cons (pv 1) (pa_cons (pe_call D_law_e_pick.G (hr.mono (by decide)) (by rfl) D_law_e_pick.g D_law_e_pick.kp D_law_e_pick.b .nil pass0 (pa_cons (pv 1) (pa_cons (pe_ix (ix_listK (K := K)) (pe_lst (pa_cons pe_int (pa_cons pe_int pa_nil))) (pe_call D_law_e_pick.G (hr.mono (by decide)) (by rfl) D_law_e_pick.g D_law_e_pick.kp D_law_e_pick.b .nil pass0 (pa_cons (pv 1) (pa_cons pe_int pa_nil))) (fun _ _ => rfl)) pa_nil))) pa_nil))) pa_nil)))) (pss_one (ps_ret pe_bl)) pss_nil))))
      (pss_cons (ps_set (i := 3) sc_law.nd rfl (.inl rfl) pe_str)
      (pss_cons (ps_for PassesOwn.never rfl (pi_listK (K := K) (pe_lst (pa_cons (pe_joinS rfl pe_str (pv 3)) (pa_cons (pe_op op_add_str pe_str (pe_joinS rfl pe_str (pv 3))) (pa_cons (pe_op op_add_str pe_str (pe_joinS rfl pe_str (pe_slice sl_str (pv 3) (po_some pe_int) po_none))) pa_nil))))) (pg_name (i := 4) sc_law.nd rfl (.inl rfl))
        (pss_one (ps_if (pt_cmpR op_ne (pe_call D_shown.G (hr.mono (by decide)) (by rfl) D_shown.g D_shown.kp D_shown.b .nil pass0 (pa_cons (pe_call D_read.G (hr.mono (by decide)) (by rfl) D_read.g D_read.kp D_read.b .nil passL (pa_cons (pv 4) pa_nil)) pa_nil)) (pv 4) (nomark _)) (pss_one (ps_ret pe_bl)) pss_nil)))
      (pss_one (ps_ret (pe_callB (cr_allK (K := K) rfl) (by rfl) b_all (by decide +kernel) (pa_cons (pe_lc (own := [("pairs", 5)]) (g := gName 5) (by rfl) sc_law.nd (pi_listK (K := K) (pe_lst (pa_cons (pe_lst pa_nil) (pa_cons (pe_lst (pa_cons (pe_tup (pa_cons pe_str (pa_cons (pe_un un_neg pe_int) pa_nil))) (pa_cons (pe_tup (pa_cons pe_str (pa_cons pe_int pa_nil))) pa_nil))) (pa_cons (pe_lst (pa_cons (pe_tup (pa_cons pe_str (pa_cons pe_int pa_nil))) (pa_cons (pe_tup (pa_cons pe_str (pa_cons (pe_un un_neg pe_int) pa_nil))) pa_nil))) pa_nil))))) (blkOk_by (own := [("pairs", 5)]) (N := N_law) (sc := defScope s_law) (by decide +kernel)) (fun _ _ _ _ _ => pg_name (i := 5) sc_law.nd rfl (Or.inl rfl)) (fun _ _ _ _ _ => pts_nil) (fun _ _ _ _ _ => (pe_call D_law_e_right.G (hr.mono (by decide)) (by rfl) D_law_e_right.g D_law_e_right.kp D_law_e_right.b .nil pass0 (pa_cons (pv 5) pa_nil)))) pa_nil)))))))), ?_⟩
  obtain ⟨hS, hns, q⟩ := h
  refine _root_.My.sq fun R1 k1 => ?_
  kwd_rel
  refine ⟨by decide, fun b hb => ?_⟩
  have hB0 : Bx K b sc ns 0 (upd H b (.lst [.ref sc, .int 0, .int 0])) := ⟨⟨0, 0, upd_same, by decide, by decide⟩, SqL.ex (Ex.new hb) hS, hns⟩
  generalize upd H b (.lst [.ref sc, .int 0, .int 0]) = H1 at hB0 ⊢
  refine k1 _ _ (_root_.My.sq fun R2 k2 => ?_)
  clear k1
  have fin : ∀ (v2 v3 v4 v5 : Option V) (H' : Hp), R2 [some (.ref sc), some (.ref b), v2, v3, v4, v5] H' := by
    intro v2 v3 v4 v5 H'
    refine k2 _ _ (_root_.My.sq fun R3 k3 => ?_)
    clear k2
    kwd_rel
    refine k3 _ _ (_root_.My.sq fun R4 k4 => ?_)
    clear k3
    refine for_lit ?_
    kwd_rel
    refine ⟨⟨_, rfl⟩, _, _, rfl, rfl, by decide, by decide, ?_⟩
    rw [jn1]
    refine ⟨⟨_, rfl⟩, _, _, rfl, rfl, by decide, by decide, ?_⟩
    rw [jn2]
    refine ⟨_, rfl, by decide +kernel, ⟨_, rfl⟩, by decide, ?_⟩
    rw [cut1]
    refine ⟨_, _, rfl, rfl, by decide, by decide, ?_⟩
    rw [jn3]
    refine ⟨_, rfl, by decide +kernel, by decide, fun p hp => ?_⟩
    simp only [T_app]
    refine ⟨⟨_, lsq upd_same⟩, ?_⟩
    have hu : (upd H' p (.lst [V.str (T (jnC [32, 43, 32] abc)), V.str (T ([45, 32] ++ jnC [32, 45, 32] abc)), V.str (T ([45, 32, 97, 32, 43, 32] ++ jnC [32, 43, 32] (abc.drop 1)))])) p = some (.lst [V.str (T (jnC [32, 43, 32] abc)), V.str (T ([45, 32] ++ jnC [32, 45, 32] abc)), V.str (T ([45, 32, 97, 32, 43, 32] ++ jnC [32, 43, 32] (abc.drop 1)))]) := upd_same
    generalize upd H' p (.lst [V.str (T (jnC [32, 43, 32] abc)), V.str (T ([45, 32] ++ jnC [32, 45, 32] abc)), V.str (T ([45, 32, 97, 32, 43, 32] ++ jnC [32, 43, 32] (abc.drop 1)))]) = H2 at hu ⊢
    refine for_list (K := K) (a := p) (xs := [V.str (T (jnC [32, 43, 32] abc)), V.str (T ([45, 32] ++ jnC [32, 45, 32] abc)), V.str (T ([45, 32, 97, 32, 43, 32] ++ jnC [32, 43, 32] (abc.drop 1)))]) (fun i σ H3 => (∃ v4 v5, σ = [some (.ref sc), some (.ref b), v2, some (.str (T abc)), v4, v5]) ∧ Ex H2 H3) ⟨⟨_, _, rfl⟩, Ex.refl _⟩ (fun j σ H3 _ hp => lsq (hp.2 _ _ hu)) (fun j z σ H3 hz hp => ?_) (fun σ H3 hp => ?_)
    · obtain ⟨⟨v4, v5, rfl⟩, ex⟩ := hp
      obtain ⟨x, l, hx, rfl⟩ : ∃ x l, Rnd x l ∧ z = .str (T x) := by
        match j, hz with
        | 0, hz => cases hz; exact ⟨_, _, rnd1, rfl⟩
        | 1, hz => cases hz; exact ⟨_, _, rnd2, rfl⟩
        | 2, hz => cases hz; exact ⟨_, _, rnd3, rfl⟩
        | _ + 3, hz => cases hz
      kwd_rel
      refine ⟨x, rfl, by have := hx.len; omega, ?_⟩
      rw [hx.rd]
      refine ⟨by rw [held_self hx.nd]; have := hx.ll; omega, fun H4 p2 m hf ex2 due hpl => ?_⟩
      have hm := hx.due due
      subst hm
      refine ⟨p2, m, rfl, hpl, hx.ok, by have := hx.ll; omega, ?_⟩
      rw [hx.tl]
      refine ⟨rfl, ?_⟩
      rw [if_neg (fun h => h rfl)]
      exact ⟨⟨_, rfl⟩, ex.trans ex2⟩
    · obtain ⟨⟨v4, v5, rfl⟩, ex⟩ := hp
      refine k4 _ _ ?_
      clear k4
      kwd_rel
      refine lc_lit ?_
      kwd_rel
      refine ⟨by decide, fun pa ha => ⟨by decide, fun t1 h1 => ⟨by decide, fun t2 h2 => ⟨by decide, fun pb hb => ⟨by decide, fun t3 h3 => ⟨by decide, fun t4 h4 => ⟨by decide, fun pc hc => ⟨by decide, fun pl hl => ?_⟩⟩⟩⟩⟩⟩⟩⟩
      have u_pa : (upd H3 pa (.lst [])) pa = some (.lst []) := upd_same
      have x_1 : Ex H3 (upd H3 pa (.lst [])) := Ex.new ha
      generalize upd H3 pa (.lst []) = G1 at u_pa x_1 h1 h2 hb h3 h4 hc hl ⊢
      have u_t1 : (upd G1 t1 (.tup [V.str (T [122, 122]), V.int (-1)])) t1 = some (.tup [V.str (T [122, 122]), V.int (-1)]) := upd_same
      have x_2 : Ex G1 (upd G1 t1 (.tup [V.str (T [122, 122]), V.int (-1)])) := Ex.new h1
      generalize upd G1 t1 (.tup [V.str (T [122, 122]), V.int (-1)]) = G2 at u_t1 x_2 h2 hb h3 h4 hc hl ⊢
      have u_t2 : (upd G2 t2 (.tup [V.str (T [97]), V.int 1])) t2 = some (.tup [V.str (T [97]), V.int 1]) := upd_same
      have x_3 : Ex G2 (upd G2 t2 (.tup [V.str (T [97]), V.int 1])) := Ex.new h2
      generalize upd G2 t2 (.tup [V.str (T [97]), V.int 1]) = G3 at u_t2 x_3 hb h3 h4 hc hl ⊢
      have u_pb : (upd G3 pb (.lst [V.ref t1, V.ref t2])) pb = some (.lst [V.ref t1, V.ref t2]) := upd_same
      have x_4 : Ex G3 (upd G3 pb (.lst [V.ref t1, V.ref t2])) := Ex.new hb
      generalize upd G3 pb (.lst [V.ref t1, V.ref t2]) = G4 at u_pb x_4 h3 h4 hc hl ⊢
      have u_t3 : (upd G4 t3 (.tup [V.str (T [98]), V.int 12])) t3 = some (.tup [V.str (T [98]), V.int 12]) := upd_same
      have x_5 : Ex G4 (upd G4 t3 (.tup [V.str (T [98]), V.int 12])) := Ex.new h3
      generalize upd G4 t3 (.tup [V.str (T [98]), V.int 12]) = G5 at u_t3 x_5 h4 hc hl ⊢
      have u_t4 : (upd G5 t4 (.tup [V.str (T [97]), V.int (-1)])) t4 = some (.tup [V.str (T [97]), V.int (-1)]) := upd_same
      have x_6 : Ex G5 (upd G5 t4 (.tup [V.str (T [97]), V.int (-1)])) := Ex.new h4
      generalize upd G5 t4 (.tup [V.str (T [97]), V.int (-1)]) = G6 at u_t4 x_6 hc hl ⊢
      have u_pc : (upd G6 pc (.lst [V.ref t3, V.ref t4])) pc = some (.lst [V.ref t3, V.ref t4]) := upd_same
      have x_7 : Ex G6 (upd G6 pc (.lst [V.ref t3, V.ref t4])) := Ex.new hc
      generalize upd G6 pc (.lst [V.ref t3, V.ref t4]) = G7 at u_pc x_7 hl ⊢
      have u_pl : (upd G7 pl (.lst [V.ref pa, V.ref pb, V.ref pc])) pl = some (.lst [V.ref pa, V.ref pb, V.ref pc]) := upd_same
      have x_8 : Ex G7 (upd G7 pl (.lst [V.ref pa, V.ref pb, V.ref pc])) := Ex.new hl
      generalize upd G7 pl (.lst [V.ref pa, V.ref pb, V.ref pc]) = G8 at u_pl x_8  ⊢
      refine ⟨⟨_, lsq u_pl⟩, fun D hD => ?_⟩
      have a1 : PL G8 pa [] := PL.keep ⟨[], u_pa, .nil⟩ ((((((x_2.trans x_3).trans x_4).trans x_5).trans x_6).trans x_7).trans x_8)
      have a2 : PL G8 pb [([122, 122], -1), ([97], 1)] := PL.keep (PL.two u_pb ((x_3.trans x_4) _ _ u_t1) (x_4 _ _ u_t2)) (((x_5.trans x_6).trans x_7).trans x_8)
      have a3 : PL G8 pc [([98], 12), ([97], -1)] := PL.keep (PL.two u_pc ((x_6.trans x_7) _ _ u_t3) (x_7 _ _ u_t4)) x_8
      refine lc_list (K := K) (a := pl) (xs := [V.ref pa, V.ref pb, V.ref pc]) (fun i H' => Ex G8 H' ∧ H' D = some (.lst (List.replicate i (V.bl true)))) ⟨Ex.new hD, upd_same⟩ (fun i H' _ hp => lsq (hp.1 _ _ u_pl)) (fun i z H' hz hp => ?_) (fun H' hp => ?_)
      · obtain ⟨p, l, rfl, hpl, hok, hnd, hll⟩ : ∃ p l, z = .ref p ∧ PL G8 p l ∧ (∀ e ∈ l, PairOk e) ∧ (l.map (·.1)).Nodup ∧ l.length ≤ 63 := by
          match i, hz with
          | 0, hz => cases hz; exact ⟨_, _, rfl, a1, by decide, by decide, by decide⟩
          | 1, hz => cases hz; exact ⟨_, _, rfl, a2, by decide +kernel, by decide, by decide⟩
          | 2, hz => cases hz; exact ⟨_, _, rfl, a3, by decide +kernel, by decide, by decide⟩
          | _ + 3, hz => cases hz
        have hi : i < 3 := (List.getElem?_eq_some_iff.mp hz).1
        kwd_rel
        refine ⟨p, l, rfl, hpl.keep hp.1, hok, hnd, hll, fun H2 e2 => ⟨_, e2 _ _ hp.2, by rw [List.length_replicate]; exact sl_lt (by omega), (hp.1.trans e2).put hD, ?_⟩⟩
        rw [upd_same, ← List.replicate_succ', List.replicate_succ]
      · refine ⟨D, [true, true, true], rfl, lsq hp.2, q _⟩
  clear k2
  refine ⟨6, rfl, by decide, by decide, ?_⟩
  refine for_range (n := 6) (fun i σ H' => (∃ v2 v3 v4 v5, σ = [some (.ref sc), some (.ref b), v2, v3, v4, v5]) ∧ Bx K b sc ns (1000 * i) H') ⟨⟨_, _, _, _, rfl⟩, hB0⟩ (fun i σ H' hi hp => ?_) (fun σ H' hp => ?_)
  · obtain ⟨⟨v2, v3, v4, v5, rfl⟩, hB⟩ := hp
    kwd_rel
    refine _root_.My.sq fun B1 b1 => ?_
    have h1 : B1 [some (.ref sc), some (.ref b), some (.int (0 + (i : Int))), v3, v4, v5] H' := by
      refine b1 _ _ ?_
      clear b1
      kwd_rel
      refine ⟨by decide, fun p2 hp2 => ?_⟩
      have hB1 := hB.keep (Ex.new (o := .lst [V.int 5, V.int 17]) hp2)
      have hu : (upd H' p2 (.lst [V.int 5, V.int 17])) p2 = some (.lst ([5, 17].map V.int)) := upd_same
      have np2 := hB.ne hp2
      generalize upd H' p2 (.lst [V.int 5, V.int 17]) = H2 at hB1 hu ⊢
      refine ⟨b, sc, ns, _, 2, rfl, hB1, by omega, by decide, by decide, fun H3 r kb3 hB3 r0 r1 => ?_⟩
      obtain ⟨v, hv, v0, v1⟩ := at_ints (r := r) (fun v => 5 ≤ v ∧ v ≤ 17) (xs := [5, 17]) (by decide) r0 r1
      refine ⟨_, r, rfl, lsq (kb3 _ _ np2 hu), _, hv, b, sc, ns, _, v, rfl, hB3, by omega, by omega, Nat.lt_trans (log_lt (m := v) (k := 200) (by omega) (Int.lt_trans (show v < 27 by omega) (by decide)) (by decide)) (by decide), fun H4 y kb4 hB4 y0 y1 => ?_⟩
      have ey : (V.int y) = V.int ((y.toNat : Nat) : Int) := by rw [Int.toNat_of_nonneg y0]
      rw [ey]
      refine ⟨b, sc, ns, _, y.toNat, rfl, hB4, by omega, by omega, fun H5 pp l hfp hpl hll hok hnd kb5 hB5 => ?_⟩
      refine ⟨pp, l, rfl, hpl, hok, hnd, by omega, fun H6 e6 => ⟨true, rfl, ?_⟩⟩
      rw [if_neg (fun h => by cases h)]
      exact ⟨⟨_, rfl⟩, (hB5.keep e6).up (by omega)⟩
    clear b1
    kwd_rel
    split
    · obtain ⟨a, s0, eb, _, _⟩ := hB.ex
      refine ⟨_, lsq eb, _, ix1, _, .inl hB.sq, _, rfl, ?_⟩
      split
      · exact fin _ _ _ _ H'
      · exact h1
    · exact h1
  · obtain ⟨⟨v2, v3, v4, v5, rfl⟩, hB⟩ := hp
    exact fin _ _ _ _ H'
end My
namespace My
open PySem PySem.Spec PyProof.Rows L2
theorem all_mk {l : PySem.W.OpenLaw} {w : World} {K : PySem.W.Frag} {h : Heap} {mg : Str → Option Value} {fa f0 f1 f2 f3 f4 f5 f6 f7 f8 f9 f10 f11 f12 f13 XNoText : Addr} (X : K.In h) (G : h.Ns mainGlobals mg) (hfa : mg "law" = some (.ref fa))
    {od0 an0 od1 an1 od2 an2 od3 an3 od4 an4 od5 an5 od6 an6 od7 an7 od8 an8 od9 an9 od10 an10 od11 an11 od12 an12 od13 an13 : Option Addr} {sl0 sl1 sl2 sl3 sl4 sl5 sl6 sl7 sl8 sl9 sl10 sl11 sl12 sl13 : Array (Option Value)} {oc0 kV0 dc0 pm0 cd0 ct0 oc1 kV1 dc1 pm1 cd1 ct1 oc2 kV2 dc2 pm2 cd2 ct2 oc3 kV3 dc3 pm3 cd3 ct3 oc4 kV4 dc4 pm4 cd4 ct4 oc5 kV5 dc5 pm5 cd5 ct5 oc6 kV6 dc6 pm6 cd6 ct6 oc7 kV7 dc7 pm7 cd7 ct7 oc8 kV8 dc8 pm8 cd8 ct8 oc9 kV9 dc9 pm9 cd9 ct9 oc10 kV10 dc10 pm10 cd10 ct10 oc11 kV11 dc11 pm11 cd11 ct11 oc12 kV12 dc12 pm12 cd12 ct12 oc13 kV13 dc13 pm13 cd13 ct13 : Value} {tk_MOST_LETTERS tk_LETTERS tk_FIGURES tk_MOST_FIGURES tk_MOST_SIGNS : Tok}
    (a0 : PySem.W.nsIn K mainGlobals "_law_e_sifted" = some (some (.ref f0))) (l0 : K.lookup f0 = some ⟨oc0, od0, .func (PySem.W.fnOf "_law_e_sifted" "_law_e_sifted" (defArgs s_law_e_sifted) (defBody s_law_e_sifted) (defScope s_law_e_sifted) .none kV0 dc0 pm0 an0 cd0 ct0), sl0⟩) (c0 : PySem.W.codeIn K cd0 "_law_e_sifted" = true) (k0 : PySem.W.keepIn K (.ref f0) = true)
    (a1 : PySem.W.nsIn K mainGlobals "run_end" = some (some (.ref f1))) (l1 : K.lookup f1 = some ⟨oc1, od1, .func (PySem.W.fnOf "run_end" "run_end" (defArgs s_run_end) (defBody s_run_end) (defScope s_run_end) .none kV1 dc1 pm1 an1 cd1 ct1), sl1⟩) (c1 : PySem.W.codeIn K cd1 "run_end" = true) (k1 : PySem.W.keepIn K (.ref f1) = true)
    (a2 : PySem.W.nsIn K mainGlobals "_law_e_pick" = some (some (.ref f2))) (l2 : K.lookup f2 = some ⟨oc2, od2, .func (PySem.W.fnOf "_law_e_pick" "_law_e_pick" (defArgs s_law_e_pick) (defBody s_law_e_pick) (defScope s_law_e_pick) .none kV2 dc2 pm2 an2 cd2 ct2), sl2⟩) (c2 : PySem.W.codeIn K cd2 "_law_e_pick" = true) (k2 : PySem.W.keepIn K (.ref f2) = true)
    (a3 : PySem.W.nsIn K mainGlobals "is_name" = some (some (.ref f3))) (l3 : K.lookup f3 = some ⟨oc3, od3, .func (PySem.W.fnOf "is_name" "is_name" (defArgs s_is_name) (defBody s_is_name) (defScope s_is_name) .none kV3 dc3 pm3 an3 cd3 ct3), sl3⟩) (c3 : PySem.W.codeIn K cd3 "is_name" = true) (k3 : PySem.W.keepIn K (.ref f3) = true)
    (a4 : PySem.W.nsIn K mainGlobals "past_blanks" = some (some (.ref f4))) (l4 : K.lookup f4 = some ⟨oc4, od4, .func (PySem.W.fnOf "past_blanks" "past_blanks" (defArgs s_past_blanks) (defBody s_past_blanks) (defScope s_past_blanks) .none kV4 dc4 pm4 an4 cd4 ct4), sl4⟩) (c4 : PySem.W.codeIn K cd4 "past_blanks" = true) (k4 : PySem.W.keepIn K (.ref f4) = true)
    (a5 : PySem.W.nsIn K mainGlobals "number_at" = some (some (.ref f5))) (l5 : K.lookup f5 = some ⟨oc5, od5, .func (PySem.W.fnOf "number_at" "number_at" (defArgs s_number_at) (defBody s_number_at) (defScope s_number_at) .none kV5 dc5 pm5 an5 cd5 ct5), sl5⟩) (c5 : PySem.W.codeIn K cd5 "number_at" = true) (k5 : PySem.W.keepIn K (.ref f5) = true)
    (a6 : PySem.W.nsIn K mainGlobals "term_at" = some (some (.ref f6))) (l6 : K.lookup f6 = some ⟨oc6, od6, .func (PySem.W.fnOf "term_at" "term_at" (defArgs s_term_at) (defBody s_term_at) (defScope s_term_at) .none kV6 dc6 pm6 an6 cd6 ct6), sl6⟩) (c6 : PySem.W.codeIn K cd6 "term_at" = true) (k6 : PySem.W.keepIn K (.ref f6) = true)
    (a7 : PySem.W.nsIn K mainGlobals "read" = some (some (.ref f7))) (l7 : K.lookup f7 = some ⟨oc7, od7, .func (PySem.W.fnOf "read" "read" (defArgs s_read) (defBody s_read) (defScope s_read) .none kV7 dc7 pm7 an7 cd7 ct7), sl7⟩) (c7 : PySem.W.codeIn K cd7 "read" = true) (k7 : PySem.W.keepIn K (.ref f7) = true)
    (a8 : PySem.W.nsIn K mainGlobals "shown" = some (some (.ref f8))) (l8 : K.lookup f8 = some ⟨oc8, od8, .func (PySem.W.fnOf "shown" "shown" (defArgs s_shown) (defBody s_shown) (defScope s_shown) .none kV8 dc8 pm8 an8 cd8 ct8), sl8⟩) (c8 : PySem.W.codeIn K cd8 "shown" = true) (k8 : PySem.W.keepIn K (.ref f8) = true)
    (a9 : PySem.W.nsIn K mainGlobals "_law_e_shown" = some (some (.ref f9))) (l9 : K.lookup f9 = some ⟨oc9, od9, .func (PySem.W.fnOf "_law_e_shown" "_law_e_shown" (defArgs s_law_e_shown) (defBody s_law_e_shown) (defScope s_law_e_shown) .none kV9 dc9 pm9 an9 cd9 ct9), sl9⟩) (c9 : PySem.W.codeIn K cd9 "_law_e_shown" = true) (k9 : PySem.W.keepIn K (.ref f9) = true)
    (a10 : PySem.W.nsIn K mainGlobals "_law_e_number" = some (some (.ref f10))) (l10 : K.lookup f10 = some ⟨oc10, od10, .func (PySem.W.fnOf "_law_e_number" "_law_e_number" (defArgs s_law_e_number) (defBody s_law_e_number) (defScope s_law_e_number) .none kV10 dc10 pm10 an10 cd10 ct10), sl10⟩) (c10 : PySem.W.codeIn K cd10 "_law_e_number" = true) (k10 : PySem.W.keepIn K (.ref f10) = true)
    (a11 : PySem.W.nsIn K mainGlobals "_law_e_pairs" = some (some (.ref f11))) (l11 : K.lookup f11 = some ⟨oc11, od11, .func (PySem.W.fnOf "_law_e_pairs" "_law_e_pairs" (defArgs s_law_e_pairs) (defBody s_law_e_pairs) (defScope s_law_e_pairs) .none kV11 dc11 pm11 an11 cd11 ct11), sl11⟩) (c11 : PySem.W.codeIn K cd11 "_law_e_pairs" = true) (k11 : PySem.W.keepIn K (.ref f11) = true)
    (a12 : PySem.W.nsIn K mainGlobals "_law_e_right" = some (some (.ref f12))) (l12 : K.lookup f12 = some ⟨oc12, od12, .func (PySem.W.fnOf "_law_e_right" "_law_e_right" (defArgs s_law_e_right) (defBody s_law_e_right) (defScope s_law_e_right) .none kV12 dc12 pm12 an12 cd12 ct12), sl12⟩) (c12 : PySem.W.codeIn K cd12 "_law_e_right" = true) (k12 : PySem.W.keepIn K (.ref f12) = true)
    (a13 : PySem.W.nsIn K mainGlobals "law" = some (some (.ref f13))) (l13 : K.lookup f13 = some ⟨oc13, od13, .func (PySem.W.fnOf "law" "law" (defArgs s_law) (defBody s_law) (defScope s_law) .none kV13 dc13 pm13 an13 cd13 ct13), sl13⟩) (c13 : PySem.W.codeIn K cd13 "law" = true) (k13 : PySem.W.keepIn K (.ref f13) = true)
    (z0 : PySem.W.nsIn K mainGlobals "len" = some none)
    (z1 : PySem.W.nsIn K mainGlobals "int" = some none)
    (z2 : PySem.W.nsIn K mainGlobals "isinstance" = some none)
    (z3 : PySem.W.nsIn K mainGlobals "str" = some none)
    (z4 : PySem.W.nsIn K mainGlobals "sorted" = some none)
    (z5 : PySem.W.nsIn K mainGlobals "abs" = some none)
    (z6 : PySem.W.nsIn K mainGlobals "range" = some none)
    (z7 : PySem.W.nsIn K mainGlobals "list" = some none)
    (z8 : PySem.W.nsIn K mainGlobals "any" = some none)
    (z9 : PySem.W.nsIn K mainGlobals "all" = some none)
    (v0 : PySem.W.nsIn K mainGlobals "MOST_LETTERS" = some (some (.int 8 tk_MOST_LETTERS)))
    (v1 : PySem.W.nsIn K mainGlobals "LETTERS" = some (some (.str (Str.ofString "abcdefghijklmnopqrstuvwxyz") tk_LETTERS)))
    (v2 : PySem.W.nsIn K mainGlobals "FIGURES" = some (some (.str (Str.ofString "0123456789") tk_FIGURES)))
    (v3 : PySem.W.nsIn K mainGlobals "MOST_FIGURES" = some (some (.int 60 tk_MOST_FIGURES)))
    (v4 : PySem.W.nsIn K mainGlobals "MOST_SIGNS" = some (some (.int 200 tk_MOST_SIGNS)))
    (xg0 : PySem.W.nsIn K mainGlobals "NoText" = some (some (.ref XNoText))) (xx0 : PySem.W.excIn K XNoText [.type "ValueError", .type "Exception", .type "BaseException", .type "object"] "ValueError.__new__" = true) (xk0 : PySem.W.keepIn K (.ref XNoText) = true) (xb0 : PySem.W.subIn K (.ref XNoText) (.type "BaseException") = some true) (xt0 : PySem.W.typeIn K (.ref XNoText) = some (.type "type"))
    : ∃ fd : FuncData, (∀ (s : Shared) (v : Value), BindsTo s fd ⟨[v], []⟩ [("script", v)]) ∧ ∀ base : Heap, K.In base → base.Ns mainGlobals mg → FnOk l.prog w K mg base CX0 7 fa fd ["script"] (sp_law K) := by
  have e := hfa.symm.trans (PySem.W.mg_of X G a13)
  cases e
  have G0 := fun_mk (st := s_law_e_sifted) l0 c0 k0
  have F0 := (⟨PySem.W.mg_of X G a0, G0, G0.binds (ps := ["cell", "at"]) fun _ _ _ _ _ _ us hl => match us, hl with | [_, _], _ => rfl⟩ : Fa0 K mg "_law_e_sifted" ["cell", "at"] s_law_e_sifted f0 _)
  have G1 := fun_mk (st := s_run_end) l1 c1 k1
  have F1 := (⟨PySem.W.mg_of X G a1, G1, G1.binds (ps := ["text", "at", "some"]) fun _ _ _ _ _ _ us hl => match us, hl with | [_, _, _], _ => rfl⟩ : Fa0 K mg "run_end" ["text", "at", "some"] s_run_end f1 _)
  have G2 := fun_mk (st := s_law_e_pick) l2 c2 k2
  have F2 := (⟨PySem.W.mg_of X G a2, G2, G2.binds (ps := ["box", "many"]) fun _ _ _ _ _ _ us hl => match us, hl with | [_, _], _ => rfl⟩ : Fa0 K mg "_law_e_pick" ["box", "many"] s_law_e_pick f2 _)
  have G3 := fun_mk (st := s_is_name) l3 c3 k3
  have F3 := (⟨PySem.W.mg_of X G a3, G3, G3.binds (ps := ["word"]) fun _ _ _ _ _ _ us hl => match us, hl with | [_], _ => rfl⟩ : Fa0 K mg "is_name" ["word"] s_is_name f3 _)
  have G4 := fun_mk (st := s_past_blanks) l4 c4 k4
  have F4 := (⟨PySem.W.mg_of X G a4, G4, G4.binds (ps := ["text", "at"]) fun _ _ _ _ _ _ us hl => match us, hl with | [_, _], _ => rfl⟩ : Fa0 K mg "past_blanks" ["text", "at"] s_past_blanks f4 _)
  have G5 := fun_mk (st := s_number_at) l5 c5 k5
  have F5 := (⟨PySem.W.mg_of X G a5, G5, G5.binds (ps := ["text", "at"]) fun _ _ _ _ _ _ us hl => match us, hl with | [_, _], _ => rfl⟩ : Fa0 K mg "number_at" ["text", "at"] s_number_at f5 _)
  have G6 := fun_mk (st := s_term_at) l6 c6 k6
  have F6 := (⟨PySem.W.mg_of X G a6, G6, G6.binds (ps := ["text", "at"]) fun _ _ _ _ _ _ us hl => match us, hl with | [_, _], _ => rfl⟩ : Fa0 K mg "term_at" ["text", "at"] s_term_at f6 _)
  have G7 := fun_mk (st := s_read) l7 c7 k7
  have F7 := (⟨PySem.W.mg_of X G a7, G7, G7.binds (ps := ["text"]) fun _ _ _ _ _ _ us hl => match us, hl with | [_], _ => rfl⟩ : Fa0 K mg "read" ["text"] s_read f7 _)
  have G8 := fun_mk (st := s_shown) l8 c8 k8
  have F8 := (⟨PySem.W.mg_of X G a8, G8, G8.binds (ps := ["pairs"]) fun _ _ _ _ _ _ us hl => match us, hl with | [_], _ => rfl⟩ : Fa0 K mg "shown" ["pairs"] s_shown f8 _)
  have G9 := fun_mk (st := s_law_e_shown) l9 c9 k9
  have F9 := (⟨PySem.W.mg_of X G a9, G9, G9.binds (ps := ["pairs"]) fun _ _ _ _ _ _ us hl => match us, hl with | [_], _ => rfl⟩ : Fa0 K mg "_law_e_shown" ["pairs"] s_law_e_shown f9 _)
  have G10 := fun_mk (st := s_law_e_number) l10 c10 k10
  have F10 := (⟨PySem.W.mg_of X G a10, G10, G10.binds (ps := ["box"]) fun _ _ _ _ _ _ us hl => match us, hl with | [_], _ => rfl⟩ : Fa0 K mg "_law_e_number" ["box"] s_law_e_number f10 _)
  have G11 := fun_mk (st := s_law_e_pairs) l11 c11 k11
  have F11 := (⟨PySem.W.mg_of X G a11, G11, G11.binds (ps := ["box", "most"]) fun _ _ _ _ _ _ us hl => match us, hl with | [_, _], _ => rfl⟩ : Fa0 K mg "_law_e_pairs" ["box", "most"] s_law_e_pairs f11 _)
  have G12 := fun_mk (st := s_law_e_right) l12 c12 k12
  have F12 := (⟨PySem.W.mg_of X G a12, G12, G12.binds (ps := ["pairs"]) fun _ _ _ _ _ _ us hl => match us, hl with | [_], _ => rfl⟩ : Fa0 K mg "_law_e_right" ["pairs"] s_law_e_right f12 _)
  have G13 := fun_mk (st := s_law) l13 c13 k13
  have F13 := (⟨PySem.W.mg_of X G a13, G13, G13.binds (ps := ["script"]) fun _ _ _ _ _ _ us hl => match us, hl with | [_], _ => rfl⟩ : Fa0 K mg "law" ["script"] s_law fa _)
  have B_len := PySem.W.mg_none_of X G z0
  have B_int := PySem.W.mg_none_of X G z1
  have B_isinstance := PySem.W.mg_none_of X G z2
  have B_str := PySem.W.mg_none_of X G z3
  have B_sorted := PySem.W.mg_none_of X G z4
  have B_abs := PySem.W.mg_none_of X G z5
  have B_range := PySem.W.mg_none_of X G z6
  have B_list := PySem.W.mg_none_of X G z7
  have B_any := PySem.W.mg_none_of X G z8
  have B_all := PySem.W.mg_none_of X G z9
  have V_MOST_LETTERS := PySem.W.mg_of X G v0
  have V_LETTERS := PySem.W.mg_of X G v1
  have V_FIGURES := PySem.W.mg_of X G v2
  have V_MOST_FIGURES := PySem.W.mg_of X G v3
  have V_MOST_SIGNS := PySem.W.mg_of X G v4
  have E_NoText : Xc K mg "NoText" XNoText := ⟨PySem.W.mg_of X G xg0, xx0, xk0, xb0, xt0⟩
  refine ⟨PySem.W.fnOf "law" "law" (defArgs s_law) (defBody s_law) (defScope s_law) .none kV13 dc13 pm13 an13 cd13 ct13, fun s v => .of_eq rfl, fun base _ _ => ?_⟩
  have D_law_e_sifted := ok_law_e_sifted (P := l.prog) (w := w) (base := base) ⟨_, _, F0⟩
  have D_run_end := ok_run_end (P := l.prog) (w := w) (base := base) ⟨_, _, F1⟩ B_len
  have D_shown := ok_shown (P := l.prog) (w := w) (base := base) ⟨_, _, F8⟩ B_abs B_str
  have D_law_e_shown := ok_law_e_shown (P := l.prog) (w := w) (base := base) ⟨_, _, F9⟩ B_int B_str B_abs
  have D_law_e_pick := ok_law_e_pick (P := l.prog) (w := w) (base := base) ⟨_, _, F2⟩ B_len D_law_e_sifted
  have D_is_name := ok_is_name (P := l.prog) (w := w) (base := base) ⟨_, _, F3⟩ B_len ⟨_, V_MOST_LETTERS⟩ ⟨_, V_LETTERS⟩ D_run_end
  have D_past_blanks := ok_past_blanks (P := l.prog) (w := w) (base := base) ⟨_, _, F4⟩ D_run_end
  have D_number_at := ok_number_at (P := l.prog) (w := w) (base := base) ⟨_, _, F5⟩ B_int ⟨_, V_FIGURES⟩ ⟨_, V_MOST_FIGURES⟩ E_NoText D_run_end D_past_blanks
  have D_law_e_number := ok_law_e_number (P := l.prog) (w := w) (base := base) ⟨_, _, F10⟩ D_law_e_pick
  have D_term_at := ok_term_at (P := l.prog) (w := w) (base := base) ⟨_, _, F6⟩ ⟨_, V_LETTERS⟩ ⟨_, V_FIGURES⟩ E_NoText D_run_end D_number_at D_is_name D_past_blanks
  have D_law_e_pairs := ok_law_e_pairs (P := l.prog) (w := w) (base := base) ⟨_, _, F11⟩ B_range D_law_e_pick D_law_e_number
  have D_read := ok_read (P := l.prog) (w := w) (base := base) ⟨_, _, F7⟩ B_len B_isinstance B_str B_sorted ⟨_, V_MOST_SIGNS⟩ E_NoText D_past_blanks D_term_at
  have D_law_e_right := ok_law_e_right (P := l.prog) (w := w) (base := base) ⟨_, _, F12⟩ B_range B_list B_any B_len B_sorted B_isinstance B_str B_abs D_law_e_shown D_read D_shown
  exact ok_law F13 B_range B_all B_len D_law_e_right D_shown D_law_e_pairs D_read D_law_e_pick
end My
open PySem PySem.W PyProof.Rows
set_option maxHeartbeats 0 in
theorem PySem.Challenge.cw_swapmart_k60_shown_and_read_again_holds : PySem.Challenge.rw_swapmart_k60_shown_and_read_again.Holds := by
  w_on; o_law; k_head; (case hw => w_witness2)
  k_fill
  refine L2.walk_of (l := PySem.Challenge.rw_swapmart_k60_shown_and_read_again) (n := 63) (k := 7) (x := "script") (CX := fun _ => L2.CX0) (sp := fun w => My.sp_law _) rfl (by decide) rfl ⟨rfl, by decide, by decide⟩ (fun w h Y => PySem.W.kIn_of Y) ?F (fun _ _ a ns hl _ hS => ⟨a, ns, rfl, hS, hl, fun _ => rfl⟩) (fun _ _ _ _ _ h => h)
  case F =>
    intro w mg fa h KX G hmg
    refine' My.all_mk KX G hmg ?a0 ?l0 ?c0 ?k0 ?a1 ?l1 ?c1 ?k1 ?a2 ?l2 ?c2 ?k2 ?a3 ?l3 ?c3 ?k3 ?a4 ?l4 ?c4 ?k4 ?a5 ?l5 ?c5 ?k5 ?a6 ?l6 ?c6 ?k6 ?a7 ?l7 ?c7 ?k7 ?a8 ?l8 ?c8 ?k8 ?a9 ?l9 ?c9 ?k9 ?a10 ?l10 ?c10 ?k10 ?a11 ?l11 ?c11 ?k11 ?a12 ?l12 ?c12 ?k12 ?a13 ?l13 ?c13 ?k13 ?z0 ?z1 ?z2 ?z3 ?z4 ?z5 ?z6 ?z7 ?z8 ?z9 ?v0 ?v1 ?v2 ?v3 ?v4 ?xg0 ?xx0 ?xk0 ?xb0 ?xt0
    (case a0 => k_is)
    (case l0 => k_is)
    (case c0 => k_is)
    (case k0 => k_is)
    (case a1 => k_is)
    (case l1 => k_is)
    (case c1 => k_is)
    (case k1 => k_is)
    (case a2 => k_is)
    (case l2 => k_is)
    (case c2 => k_is)
    (case k2 => k_is)
    (case a3 => k_is)
    (case l3 => k_is)
    (case c3 => k_is)
    (case k3 => k_is)
    (case a4 => k_is)
    (case l4 => k_is)
    (case c4 => k_is)
    (case k4 => k_is)
    (case a5 => k_is)
    (case l5 => k_is)
    (case c5 => k_is)
    (case k5 => k_is)
    (case a6 => k_is)
    (case l6 => k_is)
    (case c6 => k_is)
    (case k6 => k_is)
    (case a7 => k_is)
    (case l7 => k_is)
    (case c7 => k_is)
    (case k7 => k_is)
    (case a8 => k_is)
    (case l8 => k_is)
    (case c8 => k_is)
    (case k8 => k_is)
    (case a9 => k_is)
    (case l9 => k_is)
    (case c9 => k_is)
    (case k9 => k_is)
    (case a10 => k_is)
    (case l10 => k_is)
    (case c10 => k_is)
    (case k10 => k_is)
    (case a11 => k_is)
    (case l11 => k_is)
    (case c11 => k_is)
    (case k11 => k_is)
    (case a12 => k_is)
    (case l12 => k_is)
    (case c12 => k_is)
    (case k12 => k_is)
    (case a13 => k_is)
    (case l13 => k_is)
    (case c13 => k_is)
    (case k13 => k_is)
    (case z0 => k_is)
    (case z1 => k_is)
    (case z2 => k_is)
    (case z3 => k_is)
    (case z4 => k_is)
    (case z5 => k_is)
    (case z6 => k_is)
    (case z7 => k_is)
    (case z8 => k_is)
    (case z9 => k_is)
    (case v0 => k_is)
    (case v1 => k_is)
    (case v2 => k_is)
    (case v3 => k_is)
    (case v4 => k_is)
    (case xg0 => k_is)
    (case xx0 => k_exc)
    (case xk0 => k_is)
    (case xb0 => k_is)
    (case xt0 => k_is)
