import PyProof.Rows.All
import Wide.All
import OpenK.AllK
import Wide.FinOn
import KE.KStateDown
import Lean
import HandS.ForMost
import HandS.Exc
import HandS.TryOnly
import HandS.ExcOwn
import HandS.WordsExc
import HandS.IsInst
import HandS.Style
import HandS.RevRange
import HandS.StrMore
import HandS.Zip
import HandS.SortInts
import HandS.Evl
import HandS.CallLocal
import HandS.CallSlots
import HandS.ExcIs
import HandS.Codes
import HandS.ExcCtx
import HandS.Hot
import HandS.HotCalls
import HandS.Defaults
import HandS.Head0
import HandS.Head1
import HandS.Head2
import HandS.HeadEnd
import HandS.HeadHook1
import HandS.HeadHook2
import HandS.HeadHook3
import HandS.HeadHook4
import KE.GoesRaise
import HandS.RaiseFrom
import HandS.SuiteRaise
import PySem.Challenge.RW_parkrow_k11_texts
set_option Elab.async false
set_option linter.all false
set_option maxRecDepth 100000
set_option maxHeartbeats 0
namespace Pk
open PySem PySem.Spec PyProof.Rows L2 Evl He
/-- what the module's names of built-ins hold: nothing of its own -/
structure Bi (mg : Str → Option Value) : Prop where
  len : mg "len" = none
  range : mg "range" = none
  max : mg "max" = none
  min : mg "min" = none
  sum : mg "sum" = none
  all : mg "all" = none
  any : mg "any" = none
  list : mg "list" = none
  sorted : mg "sorted" = none
  isinstance : mg "isinstance" = none
  enumerate : mg "enumerate" = none
  reversed : mg "reversed" = none
  set : mg "set" = none
  str : mg "str" = none
  int : mg "int" = none
  bool : mg "bool" = none
  tuple : mg "tuple" = none
  valueError : mg "ValueError" = none
/-- a def of the text that keeps its promise, to be called -/
structure Cal (P : Program) (w : World) (K : PySem.W.Frag) (mg : Str → Option Value) (base : Heap) (CX : CXT) (k : Nat) (x : Str) (ps : List Str) (sp : Sp) (fd : FuncData) : Prop where
  ok : FnOk P w K mg base CX k (ga K x) fd ps sp
  gl : mg x = some (.ref (ga K x))
  kp : PySem.W.keepIn K (.ref (ga K x)) = true
  bd : Binds K fd ps []
abbrev veB : List Value := [.type "ValueError", .type "Exception", .type "BaseException", .type "object"]
/-- an own class of errors -/
structure ExcF (K : PySem.W.Frag) (mg : Str → Option Value) (x : Str) : Prop where
  ex : PySem.W.excIn K (ga K x) veB "ValueError.__new__" = true
  gl : mg x = some (.ref (ga K x))
  kp : PySem.W.keepIn K (.ref (ga K x)) = true
  be : PySem.W.subIn K (.ref (ga K x)) (.type "BaseException") = some true
  ty : PySem.W.typeIn K (.ref (ga K x)) = some (.type "type")
def rMulS : R2 := fun x y H Q => ∃ (a : Str) (n : Int), x = .str a ∧ y = .int n ∧ MulOk a n ∧ Q (.str (Txt.mul a n)) H
theorem op_mul_str {X : Cx} : OpR X (binaryOp .Mult) rMulS := by
  intro pins s σ H x y v u Q I rx ry h
  obtain ⟨a, n, rfl, rfl, hz, q⟩ := h
  obtain ⟨t, rfl⟩ := rx
  obtain ⟨t', rfl⟩ := ry
  exact PySem.SB.mul hz (fun t' tk => ⟨.str (Txt.mul a n), H, I.tok _, ⟨_, rfl⟩, q⟩)
def rMin2 : List V → Hp → VK → Prop := fun xs H Q => ∃ i j, xs = [.int i, .int j] ∧ Q (.int (if j < i then j else i)) H
def rLenT : List V → Hp → VK → Prop := fun xs H Q => ∃ z, xs = [.str z] ∧ z.length ≤ sizeLine ∧ Q (.int z.length) H
end Pk
namespace Pk
open PySem PySem.Spec PyProof.Rows L2 Evl He
/-! ### lists of numbers as values -/
def nat (n : Nat) : V := .int (n : Int)
abbrev vn (ws : List Nat) : List V := ws.map nat
abbrev vi (ns : List Int) : List V := ns.map V.int
theorem vn_vi (ws : List Nat) : vn ws = vi (ws.map fun (n : Nat) => (n : Int)) := by
  unfold vn vi
  rw [List.map_map]
  rfl
theorem vn_get {ws : List Nat} {i : Nat} {n : Nat} (h : ws[i]? = some n) : (vn ws)[i]? = some (nat n) := by
  rw [List.getElem?_map, h]
  rfl
theorem vmap_get {α : Type} {c : α → V} {ys : List α} {i : Nat} {x : V} (h : (ys.map c)[i]? = some x) : ∃ y, ys[i]? = some y ∧ x = c y := by
  rw [List.getElem?_map] at h
  cases e : ys[i]? with
  | none => rw [e] at h; cases h
  | some y => rw [e] at h; exact ⟨y, rfl, (Option.some.inj h).symm⟩
theorem at_nat {xs : List V} {i : Nat} {v : V} (h : xs[i]? = some v) : atI xs ((i : Nat) : Int) = some v := atI_nat h
/-- heaps -/
theorem Ex.of_new {H H1 H2 : Hp} {p : Addr} (n : H p = none) (e : Ex H H1) (h : ∀ b o, b ≠ p → H1 b = some o → H2 b = some o) : Ex H H2 := fun a o ha => h a o (ne_of_none ha n) (e a o ha)
theorem et_yes {σ : L2.St} {H : Hp} : EvT tYes σ H true := fun H1 _ _ q => q H1 (Ex.refl H1)
theorem given_all {n : Nat} {v : Nat → V} : given n (fun _ => true) v = (List.range n).map v := by
  unfold given
  rw [List.filter_eq_self.mpr (fun _ _ => rfl)]
section
variable {K : PySem.W.Frag} {σ : L2.St} {H H' : Hp} {ta tb te tx : TE} {t u : TT} {x y z v : V} {r : R2}
/-- [e for i in range(n)] -/
theorem el_rng {ta : TA} {j : Nat} {vs : List Nat} {n : Nat} (v : Nat → V) (h : EvA ta σ H [nat n]) (hn : n ≤ 40000) (hw : ∀ x, wipe ((wipe σ vs).set j (some x)) vs = wipe σ vs)
    (he : ∀ (i : Nat) H1, Ex H H1 → i < n → Ev te ((wipe σ vs).set j (some (nat i))) H1 (v i)) : EvL (tLc (iRng1 ta) (gName j) tYes te vs) σ H ((List.range n).map v) := by
  have g := el_lcR1 (te := te) (fun _ => true) v h ⟨by omega, by omega⟩ hw (fun i H1 e hi => et_yes) (fun i H1 e hi _ => he i H1 e (by omega))
  rw [given_all] at g
  exact g
theorem given_list {α : Type} (f : α → Bool) (g : α → V) (d : α) : ∀ (ys : List α), given ys.length (fun i => f (ys.getD i d)) (fun i => g (ys.getD i d)) = (ys.filter f).map g := by
  intro ys
  have key : ∀ n, n ≤ ys.length → given n (fun i => f (ys.getD i d)) (fun i => g (ys.getD i d)) = ((ys.take n).filter f).map g := by
    intro n
    induction n with
    | zero => intro _; rfl
    | succ n ih =>
      intro hn
      have hlt : n < ys.length := hn
      have e : ys[n]? = some (ys.getD n d) := by
        rw [List.getD_eq_getElem?_getD, List.getElem?_eq_getElem hlt]; rfl
      rw [List.take_add_one, e]
      cases hf : f (ys.getD n d) with
      | true =>
        rw [given_yes (f := fun i => f (ys.getD i d)) hf, ih (by omega)]
        generalize ys.getD n d = z at hf
        simp [hf]
      | false =>
        rw [given_no (f := fun i => f (ys.getD i d)) hf, ih (by omega)]
        generalize ys.getD n d = z at hf
        simp [hf]
  rw [key ys.length (Nat.le_refl _), List.take_length]
/-- [e for y in list if t] over items that are c y -/
theorem el_lsF {α : Type} {a : Addr} {ys : List α} (c : α → V) {tl : TE} {j : Nat} {vs : List Nat} (f : α → Bool) (g : α → V) (h : Ev tl σ H (.ref a)) (hx : SqL K H a (ys.map c)) (hz : ys.length ≤ 40000) (hw : ∀ x, wipe ((wipe σ vs).set j (some x)) vs = wipe σ vs)
    (ht : ∀ (i : Nat) (y : α) H1, Ex H H1 → ys[i]? = some y → EvT t ((wipe σ vs).set j (some (c y))) H1 (f y)) (he : ∀ (i : Nat) (y : α) H1, Ex H H1 → ys[i]? = some y → f y = true → Ev te ((wipe σ vs).set j (some (c y))) H1 (g y)) :
    EvL (tLc (iList K tl) (gName j) t te vs) σ H ((ys.filter f).map g) := by
  cases ys with
  | nil => exact el_lcL (te := te) (t := t) (fun _ => true) (fun _ => .non) h hx hz hw (fun i x H1 e hi => by simp at hi) (fun i x H1 e hi _ => by simp at hi)
  | cons d r =>
    have hd : ∀ i y, (d :: r)[i]? = some y → (d :: r).getD i d = y := fun i y hi => by
      rw [List.getD_eq_getElem?_getD, hi]; rfl
    have k := el_lcL (te := te) (t := t) (fun i => f ((d :: r).getD i d)) (fun i => g ((d :: r).getD i d)) h hx (by rw [List.length_map]; exact hz) hw (fun i x H1 e hi => by
      obtain ⟨y, hy, rfl⟩ := vmap_get hi
      show EvT _ _ _ (f ((d :: r).getD i d))
      rw [hd i y hy]
      exact ht i y H1 e hy) (fun i x H1 e hi hf => by
      obtain ⟨y, hy, rfl⟩ := vmap_get hi
      have hf' : f ((d :: r).getD i d) = true := hf
      rw [hd i y hy] at hf'
      show Ev _ _ _ (g ((d :: r).getD i d))
      rw [hd i y hy]
      exact he i y H1 e hy hf')
    rw [List.length_map, given_list] at k
    exact k
theorem el_ls {α : Type} {a : Addr} {ys : List α} (c : α → V) {tl : TE} {j : Nat} {vs : List Nat} (g : α → V) (h : Ev tl σ H (.ref a)) (hx : SqL K H a (ys.map c)) (hz : ys.length ≤ 40000) (hw : ∀ x, wipe ((wipe σ vs).set j (some x)) vs = wipe σ vs)
    (he : ∀ (i : Nat) (y : α) H1, Ex H H1 → ys[i]? = some y → Ev te ((wipe σ vs).set j (some (c y))) H1 (g y)) :
    EvL (tLc (iList K tl) (gName j) tYes te vs) σ H (ys.map g) := by
  have k := el_lsF (te := te) (t := tYes) c (fun _ => true) g h hx hz hw (fun _ _ _ _ _ => et_yes) (fun i y H1 e hi _ => he i y H1 e hi)
  rw [List.filter_eq_self.mpr (fun _ _ => rfl)] at k
  exact k
/-- over a new list -/
theorem el_nlF {α : Type} {ys : List α} (c : α → V) {tl : TE} {j : Nat} {vs : List Nat} (f : α → Bool) (g : α → V) (h : EvL tl σ H (ys.map c)) (hz : ys.length ≤ 40000) (hw : ∀ x, wipe ((wipe σ vs).set j (some x)) vs = wipe σ vs)
    (ht : ∀ (i : Nat) (y : α) H1, Ex H H1 → ys[i]? = some y → EvT t ((wipe σ vs).set j (some (c y))) H1 (f y)) (he : ∀ (i : Nat) (y : α) H1, Ex H H1 → ys[i]? = some y → f y = true → Ev te ((wipe σ vs).set j (some (c y))) H1 (g y)) :
    EvL (tLc (iList K tl) (gName j) t te vs) σ H ((ys.filter f).map g) := by
  cases ys with
  | nil => exact el_lcNL (te := te) (t := t) (fun _ => true) (fun _ => .non) h hz hw (fun i x H1 e hi => by simp at hi) (fun i x H1 e hi _ => by simp at hi)
  | cons d r =>
    have hd : ∀ i y, (d :: r)[i]? = some y → (d :: r).getD i d = y := fun i y hi => by
      rw [List.getD_eq_getElem?_getD, hi]; rfl
    have k := el_lcNL (te := te) (t := t) (K := K) (fun i => f ((d :: r).getD i d)) (fun i => g ((d :: r).getD i d)) h (by rw [List.length_map]; exact hz) hw (fun i x H1 e hi => by
      obtain ⟨y, hy, rfl⟩ := vmap_get hi
      show EvT _ _ _ (f ((d :: r).getD i d))
      rw [hd i y hy]
      exact ht i y H1 e hy) (fun i x H1 e hi hf => by
      obtain ⟨y, hy, rfl⟩ := vmap_get hi
      have hf' : f ((d :: r).getD i d) = true := hf
      rw [hd i y hy] at hf'
      show Ev _ _ _ (g ((d :: r).getD i d))
      rw [hd i y hy]
      exact he i y H1 e hy hf')
    rw [List.length_map, given_list] at k
    exact k
theorem el_nl {α : Type} {ys : List α} (c : α → V) {tl : TE} {j : Nat} {vs : List Nat} (g : α → V) (h : EvL tl σ H (ys.map c)) (hz : ys.length ≤ 40000) (hw : ∀ x, wipe ((wipe σ vs).set j (some x)) vs = wipe σ vs)
    (he : ∀ (i : Nat) (y : α) H1, Ex H H1 → ys[i]? = some y → Ev te ((wipe σ vs).set j (some (c y))) H1 (g y)) :
    EvL (tLc (iList K tl) (gName j) tYes te vs) σ H (ys.map g) := by
  have k := el_nlF (te := te) (t := tYes) (K := K) c (fun _ => true) g h hz hw (fun _ _ _ _ _ => et_yes) (fun i y H1 e hi _ => he i y H1 e hi)
  rw [List.filter_eq_self.mpr (fun _ _ => rfl)] at k
  exact k

/-! ### loops over prefixes -/
theorem take_pre {α : Type} {ys : List α} {i : Nat} {y : α} (h : ys[i]? = some y) : ys = ys.take i ++ y :: ys.drop (i + 1) ∧ ys.take (i + 1) = ys.take i ++ [y] := by
  obtain ⟨hi, rfl⟩ := List.getElem?_eq_some_iff.mp h
  refine ⟨?_, ?_⟩
  · rw [← List.drop_eq_getElem_cons hi, List.take_append_drop]
  · rw [List.take_add_one, List.getElem?_eq_getElem hi]; rfl
variable {D : Ends} {tu tw tz : TS} {g : TG}
/-- for y in list: rest; I: by the prefix gone -/
theorem q_forP {α : Type} {a : Addr} {ys : List α} (c : α → V) {tl : TE} {j : Nat} (h : Ev tl σ H (.ref a)) (hx : SqL K H a (ys.map c)) (I : List α → L2.St → Hp → Prop) (h0 : ∀ H1, Ex H H1 → I [] σ H1)
    (hl : ∀ pre σ' H', I pre σ' H' → SqL K H' a (ys.map c))
    (hs : ∀ pre y post σ' H', ys = pre ++ y :: post → I pre σ' H' → tu { D with nx := I (pre ++ [y]), ct := I (pre ++ [y]), bk := tz D } (σ'.set j (some (c y))) H')
    (hd : ∀ σ' H', I ys σ' H' → tz D σ' H') : tSeq (tFor (iList K tl) (gName j) tu) tz D σ H :=
  q_forLn h hx (fun i => I (ys.take i)) (fun H1 e => h0 H1 e) (fun i σ' H' _ q => hl _ σ' H' q) (fun i x σ' H' hi q => by
    obtain ⟨y, hy, rfl⟩ := vmap_get hi
    obtain ⟨e1, e2⟩ := take_pre hy
    have := hs (ys.take i) y (ys.drop (i + 1)) σ' H' e1 q
    rw [e2]
    exact this) (fun σ' H' q => hd σ' H' (by rw [List.length_map, List.take_length] at q; exact q))
theorem s_forP {α : Type} {a : Addr} {ys : List α} (c : α → V) {tl : TE} {j : Nat} (h : Ev tl σ H (.ref a)) (hx : SqL K H a (ys.map c)) (I : List α → L2.St → Hp → Prop) (h0 : ∀ H1, Ex H H1 → I [] σ H1)
    (hl : ∀ pre σ' H', I pre σ' H' → SqL K H' a (ys.map c))
    (hs : ∀ pre y post σ' H', ys = pre ++ y :: post → I pre σ' H' → tu { D with nx := I (pre ++ [y]), ct := I (pre ++ [y]), bk := D.nx } (σ'.set j (some (c y))) H')
    (hd : ∀ σ' H', I ys σ' H' → D.nx σ' H') : tFor (iList K tl) (gName j) tu D σ H :=
  s_forLn h hx (fun i => I (ys.take i)) (fun H1 e => h0 H1 e) (fun i σ' H' _ q => hl _ σ' H' q) (fun i x σ' H' hi q => by
    obtain ⟨y, hy, rfl⟩ := vmap_get hi
    obtain ⟨e1, e2⟩ := take_pre hy
    have := hs (ys.take i) y (ys.drop (i + 1)) σ' H' e1 q
    rw [e2]
    exact this) (fun σ' H' q => hd σ' H' (by rw [List.length_map, List.take_length] at q; exact q))
/-- for i in range(n) -/
theorem q_forR {ta : TA} {j : Nat} {n : Nat} (h : EvA ta σ H [nat n]) (hn : n ≤ 100000) (Pv : Nat → L2.St → Hp → Prop) (h0 : ∀ H1, Ex H H1 → Pv 0 σ H1)
    (hs : ∀ (i : Nat) σ' H', i < n → Pv i σ' H' → tu { D with nx := Pv (i + 1), ct := Pv (i + 1), bk := tz D } (σ'.set j (some (nat i))) H') (hd : ∀ σ' H', Pv n σ' H' → tz D σ' H') : tSeq (tFor (iRng1 ta) (gName j) tu) tz D σ H :=
  q_forR1 h ⟨by omega, by omega⟩ Pv h0 (fun i σ' H' hi q => hs i σ' H' (by omega) q) (fun σ' H' q => hd σ' H' (by rw [Int.toNat_natCast] at q; exact q))
/-- for i in reversed(range(n)): I k: k turns are left -/
theorem q_forRev {te : TE} {j : Nat} {n : Nat} (h : Ev te σ H (nat n)) (hn : n ≤ 100000) (Pv : Nat → L2.St → Hp → Prop) (h0 : ∀ H1, Ex H H1 → Pv n σ H1)
    (hs : ∀ (i : Nat) σ' H', i < n → Pv (i + 1) σ' H' → tu { D with nx := Pv i, ct := Pv i, bk := tz D } (σ'.set j (some (nat i))) H') (hd : ∀ σ' H', Pv 0 σ' H' → tz D σ' H') : tSeq (tFor (iRevR (tRg1 te)) (gName j) tu) tz D σ H := by
  refine h H (Ex.refl H) _ fun H1 e => ⟨n, rfl, ?_⟩
  refine ⟨by omega, by omega, by omega, by omega, ?_⟩
  have en : (((n : Int) - 0).toNat) = n := by omega
  rw [en]
  refine for_rangeC (lo := (0 : Int) + (n : Int) - 1) (c := -1) (n := n) (fun i => Pv (n - i)) (h0 H1 e) (fun i σ' H' hi q => ?_) (fun σ' H' q => hd σ' H' (by rw [Nat.sub_self] at q; exact q))
  have e1 : ((0 : Int) + (n : Int) - 1 + (i : Int) * -1) = ((n - (i + 1) : Nat) : Int) := by omega
  show tu { D with nx := Pv (n - (i + 1)), ct := Pv (n - (i + 1)), bk := tz D } (σ'.set j (some (.int ((0 : Int) + (n : Int) - 1 + (i : Int) * -1)))) H'
  rw [e1]
  have e2 : n - (i + 1) + 1 = n - i := by omega
  exact hs (n - (i + 1)) σ' H' (by omega) (by rw [e2]; exact q)
end
end Pk
namespace Pk
open PySem PySem.Spec PyProof.Rows L2 Evl He
/-! ### equality of lists of numbers -/
def pdi (ns : List Int) : PyData := .list (ns.map PyData.int)
theorem dpAll_ints {K : PySem.W.Frag} {H : Hp} : ∀ ns : List Int, DpAll K H (vi ns) (ns.map PyData.int)
  | [] => .nil
  | n :: r => .cons (.int n) (dpAll_ints r)
theorem dp_ints {K : PySem.W.Frag} {H : Hp} {a : Addr} {ns : List Int} (h : SqL K H a (vi ns)) : Dp K H (.ref a) (pdi ns) := .lst h (dpAll_ints ns)
theorem canLay_ints : ∀ ns : List Int, PyData.canLayAll0 (ns.map PyData.int) = true
  | [] => by simp [PyData.canLayAll0]
  | n :: r => by simp [PyData.canLayAll0, PyData.canLay0, canLay_ints r]
theorem depth_ints : ∀ ns : List Int, PyData.depthAll (ns.map PyData.int) ≤ 1
  | [] => by simp [PyData.depthAll]
  | n :: r => by
    have h := depth_ints r
    simp only [List.map_cons, PyData.depthAll, PyData.depth]
    omega
theorem shaped_ints (ns : List Int) : SeqAt.shaped (pdi ns) = true := by
  have h := depth_ints ns
  unfold SeqAt.shaped pdi
  rw [Bool.and_eq_true_iff]
  refine ⟨by simp [PyData.canLay0, canLay_ints ns], decide_eq_true ?_⟩
  simp only [PyData.depth]
  omega
theorem eqvAll_ints : ∀ ns ms : List Int, PyData.eqvAll (ns.map PyData.int) (ms.map PyData.int) = decide (ns = ms)
  | [], [] => rfl
  | [], m :: s => rfl
  | n :: r, [] => rfl
  | n :: r, m :: s => by
    show (PyData.eqv (.int n) (.int m) && PyData.eqvAll (r.map PyData.int) (s.map PyData.int)) = _
    rw [eqvAll_ints r s]
    show ((n == m) && decide (r = s)) = _
    by_cases h1 : n = m
    · by_cases h2 : r = s
      · simp [h1, h2]
      · simp [h1, h2]
    · simp [h1]
theorem eqv_ints (ns ms : List Int) : PyData.eqv (pdi ns) (pdi ms) = decide (ns = ms) := eqvAll_ints ns ms
section
variable {K : PySem.W.Frag} {σ : L2.St} {H H' : Hp} {ta tb te tx : TE} {t u : TT} {x y z v : V} {r : R2}
theorem rv_eqI {a b : Addr} {ns ms : List Int} (h1 : SqL K H a (vi ns)) (h2 : SqL K H b (vi ms)) : RV (rEqD K) (.ref a) (.ref b) H (.bl (decide (ns = ms))) := fun H1 e Q q =>
  ⟨_, _, dp_ints (ex_l e h1), dp_ints (ex_l e h2), shaped_ints ns, shaped_ints ms, by rw [eqv_ints]; exact q H1 (Ex.refl H1)⟩
theorem rv_neI {a b : Addr} {ns ms : List Int} (h1 : SqL K H a (vi ns)) (h2 : SqL K H b (vi ms)) : RV (rNeD K) (.ref a) (.ref b) H (.bl (!decide (ns = ms))) := fun H1 e Q q =>
  ⟨_, _, dp_ints (ex_l e h1), dp_ints (ex_l e h2), shaped_ints ns, shaped_ints ms, by rw [eqv_ints]; exact q H1 (Ex.refl H1)⟩
theorem rv_eqN {a b : Addr} {ns ms : List Nat} (h1 : SqL K H a (vn ns)) (h2 : SqL K H b (vn ms)) : RV (rEqD K) (.ref a) (.ref b) H (.bl (decide (ns = ms))) := by
  rw [vn_vi] at h1 h2
  have k := rv_eqI h1 h2
  have e : (ns.map (fun (n : Nat) => (n : Int)) = ms.map (fun (n : Nat) => (n : Int))) = (ns = ms) := by
    refine propext ⟨fun h => ?_, fun h => by rw [h]⟩
    exact List.map_inj_right (fun a b hab => Int.ofNat.inj hab) |>.mp h
  rw [show decide (ns.map (fun (n : Nat) => (n : Int)) = ms.map (fun (n : Nat) => (n : Int))) = decide (ns = ms) from by simp only [e]] at k
  exact k
theorem rv_neN {a b : Addr} {ns ms : List Nat} (h1 : SqL K H a (vn ns)) (h2 : SqL K H b (vn ms)) : RV (rNeD K) (.ref a) (.ref b) H (.bl (!decide (ns = ms))) := by
  rw [vn_vi] at h1 h2
  have k := rv_neI h1 h2
  have e : (ns.map (fun (n : Nat) => (n : Int)) = ms.map (fun (n : Nat) => (n : Int))) = (ns = ms) := by
    refine propext ⟨fun h => ?_, fun h => by rw [h]⟩
    exact List.map_inj_right (fun a b hab => Int.ofNat.inj hab) |>.mp h
  rw [show decide (ns.map (fun (n : Nat) => (n : Int)) = ms.map (fun (n : Nat) => (n : Int))) = decide (ns = ms) from by simp only [e]] at k
  exact k
/-! ### calls of built-ins -/
theorem rc_sum {a : Addr} {ns : List Int} (h : SqL K H a (vi ns)) : RC (rSum K) [.ref a] H (.int ns.sum) := fun H1 e Q q => ⟨a, ns, rfl, ex_l e h, q H1 (Ex.refl H1)⟩
theorem sum_nat : ∀ ws : List Nat, (ws.map fun (n : Nat) => (n : Int)).sum = ((ws.sum : Nat) : Int)
  | [] => rfl
  | w :: r => by
    rw [List.map_cons, List.sum_cons, List.sum_cons, sum_nat r]
    omega
theorem rc_sumN {a : Addr} {ws : List Nat} (h : SqL K H a (vn ws)) : RC (rSum K) [.ref a] H (nat ws.sum) := by
  rw [vn_vi] at h
  have k := rc_sum h
  rw [sum_nat] at k
  exact k
theorem rc_all {a : Addr} {bs : List Bool} (h : SqL K H a (bs.map V.bl)) : RC (rAll K) [.ref a] H (.bl (bs.all id)) := fun H1 e Q q => ⟨a, bs, rfl, ex_l e h, q H1 (Ex.refl H1)⟩
/-- all([..]), the list made on the way -/
theorem ev_allN {bs : List Bool} (h : EvL ta σ H (bs.map V.bl)) : Ev (tCB (rAll K) (tCons ta tNil)) σ H (.bl (bs.all id)) := fun H1 e Q q =>
  h H1 e _ fun p H2 _ e2 h2 => ⟨p, bs, rfl, sq_of h2, q H2 e2⟩
theorem ev_all {a : Addr} {bs : List Bool} (ha : Ev ta σ H (.ref a)) (h : SqL K H a (bs.map V.bl)) : Ev (tCB (rAll K) (tCons ta tNil)) σ H (.bl (bs.all id)) := ev_cb (ea_cons ha ea_nil) (rc_all h)
theorem ev_sumN {a : Addr} {ws : List Nat} (ha : Ev ta σ H (.ref a)) (h : SqL K H a (vn ws)) : Ev (tCB (rSum K) (tCons ta tNil)) σ H (nat ws.sum) := ev_cb (ea_cons ha ea_nil) (rc_sumN h)
theorem ev_sum {a : Addr} {ns : List Int} (ha : Ev ta σ H (.ref a)) (h : SqL K H a (vi ns)) : Ev (tCB (rSum K) (tCons ta tNil)) σ H (.int ns.sum) := ev_cb (ea_cons ha ea_nil) (rc_sum h)
/-- isinstance of a built-in class -/
theorem rc_isi {t b : String} {k : Bool} (ty : ∀ H1, Ex H H1 → TyX K H1 x (.type t)) (hk : kitB t b = some k) : RC (rIsi K) [x, .ty b] H (.bl k) := fun H1 e Q q =>
  ⟨x, .ty b, .type t, .type b, k, rfl, .ty b, ty H1 e, kit_ty hk, q H1 (Ex.refl H1)⟩
theorem ty_list {a : Addr} {xs : List V} (h : SqL K H a xs) : TyX K H (.ref a) (.type "list") := by
  rcases h with (h | ⟨o, h⟩) | ⟨o, its, n, hk, hc, hd, hs, hz, r⟩
  · exact .base (.lst h)
  · exact .base (.frz h)
  · exact .kList hk hc
theorem isi_int {i : Int} (b : String) {k : Bool} (hk : kitB "int" b = some k) : RC (rIsi K) [.int i, .ty b] H (.bl k) := rc_isi (fun _ _ => .base (.int i)) hk
theorem isi_list {a : Addr} {xs : List V} (h : SqL K H a xs) (b : String) {k : Bool} (hk : kitB "list" b = some k) : RC (rIsi K) [.ref a, .ty b] H (.bl k) := rc_isi (fun H1 e => ty_list (ex_l e h)) hk
theorem isi_str {s : Str} (b : String) {k : Bool} (hk : kitB "str" b = some k) : RC (rIsi K) [.str s, .ty b] H (.bl k) := rc_isi (fun _ _ => .base (.str s)) hk
theorem isi_bl {s : Bool} (b : String) {k : Bool} (hk : kitB "bool" b = some k) : RC (rIsi K) [.bl s, .ty b] H (.bl k) := rc_isi (fun _ _ => .base (.bl s)) hk
/-! ### sorted -/
def isort (ns : List Int) : List Int := ns.mergeSort (fun a b => decide (a ≤ b))
theorem isort_perm (ns : List Int) : (isort ns).Perm ns := List.mergeSort_perm ns _
theorem isort_rise (ns : List Int) : (isort ns).Pairwise (· ≤ ·) := by
  have h := List.pairwise_mergeSort (le := fun (a b : Int) => decide (a ≤ b)) (fun a b c h1 h2 => by simp only [decide_eq_true_eq] at *; omega) (fun a b => by simp only [Bool.or_eq_true, decide_eq_true_eq]; omega) ns
  exact h.imp (fun q => of_decide_eq_true q)
theorem isort_is {ns ms : List Int} (p : ms.Perm ns) (r : ms.Pairwise (· ≤ ·)) : isort ns = ms :=
  List.Perm.eq_of_pairwise (fun a b _ _ h1 h2 => Int.le_antisymm h1 h2) (isort_rise ns) r ((isort_perm ns).trans p.symm)
theorem el_sorted {a : Addr} {ns : List Int} (ha : Ev ta σ H (.ref a)) (h : SqL K H a (vi ns)) : EvL (tCB (rSortedI K) (tCons ta tNil)) σ H (vi (isort ns)) := fun H1 e Q q =>
  ha H1 e _ fun H2 e2 => ⟨a, ns, rfl, ex_l (e.trans e2) h, fun ns' p hp hr hn => by
    have z := isort_is hp hr
    subst z
    exact q p _ (fresh_back e2 hn) (e2.trans (Ex.new hn)) upd_same⟩
/-- operators on numbers -/
theorem ev_add {i j k : Int} (ha : Ev ta σ H (.int i)) (hb : Ev tb σ H (.int j)) (e : k = i + j) : Ev (tOp (rI0 fun i j => .int (i + j)) ta tb) σ H (.int k) := by
  rw [e]; exact ev_op ha hb rv_I0
theorem ev_sub {i j k : Int} (ha : Ev ta σ H (.int i)) (hb : Ev tb σ H (.int j)) (e : k = i - j) : Ev (tOp (rI0 fun i j => .int (i - j)) ta tb) σ H (.int k) := by
  rw [e]; exact ev_op ha hb rv_I0
theorem ev_mod {i j k : Int} (ha : Ev ta σ H (.int i)) (hb : Ev tb σ H (.int j)) (hj : 0 < j) (e : k = i % j) : Ev (tOp (rI (fun _ j => 0 < j) fun i j => .int (i % j)) ta tb) σ H (.int k) := by
  rw [e]; exact ev_op ha hb (rv_I hj)
theorem ev_div {i j k : Int} (ha : Ev ta σ H (.int i)) (hb : Ev tb σ H (.int j)) (hj : 0 < j ∧ j < 1073741824) (e : k = i / j) : Ev (tOp (rI CDiv fun i j => .int (i / j)) ta tb) σ H (.int k) := by
  rw [e]; exact ev_op ha hb (rv_I hj)
theorem ev_mul {i j k : Int} (ha : Ev ta σ H (.int i)) (hb : Ev tb σ H (.int j)) (hj : CMul i j) (e : k = i * j) : Ev (tOp (rI CMul fun i j => .int (i * j)) ta tb) σ H (.int k) := by
  rw [e]; exact ev_op ha hb (rv_I hj)
theorem ev_cmp {p : Int → Int → Bool} {i j : Int} {b : Bool} (ha : Ev ta σ H (.int i)) (hb : Ev tb σ H (.int j)) (e : b = p i j) : Ev (tOp (rI0 fun i j => .bl (p i j)) ta tb) σ H (.bl b) := by
  rw [e]; exact ev_op ha hb rv_I0
theorem ev_eqInt {i j : Int} (ha : Ev ta σ H (.int i)) (hb : Ev tb σ H (.int j)) : Ev (tOp rEq ta tb) σ H (.bl (decide (i = j))) := by
  have k := ev_op (r := rEq) ha hb (rv_eq rfl)
  rw [show decide (V.int i = V.int j) = decide (i = j) from by simp] at k
  exact k
theorem ev_neInt {i j : Int} (ha : Ev ta σ H (.int i)) (hb : Ev tb σ H (.int j)) : Ev (tOp rNe ta tb) σ H (.bl (!decide (i = j))) := by
  have k := ev_op (r := rNe) ha hb (rv_ne rfl)
  rw [show decide (V.int i = V.int j) = decide (i = j) from by simp] at k
  exact k
/-- ws[i] -/
theorem ev_ixN {p : Addr} {xs : List V} {i : Nat} (ha : Ev ta σ H (.ref p)) (hb : Ev tb σ H (nat i)) (h : SqL K H p xs) (hi : xs[i]? = some v) : Ev (tOp (rIxL K) ta tb) σ H v := ev_op ha hb (rv_ixL h (at_nat hi))
theorem ev_chain {p q : Int → Int → Bool} {i j k : Int} {b : Bool} (ha : Ev ta σ H (.int i)) (hb : Ev tb σ H (.int j)) (hc : Ev te σ H (.int k)) (e : b = (p i j && q j k)) :
    Ev (tChain (rI0 fun i j => .bl (p i j)) (rI0 fun i j => .bl (q i j)) ta tb te) σ H (.bl b) := fun H1 e1 Q Qk => by
  rw [e] at Qk
  refine ha H1 e1 _ fun H2 e2 => hb H2 (e1.trans e2) _ fun H3 e3 => ⟨i, j, rfl, rfl, p i j, rfl, ?_⟩
  cases hp : p i j with
  | true =>
    rw [hp] at Qk
    exact hc H3 ((e1.trans e2).trans e3) _ fun H4 e4 => ⟨j, k, rfl, rfl, Qk H4 ((e2.trans e3).trans e4)⟩
  | false =>
    rw [hp] at Qk
    exact Qk H3 (e2.trans e3)
end
end Pk
namespace Pk
open PySem PySem.Spec PyProof.Rows L2 Evl He
section
variable {K : PySem.W.Frag} {σ : L2.St} {H H' : Hp} {ta tb te tx : TE} {t u : TT} {x y z v : V} {r : R2} {D : Ends} {tu tw tz : TS} {g : TG}
/-! ### calls that may raise -/
theorem s_callX {sp : Sp} {dvs vs : List V} {E : XK} {ta : TA} (h : EvA ta σ H vs) (k : ∀ H1, Ex H H1 → sp (vs ++ dvs) H1 (fun _ H' => D.nx σ H') E) : tDrop (tCall sp dvs E ta) D σ H :=
  h H (Ex.refl H) _ fun H1 e => k H1 e
theorem q_callX {sp : Sp} {dvs vs : List V} {E : XK} {ta : TA} (h : EvA ta σ H vs) (k : ∀ H1, Ex H H1 → sp (vs ++ dvs) H1 (fun _ H' => tz D σ H') E) : tSeq (tDrop (tCall sp dvs E ta)) tz D σ H := s_callX (D := { D with nx := tz D }) h k
theorem s_asgX {sp : Sp} {dvs vs : List V} {E : XK} {ta : TA} {i : Nat} (h : EvA ta σ H vs) (k : ∀ H1, Ex H H1 → sp (vs ++ dvs) H1 (fun v H' => D.nx (σ.set i (some v)) H') E) : tAsg (tCall sp dvs E ta) (gName i) D σ H :=
  h H (Ex.refl H) _ fun H1 e => k H1 e
theorem q_asgX {sp : Sp} {dvs vs : List V} {E : XK} {ta : TA} {i : Nat} (h : EvA ta σ H vs) (k : ∀ H1, Ex H H1 → sp (vs ++ dvs) H1 (fun v H' => tz D (σ.set i (some v)) H') E) : tSeq (tAsg (tCall sp dvs E ta) (gName i)) tz D σ H := s_asgX (D := { D with nx := tz D }) h k
theorem s_retX {sp : Sp} {dvs vs : List V} {E : XK} {ta : TA} (h : EvA ta σ H vs) (k : ∀ H1, Ex H H1 → sp (vs ++ dvs) H1 D.rt E) : tRet (tCall sp dvs E ta) D σ H :=
  h H (Ex.refl H) _ fun H1 e => k H1 e
/-! ### comparisons with a list made on the way -/
theorem ev_neLN {a : Addr} {ns ms : List Nat} (ha : Ev ta σ H (.ref a)) (h1 : SqL K H a (vn ns)) (hb : EvL tb σ H (vn ms)) : Ev (tOp (rNeD K) ta tb) σ H (.bl (!decide (ns = ms))) :=
  ev_opL ha hb fun p H1 hp e => rv_neN (ex_l e h1) (sq_of hp)
theorem ev_eqLN {a : Addr} {ns ms : List Nat} (ha : Ev ta σ H (.ref a)) (h1 : SqL K H a (vn ns)) (hb : EvL tb σ H (vn ms)) : Ev (tOp (rEqD K) ta tb) σ H (.bl (decide (ns = ms))) :=
  ev_opL ha hb fun p H1 hp e => rv_eqN (ex_l e h1) (sq_of hp)
theorem ev_neLI {a : Addr} {ns ms : List Int} (ha : Ev ta σ H (.ref a)) (h1 : SqL K H a (vi ns)) (hb : EvL tb σ H (vi ms)) : Ev (tOp (rNeD K) ta tb) σ H (.bl (!decide (ns = ms))) :=
  ev_opL ha hb fun p H1 hp e => rv_neI (ex_l e h1) (sq_of hp)
theorem ev_eqLI {a : Addr} {ns ms : List Int} (ha : Ev ta σ H (.ref a)) (h1 : SqL K H a (vi ns)) (hb : EvL tb σ H (vi ms)) : Ev (tOp (rEqD K) ta tb) σ H (.bl (decide (ns = ms))) :=
  ev_opL ha hb fun p H1 hp e => rv_eqI (ex_l e h1) (sq_of hp)
theorem ev_neN {a b : Addr} {ns ms : List Nat} (ha : Ev ta σ H (.ref a)) (hb : Ev tb σ H (.ref b)) (h1 : SqL K H a (vn ns)) (h2 : SqL K H b (vn ms)) : Ev (tOp (rNeD K) ta tb) σ H (.bl (!decide (ns = ms))) := ev_op ha hb (rv_neN h1 h2)
theorem ev_eqN {a b : Addr} {ns ms : List Nat} (ha : Ev ta σ H (.ref a)) (hb : Ev tb σ H (.ref b)) (h1 : SqL K H a (vn ns)) (h2 : SqL K H b (vn ms)) : Ev (tOp (rEqD K) ta tb) σ H (.bl (decide (ns = ms))) := ev_op ha hb (rv_eqN h1 h2)
theorem ev_lenS {p : Addr} {xs : List V} {n : Nat} (ha : Ev ta σ H (.ref p)) (h : SqL K H p xs) (hn : xs.length = n) : Ev (tCB (rLenS K) (tCons ta tNil)) σ H (nat n) := by
  have k := ev_len ha h
  rw [hn] at k
  exact k
theorem ev_maxN {i j k : Nat} (ha : Ev ta σ H (nat i)) (hb : Ev tb σ H (nat j)) (e : k = Nat.max i j) : Ev (tCB rMax2 (tCons ta (tCons tb tNil))) σ H (nat k) := by
  have q := ev_max2 ha hb
  refine ev_is q ?_
  unfold nat
  rw [e]
  congr 1
  have h2 : Nat.max i j = if i < j then j else i := by
    show max i j = _
    split <;> omega
  rw [h2]
  split
  · rw [if_pos (by omega)]
  · rw [if_neg (by omega)]
/-! ### texts -/
open SX (S)
theorem q_forS {ts : TE} {j : Nat} {cs : List Nat} (h : Ev ts σ H (.str (S cs))) (I : List Nat → L2.St → Hp → Prop) (h0 : ∀ H1, Ex H H1 → I [] σ H1)
    (hs : ∀ pre c post σ' H', cs = pre ++ c :: post → I pre σ' H' → tu { D with nx := I (pre ++ [c]), ct := I (pre ++ [c]), bk := tz D } (σ'.set j (some (.str (S [c])))) H')
    (hd : ∀ σ' H', I cs σ' H' → tz D σ' H') : tSeq (tFor (iStr ts) (gName j) tu) tz D σ H := by
  refine h H (Ex.refl H) _ fun H1 e => ⟨S cs, rfl, ?_⟩
  refine ⟨fun i m σ H => m = cs.length - i ∧ i ≤ cs.length ∧ I (cs.take i) σ H, ⟨cs.length, by simp, Nat.zero_le _, h0 H1 e⟩, ?_⟩
  rintro i m σ H ⟨rfl, hi, p⟩
  have sz : (S cs).cps.size = cs.length := by simp [S]
  by_cases hlt : i < cs.length
  · refine .inr ⟨by show i < (S cs).cps.size; rw [sz]; exact hlt, I (cs.take (i + 1)), fun σ' H' p' => ⟨cs.length - (i + 1), by omega, rfl, hlt, p'⟩, fun x H' y => ?_⟩
    obtain ⟨rfl, c, hc, rfl⟩ := y
    have hc' : cs[i]? = some c := by simpa [S] using hc
    obtain ⟨e1, e2⟩ := take_pre hc'
    have := hs (cs.take i) c (cs.drop (i + 1)) σ _ e1 p
    rw [e2]
    exact this
  · have e : i = cs.length := by omega
    subst e
    refine .inl ⟨by show (S cs).cps.size ≤ cs.length; rw [sz]; exact Nat.le_refl _, hd σ H ?_⟩
    rw [List.take_length] at p
    exact p
theorem ev_catS {a b : List Nat} (ha : Ev ta σ H (.str (S a))) (hb : Ev tb σ H (.str (S b))) (hz : a.length + b.length ≤ 100000) : Ev (tOp (fun x y H Q => ∃ i j, x = .str i ∧ y = .str j ∧ i.length + j.length ≤ sizeLine ∧ Q (.str (i ++ j)) H) ta tb) σ H (.str (S (a ++ b))) :=
  ev_op ha hb fun H1 e Q q => ⟨S a, S b, rfl, rfl, by rw [SX.S_len, SX.S_len]; exact sz_of hz, by rw [SX.S_cat]; exact q H1 (Ex.refl H1)⟩
theorem mul_S (c : Nat) (n : Nat) : Txt.mul (S [c]) (n : Int) = S (List.replicate n c) := by
  unfold Txt.mul
  cases n with
  | zero => rfl
  | succ n =>
    rw [if_neg (by omega)]
    by_cases h1 : n = 0
    · subst h1
      rfl
    · have e1 : (((n + 1 : Nat) : Int) == 1) = false := by simp; omega
      have e2 : ((S [c]).length == 0) = false := rfl
      rw [e1, e2]
      show (if false = true then S [c] else _) = _
      rw [if_neg Bool.false_ne_true, Int.toNat_natCast]
      have key : ∀ (k : Nat) (acc : Array Nat), ((List.replicate k (S [c]).cps).foldl (· ++ ·) acc).toList = acc.toList ++ List.replicate k c := by
        intro k
        induction k with
        | zero => intro acc; simp
        | succ k ih =>
          intro acc
          rw [List.replicate_succ, List.foldl_cons, ih, Array.toList_append, List.replicate_succ, List.append_assoc]
          rfl
      refine TL.ext_tl ?_
      exact (key (n + 1) #[]).trans (by simp [TL.tl, S])
theorem mulOk_S (c : Nat) {n : Nat} (h : n ≤ 100000) : MulOk (S [c]) (n : Int) := by
  have h1 : (S [c]).length = 1 := rfl
  refine ⟨?_, fun h2 _ => ?_, fun _ _ => ?_⟩
  · rw [Bool.or_eq_false_iff]
    exact ⟨decide_eq_false (by omega), decide_eq_false (by omega)⟩
  · rw [h1]
    have h3 : (1 : Int) ≤ (2 ^ 63 - 1) / (n : Int) := by
      refine (Int.le_ediv_iff_mul_le (by omega)).mpr ?_
      omega
    show ¬ (((1 : Nat) : Int) > (2 ^ 63 - 1) / (n : Int))
    omega
  · rw [h1, Int.toNat_natCast]
    unfold Builtin.Str.tooLong
    have h4 : 1 * n ≤ sizeLine := by rw [Nat.one_mul]; exact sz_of h
    exact decide_eq_false (by omega)
theorem ev_mulS {c n : Nat} (ha : Ev ta σ H (.str (S [c]))) (hb : Ev tb σ H (nat n)) (hz : n ≤ 100000) : Ev (tOp rMulS ta tb) σ H (.str (S (List.replicate n c))) :=
  ev_op ha hb fun H1 e Q q => ⟨S [c], (n : Int), rfl, rfl, mulOk_S c hz, by rw [mul_S]; exact q H1 (Ex.refl H1)⟩
/-- "".join(new list of texts) -/
def rJoin (K : PySem.W.Frag) : V → List V → Hp → VK → Prop := fun x xs H Q => ∃ a p, ∃ ys : List Str, x = .str a ∧ xs = [.ref p] ∧ (SqL K H p (ys.map V.str) ∨ SqT K H p (ys.map V.str)) ∧
      (ys.map (·.length)).sum + ys.length * a.length ≤ 16777216 ∧ Q (.str (Txt.join a ys)) H
theorem ev_joinL {a : List Nat} {ys : List (List Nat)} (ha : Ev ta σ H (.str (S a))) (hb : EvL tb σ H (ys.map fun y => V.str (S y))) (hz : (ys.map (·.length)).sum + ys.length * a.length ≤ 16777216) :
    Ev (tM1 (rJoin K) ta tb) σ H (.str (S (TL.joinL a ys))) := fun H1 e Q q =>
  ha H1 e _ fun H2 e2 => ⟨⟨_, rfl⟩, hb H2 (e.trans e2) _ fun p H3 _ e3 hp => ⟨S a, p, ys.map S, rfl, rfl, .inl (sq_of (by rw [List.map_map]; exact hp)), by
    rw [List.map_map, List.length_map, SX.S_len]
    have e4 : ((fun y : Str => y.length) ∘ S) = fun y : List Nat => y.length := funext fun y => SX.S_len y
    rw [e4]
    exact hz, by rw [SX.join_S]; exact q H3 (e2.trans e3)⟩⟩
end
end Pk
namespace Pk
open PySem PySem.Spec PyProof.Rows L2 Evl He
/-! ### errors: what leaves a def, what is caught -/
theorem passN {X : Cx} : Passes (L2N.CX X.prog X.w) X E0 := fun _ _ _ _ _ _ _ h => by
  obtain ⟨_, _, _, _, _, _, _, _, _, _, _, _, z⟩ := h
  exact z.elim
theorem takesN {X : Cx} : L2N.Takes X (fun _ _ _ _ => False) := fun _ _ x => by
  obtain ⟨_, _, _, _, _, _, _, _, _, _, _, _, _, _, _, _, z⟩ := x
  exact z.elim
/-- the end of a list's walk while an exception is handled -/
theorem list_end_hot {prog : Program} {w : World} {A : Around} {E : Value → Shared → Prop} {s : Shared} {it l x1 : Addr} {i : Nat} {items : Array Value} {Q : Option Value → Shared → Prop} (hot : HotX.HotAt A x1 s.heap) (hne : x1 ≠ it)
    (hit : s.heap.IsListIter it l i) (hl : s.heap.IsList l items) (hx : items[i]? = none)
    (hQ : ∀ h', Heap.ExtBut it s.heap h' → Q none { s with heap := h' }) : wpAny (model prog w) A (pyNext (.ref it)) Q E s := by
  obtain ⟨o, ho, hc, hd⟩ := id hit
  obtain ⟨ol, hol, _, nl, hdl⟩ := hl
  obtain ⟨hh, o1, vs1, h1, d1, c1⟩ := hot
  unfold pyNext
  refine wpAny_bind (wpAny_attempt (wpAny_callSpecial?_slot (name := Str.ofString "__next__") hit.typeIs slot_listiter_next
    (wpAny_call_entry slot_listiter_next hit.typeIs entry_listiter_next ?_ (args_listiter_next _))))
  show wpAny _ _ (field (.ref it) 0 >>= _) _ _ s
  refine wpAny_bind (wpAny_field ho hd (x := .ref l) rfl ?_)
  show wpAny _ _ (if (Value.ref l == Value.none) = true then _ else _) _ _ s
  rw [if_neg (show ¬ ((Value.ref l == Value.none) = true) from Bool.false_ne_true)]
  show wpAny _ _ (field (.ref it) 1 >>= _) _ _ s
  refine wpAny_bind (wpAny_field ho hd (x := .int i 0) rfl ?_)
  show wpAny _ _ (seqItems? (.ref l) >>= _) _ _ s
  refine wpAny_bind (wpAny_seqItems hol hdl ?_)
  simp only [Int.toNat_natCast, hx]
  refine wpAny_bind (wpAny_rule (wpAny_bind (wpAny_setField ho hd (by simp) ?_)))
  show wpAny _ _ (newExc (.type "StopIteration") [] >>= _) _ _ _
  refine wpAny_bind ?_
  simp only [newExc, newTuple]
  refine wpAny_bind (wpAny_newObj_type ?_ (by size_fits))
  refine wpAny_bind (m := firstArgMember _ _) (wpAny_of_eq (a := Value.none) (by first | rfl | (simp only [firstArgMember]; rfl)) ?_)
  refine wpAny_newObj_type ?_ (by size_fits)
  refine HotX.raiseNew_hot (x1 := x1) ⟨hh, o1, vs1, ?_, d1, c1⟩ ?_ (Heap.get?_push_size _ rfl) rfl (by first | (simp; done) | (simp; omega) | (simp only [Array.size_append]; simp; omega)) ?_
  · exact Heap.get?_push_of_some _ (Heap.get?_push_of_some _ ((Heap.get?_update_other _ _ (Ne.symm hne)).trans h1))
  · exact Nat.ne_of_lt (Heap.lt_size (Heap.get?_push_of_some _ ((Heap.get?_update_other _ _ (Ne.symm hne)).trans h1)))
  refine wpAny_bind (wpAny_isInstance (T := "StopIteration") (b := true) ⟨_, Heap.get?_update_self _ (Heap.get?_push_size _ rfl) rfl, rfl⟩ isSubtype_stop ?_)
  refine wpAny_pure (hQ _ fun b ob hb e => ?_)
  have e1 := (Heap.get?_update_other s.heap (Obj.mapFields fun x => x.setIfInBounds 0 Value.none) (Ne.symm hb)).trans e
  rw [Heap.get?_update_other _ _ (Nat.ne_of_gt (Heap.lt_size (Heap.get?_push_of_some _ e1)))]
  exact Heap.get?_push_of_some _ (Heap.get?_push_of_some _ e1)
/-- x1 is an exception whose context is None -/
def CtxAt (h : Heap) (x1 : Addr) : Prop := ∃ (o : Obj) (vs : Array Value), h.get? x1 = some o ∧ o.data = .fields vs ∧ vs[2]? = some .none
theorem walks_hot {prog : Program} {w : World} {A : Around} {x1 : Addr} (hh : A.handled = some (.ref x1)) (I ax : Addr) (hne : ax ≠ I) (hx : x1 ≠ I) (items : Array Value) :
    Walks prog w A I [I, ax, x1] [I] items.size (fun i v => items[i]? = some v) (fun i h => h.IsListIter I ax i ∧ h.IsList ax items ∧ CtxAt h x1) where
  sub := fun b hb => by simp at hb; simp [hb]
  frame := fun _ _ _ st hk => ⟨st.1.at fun o e => hk I (by simp) o e, st.2.1.at fun o e => hk ax (by simp) o e, by
    obtain ⟨o, vs, e, r⟩ := st.2.2
    exact ⟨o, vs, hk x1 (by simp) o e, r⟩⟩
  item := fun i s Q E hi st hQ => by
    refine wpAny_pyNext_list_item st.1 st.2.1 (x := items[i]) (by simp [hi]) fun h' hit' hs' => ?_
    refine hQ _ h' s.toks (by simp [hi]) ⟨hit', st.2.1.extBut hs'.extBut hne, ?_⟩ fun b o hb e => hs'.extBut b o (fun h => hb (by simp [h])) e
    obtain ⟨o, vs, e, r⟩ := st.2.2
    exact ⟨o, vs, hs'.extBut x1 o hx e, r⟩
  done := fun s Q E st hQ => by
    obtain ⟨o, vs, e, r⟩ := st.2.2
    exact list_end_hot ⟨hh, o, vs, e, r⟩ hx st.1 st.2.1 (by simp) fun h' he' => hQ h' s.toks fun b o hb e => he' b o (fun h => hb (by simp [h])) e
  self := fun _ _ _ _ st hQ => wpAny_pyIter_listiter st.1 hQ
/-- any(xs) while an exception is handled -/
theorem cr_anyH {X : Cx} (hc : L2H.HotC X) : CallR X (.builtin "any") (rAny X.K) := by
  intro pins s σ H vs us Q I r h
  obtain ⟨a, bs, rfl, hs, q⟩ := h
  obtain ⟨its, rv, hl, _⟩ := I.list hs
  rw [Vals.ref1 r]
  have hb := rv.bls
  obtain ⟨x1, hh, o1, vs1, h1, d1, c1⟩ := hc.at I
  have hlt1 := Heap.lt_size h1
  refine call_any_walk (iter_any hl.isList fun s₂ e2 st hne => ?_)
  subst e2
  refine ⟨_, _, _, _, _, _, _, rfl, walks_hot (A := X.A.in1) hh _ a hne (Nat.ne_of_lt hlt1) its.toArray, ⟨st.1, st.2, o1, vs1, Heap.get?_push_of_some _ h1, d1, c1⟩, truth_bools hb, fun h' tk hk => ?_⟩
  refine ⟨.bl _, H, I.kept fun b o eo => hk b o (fun hmem => ?_) (Heap.get?_push_of_some _ eo), ?_, q⟩
  · rcases List.mem_cons.mp hmem with e1 | hmem
    · exact absurd (e1 ▸ Heap.lt_size eo) (Nat.lt_irrefl _)
    · cases hmem
  · show Value.bool _ = Value.bool _
    rw [← L2.any_range, hb, List.size_toArray, List.length_map]
theorem hot_suite {X : Cx} {a : Addr} {oe : Obj} {cls : Value} {d : Option Addr} {pn : List (Addr × Obj)} (hz : L2N.Zn cls d oe) (hf : ∃ vs, oe.data = .fields vs) : L2H.HotC (X.suite a ((a, oe) :: pn)) := by
  obtain ⟨vs, e⟩ := hf
  exact ⟨(a, oe), ⟨rfl, vs, e, hz.2.2 vs e⟩, List.mem_cons_self⟩
/-- isinstance(e, c) in the suite, whatever own class e is of -/
def rIsE2 (K : PySem.W.Frag) (cls : Value) (d : Option Addr) (a : Addr) : List V → Hp → VK → Prop := fun xs H Q => ∃ D, cls = .ref D ∧ d = none ∧ ExcC K D ∧ rIsE K D a xs H Q
theorem call_isE2 {X : Cx} {a : Addr} {oe : Obj} {cls : Value} {d : Option Addr} {pn : List (Addr × Obj)} (hz : L2N.Zn cls d oe) (hf : ∃ vs, oe.data = .fields vs) : CallR (X.suite a ((a, oe) :: pn)) (.builtin "isinstance") (rIsE2 X.K cls d a) := by
  intro pins s σ H xs us Q I r h
  obtain ⟨D, rfl, rfl, C, h⟩ := h
  exact call_isE C hz.zc hf pins s σ H xs us Q I r h
/-- of several defs that a slot may hold, that may raise -/
structure HeldX (P : Program) (w : World) (K : PySem.W.Frag) (mg : Str → Option Value) (base : Heap) (k : Nat) (f : Addr) (sp : Sp) : Prop where
  ex : ∃ (fd : FuncData) (ps : List Str), FnOk P w K mg base (L2N.CX P w) k f fd ps sp ∧ PySem.W.keepIn K (.ref f) = true ∧ Binds K fd ps []
def tCallX (i : Nat) (SP : Addr → Sp → Prop) (E : L2.St → XK) (t : TA) : TE := fun σ H Q => ∃ f sp, σ[i]? = some (some (.ref f)) ∧ SP f sp ∧ t σ H fun vs H1 => sp vs H1 Q (E σ)
theorem pe_callX {X : Cx} {k i : Nat} {SP : Addr → Sp → Prop} {E : L2.St → XK} {x : Str} {p pos : Pos} {e : Expr} {es : List Expr} {t : TA} (L : ∀ f sp, SP f sp → HeldX X.prog X.w X.K X.mg X.base k f sp) (hr : Room k X.A) (hN : X.N[i]? = some x) (hv : Vis X.env.scope x)
    (hx : ∀ σ, PassesAt (L2N.CX X.prog X.w) X σ (E σ)) (ha : PA X (e :: es) t)
    (hdb : (x == ("__debug__" : Str)) = false := by decide) (hcd : (x == ("__classdict__" : Str)) = false := by decide)
    (he : starEach (e :: es) X.env = (false, eval e X.env) :: starEach es X.env := by rfl) (hpl : (backTo pos (starEach es X.env)).any (·.1) = false := by rfl) : PE X (.Call (.Name x p) (e :: es) [] pos) (tCallX i SP E t) := by
  refine ⟨fun pins s σ H Q I h => ?_⟩
  obtain ⟨f, sp, hs, hS, ht⟩ := h
  obtain ⟨fd, ps, F, hk, hb⟩ := (L f sp hS).ex
  refine wpAny_Call_Name_kw (thn ((pe_var (pos := p) hN hv hdb hcd).run pins s σ H (fun v H1 => v = .ref f ∧ H1 = H) I ⟨.ref f, hs, rfl, rfl⟩) fun u s1 ⟨v, H1, I1, r1, q1⟩ => ?_)
  obtain ⟨rfl, rfl⟩ := q1
  cases r1
  refine PySem.W.callWith_K (h₀ := X.base) I.ok.mod.kin hk (thn (ha.run pos pins s1 σ _ _ I1 ht) fun us s2 ⟨vs, H2, I2, r, q⟩ => ⟨I2.kIn, ?_⟩) he hpl
  exact run_fnS F hr hb (hx σ) I2 r q
end Pk
namespace Pk
open PySem PySem.Spec PyProof.Rows L2 Evl He
open SX (S)
/-- z[::-1] of a text -/
def tRevS (te : TE) : TE := fun σ H Q => te σ H fun x H1 => ∃ z : List Nat, x = .str (S z) ∧ z.length ≤ sizeLine ∧ Q (.str (S z.reverse)) H1
theorem revS_idx (z : List Nat) : (Builtin.Str.strSliceIndices none none (-1) z.length).filterMap ((S z).cps[·]?) = z.reverse := by
  have e1 : Builtin.Str.strSliceIndices none none (-1) z.length = (List.range z.length).reverse := by
    have e0 : Builtin.Str.strSliceIndices none none (-1) z.length = sliceRange ((z.length : Int) - 1) (-1) (-1) := rfl
    rw [e0, PySem.W.krv_sliceRange, PySem.W.krv_range]
  have e2 := PySem.W.krv_all (S z).cps
  rw [e1, List.filterMap_reverse]
  have e3 : (S z).cps.size = z.length := by simp [S]
  rw [e3] at e2
  rw [e2]
theorem pe_revS {X : Cx} {pos : Pos} {e : Expr} {te : TE} {k : Nat} {p1 p2 p3 : Pos} (he : PE X e te) : PE X (.Subscript e (.Slice none none (some (.UnaryOp .USub (.Constant (.int 1) k p1) p2)) p3) pos) (tRevS te) := by
  refine ⟨fun pins s σ H Q I h => ?_⟩
  refine Subscript_ (thn (he.run pins s σ H _ I h) fun v s1 ⟨x, H1, I1, r1, q1⟩ => ?_)
  obtain ⟨z, ex, hz, q⟩ := q1
  subst ex
  obtain ⟨t, rfl⟩ := r1
  have hst : PO X (some (.UnaryOp .USub (.Constant (.int 1) k p1) p2)) (tPart (tUn (rU fun i => .int (-i)) (tC (.int 1)))) := po_some (pe_un un_neg pe_int)
  refine wpAny_Slice (thn (po_none.run pins s1 σ H1 (fun o H2 => o = none ∧ H2 = H1) I1 ⟨rfl, rfl⟩) fun vl s2 ⟨l, H2, I2, pl, el, e2⟩ => ?_)
  subst el e2
  refine thn (po_none.run pins s2 σ H2 (fun o H3 => o = none ∧ H3 = H2) I2 ⟨rfl, rfl⟩) fun vu s3 ⟨u, H3, I3, pu, eu, e3⟩ => ?_
  subst eu e3
  refine thn (hst.run pins s3 σ H3 (fun o H4 => o = some (-1) ∧ H4 = H3) I3 ⟨1, rfl, -1, rfl, rfl, rfl⟩) fun vs s4 ⟨o, H4, I4, ps, eo, e4⟩ => ?_
  subst eo e4
  have I5 : Inv X pins σ H4 { s4 with heap := s4.heap.push { cls := .type "slice", data := .fields #[vl, vu, vs] } } := I4.kept (t' := s4.toks) fun b ob q => Heap.get?_push_of_some _ q
  obtain ⟨l, hl1, hl2⟩ := IsPart.raw pl
  obtain ⟨u, hu1, hu2⟩ := IsPart.raw pu
  obtain ⟨st, hs1, hs2⟩ := IsPart.raw ps
  have hlN : l = none := by cases l with
    | none => rfl
    | some y => cases hl2
  have huN : u = none := by cases u with
    | none => rfl
    | some y => cases hu2
  subst hlN huN
  show wpAny (model X.prog X.w) X.A (subscriptTail e (.Slice none none (some (.UnaryOp .USub (.Constant (.int 1) k p1) p2)) p3) (.str (S z) t) (.ref s4.heap.objs.size)) (EP X pins σ Q) X.xe { s4 with heap := s4.heap.push { cls := .type "slice", data := .fields #[vl, vu, vs] } }
  refine tail_any (ops := [.ref s4.heap.objs.size, .str (S z) t]) (typeIs_str _ _ _) F.slot_str_getitem.lookup ?_ (by with_unfolding_all rfl)
  have hst2 : (st.map (·.1)).getD 1 = -1 := by rw [hs2]; rfl
  refine wpAny_getItem_str_slice (l := none) (u := none) (st := st) ⟨_, Heap.get?_push_size _ rfl, rfl, by rw [hl1, hu1, hs1]⟩ (by rw [hst2]; rfl) ?_
  show Made.post (if ((st.map (·.1)).getD 1 == 1 && (slicePicked (S z) none none st).length == (S z).length) = true then Made.val (.str (S z) t) else Made.str ⟨((slicePicked (S z) none none st).filterMap ((S z).cps[·]?)).toArray⟩) _ _
  have hp : slicePicked (S z) none none st = Builtin.Str.strSliceIndices none none (-1) z.length := by
    unfold slicePicked
    rw [hst2, SX.S_len]
    rfl
  rw [hst2, if_neg (by simp), hp, revS_idx]
  exact ⟨by show (S z.reverse).length ≤ sizeLine; rw [SX.S_len, List.length_reverse]; exact hz, .str (S z.reverse), H4, I5.tok _, ⟨_, rfl⟩, q⟩
end Pk
namespace Pk
open PySem PySem.Spec PyProof.Rows L2 Evl He
open SX (S)
section
variable {K : PySem.W.Frag} {σ : L2.St} {H H' : Hp} {ta tb te tx : TE} {t u : TT} {x y z v : V} {r : R2} {D : Ends} {tu tw tz : TS} {g : TG}
/-! ### what is told by a relation -/
def EvP (te : TE) (σ : L2.St) (H : Hp) (Φ : V → Hp → Prop) : Prop := ∀ H1, Ex H H1 → ∀ Q : VK, (∀ v H2, Ex H1 H2 → Φ v H2 → Q v H2) → te σ H1 Q
theorem ev_opP {Φ : V → Hp → Prop} (ha : EvP ta σ H Φ) (hk : ∀ x H1, Ex H H1 → Φ x H1 → ∀ Q : VK, (∀ H2, Ex H1 H2 → Q z H2) → tb σ H1 fun y H2 => r x y H2 Q) : Ev (tOp r ta tb) σ H z := fun H1 e Q q =>
  ha H1 e _ fun x H2 e2 hx => hk x H2 (e.trans e2) hx Q fun H3 e3 => q H3 (e2.trans e3)
/-- the first operand a new tuple -/
theorem ev_opU1 {xs : List V} (ha : EvU ta σ H xs) (hb : ∀ H1, Ex H H1 → Ev tb σ H1 y) (hr : ∀ p H1, H1 p = some (.tup xs) → Ex H H1 → RV r (.ref p) y H1 z) : Ev (tOp r ta tb) σ H z := fun H1 e Q q =>
  ha H1 e _ fun p H2 _ e2 hp => hb H2 (e.trans e2) H2 (Ex.refl H2) _ fun H3 e3 => hr p H3 (e3 p _ hp) ((e.trans e2).trans e3) H3 (Ex.refl H3) Q fun H4 e4 => q H4 ((e2.trans e3).trans e4)
/-- (a, b, ..)[i] -/
theorem ev_ixU {xs : List V} {i : Nat} (ha : EvU ta σ H xs) (hb : ∀ H1, Ex H H1 → Ev tb σ H1 (nat i)) (hi : xs[i]? = some v) : Ev (tOp (rIxT K) ta tb) σ H v := ev_opU1 ha hb fun p H1 hp _ => rv_ixT (st_of hp) (at_nat hi)
/-- [a, b, ..][i] -/
theorem ev_ixL {xs : List V} {i : Nat} (ha : EvL ta σ H xs) (hb : ∀ H1, Ex H H1 → Ev tb σ H1 (nat i)) (hi : xs[i]? = some v) : Ev (tOp (rIxL K) ta tb) σ H v := ev_opL1 ha hb fun p H1 hp _ => rv_ixL (sq_of hp) (at_nat hi)
/-- xs + ys -/
theorem el_cat {p : Addr} {xs ys : List V} (ha : Ev ta σ H (.ref p)) (hp : H p = some (.lst xs)) (hb : EvL tb σ H ys) (hz : xs.length + ys.length ≤ 100000) : EvL (tOp rCat ta tb) σ H (xs ++ ys) := fun H1 e Q q =>
  ha H1 e _ fun H2 e2 => hb H2 (e.trans e2) _ fun b H3 _ e3 h3 => ⟨p, b, xs, ys, rfl, rfl, e3 p _ (e2 p _ (e p _ hp)), h3, sz_of hz, fun d hd => q d _ (fresh_back (e2.trans e3) hd) ((e2.trans e3).trans (Ex.new hd)) upd_same⟩
theorem rc_any {a : Addr} {bs : List Bool} (h : SqL K H a (bs.map V.bl)) : RC (rAny K) [.ref a] H (.bl (bs.any id)) := fun H1 e Q q => ⟨a, bs, rfl, ex_l e h, q H1 (Ex.refl H1)⟩
/-- a, b, c = t -/
theorem q_un3 {i j k : Nat} {Φ : V → Hp → Prop} (h : EvP te σ H Φ) (hk : ∀ x H1, Ex H H1 → Φ x H1 → ∃ a v1 v2 v3, x = .ref a ∧ SqT K H1 a [v1, v2, v3] ∧ tz D (((σ.set i (some v1)).set j (some v2)).set k (some v3)) H1) :
    tSeq (tAsg te (gTup K 3 (gCons (gName i) (gCons (gName j) (gCons (gName k) gNil))))) tz D σ H := h H (Ex.refl H) _ fun x H1 e hx => by
  obtain ⟨a, v1, v2, v3, rfl, hS, q⟩ := hk x H1 e hx
  exact ⟨a, _, rfl, hS, rfl, v1, [v2, v3], rfl, v2, [v3], rfl, v3, [], rfl, rfl, q⟩
theorem q_try {tb2 : WX → TS} {c : Value} {i : Nat} {ts : Addr → Value → Option Addr → TS} {Wout : WX} (h : tb2 (wAs K c i ts Wout { D with nx := tz D }) { D with nx := tz D } σ H) : tSeq (fun D σ H => tb2 (wAs K c i ts Wout D) D σ H) tz D σ H := h
end
/-! ### errors: what the classes tell -/
def errNames : List Str := ["BadWishes", "TooMany", "BadTree", "BadPath", "BadStanding", "BadText"]
structure ErrX (K : PySem.W.Frag) (x : Str) : Prop where
  exm : PySem.W.exmOne K (.ref (ga K x)) (.ref (ga K "StreetError")) = some true
  cc : ExcC K (ga K x)
  kit : ∀ y ∈ errNames, PySem.W.kitOne K (.ref (ga K x)) (.ref (ga K y)) = some (decide (x = y))
  ve : PySem.W.kitOne K (.ref (ga K x)) (.type "ValueError") = some true
def errB (K : PySem.W.Frag) (x : Str) : Bool :=
  decide (PySem.W.exmOne K (.ref (ga K x)) (.ref (ga K "StreetError")) = some true) && (eqO (PySem.W.findIn K (.ref (ga K x)) "__getattribute__") (some (some (.builtin "BaseException.__getattribute__"))) && (eqO (PySem.W.findIn K (.ref (ga K x)) "__getattr__") (some none) &&
  (decide (PySem.W.subIn K (.ref (ga K x)) (.type "BaseException") = some true) && (PySem.W.hasDictIn K (ga K x) && (eqO (PySem.W.findIn K (.ref (ga K x)) "__class__") (some (some (.builtin "object.__class__"))) && (eqO (PySem.W.specialIn K (.builtin "object.__class__") "__get__") (some (some (.builtin "getset_descriptor.__get__"))) &&
  (decide (PySem.W.takesIn K (.builtin "object.__class__") = some true) && (decide (PySem.W.mroIn K (ga K x) (.type "object") = some true) && ((errNames.all fun y => decide (PySem.W.kitOne K (.ref (ga K x)) (.ref (ga K y)) = some (decide (x = y)))) && decide (PySem.W.kitOne K (.ref (ga K x)) (.type "ValueError") = some true))))))))))
theorem errX_of {K : PySem.W.Frag} {x : Str} (h : errB K x = true) : ErrX K x := by
  obtain ⟨a1, h⟩ := ba h
  obtain ⟨a2, h⟩ := ba h
  obtain ⟨a3, h⟩ := ba h
  obtain ⟨a4, h⟩ := ba h
  obtain ⟨a5, h⟩ := ba h
  obtain ⟨a6, h⟩ := ba h
  obtain ⟨a7, h⟩ := ba h
  obtain ⟨a8, h⟩ := ba h
  obtain ⟨a9, h⟩ := ba h
  obtain ⟨b1, b2⟩ := ba h
  exact ⟨of_decide_eq_true a1, ⟨eqO_ok a2, eqO_ok a3, of_decide_eq_true a4, a5, eqO_ok a6, eqO_ok a7, of_decide_eq_true a8, of_decide_eq_true a9⟩, fun y hy => of_decide_eq_true (List.all_eq_true.mp b1 y hy), of_decide_eq_true b2⟩
section
variable {K : PySem.W.Frag} {H : Hp} {a : Addr} {x y : Str}
theorem rc_isE (E : ErrX K x) (hy : y ∈ errNames) {b : Bool} (hb : decide (x = y) = b) : RC (rIsE2 K (.ref (ga K x)) none a) [.ref a, .ref (ga K y)] H (.bl b) := fun H1 e Q q =>
  ⟨ga K x, rfl, rfl, E.cc, .ref (ga K y), .ref (ga K y), b, rfl, fun u r => r, by rw [E.kit y hy, hb], q H1 (Ex.refl H1)⟩
theorem rc_isVE (E : ErrX K x) : RC (rIsE2 K (.ref (ga K x)) none a) [.ref a, .ty "ValueError"] H (.bl true) := fun H1 e Q q =>
  ⟨ga K x, rfl, rfl, E.cc, .ty "ValueError", .type "ValueError", true, rfl, fun u r => r, E.ve, q H1 (Ex.refl H1)⟩
end
end Pk
namespace Pk
open PySem PySem.Spec PyProof.Rows L2 Evl He
open SX (S)
section
variable {K : PySem.W.Frag} {σ : L2.St} {H H' : Hp} {ta tb te tx : TE} {t u : TT} {x y z v : V} {r : R2} {D : Ends} {tu tw tz : TS} {g : TG}
/-- for y in a new list: I: by the list's address and the prefix gone -/
theorem q_forNP {α : Type} {ys : List α} (c : α → V) {tl : TE} {j : Nat} (h : EvL tl σ H (ys.map c)) (I : Addr → List α → L2.St → Hp → Prop) (h0 : ∀ p H1, H p = none → Ex H H1 → H1 p = some (.lst (ys.map c)) → I p [] σ H1)
    (hl : ∀ p pre σ' H', I p pre σ' H' → SqL K H' p (ys.map c))
    (hs : ∀ p pre y post σ' H', ys = pre ++ y :: post → I p pre σ' H' → tu { D with nx := I p (pre ++ [y]), ct := I p (pre ++ [y]), bk := tz D } (σ'.set j (some (c y))) H')
    (hd : ∀ p σ' H', I p ys σ' H' → tz D σ' H') : tSeq (tFor (iList K tl) (gName j) tu) tz D σ H :=
  q_forNLn h (fun p i => I p (ys.take i)) (fun p H1 hp e h1 => h0 p H1 hp e h1) (fun p i σ' H' _ q => hl p _ σ' H' q) (fun p i x σ' H' hi q => by
    obtain ⟨y, hy, rfl⟩ := vmap_get hi
    obtain ⟨e1, e2⟩ := take_pre hy
    have := hs p (ys.take i) y (ys.drop (i + 1)) σ' H' e1 q
    rw [e2]
    exact this) (fun p σ' H' q => hd p σ' H' (by rw [List.length_map, List.take_length] at q; exact q))
end
end Pk
namespace Pk
open PySem PySem.Spec PyProof.Rows L2 Evl He
open SX (S)
section
variable {K : PySem.W.Frag} {σ : L2.St} {H H' : Hp} {ta tb te tx tl : TE} {t u : TT} {x y z v : V} {r : R2} {D : Ends} {tu tw tz : TS} {g : TG} {α : Type} {ys : List α}
/-! ### enumerate -/
abbrev gPair (K : PySem.W.Frag) (j1 j2 : Nat) : TG := gTup K 2 (gCons (gName j1) (gCons (gName j2) gNil))
theorem s_forE0 {a : Addr} {j1 j2 : Nat} (c : α → V) (hx : SqL K H a (ys.map c)) (I : Nat → L2.St → Hp → Prop) (h0 : I 0 σ H)
    (hl : ∀ i σ' H', I i σ' H' → SqL K H' a (ys.map c))
    (hs : ∀ i y σ' H', ys[i]? = some y → I i σ' H' → ∀ H1, Ex H' H1 → tu { D with nx := I (i + 1), ct := I (i + 1), bk := D.nx } ((σ'.set j1 (some (nat i))).set j2 (some (c y))) H1)
    (hd : ∀ σ' H', I ys.length σ' H' → D.nx σ' H') :
    ∃ W : Nat → Nat → L2.St → Hp → Prop, (∃ m, W 0 m σ H) ∧ ∀ i m σ H, W i m σ H →
      ((Ite K a).stop i H ∧ D.nx σ H) ∨ ((Ite K a).go i H ∧ ∃ N : L2.St → Hp → Prop, (∀ σ' H', N σ' H' → ∃ m', m' < m ∧ W (i + 1) m' σ' H') ∧ ∀ x H', (Ite K a).yld i H x H' → gPair K j1 j2 x σ H' fun σ2 H2 => tu { D with nx := N, ct := N, bk := D.nx } σ2 H2) := by
  refine ⟨fun i m σ H => m = ys.length - i ∧ i ≤ ys.length ∧ I i σ H, ⟨ys.length, by simp, Nat.zero_le _, h0⟩, ?_⟩
  rintro i m σ H ⟨rfl, hi, p⟩
  have q := hl i σ H p
  by_cases hlt : i < ys.length
  · have hy : ys[i]? = some ys[i] := List.getElem?_eq_getElem hlt
    have hcy : (ys.map c)[i]? = some (c ys[i]) := by rw [List.getElem?_map, hy]; rfl
    refine .inr ⟨⟨ys.map c, c ys[i], q, hcy⟩, I (i + 1), fun σ' H' p' => ⟨ys.length - (i + 1), by omega, rfl, hlt, p'⟩, fun x H' hyl => ?_⟩
    obtain ⟨T, x1, rfl, hT, rfl, hx1⟩ := hyl
    have e1 : x1 = c ys[i] := Option.some.inj ((hx1 _ q).symm.trans hcy)
    subst e1
    exact ⟨T, _, rfl, st_of upd_same, rfl, _, _, rfl, _, _, rfl, rfl, hs i ys[i] σ H hy p _ (Ex.new hT)⟩
  · have e : i = ys.length := by omega
    subst e
    exact .inl ⟨⟨ys.map c, q, by rw [List.length_map]; exact Nat.le_refl _⟩, hd σ H p⟩
theorem s_forE {a : Addr} {j1 j2 : Nat} (c : α → V) (h : Ev tl σ H (.ref a)) (hx : SqL K H a (ys.map c)) (I : Nat → L2.St → Hp → Prop) (h0 : ∀ H1, Ex H H1 → I 0 σ H1)
    (hl : ∀ i σ' H', I i σ' H' → SqL K H' a (ys.map c))
    (hs : ∀ i y σ' H', ys[i]? = some y → I i σ' H' → ∀ H1, Ex H' H1 → tu { D with nx := I (i + 1), ct := I (i + 1), bk := D.nx } ((σ'.set j1 (some (nat i))).set j2 (some (c y))) H1)
    (hd : ∀ σ' H', I ys.length σ' H' → D.nx σ' H') : tFor (iEnum K (tCons tl tNil)) (gPair K j1 j2) tu D σ H :=
  h H (Ex.refl H) _ fun H1 e => ⟨a, ys.map c, rfl, ex_l e hx, s_forE0 c (ex_l e hx) I (h0 H1 e) hl hs hd⟩
theorem q_forE {a : Addr} {j1 j2 : Nat} (c : α → V) (h : Ev tl σ H (.ref a)) (hx : SqL K H a (ys.map c)) (I : Nat → L2.St → Hp → Prop) (h0 : ∀ H1, Ex H H1 → I 0 σ H1)
    (hl : ∀ i σ' H', I i σ' H' → SqL K H' a (ys.map c))
    (hs : ∀ i y σ' H', ys[i]? = some y → I i σ' H' → ∀ H1, Ex H' H1 → tu { D with nx := I (i + 1), ct := I (i + 1), bk := tz D } ((σ'.set j1 (some (nat i))).set j2 (some (c y))) H1)
    (hd : ∀ σ' H', I ys.length σ' H' → tz D σ' H') : tSeq (tFor (iEnum K (tCons tl tNil)) (gPair K j1 j2) tu) tz D σ H := s_forE (D := { D with nx := tz D }) c h hx I h0 hl hs hd
/-- over a new list -/
theorem q_forEN {j1 j2 : Nat} (c : α → V) (h : EvL tl σ H (ys.map c)) (I : Addr → Nat → L2.St → Hp → Prop) (h0 : ∀ p H1, H p = none → Ex H H1 → H1 p = some (.lst (ys.map c)) → I p 0 σ H1)
    (hl : ∀ p i σ' H', I p i σ' H' → SqL K H' p (ys.map c))
    (hs : ∀ p i y σ' H', ys[i]? = some y → I p i σ' H' → ∀ H1, Ex H' H1 → tu { D with nx := I p (i + 1), ct := I p (i + 1), bk := tz D } ((σ'.set j1 (some (nat i))).set j2 (some (c y))) H1)
    (hd : ∀ p σ' H', I p ys.length σ' H' → tz D σ' H') : tSeq (tFor (iEnum K (tCons tl tNil)) (gPair K j1 j2) tu) tz D σ H :=
  h H (Ex.refl H) _ fun p H1 hp e h1 => ⟨p, ys.map c, rfl, sq_of h1, s_forE0 (D := { D with nx := tz D }) c (sq_of h1) (I p) (h0 p H1 hp e h1) (hl p) (hs p) (hd p)⟩
/-- comprehensions over enumerate: by the place and the item -/
def enumF (ys : List α) (f : Nat → α → Bool) (g : Nat → α → V) : List V := (ys.zipIdx.filter fun q => f q.2 q.1).map fun q => g q.2 q.1
theorem given_enum (f : Nat → α → Bool) (g : Nat → α → V) (d : α) : given ys.length (fun i => f i (ys.getD i d)) (fun i => g i (ys.getD i d)) = enumF ys f g := by
  have key : ∀ n, n ≤ ys.length → given n (fun i => f i (ys.getD i d)) (fun i => g i (ys.getD i d)) = ((ys.zipIdx.take n).filter fun q => f q.2 q.1).map fun q => g q.2 q.1 := by
    intro n
    induction n with
    | zero => intro _; rfl
    | succ n ih =>
      intro hn
      have hlt : n < ys.length := hn
      have e : ys.zipIdx[n]? = some (ys.getD n d, n) := by
        rw [List.getElem?_zipIdx, List.getElem?_eq_getElem hlt, List.getD_eq_getElem?_getD, List.getElem?_eq_getElem hlt]
        simp
      rw [List.take_add_one, e]
      cases hf : f n (ys.getD n d) with
      | true =>
        rw [given_yes (f := fun i => f i (ys.getD i d)) hf, ih (by omega)]
        generalize ys.getD n d = z at hf
        simp [hf]
      | false =>
        rw [given_no (f := fun i => f i (ys.getD i d)) hf, ih (by omega)]
        generalize ys.getD n d = z at hf
        simp [hf]
  have h := key ys.length (Nat.le_refl _)
  rw [List.take_of_length_le (by rw [List.length_zipIdx]; exact Nat.le_refl _)] at h
  exact h
theorem lc_enum0 {a : Addr} {j1 j2 : Nat} {vs : List Nat} {H1 : Hp} {Dl : Addr} {Qd : Hp → Prop} (c : α → V) (f : Nat → α → Bool) (g : Nat → α → V) (hx : SqL K H1 a (ys.map c)) (hz : ys.length ≤ 40000) (hD : H1 Dl = none)
    (hw : ∀ x y, wipe (((wipe σ vs).set j1 (some x)).set j2 (some y)) vs = wipe σ vs)
    (ht : ∀ (i : Nat) (y : α) H2, Ex H1 H2 → ys[i]? = some y → EvT t (((wipe σ vs).set j1 (some (nat i))).set j2 (some (c y))) H2 (f i y)) (he : ∀ (i : Nat) (y : α) H2, Ex H1 H2 → ys[i]? = some y → f i y = true → Ev te (((wipe σ vs).set j1 (some (nat i))).set j2 (some (c y))) H2 (g i y))
    (hd : ∀ H', Ex H1 H' → H' Dl = some (.lst (enumF ys f g)) → Qd H') :
    ∃ W : Nat → Nat → Hp → Prop, (∃ m, W 0 m (upd H1 Dl (.lst []))) ∧ ∀ i m H, W i m H →
      ((Ite K a).stop i H ∧ Qd H) ∨ ((Ite K a).go i H ∧ ∃ Nx : Hp → Prop, (∀ H', Nx H' → ∃ m', m' < m ∧ W (i + 1) m' H') ∧ ∀ x H', (Ite K a).yld i H x H' → gPair K j1 j2 x (wipe σ vs) H' fun σ2 H2 => wipe σ2 vs = wipe σ vs ∧ t σ2 H2 fun b H3 =>
        if b = true then te σ2 H3 fun y H4 => ∃ acc, H4 Dl = some (.lst acc) ∧ acc.length < sizeLine ∧ Nx (upd H4 Dl (.lst (acc ++ [y]))) else Nx H3) := by
  have hdd : ∀ d : α, ∃ f' g', (f' = fun i => f i (ys.getD i d)) ∧ (g' = fun i => g i (ys.getD i d)) := fun d => ⟨_, _, rfl, rfl⟩
  have main : ∀ (f' : Nat → Bool) (g' : Nat → V), (∀ i y, ys[i]? = some y → f' i = f i y ∧ g' i = g i y) → given ys.length f' g' = enumF ys f g → ∃ W : Nat → Nat → Hp → Prop, (∃ m, W 0 m (upd H1 Dl (.lst []))) ∧ ∀ i m H, W i m H →
      ((Ite K a).stop i H ∧ Qd H) ∨ ((Ite K a).go i H ∧ ∃ Nx : Hp → Prop, (∀ H', Nx H' → ∃ m', m' < m ∧ W (i + 1) m' H') ∧ ∀ x H', (Ite K a).yld i H x H' → gPair K j1 j2 x (wipe σ vs) H' fun σ2 H2 => wipe σ2 vs = wipe σ vs ∧ t σ2 H2 fun b H3 =>
        if b = true then te σ2 H3 fun y H4 => ∃ acc, H4 Dl = some (.lst acc) ∧ acc.length < sizeLine ∧ Nx (upd H4 Dl (.lst (acc ++ [y]))) else Nx H3) := by
    intro f' g' hfg hgiv
    refine ⟨fun i m H => m = ys.length - i ∧ i ≤ ys.length ∧ Cw H1 f' g' Dl i H, ⟨ys.length, by simp, Nat.zero_le _, hD, Ex.new hD, upd_same⟩, ?_⟩
    rintro i m H ⟨rfl, hi, p⟩
    have q := ex_l p.2.1 hx
    by_cases hlt : i < ys.length
    · have hy : ys[i]? = some ys[i] := List.getElem?_eq_getElem hlt
      have hcy : (ys.map c)[i]? = some (c ys[i]) := by rw [List.getElem?_map, hy]; rfl
      obtain ⟨ef, eg⟩ := hfg i _ hy
      refine .inr ⟨⟨ys.map c, c ys[i], q, hcy⟩, Cw H1 f' g' Dl (i + 1), fun H' p' => ⟨ys.length - (i + 1), by omega, rfl, hlt, p'⟩, fun x H' hyl => ?_⟩
      obtain ⟨T, x1, rfl, hT, rfl, hx1⟩ := hyl
      have e1 : x1 = c ys[i] := Option.some.inj ((hx1 _ q).symm.trans hcy)
      subst e1
      have p2 : Cw H1 f' g' Dl i (upd H T (.tup [.int (i : Nat), c ys[i]])) := ⟨p.1, p.2.1.trans (Ex.new hT), by rw [upd_ne (ne_of_none p.2.2 hT)]; exact p.2.2⟩
      refine ⟨T, _, rfl, st_of upd_same, rfl, _, _, rfl, _, _, rfl, rfl, hw _ _, ?_⟩
      exact cw_turn p2 (by omega) (by rw [ef]; exact ht i _ H1 (Ex.refl H1) hy) (fun hf => by rw [eg]; exact he i _ H1 (Ex.refl H1) hy (by rw [← ef]; exact hf))
    · have e : i = ys.length := by omega
      subst e
      exact .inl ⟨⟨ys.map c, q, by rw [List.length_map]; exact Nat.le_refl _⟩, hd H p.2.1 (by rw [← hgiv]; exact p.2.2)⟩
  cases ys with
  | nil => exact main (fun _ => true) (fun _ => .non) (fun i y h => by simp at h) rfl
  | cons d r =>
    refine main (fun i => f i ((d :: r).getD i d)) (fun i => g i ((d :: r).getD i d)) (fun i y h => ?_) (given_enum f g d)
    have : (d :: r).getD i d = y := by rw [List.getD_eq_getElem?_getD, h]; rfl
    exact ⟨by rw [this], by rw [this]⟩
theorem el_enF {a : Addr} {j1 j2 : Nat} {vs : List Nat} (c : α → V) (f : Nat → α → Bool) (g : Nat → α → V) (h : Ev tl σ H (.ref a)) (hx : SqL K H a (ys.map c)) (hz : ys.length ≤ 40000)
    (hw : ∀ x y, wipe (((wipe σ vs).set j1 (some x)).set j2 (some y)) vs = wipe σ vs)
    (ht : ∀ (i : Nat) (y : α) H2, Ex H H2 → ys[i]? = some y → EvT t (((wipe σ vs).set j1 (some (nat i))).set j2 (some (c y))) H2 (f i y)) (he : ∀ (i : Nat) (y : α) H2, Ex H H2 → ys[i]? = some y → f i y = true → Ev te (((wipe σ vs).set j1 (some (nat i))).set j2 (some (c y))) H2 (g i y)) :
    EvL (tLc (iEnum K (tCons tl tNil)) (gPair K j1 j2) t te vs) σ H (enumF ys f g) := fun H0 e Q q => h H0 e _ fun H1 e1 => ⟨a, _, rfl, ex_l (e.trans e1) hx, fun Dl hD =>
  lc_enum0 c f g (ex_l (e.trans e1) hx) hz hD hw (fun i y H2 e2 hy => ht i y H2 ((e.trans e1).trans e2) hy) (fun i y H2 e2 hy hf => he i y H2 ((e.trans e1).trans e2) hy hf) fun H' e' h' => q Dl H' (fresh_back e1 hD) (e1.trans e') h'⟩
theorem el_enNF {j1 j2 : Nat} {vs : List Nat} (c : α → V) (f : Nat → α → Bool) (g : Nat → α → V) (h : EvL tl σ H (ys.map c)) (hz : ys.length ≤ 40000)
    (hw : ∀ x y, wipe (((wipe σ vs).set j1 (some x)).set j2 (some y)) vs = wipe σ vs)
    (ht : ∀ (i : Nat) (y : α) H2, Ex H H2 → ys[i]? = some y → EvT t (((wipe σ vs).set j1 (some (nat i))).set j2 (some (c y))) H2 (f i y)) (he : ∀ (i : Nat) (y : α) H2, Ex H H2 → ys[i]? = some y → f i y = true → Ev te (((wipe σ vs).set j1 (some (nat i))).set j2 (some (c y))) H2 (g i y)) :
    EvL (tLc (iEnum K (tCons tl tNil)) (gPair K j1 j2) t te vs) σ H (enumF ys f g) := fun H0 e Q q => h H0 e _ fun a H1 ha e1 hx => ⟨a, _, rfl, sq_of hx, fun Dl hD =>
  lc_enum0 c f g (sq_of hx) hz hD hw (fun i y H2 e2 hy => ht i y H2 ((e.trans e1).trans e2) hy) (fun i y H2 e2 hy hf => he i y H2 ((e.trans e1).trans e2) hy hf) fun H' e' h' => q Dl H' (fresh_back e1 hD) (e1.trans e') h'⟩
theorem enumF_all (g : Nat → α → V) : enumF ys (fun _ _ => true) g = ys.zipIdx.map fun q => g q.2 q.1 := by
  unfold enumF
  rw [List.filter_eq_self.mpr (fun _ _ => rfl)]
end
end Pk
namespace Pk
/-! ### how many wish a place below i; full wishes -/
def lt (ws : List Nat) (i : Nat) : Nat := ws.countP fun w => decide (w < i)
def ge (ws : List Nat) (i : Nat) : Nat := ws.countP fun w => decide (i ≤ w)
theorem lt_ge (ws : List Nat) (i : Nat) : lt ws i + ge ws i = ws.length := by
  unfold lt ge
  induction ws with
  | nil => rfl
  | cons w r ih =>
    rw [List.countP_cons, List.countP_cons, List.length_cons]
    by_cases h : w < i
    · simp only [h, decide_true, if_true, show ¬ i ≤ w from by omega, decide_false]
      simp only [Bool.false_eq_true, if_false]
      omega
    · simp only [h, decide_false, show i ≤ w from by omega, decide_true, if_true]
      simp only [Bool.false_eq_true, if_false]
      omega
theorem lt_zero (ws : List Nat) : lt ws 0 = 0 := by
  unfold lt
  rw [List.countP_eq_zero]
  intro a _
  simp
theorem lt_succ (ws : List Nat) (i : Nat) : lt ws (i + 1) = lt ws i + ws.count i := by
  unfold lt
  induction ws with
  | nil => rfl
  | cons w r ih =>
    rw [List.countP_cons, List.countP_cons, List.count_cons, ih]
    by_cases h : w < i
    · have h2 : (w == i) = false := by simp; omega
      simp [h, h2, show w < i + 1 from by omega]
      omega
    · by_cases h3 : w = i
      · subst h3
        simp
        omega
      · have h2 : (w == i) = false := by simp; omega
        simp [h, h2, show ¬ w < i + 1 from by omega]
theorem lt_all {ws : List Nat} {p : Nat} (h : ∀ x ∈ ws, x < p) : lt ws p = ws.length := by
  unfold lt
  rw [List.countP_eq_length]
  intro a ha
  simpa using h a ha
theorem lt_le (ws : List Nat) (i : Nat) : lt ws i ≤ ws.length := List.countP_le_length
theorem lt_mono (ws : List Nat) {i j : Nat} (h : i ≤ j) : lt ws i ≤ lt ws j := by
  unfold lt
  refine List.countP_mono_left fun x _ hx => ?_
  simp only [decide_eq_true_eq] at *
  omega
theorem ge_top {ws : List Nat} {p : Nat} (h : ∀ x ∈ ws, x < p) : ge ws p = 0 := by
  have := lt_ge ws p
  rw [lt_all h] at this
  omega
theorem ge_succ (ws : List Nat) (i : Nat) : ge ws i = ge ws (i + 1) + ws.count i := by
  have h1 := lt_ge ws i
  have h2 := lt_ge ws (i + 1)
  have h3 := lt_succ ws i
  omega
/-- full wishes: places of as many, none driving off -/
structure Full (ws : List Nat) : Prop where
  lo : ∀ x ∈ ws, x < ws.length
  up : ∀ i, i ≤ ws.length → i ≤ lt ws i
theorem Full.no {ws : List Nat} (h : Full ws) : ∀ i, i < ws.length → ge ws i ≤ ws.length - i := fun i hi => by
  have h1 := lt_ge ws i
  have h2 := h.up i (by omega)
  omega
theorem Full.of {ws : List Nat} (lo : ∀ x ∈ ws, x < ws.length) (h : ∀ i, i < ws.length → ge ws i ≤ ws.length - i) : Full ws := by
  refine ⟨lo, fun i hi => ?_⟩
  by_cases e : i = ws.length
  · subst e
    rw [lt_all lo]
    exact Nat.le_refl _
  · have h1 := lt_ge ws i
    have h2 := h i (by omega)
    omega
/-! ### a crowd: the least place such that more wish it or beyond than there are places; -1 -/
def crow (p : Nat) (ws : List Nat) : Nat → Int
  | 0 => -1
  | d + 1 => if p - (p - (d + 1)) < ge ws (p - (d + 1)) then ((p - (d + 1) : Nat) : Int) else crow p ws d
def crowd (p : Nat) (ws : List Nat) : Int := crow p ws p
theorem crow_no {p : Nat} {ws : List Nat} : ∀ d, d ≤ p → (∀ i, p - d ≤ i → i < p → ge ws i ≤ p - i) → crow p ws d = -1
  | 0, _, _ => rfl
  | d + 1, hd, h => by
    unfold crow
    rw [if_neg (by have := h (p - (d + 1)) (by omega) (by omega); omega)]
    exact crow_no d (by omega) fun i h1 h2 => h i (by omega) h2
theorem crow_yes {p : Nat} {ws : List Nat} : ∀ d, d ≤ p → (∃ i, p - d ≤ i ∧ i < p ∧ p - i < ge ws i) → ∃ i : Nat, crow p ws d = (i : Int) ∧ i < p ∧ p - i < ge ws i
  | 0, _, h => by
    obtain ⟨i, h1, h2, _⟩ := h
    omega
  | d + 1, hd, h => by
    unfold crow
    by_cases hc : p - (p - (d + 1)) < ge ws (p - (d + 1))
    · rw [if_pos hc]
      exact ⟨p - (d + 1), rfl, by omega, hc⟩
    · rw [if_neg hc]
      refine crow_yes d (by omega) ?_
      obtain ⟨i, h1, h2, h3⟩ := h
      by_cases e : i = p - (d + 1)
      · subst e
        exact absurd h3 hc
      · exact ⟨i, by omega, h2, h3⟩
theorem crowd_no {p : Nat} {ws : List Nat} (h : ∀ i, i < p → ge ws i ≤ p - i) : crowd p ws = -1 := crow_no p (Nat.le_refl _) fun i _ h2 => h i h2
theorem crowd_yes {p : Nat} {ws : List Nat} (h : ¬ ∀ i, i < p → ge ws i ≤ p - i) : ∃ i : Nat, crowd p ws = (i : Int) ∧ i < p ∧ p - i < ge ws i := by
  refine crow_yes p (Nat.le_refl _) ?_
  refine Classical.byContradiction fun k => h fun i hi => ?_
  refine Classical.byContradiction fun q => k ⟨i, by omega, hi, by omega⟩
theorem crowd_neg {p : Nat} {ws : List Nat} : crowd p ws < 0 ↔ ∀ i, i < p → ge ws i ≤ p - i := by
  constructor
  · intro h
    refine Classical.byContradiction fun k => ?_
    obtain ⟨i, e, _⟩ := crowd_yes k
    omega
  · intro h
    rw [crowd_no h]
    omega
/-! ### the law's own full wishes -/
/-- the walk of ups and downs: the height, the least one, the first place where it is so low -/
def fwalk (ws : List Nat) : Nat → Int × Int × Nat
  | 0 => (0, 0, 0)
  | k + 1 => if (fwalk ws k).1 + (ws.count k : Int) - 1 < (fwalk ws k).2.1 then ((fwalk ws k).1 + (ws.count k : Int) - 1, (fwalk ws k).1 + (ws.count k : Int) - 1, k)
    else ((fwalk ws k).1 + (ws.count k : Int) - 1, (fwalk ws k).2.1, (fwalk ws k).2.2)
def hgt (ws : List Nat) (j : Nat) : Int := (lt ws j : Int) - (j : Int)
theorem hgt_succ (ws : List Nat) (j : Nat) : hgt ws (j + 1) = hgt ws j + (ws.count j : Int) - 1 := by
  unfold hgt
  rw [lt_succ]
  omega
structure FW (ws : List Nat) (k : Nat) (h l : Int) (e : Nat) : Prop where
  hh : h = hgt ws k
  ll : (l = 0 ∧ e = 0) ∨ (l < 0 ∧ e < k ∧ l = hgt ws (e + 1) ∧ ∀ j, j ≤ e → l < hgt ws j)
  lo : ∀ j, j ≤ k → l ≤ hgt ws j
theorem fwalk_fw (ws : List Nat) : ∀ k, FW ws k (fwalk ws k).1 (fwalk ws k).2.1 (fwalk ws k).2.2
  | 0 => by
    have e0 : hgt ws 0 = 0 := by
      unfold hgt
      rw [lt_zero]
      rfl
    refine ⟨e0.symm, .inl ⟨rfl, rfl⟩, fun j hj => ?_⟩
    have : j = 0 := by omega
    subst this
    show (0 : Int) ≤ _
    omega
  | k + 1 => by
    obtain ⟨hh, ll, lo⟩ := fwalk_fw ws k
    have es := hgt_succ ws k
    rw [← hh] at es
    unfold fwalk
    by_cases c : (fwalk ws k).1 + (ws.count k : Int) - 1 < (fwalk ws k).2.1
    · rw [if_pos c]
      refine ⟨es.symm, .inr ⟨?_, Nat.lt_succ_self k, es.symm, fun j hj => ?_⟩, fun j hj => ?_⟩
      · show (fwalk ws k).1 + (ws.count k : Int) - 1 < 0
        rcases ll with ⟨q, _⟩ | ⟨q, _⟩ <;> omega
      · have := lo j hj
        show (fwalk ws k).1 + (ws.count k : Int) - 1 < _
        omega
      · show (fwalk ws k).1 + (ws.count k : Int) - 1 ≤ _
        by_cases e : j = k + 1
        · subst e
          omega
        · have := lo j (by omega)
          omega
    · rw [if_neg c]
      refine ⟨es.symm, ?_, fun j hj => ?_⟩
      · rcases ll with q | ⟨q1, q2, q3, q4⟩
        · exact .inl q
        · exact .inr ⟨q1, Nat.lt_succ_of_lt q2, q3, q4⟩
      · show (fwalk ws k).2.1 ≤ _
        by_cases e : j = k + 1
        · subst e
          omega
        · exact lo j (by omega)
/-- turned by so much that the empty place is the last one -/
def turnN (m by_ : Nat) (ws : List Nat) : List Nat := ws.map fun w => (w + by_) % m
def emptyOf (ws : List Nat) : Nat := (fwalk ws (ws.length + 1)).2.2
def fullN (ws : List Nat) : List Nat := ws.map fun w => (w + ws.length - emptyOf ws) % (ws.length + 1)
theorem fullN_length (ws : List Nat) : (fullN ws).length = ws.length := by
  unfold fullN
  rw [List.length_map]
structure EmptyIs (ws : List Nat) (e : Nat) : Prop where
  lt : e ≤ ws.length
  neg : hgt ws (e + 1) < 0
  up : ∀ j, j ≤ e → hgt ws (e + 1) < hgt ws j
  lo : ∀ j, j ≤ ws.length + 1 → hgt ws (e + 1) ≤ hgt ws j
theorem emptyOf_is {ws : List Nat} (hw : ∀ x ∈ ws, x < ws.length + 1) : EmptyIs ws (emptyOf ws) := by
  obtain ⟨hh, ll, lo⟩ := fwalk_fw ws (ws.length + 1)
  have e1 : hgt ws (ws.length + 1) = -1 := by
    unfold hgt
    rw [lt_all hw]
    omega
  have h2 := lo (ws.length + 1) (Nat.le_refl _)
  rcases ll with ⟨q, _⟩ | ⟨q1, q2, q3, q4⟩
  · omega
  · unfold emptyOf
    exact ⟨by omega, by omega, fun j hj => by have := q4 j hj; omega, fun j hj => by have := lo j hj; omega⟩
theorem countP4 {α : Type} {f g f' g' : α → Bool} : ∀ {l : List α}, (∀ x ∈ l, (f x).toNat + (g x).toNat = (f' x).toNat + (g' x).toNat) → l.countP f + l.countP g = l.countP f' + l.countP g'
  | [], _ => rfl
  | x :: r, h => by
    have ih := countP4 (l := r) fun y hy => h y (List.mem_cons_of_mem _ hy)
    have hx := h x List.mem_cons_self
    simp only [List.countP_cons]
    cases h1 : f x <;> cases h2 : g x <;> cases h3 : f' x <;> cases h4 : g' x <;> simp [h1, h2, h3, h4] at hx ⊢ <;> omega
theorem turn_val {w n e : Nat} (hw : w < n + 1) (he : e ≤ n) : (w + n - e) % (n + 1) = if w ≤ e then w + n - e else w - e - 1 := by
  by_cases h : w ≤ e
  · rw [if_pos h, Nat.mod_eq_of_lt (by omega)]
  · rw [if_neg h]
    have : w + n - e = (w - e - 1) + (n + 1) := by omega
    rw [this, Nat.add_mod_right, Nat.mod_eq_of_lt (by omega)]
/-- the counts of the turned ones -/
theorem lt_turn {ws : List Nat} {e : Nat} (hw : ∀ x ∈ ws, x < ws.length + 1) (he : e ≤ ws.length) (i : Nat) (hi : i ≤ ws.length) :
    lt (ws.map fun w => (w + ws.length - e) % (ws.length + 1)) i + lt ws (e + 1) = lt ws (e + 1 + i) + lt ws (i + e - ws.length) := by
  unfold lt
  rw [List.countP_map]
  refine countP4 fun x hx => ?_
  have h1 := hw x hx
  show (decide ((x + ws.length - e) % (ws.length + 1) < i)).toNat + (decide (x < e + 1)).toNat = (decide (x < e + 1 + i)).toNat + (decide (x < i + e - ws.length)).toNat
  have hv := turn_val (w := x) h1 he
  generalize (x + ws.length - e) % (ws.length + 1) = v at hv ⊢
  by_cases h : x ≤ e
  · rw [if_pos h] at hv
    subst hv
    simp only [show x < e + 1 from by omega, show x < e + 1 + i from by omega, decide_true]
    by_cases h2 : x + ws.length - e < i
    · simp [h2, show x < i + e - ws.length from by omega]
    · simp [h2, show ¬ x < i + e - ws.length from by omega]
  · rw [if_neg h] at hv
    subst hv
    simp only [show ¬ x < e + 1 from by omega, show ¬ x < i + e - ws.length from by omega, decide_false]
    by_cases h2 : x - e - 1 < i
    · simp [h2, show x < e + 1 + i from by omega]
    · simp [h2, show ¬ x < e + 1 + i from by omega]
theorem full_of_empty {ws : List Nat} {e : Nat} (hw : ∀ x ∈ ws, x < ws.length + 1) (E : EmptyIs ws e) : Full (ws.map fun w => (w + ws.length - e) % (ws.length + 1)) := by
  have key : ∀ i, i ≤ ws.length → i ≤ lt (ws.map fun w => (w + ws.length - e) % (ws.length + 1)) i := fun i hi => by
    have h := lt_turn hw E.lt i hi
    have h1 := E.lt
    by_cases c : e + 1 + i ≤ ws.length + 1
    · have h2 := E.lo (e + 1 + i) c
      unfold hgt at h2
      omega
    · have h2 := E.up (i + e - ws.length) (by omega)
      have h3 : lt ws (e + 1 + i) = ws.length := lt_all fun x hx => by have := hw x hx; omega
      unfold hgt at h2
      omega
  have hlen : (ws.map fun w => (w + ws.length - e) % (ws.length + 1)).length = ws.length := List.length_map ..
  have hn := key ws.length (Nat.le_refl _)
  have hl : ∀ x ∈ (ws.map fun w => (w + ws.length - e) % (ws.length + 1)), x < ws.length := by
    have h2 : lt (ws.map fun w => (w + ws.length - e) % (ws.length + 1)) ws.length = (ws.map fun w => (w + ws.length - e) % (ws.length + 1)).length := by
      have := lt_le (ws.map fun w => (w + ws.length - e) % (ws.length + 1)) ws.length
      omega
    unfold lt at h2
    rw [List.countP_eq_length] at h2
    intro x hx
    simpa using h2 x hx
  exact ⟨fun x hx => by rw [hlen]; exact hl x hx, fun i hi => key i (by rw [hlen] at hi; exact hi)⟩
theorem fullN_full {ws : List Nat} (hw : ∀ x ∈ ws, x < ws.length + 1) : Full (fullN ws) := full_of_empty hw (emptyOf_is hw)
/-- the script's cells on a ring -/
def cells (ns : List Int) (m : Nat) : List Nat := ns.map fun c => (c % (m : Int)).toNat
theorem cells_length (ns : List Int) (m : Nat) : (cells ns m).length = ns.length := by
  unfold cells
  rw [List.length_map]
theorem cells_lt {ns : List Int} {m : Nat} (hm : 0 < m) : ∀ x ∈ cells ns m, x < m := fun x hx => by
  unfold cells at hx
  obtain ⟨c, _, rfl⟩ := List.mem_map.mp hx
  have h1 := Int.emod_lt_of_pos c (show (0 : Int) < m from by omega)
  have h2 := Int.emod_nonneg c (show (m : Int) ≠ 0 from by omega)
  omega
def lawFull (ns : List Int) : List Nat := fullN (cells ns (ns.length + 1))
theorem lawFull_length (ns : List Int) : (lawFull ns).length = ns.length := by
  unfold lawFull
  rw [fullN_length, cells_length]
theorem lawFull_full (ns : List Int) : Full (lawFull ns) := by
  refine fullN_full fun x hx => ?_
  rw [cells_length]
  exact cells_lt (Nat.succ_pos _) x hx
end Pk
namespace Pk
/-! ### paths as lists of codes: u is 117, d is 100 -/
def step1 (c : Nat) : List Nat := List.replicate c 117 ++ [100]
def pathL (cs : List Nat) : List Nat := (cs.map step1).flatten
theorem pathL_cons (c : Nat) (r : List Nat) : pathL (c :: r) = List.replicate c 117 ++ 100 :: pathL r := by
  unfold pathL step1
  rw [List.map_cons, List.flatten_cons, List.append_assoc]
  rfl
/-- the heights behind each down, or none where it is no path -/
def hgo : List Nat → Nat → Option (List Nat)
  | [], h => if h = 0 then some [] else none
  | c :: r, h => if c = 117 then hgo r (h + 1) else if c = 100 ∧ 0 < h then (hgo r (h - 1)).map ((h - 1) :: ·) else none
def ris : List Nat → Nat → List Nat
  | [], _ => []
  | c :: r, p => if c = 117 then p :: ris r p else ris r (p + 1)
theorem hgo_up (c : Nat) (r : List Nat) (h : Nat) : hgo (List.replicate c 117 ++ r) h = hgo r (h + c) := by
  induction c generalizing h with
  | zero => rfl
  | succ c ih =>
    rw [List.replicate_succ, List.cons_append]
    show (if (117 : Nat) = 117 then hgo (List.replicate c 117 ++ r) (h + 1) else _) = _
    rw [if_pos rfl, ih]
    congr 1
    omega
theorem ris_up (c : Nat) (r : List Nat) (p : Nat) : ris (List.replicate c 117 ++ r) p = List.replicate c p ++ ris r p := by
  induction c with
  | zero => rfl
  | succ c ih =>
    rw [List.replicate_succ, List.cons_append]
    show (if (117 : Nat) = 117 then p :: ris (List.replicate c 117 ++ r) p else _) = _
    rw [if_pos rfl, ih]
    rfl
def hl : List Nat → Nat → List Nat
  | [], _ => []
  | c :: r, h => (h + c - 1) :: hl r (h + c - 1)
def POk : List Nat → Nat → Prop
  | [], h => h = 0
  | c :: r, h => 0 < h + c ∧ POk r (h + c - 1)
theorem hgo_path : ∀ (cs : List Nat) (h : Nat), POk cs h → hgo (pathL cs) h = some (hl cs h)
  | [], h, e => by
    have e : h = 0 := e
    subst e
    rfl
  | c :: r, h, e => by
    obtain ⟨e1, e2⟩ := e
    rw [pathL_cons, hgo_up]
    show (if (100 : Nat) = 117 then _ else if (100 : Nat) = 100 ∧ 0 < h + c then (hgo (pathL r) (h + c - 1)).map ((h + c - 1) :: ·) else none) = _
    rw [if_neg (by decide), if_pos ⟨rfl, e1⟩, hgo_path r _ e2]
    rfl
theorem ris_path : ∀ (cs : List Nat) (p : Nat), ris (pathL cs) p = (cs.zipIdx p).flatMap fun q => List.replicate q.1 q.2
  | [], p => rfl
  | c :: r, p => by
    rw [pathL_cons, ris_up, List.zipIdx_cons, List.flatMap_cons]
    show List.replicate c p ++ (if (100 : Nat) = 117 then _ else ris (pathL r) (p + 1)) = _
    rw [if_neg (by decide), ris_path r (p + 1)]
/-! ### of full wishes -/
def cnts (p : Nat) (ws : List Nat) : List Nat := (List.range p).map fun i => ws.count i
theorem cnts_nil (p : Nat) : cnts p [] = (List.range p).map fun _ => 0 := by
  unfold cnts
  simp
theorem cnts_len (p : Nat) (ws : List Nat) : (cnts p ws).length = p := by
  unfold cnts
  rw [List.length_map, List.length_range]
theorem cnts_get {p : Nat} {ws : List Nat} {i : Nat} (hi : i < p) : (cnts p ws)[i]? = some (ws.count i) := by
  unfold cnts
  rw [List.getElem?_map, List.getElem?_range hi]
  rfl
theorem cnts_add {p : Nat} {ws : List Nat} {x : Nat} (hx : x < p) : (cnts p ws).set x (ws.count x + 1) = cnts p (ws ++ [x]) := by
  refine List.ext_getElem? fun i => ?_
  by_cases hi : i < p
  · rw [cnts_get hi]
    by_cases e : x = i
    · subst e
      rw [List.getElem?_set_self (by rw [cnts_len]; exact hx), List.count_append, List.count_singleton]
      simp
    · rw [List.getElem?_set_ne e, cnts_get hi, List.count_append, List.count_singleton]
      simp [e]
  · rw [List.getElem?_eq_none (by rw [List.length_set, cnts_len]; omega), List.getElem?_eq_none (by rw [cnts_len]; omega)]
theorem cnts_perm {p : Nat} {ws vs : List Nat} (h : ws.Perm vs) : cnts p ws = cnts p vs := by
  unfold cnts
  refine List.map_congr_left fun i _ => ?_
  exact h.count_eq i
theorem lt_perm {ws vs : List Nat} (h : ws.Perm vs) (i : Nat) : lt ws i = lt vs i := h.countP_eq _
theorem Full.perm {ws vs : List Nat} (h : ws.Perm vs) (F : Full ws) : Full vs := by
  refine ⟨fun x hx => ?_, fun i hi => ?_⟩
  · rw [← h.length_eq]
    exact F.lo x (h.mem_iff.mpr hx)
  · rw [← lt_perm h]
    exact F.up i (by rw [h.length_eq]; exact hi)
theorem pok_full {ws : List Nat} (F : Full ws) : ∀ k i, i + k = ws.length → POk ((List.range' i k).map fun j => ws.count j) (lt ws i - i)
  | 0, i, h => by
    have e : i = ws.length := by omega
    have h2 : lt ws i = ws.length := by rw [e]; exact lt_all F.lo
    show lt ws i - i = 0
    omega
  | k + 1, i, h => by
    have h1 := F.up i (by omega)
    have h2 := F.up (i + 1) (by omega)
    have h3 := lt_succ ws i
    rw [List.range'_succ, List.map_cons]
    refine ⟨by omega, ?_⟩
    have ih := pok_full F k (i + 1) (by omega)
    have e : lt ws i - i + ws.count i - 1 = lt ws (i + 1) - (i + 1) := by omega
    rw [e]
    exact ih
theorem hl_full {ws : List Nat} (F : Full ws) : ∀ k i, i + k = ws.length → hl ((List.range' i k).map fun j => ws.count j) (lt ws i - i) = (List.range' i k).map fun j => lt ws (j + 1) - (j + 1)
  | 0, i, h => rfl
  | k + 1, i, h => by
    have h1 := F.up i (by omega)
    have h3 := lt_succ ws i
    rw [List.range'_succ, List.map_cons, List.map_cons]
    have ih := hl_full F k (i + 1) (by omega)
    have e : lt ws i - i + ws.count i - 1 = lt ws (i + 1) - (i + 1) := by omega
    show (lt ws i - i + ws.count i - 1) :: hl _ (lt ws i - i + ws.count i - 1) = _
    rw [e, ih]
def hts (ws : List Nat) : List Nat := (List.range ws.length).map fun j => lt ws (j + 1) - (j + 1)
theorem hgo_full {ws : List Nat} (F : Full ws) : hgo (pathL (cnts ws.length ws)) 0 = some (hts ws) := by
  have h1 := pok_full F ws.length 0 (by omega)
  have h2 := hl_full F ws.length 0 (by omega)
  rw [← List.range_eq_range'] at h1 h2
  rw [show lt ws 0 - 0 = 0 from by rw [lt_zero]] at h1 h2
  have h3 := hgo_path _ 0 h1
  rw [h2] at h3
  exact h3
/-! ### the rising wishes of a path -/
def rr (ws : List Nat) (i k : Nat) : List Nat := (List.range' i k).flatMap fun j => List.replicate (ws.count j) j
theorem zip_rr (ws : List Nat) : ∀ k i, (((List.range' i k).map fun j => ws.count j).zipIdx i).flatMap (fun q => List.replicate q.1 q.2) = rr ws i k
  | 0, i => rfl
  | k + 1, i => by
    unfold rr
    rw [List.range'_succ, List.map_cons, List.zipIdx_cons, List.flatMap_cons, List.flatMap_cons]
    congr 1
    exact zip_rr ws k (i + 1)
theorem rr_ge (ws : List Nat) : ∀ k i, ∀ x ∈ rr ws i k, i ≤ x ∧ x < i + k := fun k i x hx => by
  unfold rr at hx
  obtain ⟨j, hj, h2⟩ := List.mem_flatMap.mp hx
  obtain ⟨_, rfl⟩ := List.mem_replicate.mp h2
  have := List.mem_range'_1.mp hj
  omega
theorem rr_rise (ws : List Nat) : ∀ k i, (rr ws i k).Pairwise (· ≤ ·)
  | 0, i => List.Pairwise.nil
  | k + 1, i => by
    unfold rr
    rw [List.range'_succ, List.flatMap_cons]
    refine List.pairwise_append.mpr ⟨?_, rr_rise ws k (i + 1), fun a ha b hb => ?_⟩
    · refine List.pairwise_replicate.mpr ?_
      exact Or.inr (Nat.le_refl _)
    · obtain ⟨_, rfl⟩ := List.mem_replicate.mp ha
      have := rr_ge ws k (a + 1) b hb
      omega
theorem rr_count (ws : List Nat) (x : Nat) : ∀ k i, (rr ws i k).count x = if i ≤ x ∧ x < i + k then ws.count x else 0
  | 0, i => by
    rw [if_neg (by omega)]
    rfl
  | k + 1, i => by
    have ih := rr_count ws x k (i + 1)
    unfold rr at ih ⊢
    rw [List.range'_succ, List.flatMap_cons, List.count_append, ih, List.count_replicate]
    by_cases e : i = x
    · subst e
      have h1 : ¬ (i + 1 ≤ i ∧ i < i + 1 + k) := by omega
      have h2 : i ≤ i ∧ i < i + (k + 1) := by omega
      rw [if_neg h1, if_pos h2]
      simp
    · have h0 : ¬ ((i == x) = true) := by simpa using e
      rw [if_neg h0]
      by_cases h : i + 1 ≤ x ∧ x < i + 1 + k
      · have h2 : i ≤ x ∧ x < i + (k + 1) := by omega
        rw [if_pos h, if_pos h2, Nat.zero_add]
      · have h2 : ¬ (i ≤ x ∧ x < i + (k + 1)) := by omega
        rw [if_neg h, if_neg h2]
theorem rr_perm {ws : List Nat} {p : Nat} (h : ∀ x ∈ ws, x < p) : (rr ws 0 p).Perm ws := by
  refine List.perm_iff_count.mpr fun x => ?_
  rw [rr_count]
  by_cases c : 0 ≤ x ∧ x < 0 + p
  · rw [if_pos c]
  · rw [if_neg c]
    symm
    refine List.count_eq_zero.mpr fun hx => c ?_
    have := h x hx
    omega
def rise (ws : List Nat) : List Nat := rr ws 0 ws.length
theorem ris_full (ws : List Nat) : ris (pathL (cnts ws.length ws)) 0 = rise ws := by
  rw [ris_path]
  unfold cnts
  rw [List.range_eq_range', zip_rr]
  rfl
/-! ### what lies beneath: the drives -/
theorem sum_lt (ws : List Nat) : ∀ n, ((List.range n).map fun j => lt ws (j + 1)).sum = (ws.map fun w => n - w).sum := by
  intro n
  induction n with
  | zero =>
    simp only [List.range_zero, List.map_nil, List.sum_nil]
    induction ws with
    | nil => rfl
    | cons w r ih =>
      rw [List.map_cons, List.sum_cons, ← ih]
      omega
  | succ n ih =>
    rw [List.range_succ, List.map_append, List.sum_append, ih, List.map_singleton]
    show _ + (lt ws (n + 1) + 0) = _
    unfold lt
    clear ih
    induction ws with
    | nil => rfl
    | cons w r ih2 =>
      rw [List.map_cons, List.sum_cons, List.map_cons, List.sum_cons, List.countP_cons, ← ih2]
      by_cases h : w < n + 1
      · simp only [h, decide_true, if_true]
        omega
      · simp only [h, decide_false, Bool.false_eq_true, if_false]
        omega
theorem sum_sub {n : Nat} : ∀ {ws : List Nat}, (∀ x ∈ ws, x < n) → (ws.map fun w => n - w).sum + ws.sum = n * ws.length
  | [], _ => rfl
  | w :: r, h => by
    have ih := sum_sub (ws := r) fun x hx => h x (List.mem_cons_of_mem _ hx)
    have hw := h w List.mem_cons_self
    rw [List.map_cons, List.sum_cons, List.sum_cons, List.length_cons, Nat.mul_succ]
    omega
theorem sum_range (n : Nat) : 2 * ((List.range n).map fun j => j + 1).sum = n * (n + 1) := by
  induction n with
  | zero => rfl
  | succ n ih =>
    rw [List.range_succ, List.map_append, List.sum_append, List.map_singleton, Nat.mul_add, ih]
    show n * (n + 1) + 2 * (n + 1 + 0) = (n + 1) * (n + 1 + 1)
    have e : (n + 1) * (n + 1 + 1) = n * (n + 1) + 2 * (n + 1) := by rw [← Nat.add_mul, Nat.mul_comm]
    omega
theorem sum_diff {f g : Nat → Nat} : ∀ n, (∀ j, j < n → g j ≤ f j) → ((List.range n).map fun j => f j - g j).sum + ((List.range n).map g).sum = ((List.range n).map f).sum := by
  intro n
  induction n with
  | zero => intro _; rfl
  | succ n ih =>
    intro h
    have h1 := ih fun j hj => h j (by omega)
    have h2 := h n (Nat.lt_succ_self n)
    rw [List.range_succ, List.map_append, List.map_append, List.map_append, List.sum_append, List.sum_append, List.sum_append]
    simp only [List.map_singleton, List.sum_singleton]
    omega
/-- how far all drive -/
def drv (ws : List Nat) : Int := ((ws.length : Int) * ((ws.length : Int) - 1)) / 2 - ((ws.sum : Nat) : Int)
theorem drv_hts {ws : List Nat} (F : Full ws) : drv ws = (((hts ws).sum : Nat) : Int) := by
  have h1 := sum_lt ws ws.length
  have h2 := sum_sub F.lo
  have h3 := sum_range ws.length
  have h4 := sum_diff (f := fun j => lt ws (j + 1)) (g := fun j => j + 1) ws.length fun j hj => F.up (j + 1) (by omega)
  have h5 : (hts ws).sum + ((List.range ws.length).map fun j => j + 1).sum + ws.sum = ws.length * ws.length := by
    unfold hts
    omega
  unfold drv
  have e : ((ws.length : Int) * ((ws.length : Int) - 1)) = 2 * ((((hts ws).sum + ws.sum : Nat)) : Int) := by
    have h6 : ws.length * (ws.length + 1) + 2 * ((hts ws).sum + ws.sum) = 2 * (ws.length * ws.length) := by omega
    have h7 : ((ws.length * (ws.length + 1) + 2 * ((hts ws).sum + ws.sum) : Nat) : Int) = ((2 * (ws.length * ws.length) : Nat) : Int) := by rw [h6]
    push_cast at h7 ⊢
    rw [Int.mul_sub]
    rw [Int.mul_add] at h7
    omega
  rw [e, Int.mul_ediv_cancel_left _ (by decide)]
  push_cast
  omega
end Pk
namespace Pk
/-! ### standings: reaches by walking back -/
/-- the cars of a standing: each of as many once -/
structure IsSt (st : List Nat) : Prop where
  lo : ∀ x ∈ st, x < st.length
  nd : st.Nodup
/-- walking back from k past smaller ones -/
def back (st : List Nat) (x : Nat) : Nat → Nat
  | 0 => 0
  | k + 1 => if st.getD k 0 < x then back st x k else k + 1
theorem back_le (st : List Nat) (x : Nat) : ∀ k, back st x k ≤ k
  | 0 => Nat.le_refl _
  | k + 1 => by
    have := back_le st x k
    unfold back
    split <;> omega
theorem back_lt {st : List Nat} {x : Nat} : ∀ k j, back st x k ≤ j → j < k → st.getD j 0 < x
  | k + 1, j, h1, h2 => by
    unfold back at h1
    split at h1
    · rename_i c
      by_cases e : j = k
      · subst e
        exact c
      · exact back_lt k j h1 (by omega)
    · omega
theorem back_ge {st : List Nat} {x : Nat} : ∀ k, 0 < back st x k → x ≤ st.getD (back st x k - 1) 0
  | k + 1, h => by
    unfold back at h ⊢
    split at h
    · rename_i c
      rw [if_pos c]
      exact back_ge k h
    · rename_i c
      rw [if_neg c]
      show x ≤ st.getD k 0
      omega
theorem back_back {st : List Nat} {x y : Nat} (h : y ≤ x) : ∀ k, back st x k = back st x (back st y k)
  | 0 => rfl
  | k + 1 => by
    show (if st.getD k 0 < x then back st x k else k + 1) = back st x (if st.getD k 0 < y then back st y k else k + 1)
    by_cases c : st.getD k 0 < y
    · rw [if_pos c, if_pos (by omega)]
      exact back_back h k
    · rw [if_neg c]
      rfl
def reach (st : List Nat) (p : Nat) : Nat := back st (st.getD p 0) p
theorem reach_le (st : List Nat) (p : Nat) : reach st p ≤ p := back_le _ _ _
def rchs (st : List Nat) : List Nat := (List.range st.length).map (reach st)
/-- the places that wait, from the first on -/
def chain (st : List Nat) : Nat → List Nat
  | 0 => []
  | k + 1 => chain st (back st (st.getD k 0) k) ++ [k]
termination_by k => k
decreasing_by
  have := back_le st (st.getD k 0) k
  omega
theorem chain_zero (st : List Nat) : chain st 0 = [] := by rw [chain]
theorem chain_succ (st : List Nat) (k : Nat) : chain st (k + 1) = chain st (back st (st.getD k 0) k) ++ [k] := by rw [chain]
theorem chain_len (st : List Nat) : ∀ k, (chain st k).length ≤ k := by
  intro k
  induction k using Nat.strongRecOn with
  | _ k ih =>
    cases k with
    | zero => rw [chain_zero]; exact Nat.le_refl _
    | succ k =>
      have h1 := back_le st (st.getD k 0) k
      have h2 := ih _ (Nat.lt_succ_of_le h1)
      rw [chain_succ, List.length_append]
      simp only [List.length_singleton]
      omega
/-- how many wishes lead to it -/
def prodR (f : Nat → Nat) : Nat → Nat
  | 0 => 1
  | k + 1 => prodR f k * (k - f k + 1)
/-- the wishes by which the car at each place drove so many steps -/
def fstep (st : List Nat) (ss : List Int) : Nat → List Nat
  | 0 => List.replicate st.length 0
  | k + 1 => (fstep st ss k).set (st.getD k 0) ((k : Int) - ss.getD k 0).toNat
theorem fstep_len (st : List Nat) (ss : List Int) : ∀ k, (fstep st ss k).length = st.length
  | 0 => by unfold fstep; rw [List.length_replicate]
  | k + 1 => by unfold fstep; rw [List.length_set, fstep_len st ss k]
def fsteps (st : List Nat) (ss : List Int) : List Nat := fstep st ss st.length
theorem st_inj {st : List Nat} (S : IsSt st) {i j : Nat} (hi : i < st.length) (hj : j < st.length) (h : st.getD i 0 = st.getD j 0) : i = j := by
  rw [List.getD_eq_getElem?_getD, List.getD_eq_getElem?_getD, List.getElem?_eq_getElem hi, List.getElem?_eq_getElem hj] at h
  exact (List.getElem_inj S.nd).mp h
theorem st_lt {st : List Nat} (S : IsSt st) {i : Nat} (hi : i < st.length) : st.getD i 0 < st.length := by
  rw [List.getD_eq_getElem?_getD, List.getElem?_eq_getElem hi]
  exact S.lo _ (List.getElem_mem hi)
theorem fstep_get {st : List Nat} (S : IsSt st) (ss : List Int) : ∀ k, k ≤ st.length → ∀ p, p < k → (fstep st ss k)[st.getD p 0]? = some ((p : Int) - ss.getD p 0).toNat
  | k + 1, hk, p, hp => by
    unfold fstep
    by_cases e : p = k
    · subst e
      rw [List.getElem?_set_self (by rw [fstep_len]; exact st_lt S hk)]
    · have hne : st.getD k 0 ≠ st.getD p 0 := fun q => e (st_inj S hk (by omega) q).symm
      rw [List.getElem?_set_ne hne]
      exact fstep_get S ss k (by omega) p (by omega)
/-- each car stands somewhere -/
theorem st_has {st : List Nat} (S : IsSt st) {c : Nat} (hc : c < st.length) : ∃ p, p < st.length ∧ st.getD p 0 = c := by
  have hsub : ∀ x ∈ st, x ∈ List.range st.length := fun x hx => List.mem_range.mpr (S.lo x hx)
  have hmem : c ∈ st := by
    refine Classical.byContradiction fun hn => ?_
    have h1 : (c :: st).Nodup := List.nodup_cons.mpr ⟨hn, S.nd⟩
    have h2 : (c :: st) ⊆ List.range st.length := fun x hx => by
      rcases List.mem_cons.mp hx with e | hx
      · subst e
        exact List.mem_range.mpr hc
      · exact hsub x hx
    have h3 := h1.length_le_of_subset h2
    rw [List.length_cons, List.length_range] at h3
    omega
  obtain ⟨p, hp, e⟩ := List.mem_iff_getElem.mp hmem
  exact ⟨p, hp, by rw [List.getD_eq_getElem?_getD, List.getElem?_eq_getElem hp]; exact e⟩
/-! ### a street, walked place by place -/
def seek (occ : List Nat) : Nat → Nat → Nat
  | 0, w => w
  | k + 1, w => if w ∈ occ then seek occ k (w + 1) else w
/-- where a car stands that wishes w: the first place from there on that isn't taken; p where there is none -/
def stand (p : Nat) (occ : List Nat) (w : Nat) : Nat := seek occ (p - w) w
def whereL (p : Nat) (ws : List Nat) : List Nat := ws.foldl (fun acc w => acc ++ [stand p acc w]) []
theorem seek_spec (occ : List Nat) : ∀ k w, w ≤ seek occ k w ∧ seek occ k w ≤ w + k ∧ (∀ j, w ≤ j → j < seek occ k w → j ∈ occ) ∧ (seek occ k w < w + k → seek occ k w ∉ occ)
  | 0, w => ⟨Nat.le_refl _, Nat.le_refl _, fun j h1 h2 => absurd h2 (Nat.not_lt.mpr h1), fun h => absurd h (Nat.lt_irrefl _)⟩
  | k + 1, w => by
    obtain ⟨h1, h2, h3, h4⟩ := seek_spec occ k (w + 1)
    unfold seek
    by_cases c : w ∈ occ
    · rw [if_pos c]
      refine ⟨by omega, by omega, fun j hj1 hj2 => ?_, fun h => h4 (by omega)⟩
      by_cases e : j = w
      · subst e
        exact c
      · exact h3 j (by omega) hj2
    · rw [if_neg c]
      exact ⟨Nat.le_refl _, by omega, fun j hj1 hj2 => absurd hj2 (Nat.not_lt.mpr hj1), fun _ => c⟩
theorem stand_ge {p w : Nat} (occ : List Nat) (h : w < p) : w ≤ stand p occ w ∧ stand p occ w ≤ p ∧ (∀ j, w ≤ j → j < stand p occ w → j ∈ occ) ∧ (stand p occ w < p → stand p occ w ∉ occ) := by
  have h1 := seek_spec occ (p - w) w
  unfold stand
  have e : w + (p - w) = p := by omega
  rw [e] at h1
  exact h1
theorem stand_is {p w x : Nat} {occ : List Nat} (hw : w ≤ x) (hx : x < p) (h1 : ∀ j, w ≤ j → j < x → j ∈ occ) (h2 : x ∉ occ) : stand p occ w = x := by
  obtain ⟨a1, a2, a3, a4⟩ := stand_ge occ (Nat.lt_of_le_of_lt hw hx)
  by_cases c : stand p occ w < x
  · exact absurd (h1 _ a1 c) (a4 (by omega))
  · by_cases e : x < stand p occ w
    · exact absurd (a3 x hw e) h2
    · omega
theorem whereL_snoc (p : Nat) (ws : List Nat) (w : Nat) : whereL p (ws ++ [w]) = whereL p ws ++ [stand p (whereL p ws) w] := by
  unfold whereL
  rw [List.foldl_append]
  rfl
theorem snoc_ind {α : Type} {P : List α → Prop} (h0 : P []) (hs : ∀ r w, P r → P (r ++ [w])) : ∀ l, P l := by
  intro l
  have key : ∀ n (l : List α), l.length = n → P l := by
    intro n
    induction n with
    | zero =>
      intro l hl
      rw [List.length_eq_zero_iff.mp hl]
      exact h0
    | succ n ih =>
      intro l hl
      have hne : l ≠ [] := fun e => by rw [e] at hl; cases hl
      rw [← List.dropLast_concat_getLast hne]
      exact hs _ _ (ih _ (by rw [List.length_dropLast, hl]; rfl))
  exact key _ l rfl
theorem whereL_len (p : Nat) : ∀ ws : List Nat, (whereL p ws).length = ws.length := by
  refine snoc_ind rfl fun r w ih => ?_
  rw [whereL_snoc, List.length_append, List.length_append, ih]
  rfl
theorem whereL_le {p : Nat} : ∀ ws : List Nat, (∀ w ∈ ws, w < p) → ∀ x ∈ whereL p ws, x ≤ p := by
  refine snoc_ind (fun _ x hx => by cases hx) fun r w ih h x hx => ?_
  rw [whereL_snoc] at hx
  rcases List.mem_append.mp hx with hx | hx
  · exact ih (fun v hv => h v (List.mem_append_left _ hv)) x hx
  · have e : x = stand p (whereL p r) w := by simpa using hx
    rw [e]
    exact (stand_ge _ (h w (by simp))).2.1
/-- the first c cars stand where st tells -/
def posOf (st : List Nat) (c : Nat) : Nat := st.idxOf c
theorem posOf_is {st : List Nat} (S : IsSt st) {c : Nat} (hc : c < st.length) : posOf st c < st.length ∧ st.getD (posOf st c) 0 = c := by
  obtain ⟨p, hp, e⟩ := st_has S hc
  have hm : c ∈ st := by
    rw [← e, List.getD_eq_getElem?_getD, List.getElem?_eq_getElem hp]
    exact List.getElem_mem hp
  have h1 : posOf st c < st.length := List.idxOf_lt_length_iff.mpr hm
  refine ⟨h1, ?_⟩
  rw [List.getD_eq_getElem?_getD, List.getElem?_eq_getElem h1]
  exact List.getElem_idxOf h1
theorem posOf_at {st : List Nat} (S : IsSt st) {p : Nat} (hp : p < st.length) : posOf st (st.getD p 0) = p := by
  obtain ⟨h1, h2⟩ := posOf_is S (st_lt S hp)
  exact st_inj S h1 hp h2
/-- wishes within the reaches, up to the car c -/
theorem leads_to {st ws : List Nat} (S : IsSt st) : ∀ c, c ≤ st.length → c ≤ ws.length → (∀ d, d < c → reach st (posOf st d) ≤ ws.getD d 0 ∧ ws.getD d 0 ≤ posOf st d) → whereL st.length (ws.take c) = (List.range c).map (posOf st)
  | 0, _, _, _ => rfl
  | c + 1, hc, hl, h => by
    have ih := leads_to S c (by omega) (by omega) fun d hd => h d (by omega)
    have hlt : c < ws.length := hl
    rw [List.take_add_one, List.getElem?_eq_getElem hlt]
    show whereL st.length (ws.take c ++ [ws[c]]) = _
    rw [whereL_snoc, ih, List.range_succ, List.map_append, List.map_singleton]
    congr 1
    have hd := h c (Nat.lt_succ_self c)
    have e : ws.getD c 0 = ws[c] := by rw [List.getD_eq_getElem?_getD, List.getElem?_eq_getElem hlt]; rfl
    rw [e] at hd
    obtain ⟨p1, p2⟩ := posOf_is S (show c < st.length from hc)
    congr 1
    refine stand_is hd.2 p1 (fun j hj1 hj2 => ?_) (fun hm => ?_)
    · have hb := back_lt (posOf st c) j (Nat.le_trans hd.1 hj1) hj2
      rw [p2] at hb
      refine List.mem_map.mpr ⟨st.getD j 0, List.mem_range.mpr hb, posOf_at S (by omega)⟩
    · obtain ⟨d, hd1, hd2⟩ := List.mem_map.mp hm
      have hd3 := List.mem_range.mp hd1
      have q1 := posOf_is S (show d < st.length by omega)
      rw [hd2, p2] at q1
      omega
/-- whether wishes lead to st, asked as the law asks -/
def leadsB (st ws : List Nat) : Bool := (List.range ws.length).all fun c => decide ((whereL st.length ws).getD c 0 < st.length) && decide (st.getD ((whereL st.length ws).getD c 0) 0 = c)
theorem leads_yes {st ws : List Nat} (S : IsSt st) (hl : ws.length = st.length) (h : ∀ d, d < st.length → reach st (posOf st d) ≤ ws.getD d 0 ∧ ws.getD d 0 ≤ posOf st d) : leadsB st ws = true := by
  have k := leads_to S (ws := ws) st.length (Nat.le_refl _) (by omega) h
  rw [← hl, List.take_length, hl] at k
  unfold leadsB
  rw [List.all_eq_true]
  intro c hc
  have hc2 : c < st.length := by rw [← hl]; exact List.mem_range.mp hc
  have e : ((List.range st.length).map (posOf st)).getD c 0 = posOf st c := by
    rw [List.getD_eq_getElem?_getD, List.getElem?_map, List.getElem?_range hc2]
    rfl
  obtain ⟨p1, p2⟩ := posOf_is S hc2
  rw [k, e, p2]
  simp [p1]
theorem whereL_take (p : Nat) (ws : List Nat) : ∀ c, c ≤ ws.length → whereL p (ws.take c) = (whereL p ws).take c := by
  refine snoc_ind (P := fun ws => ∀ c, c ≤ ws.length → whereL p (ws.take c) = (whereL p ws).take c) (fun c hc => ?_) (fun r w ih c hc => ?_) ws
  · have : c = 0 := Nat.le_zero.mp hc
    subst this
    rfl
  · by_cases e : c ≤ r.length
    · rw [List.take_append_of_le_length e, ih c e, whereL_snoc, List.take_append_of_le_length (by rw [whereL_len]; exact e)]
    · rw [List.length_append, List.length_singleton] at hc
      have e2 : c = (r ++ [w]).length := by rw [List.length_append, List.length_singleton]; omega
      rw [e2, List.take_length]
      rw [List.take_of_length_le (by rw [whereL_len]; exact Nat.le_refl _)]
/-- with one wish ahead of its reach they don't -/
theorem leads_no {st ws : List Nat} (S : IsSt st) (hl : ws.length = st.length) {p : Nat} (hp : p < st.length) (h : ∀ d, d < st.getD p 0 → reach st (posOf st d) ≤ ws.getD d 0 ∧ ws.getD d 0 ≤ posOf st d) (h0 : 0 < reach st p) (hw : ws.getD (st.getD p 0) 0 = reach st p - 1) : leadsB st ws = false := by
  have hc := st_lt S hp
  generalize hce : st.getD p 0 = c at hc h hw
  have k := leads_to S (ws := ws) c (by omega) (by omega) h
  have hlt : c < ws.length := by omega
  have hge := back_ge (st := st) (x := st.getD p 0) p h0
  have hj : reach st p - 1 < p := by have := reach_le st p; omega
  have hgt : c < st.getD (reach st p - 1) 0 := by
    have hne : st.getD (reach st p - 1) 0 ≠ st.getD p 0 := fun e => by have := st_inj S (by omega) hp e; omega
    have hge2 : st.getD p 0 ≤ st.getD (reach st p - 1) 0 := hge
    omega
  have e1 : stand st.length (whereL st.length (ws.take c)) (reach st p - 1) = reach st p - 1 := by
    refine stand_is (Nat.le_refl _) (by omega) (fun j h1 h2 => absurd h2 (Nat.not_lt.mpr h1)) (fun hm => ?_)
    rw [k] at hm
    obtain ⟨d, hd1, hd2⟩ := List.mem_map.mp hm
    have hd3 := List.mem_range.mp hd1
    have q1 := (posOf_is S (show d < st.length by omega)).2
    rw [hd2] at q1
    omega
  have e2 : (whereL st.length ws).getD c 0 = reach st p - 1 := by
    have t := whereL_take st.length ws (c + 1) hlt
    rw [List.take_add_one, List.getElem?_eq_getElem hlt] at t
    have t2 : whereL st.length (ws.take c ++ [ws[c]]) = (whereL st.length ws).take (c + 1) := t
    have ew : ws[c] = reach st p - 1 := by
      rw [List.getD_eq_getElem?_getD, List.getElem?_eq_getElem hlt] at hw
      exact hw
    rw [whereL_snoc, ew, e1] at t2
    have g : ((whereL st.length ws).take (c + 1))[c]? = some (reach st p - 1) := by
      rw [← t2, List.getElem?_append_right (by rw [whereL_len, List.length_take]; omega), whereL_len, List.length_take, show c - min c ws.length = 0 by omega]
      rfl
    rw [List.getElem?_take_of_lt (Nat.lt_succ_self c)] at g
    rw [List.getD_eq_getElem?_getD, g]
    rfl
  unfold leadsB
  rw [List.all_eq_false]
  refine ⟨c, List.mem_range.mpr hlt, ?_⟩
  rw [e2]
  simp only [Bool.and_eq_true, decide_eq_true_eq, not_and]
  intro _ e
  omega
/-! ### a drawn standing -/
def insCar (st : List Nat) (at_ : Nat) : List Nat := st.take at_ ++ [st.length] ++ st.drop at_
def drawSt (ns : List Int) : List Nat := ns.foldl (fun st c => insCar st (c % ((st.length : Int) + 1)).toNat) []
theorem drawSt_snoc (ns : List Int) (c : Int) : drawSt (ns ++ [c]) = insCar (drawSt ns) (c % (((drawSt ns).length : Int) + 1)).toNat := by
  unfold drawSt
  rw [List.foldl_append]
  rfl
theorem insCar_perm (st : List Nat) (k : Nat) : (insCar st k).Perm (st.length :: st) := by
  unfold insCar
  rw [List.append_assoc, List.singleton_append]
  exact List.perm_middle.trans (by rw [List.take_append_drop])
theorem drawSt_perm : ∀ ns : List Int, (drawSt ns).Perm (List.range ns.length).reverse ∧ (drawSt ns).length = ns.length := by
  refine snoc_ind ⟨List.Perm.refl _, rfl⟩ fun r c ih => ?_
  obtain ⟨h1, h2⟩ := ih
  have h3 := insCar_perm (drawSt r) (c % (((drawSt r).length : Int) + 1)).toNat
  rw [drawSt_snoc]
  refine ⟨?_, ?_⟩
  · rw [List.length_append, List.length_singleton, List.range_succ, List.reverse_append]
    rw [h2] at h3 ⊢
    exact h3.trans (h1.cons _)
  · rw [h3.length_eq, List.length_cons, h2, List.length_append]
    rfl
theorem drawSt_is (ns : List Int) : IsSt (drawSt ns) := by
  obtain ⟨h1, h2⟩ := drawSt_perm ns
  refine ⟨fun x hx => ?_, ?_⟩
  · rw [h2]
    have := h1.mem_iff.mp hx
    rw [List.mem_reverse] at this
    exact List.mem_range.mp this
  · refine h1.nodup_iff.mpr ?_
    exact (List.reverse_perm _).nodup_iff.mpr List.nodup_range
end Pk
namespace Pk
/-! ### who parks -/
theorem getD_of {ws : List Nat} {c : Nat} (h : c < ws.length) : ws[c]? = some (ws.getD c 0) := by
  rw [List.getD_eq_getElem?_getD, List.getElem?_eq_getElem h]
  rfl
theorem whereL_get (p : Nat) {ws : List Nat} {c : Nat} (h : c < ws.length) : (whereL p ws).getD c 0 = stand p ((whereL p ws).take c) (ws.getD c 0) := by
  have t := whereL_take p ws (c + 1) h
  rw [List.take_add_one, getD_of h] at t
  have t2 : whereL p (ws.take c ++ [ws.getD c 0]) = (whereL p ws).take (c + 1) := t
  rw [whereL_snoc, whereL_take p ws c (Nat.le_of_lt h)] at t2
  have hl := whereL_len p ws
  have g : ((whereL p ws).take (c + 1))[c]? = some (stand p ((whereL p ws).take c) (ws.getD c 0)) := by
    rw [← t2, List.getElem?_append_right (by rw [List.length_take]; omega), List.length_take, show c - min c (whereL p ws).length = 0 by omega]
    rfl
  rw [List.getElem?_take_of_lt (Nat.lt_succ_self c)] at g
  rw [List.getD_eq_getElem?_getD, g]
  rfl
theorem mem_take_iff {l : List Nat} {c x : Nat} (hc : c ≤ l.length) : x ∈ l.take c ↔ ∃ d, d < c ∧ l.getD d 0 = x := by
  constructor
  · intro h
    obtain ⟨d, hd, e⟩ := List.mem_iff_getElem.mp h
    rw [List.length_take] at hd
    refine ⟨d, by omega, ?_⟩
    rw [List.getElem_take] at e
    rw [List.getD_eq_getElem?_getD, List.getElem?_eq_getElem (by omega)]
    exact e
  · rintro ⟨d, hd, e⟩
    have h1 : (l.take c)[d]? = some x := by rw [List.getElem?_take_of_lt hd, getD_of (by omega), e]
    exact List.mem_of_getElem? h1
structure Parks (p : Nat) (ws : List Nat) (L : List Nat) : Prop where
  len : L.length = ws.length
  lo : ∀ c, c < ws.length → ws.getD c 0 ≤ L.getD c 0
  hi : ∀ c, c < ws.length → L.getD c 0 ≤ p
  be : ∀ c, c < ws.length → ∀ j, ws.getD c 0 ≤ j → j < L.getD c 0 → ∃ d, d < c ∧ L.getD d 0 = j
  ne : ∀ c, c < ws.length → L.getD c 0 < p → ∀ d, d < c → L.getD d 0 ≠ L.getD c 0
theorem parks {p : Nat} {ws : List Nat} (h : ∀ x ∈ ws, x < p) : Parks p ws (whereL p ws) := by
  have hl := whereL_len p ws
  have k : ∀ c, c < ws.length → ws.getD c 0 ≤ (whereL p ws).getD c 0 ∧ (whereL p ws).getD c 0 ≤ p ∧ (∀ j, ws.getD c 0 ≤ j → j < (whereL p ws).getD c 0 → j ∈ (whereL p ws).take c) ∧ ((whereL p ws).getD c 0 < p → (whereL p ws).getD c 0 ∉ (whereL p ws).take c) := fun c hc => by
    rw [whereL_get p hc]
    exact stand_ge _ (h _ (List.mem_of_getElem? (getD_of hc)))
  refine ⟨hl, fun c hc => (k c hc).1, fun c hc => (k c hc).2.1, fun c hc j h1 h2 => (mem_take_iff (by omega)).mp ((k c hc).2.2.1 j h1 h2), fun c hc h1 d hd e => (k c hc).2.2.2 h1 ((mem_take_iff (by omega)).mpr ⟨d, hd, e⟩)⟩
theorem parks_inj {p : Nat} {ws L : List Nat} (P : Parks p ws L) {c d : Nat} (hc : c < ws.length) (hd : d < ws.length) (h1 : L.getD c 0 < p) (e : L.getD c 0 = L.getD d 0) : c = d := by
  rcases Nat.lt_trichotomy c d with h | h | h
  · exact absurd e (P.ne d hd (by omega) c h)
  · exact h
  · exact absurd e.symm (P.ne c hc h1 d h)
theorem ge_filter (ws : List Nat) (i : Nat) : ge ws i = ((List.range ws.length).filter fun c => decide (i ≤ ws.getD c 0)).length := by
  have e : ws = (List.range ws.length).map fun c => ws.getD c 0 := by
    refine List.ext_getElem? fun c => ?_
    rw [List.getElem?_map]
    by_cases h : c < ws.length
    · rw [List.getElem?_range h, getD_of h]
      rfl
    · rw [List.getElem?_eq_none (by omega), List.getElem?_eq_none (by rw [List.length_range]; omega)]
      rfl
  unfold ge
  conv => lhs; rw [e]
  rw [List.countP_map, List.countP_eq_length_filter]
  rfl
theorem low_is {S : Nat → Prop} {p : Nat} : ∀ w, (∀ j, w ≤ j → j < p → S j) → ∃ i, i ≤ w ∧ (∀ j, i ≤ j → j < p → S j) ∧ ∀ k, k + 1 = i → ¬ S k
  | 0, h => ⟨0, Nat.le_refl _, h, fun k e => by omega⟩
  | w + 1, h => by
    by_cases c : S w
    · obtain ⟨i, h1, h2, h3⟩ := low_is w (S := S) (p := p) fun j a b => by
        by_cases e : j = w
        · subst e
          exact c
        · exact h j (by omega) b
      exact ⟨i, by omega, h2, h3⟩
    · refine ⟨w + 1, Nat.le_refl _, h, fun k e => ?_⟩
      have : k = w := by omega
      subst this
      exact c
/-- none drives off where there is no crowd -/
theorem parks_all {p : Nat} {ws L : List Nat} (P : Parks p ws L) (hw : ∀ x ∈ ws, x < p) (h : ∀ i, i < p → ge ws i ≤ p - i) : ∀ c, c < ws.length → L.getD c 0 < p := fun c hc => by
  refine Classical.byContradiction fun hn => ?_
  have hL : L.getD c 0 = p := by have := P.hi c hc; omega
  obtain ⟨i, hi, h1, h2⟩ := low_is (S := fun j => ∃ d, d < c ∧ L.getD d 0 = j) (p := p) (ws.getD c 0) fun j a b => P.be c hc j a (by omega)
  have hwc := hw _ (List.mem_of_getElem? (getD_of hc))
  have hip : i < p := by omega
  have hch : ∀ j, ∃ d, i ≤ j → j < p → d < c ∧ L.getD d 0 = j := fun j => by
    by_cases a : i ≤ j
    · by_cases b : j < p
      · obtain ⟨d, hd⟩ := h1 j a b
        exact ⟨d, fun _ _ => hd⟩
      · exact ⟨0, fun _ z => absurd z b⟩
    · exact ⟨0, fun z => absurd z a⟩
  have hf := fun j => Classical.choose_spec (hch j)
  generalize (fun j => Classical.choose (hch j)) = f at hf
  have hf2 : ∃ f : Nat → Nat, ∀ j, i ≤ j → j < p → f j < c ∧ L.getD (f j) 0 = j := ⟨fun j => Classical.choose (hch j), hf⟩
  obtain ⟨f, hf⟩ := hf2
  have hnd : (c :: (List.range' i (p - i)).map f).Nodup := by
    refine List.nodup_cons.mpr ⟨fun hm => ?_, ?_⟩
    · obtain ⟨j, hj, e⟩ := List.mem_map.mp hm
      rw [List.mem_range'_1] at hj
      have := (hf j hj.1 (by omega)).1
      omega
    · refine List.Pairwise.map (R := fun a b => a ≠ b ∧ (i ≤ a ∧ a < p) ∧ (i ≤ b ∧ b < p)) f (fun a b hab e => ?_) ?_
      · have h3 := (hf a hab.2.1.1 hab.2.1.2).2
        have h4 := (hf b hab.2.2.1 hab.2.2.2).2
        rw [e] at h3
        exact hab.1 (h3.symm.trans h4)
      · refine List.Pairwise.imp_of_mem (fun {a b} ha hb hab => ⟨hab, ?_, ?_⟩) (List.nodup_range' (s := i) (n := p - i) (step := 1))
        · rw [List.mem_range'_1] at ha; omega
        · rw [List.mem_range'_1] at hb; omega
  have hsub : (c :: (List.range' i (p - i)).map f) ⊆ (List.range ws.length).filter fun c => decide (i ≤ ws.getD c 0) := fun x hx => by
    rw [List.mem_filter, List.mem_range, decide_eq_true_eq]
    rcases List.mem_cons.mp hx with e | hx
    · subst e
      exact ⟨hc, hi⟩
    · obtain ⟨j, hj, e⟩ := List.mem_map.mp hx
      rw [List.mem_range'_1] at hj
      obtain ⟨h3, h4⟩ := hf j hj.1 (by omega)
      subst e
      refine ⟨by omega, Nat.le_of_not_lt fun hlt => ?_⟩
      obtain ⟨d, hd, e⟩ := P.be (f j) (by omega) (i - 1) (by omega) (by omega)
      exact h2 (i - 1) (by omega) ⟨d, by omega, e⟩
  have h3 := hnd.length_le_of_subset hsub
  rw [← ge_filter, List.length_cons, List.length_map, List.length_range'] at h3
  have := h i hip
  omega
/-- where none drives off there is no crowd -/
theorem parks_no {p : Nat} {ws L : List Nat} (P : Parks p ws L) (h : ∀ c, c < ws.length → L.getD c 0 < p) : ∀ i, i < p → ge ws i ≤ p - i := fun i hi => by
  rw [ge_filter]
  have hnd : (((List.range ws.length).filter fun c => decide (i ≤ ws.getD c 0)).map fun c => L.getD c 0).Nodup := by
    refine List.Pairwise.map (R := fun a b => a ≠ b ∧ a < ws.length ∧ b < ws.length) _ (fun a b hab e => hab.1 (parks_inj P hab.2.1 hab.2.2 (h a hab.2.1) e)) ?_
    refine List.Pairwise.imp_of_mem (fun {a b} ha hb hab => ⟨hab, ?_, ?_⟩) (List.nodup_range.filter _)
    · exact List.mem_range.mp (List.mem_filter.mp ha).1
    · exact List.mem_range.mp (List.mem_filter.mp hb).1
  have hsub : (((List.range ws.length).filter fun c => decide (i ≤ ws.getD c 0)).map fun c => L.getD c 0) ⊆ List.range' i (p - i) := fun x hx => by
    obtain ⟨c, hc, e⟩ := List.mem_map.mp hx
    subst e
    obtain ⟨h1, h2⟩ := List.mem_filter.mp hc
    have h3 := List.mem_range.mp h1
    have h4 := P.lo c h3
    have h5 := h c h3
    have h6 := of_decide_eq_true h2
    rw [List.mem_range'_1]
    omega
  have h3 := hnd.length_le_of_subset hsub
  rw [List.length_map, List.length_range'] at h3
  exact h3
/-! ### the standing that they lead to -/
def stdK (L : List Nat) : Nat → List Nat
  | 0 => List.replicate L.length 0
  | k + 1 => (stdK L k).set (L.getD k 0) k
theorem stdK_len (L : List Nat) : ∀ k, (stdK L k).length = L.length
  | 0 => by unfold stdK; rw [List.length_replicate]
  | k + 1 => by unfold stdK; rw [List.length_set, stdK_len L k]
def stdOf (L : List Nat) : List Nat := stdK L L.length
structure PermL (L : List Nat) : Prop where
  lo : ∀ c, c < L.length → L.getD c 0 < L.length
  ij : ∀ c d, c < L.length → d < L.length → L.getD c 0 = L.getD d 0 → c = d
theorem stdK_get {L : List Nat} (h : PermL L) : ∀ k, k ≤ L.length → ∀ c, c < k → (stdK L k)[L.getD c 0]? = some c
  | k + 1, hk, c, hc => by
    unfold stdK
    by_cases e : c = k
    · subst e
      rw [List.getElem?_set_self (by rw [stdK_len]; exact h.lo c hk)]
    · rw [List.getElem?_set_ne (fun q => e (h.ij k c hk (by omega) q).symm)]
      exact stdK_get h k (by omega) c (by omega)
theorem permL_nd {L : List Nat} (h : PermL L) : L.Nodup := by
  rw [List.Nodup, List.pairwise_iff_getElem]
  intro i j hi hj hij e
  have := h.ij i j hi hj (by rw [List.getD_eq_getElem?_getD, List.getD_eq_getElem?_getD, List.getElem?_eq_getElem hi, List.getElem?_eq_getElem hj]; exact congrArg (fun z => (some z).getD 0) e)
  omega
theorem permL_st {L : List Nat} (h : PermL L) : IsSt L := ⟨fun x hx => by
  obtain ⟨c, hc, e⟩ := List.mem_iff_getElem.mp hx
  have := h.lo c hc
  rw [List.getD_eq_getElem?_getD, List.getElem?_eq_getElem hc] at this
  rw [← e]
  exact this, permL_nd h⟩
theorem stdOf_len (L : List Nat) : (stdOf L).length = L.length := stdK_len L _
theorem stdOf_at {L : List Nat} (h : PermL L) {c : Nat} (hc : c < L.length) : (stdOf L).getD (L.getD c 0) 0 = c := by
  have g := stdK_get h L.length (Nat.le_refl _) c hc
  unfold stdOf
  rw [List.getD_eq_getElem?_getD, g]
  rfl
/-- every place is taken -/
theorem stdOf_has {L : List Nat} (h : PermL L) {x : Nat} (hx : x < L.length) : ∃ c, c < L.length ∧ L.getD c 0 = x ∧ (stdOf L).getD x 0 = c := by
  obtain ⟨c, hc, e⟩ := st_has (permL_st h) hx
  refine ⟨c, hc, e, ?_⟩
  rw [← e, stdOf_at h hc]
theorem stdOf_st {L : List Nat} (h : PermL L) : IsSt (stdOf L) := by
  refine permL_st ⟨fun x hx => ?_, fun x y hx hy e => ?_⟩
  · rw [stdOf_len] at hx ⊢
    obtain ⟨c, hc, _, e2⟩ := stdOf_has h hx
    omega
  · rw [stdOf_len] at hx hy
    obtain ⟨c, hc, e1, e2⟩ := stdOf_has h hx
    obtain ⟨d, hd, e3, e4⟩ := stdOf_has h hy
    rw [e2, e4] at e
    subst e
    omega
theorem full_perm {ws : List Nat} (F : Full ws) : Parks ws.length ws (whereL ws.length ws) ∧ PermL (whereL ws.length ws) := by
  have P := parks (p := ws.length) (ws := ws) F.lo
  have A := parks_all P F.lo F.no
  refine ⟨P, fun c hc => ?_, fun c d hc hd e => ?_⟩
  · rw [P.len] at hc ⊢
    exact A c hc
  · rw [P.len] at hc hd
    exact parks_inj P hc hd (A c hc) e
/-- each wish is from its place's reach on -/
theorem full_reach {ws : List Nat} (F : Full ws) {c : Nat} (hc : c < ws.length) : reach (stdOf (whereL ws.length ws)) ((whereL ws.length ws).getD c 0) ≤ ws.getD c 0 := by
  obtain ⟨P, L⟩ := full_perm F
  refine Nat.le_of_not_lt fun hlt => ?_
  have h1 := reach_le (stdOf (whereL ws.length ws)) ((whereL ws.length ws).getD c 0)
  have h2 := back_ge (st := stdOf (whereL ws.length ws)) (x := (stdOf (whereL ws.length ws)).getD ((whereL ws.length ws).getD c 0) 0) ((whereL ws.length ws).getD c 0) (by unfold reach at hlt; omega)
  have h3 : (stdOf (whereL ws.length ws)).getD ((whereL ws.length ws).getD c 0) 0 = c := stdOf_at L (by rw [P.len]; exact hc)
  have h4 : c ≤ (stdOf (whereL ws.length ws)).getD (reach (stdOf (whereL ws.length ws)) ((whereL ws.length ws).getD c 0) - 1) 0 := by unfold reach; rw [h3] at h2 ⊢; exact h2
  obtain ⟨d, hd, e⟩ := P.be c hc (reach (stdOf (whereL ws.length ws)) ((whereL ws.length ws).getD c 0) - 1) (by omega) (by omega)
  have h5 : (stdOf (whereL ws.length ws)).getD (reach (stdOf (whereL ws.length ws)) ((whereL ws.length ws).getD c 0) - 1) 0 = d := by
    rw [← e]
    exact stdOf_at L (by rw [P.len]; omega)
  omega
end Pk
namespace Pk
open PySem PySem.Spec PyProof.Rows L2 Evl He
open SX (S)
section
variable {P : Program} {w : World} {K : PySem.W.Frag} {σ : L2.St} {H : Hp} {te ta tb : TE} {v : V} {D : Ends} {tz : TS}
/-! ### arguments some of which are new lists -/
def EvAP (ta : TA) (σ : L2.St) (H : Hp) (Φ : List V → Hp → Prop) : Prop := ∀ H1, Ex H H1 → ∀ Q : List V → Hp → Prop, (∀ vs H2, Ex H1 H2 → Φ vs H2 → Q vs H2) → ta σ H1 Q
theorem eap_nil : EvAP tNil σ H (fun vs _ => vs = []) := fun H1 _ _ q => q _ H1 (Ex.refl H1) rfl
theorem eap_cons {tr : TA} {Φ : List V → Hp → Prop} (h : Ev te σ H v) (hr : EvAP tr σ H Φ) : EvAP (tCons te tr) σ H (fun vs H2 => ∃ ws, vs = v :: ws ∧ Φ ws H2) := fun H1 e _ q =>
  h H1 e _ fun H2 e2 => hr H2 (e.trans e2) _ fun ws H3 e3 hw => q _ H3 (e2.trans e3) ⟨ws, rfl, hw⟩
theorem eap_consL {tr : TA} {xs : List V} {Φ : List V → Hp → Prop} (h : EvL te σ H xs) (hr : EvAP tr σ H Φ) : EvAP (tCons te tr) σ H (fun vs H2 => ∃ p ws, vs = .ref p :: ws ∧ H p = none ∧ H2 p = some (.lst xs) ∧ Φ ws H2) := fun H1 e _ q =>
  h H1 e _ fun p H2 hp e2 h2 => hr H2 (e.trans e2) _ fun ws H3 e3 hw => q _ H3 (e2.trans e3) ⟨p, ws, rfl, fresh_back e hp, e3 p _ h2, hw⟩
theorem ev_callP {sp : Sp} {dvs : List V} {E : XK} {ta : TA} {Φ : List V → Hp → Prop} (h : EvAP ta σ H Φ) (hs : ∀ vs H1, Ex H H1 → Φ vs H1 → SpV sp (vs ++ dvs) H1 v) : Ev (tCall sp dvs E ta) σ H v := fun H1 e Q q =>
  h H1 e _ fun vs H2 e2 hv => hs vs H2 (e.trans e2) hv H2 (Ex.refl H2) _ (fun H3 e3 => q H3 (e2.trans e3)) E
theorem el_callP {sp : Sp} {dvs xs : List V} {E : XK} {ta : TA} {Φ : List V → Hp → Prop} (h : EvAP ta σ H Φ) (hs : ∀ vs H1, Ex H H1 → Φ vs H1 → SpL sp (vs ++ dvs) H1 xs) : EvL (tCall sp dvs E ta) σ H xs := fun H1 e Q q =>
  h H1 e _ fun vs H2 e2 hv => hs vs H2 (e.trans e2) hv H2 (Ex.refl H2) _ (fun p H3 hp e3 h3 => q p H3 (fresh_back e2 hp) (e2.trans e3) h3) E
/-- one new list handed in -/
theorem ev_callL1 {sp : Sp} {E : XK} {xs : List V} (h : EvL te σ H xs) (hs : ∀ p H1, Ex H H1 → H1 p = some (.lst xs) → SpV sp [.ref p] H1 v) : Ev (tCall sp [] E (tCons te tNil)) σ H v :=
  ev_callP (eap_consL h eap_nil) fun vs H1 e hv => by
    obtain ⟨p, ws, rfl, _, hp, rfl⟩ := hv
    exact hs p H1 e hp
theorem el_callL1 {sp : Sp} {E : XK} {xs ys : List V} (h : EvL te σ H xs) (hs : ∀ p H1, Ex H H1 → H1 p = some (.lst xs) → SpL sp [.ref p] H1 ys) : EvL (tCall sp [] E (tCons te tNil)) σ H ys :=
  el_callP (eap_consL h eap_nil) fun vs H1 e hv => by
    obtain ⟨p, ws, rfl, _, hp, rfl⟩ := hv
    exact hs p H1 e hp
theorem el_callL2 {sp : Sp} {E : XK} {xs xs2 ys : List V} (h : EvL te σ H xs) (h2 : EvL ta σ H xs2) (hs : ∀ p q H1, Ex H H1 → H1 p = some (.lst xs) → H1 q = some (.lst xs2) → SpL sp [.ref p, .ref q] H1 ys) : EvL (tCall sp [] E (tCons te (tCons ta tNil))) σ H ys :=
  el_callP (eap_consL h (eap_consL h2 eap_nil)) fun vs H1 e hv => by
    obtain ⟨p, ws, rfl, _, hp, q, ws2, rfl, _, hq, rfl⟩ := hv
    exact hs p q H1 e hp hq
theorem el_callVL {sp : Sp} {E : XK} {xs ys : List V} (h : Ev te σ H v) (h2 : EvL ta σ H xs) (hs : ∀ p H1, Ex H H1 → H1 p = some (.lst xs) → SpL sp [v, .ref p] H1 ys) : EvL (tCall sp [] E (tCons te (tCons ta tNil))) σ H ys :=
  el_callP (eap_cons h (eap_consL h2 eap_nil)) fun vs H1 e hv => by
    obtain ⟨ws, rfl, p, ws2, rfl, _, hp, rfl⟩ := hv
    exact hs p H1 e hp
theorem ev_callVL {sp : Sp} {E : XK} {xs : List V} {z : V} (h : Ev te σ H v) (h2 : EvL ta σ H xs) (hs : ∀ p H1, Ex H H1 → H1 p = some (.lst xs) → SpV sp [v, .ref p] H1 z) : Ev (tCall sp [] E (tCons te (tCons ta tNil))) σ H z :=
  ev_callP (eap_cons h (eap_consL h2 eap_nil)) fun vs H1 e hv => by
    obtain ⟨ws, rfl, p, ws2, rfl, _, hp, rfl⟩ := hv
    exact hs p H1 e hp
/-- a new list by a comparison with one at hand -/
theorem ev_neNL {b : Addr} {ns ms : List Nat} (ha : EvL ta σ H (vn ns)) (hb : Ev tb σ H (.ref b)) (h : SqL K H b (vn ms)) : Ev (tOp (rNeD K) ta tb) σ H (.bl (!decide (ns = ms))) :=
  ev_opL1 ha (fun H1 e => hb.mono e) fun p H1 hp e => rv_neN (sq_of hp) (ex_l e h)
theorem ev_eqNL {b : Addr} {ns ms : List Nat} (ha : EvL ta σ H (vn ns)) (hb : Ev tb σ H (.ref b)) (h : SqL K H b (vn ms)) : Ev (tOp (rEqD K) ta tb) σ H (.bl (decide (ns = ms))) :=
  ev_opL1 ha (fun H1 e => hb.mono e) fun p H1 hp e => rv_eqN (sq_of hp) (ex_l e h)
theorem ev_neNLL {ns ms : List Nat} (ha : EvL ta σ H (vn ns)) (hb : EvL tb σ H (vn ms)) : Ev (tOp (rNeD K) ta tb) σ H (.bl (!decide (ns = ms))) :=
  ev_opLL ha hb fun p q H1 hp hq e => rv_neN (sq_of hp) (sq_of hq)
theorem ev_eqNLL {ns ms : List Nat} (ha : EvL ta σ H (vn ns)) (hb : EvL tb σ H (vn ms)) : Ev (tOp (rEqD K) ta tb) σ H (.bl (decide (ns = ms))) :=
  ev_opLL ha hb fun p q H1 hp hq e => rv_eqN (sq_of hp) (sq_of hq)
end
end Pk
namespace Pk
/-! ### a list of steps ahead to the first free place -/
/-- ah leads each x on to nf x -/
structure Fr (n : Nat) (nf d : Nat → Nat) (ah : List Nat) : Prop where
  len : ah.length = n
  lt : ∀ x, x < n → ah.getD x 0 < n
  eq : ∀ x, x < n → (ah.getD x 0 = x ↔ nf x = x)
  on : ∀ x, x < n → nf (ah.getD x 0) = nf x
  ds : ∀ x, x < n → ah.getD x 0 ≠ x → d (ah.getD x 0) < d x
  nn : ∀ x, x < n → nf x < n ∧ nf (nf x) = nf x ∧ (nf x ≠ x → d (nf x) < d x)
  bd : ∀ x, x < n → d x ≤ n
theorem getD_set_self {ah : List Nat} {x v : Nat} (h : x < ah.length) : (ah.set x v).getD x 0 = v := by
  rw [List.getD_eq_getElem?_getD, List.getElem?_set_self h]
  rfl
theorem getD_set_ne {ah : List Nat} {x y v : Nat} (h : x ≠ y) : (ah.set x v).getD y 0 = ah.getD y 0 := by
  rw [List.getD_eq_getElem?_getD, List.getElem?_set_ne h, List.getD_eq_getElem?_getD]
/-- shortened -/
theorem Fr.cut {n : Nat} {nf d : Nat → Nat} {ah : List Nat} (F : Fr n nf d ah) {x : Nat} (hx : x < n) (hn : nf x ≠ x) : Fr n nf d (ah.set x (nf x)) := by
  have N := F.nn x hx
  have hl := F.len
  have key : ∀ y, (ah.set x (nf x)).getD y 0 = if y = x then nf x else ah.getD y 0 := fun y => by
    by_cases e : y = x
    · rw [if_pos e, e]
      exact getD_set_self (by omega)
    · rw [if_neg e]
      exact getD_set_ne (fun q => e q.symm)
  refine ⟨by rw [List.length_set, hl], fun y hy => ?_, fun y hy => ?_, fun y hy => ?_, fun y hy hne => ?_, F.nn, F.bd⟩
  · rw [key y]
    by_cases e : y = x
    · rw [if_pos e]; exact N.1
    · rw [if_neg e]; exact F.lt y hy
  · rw [key y]
    by_cases e : y = x
    · rw [if_pos e, e]
    · rw [if_neg e]; exact F.eq y hy
  · rw [key y]
    by_cases e : y = x
    · rw [if_pos e, e]; exact N.2.1
    · rw [if_neg e]; exact F.on y hy
  · rw [key y] at hne ⊢
    by_cases e : y = x
    · rw [if_pos e, e]; exact N.2.2 hn
    · rw [if_neg e] at hne ⊢; exact F.ds y hy hne
/-! ### around a ring -/
def rdist (occ : List Nat) (p x : Nat) : Nat := (List.range p).findIdx fun k => decide ((x + k) % p ∉ occ)
def rnf (occ : List Nat) (p x : Nat) : Nat := (x + rdist occ p x) % p
/-- the first free place is k away -/
def Fst (occ : List Nat) (p x k : Nat) : Prop := (∀ j, j < k → (x + j) % p ∈ occ) ∧ (x + k) % p ∉ occ
theorem fst_uniq {occ : List Nat} {p x k k' : Nat} (h : Fst occ p x k) (h' : Fst occ p x k') : k = k' := by
  rcases Nat.lt_trichotomy k k' with c | c | c
  · exact absurd (h'.1 k c) h.2
  · exact c
  · exact absurd (h.1 k' c) h'.2
def HasFree (occ : List Nat) (p : Nat) : Prop := ∃ g, g < p ∧ g ∉ occ
theorem reach_by {p x g : Nat} (hx : x < p) (hg : g < p) : ∃ k, k < p ∧ (x + k) % p = g := by
  by_cases c : x ≤ g
  · exact ⟨g - x, by omega, by rw [show x + (g - x) = g by omega]; exact Nat.mod_eq_of_lt hg⟩
  · refine ⟨g + p - x, by omega, ?_⟩
    rw [show x + (g + p - x) = g + p by omega, Nat.add_mod_right]
    exact Nat.mod_eq_of_lt hg
theorem rdist_spec {occ : List Nat} {p x : Nat} (F : HasFree occ p) (hx : x < p) : rdist occ p x < p ∧ Fst occ p x (rdist occ p x) := by
  obtain ⟨g, hg, hf⟩ := F
  obtain ⟨k, hk, e⟩ := reach_by hx hg
  have h1 : rdist occ p x < (List.range p).length := by
    unfold rdist
    refine List.findIdx_lt_length_of_exists ⟨k, List.mem_range.mpr hk, ?_⟩
    rw [decide_eq_true_eq, e]
    exact hf
  have h2 := h1
  rw [List.length_range] at h2
  refine ⟨h2, fun j hj => ?_, ?_⟩
  · have h3 := List.not_of_lt_findIdx (p := fun k => decide ((x + k) % p ∉ occ)) (xs := List.range p) (i := j) hj
    rw [List.getElem_range] at h3
    simpa using h3
  · have h3 := List.findIdx_getElem (p := fun k => decide ((x + k) % p ∉ occ)) (xs := List.range p) (w := h1)
    have h4 := of_decide_eq_true h3
    have e : (List.range p)[rdist occ p x]'h1 = rdist occ p x := List.getElem_range h1
    exact fun hm => h4 (by show (x + (List.range p)[rdist occ p x]'h1) % p ∈ occ; rw [e]; exact hm)
theorem rdist_is {occ : List Nat} {p x k : Nat} (F : HasFree occ p) (hx : x < p) (h : Fst occ p x k) : rdist occ p x = k := fst_uniq (rdist_spec F hx).2 h
theorem rnf_lt {occ : List Nat} {p x : Nat} (hp : 0 < p) : rnf occ p x < p := Nat.mod_lt _ hp
theorem rnf_free {occ : List Nat} {p x : Nat} (F : HasFree occ p) (hx : x < p) : rnf occ p x ∉ occ := (rdist_spec F hx).2.2
theorem fst_zero {occ : List Nat} {p x : Nat} (hx : x < p) (h : x ∉ occ) : Fst occ p x 0 := ⟨fun j hj => absurd hj (Nat.not_lt_zero j), by rw [Nat.add_zero, Nat.mod_eq_of_lt hx]; exact h⟩
theorem rdist_zero {occ : List Nat} {p x : Nat} (F : HasFree occ p) (hx : x < p) : rdist occ p x = 0 ↔ x ∉ occ := by
  constructor
  · intro h
    have := (rdist_spec F hx).2.2
    rw [h, Nat.add_zero, Nat.mod_eq_of_lt hx] at this
    exact this
  · exact fun h => rdist_is F hx (fst_zero hx h)
theorem rnf_self {occ : List Nat} {p x : Nat} (F : HasFree occ p) (hx : x < p) : rnf occ p x = x ↔ x ∉ occ := by
  constructor
  · intro h
    have := rnf_free F hx
    rw [h] at this
    exact this
  · intro h
    unfold rnf
    rw [(rdist_zero F hx).mpr h, Nat.add_zero, Nat.mod_eq_of_lt hx]
/-- one step on -/
theorem rdist_step {occ : List Nat} {p x : Nat} (F : HasFree occ p) (hx : x < p) (h : x ∈ occ) : rdist occ p x = rdist occ p ((x + 1) % p) + 1 := by
  have hp : 0 < p := by omega
  have h2 := (rdist_spec F (x := (x + 1) % p) (Nat.mod_lt _ hp)).2
  refine rdist_is F hx ⟨fun j hj => ?_, ?_⟩
  · cases j with
    | zero => rw [Nat.add_zero, Nat.mod_eq_of_lt hx]; exact h
    | succ j =>
      have h3 := h2.1 j (by omega)
      rw [Nat.mod_add_mod, show x + 1 + j = x + (j + 1) by omega] at h3
      exact h3
  · have h3 := h2.2
    rw [Nat.mod_add_mod, show x + 1 + rdist occ p ((x + 1) % p) = x + (rdist occ p ((x + 1) % p) + 1) by omega] at h3
    exact h3
theorem rnf_step {occ : List Nat} {p x : Nat} (F : HasFree occ p) (hx : x < p) (h : x ∈ occ) : rnf occ p x = rnf occ p ((x + 1) % p) := by
  unfold rnf
  rw [rdist_step F hx h, Nat.mod_add_mod]
  congr 1
  omega
/-- a place more is taken -/
theorem rdist_more {occ : List Nat} {p f x : Nat} (F2 : HasFree (occ ++ [f]) p) (hx : x < p) (hf : f < p) (hff : f ∉ occ) :
    rdist (occ ++ [f]) p x = if rnf occ p x = f then rdist occ p x + 1 + rdist (occ ++ [f]) p ((f + 1) % p) else rdist occ p x := by
  have F : HasFree occ p := ⟨f, hf, hff⟩
  have hp : 0 < p := by omega
  have h1 := (rdist_spec F hx).2
  by_cases e : rnf occ p x = f
  · rw [if_pos e]
    have h2 := (rdist_spec F2 (x := (f + 1) % p) (Nat.mod_lt _ hp)).2
    have key : ∀ i, ((f + 1) % p + i) % p = (x + (rdist occ p x + 1 + i)) % p := fun i => by
      have e2 : f = (x + rdist occ p x) % p := e.symm
      rw [e2, Nat.mod_add_mod, show (x + rdist occ p x) % p + 1 + i = (x + rdist occ p x) % p + (1 + i) by omega, Nat.mod_add_mod]
      congr 1
      omega
    refine rdist_is F2 hx ⟨fun j hj => ?_, ?_⟩
    · by_cases c : j < rdist occ p x
      · exact List.mem_append_left _ (h1.1 j c)
      · by_cases c2 : j = rdist occ p x
        · rw [c2]
          have e2 : (x + rdist occ p x) % p = f := e
          rw [e2]
          exact List.mem_append_right _ (List.mem_singleton.mpr rfl)
        · have := h2.1 (j - (rdist occ p x + 1)) (by omega)
          rw [key, show rdist occ p x + 1 + (j - (rdist occ p x + 1)) = j by omega] at this
          exact this
    · have := h2.2
      rw [key] at this
      exact this
  · rw [if_neg e]
    refine rdist_is F2 hx ⟨fun j hj => List.mem_append_left _ (h1.1 j hj), fun hm => ?_⟩
    rcases List.mem_append.mp hm with hm | hm
    · exact h1.2 hm
    · exact e (List.mem_singleton.mp hm)
theorem rnf_more {occ : List Nat} {p f x : Nat} (F2 : HasFree (occ ++ [f]) p) (hx : x < p) (hf : f < p) (hff : f ∉ occ) :
    rnf (occ ++ [f]) p x = if rnf occ p x = f then rnf (occ ++ [f]) p ((f + 1) % p) else rnf occ p x := by
  have e := rdist_more F2 hx hf hff
  by_cases c : rnf occ p x = f
  · rw [if_pos c] at e ⊢
    show (x + rdist (occ ++ [f]) p x) % p = ((f + 1) % p + rdist (occ ++ [f]) p ((f + 1) % p)) % p
    have e2 : f = (x + rdist occ p x) % p := c.symm
    rw [e]
    conv => rhs; arg 1; arg 1; rw [e2, Nat.mod_add_mod]
    rw [Nat.mod_add_mod]
    congr 1
    omega
  · rw [if_neg c] at e ⊢
    show (x + rdist (occ ++ [f]) p x) % p = _
    rw [e]
    rfl
theorem range_get {p x : Nat} (h : x < p) : (List.range p).getD x 0 = x := by
  rw [List.getD_eq_getElem?_getD, List.getElem?_range h]
  rfl
theorem fr_start {p : Nat} : Fr p (rnf [] p) (rdist [] p) (List.range p) := by
  have nil : ∀ x, x < p → rnf [] p x = x ∧ rdist [] p x = 0 := fun x hx =>
    ⟨(rnf_self ⟨x, hx, by simp⟩ hx).mpr (by simp), (rdist_zero ⟨x, hx, by simp⟩ hx).mpr (by simp)⟩
  refine ⟨List.length_range, fun x hx => by rw [range_get hx]; exact hx, fun x hx => ?_, fun x hx => by rw [range_get hx], fun x hx h => absurd (range_get hx) h, fun x hx => ?_, fun x hx => by rw [(nil x hx).2]; exact Nat.zero_le _⟩
  · rw [range_get hx, (nil x hx).1]
  · rw [(nil x hx).1]
    exact ⟨hx, (nil x hx).1, fun h => absurd rfl h⟩
theorem fr_more {occ ah : List Nat} {p f : Nat} (R : Fr p (rnf occ p) (rdist occ p) ah) (F2 : HasFree (occ ++ [f]) p) (hf : f < p) (hff : f ∉ occ) : Fr p (rnf (occ ++ [f]) p) (rdist (occ ++ [f]) p) (ah.set f ((f + 1) % p)) := by
  have F : HasFree occ p := ⟨f, hf, hff⟩
  have hp : 0 < p := by omega
  have hl := R.len
  have hmf : f ∈ occ ++ [f] := List.mem_append_right _ (List.mem_singleton.mpr rfl)
  have hne1 : (f + 1) % p ≠ f := fun e => by
    obtain ⟨g, hg, hgf⟩ := F2
    have : g ≠ f := fun e2 => hgf (e2 ▸ hmf)
    by_cases c : f + 1 < p
    · rw [Nat.mod_eq_of_lt c] at e; omega
    · have : f + 1 = p := by omega
      rw [this, Nat.mod_self] at e
      omega
  have key : ∀ y, (ah.set f ((f + 1) % p)).getD y 0 = if y = f then (f + 1) % p else ah.getD y 0 := fun y => by
    by_cases e : y = f
    · rw [if_pos e, e]
      exact getD_set_self (by omega)
    · rw [if_neg e]
      exact getD_set_ne (fun q => e q.symm)
  refine ⟨by rw [List.length_set, hl], fun y hy => ?_, fun y hy => ?_, fun y hy => ?_, fun y hy hne => ?_, fun y hy => ?_, fun y hy => Nat.le_of_lt (rdist_spec F2 hy).1⟩
  · rw [key y]
    by_cases e : y = f
    · rw [if_pos e]; exact Nat.mod_lt _ hp
    · rw [if_neg e]; exact R.lt y hy
  · rw [key y, rnf_self F2 hy]
    by_cases e : y = f
    · rw [if_pos e, e]
      exact ⟨fun h => absurd h hne1, fun h => absurd hmf h⟩
    · rw [if_neg e, R.eq y hy, rnf_self F hy]
      simp [e]
  · rw [key y]
    by_cases e : y = f
    · rw [if_pos e, e]
      exact (rnf_step F2 hf hmf).symm
    · rw [if_neg e, rnf_more F2 (R.lt y hy) hf hff, rnf_more F2 hy hf hff, R.on y hy]
  · rw [key y] at hne ⊢
    by_cases e : y = f
    · rw [if_pos e, e, rdist_step F2 hf hmf]
      exact Nat.lt_succ_self _
    · rw [if_neg e] at hne ⊢
      have h := R.ds y hy hne
      rw [rdist_more F2 (R.lt y hy) hf hff, rdist_more F2 hy hf hff, R.on y hy]
      split <;> omega
  · have h1 := rnf_free F2 hy
    have h2 := rnf_lt (occ := occ ++ [f]) (x := y) hp
    refine ⟨h2, (rnf_self F2 h2).mpr h1, fun hne => ?_⟩
    rw [(rdist_zero F2 h2).mpr h1]
    refine Nat.pos_of_ne_zero fun h0 => hne ?_
    exact (rnf_self F2 hy).mpr ((rdist_zero F2 hy).mp h0)
/-- where all stand around a ring -/
def whereR (p : Nat) (ws : List Nat) : List Nat := ws.foldl (fun acc w => acc ++ [rnf acc p w]) []
theorem whereR_snoc (p : Nat) (ws : List Nat) (w : Nat) : whereR p (ws ++ [w]) = whereR p ws ++ [rnf (whereR p ws) p w] := by
  unfold whereR
  rw [List.foldl_append]
  rfl
theorem whereR_len (p : Nat) : ∀ ws : List Nat, (whereR p ws).length = ws.length := by
  refine snoc_ind rfl fun r w ih => ?_
  rw [whereR_snoc, List.length_append, List.length_append, ih]
  rfl
theorem has_free {occ : List Nat} {p : Nat} (h : occ.length < p) : HasFree occ p := by
  refine Classical.byContradiction fun hn => ?_
  have hsub : List.range p ⊆ occ := fun x hx => by
    refine Classical.byContradiction fun hm => hn ⟨x, List.mem_range.mp hx, hm⟩
  have := (List.nodup_range (n := p)).length_le_of_subset hsub
  rw [List.length_range] at this
  omega
end Pk
namespace Pk
/-! ### trees: children, the queue -/
def chlK (ps : List Nat) (i v : Nat) : List Nat := ((List.range i).filter fun c => decide (ps.getD c 0 = v)).map (· + 1)
def chl (ps : List Nat) (v : Nat) : List Nat := chlK ps ps.length v
theorem chlK_zero (ps : List Nat) (v : Nat) : chlK ps 0 v = [] := rfl
theorem chlK_succ (ps : List Nat) (i v : Nat) : chlK ps (i + 1) v = if ps.getD i 0 = v then chlK ps i v ++ [i + 1] else chlK ps i v := by
  unfold chlK
  rw [List.range_succ, List.filter_append, List.map_append]
  by_cases h : ps.getD i 0 = v
  · rw [if_pos h, List.filter_cons, if_pos (decide_eq_true h)]
    rfl
  · rw [if_neg h, List.filter_cons, if_neg (by rw [decide_eq_false h]; decide)]
    simp
theorem mem_chl {ps : List Nat} {v x : Nat} : x ∈ chl ps v ↔ ∃ c, c < ps.length ∧ ps.getD c 0 = v ∧ c + 1 = x := by
  unfold chl chlK
  rw [List.mem_map]
  constructor
  · rintro ⟨c, hc, e⟩
    obtain ⟨h1, h2⟩ := List.mem_filter.mp hc
    exact ⟨c, List.mem_range.mp h1, of_decide_eq_true h2, e⟩
  · rintro ⟨c, h1, h2, e⟩
    exact ⟨c, List.mem_filter.mpr ⟨List.mem_range.mpr h1, decide_eq_true h2⟩, e⟩
theorem chl_nd (ps : List Nat) (v : Nat) : (chl ps v).Nodup := by
  unfold chl chlK
  refine List.Pairwise.map _ (fun a b hab e => hab (by omega)) (List.nodup_range.filter _)
theorem chl_len (ps : List Nat) (v : Nat) : (chl ps v).length = ps.count v := by
  unfold chl chlK
  rw [List.length_map]
  have e : ps = (List.range ps.length).map fun c => ps.getD c 0 := by
    refine List.ext_getElem? fun c => ?_
    rw [List.getElem?_map]
    by_cases h : c < ps.length
    · rw [List.getElem?_range h, getD_of h]
      rfl
    · rw [List.getElem?_eq_none (by omega), List.getElem?_eq_none (by rw [List.length_range]; omega)]
      rfl
  conv => rhs; rw [e]
  rw [List.count_eq_countP, List.countP_map, List.countP_eq_length_filter]
  congr 1
def qw (ps : List Nat) : Nat → List Nat
  | 0 => [0]
  | k + 1 => qw ps k ++ (if k < (qw ps k).length then chl ps ((qw ps k).getD k 0) else [])
theorem qw_yes {ps : List Nat} {k : Nat} (h : k < (qw ps k).length) : qw ps (k + 1) = qw ps k ++ chl ps ((qw ps k).getD k 0) := by
  show qw ps k ++ _ = _
  rw [if_pos h]
theorem qw_no {ps : List Nat} {k : Nat} (h : ¬ k < (qw ps k).length) : qw ps (k + 1) = qw ps k := by
  show qw ps k ++ _ = _
  rw [if_neg h, List.append_nil]
theorem qw_pre {ps : List Nat} {k : Nat} : ∀ j, qw ps k <+: qw ps (k + j)
  | 0 => List.prefix_rfl
  | j + 1 => (qw_pre j).trans (by show qw ps (k + j) <+: qw ps (k + j + 1); exact ⟨_, rfl⟩)
theorem qw_get {ps : List Nat} {k k' i : Nat} (h : k ≤ k') (hi : i < (qw ps k).length) : (qw ps k').getD i 0 = (qw ps k).getD i 0 := by
  obtain ⟨t, ht⟩ := qw_pre (ps := ps) (k := k) (k' - k)
  rw [show k + (k' - k) = k' by omega] at ht
  rw [← ht, List.getD_eq_getElem?_getD, List.getElem?_append_left hi, List.getD_eq_getElem?_getD]
theorem qw_stop {ps : List Nat} {k : Nat} (h : (qw ps k).length ≤ k) : ∀ j, qw ps (k + j) = qw ps k
  | 0 => rfl
  | j + 1 => by
    have e := qw_stop h j
    rw [show k + (j + 1) = (k + j) + 1 by omega, qw_no (by rw [e]; omega), e]
structure QI (ps : List Nat) (k : Nat) : Prop where
  nd : (qw ps k).Nodup
  le : ∀ x ∈ qw ps k, x ≤ ps.length
  up : ∀ x ∈ qw ps k, x ≠ 0 → ∃ j, j < k ∧ j < (qw ps k).length ∧ (qw ps k).getD j 0 = ps.getD (x - 1) 0
theorem nd_get {l : List Nat} (h : l.Nodup) {i j : Nat} (hi : i < l.length) (hj : j < l.length) (e : l.getD i 0 = l.getD j 0) : i = j := by
  rw [List.getD_eq_getElem?_getD, List.getD_eq_getElem?_getD, List.getElem?_eq_getElem hi, List.getElem?_eq_getElem hj] at e
  exact (List.getElem_inj h).mp e
theorem qi (ps : List Nat) : ∀ k, QI ps k
  | 0 => ⟨by simp [qw], fun x hx => by have : x = 0 := by simpa [qw] using hx
                                       omega, fun x hx h => absurd (by simpa [qw] using hx) h⟩
  | k + 1 => by
    obtain ⟨h1, h2, h3⟩ := qi ps k
    by_cases c : k < (qw ps k).length
    · have e := qw_yes c
      have old : ∀ j, j < (qw ps k).length → (qw ps (k + 1)).getD j 0 = (qw ps k).getD j 0 := fun j hj => qw_get (Nat.le_succ k) hj
      have hle : (qw ps k).length ≤ (qw ps (k + 1)).length := by rw [e, List.length_append]; omega
      refine ⟨?_, fun x hx => ?_, fun x hx h0 => ?_⟩
      · rw [e]
        refine List.nodup_append.mpr ⟨h1, chl_nd _ _, fun x hx y hy hxy => ?_⟩
        subst hxy
        obtain ⟨d, hd, hd2, rfl⟩ := mem_chl.mp hy
        obtain ⟨j, hj1, hj2, hj3⟩ := h3 (d + 1) hx (by omega)
        rw [show d + 1 - 1 = d by omega, hd2] at hj3
        have := nd_get h1 hj2 c hj3
        omega
      · rw [e] at hx
        rcases List.mem_append.mp hx with hx | hx
        · exact h2 x hx
        · obtain ⟨d, hd, _, rfl⟩ := mem_chl.mp hx
          omega
      · rw [e] at hx
        rcases List.mem_append.mp hx with hx | hx
        · obtain ⟨j, hj1, hj2, hj3⟩ := h3 x hx h0
          exact ⟨j, by omega, by omega, by rw [old j hj2, hj3]⟩
        · obtain ⟨d, hd, hd2, rfl⟩ := mem_chl.mp hx
          exact ⟨k, by omega, by omega, by rw [old k c, show d + 1 - 1 = d by omega, hd2]⟩
    · have e := qw_no c
      refine ⟨by rw [e]; exact h1, fun x hx => h2 x (by rw [← e]; exact hx), fun x hx h0 => ?_⟩
      rw [e] at hx ⊢
      obtain ⟨j, hj1, hj2, hj3⟩ := h3 x hx h0
      exact ⟨j, by omega, hj2, hj3⟩
theorem qw_len (ps : List Nat) (k : Nat) : (qw ps k).length ≤ ps.length + 1 := by
  have h := (qi ps k).nd.length_le_of_subset (l₂ := List.range (ps.length + 1)) fun x hx => List.mem_range.mpr (Nat.lt_succ_of_le ((qi ps k).le x hx))
  rw [List.length_range] at h
  exact h
/-- all that come from the root -/
def qAll (ps : List Nat) : List Nat := qw ps (ps.length + 1)
theorem qAll_stop {ps : List Nat} {k : Nat} (hk : k ≤ ps.length + 1) (h : (qw ps k).length ≤ k) : qw ps k = qAll ps := by
  have := qw_stop h (ps.length + 1 - k)
  rw [show k + (ps.length + 1 - k) = ps.length + 1 by omega] at this
  exact this.symm
theorem qAll_lt {ps : List Nat} {k : Nat} (h : k < (qAll ps).length) : k < (qw ps k).length := by
  refine Nat.lt_of_not_le fun hn => ?_
  have h1 := qw_len ps (ps.length + 1)
  have h2 : (qAll ps).length ≤ ps.length + 1 := h1
  have e := qAll_stop (ps := ps) (k := k) (by omega) hn
  rw [e] at hn
  omega
theorem qAll_get {ps : List Nat} {k i : Nat} (hk : k ≤ ps.length + 1) (hi : i < (qw ps k).length) : (qAll ps).getD i 0 = (qw ps k).getD i 0 := qw_get hk hi
theorem qAll_closed {ps : List Nat} {v x : Nat} (hv : v ∈ qAll ps) (hx : x ∈ chl ps v) : x ∈ qAll ps := by
  obtain ⟨j, hj, e⟩ := List.mem_iff_getElem.mp hv
  have h1 := qAll_lt hj
  have h2 := qw_len ps (ps.length + 1)
  have h3 : (qAll ps).length ≤ ps.length + 1 := h2
  have g := qAll_get (ps := ps) (k := j) (i := j) (by omega) h1
  rw [List.getD_eq_getElem?_getD, List.getElem?_eq_getElem hj] at g
  have g2 : (qw ps j).getD j 0 = v := by rw [← g]; exact e
  have e2 := qw_yes h1
  rw [g2] at e2
  obtain ⟨t, ht⟩ := qw_pre (ps := ps) (k := j + 1) (ps.length + 1 - (j + 1))
  rw [show j + 1 + (ps.length + 1 - (j + 1)) = ps.length + 1 by omega] at ht
  show x ∈ qw ps (ps.length + 1)
  rw [← ht, e2]
  exact List.mem_append_left _ (List.mem_append_right _ hx)
theorem qAll_root (ps : List Nat) : 0 ∈ qAll ps := by
  obtain ⟨t, ht⟩ := qw_pre (ps := ps) (k := 0) (ps.length + 1)
  rw [Nat.zero_add] at ht
  show 0 ∈ qw ps (ps.length + 1)
  rw [← ht]
  exact List.mem_append_left _ (by simp [qw])
/-- each car is beneath one that is nearer to the root -/
structure Ranked (ps : List Nat) (r : Nat → Nat) : Prop where
  le : ∀ c, c < ps.length → ps.getD c 0 ≤ ps.length
  lt : ∀ c, c < ps.length → r (ps.getD c 0) < r (c + 1)
theorem ranked_all {ps : List Nat} {r : Nat → Nat} (R : Ranked ps r) : ∀ v, v ≤ ps.length → v ∈ qAll ps := by
  have key : ∀ m v, r v ≤ m → v ≤ ps.length → v ∈ qAll ps := by
    intro m
    induction m with
    | zero =>
      intro v hr hv
      cases v with
      | zero => exact qAll_root ps
      | succ c =>
        have := R.lt c hv
        omega
    | succ m ih =>
      intro v hr hv
      cases v with
      | zero => exact qAll_root ps
      | succ c =>
        have h1 := R.lt c hv
        have h2 := ih (ps.getD c 0) (by omega) (R.le c hv)
        exact qAll_closed h2 (mem_chl.mpr ⟨c, hv, rfl, rfl⟩)
  exact fun v hv => key (r v) v (Nat.le_refl _) hv
structure Tr (ps : List Nat) : Prop where
  le : ∀ c, c < ps.length → ps.getD c 0 ≤ ps.length
  all : ∀ v, v ≤ ps.length → v ∈ qAll ps
theorem Tr.len {ps : List Nat} (T : Tr ps) : (qAll ps).length = ps.length + 1 := by
  have h := (List.nodup_range (n := ps.length + 1)).length_le_of_subset (l₂ := qAll ps) fun x hx => T.all x (Nat.le_of_lt_succ (List.mem_range.mp hx))
  rw [List.length_range] at h
  have h2 : (qAll ps).length ≤ ps.length + 1 := qw_len ps (ps.length + 1)
  omega
theorem Tr.perm {ps : List Nat} (T : Tr ps) : PermL (qAll ps) := by
  have h := qi ps (ps.length + 1)
  refine ⟨fun c hc => ?_, fun c d hc hd e => nd_get h.nd hc hd e⟩
  have h1 := h.le _ (List.mem_of_getElem? (getD_of hc))
  have h2 := T.len
  show (qAll ps).getD c 0 < _
  have h3 : (qAll ps).getD c 0 ≤ ps.length := h1
  omega
/-- the turn in which one is served -/
def turnsOf (ps : List Nat) : List Nat := stdOf (qAll ps)
def wishL (ps : List Nat) : List Nat := ps.map fun v => (turnsOf ps).getD v 0
theorem wishL_len (ps : List Nat) : (wishL ps).length = ps.length := by unfold wishL; rw [List.length_map]
theorem wishL_get {ps : List Nat} {c : Nat} (hc : c < ps.length) : (wishL ps).getD c 0 = (turnsOf ps).getD (ps.getD c 0) 0 := by
  unfold wishL
  rw [List.getD_eq_getElem?_getD, List.getElem?_map, getD_of hc]
  rfl
theorem turns_is {ps : List Nat} (T : Tr ps) {v : Nat} (hv : v ≤ ps.length) : (turnsOf ps).getD v 0 < ps.length + 1 ∧ (qAll ps).getD ((turnsOf ps).getD v 0) 0 = v := by
  obtain ⟨c, h1, h2, h3⟩ := stdOf_has T.perm (x := v) (by rw [T.len]; omega)
  rw [T.len] at h1
  show (stdOf (qAll ps)).getD v 0 < _ ∧ _
  unfold turnsOf
  rw [h3]
  exact ⟨h1, h2⟩
theorem turns_at {ps : List Nat} (T : Tr ps) {t : Nat} (ht : t < ps.length + 1) : (turnsOf ps).getD ((qAll ps).getD t 0) 0 = t := stdOf_at T.perm (by rw [T.len]; exact ht)
/-! ### the wishes' own tree -/
def sv (ws : List Nat) : Nat → List Nat
  | 0 => [0]
  | k + 1 => sv ws k ++ chl ws k
def treeL (ws : List Nat) : List Nat := ws.map fun w => (sv ws ws.length).getD w 0
theorem sv_len (ws : List Nat) : ∀ k, (sv ws k).length = 1 + lt ws k
  | 0 => by
    rw [lt_zero]
    rfl
  | k + 1 => by
    show (sv ws k ++ chl ws k).length = _
    rw [List.length_append, sv_len ws k, chl_len, lt_succ]
    omega
theorem sv_pre {ws : List Nat} {k : Nat} : ∀ j, sv ws k <+: sv ws (k + j)
  | 0 => List.prefix_rfl
  | j + 1 => (sv_pre j).trans (by show sv ws (k + j) <+: sv ws (k + j + 1); exact ⟨_, rfl⟩)
theorem sv_get {ws : List Nat} {k k' i : Nat} (h : k ≤ k') (hi : i < (sv ws k).length) : (sv ws k').getD i 0 = (sv ws k).getD i 0 := by
  obtain ⟨t, ht⟩ := sv_pre (ws := ws) (k := k) (k' - k)
  rw [show k + (k' - k) = k' by omega] at ht
  rw [← ht, List.getD_eq_getElem?_getD, List.getElem?_append_left hi, List.getD_eq_getElem?_getD]
theorem wishL_chl {ps : List Nat} (T : Tr ps) {t : Nat} (ht : t < ps.length + 1) : chl (wishL ps) t = chl ps ((qAll ps).getD t 0) := by
  unfold chl chlK
  rw [wishL_len]
  congr 1
  refine List.filter_congr fun c hc => ?_
  have hc2 := List.mem_range.mp hc
  rw [wishL_get hc2, decide_eq_decide]
  have h := turns_is T (T.le c hc2)
  constructor
  · intro e
    rw [← e, h.2]
  · intro e
    rw [e, turns_at T ht]
theorem sv_qw {ps : List Nat} (T : Tr ps) : ∀ k, k ≤ ps.length + 1 → sv (wishL ps) k = qw ps k
  | 0, _ => rfl
  | k + 1, hk => by
    have hlt : k < (qw ps k).length := qAll_lt (by rw [T.len]; omega)
    rw [qw_yes hlt]
    show sv (wishL ps) k ++ chl (wishL ps) k = _
    rw [sv_qw T k (by omega), wishL_chl T (by omega), qAll_get (by omega) hlt]
theorem wishL_full {ps : List Nat} (T : Tr ps) : Full (wishL ps) := by
  have key : ∀ i, i ≤ ps.length → i ≤ lt (wishL ps) i := fun i hi => by
    have h1 : i < (qw ps i).length := qAll_lt (by rw [T.len]; omega)
    rw [← sv_qw T i (by omega), sv_len] at h1
    omega
  have hl : ∀ x ∈ wishL ps, x < ps.length := by
    have h2 : lt (wishL ps) ps.length = (wishL ps).length := by
      have h3 := lt_le (wishL ps) ps.length
      have h4 := key ps.length (Nat.le_refl _)
      rw [wishL_len] at *
      omega
    unfold lt at h2
    rw [List.countP_eq_length] at h2
    intro x hx
    simpa using h2 x hx
  exact ⟨fun x hx => by rw [wishL_len]; exact hl x hx, fun i hi => key i (by rw [wishL_len] at hi; exact hi)⟩
theorem treeL_back {ps : List Nat} (T : Tr ps) : treeL (wishL ps) = ps := by
  have hF := wishL_full T
  refine List.ext_getElem? fun c => ?_
  unfold treeL
  rw [List.getElem?_map]
  by_cases hc : c < ps.length
  · rw [getD_of (ws := wishL ps) (c := c) (by rw [wishL_len]; exact hc), getD_of (ws := ps) hc]
    show some _ = some _
    congr 1
    have h1 := hF.lo _ (List.mem_of_getElem? (getD_of (ws := wishL ps) (c := c) (by rw [wishL_len]; exact hc)))
    have h2 : ps.length < (qw ps ps.length).length := qAll_lt (by rw [T.len]; omega)
    rw [wishL_len] at h1 ⊢
    rw [sv_qw T ps.length (by omega)]
    show (qw ps ps.length).getD ((wishL ps).getD c 0) 0 = _
    rw [← qAll_get (Nat.le_succ _) (by omega), wishL_get hc]
    exact (turns_is T (T.le c hc)).2
  · rw [List.getElem?_eq_none (by rw [wishL_len]; omega), List.getElem?_eq_none (by omega)]
    rfl
/-- some that never come to the root -/
theorem qAll_less {ps : List Nat} {S : List Nat} (h0 : 0 ∉ S) (hc : ∀ x ∈ S, ps.getD (x - 1) 0 ∈ S) {s : Nat} (hs : s ∈ S) (hsn : s ≤ ps.length) : (qAll ps).length ≤ ps.length := by
  have key : ∀ k, ∀ x ∈ qw ps k, x ∉ S := by
    intro k
    induction k with
    | zero =>
      intro x hx
      have : x = 0 := by simpa [qw] using hx
      subst this
      exact h0
    | succ k ih =>
      intro x hx
      by_cases c : k < (qw ps k).length
      · rw [qw_yes c] at hx
        rcases List.mem_append.mp hx with hx | hx
        · exact ih x hx
        · obtain ⟨d, hd, hd2, rfl⟩ := mem_chl.mp hx
          intro hm
          have h1 := hc (d + 1) hm
          rw [show d + 1 - 1 = d by omega, hd2] at h1
          exact ih _ (List.mem_of_getElem? (getD_of c)) h1
      · rw [qw_no c] at hx
        exact ih x hx
  have h := qi ps (ps.length + 1)
  have h1 : (s :: qAll ps).Nodup := List.nodup_cons.mpr ⟨fun hm => key _ s hm hs, h.nd⟩
  have h2 := h1.length_le_of_subset (l₂ := List.range (ps.length + 1)) fun x hx => by
    rcases List.mem_cons.mp hx with e | hx
    · subst e
      exact List.mem_range.mpr (by omega)
    · exact List.mem_range.mpr (Nat.lt_succ_of_le (h.le x hx))
  rw [List.length_range, List.length_cons] at h2
  omega
end Pk
namespace Pk
/-! ### the places that are taken -/
theorem lt_filter (ws : List Nat) (i : Nat) : lt ws i = ((List.range ws.length).filter fun c => decide (ws.getD c 0 < i)).length := by
  have e : ws = (List.range ws.length).map fun c => ws.getD c 0 := by
    refine List.ext_getElem? fun c => ?_
    rw [List.getElem?_map]
    by_cases h : c < ws.length
    · rw [List.getElem?_range h, getD_of h]
      rfl
    · rw [List.getElem?_eq_none (by omega), List.getElem?_eq_none (by rw [List.length_range]; omega)]
      rfl
  unfold lt
  conv => lhs; rw [e]
  rw [List.countP_map, List.countP_eq_length_filter]
  rfl
def wq (ws : List Nat) : Nat → Nat
  | 0 => 0
  | x + 1 => wq ws x + ws.count x - 1
def tkn (ws : List Nat) (p : Nat) : List Nat := (List.range p).filter fun x => decide (0 < wq ws x + ws.count x)
theorem tkn_succ (ws : List Nat) (p : Nat) : tkn ws (p + 1) = if 0 < wq ws p + ws.count p then tkn ws p ++ [p] else tkn ws p := by
  unfold tkn
  rw [List.range_succ, List.filter_append, List.filter_cons]
  by_cases h : 0 < wq ws p + ws.count p
  · rw [if_pos h, if_pos (decide_eq_true h)]
    rfl
  · rw [if_neg h, if_neg (by rw [decide_eq_false h]; decide)]
    simp
theorem tkn_len (ws : List Nat) (p : Nat) : (tkn ws p).length ≤ p := by
  unfold tkn
  have := List.length_filter_le (fun x => decide (0 < wq ws x + ws.count x)) (List.range p)
  rw [List.length_range] at this
  exact this
theorem wq_perm {ws ys : List Nat} (h : ys.Perm ws) : ∀ x, wq ys x = wq ws x
  | 0 => rfl
  | x + 1 => by
    show wq ys x + ys.count x - 1 = wq ws x + ws.count x - 1
    rw [wq_perm h x, h.count_eq]
theorem tkn_perm {ws ys : List Nat} (h : ys.Perm ws) (p : Nat) : tkn ys p = tkn ws p := by
  unfold tkn
  refine List.filter_congr fun x _ => ?_
  rw [wq_perm h x, h.count_eq]
theorem parks_lt_le {p : Nat} {ws L : List Nat} (P : Parks p ws L) (x : Nat) : lt L x ≤ lt ws x := by
  rw [lt_filter, lt_filter]
  refine List.Nodup.length_le_of_subset (List.Pairwise.filter _ List.nodup_range) fun c hc => ?_
  obtain ⟨h1, h2⟩ := List.mem_filter.mp hc
  have h3 := List.mem_range.mp h1
  have h4 := of_decide_eq_true h2
  rw [P.len] at h3
  have h5 := P.lo c h3
  exact List.mem_filter.mpr ⟨List.mem_range.mpr h3, decide_eq_true (by omega)⟩
theorem parks_lt_iff {p : Nat} {ws L : List Nat} (P : Parks p ws L) {x : Nat} : x ∈ L → lt L x < lt ws (x + 1) := fun hx => by
  obtain ⟨c, hc, e⟩ := List.mem_iff_getElem.mp hx
  have hg : L.getD c 0 = x := by rw [List.getD_eq_getElem?_getD, List.getElem?_eq_getElem hc]; exact e
  rw [P.len] at hc
  rw [lt_filter, lt_filter]
  have hnd : (c :: (List.range L.length).filter fun c => decide (L.getD c 0 < x)).Nodup := by
    refine List.nodup_cons.mpr ⟨fun hm => ?_, List.nodup_range.filter _⟩
    have := of_decide_eq_true (List.mem_filter.mp hm).2
    omega
  have h := hnd.length_le_of_subset (l₂ := (List.range ws.length).filter fun c => decide (ws.getD c 0 < x + 1)) fun d hd => by
    rcases List.mem_cons.mp hd with e | hd
    · subst e
      have := P.lo d hc
      exact List.mem_filter.mpr ⟨List.mem_range.mpr hc, decide_eq_true (by omega)⟩
    · obtain ⟨h1, h2⟩ := List.mem_filter.mp hd
      have h3 := List.mem_range.mp h1
      have h4 := of_decide_eq_true h2
      rw [P.len] at h3
      have h5 := P.lo d h3
      exact List.mem_filter.mpr ⟨List.mem_range.mpr h3, decide_eq_true (by omega)⟩
  rw [List.length_cons] at h
  omega
theorem parks_lt_mem {p : Nat} {ws L : List Nat} (P : Parks p ws L) {x : Nat} (h : lt L x < lt ws (x + 1)) : x ∈ L := by
  refine Classical.byContradiction fun hn => ?_
  have hle : lt ws (x + 1) ≤ lt L x := by
    rw [lt_filter, lt_filter]
    refine List.Nodup.length_le_of_subset (List.Pairwise.filter _ List.nodup_range) fun c hc => ?_
    obtain ⟨h1, h2⟩ := List.mem_filter.mp hc
    have h3 := List.mem_range.mp h1
    have h4 := of_decide_eq_true h2
    have hcL : c < L.length := by rw [P.len]; exact h3
    refine List.mem_filter.mpr ⟨List.mem_range.mpr hcL, decide_eq_true (Nat.lt_of_not_le fun hge => hn ?_)⟩
    by_cases e : L.getD c 0 = x
    · rw [← e]
      exact List.mem_of_getElem? (getD_of hcL)
    · obtain ⟨d, hd, e2⟩ := P.be c h3 x (by omega) (by omega)
      rw [← e2]
      exact List.mem_of_getElem? (getD_of (by omega))
  omega
theorem parks_nd {p : Nat} {ws L : List Nat} (P : Parks p ws L) : (L.filter fun x => decide (x < p)).Nodup := by
  have h1 : L.Pairwise fun a b => b < p → a ≠ b := by
    rw [List.pairwise_iff_getElem]
    intro i j hi hj hij hb e
    rw [P.len] at hi hj
    have g : ∀ k, (h : k < L.length) → L.getD k 0 = L[k] := fun k h => by rw [List.getD_eq_getElem?_getD, List.getElem?_eq_getElem h]; rfl
    have hiL : i < L.length := by rw [P.len]; exact hi
    have hjL : j < L.length := by rw [P.len]; exact hj
    refine P.ne j hj (by rw [g j hjL]; exact hb) i hij ?_
    rw [g i hiL, g j hjL]
    exact e
  refine (h1.filter _).imp_of_mem fun {a b} _ hb h => h (of_decide_eq_true (List.mem_filter.mp hb).2)
theorem parks_count {p : Nat} {ws L : List Nat} (P : Parks p ws L) {x : Nat} (hx : x < p) : L.count x = if x ∈ L then 1 else 0 := by
  have h1 := List.nodup_iff_count.mp (parks_nd P) x
  rw [List.count_filter (p := fun x => decide (x < p)) (decide_eq_true hx)] at h1
  by_cases h : x ∈ L
  · rw [if_pos h]
    have := List.count_pos_iff.mpr h
    omega
  · rw [if_neg h]
    exact List.count_eq_zero.mpr h
theorem wq_is {p : Nat} {ws L : List Nat} (P : Parks p ws L) : ∀ x, x ≤ p → wq ws x = lt ws x - lt L x
  | 0, _ => by rw [lt_zero, lt_zero]; rfl
  | x + 1, hx => by
    have ih := wq_is P x (by omega)
    have h1 := parks_lt_le P x
    have h2 := lt_succ ws x
    have h3 := lt_succ L x
    have h4 := parks_count P (x := x) (by omega)
    show wq ws x + ws.count x - 1 = _
    by_cases c : x ∈ L
    · rw [if_pos c] at h4
      omega
    · rw [if_neg c] at h4
      have h5 : ¬ lt L x < lt ws (x + 1) := fun h => c (parks_lt_mem P h)
      omega
theorem tkn_mem {p : Nat} {ws L : List Nat} (P : Parks p ws L) {x : Nat} : x ∈ tkn ws p ↔ x < p ∧ x ∈ L := by
  unfold tkn
  rw [List.mem_filter, List.mem_range, decide_eq_true_eq]
  constructor
  · rintro ⟨h1, h2⟩
    have h3 := wq_is P x (by omega)
    have h4 := lt_succ ws x
    have h5 := parks_lt_le P x
    exact ⟨h1, parks_lt_mem P (by omega)⟩
  · rintro ⟨h1, h2⟩
    have h3 := wq_is P x (by omega)
    have h4 := lt_succ ws x
    have h5 := parks_lt_le P x
    have h6 := parks_lt_iff P h2
    exact ⟨h1, by omega⟩
theorem tkn_perm_of {p : Nat} {ws L : List Nat} (P : Parks p ws L) : (tkn ws p).Perm (L.filter fun x => decide (x < p)) := by
  refine (List.perm_ext_iff_of_nodup ?_ (parks_nd P)).mpr fun x => ?_
  · unfold tkn
    exact List.nodup_range.filter _
  · rw [tkn_mem P, List.mem_filter, decide_eq_true_eq]
    exact And.comm
theorem tkn_rise (ws : List Nat) (p : Nat) : (tkn ws p).Pairwise (· ≤ ·) := by
  unfold tkn
  exact (List.pairwise_lt_range.imp fun h => Nat.le_of_lt h).filter _
/-! ### full wishes in another turn -/
theorem drv_perm {ws ys : List Nat} (h : ys.Perm ws) : drv ys = drv ws := by
  unfold drv
  rw [h.length_eq, h.sum_nat]
theorem sum_range0 (n : Nat) : ((((List.range n).sum : Nat)) : Int) = ((n : Int) * ((n : Int) - 1)) / 2 := by
  have h : ∀ n : Nat, 2 * (List.range n).sum = n * (n - 1) := by
    intro n
    induction n with
    | zero => rfl
    | succ n ih =>
      rw [List.range_succ, List.sum_append_nat]
      simp only [List.sum_cons, List.sum_nil]
      rw [Nat.mul_add, ih]
      cases n with
      | zero => rfl
      | succ m =>
        show (m + 1) * m + 2 * (m + 1 + 0) = (m + 2) * (m + 1)
        rw [Nat.add_zero, ← Nat.mul_comm (m + 1) 2, ← Nat.mul_add, Nat.mul_comm]
  have h1 := h n
  have h2 : (n : Int) * ((n : Int) - 1) = 2 * (((List.range n).sum : Nat) : Int) := by
    have h3 : (((2 * (List.range n).sum : Nat)) : Int) = ((n * (n - 1) : Nat) : Int) := by rw [h1]
    cases n with
    | zero => rfl
    | succ m =>
      rw [show ((m + 1 : Nat) : Int) - 1 = (m : Int) by omega]
      rw [show m + 1 - 1 = m by omega] at h3
      push_cast at h3 ⊢
      omega
  rw [h2]
  omega
theorem permL_sum {L : List Nat} (h : PermL L) : (((L.sum : Nat)) : Int) = ((L.length : Int) * ((L.length : Int) - 1)) / 2 := by
  have S := permL_st h
  have hp : L.Perm (List.range L.length) := by
    refine (List.perm_ext_iff_of_nodup S.nd List.nodup_range).mpr fun x => ?_
    rw [List.mem_range]
    constructor
    · exact S.lo x
    · intro hx
      obtain ⟨p, hp, e⟩ := st_has S hx
      rw [← e]
      exact List.mem_of_getElem? (getD_of hp)
  rw [hp.sum_nat]
  exact sum_range0 _
theorem full_drv {ws : List Nat} (F : Full ws) : (((whereL ws.length ws).sum : Nat) : Int) - ((ws.sum : Nat) : Int) = drv ws := by
  obtain ⟨P, L⟩ := full_perm F
  have h := permL_sum L
  rw [P.len] at h
  unfold drv
  rw [h]
theorem mem_end {n : Nat} {ws : List Nat} (hw : ∀ x ∈ ws, x < n) (hl : ws.length = n) : n ∈ whereL n ws ↔ ¬ Full ws := by
  have P := parks hw
  constructor
  · intro hm F
    obtain ⟨c, hc, e⟩ := List.mem_iff_getElem.mp hm
    have hg : (whereL n ws).getD c 0 = n := by rw [List.getD_eq_getElem?_getD, List.getElem?_eq_getElem hc]; exact e
    rw [P.len] at hc
    have := parks_all P hw (fun i hi => by have := F.no i (by omega); omega) c hc
    omega
  · intro hF
    refine Classical.byContradiction fun hm => hF ?_
    refine Full.of (fun x hx => by rw [hl]; exact hw x hx) fun i hi => ?_
    rw [hl] at hi ⊢
    refine parks_no P (fun c hc => ?_) i hi
    have h1 := P.hi c hc
    by_cases e : (whereL n ws).getD c 0 = n
    · exact absurd (by have k := List.mem_of_getElem? (getD_of (ws := whereL n ws) (c := c) (by rw [P.len]; exact hc)); rw [e] at k; exact k) hm
    · omega
end Pk
namespace Pk
open PySem PySem.Spec PyProof.Rows L2 Evl He
open SX (S)
/-! ### classes of one's own: made, asked -/
def clsBody : Stmt → List Stmt
  | .ClassDef _ _ _ body _ _ _ _ _ _ _ => body
  | _ => []
/-- an __init__ -/
abbrev MeP (K : PySem.W.Frag) (C qual : Str) (st : Stmt) (fd : FuncData) : Prop := FunD K "__init__" qual (defArgs st) (defBody st) (defScope st) [] [] (ma K (ga K C) "__init__") fd
theorem MeP.ok {P : Program} {w : World} {K : PySem.W.Frag} {mg : Str → Option Value} {base : Heap} {C qual : Str} {st : Stmt} {fd : FuncData} {N ps : List Str} {k : Nat} {sp : Sp} (F : MeP K C qual st fd) (S : FnScope N ps (defScope st)) (len : ∀ vs H Q E, sp vs H Q E → vs.length = ps.length)
    (hbody : ∀ (cdv : Value) (A : Around) (outer : List Env) (s : Shared) (H : Hp) (vs : List V) (Q : VK) (E : XK), Room k (A.deeper (envOfC qual (defScope st) s.heap.objs.size (ma K (ga K C) "__init__") cdv)) → sp vs H Q E →
      ∃ t : {t : TS // PSs (cxOf CX0 P w K mg base N qual (defScope st) (ma K (ga K C) "__init__") cdv A outer s H E).nox (defBody st) t}, t.1 { nx := fun _ H' => Q .non H', rt := Q } (start N vs) H) : FnOk P w K mg base CX0 (k + 1) (ma K (ga K C) "__init__") fd ps sp :=
  FunD.ok F S len fun cdv A outer s H vs Q E hr hsp => by
    obtain ⟨t, q⟩ := hbody cdv A outer s H vs Q E hr hsp
    exact ⟨t.1, t.2.nox, q⟩
/-- a field, the written part told (within a comprehension) -/
theorem pe_fldK {X : Cx} {K : PySem.W.Frag} {e : Expr} {f : Str} {pos : Pos} {ta : TE} (hK : X.K = K) (he : PE X e ta) (hb : attributeBase e f X.env (eval e X.env) = eval e X.env) : PE X (.Attribute e f pos) (tFld K ta f) := by
  subst hK
  exact pe_fld he hb
structure MkF (P : Program) (w : World) (K : PySem.W.Frag) (mg : Str → Option Value) (base : Heap) (x : Str) (k : Nat) (ps : List Str) (sp : Sp) (fd : FuncData) : Prop where
  of ::
  mk : Mk K (ga K x) (ma K (ga K x) "__init__")
  ok : FnOk P w K mg base CX0 k (ma K (ga K x) "__init__") fd ps sp
  gl : mg x = some (.ref (ga K x))
  bd : Binds K fd ps []
/-- what isinstance asks of the class x: of it and ys the answers bs -/
structure InsX (K : PySem.W.Frag) (x : Str) (ys : List (Str × Bool)) : Prop where
  cl : Cls K (ga K x)
  ha : PySem.W.findIn K (.ref (ga K x)) "__class__" = some (some (.builtin "object.__class__"))
  hn : PySem.W.specialIn K (.builtin "object.__class__") "__get__" = some (some (.builtin "getset_descriptor.__get__"))
  htk : PySem.W.takesIn K (.builtin "object.__class__") = some true
  hm : PySem.W.mroIn K (ga K x) (.type "object") = some true
  kit : ∀ y ∈ ys, PySem.W.kitOne K (.ref (ga K x)) (.ref (ga K y.1)) = some y.2
def insB (K : PySem.W.Frag) (x : Str) (ys : List (Str × Bool)) : Bool :=
  eqO (PySem.W.findIn K (.ref (ga K x)) "__class__") (some (some (.builtin "object.__class__"))) && (eqO (PySem.W.specialIn K (.builtin "object.__class__") "__get__") (some (some (.builtin "getset_descriptor.__get__"))) &&
  (decide (PySem.W.takesIn K (.builtin "object.__class__") = some true) && (decide (PySem.W.mroIn K (ga K x) (.type "object") = some true) && (ys.all fun y => decide (PySem.W.kitOne K (.ref (ga K x)) (.ref (ga K y.1)) = some y.2)))))
theorem insX_of {K : PySem.W.Frag} {x : Str} {ys : List (Str × Bool)} (c : Cls K (ga K x)) (h : insB K x ys = true) : InsX K x ys := by
  obtain ⟨a1, h⟩ := ba h
  obtain ⟨a2, h⟩ := ba h
  obtain ⟨a3, h⟩ := ba h
  obtain ⟨a4, a5⟩ := ba h
  exact ⟨c, eqO_ok a1, eqO_ok a2, of_decide_eq_true a3, of_decide_eq_true a4, fun y hy => of_decide_eq_true (List.all_eq_true.mp a5 y hy)⟩
def rIsI (K : PySem.W.Frag) : List V → Hp → VK → Prop := fun xs H Q => ∃ a x ys dx fs y b, xs = [.ref a, .ref (ga K y)] ∧ H a = some (.ins (ga K x) dx fs) ∧ InsX K x ys ∧ (y, b) ∈ ys ∧ Q (.bl b) H
theorem call_isI {X : Cx} : CallR X (.builtin "isinstance") (rIsI X.K) := by
  intro pins s σ H xs us Q I r h
  obtain ⟨a, x, ys, dx, fs, y, b, rfl, ha, c, hy, q⟩ := h
  obtain ⟨u, w', rfl, ru, rw'⟩ := vals2 r
  cases rw'
  exact isinst_ok I ru (TyOf.ins ha c.cl c.ha c.hn c.htk c.hm) (c.kit _ hy) fun tk => ⟨.bl b, H, I.tok _, rfl, q⟩
section
variable {P : Program} {w : World} {K : PySem.W.Frag} {σ : L2.St} {H : Hp} {te ta tb tl : TE} {v : V} {D : Ends} {tz tu : TS}
theorem ev_isI {x y : Str} {ys : List (Str × Bool)} {a dx : Addr} {fs : List (Str × V)} {b : Bool} (I : InsX K x ys) (hy : (y, b) ∈ ys) (ha : Ev ta σ H (.ref a)) (h : H a = some (.ins (ga K x) dx fs)) : Ev (tCB (rIsI K) (tCons ta (tCons (tC (.ref (ga K y))) tNil))) σ H (.bl b) := fun H1 e Q q =>
  ha H1 e _ fun H2 e2 => ⟨a, x, ys, dx, fs, y, b, rfl, e2 a _ (e a _ h), I, hy, q H2 e2⟩
/-- a field -/
theorem ev_fld {f : Str} {a C dx : Addr} {fs : List (Str × V)} (ha : Ev ta σ H (.ref a)) (h : H a = some (.ins C dx fs)) (c : Cls K C) (n : NoAttr K C f) (hl : fs.lookup f = some v) : Ev (tFld K ta f) σ H v := fun H1 e Q q =>
  ha H1 e _ fun H2 e2 => ⟨a, C, dx, fs, v, rfl, e2 a _ (e a _ h), c, n, hl, q H2 e2⟩
end
end Pk
namespace Pk
open PySem PySem.Spec PyProof.Rows L2 Evl He
open SX (S)
section
variable {P : Program} {w : World} {K : PySem.W.Frag} {σ : L2.St} {H : Hp} {te ta tb tl : TE} {v : V} {D : Ends} {tz : TS}
/-! ### lists of lists -/
structure LL (H0 H : Hp) (lc : Addr) (as : List Addr) (f : Nat → List Nat) : Prop where
  top : H lc = some (.lst (as.map V.ref))
  row : ∀ i b, as[i]? = some b → H b = some (.lst (vn (f i)))
  nd : as.Nodup
  out : lc ∉ as
  newT : H0 lc = none
  new : ∀ b ∈ as, H0 b = none
theorem LL.ex {H0 H H' : Hp} {lc : Addr} {as : List Addr} {f : Nat → List Nat} (L : LL H0 H lc as f) (e : Ex H H') : LL H0 H' lc as f := ⟨e _ _ L.top, fun i b h => e _ _ (L.row i b h), L.nd, L.out, L.newT, L.new⟩
theorem LL.upd {H0 H : Hp} {lc p : Addr} {as : List Addr} {o : HO} {f : Nat → List Nat} (L : LL H0 H lc as f) (h1 : p ≠ lc) (h2 : p ∉ as) : LL H0 (upd H p o) lc as f :=
  ⟨by rw [upd_ne h1.symm]; exact L.top, fun i b h => by rw [upd_ne (fun e : b = p => h2 (by rw [← e]; exact List.mem_of_getElem? h))]; exact L.row i b h, L.nd, L.out, L.newT, L.new⟩
theorem LL.ne_none {H0 H : Hp} {lc p : Addr} {as : List Addr} {f : Nat → List Nat} (L : LL H0 H lc as f) (h : H p = none) : p ≠ lc ∧ p ∉ as := by
  refine ⟨fun e => ?_, fun hm => ?_⟩
  · rw [e, L.top] at h
    cases h
  · obtain ⟨i, hi, e⟩ := List.mem_iff_getElem.mp hm
    have := L.row i p (by rw [List.getElem?_eq_getElem hi, e])
    rw [h] at this
    cases this
theorem LL.push {H0 H : Hp} {lc b : Addr} {as : List Addr} {f : Nat → List Nat} {t x : Nat} (L : LL H0 H lc as f) (hb : as[t]? = some b) : LL H0 (L2.upd H b (.lst (vn (f t) ++ [nat x]))) lc as (fun i => if i = t then f t ++ [x] else f i) := by
  have hm := List.mem_of_getElem? hb
  refine ⟨by rw [upd_ne (fun e => L.out (by rw [e]; exact hm))]; exact L.top, fun i c h => ?_, L.nd, L.out, L.newT, L.new⟩
  by_cases e : i = t
  · subst e
    rw [hb] at h
    cases h
    rw [upd_same, if_pos rfl]
    unfold vn
    rw [List.map_append]
    rfl
  · rw [if_neg e]
    have hne : c ≠ b := fun q => by
      subst q
      obtain ⟨h1, e1⟩ := List.getElem?_eq_some_iff.mp h
      obtain ⟨h2, e2⟩ := List.getElem?_eq_some_iff.mp hb
      exact e ((List.getElem_inj L.nd).mp (e1.trans e2.symm))
    rw [upd_ne hne]
    exact L.row i c h
theorem LL.congr {H0 H : Hp} {lc : Addr} {as : List Addr} {f g : Nat → List Nat} (L : LL H0 H lc as f) (h : ∀ i, i < as.length → f i = g i) : LL H0 H lc as g :=
  ⟨L.top, fun i b hb => by rw [← h i (List.getElem?_eq_some_iff.mp hb).1]; exact L.row i b hb, L.nd, L.out, L.newT, L.new⟩
theorem LL.back {H0 H1 H : Hp} {lc : Addr} {as : List Addr} {f : Nat → List Nat} (L : LL H1 H lc as f) (e : Ex H0 H1) : LL H0 H lc as f := ⟨L.top, L.row, L.nd, L.out, fresh_back e L.newT, fun b hb => fresh_back e (L.new b hb)⟩
/-- as many new empty lists -/
def LLw (H : Hp) (Dl : Addr) (i : Nat) (H' : Hp) : Prop := Ex H H' ∧ ∃ as : List Addr, as.length = i ∧ LL H H' Dl as fun _ => []
theorem llw_zero {H : Hp} {Dl : Addr} (h : H Dl = none) : LLw H Dl 0 (upd H Dl (.lst [])) := ⟨Ex.new h, [], rfl, ⟨upd_same, (fun i b hb => by cases hb), List.nodup_nil, List.not_mem_nil, h, (fun b hb => by cases hb)⟩⟩
theorem llw_turn {H H' : Hp} {Dl : Addr} {i : Nat} {σ2 : L2.St} (p : LLw H Dl i H') (hi : i < 50000) :
    tYes σ2 H' fun b H3 => if b = true then tLst tNil σ2 H3 fun y H4 => ∃ acc, H4 Dl = some (.lst acc) ∧ acc.length < sizeLine ∧ LLw H Dl (i + 1) (upd H4 Dl (.lst (acc ++ [y]))) else LLw H Dl (i + 1) H3 := by
  obtain ⟨e, as, hl, L⟩ := p
  show tLst tNil σ2 H' fun y H4 => ∃ acc, H4 Dl = some (.lst acc) ∧ acc.length < sizeLine ∧ LLw H Dl (i + 1) (upd H4 Dl (.lst (acc ++ [y])))
  refine (el_lst (vs := []) ea_nil (Nat.zero_le _) : EvL _ σ2 H' []) H' (Ex.refl H') _ fun q H4 hq e4 h4 => ?_
  obtain ⟨n1, n2⟩ := L.ne_none hq
  refine ⟨as.map V.ref, e4 _ _ L.top, sz_lt (by rw [List.length_map]; omega), Ex.mut (e.trans e4) L.newT, as ++ [q], by rw [List.length_append, List.length_singleton, hl], ?_⟩
  refine ⟨by rw [upd_same, List.map_append]; rfl, fun j b hb => ?_, ?_, ?_, L.newT, fun b hb => ?_⟩
  · have hbD : b ≠ Dl := fun q2 => by
      rcases List.mem_append.mp (List.mem_of_getElem? hb) with hm | hm
      · exact L.out (q2 ▸ hm)
      · exact n1 ((List.mem_singleton.mp hm).symm.trans q2)
    rw [upd_ne hbD]
    by_cases c : j < as.length
    · rw [List.getElem?_append_left c] at hb
      exact e4 _ _ (L.row j b hb)
    · rw [List.getElem?_append_right (by omega)] at hb
      have : b = q := by
        rcases hj : j - as.length with _ | m
        · rw [hj] at hb
          simpa using hb.symm
        · rw [hj] at hb
          simp at hb
      subst this
      exact h4
  · refine List.nodup_append.mpr ⟨L.nd, by simp, fun x hx y hy hxy => ?_⟩
    rw [List.mem_singleton.mp hy] at hxy
    exact n2 (hxy ▸ hx)
  · intro hm
    rcases List.mem_append.mp hm with hm | hm
    · exact L.out hm
    · exact n1 (List.mem_singleton.mp hm).symm
  · rcases List.mem_append.mp hb with hb | hb
    · exact L.new b hb
    · rw [List.mem_singleton.mp hb]
      exact fresh_back e hq
theorem ep_listsR {ta : TA} {j : Nat} {vs : List Nat} {n : Nat} (h : EvA ta σ H [nat n]) (hn : n ≤ 40000) (hw : ∀ x, wipe ((wipe σ vs).set j (some x)) vs = wipe σ vs) :
    EvP (tLc (iRng1 ta) (gName j) tYes (tLst tNil) vs) σ H (fun v H2 => ∃ lc as, v = .ref lc ∧ as.length = n ∧ LL H H2 lc as fun _ => []) := fun H0 e Q q => h H0 e _ fun H1 e1 => ⟨(n : Int), rfl, by omega, by omega, fun Dl hD =>
  lc_range (lo := 0) (n := (n : Int).toNat) (LLw H1 Dl) (llw_zero hD) (fun i H' hi p => ⟨hw _, llw_turn p (by omega)⟩) (fun H' p => by
    obtain ⟨e2, as, hl, L⟩ := p
    exact q _ H' (e1.trans e2) ⟨Dl, as, rfl, by omega, L.back (e.trans e1)⟩)⟩
theorem ep_listsL {a : Addr} {xs : List V} {j : Nat} {vs : List Nat} (h : Ev tl σ H (.ref a)) (hx : SqL K H a xs) (hz : xs.length ≤ 40000) (hw : ∀ x, wipe ((wipe σ vs).set j (some x)) vs = wipe σ vs) :
    EvP (tLc (iList K tl) (gName j) tYes (tLst tNil) vs) σ H (fun v H2 => ∃ lc as, v = .ref lc ∧ as.length = xs.length ∧ LL H H2 lc as fun _ => []) := fun H0 e Q q => h H0 e _ fun H1 e1 => ⟨a, rfl, ⟨xs, ex_l (e.trans e1) hx⟩, fun Dl hD =>
  lc_list (xs := xs) (LLw H1 Dl) (llw_zero hD) (fun i H' _ p => ex_l ((e.trans e1).trans p.1) hx) (fun i x H' hi p => ⟨hw x, llw_turn p (by have := (List.getElem?_eq_some_iff.mp hi).1; omega)⟩) (fun H' p => by
    obtain ⟨e2, as, hl, L⟩ := p
    exact q _ H' (e1.trans e2) ⟨Dl, as, rfl, hl, L.back (e.trans e1)⟩)⟩
theorem s_asgP {i : Nat} {Φ : V → Hp → Prop} (h : EvP te σ H Φ) (k : ∀ v H1, Ex H H1 → Φ v H1 → D.nx (σ.set i (some v)) H1) : tAsg te (gName i) D σ H := h H (Ex.refl H) _ fun v H1 e hv => k v H1 e hv
theorem q_asgP {i : Nat} {Φ : V → Hp → Prop} (h : EvP te σ H Φ) (k : ∀ v H1, Ex H H1 → Φ v H1 → tz D (σ.set i (some v)) H1) : tSeq (tAsg te (gName i)) tz D σ H := s_asgP (D := { D with nx := tz D }) h k
/-- xs.extend(zs) -/
theorem s_ext {l b : Addr} {xs zs : List V} (hl : H l = some (.lst xs)) (hb : H b = some (.lst zs)) (ha : Ev ta σ H (.ref l)) (h : Ev te σ H (.ref b)) (hz : xs.length + zs.length ≤ 100000) (k : ∀ H1, Ex H H1 → D.nx σ (upd H1 l (.lst (xs ++ zs)))) :
    tDrop (tBM K "list" rExtend ta (tCons te tNil)) D σ H := ha H (Ex.refl H) _ fun H1 e1 => ⟨Or.inl ⟨rfl, _, sq_of (e1 l _ hl)⟩, h H1 e1 _ fun H2 e2 => ⟨l, b, xs, zs, rfl, rfl, (e1.trans e2) l _ hl, (e1.trans e2) b _ hb, sz_of hz, k H2 (e1.trans e2)⟩⟩
theorem q_ext {l b : Addr} {xs zs : List V} (hl : H l = some (.lst xs)) (hb : H b = some (.lst zs)) (ha : Ev ta σ H (.ref l)) (h : Ev te σ H (.ref b)) (hz : xs.length + zs.length ≤ 100000) (k : ∀ H1, Ex H H1 → tz D σ (upd H1 l (.lst (xs ++ zs)))) :
    tSeq (tDrop (tBM K "list" rExtend ta (tCons te tNil))) tz D σ H := s_ext (D := { D with nx := tz D }) hl hb ha h hz k
/-- xs[::-1] -/
theorem el_rev {a : Addr} {xs : List V} (ha : Ev te σ H (.ref a)) (h : SqL K H a xs) : EvL (tRevL K te) σ H xs.reverse := fun H1 e Q q => ha H1 e _ fun H2 e2 => ⟨a, xs, rfl, ex_l (e.trans e2) h, fun p hp => q p _ (fresh_back e2 hp) (e2.trans (Ex.new hp)) upd_same⟩
/-- children, car by car -/
theorem q_chl {H0 : Hp} {a lc : Addr} {as : List Addr} {ws : List Nat} {m : Nat} {v2 v3 : Option V} {rest : L2.St} (hS : SqL K H0 a (vn ws)) (hw : ∀ x ∈ ws, x < m) (L : LL H0 H lc as fun _ => []) (has : as.length = m) (e0 : Ex H0 H) (hl : ws.length ≤ 40000)
    (k : ∀ v2 v3 H1, Ex H0 H1 → LL H0 H1 lc as (chl ws) → tz D (some (.ref a) :: some (.ref lc) :: v2 :: v3 :: rest) H1) :
    tSeq (tFor (iEnum K (tCons (tVar 0) tNil)) (gPair K 2 3) (tDrop (tBM K "list" rAppend (tOp (rIxL K) (tVar 1) (tVar 3)) (tCons (tOp (rI0 fun i j => .int (i + j)) (tVar 2) (tC (.int 1))) tNil)))) tz D (some (.ref a) :: some (.ref lc) :: v2 :: v3 :: rest) H := by
  refine q_forE nat (ev_var rfl) (ex_l e0 hS) (fun i σ' H' => i ≤ ws.length ∧ ∃ v2 v3, σ' = some (.ref a) :: some (.ref lc) :: v2 :: v3 :: rest ∧ Ex H0 H' ∧ LL H0 H' lc as (chlK ws i)) (fun H1 e1 => ?_) (fun i σ' H' hI => ?_) (fun i y σ' H' hy hI H5 e5 => ?_) (fun σ' H' hI => ?_)
  · exact ⟨Nat.zero_le _, _, _, rfl, e0.trans e1, L.ex e1⟩
  · obtain ⟨_, v2, v3, rfl, e, _⟩ := hI
    exact ex_l e hS
  · obtain ⟨_, v2, v3, rfl, e, L1⟩ := hI
    have hi : i < ws.length := (List.getElem?_eq_some_iff.mp hy).1
    have hyd : ws.getD i 0 = y := by rw [List.getD_eq_getElem?_getD, hy]; rfl
    have hym : y < as.length := by rw [has]; exact hw y (List.mem_of_getElem? hy)
    have L2 := L1.ex e5
    have hb : as[y]? = some as[y] := List.getElem?_eq_getElem hym
    have hcl : (chlK ws i y).length ≤ i := by
      unfold chlK
      rw [List.length_map]
      have := List.length_filter_le (fun c => decide (ws.getD c 0 = y)) (List.range i)
      rw [List.length_range] at this
      exact this
    refine s_app (l := as[y]) (xs := vn (chlK ws i y)) (v := nat (i + 1)) (L2.row y _ hb) (ev_ixN (i := y) (ev_var rfl) (ev_var rfl) (sq_of L2.top) (by rw [List.getElem?_map, hb]; rfl)) (ev_add (ev_var rfl) ev_c (by omega)) (by rw [List.length_map]; omega) fun H6 e6 => ?_
    refine ⟨hi, _, _, rfl, Ex.mut (e.trans (e5.trans e6)) (L2.new _ (List.mem_of_getElem? hb)), ((L2.ex e6).push (x := i + 1) hb).congr fun t _ => ?_⟩
    show (if t = y then chlK ws i y ++ [i + 1] else chlK ws i t) = chlK ws (i + 1) t
    rw [chlK_succ, hyd]
    by_cases c : t = y
    · rw [if_pos c, if_pos c.symm, c]
    · rw [if_neg c, if_neg (fun q => c q.symm)]
  · obtain ⟨_, v2, v3, rfl, e, L1⟩ := hI
    exact k v2 v3 H' e L1
end
end Pk
namespace Pk
open PySem PySem.Spec PyProof.Rows L2 Evl He
open SX (S)
section
variable {P : Program} {w : World} {K : PySem.W.Frag} {σ : L2.St} {H : Hp} {te ta tb tl : TE} {v : V} {D : Ends} {tz tu : TS}
/-! ### what is known of a value, and where it goes -/
theorem s_forLP {j : Nat} {Φ : V → Hp → Prop} (h : EvP tl σ H Φ) (k : ∀ v H1, Ex H H1 → Φ v H1 → ∃ l xs, v = .ref l ∧ SqL K H1 l xs ∧ ∃ Pv : Nat → L2.St → Hp → Prop, Pv 0 σ H1 ∧ (∀ i σ' H', i ≤ xs.length → Pv i σ' H' → SqL K H' l xs) ∧
    (∀ i x σ' H', xs[i]? = some x → Pv i σ' H' → tu { D with nx := Pv (i + 1), ct := Pv (i + 1), bk := D.nx } (σ'.set j (some x)) H') ∧ ∀ σ' H', Pv xs.length σ' H' → D.nx σ' H') : tFor (iList K tl) (gName j) tu D σ H :=
  h H (Ex.refl H) _ fun v H1 e hv => by
    obtain ⟨l, xs, rfl, hS, Pv, h0, hl, hs, hd⟩ := k v H1 e hv
    exact ⟨l, rfl, ⟨xs, hS⟩, for_list Pv h0 hl hs hd⟩
theorem q_forLP {j : Nat} {Φ : V → Hp → Prop} (h : EvP tl σ H Φ) (k : ∀ v H1, Ex H H1 → Φ v H1 → ∃ l xs, v = .ref l ∧ SqL K H1 l xs ∧ ∃ Pv : Nat → L2.St → Hp → Prop, Pv 0 σ H1 ∧ (∀ i σ' H', i ≤ xs.length → Pv i σ' H' → SqL K H' l xs) ∧
    (∀ i x σ' H', xs[i]? = some x → Pv i σ' H' → tu { D with nx := Pv (i + 1), ct := Pv (i + 1), bk := tz D } (σ'.set j (some x)) H') ∧ ∀ σ' H', Pv xs.length σ' H' → tz D σ' H') : tSeq (tFor (iList K tl) (gName j) tu) tz D σ H := s_forLP (D := { D with nx := tz D }) h k
theorem s_retP {Φ : V → Hp → Prop} (h : EvP te σ H Φ) (k : ∀ v H1, Ex H H1 → Φ v H1 → D.rt v H1) : tRet te D σ H := h H (Ex.refl H) _ fun v H1 e hv => k v H1 e hv
def SpP (sp : Sp) (vs : List V) (H : Hp) (Φ : V → Hp → Prop) : Prop := ∀ H1, Ex H H1 → ∀ Q : VK, (∀ v H2, Ex H1 H2 → Φ v H2 → Q v H2) → ∀ E : XK, sp vs H1 Q E
theorem ep_call {sp : Sp} {dvs vs : List V} {E : XK} {ta : TA} {Φ : V → Hp → Prop} (h : EvA ta σ H vs) (hs : SpP sp (vs ++ dvs) H Φ) : EvP (tCall sp dvs E ta) σ H Φ := fun H1 e Q q =>
  h H1 e _ fun H2 e2 => hs H2 (e.trans e2) _ (fun v H3 e3 hv => q v H3 (e2.trans e3) hv) E
theorem ep_tup {ta : TA} {Φ : List V → Hp → Prop} (h : EvAP ta σ H Φ) (hl : ∀ vs H1, Φ vs H1 → vs.length ≤ 100000) (hm : ∀ vs H1 H2, Ex H1 H2 → Φ vs H1 → Φ vs H2) : EvP (tTup ta) σ H (fun v H2 => ∃ p vs, v = .ref p ∧ H p = none ∧ H2 p = some (.tup vs) ∧ Φ vs H2) := fun H1 e _ q =>
  h H1 e _ fun vs H2 e2 hv => ⟨sz_of (hl vs H2 hv), fun p hp => q _ _ (e2.trans (Ex.new hp)) ⟨p, vs, rfl, fresh_back (e.trans e2) hp, upd_same, hm vs _ _ (Ex.new hp) hv⟩⟩
theorem ep_lst {ta : TA} {Φ : List V → Hp → Prop} (h : EvAP ta σ H Φ) (hl : ∀ vs H1, Φ vs H1 → vs.length ≤ 100000) (hm : ∀ vs H1 H2, Ex H1 H2 → Φ vs H1 → Φ vs H2) : EvP (tLst ta) σ H (fun v H2 => ∃ p vs, v = .ref p ∧ H p = none ∧ H2 p = some (.lst vs) ∧ Φ vs H2) := fun H1 e _ q =>
  h H1 e _ fun vs H2 e2 hv => ⟨sz_of (hl vs H2 hv), fun p hp => q _ _ (e2.trans (Ex.new hp)) ⟨p, vs, rfl, fresh_back (e.trans e2) hp, upd_same, hm vs _ _ (Ex.new hp) hv⟩⟩
theorem q_un2 {i j : Nat} {Φ : V → Hp → Prop} (h : EvP te σ H Φ) (hk : ∀ x H1, Ex H H1 → Φ x H1 → ∃ a v1 v2, x = .ref a ∧ SqT K H1 a [v1, v2] ∧ tz D ((σ.set i (some v1)).set j (some v2)) H1) :
    tSeq (tAsg te (gTup K 2 (gCons (gName i) (gCons (gName j) gNil)))) tz D σ H := h H (Ex.refl H) _ fun x H1 e hx => by
  obtain ⟨a, v1, v2, rfl, hS, q⟩ := hk x H1 e hx
  exact ⟨a, _, rfl, hS, rfl, v1, [v2], rfl, v2, [], rfl, rfl, q⟩
/-- xs[::-1] -/
theorem el_rev2 {a : Addr} {xs : List V} (ha : Ev te σ H (.ref a)) (h : SqL K H a xs) : EvL (tRevL K te) σ H xs.reverse := fun H1 e Q q => ha H1 e _ fun H2 e2 => ⟨a, xs, rfl, ex_l (e.trans e2) h, fun p hp => q p _ (fresh_back e2 hp) (e2.trans (Ex.new hp)) upd_same⟩
/-- sorted of a new list -/
theorem el_sortedN {ns : List Int} (ha : EvL ta σ H (vi ns)) : EvL (tCB (rSortedI K) (tCons ta tNil)) σ H (vi (isort ns)) := fun H1 e Q q =>
  ha H1 e _ fun a H2 ha2 e2 h2 => ⟨a, ns, rfl, sq_of h2, fun ns' p hp hr hn => by
    have z := isort_is hp hr
    subst z
    exact q p _ (fresh_back e2 hn) (e2.trans (Ex.new hn)) upd_same⟩
theorem ev_cb_sumL {ws : List Nat} (ha : EvL ta σ H (vn ws)) : Ev (tCB (rSum K) (tCons ta tNil)) σ H (nat ws.sum) := fun H1 e Q q =>
  ha H1 e _ fun a H2 ha2 e2 h2 => (rc_sumN (K := K) (sq_of h2)) H2 (Ex.refl H2) Q fun H3 e3 => q H3 (e2.trans e3)
/-! ### whether a number is in a list -/
theorem flat_vn (ws : List Nat) : (vn ws).all flatV = true := by
  rw [List.all_eq_true]
  intro x hx
  obtain ⟨n, _, rfl⟩ := List.mem_map.mp hx
  rfl
theorem inV_nat (n : Nat) (ws : List Nat) : inV (nat n) (vn ws) = decide (n ∈ ws) := by
  unfold inV
  rw [Bool.eq_iff_iff, List.any_eq_true, decide_eq_true_eq]
  constructor
  · rintro ⟨y, hy, e⟩
    obtain ⟨m, hm, rfl⟩ := List.mem_map.mp hy
    have e2 : decide ((m : Int) = (n : Int)) = true := by simpa [eqV, nat] using e
    have := of_decide_eq_true e2
    have e3 : m = n := by omega
    rw [← e3]
    exact hm
  · intro h
    exact ⟨nat n, List.mem_map.mpr ⟨n, h, rfl⟩, by simp [eqV, nat]⟩
theorem ev_inN {n : Nat} {b : Addr} {ws : List Nat} (ha : Ev ta σ H (nat n)) (hb : Ev tb σ H (.ref b)) (h : SqL K H b (vn ws)) : Ev (tOp (rIn K false) ta tb) σ H (.bl (decide (n ∈ ws))) := by
  have k := ev_op ha hb (rv_isL h (x := nat n) rfl (flat_vn ws))
  rw [inV_nat] at k
  exact k
end
end Pk
namespace Pk
open PySem PySem.Spec PyProof.Rows L2 Evl He
open SX (S)
/-! ### a def out of a list, called -/
structure HeldI (P : Program) (w : World) (K : PySem.W.Frag) (mg : Str → Option Value) (base : Heap) (k : Nat) (f : Addr) (sp : Sp) : Prop where
  ex : ∃ (k' : Nat) (fd : FuncData) (ps : List Str), k' ≤ k ∧ FnOk P w K mg base (L2N.CX P w) k' f fd ps sp ∧ PySem.W.keepIn K (.ref f) = true ∧ Binds K fd ps []
def tCallI (tf : TE) (SP : Addr → Sp → Prop) (E : XK) (t : TA) : TE := fun σ H Q => tf σ H fun y H1 => ∃ f sp, y = .ref f ∧ SP f sp ∧ t σ H1 fun vs H2 => sp vs H2 Q E
theorem pe_callI {X : Cx} {k : Nat} {SP : Addr → Sp → Prop} {E : XK} {pos : Pos} {fe e : Expr} {es : List Expr} {tf : TE} {t : TA} (hf : PE X fe tf) (L : ∀ f sp, SP f sp → HeldI X.prog X.w X.K X.mg X.base k f sp) (hr : Room k X.A) (hx : Passes (L2N.CX X.prog X.w) X E) (ha : PA X (e :: es) t)
    (ht : eval (.Call fe (e :: es) [] pos) X.env = (do callWith pos (← eval fe X.env) [] (backTo pos (starEach (e :: es) X.env)) (backToKw pos (keywordEach [] X.env))) := by rfl)
    (he : starEach (e :: es) X.env = (false, eval e X.env) :: starEach es X.env := by rfl) (hpl : (backTo pos (starEach es X.env)).any (·.1) = false := by rfl) : PE X (.Call fe (e :: es) [] pos) (tCallI tf SP E t) := by
  refine ⟨fun pins s σ H Q I h => ?_⟩
  refine Call_ (thn (hf.run pins s σ H _ I h) fun u s1 ⟨y, H1, I1, ry, f, sp, ey, hsp, q⟩ => ?_) ht
  subst ey
  obtain rfl : u = Value.ref f := ry
  obtain ⟨k', fd, ps, hk, F, kp, b⟩ := (L f sp hsp).ex
  refine PySem.W.callWith_K (h₀ := X.base) I1.ok.mod.kin kp (thn (ha.run pos pins s1 σ H1 _ I1 q) fun us s2 ⟨vs, H2, I2, r, q2⟩ => ⟨I2.kIn, ?_⟩) he hpl
  exact run_fn F (hr.mono hk) b .nil hx I2 r (by rw [List.append_nil]; exact q2)
section
variable {P : Program} {w : World} {K : PySem.W.Frag} {σ : L2.St} {H : Hp} {te ta tb tl tf : TE} {v : V} {D : Ends} {tz tu : TS}
theorem s_retI {SP : Addr → Sp → Prop} {E : XK} {t : TA} {f : Addr} {sp : Sp} {Φ : List V → Hp → Prop} (hf : Ev tf σ H (.ref f)) (hs : SP f sp) (ha : EvAP t σ H Φ) (k : ∀ vs H1, Ex H H1 → Φ vs H1 → sp vs H1 D.rt E) : tRet (tCallI tf SP E t) D σ H :=
  hf H (Ex.refl H) _ fun H1 e1 => ⟨f, sp, rfl, hs, ha H1 e1 _ fun vs H2 e2 hv => k vs H2 (e1.trans e2) hv⟩
/-- the i-th of a list of values that is written -/
theorem ev_ixW {xs : List V} {i : Nat} {ts : TA} (ha : EvA ts σ H xs) (hl : xs.length ≤ 100000) (hb : ∀ H1, Ex H H1 → Ev tb σ H1 (nat i)) (hi : xs[i]? = some v) : Ev (tOp (rIxL K) (tLst ts) tb) σ H v := ev_ixL (el_lst ha hl) hb hi
end
end Pk
namespace Pk
open PySem PySem.Spec PyProof.Rows L2 Evl He
open SX (S)
/-! ### kinds of values that may be handed in -/
inductive Kd
  | int (i : Int) | bl (b : Bool) | str (s : Str) | non | lst (xs : List V) | tup (xs : List V)
def Kd.ty : Kd → String
  | .int _ => "int" | .bl _ => "bool" | .str _ => "str" | .non => "NoneType" | .lst _ => "list" | .tup _ => "tuple"
def Kd.isL : Kd → Bool
  | .lst _ => true
  | _ => false
def Kd.isS : Kd → Bool
  | .str _ => true
  | _ => false
def Kd.num (lo hi : Int) : Kd → Bool
  | .int i => decide (lo ≤ i ∧ i ≤ hi)
  | _ => false
def IsK (K : PySem.W.Frag) (H : Hp) (x : V) : Kd → Prop
  | .int i => x = .int i
  | .bl b => x = .bl b
  | .str s => x = .str s
  | .non => x = .non
  | .lst xs => ∃ a, x = .ref a ∧ SqL K H a xs
  | .tup xs => ∃ a, x = .ref a ∧ SqT K H a xs
section
variable {K : PySem.W.Frag} {H H1 : Hp} {x : V} {k : Kd}
theorem IsK.ex (h : IsK K H x k) (e : Ex H H1) : IsK K H1 x k := by
  cases k with
  | lst xs => obtain ⟨a, h1, h2⟩ := h; exact ⟨a, h1, ex_l e h2⟩
  | tup xs => obtain ⟨a, h1, h2⟩ := h; exact ⟨a, h1, ex_t e h2⟩
  | _ => exact h
theorem ty_tup {a : Addr} {xs : List V} (h : SqT K H a xs) : TyX K H (.ref a) (.type "tuple") := by
  rcases h with (h | ⟨o, h⟩) | ⟨o, its, n, hk, hc, r⟩
  · exact .base (.tup h)
  · exact .fTuple h
  · exact .kTuple hk hc
theorem IsK.tyx (h : IsK K H x k) : TyX K H x (.type k.ty) := by
  cases k with
  | int i => cases h; exact .base (.int i)
  | bl b => cases h; exact .base (.bl b)
  | str s => cases h; exact .base (.str s)
  | non => cases h; exact .base .non
  | lst xs => obtain ⟨a, h1, h2⟩ := h; cases h1; exact ty_list h2
  | tup xs => obtain ⟨a, h1, h2⟩ := h; cases h1; exact ty_tup h2
theorem isi_k (h : IsK K H x k) (b : String) {r : Bool} (hk : kitB k.ty b = some r) : RC (rIsi K) [x, .ty b] H (.bl r) := rc_isi (fun H1 e => (h.ex e).tyx) hk
theorem kit_list : ∀ k : Kd, kitB k.ty "list" = some k.isL
  | .int _ => (by decide +kernel : kitB "int" "list" = some false)
  | .bl _ => (by decide +kernel : kitB "bool" "list" = some false)
  | .str _ => (by decide +kernel : kitB "str" "list" = some false)
  | .non => (by decide +kernel : kitB "NoneType" "list" = some false)
  | .lst _ => (by decide +kernel : kitB "list" "list" = some true)
  | .tup _ => (by decide +kernel : kitB "tuple" "list" = some false)
theorem kit_str : ∀ k : Kd, kitB k.ty "str" = some k.isS
  | .int _ => (by decide +kernel : kitB "int" "str" = some false)
  | .bl _ => (by decide +kernel : kitB "bool" "str" = some false)
  | .str _ => (by decide +kernel : kitB "str" "str" = some true)
  | .non => (by decide +kernel : kitB "NoneType" "str" = some false)
  | .lst _ => (by decide +kernel : kitB "list" "str" = some false)
  | .tup _ => (by decide +kernel : kitB "tuple" "str" = some false)
def Kd.isI : Kd → Bool
  | .int _ => true
  | .bl _ => true
  | _ => false
def Kd.isB : Kd → Bool
  | .bl _ => true
  | _ => false
theorem kit_int : ∀ k : Kd, kitB k.ty "int" = some k.isI
  | .int _ => (by decide +kernel : kitB "int" "int" = some true)
  | .bl _ => (by decide +kernel : kitB "bool" "int" = some true)
  | .str _ => (by decide +kernel : kitB "str" "int" = some false)
  | .non => (by decide +kernel : kitB "NoneType" "int" = some false)
  | .lst _ => (by decide +kernel : kitB "list" "int" = some false)
  | .tup _ => (by decide +kernel : kitB "tuple" "int" = some false)
theorem kit_bool : ∀ k : Kd, kitB k.ty "bool" = some k.isB
  | .int _ => (by decide +kernel : kitB "int" "bool" = some false)
  | .bl _ => (by decide +kernel : kitB "bool" "bool" = some true)
  | .str _ => (by decide +kernel : kitB "str" "bool" = some false)
  | .non => (by decide +kernel : kitB "NoneType" "bool" = some false)
  | .lst _ => (by decide +kernel : kitB "list" "bool" = some false)
  | .tup _ => (by decide +kernel : kitB "tuple" "bool" = some false)
/-- the items of a list, each of a kind -/
def AllK (K : PySem.W.Frag) (H : Hp) (xs : List V) (ks : List Kd) : Prop := xs.length = ks.length ∧ ∀ (i : Nat) (x : V) (k : Kd), xs[i]? = some x → ks[i]? = some k → IsK K H x k
theorem AllK.ex {xs : List V} {ks : List Kd} (h : AllK K H xs ks) (e : Ex H H1) : AllK K H1 xs ks := ⟨h.1, fun i x k h1 h2 => (h.2 i x k h1 h2).ex e⟩
theorem allK_nil : AllK K H [] [] := ⟨rfl, fun i x k h => by cases h⟩
theorem allK_cons {xs : List V} {ks : List Kd} (h : IsK K H x k) (hr : AllK K H xs ks) : AllK K H (x :: xs) (k :: ks) := ⟨by rw [List.length_cons, List.length_cons, hr.1], fun i y j h1 h2 => by
  cases i with
  | zero => cases h1; cases h2; exact h
  | succ i => exact hr.2 i y j h1 h2⟩
theorem allK_append {xs ys : List V} {ks js : List Kd} (h : AllK K H xs ks) (hr : AllK K H ys js) : AllK K H (xs ++ ys) (ks ++ js) := by
  induction xs generalizing ks with
  | nil =>
    cases ks with
    | nil => exact hr
    | cons k ks => have := h.1; cases this
  | cons x xs ih =>
    cases ks with
    | nil => have := h.1; cases this
    | cons k ks => exact allK_cons (h.2 0 x k rfl rfl) (ih ⟨by have := h.1; rw [List.length_cons, List.length_cons] at this; omega, fun i y j h1 h2 => h.2 (i + 1) y j h1 h2⟩)
theorem allK_ints (ns : List Int) : AllK K H (vi ns) (ns.map Kd.int) := ⟨by rw [List.length_map, List.length_map], fun i y j h1 h2 => by
  rw [List.getElem?_map] at h1 h2
  cases e : ns[i]? with
  | none => rw [e] at h1; cases h1
  | some n => rw [e] at h1 h2; cases h1; cases h2; rfl⟩
/-- all of them numbers in a range -/
def allN (lo hi : Int) (ks : List Kd) : Bool := ks.all (Kd.num lo hi)
end
end Pk
namespace Pk
open PySem PySem.Spec PyProof.Rows L2 Evl He
open SX (S)
/-! ### data that a def writes down -/
mutual
inductive Dw (H : Hp) : V → PyData → Prop
  | non : Dw H .non .none
  | bl (b : Bool) : Dw H (.bl b) (.bool b)
  | int (i : Int) : Dw H (.int i) (.int i)
  | str (x : Str) : Dw H (.str x) (.str x)
  | lst {a : Addr} {xs : List V} {ds : List PyData} : H a = some (.lst xs) → DwAll H xs ds → Dw H (.ref a) (.list ds)
  | tup {a : Addr} {xs : List V} {ds : List PyData} : H a = some (.tup xs) → DwAll H xs ds → Dw H (.ref a) (.tuple ds)
inductive DwAll (H : Hp) : List V → List PyData → Prop
  | nil : DwAll H [] []
  | cons {v : V} {vs : List V} {d : PyData} {ds : List PyData} : Dw H v d → DwAll H vs ds → DwAll H (v :: vs) (d :: ds)
end
section
variable {K : PySem.W.Frag} {H H1 : Hp}
mutual
theorem Dw.ex (e : Ex H H1) : ∀ (d : PyData) (v : V), Dw H v d → Dw H1 v d
  | .none, _, h => by cases h; exact .non
  | .bool b, _, h => by cases h; exact .bl b
  | .int i, _, h => by cases h; exact .int i
  | .str x, _, h => by cases h; exact .str x
  | .list ds, _, h => by
    cases h with
    | lst h1 h2 => exact .lst (e _ _ h1) (Dw.exAll e ds _ h2)
  | .tuple ds, _, h => by
    cases h with
    | tup h1 h2 => exact .tup (e _ _ h1) (Dw.exAll e ds _ h2)
  | .dict _, _, h => by cases h
theorem Dw.exAll (e : Ex H H1) : ∀ (ds : List PyData) (vs : List V), DwAll H vs ds → DwAll H1 vs ds
  | [], _, h => by cases h; exact .nil
  | d :: ds, _, h => by
    cases h with
    | cons h1 h2 => exact .cons (Dw.ex e d _ h1) (Dw.exAll e ds _ h2)
end
mutual
theorem Dw.dp : ∀ (d : PyData) (v : V), Dw H v d → Dp K H v d
  | .none, _, h => by cases h; exact .non
  | .bool b, _, h => by cases h; exact .bl b
  | .int i, _, h => by cases h; exact .int i
  | .str x, _, h => by cases h; exact .str x
  | .list ds, _, h => by
    cases h with
    | lst h1 h2 => exact .lst (sq_of h1) (Dw.dpAll ds _ h2)
  | .tuple ds, _, h => by
    cases h with
    | tup h1 h2 => exact .tup (st_of h1) (Dw.dpAll ds _ h2)
  | .dict _, _, h => by cases h
theorem Dw.dpAll : ∀ (ds : List PyData) (vs : List V), DwAll H vs ds → DpAll K H vs ds
  | [], _, h => by cases h; exact .nil
  | d :: ds, _, h => by
    cases h with
    | cons h1 h2 => exact .cons (Dw.dp d _ h1) (Dw.dpAll ds _ h2)
end
def dIsL : PyData → Bool
  | .list _ => true
  | _ => false
def dIsS : PyData → Bool
  | .str _ => true
  | _ => false
def dNotI : PyData → Bool
  | .int _ => false
  | _ => true
def dNum (lo hi : Int) : PyData → Bool
  | .int i => decide (lo ≤ i ∧ i ≤ hi)
  | _ => false
def dAllN (lo hi : Int) (ds : List PyData) : Bool := ds.all (dNum lo hi)
/-- the kind of what was written -/
structure KdOf (k : Kd) (d : PyData) : Prop where
  l : k.isL = dIsL d
  s : k.isS = dIsS d
  i : ((!k.isI) || k.isB) = dNotI d
  n : ∀ lo hi, k.num lo hi = dNum lo hi d
theorem Dw.kd {v : V} {d : PyData} (h : Dw H v d) : ∃ k, IsK K H v k ∧ KdOf k d := by
  cases h with
  | non => exact ⟨.non, rfl, rfl, rfl, rfl, fun _ _ => rfl⟩
  | bl b => exact ⟨.bl b, rfl, rfl, rfl, rfl, fun _ _ => rfl⟩
  | int i => exact ⟨.int i, rfl, rfl, rfl, rfl, fun _ _ => rfl⟩
  | str x => exact ⟨.str x, rfl, rfl, rfl, rfl, fun _ _ => rfl⟩
  | @lst a xs ds h1 h2 => exact ⟨.lst xs, ⟨a, rfl, sq_of h1⟩, rfl, rfl, rfl, fun _ _ => rfl⟩
  | @tup a xs ds h1 h2 => exact ⟨.tup xs, ⟨a, rfl, st_of h1⟩, rfl, rfl, rfl, fun _ _ => rfl⟩
theorem DwAll.kds : ∀ {vs : List V} {ds : List PyData}, DwAll H vs ds → ∃ ks, AllK K H vs ks ∧ ks.length = ds.length ∧ ∀ lo hi, ks.map (Kd.num lo hi) = ds.map (dNum lo hi)
  | [], _, h => by cases h; exact ⟨[], allK_nil, rfl, fun _ _ => rfl⟩
  | v :: vs, _, h => by
    cases h with
    | cons h1 h2 =>
      obtain ⟨k, k1, k2⟩ := Dw.kd (K := K) h1
      obtain ⟨ks, k3, k4, k5⟩ := DwAll.kds h2
      exact ⟨k :: ks, allK_cons k1 k3, by rw [List.length_cons, List.length_cons, k4], fun lo hi => by rw [List.map_cons, List.map_cons, k2.n, k5]⟩
theorem DwAll.len : ∀ {vs : List V} {ds : List PyData}, DwAll H vs ds → vs.length = ds.length
  | [], _, h => by cases h; rfl
  | v :: vs, _, h => by
    cases h with
    | cons h1 h2 => rw [List.length_cons, List.length_cons, h2.len]
theorem DwAll.get : ∀ {vs : List V} {ds : List PyData} {i : Nat} {d : PyData}, DwAll H vs ds → ds[i]? = some d → ∃ v, vs[i]? = some v ∧ Dw H v d
  | [], _, i, d, h, hd => by cases h; cases hd
  | v :: vs, _, i, d, h, hd => by
    cases h with
    | cons h1 h2 =>
      cases i with
      | zero => cases hd; exact ⟨v, rfl, h1⟩
      | succ i => exact h2.get hd
theorem DwAll.app : ∀ {vs ws : List V} {ds es : List PyData}, DwAll H vs ds → DwAll H ws es → DwAll H (vs ++ ws) (ds ++ es)
  | [], ws, _, es, h, h2 => by cases h; exact h2
  | v :: vs, ws, _, es, h, h2 => by
    cases h with
    | cons h1 h3 => exact .cons h1 (h3.app h2)
theorem DwAll.rep {v : V} {d : PyData} (h : Dw H v d) : ∀ n, DwAll H (List.replicate n v) (List.replicate n d)
  | 0 => .nil
  | n + 1 => .cons h (DwAll.rep h n)
/-- a list of numbers written down -/
def dN (ns : List Nat) : List PyData := ns.map fun (n : Nat) => .int (n : Int)
theorem DwAll.ints : ∀ {vs : List V} {ns : List Int}, DwAll H vs (ns.map PyData.int) → vs = vi ns
  | [], [], _ => rfl
  | [], n :: ns, h => by cases h
  | v :: vs, [], h => by cases h
  | v :: vs, n :: ns, h => by
    cases h with
    | cons h1 h2 =>
      cases h1
      show V.int n :: vs = V.int n :: vi ns
      rw [DwAll.ints h2]
theorem Dw.ints {v : V} {ns : List Int} (h : Dw H v (.list (ns.map PyData.int))) : ∃ a, v = .ref a ∧ H a = some (.lst (vi ns)) := by
  cases h with
  | @lst a xs ds h1 h2 =>
    rw [DwAll.ints h2] at h1
    exact ⟨a, rfl, h1⟩
theorem Dw.nats {v : V} {ns : List Nat} (h : Dw H v (.list (dN ns))) : ∃ a, v = .ref a ∧ H a = some (.lst (vn ns)) := by
  have e : dN ns = (ns.map fun (n : Nat) => (n : Int)).map PyData.int := by unfold dN; rw [List.map_map]; rfl
  rw [e] at h
  obtain ⟨a, h1, h2⟩ := h.ints
  exact ⟨a, h1, by rw [vn_vi]; exact h2⟩
/-! ### its reading -/
def EvD (te : TE) (σ : L2.St) (H : Hp) (d : PyData) : Prop := EvP te σ H (fun v H2 => Dw H2 v d)
def EvDs (ta : TA) (σ : L2.St) (H : Hp) (ds : List PyData) : Prop := EvAP ta σ H (fun vs H2 => DwAll H2 vs ds)
variable {σ : L2.St} {te ta2 tb : TE} {ta : TA} {v : V} {d : PyData} {ds es : List PyData} {D : Ends} {tz : TS}
theorem ed_of (h : Ev te σ H v) (hd : ∀ H1, Ex H H1 → Dw H1 v d) : EvD te σ H d := fun H1 e Q q => h H1 e Q fun H2 e2 => q v H2 e2 (hd H2 (e.trans e2))
theorem ed_int {i : Int} (h : Ev te σ H (.int i)) : EvD te σ H (.int i) := ed_of h fun _ _ => .int i
theorem ed_i {i : Int} : EvD (tC (.int i)) σ H (.int i) := ed_int ev_c
theorem ed_b {b : Bool} : EvD (tC (.bl b)) σ H (.bool b) := ed_of ev_c fun _ _ => .bl b
theorem ed_s {s : Str} : EvD (tC (.str s)) σ H (.str s) := ed_of ev_c fun _ _ => .str s
theorem ed_n : EvD (tC .non) σ H .none := ed_of ev_c fun _ _ => .non
theorem ed_var {i : Nat} (h : σ[i]? = some (some v)) (hd : Dw H v d) : EvD (tVar i) σ H d := ed_of (ev_var h) fun _ e => hd.ex e
theorem EvD.mono {H1 : Hp} (h : EvD te σ H d) (e : Ex H H1) : EvD te σ H1 d := fun H2 e2 => h H2 (e.trans e2)
theorem eds_nil : EvDs tNil σ H [] := fun H1 _ _ q => q _ H1 (Ex.refl H1) .nil
theorem eds_cons (h : EvD te σ H d) (hr : EvDs ta σ H ds) : EvDs (tCons te ta) σ H (d :: ds) := fun H1 e _ q =>
  h H1 e _ fun v H2 e2 hv => hr H2 (e.trans e2) _ fun ws H3 e3 hw => q _ H3 (e2.trans e3) (.cons (Dw.ex e3 _ _ hv) hw)
theorem ed_lst (h : EvDs ta σ H ds) (hz : ds.length ≤ 100000 := by first | decide | exact Nat.le_of_ble_eq_true rfl) : EvD (tLst ta) σ H (.list ds) := fun H1 e Q q =>
  h H1 e _ fun vs H2 e2 hv => ⟨sz_of (by rw [hv.len]; exact hz), fun p hp => q _ _ (e2.trans (Ex.new hp)) (.lst upd_same (Dw.exAll (Ex.new hp) _ _ hv))⟩
theorem ed_tup (h : EvDs ta σ H ds) (hz : ds.length ≤ 100000 := by first | decide | exact Nat.le_of_ble_eq_true rfl) : EvD (tTup ta) σ H (.tuple ds) := fun H1 e Q q =>
  h H1 e _ fun vs H2 e2 hv => ⟨sz_of (by rw [hv.len]; exact hz), fun p hp => q _ _ (e2.trans (Ex.new hp)) (.tup upd_same (Dw.exAll (Ex.new hp) _ _ hv))⟩
theorem ed_ix {i : Nat} (h : EvD te σ H (.list ds)) (hb : Ev tb σ H (nat i)) (hi : ds[i]? = some d) : EvD (tOp (rIxL K) te tb) σ H d := fun H1 e Q q =>
  h H1 e _ fun v H2 e2 hv => by
    cases hv with
    | @lst a xs ds h1 h2 =>
      obtain ⟨x, hx, hd⟩ := h2.get hi
      exact hb H2 (e.trans e2) _ fun H3 e3 => ⟨a, xs, i, x, rfl, rfl, sq_of (e3 _ _ h1), at_nat hx, q x H3 (e2.trans e3) (hd.ex e3)⟩
theorem ed_cat (h : EvD te σ H (.list ds)) (h2 : EvD tb σ H (.list es)) (hz : ds.length + es.length ≤ 100000) : EvD (tOp rCat te tb) σ H (.list (ds ++ es)) := fun H1 e Q q =>
  h H1 e _ fun v H2 e2 hv => h2 H2 (e.trans e2) _ fun y H3 e3 hy => by
    have hv3 := Dw.ex e3 _ _ hv
    cases hv3 with
    | @lst a xs _ h1 k1 =>
      cases hy with
      | @lst b ys _ h3 k3 =>
        exact ⟨a, b, xs, ys, rfl, rfl, h1, h3, sz_of (by rw [k1.len, k3.len]; exact hz), fun p hp => q _ _ ((e2.trans e3).trans (Ex.new hp)) (.lst upd_same (Dw.exAll (Ex.new hp) _ _ (k1.app k3)))⟩
theorem flat_rep {α : Type} (v : α) : ∀ n, (List.replicate n [v]).flatten = List.replicate n v
  | 0 => rfl
  | n + 1 => by rw [List.replicate_succ, List.flatten_cons, flat_rep v n, List.replicate_succ]; rfl
theorem ed_rep {n : Nat} (h : EvD te σ H (.list [d])) (hb : Ev tb σ H (nat n)) (hz : n ≤ 100000) : EvD (tOp rRep te tb) σ H (.list (List.replicate n d)) := fun H1 e Q q =>
  h H1 e _ fun v H2 e2 hv => hb H2 (e.trans e2) _ fun H3 e3 => by
    have hv3 := Dw.ex e3 _ _ hv
    cases hv3 with
    | @lst a xs _ h1 k1 =>
      cases k1 with
      | @cons x vs _ _ hx hr =>
        cases hr
        refine ⟨a, n, [x], rfl, rfl, h1, by omega, by omega, sz_of (by rw [List.length_singleton, Int.toNat_natCast]; omega), fun p hp => q _ _ ((e2.trans e3).trans (Ex.new hp)) (.lst upd_same ?_)⟩
        rw [Int.toNat_natCast, flat_rep]
        exact DwAll.rep (Dw.ex (Ex.new hp) _ _ hx) n
theorem ed_if {t : TT} {b : Bool} (h : EvT t σ H b) (h1 : b = true → EvD te σ H d) (h2 : b = false → EvD tb σ H d) : EvD (tIf t te tb) σ H d := fun H1 e Q q => h H1 e _ fun H2 e2 => by
  cases b with
  | true =>
    show te σ H2 Q
    exact h1 rfl H2 (e.trans e2) Q fun v H3 e3 hv => q v H3 (e2.trans e3) hv
  | false =>
    show tb σ H2 Q
    exact h2 rfl H2 (e.trans e2) Q fun v H3 e3 hv => q v H3 (e2.trans e3) hv
theorem q_asgD {i : Nat} (h : EvD te σ H d) (k : ∀ v H1, Ex H H1 → Dw H1 v d → tz D (σ.set i (some v)) H1) : tSeq (tAsg te (gName i)) tz D σ H := h H (Ex.refl H) _ fun v H1 e hv => k v H1 e hv
theorem s_asgD {i : Nat} (h : EvD te σ H d) (k : ∀ v H1, Ex H H1 → Dw H1 v d → D.nx (σ.set i (some v)) H1) : tAsg te (gName i) D σ H := h H (Ex.refl H) _ fun v H1 e hv => k v H1 e hv
/-- isinstance(x, list) -/
theorem ev_isL (h : Ev te σ H v) (hd : Dw H v d) : Ev (tCB (rIsi K) (tCons te (tCons (tC (.ty "list")) tNil))) σ H (.bl (dIsL d)) := by
  obtain ⟨k, k1, k2⟩ := Dw.kd (K := K) hd
  rw [← k2.l]
  exact ev_cb (ea_cons h (ea_cons ev_c ea_nil)) (isi_k k1 "list" (kit_list k))
/-- x == a datum -/
theorem ev_eqD {e1 : PyData} (h : Ev te σ H v) (hd : Dw H v d) (h2 : EvD tb σ H e1) (s1 : SeqAt.shaped d = true) (s2 : SeqAt.shaped e1 = true) : Ev (tOp (rEqD K) te tb) σ H (.bl (PyData.eqv d e1)) := fun H1 e Q q =>
  h H1 e _ fun H2 e2 => h2 H2 (e.trans e2) _ fun y H3 e3 hy => ⟨d, e1, Dw.dp _ _ (Dw.ex ((e.trans e2).trans e3) _ _ hd), Dw.dp _ _ hy, s1, s2, q H3 (e2.trans e3)⟩
/-- a call whose values are written down -/
theorem s_retD {sp : Sp} {E : XK} (h : EvDs ta σ H ds) (k : ∀ vs H1, Ex H H1 → DwAll H1 vs ds → sp vs H1 D.rt E) : tRet (tCall sp [] E ta) D σ H := h H (Ex.refl H) _ fun vs H1 e hv => by
  show sp (vs ++ []) H1 _ E
  rw [List.append_nil]
  exact k vs H1 e hv
end
end Pk
namespace Pk
open PySem PySem.Spec PyProof.Rows L2 Evl He
/-! ### a comprehension whose element may raise (of the def's own wish E) -/
theorem flyingD_of {B h : Heap} {l : List Env} {a : Addr} {cls : Value} {d : Option Addr} (x : HandSPX.FlyingZ B l a (L2N.Zn cls d) h) : ∃ a0, Heap.FlyingD B l a cls a0 .none d h := by
  obtain ⟨k1, k2, k3, oe, vs, T, oT, ts, he, ⟨z1, z2, z3⟩, hd, r⟩ := x
  have h2 := z3 vs hd
  have hsz : 2 < vs.size := (Array.getElem?_eq_some_iff.mp h2).1
  have h0 : vs[0]? = some (vs[0]'(by omega)) := Array.getElem?_eq_getElem (by omega)
  exact ⟨_, k1, k2, k3, oe, vs, T, oT, ts, he, ⟨z1, h0, h2, z2⟩, hd, r⟩
theorem heldZ_of {B h : Heap} {l : List Env} {a L : Addr} {cls a0 : Value} {d : Option Addr} (x : Heap.HeldD B l a cls a0 .none d L h) : HandSPX.HeldZ B l a (L2N.Zn cls d) L h := by
  obtain ⟨k1, k2, k3, oe, vs, T, oT, ts, he, ⟨z1, z0, z3, z2⟩, hd, r⟩ := x
  refine ⟨k1, k2, k3, oe, vs, T, oT, ts, he, ⟨z1, z2, fun vs' e => ?_⟩, hd, r⟩
  rw [hd] at e
  cases e
  exact z3
theorem inv_tr {X : Cx} {σ : L2.St} {H : Hp} {s : Shared} (I : Inv X [] σ H s) (hp : X.pn = []) (xe : Value → Shared → Prop) : Inv (X.tr [] xe) [] σ H s := by
  have J := I.toTry xe
  rw [hp] at J
  exact J
/-- the context of a block whose element may raise -/
abbrev blkE (X : Cx) (s : Shared) (H : Hp) (scope : Scope) (ce : Env) (fp : List Addr) (xe : Value → Shared → Prop) : Cx := (X.blk s H scope ce fp).tr [] xe
/-- the wish of a block's element -/
abbrev compXe (X : Cx) (ce : Env) : Value → Shared → Prop := notedBy (model X.prog X.w) X.A ce (CompFails (model X.prog X.w) X.A X.xe ce)
theorem comp_pass {X : Cx} {pins : List (Addr × Obj)} {σ : L2.St} {H : Hp} {s3 : Shared} {scope : Scope} {ce : Env} {fp : List Addr} {E : XK} (hs : X.stack = X.env :: X.outer) (hf : X.env.frame = some X.env.locals) (tk : L2N.Takes X (fun cls d _ H => E cls d H))
    (I3 : Inv X pins σ H s3) (hcF : ce.frame = X.env.frame) (hcL : ce.locals = s3.heap.objs.size) (f3 : ∀ b ∈ fp, FpOk X pins H b) :
    Passes (L2N.CX X.prog X.w) (blkE X s3 H scope ce fp (compXe X ce)) E := by
  intro pins' σ' H' s e s' I' c
  have c0 := c
  obtain ⟨a, B, H2, cls, d, rfl, fl, hok, ub, na, os, ag, hE⟩ := c0
  obtain ⟨a1, B1, sI, pI, σI, HI, cls1, d1, ea, II, nb, up, sky, naI, osI, agI, wI⟩ := L2N.XE.of_call (W := fun cls d _ H => E cls d H) I' (fun _ _ _ h => h) c
  cases ea
  have fl1 : HandSPX.FlyingZ B1 X.stack a (L2N.Zn cls1 d1) s'.heap := by
    obtain ⟨_, _, _, oe, vs, T, oT, ts, he, hz, hd, h1, hnT, hTe, hT, hdT, h3⟩ := fl
    rcases sky with ⟨_, _, _, oe', vs', he', hz', hd', h1'⟩ | fl1 | hh
    · rw [he] at he'
      cases he'
      rw [hd] at hd'
      cases hd'
      rw [h1] at h1'
      cases h1'
    · exact fl1
    · obtain ⟨_, _, _, oe', vs', T', oT', ts', he', hz', hd', h1', hnT', hTe', hT', hdT', h3'⟩ := hh
      rw [he] at he'
      cases he'
      rw [hd] at hd'
      cases hd'
      rw [h1] at h1'
      cases h1'
      rw [hT] at hT'
      cases hT'
      rw [hdT] at hdT'
      cases hdT'
      rw [h3] at h3'
      simp [rawInt] at h3'
  have hCl : (blkE X s3 H scope ce fp (compXe X ce)).env.locals = ce.locals := rfl
  have nC : HI ce.locals = none := II.free
  have fC : FpOk X pins HI ce.locals := I3.fpOk (Nat.le_of_eq hcL.symm) nC
  have nfr : ce.locals ∉ frs X.stack := fun hm => by
    rcases List.mem_cons.mp (I3.stkSub _ hm) with z | z
    · exact fC.2.1 z
    · exact fC.2.2.1 z
  have fl2 : HandSPX.FlyingZ (PySem.W.hideAll B1 [ce.locals]) X.stack a (L2N.Zn cls1 d1) s'.heap := by
    obtain ⟨k1, k2, k3, oe, vs, T, oT, ts, he, hz, hd, h1, hnT, r⟩ := fl1
    have hn : ∀ b, B1.get? b = none → (PySem.W.hideAll B1 [ce.locals]).get? b = none := fun b hb => by
      cases q : (PySem.W.hideAll B1 [ce.locals]).get? b with
      | none => rfl
      | some o =>
        have z := PySem.W.of_hideAll _ q
        rw [hb] at z
        cases z
    exact ⟨fun b o hb => k1 b o (PySem.W.of_hideAll _ hb), hn a k2, funFrames_none k3 fun b hb => hn b (k3.mem hb).1, oe, vs, T, oT, ts, he, hz, hd, h1, hn T hnT, r⟩
  obtain ⟨a0, flD⟩ := flyingD_of fl2
  obtain ⟨m, hNs, _⟩ := II.loc
  have hNs' : s'.heap.Ns ce.locals m := Heap.Ns.upToSlots hNs up
  have hfr : X.A.frames = some (X.env :: X.outer) := by rw [I3.ok.frames, hs]
  rw [hs] at flD
  refine noted_flying (env := X.env) (outer := X.outer) (L := X.env.locals) hfr hcF hf (PySem.W.hideAll_none _ (List.mem_singleton.mpr rfl)) hNs' flD fun h' hD keep => ?_
  have I7 : Inv X pins σ HI sI := I3.call' (ch := fp) II.os II.base II.hok II.bare fun b hb => ⟨(f3 b hb).2.2.2.1, (f3 b hb).2.1, (f3 b hb).2.2.2.2.1, (f3 b hb).2.2.2.2.2⟩
  obtain ⟨f0, f1, f2, f4, f5, f6⟩ := fC
  have I8 : Inv X pins σ HI { sI with heap := PySem.W.hideAll sI.heap [ce.locals], toks := sI.toks } := I7.turned (t' := sI.toks) (fun b o hb e => PySem.W.hideAll_get _ e fun z => hb (List.mem_singleton.mp z)) f0 f1 f4 f5 f6
  have ne_of : ∀ b o, (PySem.W.hideAll sI.heap [ce.locals]).get? b = some o → b ≠ ce.locals := fun b o e z => by
    rw [z, PySem.W.hideAll_none _ (List.mem_singleton.mpr rfl)] at e
    cases e
  refine tk _ _ ⟨a, PySem.W.hideAll B1 [ce.locals], _, pins, σ, HI, cls1, d1, rfl, I8, fun b o e hb => ?_, fun b o e hnf => ?_, .inr (.inr (by rw [hs]; exact heldZ_of hD)), naI, osI, agI, wI⟩
  · exact PySem.W.hideAll_get _ (nb b o (PySem.W.of_hideAll _ e) hb) fun z => ne_of b o e (List.mem_singleton.mp z)
  · obtain ⟨sl, e1⟩ := up b o (PySem.W.of_hideAll _ e) hnf
    obtain ⟨sl2, e2⟩ := keep b _ e1 (ne_of b o e) hnf
    exact ⟨sl2, e2⟩
theorem lc_raise {X : Cx} {pins : List (Addr × Obj)} {s : Shared} {σ : L2.St} {H : Hp} {Q : VK} {elt tg iter : Expr} {scope : Scope} {own : List (Str × Nat)} {pos pos' : Pos} {wi : TI} {g : TG} {te : TE} {use : Option (Value → Sem Unit)} {Qf : Value → Shared → Prop} {E : XK}
    (hs : X.stack = X.env :: X.outer) (hf : X.env.frame = some X.env.locals) (tk : L2N.Takes X (fun cls d _ H => E cls d H))
    (hc : X.calm = true) (hN : X.N.Nodup) (I : Inv X pins σ H s) (hi : PI X tg iter wi) (ok : BlkOk X.N X.env.scope scope own)
    (hg : ∀ (s : Shared) (H : Hp) (C : Addr) (cl : List (Str × Addr)) (fp : List Addr) (xe : Value → Shared → Prop), PG (blkE X s H scope (compEnvC scope cl C X.env) fp xe) tg g)
    (he : ∀ (s : Shared) (H : Hp) (C : Addr) (cl : List (Str × Addr)) (fp : List Addr) (xe : Value → Shared → Prop), Passes (L2N.CX X.prog X.w) (blkE X s H scope (compEnvC scope cl C X.env) fp xe) E → PE (blkE X s H scope (compEnvC scope cl C X.env) fp xe) elt te)
    (hsI : ∀ x, foldedSetIterable iter X.env x = pure x) (h : tLc wi g tYes te (own.map (·.2)) σ H Q)
    (hRR : ∀ (D : Addr) (ce : Env) s' m H', Inv X pins σ H' s' → Q (.ref D) H' → s'.heap.Ns ce.locals m → FpOk X pins H' ce.locals → compEnds (model X.prog X.w) X.A X.xe use Qf (.ref D) ce (.ok .next) s') :
    wpAny (model X.prog X.w) X.A (comprehension (.ListComp elt [⟨tg, iter, [], 0⟩] scope pos) scope X.env pos' (newList []) false (eval iter X.env) use) Qf X.xe s := by
  have hfree : ∀ y ∈ scope.names, y.2 = .free → ∃ c, X.env.cells.lookup y.1 = some c := fun y hy e => by
    rcases ok.free y hy e with k | k
    · exact I.ok.has _ (.inl k)
    · exact I.ok.has _ (.inr k)
  refine comprehension_at (use := use) rfl hsI (closure_ok hfree) ok.kind (fun y hy e => by rw [ok.uniq y hy, e])
    (thn (hi.run pins s σ H _ I h) fun xv s1 hx => thn hx fun itv s2 h2 => ?_)
  obtain ⟨it, fp, tn, J, H2, e, I2, T, st2, f2, q⟩ := h2
  subst e
  refine wpAny_newObj_type (newEnv_comp ?_) (by show 0 ≤ sizeLine; decide)
  generalize hD : s2.heap.objs.size = D
  have hDn : H2 D = none := I2.hok.fresh (Nat.le_of_eq hD)
  obtain ⟨W, ⟨m0, w0⟩, turn⟩ := q D hDn
  generalize hs3 : ({ s2 with heap := s2.heap.push { cls := .type "list", data := .seq ([] : List Value).toArray } } : Shared) = s3
  have I3 : Inv X pins σ (upd H2 D (.lst [])) s3 := by
    rw [← hs3]
    refine I2.laid (t' := s2.toks) (fun b o e => Heap.get?_push_of_some _ e) (Nat.le_of_eq hD) ⟨Nat.zero_le _, [], 0, .nil, ?_⟩
    rw [← hD]
    exact Heap.get?_push_size _ rfl
  have h3 : s3.heap = s2.heap.push { cls := .type "list", data := .seq ([] : List Value).toArray } := by rw [← hs3]
  have f3 : ∀ b ∈ fp, FpOk X pins (upd H2 D (.lst [])) b ∧ b < s3.heap.objs.size := fun b hb => by
    obtain ⟨o, e, _⟩ := T.obj _ _ st2 b hb
    have hlt := Heap.lt_size e
    refine ⟨⟨?_, (f2 b hb).2⟩, by rw [h3, Heap.size_push]; exact Nat.lt_succ_of_lt hlt⟩
    rw [upd_ne (by rw [← hD]; exact Nat.ne_of_lt hlt)]
    exact (f2 b hb).1
  have st3 : tn 0 s3.heap := T.keep _ _ _ st2 fun b _ o e => by rw [h3]; exact Heap.get?_push_of_some _ e
  have I4 := block_start I3 ok hN f3
  have nfp : ∀ b ∈ fp, (upd H2 D (.lst [])) b = none := fun b hb => (f3 b hb).1.1
  have hg3 := hg s3 (upd H2 D (.lst [])) s3.heap.objs.size (cellsFrom (s3.heap.objs.size + 1) scope.names (cloFrom X.env.cells scope.names [])) fp
  have he3 := he s3 (upd H2 D (.lst [])) s3.heap.objs.size (cellsFrom (s3.heap.objs.size + 1) scope.names (cloFrom X.env.cells scope.names [])) fp
  show codeAny _ _ (.compStart (.ListComp elt [⟨tg, iter, [], 0⟩] scope pos) 0 (.ref it) (.ref D) (compEnvC scope (cellsFrom (s3.heap.objs.size + 1) scope.names (cloFrom X.env.cells scope.names [])) s3.heap.objs.size X.env)) (compEnds (model X.prog X.w) X.A X.xe use Qf (.ref D) (compEnvC scope (cellsFrom (s3.heap.objs.size + 1) scope.names (cloFrom X.env.cells scope.names [])) s3.heap.objs.size X.env)) { s3 with heap := pushCells (s3.heap.push { cls := .type "dict", data := .dict #[] }) scope.names }
  have cF : (compEnvC scope (cellsFrom (s3.heap.objs.size + 1) scope.names (cloFrom X.env.cells scope.names [])) s3.heap.objs.size X.env).frame = X.env.frame := rfl
  have cL : (compEnvC scope (cellsFrom (s3.heap.objs.size + 1) scope.names (cloFrom X.env.cells scope.names [])) s3.heap.objs.size X.env).locals = s3.heap.objs.size := rfl
  generalize compEnvC scope (cellsFrom (s3.heap.objs.size + 1) scope.names (cloFrom X.env.cells scope.names [])) s3.heap.objs.size X.env = ce at I4 hg3 he3 cF cL ⊢
  have pg := hg3 (compXe X ce)
  have pe := he3 (compXe X ce) (comp_pass hs hf tk I3 cF cL fun b hb => (f3 b hb).1)
  have I4 := inv_tr I4 rfl (compXe X ce)
  generalize hH3 : upd H2 D (.lst []) = H3 at I3 I4 pg pe w0 nfp f3
  generalize hs4 : ({ s3 with heap := pushCells (s3.heap.push { cls := .type "dict", data := .dict #[] }) scope.names } : Shared) = s4 at I4 ⊢
  have st4 : tn 0 s4.heap := T.keep _ _ _ st3 fun b _ o e => by rw [← hs4]; exact pushCells_keeps _ _ _ _ (Heap.get?_push_of_some _ e)
  have stat : ∀ {σ' : L2.St} {H' : Hp} {s' : Shared}, Inv (blkE X s3 H3 scope ce fp (compXe X ce)) [] σ' H' s' → (∀ b ∈ fp, H' b = none) → ∀ b ∈ fp, FpOk (blkE X s3 H3 scope ce fp (compXe X ce)) [] H' b := fun {σ' H' s'} I' hn b hb =>
    ⟨hn b hb, (I'.ok.exf b hb).1, I'.ok.exfs b hb, .inl hb, fun x c e => (I'.ok.exf b hb).2 x c e, fun p hp => absurd (show p ∈ ([] : List (Addr × Obj)) ++ [] from hp) (by simp)⟩
  have loop : codeAny (model X.prog X.w) X.A (.compLoop (.ListComp elt [⟨tg, iter, [], 0⟩] scope pos) 0 (.ref it) (.ref D) ce) (compEnds (model X.prog X.w) X.A X.xe use Qf (.ref D) ce) s4 := by
    refine compLoop_any (fun n s' => ∃ i H', Inv (blkE X s3 H3 scope ce fp (compXe X ce)) [] (wipe σ (own.map (·.2))) H' s' ∧ tn i s'.heap ∧ (∀ b ∈ fp, H' b = none) ∧ W i n H') ?_ m0 ⟨0, H3, I4, st4, nfp, w0⟩
    rintro n s5 ⟨i, H5, I5, st5, n5, w5⟩
    have hxe : ∀ (e : Value) (s' : Shared), compXe X ce e s' → notedBy (model X.prog X.w) X.A ce (fun e s' => compEnds (model X.prog X.w) X.A X.xe use Qf (.ref D) ce (.error e) s') e s' := fun e s' h => by
      cases use <;> exact h
    rcases turn i n H5 w5 with ⟨stop, qq⟩ | ⟨go, Nx, hNx, step⟩
    · have td := T.done (blkE X s3 H3 scope ce fp (compXe X ce)) rfl rfl rfl hc i [] s5 _ H5 (fun _ _ => False) I5 (stat I5 n5) st5 stop
      refine thnF td fun r s6 ⟨hr, I6⟩ => ?_
      subst hr
      have I7 : Inv X pins σ H5 s6 := I3.call' (ch := fp) I6.os I6.base I6.hok I6.bare fun b hb => ⟨(f3 b hb).1.2.2.2.1, (f3 b hb).1.2.1, (f3 b hb).1.2.2.2.2.1, (f3 b hb).1.2.2.2.2.2⟩
      have nC : H5 ce.locals = none := I6.free
      obtain ⟨m, hn, _⟩ := I6.loc
      exact hRR D ce s6 m H5 I7 qq hn (I3.fpOk (Nat.le_of_eq cL.symm) nC)
    · have ti := T.item (blkE X s3 H3 scope ce fp (compXe X ce)) rfl rfl rfl hc i [] s5 _ H5 (fun _ _ => False) I5 (stat I5 n5) st5 go
      refine thnF ti fun r s6 ⟨u, hr, h6⟩ => ?_
      subst hr
      refine thnF h6 fun _ s7 ⟨x, H7, I7, r7, y7, st7, n7⟩ => ?_
      have I7' := I7.pinned (stat I7 n7) (T.obj _ _ st7)
      refine wpAny_mono (pg.run _ s7 _ H7 x u _ I7' r7 (step x H7 y7)) (fun _ s8 ⟨σ8, H8, I8, hw8, q8⟩ => ?_) hxe
      refine wpAny_pure ?_
      have fin : ∀ {s' : Shared} {H' : Hp}, Inv (blkE X s3 H3 scope ce fp (compXe X ce)) ([] ++ pinsAt fp s7.heap) σ8 H' s' → Nx H' → ∃ m, m < n ∧ ∃ i H', Inv (blkE X s3 H3 scope ce fp (compXe X ce)) [] (wipe σ (own.map (·.2))) H' s' ∧ tn i s'.heap ∧ (∀ b ∈ fp, H' b = none) ∧ W i m H' := fun {s' H'} I' nx => by
        obtain ⟨m', hm, w'⟩ := hNx H' nx
        have pin' : ∀ b ∈ fp, ∀ o, s7.heap.get? b = some o → s'.heap.get? b = some o ∧ H' b = none := fun b hb o e =>
          let z := I'.pin (b, o) (List.mem_append_right _ (List.mem_append_right _ (mem_pinsAt hb e)))
          ⟨z.1, z.2.1⟩
        have hl : (wipe σ (own.map (·.2))).length = σ8.length := by rw [← hw8, wipe_length]
        refine ⟨m', hm, i + 1, H', (I'.unpinned (pins := [])).weak hl (fun j v e => ?_), T.keep _ _ _ st7 fun b hb o e => (pin' b hb o e).1, fun b hb => ?_, w'⟩
        · rw [← hw8] at e
          exact (wipe_some e).1
        · obtain ⟨o, e, _⟩ := T.obj _ _ st7 b hb
          exact (pin' b hb o e).2
      simp only [if_true]
      have q9 : te σ8 H8 fun y H4 => ∃ acc, H4 D = some (HO.lst acc) ∧ acc.length < sizeLine ∧ Nx (upd H4 D (HO.lst (acc ++ [y]))) := q8
      refine wpAny_mono (pe.run _ s8 σ8 H8 _ I8 q9) (fun z s10 ⟨yv, H10, I10, r10, acc, hD10, hz10, nx⟩ => ?_) hxe
      exact app_ok (X := blkE X s3 H3 scope ce fp (compXe X ce)) I10 hD10 hz10 r10 fun s11 I11 => fin I11 nx
  exact codeAny_compStart_list loop (T.self X.A 0 _ _ _ st4 loop)
/-- name = [..] on one line, the element may raise -/
theorem ps_setLcX {X : Cx} {i : Nat} {y : Str} {py : Pos} {elt tg iter : Expr} {scope : Scope} {own : List (Str × Nat)} {pos spos : Pos} {wi : TI} {g : TG} {te : TE} {E : XK}
    (hs : X.stack = X.env :: X.outer) (hf : X.env.frame = some X.env.locals) (tk : L2N.Takes X (fun cls d _ H => E cls d H)) (hc : X.calm = true) (hN : X.N.Nodup) (hy : X.N[i]? = some y) (hyl : X.env.scope.names.lookup y = some .local)
    (hsw : swapsWith (.ListComp elt [⟨tg, iter, [], 0⟩] scope pos) (some (.Name y py)) spos.line X.env = pure true) (hi : PI X tg iter wi) (ok : BlkOk X.N X.env.scope scope own)
    (hg : ∀ (s : Shared) (H : Hp) (C : Addr) (cl : List (Str × Addr)) (fp : List Addr) (xe : Value → Shared → Prop), PG (blkE X s H scope (compEnvC scope cl C X.env) fp xe) tg g)
    (he : ∀ (s : Shared) (H : Hp) (C : Addr) (cl : List (Str × Addr)) (fp : List Addr) (xe : Value → Shared → Prop), Passes (L2N.CX X.prog X.w) (blkE X s H scope (compEnvC scope cl C X.env) fp xe) E → PE (blkE X s H scope (compEnvC scope cl C X.env) fp xe) elt te)
    (hsI : ∀ x, foldedSetIterable iter X.env x = pure x := by intro _; rfl) :
    PS X (.Assign [.Name y py] (.ListComp elt [⟨tg, iter, [], 0⟩] scope pos) spos) (tAsg (tLc wi g tYes te (own.map (·.2))) (gName i)) := by
  refine ⟨fun pins s σ H D I h => ?_⟩
  rw [exec_Assign_Name_used _ _ _ _ hsw]
  refine wpAny_bind (wpAny_standAt (wpAny_bind ?_))
  show wpAny _ X.A (do let _ ← comprehension (.ListComp elt [⟨tg, iter, [], 0⟩] scope pos) scope X.env (firstIterPos [⟨tg, iter, [], 0⟩] pos) (newList []) false (eval iter X.env) (some (assign (.Name y py) X.env))) _ _ s
  have h : tLc wi g tYes te (own.map (·.2)) σ H (fun x H1 => gName i x σ H1 D.nx) := h
  refine wpAny_bind (thn (lc_raise (Qf := fun _ s' => SP X pins D .next s') hs hf tk hc hN I hi ok hg he hsI h fun L ce s' m H' I' q hn f => ?_) fun _ s' hq => wpAny_pure (wpAny_pure hq))
  show wpAny _ _ (assign (.Name y py) X.env (.ref L)) _ _ _
  refine wpAny_assign_Name (store_ok2 (v := V.ref L) I' hN hy (.inl hyl) rfl (fun s2 I2 ⟨a, sb, ha⟩ => ?_) (.inr hyl))
  obtain ⟨f0, f1, f2, f3, f4, f5⟩ := f
  have haC : ce.locals ≠ a := by
    rcases ha with z | z
    · rw [z]; exact f1
    · exact fun e => f4 y a z e.symm
  refine ⟨m, hn.sameBut sb haC, fun h3 sb3 => ?_⟩
  exact ⟨_, H', I2.turned (t' := s2.toks) (fun b o hb e => (sb3.2 b hb).trans e) f0 f1 f3 f4 f5, q⟩
end Pk
namespace Pk
open PySem PySem.Spec PyProof.Rows L2 Evl He
/-! ### errors whose context is told: None, or an error that the ground holds, whose context is None -/
def CtxT (B : Heap) (H : Hp) (o : Obj) : Prop := ∀ vs : Array Value, o.data = .fields vs → vs[2]? = some .none ∨ ∃ (q : Addr × Obj) (ws : Array Value), vs[2]? = some (.ref q.1) ∧ B.get? q.1 = some q.2 ∧ H q.1 = none ∧ q.2.data = .fields ws ∧ ws[2]? = some .none
def Zt (B : Heap) (H : Hp) (cls : Value) (d : Option Addr) : Obj → Prop := fun o => (o.cls = cls ∧ o.dict = d) ∧ CtxT B H o
theorem fld2 {o : Obj} {v : Value} {vs : Array Value} (e : (o.mapFields (·.setIfInBounds 1 v)).data = .fields vs) : ∃ vs0, o.data = .fields vs0 ∧ vs[2]? = vs0[2]? := by
  obtain ⟨c, d, dt, sl⟩ := o
  cases dt with
  | fields w0 =>
    have e2 : w0.setIfInBounds 1 v = vs := Data.fields.inj e
    exact ⟨w0, rfl, by rw [← e2]; simp [Array.getElem?_setIfInBounds]⟩
  | _ => cases e
theorem Zt.steady {B : Heap} {H : Hp} {cls : Value} {d : Option Addr} : PXN.Steady1 (Zt B H cls d) := fun o v h =>
  ⟨⟨PXN.steady_cls o v h.1.1, PXN.steady_dict o v h.1.2⟩, fun vs e => by
    obtain ⟨vs0, e0, e2⟩ := fld2 e
    rw [e2]
    exact h.2 vs0 e0⟩
theorem Zt.ofN {B : Heap} {H : Hp} {cls : Value} {d : Option Addr} {o : Obj} (h : L2N.Zn cls d o) : Zt B H cls d o := ⟨⟨h.1, h.2.1⟩, fun vs e => .inl (h.2.2 vs e)⟩
theorem traced_imp {h B : Heap} {a : Addr} {Z Z' : Obj → Prop} {fl : Value} (z : ∀ o, Z o → Z' o) (x : HandSPX.TracedZ h B a Z fl) : HandSPX.TracedZ h B a Z' fl :=
  let ⟨oe, vs, T, oT, ts, he, hz, r⟩ := x
  ⟨oe, vs, T, oT, ts, he, z _ hz, r⟩
theorem sky_imp {B h : Heap} {l : List Env} {a L : Addr} {Z Z' : Obj → Prop} (z : ∀ o, Z o → Z' o) (x : Sky B l a Z L h) : Sky B l a Z' L h := by
  rcases x with ⟨p1, p2, p3, oe, vs, p4, p5, p6⟩ | ⟨p1, p2, p3, p4⟩ | ⟨p1, p2, p3, p4⟩
  · exact .inl ⟨p1, p2, p3, oe, vs, p4, z _ p5, p6⟩
  · exact .inr (.inl ⟨p1, p2, p3, traced_imp z p4⟩)
  · exact .inr (.inr ⟨p1, p2, p3, traced_imp z p4⟩)
/-- in the air of X -/
def XT (X : Cx) (W : WX) (u : Value) (s' : Shared) : Prop :=
  ∃ (a : Addr) (B : Heap) (sI : Shared) (pins : List (Addr × Obj)) (σ : L2.St) (H : Hp) (cls : Value) (d : Option Addr), u = .ref a ∧ Inv X pins σ H sI ∧ (∀ b o, sI.heap.get? b = some o → b ∉ frs X.stack → B.get? b = some o) ∧ sI.heap.UpToSlots s'.heap ∧
    Sky B X.stack a (Zt B H cls d) X.env.locals s'.heap ∧ H a = none ∧ s'.os = sI.os ∧ AllBare s'.gens ∧ W cls d σ H
def TakesT (X : Cx) (W : WX) : Prop := ∀ u s', XT X W u s' → X.xe u s'
theorem XT.ofN {X : Cx} {W : WX} {u : Value} {s' : Shared} (x : L2N.XE X W u s') : XT X W u s' := by
  obtain ⟨a, B, sI, pins, σ, H, cls, d, e, I, nb, up, sky, r⟩ := x
  exact ⟨a, B, sI, pins, σ, H, cls, d, e, I, nb, up, sky_imp (fun o => Zt.ofN) sky, r⟩
theorem TakesT.n {X : Cx} {W : WX} (t : TakesT X W) : L2N.Takes X W := fun u s' x => t u s' (.ofN x)
/-- behind a call -/
def CXt (P : Program) (w : World) (outer : List Env) (H : Hp) (s : Shared) (E : XK) (u : Value) (s' : Shared) : Prop :=
  ∃ (a : Addr) (B : Heap) (G : Hp) (cls : Value) (d : Option Addr), u = .ref a ∧ HandSPX.FlyingZ B outer a (Zt B G cls d) s'.heap ∧ HOk P w G B ∧ UB (frs outer) H G s.heap B s'.heap ∧ G a = none ∧ s'.os = s.os ∧ AllBare s'.gens ∧ E cls d G
section
variable {X : Cx} {pins : List (Addr × Obj)} {σ : L2.St} {H : Hp} {s s' : Shared} {W : WX} {E : XK}
theorem XT.of_call (I : Inv X pins σ H s) (hW : ∀ cls d G, E cls d G → W cls d σ G) {u : Value} (c : CXt X.prog X.w X.stack H s E u s') : XT X W u s' := by
  obtain ⟨a, B, G, cls, d, rfl, fl, hok, ub, na, os, ag, hE⟩ := c
  have st : B.StaysIn s'.heap := fl.1
  -- the ground and the frames, as they stand now
  obtain ⟨R, r1, r2⟩ := restrict s'.heap fun b => (B.get? b).isSome || decide (b ∈ frs X.stack)
  have rB : ∀ b o, B.get? b = some o → R.get? b = some o := fun b o e => (r1 b (by rw [e]; rfl)).trans (st b o e)
  have rF : ∀ b, b ∈ frs X.stack → R.get? b = s'.heap.get? b := fun b hb => r1 b (by rw [decide_eq_true hb, Bool.or_true])
  have ofR : ∀ b o, R.get? b = some o → s'.heap.get? b = some o ∧ ((∃ o', B.get? b = some o') ∨ b ∈ frs X.stack) := fun b o e => by
    cases hq : ((B.get? b).isSome || decide (b ∈ frs X.stack)) with
    | false =>
      have := r2 b hq
      rw [e] at this
      cases this
    | true =>
      refine ⟨(r1 b hq).symm.trans e, ?_⟩
      rcases Bool.or_eq_true_iff.mp hq with z | z
      · exact .inl (Option.isSome_iff_exists.mp z)
      · exact .inr (of_decide_eq_true z)
  have J : Inv X pins σ G { s with heap := R, gens := s'.gens, drawn := s'.drawn, toks := s'.toks } := I.call (ch := [])
    ⟨fun b o e n hb _ => rB b o (ub.keep b o e n hb),
     fun b o e n hb _ => let ⟨sl, q⟩ := ub.slot b o e hb; ⟨sl, (rF b hb).trans q⟩,
     fun b o e n _ => ub.free b o e n,
     fun b o e _ => by
      by_cases hb : b ∈ frs X.stack
      · exact let ⟨sl, q⟩ := ub.slot b o e hb; ⟨_, (rF b hb).trans q⟩
      · exact let ⟨o', q⟩ := ub.there b o e hb; ⟨o', rB b o' q⟩,
     ub.tups, ub.frzs, ub.tbls⟩ (hok.kept rB) ag fun _ z => nomatch z
  refine ⟨a, B, _, pins, σ, G, cls, d, rfl, J, fun b o e hb => ?_, Heap.UpToSlots.of_keeps fun b o e => (ofR b o e).1, .inr (.inl fl), na, os, ag, hW _ _ _ hE⟩
  obtain ⟨e1, ⟨o', q⟩ | q⟩ := ofR b o e
  · rw [st b o' q] at e1
    cases e1
    exact q
  · exact absurd q hb
/-- it leaves the def -/
theorem XT.leave (hs : X.stack = X.env :: X.outer) (hf : X.env.frame = some X.env.locals) (hex : X.ex = []) {E₁ : Value → Shared → Prop} (hW : ∀ cls d σ G, W cls d σ G → E cls d G) {u : Value} (x : XT X W u s') :
    wpAny (model X.prog X.w) X.A (leaving X.env u) (fun _ t => CXt X.prog X.w X.outer X.H_0 X.s_0 E u t) E₁ s' := by
  obtain ⟨a, B, sI, pins, σ, G, cls, d, rfl, I, nb, up, sky, na, os, ag, hw⟩ := x
  have frA : X.A.frames = some (X.env :: X.outer) := I.ok.frames.trans (congrArg some hs)
  have none_ex : ∀ b, b ∉ X.ex := fun b => by rw [hex]; exact List.not_mem_nil
  have old : ∀ b o, X.s_0.heap.get? b = some o → b ∉ X.fs → b ∉ frs X.stack := fun b o e hb hm => by
    rcases List.mem_cons.mp (I.stkSub b hm) with z | z
    · subst z
      exact absurd (Nat.lt_of_lt_of_le (Heap.lt_size e) I.ok.above) (Nat.lt_irrefl _)
    · exact hb z
  have done : ∀ h2, HandSPX.FlyingZ B X.outer a (Zt B G cls d) h2 → s'.heap.UpToSlots h2 → CXt X.prog X.w X.outer X.H_0 X.s_0 E (.ref a) { s' with heap := h2 } := fun h2 fl up2 => by
    refine ⟨a, B, G, cls, d, rfl, fl, I.inGround nb, ⟨fun b o e n hb => nb b o (I.base.keep b o e n hb (none_ex b)) (old b o e hb), fun b o e hb => ?_, fun b o e n => I.base.free b o e n (none_ex b), fun b o e hb => ?_, I.base.tups, I.base.frzs, I.base.tbls⟩, na, os.trans I.os, ag, hW _ _ _ _ hw⟩
    · obtain ⟨_, oz, ez, nf⟩ := I.ok.funs.mem hb
      rw [e] at ez
      cases ez
      obtain ⟨l1, q1⟩ := I.base.slot b o e (I.ok.frf b hb) hb (none_ex b)
      obtain ⟨l2, q2⟩ := up b _ q1 nf
      obtain ⟨l3, q3⟩ := up2 b _ q2 nf
      exact ⟨l3, q3⟩
    · obtain ⟨o', q⟩ := I.base.there b o e (none_ex b)
      exact ⟨o', nb b o' q (old b o e hb)⟩
  rw [hs] at sky
  rcases sky with ⟨p1, p2, p3, oe, vs, p4, p5, p6, p7⟩ | fl | hd
  · exact PXN.leaving_firstZ Zt.steady frA p3 hf p4 p1 p2 p6 p7 p5 done
  · exact PXN.leaves_onZ Zt.steady frA hf fl done
  · exact HandSPX.leaves_heldZ hf hd done
theorem takesT_of (hs : X.stack = X.env :: X.outer) (hf : X.env.frame = some X.env.locals) (hex : X.ex = []) {E₁ : Value → Shared → Prop}
    (hx : X.xe = fun e t => wpAny (model X.prog X.w) X.A (leaving X.env e) (fun _ r => CXt X.prog X.w X.outer X.H_0 X.s_0 E e r) E₁ t) : TakesT X (fun cls d _ G => E cls d G) := fun u t x => by
  rw [hx]
  exact XT.leave (W := fun cls d _ G => E cls d G) hs hf hex (fun _ _ _ _ h => h) x
theorem passAtT (tk : TakesT X W) (σ : L2.St) : PassesAt (CXt X.prog X.w) X σ (WE W σ) := fun _ _ _ u t I c => tk u t (XT.of_call I (fun _ _ _ h => h) c)
/-- more pins -/
theorem pins_more (I : Inv X pins σ H s) {q : Addr × Obj} {ws : Array Value} (h1 : s.heap.get? q.1 = some q.2) (hd : q.2.data = .fields ws) (h2 : H q.1 = none) (h3 : q.1 ≠ X.env.locals) (h4 : q.1 ∉ X.fs) : Inv X (q :: pins) σ H s :=
  ⟨I.ok, I.os, I.bare, I.base, I.loc, I.cell, I.free, I.freeC, fun p hp => by
    rcases List.mem_append.mp hp with m | m
    · exact I.pin p (List.mem_append_left _ m)
    · rcases List.mem_cons.mp m with rfl | m
      · exact ⟨h1, h2, h3, h4, fun v z => by rw [hd] at z; cases z⟩
      · exact I.pin p (List.mem_append_right _ m), I.hok, I.len⟩
theorem pins_less {q : Addr × Obj} (I : Inv X (q :: pins) σ H s) : Inv X pins σ H s :=
  ⟨I.ok, I.os, I.bare, I.base, I.loc, I.cell, I.free, I.freeC, fun p hp => I.pin p (by
    rcases List.mem_append.mp hp with m | m
    · exact List.mem_append_left _ m
    · exact List.mem_append_right _ (List.mem_cons_of_mem _ m)), I.hok, I.len⟩
end
/-- what the suite's pins tell of the context -/
def CtxP (oe : Obj) (pn : List (Addr × Obj)) : Prop := ∀ vs : Array Value, oe.data = .fields vs → vs[2]? = some .none ∨ ∃ (q : Addr × Obj) (ws : Array Value), vs[2]? = some (.ref q.1) ∧ q ∈ pn ∧ q.2.data = .fields ws ∧ ws[2]? = some .none
theorem off_frames {B h : Heap} {l : List Env} {b : Addr} {o : Obj} {ws : Array Value} (ff : h.FunFrames B l) (e : h.get? b = some o) (d : o.data = .fields ws) : b ∉ frs l := fun m => by
  obtain ⟨_, oz, ez, nf⟩ := ff.mem m
  rw [e] at ez
  cases ez
  exact nf _ d
theorem off_two {X : Cx} {b : Addr} (hf : X.env.frame = some X.env.locals) (n : b ∉ frs (X.env :: X.outer)) : b ≠ X.env.locals ∧ b ∉ X.fs :=
  ⟨fun z => n (List.mem_filterMap.mpr ⟨X.env, List.mem_cons_self, by rw [hf, z]⟩), fun m => by
    obtain ⟨v, hv, q⟩ := List.mem_filterMap.mp m
    exact n (List.mem_filterMap.mpr ⟨v, List.mem_cons_of_mem _ hv, q⟩)⟩
/-- with the context's error among the pins -/
theorem with_ctx {X : Cx} {B : Heap} {pins : List (Addr × Obj)} {σ : L2.St} {H : Hp} {s : Shared} {oe : Obj} (hf : X.env.frame = some X.env.locals) (I : Inv X pins σ H s) (st : B.StaysIn s.heap) (ff : s.heap.FunFrames B (X.env :: X.outer)) (hc : CtxT B H oe) (hd : ∃ vs, oe.data = .fields vs) :
    ∃ pn2, Inv X pn2 σ H s ∧ CtxP oe (X.pn ++ pn2) ∧ ∀ σ2 H2 s2, Inv X pn2 σ2 H2 s2 → Inv X pins σ2 H2 s2 := by
  obtain ⟨vs, ed⟩ := hd
  rcases hc vs ed with h | ⟨q, ws, h1, h2, h3, h4, h5⟩
  · refine ⟨pins, I, fun vs2 e2 => ?_, fun _ _ _ J => J⟩
    rw [ed] at e2
    cases e2
    exact .inl h
  · obtain ⟨n1, n2⟩ := off_two hf (off_frames ff (st _ _ h2) h4)
    refine ⟨q :: pins, pins_more I (st _ _ h2) h4 h3 n1 n2, fun vs2 e2 => ?_, fun _ _ _ J => pins_less J⟩
    rw [ed] at e2
    cases e2
    exact .inr ⟨q, ws, h1, List.mem_append_right _ List.mem_cons_self, h4, h5⟩
section
variable {X : Cx} {x n : Str} {c : Value} {i : Nat} {body suite : List Stmt} {b₀ : Stmt} {np pos pos' : Pos} {tb : WX → TS} {ts : Addr → Value → Option Addr → TS} {Wout : WX}
/-- back from the try's body -/
theorem tried {pins : List (Addr × Obj)} {D : Ends} {xe : Value → Shared → Prop} {f : Flow} {s1 : Shared} (ok : X.Ok) (h : SP (X.tr (X.pn ++ pins) xe) [] D f s1) : SP X pins D f s1 := by
  cases f with
  | ret u => exact let ⟨v, σ', H', J, r, q⟩ := h; ⟨v, σ', H', J.ofTry ok, r, q⟩
  | _ => exact let ⟨σ', H', J, q⟩ := h; ⟨σ', H', J.ofTry ok, q⟩
theorem ps_try_asT (hs : X.stack = X.env :: X.outer) (hf : X.env.frame = some X.env.locals) (hN : X.N.Nodup) (hi : X.N[i]? = some n) (hln : X.env.kindOf n = some .local) (hc : Names X x c) (tk : TakesT X Wout)
    (hb : ∀ (W : WX) (pn : List (Addr × Obj)) (xe : Value → Shared → Prop), TakesT (X.tr pn xe) W → PassesOwn (model X.prog X.w) X.A X.env xe → PSs (X.tr pn xe) body (tb W))
    (hsu : ∀ (a : Addr) (oe : Obj) (cls : Value) (d : Option Addr) (pn : List (Addr × Obj)), Zc cls d oe → (∃ vs, oe.data = .fields vs) → CtxP oe pn → PSs (X.suite a ((a, oe) :: pn)) (b₀ :: suite) (ts a cls d)) :
    PS X (.Try body [.ExceptHandler (some (.Name x np)) (some n) (b₀ :: suite) pos'] [] [] pos) (fun D σ H => tb (wAs X.K c i ts Wout D) D σ H) := by
  refine ⟨fun pins s σ H D I h => wpAny_Try_except ?_⟩
  have ok := I.ok
  have frA : X.A.frames = some (X.env :: X.outer) := ok.frames.trans (congrArg some hs)
  refine wpAny_mono ((hb (wAs X.K c i ts Wout D) (X.pn ++ pins) _ (fun u t xx => ?_) PassesOwn.looking).run [] s σ H D (I.toTry _) h) (fun f s1 hsp => ?_) (fun e t z => z)
  rotate_left
  · have g := tried ok hsp
    cases f with
    | next => exact wpAny_execs_nil g
    | _ => exact g
  obtain ⟨a, B, sI, pn1, σ1, G, cls, d, rfl, J1, nb, up, sky, na, os, ag, b, hb1, hyes, hno⟩ := xx
  have J : Inv X pins σ1 G sI := J1.ofTry ok
  rw [show (X.tr (X.pn ++ pins) _).stack = X.env :: X.outer from hs] at sky
  show wpAny (model X.prog X.w) X.A (noteFrame (.ref a) X.env) _ _ _
  refine L2N.Sky.land Zt.steady frA hf sky fun h3 fl3 up3 => ?_
  have K3 : Inv X pins σ1 G { t with heap := h3 } := J.landed nb fl3.1 (up.trans up3) os ag
  obtain ⟨oe3, vs3, g3, z3, f3⟩ := fl3.there
  obtain ⟨nL, nF⟩ := off_two hf (off_frames fl3.2.2.1 g3 f3)
  have S3 := K3.suite g3 f3 na nL nF
  refine wpAny_handleBy_cons (codeAny_handlers_test ?_) (by intro q; cases q)
  have ofc : PySem.W.Looks (model X.prog X.w) h3 (typeOf (.ref a)) cls := fun _ _ _ _ k q => wpAny_typeOf_ref (k _ _ g3) (by rw [z3.1.1]; exact q)
  have told := PySem.W.exm_one (M := model X.prog X.w) K3.kIn ofc hb1
  have named : ∀ {Q E : Value → Shared → Prop}, Q c { t with heap := h3 } → wpAny (model X.prog X.w) (X.A.mark (some (.ref a))) (eval (.Name x np) X.env) Q E { t with heap := h3 } := fun {Q E} q => by
    obtain ⟨hg, hdbg, hm | ⟨hm, hv, hnn⟩⟩ := hc
    · exact ld_glob (X := X.suite a ((a, oe3) :: (X.pn ++ pins))) S3 hg hm q hdbg
    · exact ld_blt (X := X.suite a ((a, oe3) :: (X.pn ++ pins))) S3 hg hm hv q hnn hdbg
  refine named (told.here ?_)
  cases b with
  | false =>
    show wpAny _ X.A (handleBy (.ref a) X.env []) _ _ _
    refine wpAny_handleBy_nil ?_
    obtain ⟨y1, y2, y3, oy, vy, Ty, oTy, ty, y4, y5, y6, y7, y8⟩ := id fl3
    have last : wpAny (model X.prog X.w) X.A (setFlight (.ref a) X.env.frame) (fun _ s4 => wpAny (model X.prog X.w) X.A (throw (.ref a) : Sem Flow) (SP X pins D) X.xe s4) X.xe { t with heap := h3 } := by
      rw [hf]
      exact HandSPX.setFlight_upZ fl3 fun h4 hh4 up4 => wpAny_throw (tk _ _ ⟨a, B, sI, pins, σ1, G, cls, d, rfl, J, nb, (up.trans up3).trans up4, .inr (.inr (by rw [hs]; exact hh4)), na, os, ag, hno rfl⟩)
    unfold PySem.passOn
    refine wpAny_bind (wpAny_field y4 y6 y7 ?_)
    rw [if_neg (by simp)]
    first
      | exact wpAny_bind (wpAny_pure (wpAny_bind last))
      | exact wpAny_bind last
  | true =>
    refine codeAny_handlers_suite_as (HandSPX.lands_againZ fl3 fun h4 fl4 up4 => ?_)
    have K4 : Inv X pins σ1 G { t with heap := h4 } := J.landed nb fl4.1 ((up.trans up3).trans up4) os ag
    obtain ⟨oe4, vs4, g4, z4, f4⟩ := fl4.there
    obtain ⟨pn2, K5, hctx, back⟩ := with_ctx (s := { t with heap := h4 }) hf K4 fl4.1 fl4.2.2.1 z4.2 ⟨_, f4⟩
    have S4 := K5.suite g4 f4 na nL nF
    refine store_ok (X := X.suite a ((a, oe4) :: (X.pn ++ pn2))) (v := .ref a) S4 hN hi (.inl hln) rfl (fun s5 S5 => ?_) (.inr hln)
    refine wpAny_mono ((hsu a oe4 cls d (X.pn ++ pn2) z4.1 ⟨_, f4⟩ hctx).run [] s5 _ G _ S5 (hyes rfl a na)) (fun f s6 hsp => ?_) (fun _ _ z => False.elim z)
    have shut : ∀ {σ6 : L2.St} {H6 : Hp} {Q : Shared → Prop}, Inv (X.suite a ((a, oe4) :: (X.pn ++ pn2))) [] σ6 H6 s6 → (∀ s7, Inv X pins (σ6.set i none) H6 s7 → Q s7) → wpAny (model X.prog X.w) X.A (do bindName X.env n .none; unbindBehindTheSuite X.env n pos') (fun _ s7 => Q s7) X.xe s6 :=
      fun S6 hq => gone_ok (back _ _ _ (S6.unsuite ok)) hN hi hln hq
    cases f with
    | ret u => exact let ⟨v6, σ6, H6, S6, r6, q6⟩ := hsp; shut S6 fun s7 J7 => ⟨v6, _, _, J7, r6, q6⟩
    | _ => exact let ⟨σ6, H6, S6, q6⟩ := hsp; shut S6 fun s7 J7 => ⟨_, _, J7, q6⟩
end
end Pk
namespace Pk
open PySem PySem.Spec PyProof.Rows L2 Evl He
/-! ### raising where an error is handled whose context is an error -/
section
variable {prog : Program} {w : World} {A : Around} {E : Value → Shared → Prop} {s : Shared}
theorem unchained2 {x1 x2 a : Addr} {o1 o2 : Obj} {vs1 vs2 : Array Value} {Q : Value → Shared → Prop} (h1 : s.heap.get? x1 = some o1) (d1 : o1.data = .fields vs1) (c1 : vs1[2]? = some (.ref x2)) (h2 : s.heap.get? x2 = some o2) (d2 : o2.data = .fields vs2) (c2 : vs2[2]? = some .none) (n1 : x2 ≠ a) (q : Q .none s) :
    wpAny (model prog w) A (holding [Value.ref a] (runValue (.builtin "proto.unchain" ⟨[.ref a, .ref x1, .ref x1, .bool false], []⟩))) Q E s := by
  have n2 : x2 ≠ x1 := fun z => by
    subst z
    rw [h1] at h2
    cases h2
    rw [d1] at d2
    cases d2
    rw [c1] at c2
    cases c2
  refine wpAny_holding (wpAny_runValue (codeAny_builtin HotX.entry_unchain ?_))
  show wpAny _ _ (field (.ref x1) 2 >>= _) _ _ s
  refine wpAny_bind (wpAny_field h1 d1 c1 ?_)
  rw [if_neg (show ¬ (Value.ref x2 == Value.none) = true by simp)]
  rw [if_neg (show ¬ (Value.ref x2 == Value.ref a) = true by simp [n1])]
  rw [if_neg (show ¬ (Value.ref x2 == Value.ref x1) = true by simp [n2])]
  rw [if_neg (by decide)]
  refine wpAny_bind (wpAny_pure ?_)
  refine wpAny_pure ⟨plainId_quiet (by decide +kernel) _, codeAny_builtin HotX.entry_unchain ?_⟩
  show wpAny _ _ (field (.ref x2) 2 >>= _) _ _ s
  refine wpAny_bind (wpAny_field h2 d2 c2 ?_)
  rw [if_pos (show (Value.none == Value.none) = true from rfl)]
  first
  | exact wpAny_bind (wpAny_pure (wpAny_pure q))
  | exact wpAny_pure q
/-- the errors that are handled: x1, and what came before it -/
def Chain (h : Heap) (x1 x2 : Addr) : Prop := ∃ (o : Obj) (vs : Array Value), h.get? x1 = some o ∧ o.data = .fields vs ∧ (vs[2]? = some .none ∨ ∃ (o2 : Obj) (ws : Array Value), vs[2]? = some (.ref x2) ∧ h.get? x2 = some o2 ∧ o2.data = .fields ws ∧ ws[2]? = some .none)
theorem Chain.mono {h h2 : Heap} {x1 x2 : Addr} (c : Chain h x1 x2) (k : ∀ b o, b = x1 ∨ b = x2 → h.get? b = some o → h2.get? b = some o) : Chain h2 x1 x2 := by
  obtain ⟨o, vs, e, d, r⟩ := c
  refine ⟨o, vs, k _ _ (.inl rfl) e, d, ?_⟩
  rcases r with r | ⟨o2, ws, r1, r2, r3⟩
  · exact .inl r
  · exact .inr ⟨o2, ws, r1, k _ _ (.inr rfl) r2, r3⟩
theorem unchainedC {x1 x2 a : Addr} {Q : Value → Shared → Prop} (c : Chain s.heap x1 x2) (n : x2 ≠ a) (q : Q .none s) : wpAny (model prog w) A (holding [Value.ref a] (runValue (.builtin "proto.unchain" ⟨[.ref a, .ref x1, .ref x1, .bool false], []⟩))) Q E s := by
  obtain ⟨o, vs, e, d, r | ⟨o2, ws, r1, r2, r3, r4⟩⟩ := c
  · exact HotX.unchained e d r q
  · exact unchained2 e d r1 r2 r3 r4 n q
theorem raiseNew_warm {α : Type} {a x1 x2 : Addr} {oe : Obj} {vs : Array Value} {Q : α → Shared → Prop} (hh : A.handled = some (.ref x1)) (c : Chain s.heap x1 x2) (n1 : x1 ≠ a) (n2 : x2 ≠ a) (ha : s.heap.get? a = some oe) (da : oe.data = .fields vs) (hi : 2 < vs.size)
    (hE : E (.ref a) { s with heap := s.heap.update a (Obj.mapFields (·.setIfInBounds 2 (.ref x1))) }) : wpAny (model prog w) A (raiseNew (.ref a) : Sem α) Q E s := by
  have nb : (Value.ref x1 != Value.ref a) = true := HotX.ref_bne n1
  unfold raiseNew
  refine wpAny_bind (wpAny_handled ?_)
  rw [hh]
  first
  | (show wpAny _ _ (if (Value.ref x1 != Value.ref a) = true then _ else _) _ _ _
     rw [if_pos nb]
     first
     | exact wpAny_bind (unchainedC c n2 (wpAny_bind (HotX.chained ha da hi (wpAny_throw hE))))
     | exact wpAny_bind (wpAny_bind (unchainedC c n2 (HotX.chained ha da hi (wpAny_throw hE)))))
  | (refine wpAny_bind ?_
     show wpAny _ _ (if (Value.ref x1 != Value.ref a) = true then _ else _) _ _ _
     rw [if_pos nb]
     exact wpAny_bind (unchainedC c n2 (HotX.chained ha da hi (wpAny_throw hE))))
end
/-- the end of a list's walk there -/
theorem list_end_warm {prog : Program} {w : World} {A : Around} {E : Value → Shared → Prop} {s : Shared} {it l x1 x2 : Addr} {i : Nat} {items : Array Value} {Q : Option Value → Shared → Prop} (hh : A.handled = some (.ref x1)) (c : Chain s.heap x1 x2) (hne : x1 ≠ it) (hne2 : x2 ≠ it)
    (lt1 : x1 < s.heap.objs.size) (lt2 : x2 < s.heap.objs.size) (hit : s.heap.IsListIter it l i) (hl : s.heap.IsList l items) (hx : items[i]? = none)
    (hQ : ∀ h', Heap.ExtBut it s.heap h' → Q none { s with heap := h' }) : wpAny (model prog w) A (pyNext (.ref it)) Q E s := by
  obtain ⟨o, ho, hc, hd⟩ := id hit
  obtain ⟨ol, hol, _, nl, hdl⟩ := hl
  unfold pyNext
  refine wpAny_bind (wpAny_attempt (wpAny_callSpecial?_slot (name := Str.ofString "__next__") hit.typeIs slot_listiter_next
    (wpAny_call_entry slot_listiter_next hit.typeIs entry_listiter_next ?_ (args_listiter_next _))))
  show wpAny _ _ (field (.ref it) 0 >>= _) _ _ s
  refine wpAny_bind (wpAny_field ho hd (x := .ref l) rfl ?_)
  show wpAny _ _ (if (Value.ref l == Value.none) = true then _ else _) _ _ s
  rw [if_neg (show ¬ ((Value.ref l == Value.none) = true) from Bool.false_ne_true)]
  show wpAny _ _ (field (.ref it) 1 >>= _) _ _ s
  refine wpAny_bind (wpAny_field ho hd (x := .int i 0) rfl ?_)
  show wpAny _ _ (seqItems? (.ref l) >>= _) _ _ s
  refine wpAny_bind (wpAny_seqItems hol hdl ?_)
  simp only [Int.toNat_natCast, hx]
  refine wpAny_bind (wpAny_rule (wpAny_bind (wpAny_setField ho hd (by simp) ?_)))
  show wpAny _ _ (newExc (.type "StopIteration") [] >>= _) _ _ _
  refine wpAny_bind ?_
  simp only [newExc, newTuple]
  refine wpAny_bind (wpAny_newObj_type ?_ (by size_fits))
  refine wpAny_bind (m := firstArgMember _ _) (wpAny_of_eq (a := Value.none) (by first | rfl | (simp only [firstArgMember]; rfl)) ?_)
  refine wpAny_newObj_type ?_ (by size_fits)
  refine raiseNew_warm hh (c.mono fun b ob hb e => Heap.get?_push_of_some _ (Heap.get?_push_of_some _ ((Heap.get?_update_other _ _ (Ne.symm (by rcases hb with rfl | rfl <;> assumption))).trans e))) ?_ ?_ (Heap.get?_push_size _ rfl) rfl (by first | (simp; done) | (simp; omega) | (simp only [Array.size_append]; simp; omega)) ?_
  · refine Nat.ne_of_lt (Nat.lt_of_lt_of_le lt1 ?_)
    simp [Heap.push, Heap.update]
  · refine Nat.ne_of_lt (Nat.lt_of_lt_of_le lt2 ?_)
    simp [Heap.push, Heap.update]
  refine wpAny_bind (wpAny_isInstance (T := "StopIteration") (b := true) ⟨_, Heap.get?_update_self _ (Heap.get?_push_size _ rfl) rfl, rfl⟩ isSubtype_stop ?_)
  refine wpAny_pure (hQ _ fun b ob hb e => ?_)
  have e1 := (Heap.get?_update_other s.heap (Obj.mapFields fun x => x.setIfInBounds 0 Value.none) (Ne.symm hb)).trans e
  rw [Heap.get?_update_other _ _ (Nat.ne_of_gt (Heap.lt_size (Heap.get?_push_of_some _ e1)))]
  exact Heap.get?_push_of_some _ (Heap.get?_push_of_some _ e1)
theorem Chain.lt {h : Heap} {x1 x2 : Addr} (c : Chain h x1 x2) : x1 < h.objs.size := let ⟨_, _, e, _⟩ := c; Heap.lt_size e
theorem walks_warm {prog : Program} {w : World} {A : Around} {x1 x2 : Addr} (hh : A.handled = some (.ref x1)) (I ax : Addr) (hne : ax ≠ I) (hx : x1 ≠ I) (hx2 : x2 ≠ I) (items : Array Value) :
    Walks prog w A I [I, ax, x1, x2] [I] items.size (fun i v => items[i]? = some v) (fun i h => h.IsListIter I ax i ∧ h.IsList ax items ∧ Chain h x1 x2 ∧ ∃ o, h.get? x2 = some o) where
  sub := fun b hb => by simp at hb; simp [hb]
  frame := fun _ _ _ st hk => ⟨st.1.at fun o e => hk I (by simp) o e, st.2.1.at fun o e => hk ax (by simp) o e, st.2.2.1.mono fun b o hb e => hk b (by rcases hb with rfl | rfl <;> simp) o e, by
    obtain ⟨o, e⟩ := st.2.2.2
    exact ⟨o, hk x2 (by simp) o e⟩⟩
  item := fun i s Q E hi st hQ => by
    refine wpAny_pyNext_list_item st.1 st.2.1 (x := items[i]) (by simp [hi]) fun h' hit' hs' => ?_
    refine hQ _ h' s.toks (by simp [hi]) ⟨hit', st.2.1.extBut hs'.extBut hne, st.2.2.1.mono fun b o hb e => hs'.extBut b o (by rcases hb with rfl | rfl <;> assumption) e, ?_⟩ fun b o hb e => hs'.extBut b o (fun h => hb (by simp [h])) e
    obtain ⟨o, e⟩ := st.2.2.2
    exact ⟨o, hs'.extBut x2 o hx2 e⟩
  done := fun s Q E st hQ => by
    obtain ⟨o, e⟩ := st.2.2.2
    exact list_end_warm hh st.2.2.1 hx hx2 st.2.2.1.lt (Heap.lt_size e) st.1 st.2.1 (by simp) fun h' he' => hQ h' s.toks fun b o hb e => he' b o (fun h => hb (by simp [h])) e
  self := fun _ _ _ _ st hQ => wpAny_pyIter_listiter st.1 hQ
/-- a context in which such an error is handled -/
def WarmC (X : Cx) : Prop := ∃ (p q : Addr × Obj) (vs : Array Value), p ∈ X.pn ∧ q ∈ X.pn ∧ X.A.handled = some (.ref p.1) ∧ p.2.data = .fields vs ∧ (vs[2]? = some .none ∨ ∃ ws, vs[2]? = some (.ref q.1) ∧ q.2.data = .fields ws ∧ ws[2]? = some .none)
theorem warm_suite {X : Cx} {a : Addr} {oe : Obj} {pn : List (Addr × Obj)} (hd : ∃ vs, oe.data = .fields vs) (h : CtxP oe pn) : WarmC (X.suite a ((a, oe) :: pn)) := by
  obtain ⟨vs, e⟩ := hd
  rcases h vs e with h | ⟨q, ws, h1, h2, h3, h4⟩
  · exact ⟨(a, oe), (a, oe), vs, List.mem_cons_self, List.mem_cons_self, rfl, e, .inl h⟩
  · exact ⟨(a, oe), q, vs, List.mem_cons_self, List.mem_cons_of_mem _ h2, rfl, e, .inr ⟨ws, h1, h3, h4⟩⟩
theorem WarmC.at {X : Cx} {pins : List (Addr × Obj)} {σ : L2.St} {H : Hp} {s : Shared} (c : WarmC X) (I : Inv X pins σ H s) : ∃ x1 x2, X.A.handled = some (.ref x1) ∧ Chain s.heap x1 x2 ∧ ∃ o, s.heap.get? x2 = some o := by
  obtain ⟨p, q, vs, hp, hq, hh, e, r⟩ := c
  have P1 := (I.pin p (List.mem_append_left _ hp)).1
  have Q1 := (I.pin q (List.mem_append_left _ hq)).1
  refine ⟨p.1, q.1, hh, ⟨p.2, vs, P1, e, ?_⟩, _, Q1⟩
  rcases r with r | ⟨ws, r1, r2, r3⟩
  · exact .inl r
  · exact .inr ⟨q.2, ws, r1, Q1, r2, r3⟩
theorem cr_anyW {X : Cx} (hc : WarmC X) : CallR X (.builtin "any") (rAny X.K) := by
  intro pins s σ H vs us Q I r h
  obtain ⟨a, bs, rfl, hs, q⟩ := h
  obtain ⟨its, rv, hl, _⟩ := I.list hs
  rw [Vals.ref1 r]
  have hb := rv.bls
  obtain ⟨x1, x2, hh, ch, o2, e2⟩ := hc.at I
  refine call_any_walk (iter_any hl.isList fun s₂ e3 st hne => ?_)
  subst e3
  refine ⟨_, _, _, _, _, _, _, rfl, walks_warm (A := X.A.in1) hh _ a hne (Nat.ne_of_lt ch.lt) (Nat.ne_of_lt (Heap.lt_size e2)) its.toArray, ⟨st.1, st.2, ch.mono fun b o _ e => Heap.get?_push_of_some _ e, o2, Heap.get?_push_of_some _ e2⟩, truth_bools hb, fun h' tk hk => ?_⟩
  refine ⟨.bl _, H, I.kept fun b o eo => hk b o (fun hmem => ?_) (Heap.get?_push_of_some _ eo), ?_, q⟩
  · rcases List.mem_cons.mp hmem with e1 | hmem
    · exact absurd (e1 ▸ Heap.lt_size eo) (Nat.lt_irrefl _)
    · cases hmem
  · show Value.bool _ = Value.bool _
    rw [← L2.any_range, hb, List.size_toArray, List.length_map]
end Pk
namespace Pk
open PySem PySem.Spec PyProof.Rows L2 Evl He
/-! ### except X: raise Y(..) from None -/
def wFrom (K : PySem.W.Frag) (c : Value) (t : L2.St → Hp → XK → Prop) (Wout : WX) : WX := fun cls d σ H => PySem.W.exmOne K cls c = some true ∧ t σ H fun cls2 d2 H2 => Wout cls2 d2 σ H2
theorem ps_raiseT {X : Cx} {W : WX} {e : Expr} {t : L2.St → Hp → XK → Prop} {j : Nat} {cpos pos : Pos} (hc : L2H.HotC X) (tk : TakesT X W) (he : L2H.PMk5 X e t) :
    PS X (.Raise (some e) (some (.Constant .none j cpos)) pos) (fun _ σ H => t σ H fun cls d H' => W cls d σ H') := by
  refine ⟨fun pins s σ H D I h => ?_⟩
  obtain ⟨p, ⟨hh, v1, e1, c1⟩, hp⟩ := hc
  show wpAny _ _ (do standAt pos; raiseStmt X.env (some (do let v ← eval e X.env; standAt pos; pure v)) (some (do let v ← eval (.Constant .none j cpos) X.env; standAt pos; pure v))) _ _ _
  refine wpAny_bind (wpAny_standAt (HotX.raise_made_hotN (x1 := p.1) (fun s2 Q2 q2 => wpAny_bind (Constant_none (wpAny_bind (wpAny_standAt (wpAny_pure q2))))) (wpAny_bind (wpAny_mono (he pins s σ H _ I h) (fun u s1 hu => wpAny_bind (wpAny_standAt (wpAny_pure ?_))) fun _ _ z => z))))
  obtain ⟨⟨a, oe, vs, sI, G, cls, d, rfl, J, k, new, here, hz, hd, h1, na, os, ag, rz, q⟩, six⟩ := hu
  have size5 : 4 < vs.size := six a oe vs rfl here hd
  obtain ⟨P1, P2, P3, P4, _⟩ := J.pin p (List.mem_append_left _ hp)
  have other : ∀ b u, sI.heap.get? b = some u → a ≠ b := fun b u z y => by
    subst y
    rw [new] at z
    cases z
  have keep4 : ∀ b u, sI.heap.get? b = some u → (HotX.noneFrom s1.heap a).get? b = some u := fun b u z => (HotX.noneFrom_other (other b u z)).trans (k b u z)
  have keep5 : ∀ b u, sI.heap.get? b = some u → ((HotX.noneFrom s1.heap a).update a (Obj.mapFields (·.setIfInBounds 2 (.ref p.1)))).get? b = some u := fun b u z => (Heap.get?_update_other _ _ (other b u z)).trans (keep4 b u z)
  obtain ⟨here4, data4⟩ := HotX.noneFrom_at here hd
  have data5 := Obj.data_mapFields data4 (·.setIfInBounds 2 (Value.ref p.1))
  have size4 : 2 < ((vs.setIfInBounds 3 Value.none).setIfInBounds 4 (Value.bool true)).size := by simp; omega
  have offp : p.1 ∉ frs X.stack := fun m => by
    rcases List.mem_cons.mp (J.stkSub _ m) with z | z
    · exact P3 z
    · exact P4 z
  refine ⟨a, oe, vs, cls, rfl, here, hz.1, hd, h1, size5, fun z => other _ _ P1 z.symm, ⟨hh, p.2, v1, k _ _ P1, e1, c1⟩, (rz (model X.prog X.w) s1.heap (J.kIn.keeps k)).1, (rz (model X.prog X.w) (HotX.noneFrom s1.heap a) (J.kIn.keeps keep4)).2, tk _ _ ?_⟩
  refine ⟨a, PySem.W.hideAll sI.heap (frs X.stack), sI, pins, σ, G, cls, d, rfl, J, fun b o e hb => PySem.W.hideAll_get _ e hb, Heap.UpToSlots.of_keeps keep5, .inl ⟨fun b o e => keep5 b o (PySem.W.of_hideAll _ e), ?_, Heap.FunFrames.of_keeps (fun b o e _ => ⟨o, keep5 b o e, rfl⟩) (funFrames_none J.stack fun b hb => PySem.W.hideAll_none _ hb), _, _, Heap.get?_update_self _ here4 (Obj.isFreed_of_fields data5), ⟨⟨?_, ?_⟩, fun vs2 ev => .inr ⟨p, v1, ?_, PySem.W.hideAll_get _ P1 offp, P2, e1, c1⟩⟩, data5, ?_⟩, na, os, ag, q⟩
  · cases hq : (PySem.W.hideAll sI.heap (frs X.stack)).get? a with
    | none => rfl
    | some o =>
      have z := PySem.W.of_hideAll _ hq
      rw [new] at z
      cases z
  · rw [Obj.cls_mapFields, Obj.cls_mapFields, Obj.cls_mapFields]
    exact hz.1
  · rw [HandSPX.dict_mapFields, HandSPX.dict_mapFields, HandSPX.dict_mapFields]
    exact hz.2.1
  · have ev2 : Data.fields _ = Data.fields vs2 := data5.symm.trans ev
    cases ev2
    simp only [Array.getElem?_setIfInBounds_self_of_lt, size4]
  · exact HotX.set_other (by decide) (HotX.set_other (by decide) (HotX.set_other (by decide) h1))
section
variable {X : Cx} {x : Str} {c : Value} {body : List Stmt} {e : Expr} {j : Nat} {np pos pos' rpos cpos : Pos} {tb : WX → TS} {t : L2.St → Hp → XK → Prop} {Wout : WX}
theorem takes_suite {pins : List (Addr × Obj)} {a : Addr} {q : Addr × Obj} (ok : X.Ok) (tk : TakesT X Wout) : TakesT (L2H.suiteX X a (q :: (X.pn ++ pins))) Wout := fun u s ⟨a2, B, sI, pn2, σ2, G2, cls, d, eu, I, r⟩ =>
  tk u s ⟨a2, B, sI, pins, σ2, G2, cls, d, eu, L2H.unsuiteX I ok, r⟩
theorem ps_try_fromT (hs : X.stack = X.env :: X.outer) (hf : X.env.frame = some X.env.locals) (hc : Names X x c) (hpa : ∀ hd : Option Value, PassesOwnAt (model X.prog X.w) (X.A.mark hd) X.A X.env X.xe) (tk : TakesT X Wout)
    (hb : ∀ (W : WX) (pn : List (Addr × Obj)) (xe : Value → Shared → Prop), L2N.Takes (X.tr pn xe) W → PassesOwn (model X.prog X.w) X.A X.env xe → PSs (X.tr pn xe) body (tb W))
    (he : ∀ (a : Addr) (pn : List (Addr × Obj)), L2H.PMk5 (L2H.suiteX X a pn) e t) :
    PS X (.Try body [.ExceptHandler (some (.Name x np)) none [.Raise (some e) (some (.Constant .none j cpos)) rpos] pos'] [] [] pos) (fun D σ H => tb (wFrom X.K c t Wout) D σ H) := by
  refine ⟨fun pins s σ H D I h => wpAny_Try_except ?_⟩
  have ok := I.ok
  have frA : X.A.frames = some (X.env :: X.outer) := ok.frames.trans (congrArg some hs)
  refine wpAny_mono ((hb (wFrom X.K c t Wout) (X.pn ++ pins) _ (fun u r xx => ?_) PassesOwn.looking).run [] s σ H D (I.toTry _) h) (fun f s1 hsp => ?_) (fun e t z => z)
  rotate_left
  · have g := tried ok hsp
    cases f with
    | next => exact wpAny_execs_nil g
    | _ => exact g
  obtain ⟨a, B, sI, pn1, σ1, G, cls, d, rfl, J1, nb, up, sky, na, os, ag, hb1, hyes⟩ := xx
  have J : Inv X pins σ1 G sI := J1.ofTry ok
  rw [show (X.tr (X.pn ++ pins) _).stack = X.env :: X.outer from hs] at sky
  show wpAny (model X.prog X.w) X.A (noteFrame (.ref a) X.env) _ _ _
  refine L2N.Sky.land L2N.Zn.steady frA hf sky fun h3 fl3 up3 => ?_
  have K3 : Inv X pins σ1 G { r with heap := h3 } := J.landed nb fl3.1 (up.trans up3) os ag
  obtain ⟨oe3, vs3, g3, z3, f3⟩ := fl3.there
  obtain ⟨nL, nF⟩ := off_two hf (off_frames fl3.2.2.1 g3 f3)
  have S3 := K3.suite g3 f3 na nL nF
  refine wpAny_handleBy_cons (codeAny_handlers_test ?_) (by intro q; cases q)
  have ofc : PySem.W.Looks (model X.prog X.w) h3 (typeOf (.ref a)) cls := fun _ _ _ _ k q => wpAny_typeOf_ref (k _ _ g3) (by rw [z3.1]; exact q)
  have told := PySem.W.exm_one (M := model X.prog X.w) K3.kIn ofc hb1
  have named : ∀ {Q E : Value → Shared → Prop}, Q c { r with heap := h3 } → wpAny (model X.prog X.w) (X.A.mark (some (.ref a))) (eval (.Name x np) X.env) Q E { r with heap := h3 } := fun {Q E} q => by
    obtain ⟨hg, hdbg, hm | ⟨hm, hv, hnn⟩⟩ := hc
    · exact ld_glob (X := X.suite a ((a, oe3) :: (X.pn ++ pins))) S3 hg hm q hdbg
    · exact ld_blt (X := X.suite a ((a, oe3) :: (X.pn ++ pins))) S3 hg hm hv q hnn hdbg
  refine named (told.here ?_)
  refine codeAny_handlers_suite (HandSPX.lands_againZ fl3 fun h4 fl4 up4 => ?_)
  have K4 : Inv X pins σ1 G { r with heap := h4 } := J.landed nb fl4.1 ((up.trans up3).trans up4) os ag
  obtain ⟨oe4, vs4, g4, z4, f4⟩ := fl4.there
  have S4 := K4.suite g4 f4 na nL nF
  have hot : L2H.HotC (L2H.suiteX X a ((a, oe4) :: (X.pn ++ pins))) := ⟨(a, oe4), ⟨rfl, vs4, f4, z4.2.2 vs4 f4⟩, List.mem_cons_self⟩
  refine wpAny_mono ((pss_one (ps_raiseT (j := j) (cpos := cpos) (pos := rpos) hot (takes_suite ok tk) (he a ((a, oe4) :: (X.pn ++ pins))))).run [] _ _ G D (L2H.suiteX_of S4) hyes) (fun f s6 hsp => ?_) (fun e6 s6 z => hpa (some (.ref a)) e6 s6 z)
  cases f with
  | ret u => exact let ⟨v6, σ6, H6, S6, r6, q6⟩ := hsp; ⟨_, _, _, L2H.unsuiteX S6 ok, r6, q6⟩
  | _ => exact let ⟨σ6, H6, S6, q6⟩ := hsp; ⟨_, _, L2H.unsuiteX S6 ok, q6⟩
end
end Pk
namespace Pk
open PySem PySem.Spec PyProof.Rows L2 Evl He
theorem takesTN {X : Cx} : TakesT X (fun _ _ _ _ => False) := fun _ _ x => by
  obtain ⟨_, _, _, _, _, _, _, _, _, _, _, _, _, _, _, _, z⟩ := x
  exact z.elim
theorem passT {X : Cx} : Passes (CXt X.prog X.w) X E0 := fun _ _ _ _ _ _ _ h => by
  obtain ⟨_, _, _, _, _, _, _, _, _, _, _, _, z⟩ := h
  exact z.elim
theorem call_isE3 {X : Cx} {a : Addr} {oe : Obj} {cls : Value} {d : Option Addr} {pn : List (Addr × Obj)} (hz : Zc cls d oe) (hf : ∃ vs, oe.data = .fields vs) : CallR (X.suite a ((a, oe) :: pn)) (.builtin "isinstance") (rIsE2 X.K cls d a) := by
  intro pins s σ H xs us Q I r h
  obtain ⟨D, rfl, rfl, C, h⟩ := h
  exact call_isE C hz hf pins s σ H xs us Q I r h
section
variable {X : Cx} {C : Addr} {bmB : List Value} {B newId initId : String}
/-- X('m'), to be raised from None -/
theorem pmk5_own {x m : Str} {j : Nat} {p p2 pos : Pos} (F : ExcBaseFacts B newId initId bmB) (q : PySem.W.excIn X.K C bmB newId = true) (gC : X.mg x = some (.ref C)) (kC : PySem.W.keepIn X.K (.ref C) = true) (r : L2.Raises X (.ref C)) (hg : Gl X x)
    (hdb : (x == ("__debug__" : Str)) = false := by decide) : L2H.PMk5 X (.Call (.Name x p) [.Constant (.str m) j p2] [] pos) (fun _ H Q => Q (.ref C) none H) := by
  intro pins s σ H Q I h
  have hargs : PA X [.Constant (.str m) j p2] (tCons (tC (.str m)) tNil) := pa_cons pe_str pa_nil
  refine wpAny_Call_Name_kw (ld_glob I hg gC (PySem.W.callWith_K (h₀ := X.base) I.ok.mod.kin kC (thn (hargs.run pos pins s σ H (fun ws G => ws = [V.str m] ∧ H = G) I ⟨rfl, rfl⟩) fun us s1 got => ?_)) hdb)
  obtain ⟨ws, G, J, rel, rfl, rfl⟩ := got
  refine ⟨J.kIn, ?_⟩
  cases rel with
  | @cons _ u _ _ ru rn =>
    cases rn
    show wpAny _ X.A (call (.ref C) [u]) _ _ _
    obtain ⟨bm, N, nm, qn, bs, hdct, sn, sub, ab, col, dd, k0, k1, k2, k3, k5, mN, hC, hN, hni, T⟩ := exc_obj J.kIn q
    exact wpAny_call_exc_subT F T hC hN hni (fun h' e made => L2H.mk_of5 J made r h (J.hok.gone made.new)) (by show 1 ≤ sizeLine; rw [sizeLine_eq]; omega)
end
end Pk
namespace Pk
open PySem PySem.Spec PyProof.Rows L2 Evl He
open SX (S)
/-! ### numbers in texts -/
def isDg (c : Nat) : Bool := decide (48 ≤ c) && decide (c ≤ 57)
def dgS : List Nat := [48, 49, 50, 51, 52, 53, 54, 55, 56, 57]
theorem lit_dg : (Str.ofString "0123456789") = S dgS := by rfl
theorem lit_0 : (Str.ofString "0") = S [48] := by rfl
theorem lit_co : (Str.ofString ":") = S [58] := by rfl
theorem lit_sp : (Str.ofString " ") = S [32] := by rfl
theorem mem_dg (c : Nat) : decide (c ∈ dgS) = isDg c := by
  unfold isDg
  rw [← Bool.decide_and, decide_eq_decide]
  simp only [dgS, List.mem_cons, List.not_mem_nil, or_false]
  omega
def dv (w : List Nat) : Nat := NumText.digitsVal w
def isNum (w : List Nat) : Bool := (decide (1 ≤ w.length) && decide (w.length ≤ 7)) && (w.all isDg && !(decide (w.head? = some 48) && !decide (w = [48])))
structure NumOk (w : List Nat) : Prop where
  l1 : 1 ≤ w.length
  l2 : w.length ≤ 7
  dg : w.all isDg = true
  hd : w.head? = some 48 → w = [48]
theorem isNum_iff {w : List Nat} : isNum w = true ↔ NumOk w := by
  unfold isNum
  rw [Bool.and_eq_true, Bool.and_eq_true, Bool.and_eq_true, decide_eq_true_eq, decide_eq_true_eq, Bool.not_eq_true', Bool.and_eq_false_iff, decide_eq_false_iff_not, Bool.not_eq_false', decide_eq_true_eq]
  constructor
  · rintro ⟨⟨h1, h2⟩, h3, h4⟩
    exact ⟨h1, h2, h3, fun h => h4.resolve_left fun n => n h⟩
  · rintro ⟨h1, h2, h3, h4⟩
    refine ⟨⟨h1, h2⟩, h3, ?_⟩
    by_cases h : w.head? = some 48
    · exact .inr (h4 h)
    · exact .inl h
theorem dv_snoc (pre : List Nat) (c : Nat) : dv (pre ++ [c]) = dv pre * 10 + (c - 48) := by
  unfold dv NumText.digitsVal
  rw [List.foldl_append]
  rfl
theorem dg_ge {c : Nat} (h : isDg c = true) : 48 ≤ c ∧ c ≤ 57 := by
  unfold isDg at h
  rw [Bool.and_eq_true, decide_eq_true_eq, decide_eq_true_eq] at h
  exact h
/-- digits with no 0 ahead are the number's own -/
theorem num_back : ∀ (n : Nat) (w : List Nat), w.length = n → w ≠ [] → w.all isDg = true → (w.head? = some 48 → w = [48]) → TL.numL (dv w) = w
  | 0, w, hl, hne, _, _ => absurd (List.length_eq_zero_iff.mp hl) hne
  | n + 1, w, hl, hne, hd, h0 => by
    have e : w = w.dropLast ++ [w.getLast hne] := (List.dropLast_concat_getLast hne).symm
    generalize hp : w.dropLast = pre at e
    generalize w.getLast hne = c at e
    subst e
    rw [List.length_append, List.length_singleton] at hl
    rw [List.all_append, Bool.and_eq_true] at hd
    obtain ⟨hd1, hd2⟩ := hd
    have hc := dg_ge (c := c) (by simpa using hd2)
    rw [dv_snoc]
    by_cases hpe : pre = []
    · subst hpe
      show TL.numL (0 * 10 + (c - 48)) = [c]
      rw [TL.numL_lt (by omega)]
      congr 1
      omega
    · have hh : (pre ++ [c]).head? = pre.head? := by
        cases pre with
        | nil => exact absurd rfl hpe
        | cons a r => rfl
      have hno : pre.head? ≠ some 48 := fun h => by
        have := h0 (hh.trans h)
        cases pre with
        | nil => exact hpe rfl
        | cons a r =>
          have hl2 := congrArg List.length this
          rw [List.length_append] at hl2
          simp at hl2
      have ih := num_back n pre (by omega) hpe hd1 fun h => absurd h hno
      have hpos : 1 ≤ dv pre := by
        cases hz : dv pre with
        | zero =>
          rw [hz] at ih
          rw [← ih, TL.numL_lt (by omega)] at hno
          exact absurd rfl hno
        | succ k => omega
      rw [TL.numL_step (by omega)]
      rw [show (dv pre * 10 + (c - 48)) / 10 = dv pre by omega, show 48 + (dv pre * 10 + (c - 48)) % 10 = c by omega, ih]
theorem NumOk.back {w : List Nat} (h : NumOk w) : TL.numL (dv w) = w := num_back _ w rfl (fun e => by have := h.l1; rw [e] at this; exact absurd this (by decide)) h.dg h.hd
theorem NumOk.int {w : List Nat} (h : NumOk w) : intText? (S w) = some ((dv w : Nat) : Int) := SX.int_S h.dg (fun e => by have := h.l1; rw [e] at this; exact absurd this (by decide)) (by have := h.l2; omega)
/-! ### cut at blanks -/
def splA : List Nat → List Nat → List (List Nat)
  | acc, [] => [acc]
  | acc, c :: r => if c = 32 then acc :: splA [] r else splA (acc ++ [c]) r
theorem pre_one (k c : Nat) (r : List Nat) : TL.pre [k] (c :: r) = decide (c = k) := by
  show ([c] == [k]) = _
  by_cases h : c = k
  · subst h; simp
  · simp [h]
theorem spl_A : ∀ (cs acc : List Nat), TL.spl [32] 0 acc cs = splA acc cs
  | [], acc => TL.spl_nil _ _ _
  | c :: r, acc => by
    show _ = if c = 32 then acc :: splA [] r else splA (acc ++ [c]) r
    by_cases h : c = 32
    · rw [if_pos h, TL.spl_hit (by rw [pre_one]; exact decide_eq_true h)]
      show acc :: TL.spl [32] 0 [] r = _
      rw [spl_A r []]
    · rw [if_neg h, TL.spl_miss (by rw [pre_one]; exact decide_eq_false h), spl_A r (acc ++ [c])]
theorem splA_ne : ∀ (cs acc : List Nat), splA acc cs ≠ []
  | [], acc => by simp [splA]
  | c :: r, acc => by
    unfold splA
    by_cases h : c = 32
    · rw [if_pos h]; simp
    · rw [if_neg h]; exact splA_ne r _
theorem joinL_cons {S1 p : List Nat} {q : List (List Nat)} (h : q ≠ []) : TL.joinL S1 (p :: q) = p ++ (S1 ++ TL.joinL S1 q) := by
  cases q with
  | nil => exact absurd rfl h
  | cons a r => rfl
theorem join_splA : ∀ (cs acc : List Nat), TL.joinL [32] (splA acc cs) = acc ++ cs
  | [], acc => by simp [splA, TL.joinL]
  | c :: r, acc => by
    unfold splA
    by_cases h : c = 32
    · rw [if_pos h, joinL_cons (splA_ne r []), join_splA r [], h]
      rfl
    · rw [if_neg h, join_splA r (acc ++ [c]), List.append_assoc]
      rfl
theorem splA_len : ∀ (cs acc : List Nat), (splA acc cs).length ≤ cs.length + 1
  | [], acc => by simp [splA]
  | c :: r, acc => by
    unfold splA
    by_cases h : c = 32
    · rw [if_pos h, List.length_cons, List.length_cons]
      have := splA_len r []
      omega
    · rw [if_neg h, List.length_cons]
      have := splA_len r (acc ++ [c])
      omega
theorem splA_each : ∀ (cs acc : List Nat), ∀ w ∈ splA acc cs, w.length ≤ acc.length + cs.length
  | [], acc, w, hw => by
    rw [List.mem_singleton.mp hw]
    omega
  | c :: r, acc, w, hw => by
    unfold splA at hw
    by_cases h : c = 32
    · rw [if_pos h] at hw
      rcases List.mem_cons.mp hw with rfl | hw
      · omega
      · have := splA_each r [] w hw
        rw [List.length_cons]
        simp at this
        omega
    · rw [if_neg h] at hw
      have := splA_each r (acc ++ [c]) w hw
      rw [List.length_append, List.length_singleton] at this
      rw [List.length_cons]
      omega
def words (cs : List Nat) : List (List Nat) := splA [] cs
theorem words_ne (cs : List Nat) : words cs ≠ [] := splA_ne cs []
theorem words_join (cs : List Nat) : TL.joinL [32] (words cs) = cs := join_splA cs []
theorem words_len (cs : List Nat) : (words cs).length ≤ cs.length + 1 := splA_len cs []
theorem words_each {cs w : List Nat} (h : w ∈ words cs) : w.length ≤ cs.length := by
  have := splA_each cs [] w h
  simp at this
  omega
theorem split_words {cs : List Nat} : Txt.split (S cs) (S [32]) = (words cs).map S := by
  rw [SX.split_S (by decide) (by decide), spl_A]
  rfl
/-! ### the reading of a text -/
def w0 (cs : List Nat) : List Nat := (words cs).headD []
def wr (cs : List Nat) : List (List Nat) := (words cs).tail
theorem words_eq (cs : List Nat) : words cs = w0 cs :: wr cs := by
  unfold w0 wr
  cases e : words cs with
  | nil => exact absurd e (words_ne cs)
  | cons a r => rfl
def placesOf (cs : List Nat) : Nat := dv (w0 cs).dropLast
structure TextOk (cs : List Nat) : Prop where
  co : (w0 cs).getLast? = some 58
  n0 : NumOk (w0 cs).dropLast
  nr : ∀ w ∈ wr cs, NumOk w
  p1 : 1 ≤ placesOf cs
  p2 : placesOf cs ≤ 1000000
  lt : ∀ w ∈ wr cs, dv w < placesOf cs
def wishesOf (cs : List Nat) : List Nat := (wr cs).map dv
theorem TextOk.back {cs : List Nat} (h : TextOk cs) : TL.joinL [32] ((TL.numL (placesOf cs) ++ [58]) :: (wishesOf cs).map TL.numL) = cs := by
  have e1 : TL.numL (placesOf cs) ++ [58] = w0 cs := by
    unfold placesOf
    rw [h.n0.back]
    have hc := h.co
    generalize w0 cs = w at hc
    obtain ⟨pre, rfl⟩ := List.getLast?_eq_some_iff.mp hc
    rw [List.dropLast_concat]
  have e2 : (wishesOf cs).map TL.numL = wr cs := by
    unfold wishesOf
    rw [List.map_map]
    conv => rhs; rw [← List.map_id (wr cs)]
    exact List.map_congr_left fun w hw => (h.nr w hw).back
  rw [e1, e2, ← words_eq, words_join]
/-! ### strip, startswith, endswith -/
theorem tw_self {p : Nat → Bool} : ∀ {w : List Nat}, (∀ c ∈ w, p c = true) → w.takeWhile p = w
  | [], _ => rfl
  | c :: r, h => by rw [List.takeWhile_cons, if_pos (h c List.mem_cons_self), tw_self fun d hd => h d (List.mem_cons_of_mem _ hd)]
theorem tw_all {p : Nat → Bool} {w : List Nat} (h : w.dropWhile p = []) : w.all p = true := by
  have e := List.takeWhile_append_dropWhile (p := p) (l := w)
  rw [h, List.append_nil] at e
  rw [← e, List.all_eq_true]
  intro c hc
  have := List.all_takeWhile (p := p) (l := w)
  exact List.all_eq_true.mp this c hc
theorem strip_none {w : List Nat} (h : w.all isDg = true) : Txt.stripChars (S w) (S dgS) = S [] := by
  have hc : ∀ c, (S dgS).cps.contains c = isDg c := fun c => by
    rw [← mem_dg, Array.contains_eq_mem]
    simp [S]
  have e1 : w.takeWhile (S dgS).cps.contains = w := tw_self fun c hm => (hc c).trans (List.all_eq_true.mp h c hm)
  unfold Txt.stripChars
  rw [PyProof.Rows.stripBy_eq]
  have e2 : stripLo (S dgS).cps.contains true (S w) = w.length := by
    show (w.takeWhile (S dgS).cps.contains).length = _
    rw [e1]
  rw [e2]
  have e3 : stripHi (S dgS).cps.contains true (S w) w.length = w.length := by
    show (S w).length - ((w.drop w.length).reverse.takeWhile (S dgS).cps.contains).length = _
    rw [List.drop_length, SX.S_len]
    rfl
  rw [e3]
  refine TL.ext_tl ?_
  show (w.toArray.extract w.length w.length).toList = []
  simp
theorem strip_some {w : List Nat} (h : w.all isDg = false) : Txt.stripChars (S w) (S dgS) ≠ S [] := fun hz => by
  have hc : ∀ c, (S dgS).cps.contains c = isDg c := fun c => by
    rw [← mem_dg, Array.contains_eq_mem]
    simp [S]
  have hfun : (S dgS).cps.contains = isDg := funext hc
  unfold Txt.stripChars at hz
  rw [PyProof.Rows.stripBy_eq, hfun] at hz
  have hlen := congrArg Str.length hz
  have e2 : stripLo isDg true (S w) = (w.takeWhile isDg).length := rfl
  rw [e2] at hlen
  have e3 : stripHi isDg true (S w) (w.takeWhile isDg).length = w.length - ((w.drop (w.takeWhile isDg).length).reverse.takeWhile isDg).length := by
    show (S w).length - _ = _
    rw [SX.S_len]
  rw [e3] at hlen
  have hd : w.drop (w.takeWhile isDg).length = w.dropWhile isDg := by
    generalize hw : w.takeWhile isDg = a
    generalize hw2 : w.dropWhile isDg = b
    have : w = a ++ b := by rw [← hw, ← hw2, List.takeWhile_append_dropWhile]
    rw [this, List.drop_left]
  rw [hd] at hlen
  cases hb : w.dropWhile isDg with
  | nil =>
    rw [tw_all hb] at h
    cases h
  | cons c r =>
    have hcn : isDg c = false := by
      have := List.head?_dropWhile_not isDg w
      rw [hb] at this
      simpa using this
    rw [hb] at hlen
    have hk : ((c :: r).reverse.takeWhile isDg).length ≤ r.length := by
      rw [List.reverse_cons]
      have : ((r.reverse ++ [c]).takeWhile isDg).length ≤ r.reverse.length := by
        rw [List.takeWhile_append]
        split
        · rw [List.length_append]
          have : ([c].takeWhile isDg) = [] := by rw [List.takeWhile_cons, hcn]; rfl
          rw [this]
          simp
        · exact (List.takeWhile_sublist _).length_le
      rw [List.length_reverse] at this
      exact this
    have hwl : w.length = (w.takeWhile isDg).length + (r.length + 1) := by
      have h2 := congrArg List.length (List.takeWhile_append_dropWhile (p := isDg) (l := w))
      rw [hb, List.length_append, List.length_cons] at h2
      omega
    have hl0 : (Builtin.Str.strSub (S w) (w.takeWhile isDg).length (w.length - ((c :: r).reverse.takeWhile isDg).length)).length = (w.length - ((c :: r).reverse.takeWhile isDg).length) - (w.takeWhile isDg).length := by
      show (w.toArray.extract _ _).size = _
      rw [Array.size_extract, List.size_toArray]
      omega
    rw [hl0] at hlen
    have : (S ([] : List Nat)).length = 0 := rfl
    rw [this] at hlen
    omega
theorem starts_one (w : List Nat) (k : Nat) : Txt.startswith (S w) (S [k]) = decide (w.head? = some k) := by
  cases w with
  | nil =>
    unfold Txt.startswith
    rw [SX.S_len, SX.S_len]
    simp
  | cons c r =>
    show (decide (0 + 1 ≤ (S (c :: r)).length) && ((c :: r).toArray.extract 0 (0 + 1) == #[k])) = _
    rw [SX.S_len, decide_eq_true (by rw [List.length_cons]; omega), Bool.true_and]
    have e : (c :: r).toArray.extract 0 (0 + 1) = #[c] := by simp
    rw [e]
    by_cases h : c = k
    · subst h; simp
    · simp [h]
theorem ends_one (w : List Nat) (k : Nat) : Txt.endswith (S w) (S [k]) = decide (w.getLast? = some k) := by
  rcases List.eq_nil_or_concat w with rfl | ⟨pre, c, rfl⟩
  · unfold Txt.endswith
    rw [SX.S_len, SX.S_len]
    simp
  · rw [List.concat_eq_append]
    show (decide (0 + 1 ≤ (S (pre ++ [c])).length) && ((pre ++ [c]).toArray.extract ((S (pre ++ [c])).length - 1) ((S (pre ++ [c])).length - 1 + 1) == #[k])) = _
    rw [SX.S_len, List.length_append, List.length_singleton, decide_eq_true (by omega), Bool.true_and, Nat.add_sub_cancel]
    have e : (pre ++ [c]).toArray.extract pre.length (pre.length + 1) = #[c] := by
      apply Array.ext'
      simp
    rw [e, List.getLast?_concat]
    by_cases h : c = k
    · subst h; simp
    · simp [h]
end Pk
namespace Pk
open PySem PySem.Spec PyProof.Rows L2 Evl He
open SX (S)
def vt (ws : List (List Nat)) : List V := ws.map fun w => V.str (S w)
section
variable {K : PySem.W.Frag} {σ : L2.St} {H : Hp} {te ta tb tl : TE} {v y : V} {D : Ends} {tz : TS}
/-! ### methods of texts -/
theorem ev_m1 {r : V → List V → Hp → VK → Prop} {z : Str} (ha : Ev ta σ H (.str z)) (hb : Ev tb σ H y) (hr : ∀ H1 (Q : VK), Q v H1 → r (.str z) [y] H1 Q) : Ev (tM1 r ta tb) σ H v := fun H1 e Q q =>
  ha H1 e _ fun H2 e2 => ⟨⟨_, rfl⟩, hb H2 (e.trans e2) _ fun H3 e3 => hr H3 Q (q H3 (e2.trans e3))⟩
theorem ev_lenT {cs : List Nat} (h : Ev ta σ H (.str (S cs))) (hz : cs.length ≤ 100000) : Ev (tCB rLenT (tCons ta tNil)) σ H (nat cs.length) := ev_cb (ea_cons h ea_nil) fun H1 e Q q => ⟨S cs, rfl, by rw [SX.S_len]; exact sz_of hz, by rw [SX.S_len]; exact q H1 (Ex.refl H1)⟩
theorem ev_stripD {w : List Nat} (ha : Ev ta σ H (.str (S w))) (hb : Ev tb σ H (.str (S dgS))) (hz : w.length ≤ 100000) : Ev (tM1 (fun x xs H Q => ∃ a b, x = .str a ∧ xs = [.str b] ∧ a.length ≤ sizeLine ∧ Q (.str (Txt.stripChars a b)) H) ta tb) σ H (.str (Txt.stripChars (S w) (S dgS))) :=
  ev_m1 ha hb fun H1 Q q => ⟨_, _, rfl, rfl, by rw [SX.S_len]; exact sz_of hz, q⟩
/-- word.strip(FIGURES) != '' -/
theorem ev_notDg {w : List Nat} (ha : Ev ta σ H (.str (S w))) (hb : Ev tb σ H (.str (S dgS))) (hc : Ev te σ H (.str (S []))) (hz : w.length ≤ 100000) : Ev (tOp rNe (tM1 (fun x xs H Q => ∃ a b, x = .str a ∧ xs = [.str b] ∧ a.length ≤ sizeLine ∧ Q (.str (Txt.stripChars a b)) H) ta tb) te) σ H (.bl (!(w.all isDg))) := by
  have k := ev_op (r := rNe) (ev_stripD ha hb hz) hc (rv_ne rfl)
  refine ev_is k ?_
  congr 2
  cases h : w.all isDg with
  | true => rw [strip_none h]; exact decide_eq_true rfl
  | false => exact decide_eq_false fun e => strip_some h (V.str.inj e)
theorem ev_starts {w : List Nat} {k : Nat} (ha : Ev ta σ H (.str (S w))) (hb : Ev tb σ H (.str (S [k]))) : Ev (tM1 (fun x xs H Q => ∃ a b, x = .str a ∧ xs = [.str b] ∧ Q (.bl (Txt.startswith a b)) H) ta tb) σ H (.bl (decide (w.head? = some k))) :=
  ev_m1 ha hb fun H1 Q q => ⟨_, _, rfl, rfl, by rw [starts_one]; exact q⟩
theorem ev_ends {w : List Nat} {k : Nat} (ha : Ev ta σ H (.str (S w))) (hb : Ev tb σ H (.str (S [k]))) : Ev (tM1 (fun x xs H Q => ∃ a b, x = .str a ∧ xs = [.str b] ∧ Q (.bl (Txt.endswith a b)) H) ta tb) σ H (.bl (decide (w.getLast? = some k))) :=
  ev_m1 ha hb fun H1 Q q => ⟨_, _, rfl, rfl, by rw [ends_one]; exact q⟩
theorem el_split {cs : List Nat} (ha : Ev ta σ H (.str (S cs))) (hb : Ev tb σ H (.str (S [32]))) (hz : cs.length ≤ 90000) : EvL (tM1 (fun x xs H Q => ∃ a b, x = .str a ∧ xs = [.str b] ∧ (b.length == 0) = false ∧ a.length + 2 ≤ sizeLine ∧ rNewStrs (Txt.split a b) H Q) ta tb) σ H (vt (words cs)) := fun H1 e Q q =>
  ha H1 e _ fun H2 e2 => ⟨⟨_, rfl⟩, hb H2 (e.trans e2) _ fun H3 e3 => ⟨_, _, rfl, rfl, rfl, by rw [SX.S_len]; exact sz_of (by omega), fun p hp => by
    rw [split_words, List.map_map]
    exact q p _ (fresh_back (e2.trans e3) hp) ((e2.trans e3).trans (Ex.new hp)) upd_same⟩⟩
theorem ev_slT {tl th : TO} {cs : List Nat} {lo hi : Option Int} (h : Ev te σ H (.str (S cs))) (h1 : EvO tl σ H lo) (h2 : EvO th σ H hi) (hz : cs.length ≤ 100000) : Ev (tSl rSlS te tl th) σ H (.str (Txt.slice (S cs) lo hi)) := fun H1 e Q q =>
  h H1 e _ fun H2 e2 => h1 H2 (e.trans e2) _ fun H3 e3 => h2 H3 ((e.trans e2).trans e3) _ fun H4 e4 => ⟨S cs, rfl, by rw [SX.S_len]; exact sz_of hz, by rw [show cutS (S cs) lo hi = Txt.slice (S cs) lo hi from C8.cutS_slice _ _ _]; exact q H4 ((e2.trans e3).trans e4)⟩
theorem but_last (w : List Nat) : Txt.slice (S w) none (some (-1)) = S w.dropLast := by
  by_cases h : w = []
  · subst h; rfl
  · rw [SX.slice_butlast h, List.dropLast_eq_take]
theorem the_last (w : List Nat) : Txt.slice (S w) (some (-1)) none = S (w.getLast?.toList) := by
  rcases List.eq_nil_or_concat w with rfl | ⟨pre, c, rfl⟩
  · rfl
  · rw [List.concat_eq_append, SX.last_snoc, List.getLast?_concat]
    rfl
theorem eo_m1 {t : TE} (h : Ev t σ H (.int 1)) : EvO (tPart (tUn (rU fun i => .int (-i)) t)) σ H (some (-1)) := eo_some (ev_un h ru_neg)
theorem rc_int {w : List Nat} (h : NumOk w) : RC (fun xs H Q => ∃ a n, xs = [.str a] ∧ PySem.intText? a = some n ∧ a.length ≤ 640 ∧ Q (.int n) H) [.str (S w)] H (nat (dv w)) := fun H1 e Q q => ⟨_, _, rfl, h.int, by rw [SX.S_len]; have := h.l2; omega, q H1 (Ex.refl H1)⟩
theorem log_small {n : Nat} (h : n ≤ 10000000) : ((n : Int)).natAbs.log2 < 1920 := by
  have e : ((n : Int)).natAbs = n := Int.natAbs_natCast n
  rw [e]
  by_cases h0 : n = 0
  · subst h0; decide
  · refine (Nat.log2_lt h0).mpr (Nat.lt_of_le_of_lt h ?_)
    exact Nat.lt_of_lt_of_le (by decide : 10000000 < 2 ^ 24) (Nat.pow_le_pow_right (by decide) (by decide))
theorem rc_strN {n : Nat} (h : n ≤ 10000000) : RC (fun xs H Q => ∃ i, xs = [.int i] ∧ i.natAbs.log2 < 1920 ∧ Q (.str (toString i)) H) [nat n] H (.str (S (TL.numL n))) := fun H1 e Q q => ⟨(n : Int), rfl, log_small h, by
  have e1 := SX.num_S n
  have e2 : (V.str (Str.ofString (toString ((n : Nat) : Int)))) = .str (S (TL.numL n)) := by rw [e1]
  show Q (V.str (Str.ofString (toString ((n : Nat) : Int)))) H1
  rw [e2]
  exact q H1 (Ex.refl H1)⟩
/-- sign in FIGURES -/
theorem ev_inDg {c : Nat} (ha : Ev ta σ H (.str (S [c]))) (hb : Ev tb σ H (.str (S dgS))) : Ev (tOp (fun x y H Q => ∃ (c : Nat) (z : Str), x = .str ⟨#[c]⟩ ∧ y = .str z ∧ Q (.bl (decide (c ∈ z.cps.toList))) H) ta tb) σ H (.bl (isDg c)) := by
  refine ev_op ha hb fun H1 e Q q => ⟨c, S dgS, rfl, rfl, ?_⟩
  have e1 : decide (c ∈ (S dgS).cps.toList) = isDg c := mem_dg c
  rw [e1]
  exact q H1 (Ex.refl H1)
theorem ev_isNone {x : V} (ha : Ev ta σ H x) (hb : Ev tb σ H .non) : Ev (tOp (fun x y H Q => y = .non ∧ Q (.bl (decide (x = .non))) H) ta tb) σ H (.bl (decide (x = .non))) := ev_op ha hb fun H1 e Q q => ⟨rfl, q H1 (Ex.refl H1)⟩
theorem ev_ixS0 {w : List Nat} {c : Nat} (ha : Ev ta σ H (.str (S w))) (hb : Ev tb σ H (nat 0)) (h : w[0]? = some c) (hz : w.length ≤ 100000) : Ev (tOp rIxS ta tb) σ H (.str (S [c])) := ev_op ha hb fun H1 e Q q => ⟨S w, ((0 : Nat) : Int), c, rfl, rfl, by rw [SX.S_len]; exact sz_of hz, atI_nat (by exact h), q H1 (Ex.refl H1)⟩
/-! ### comprehensions over a text, and such as may raise -/
theorem el_lcS {cs : List Nat} {ts : TE} {j : Nat} {vs : List Nat} (g : Nat → V) (h : Ev ts σ H (.str (S cs))) (hz : cs.length ≤ 40000) (hw : ∀ x, wipe ((wipe σ vs).set j (some x)) vs = wipe σ vs)
    (he : ∀ (c : Nat) H1, Ex H H1 → c ∈ cs → Ev te ((wipe σ vs).set j (some (.str (S [c])))) H1 (g c)) : EvL (tLc (iStr ts) (gName j) tYes te vs) σ H (cs.map g) := fun H0 e Q q => h H0 e _ fun H1 e1 => ⟨S cs, rfl, fun Dl hD =>
  have sz : (S cs).cps.size = cs.length := by simp [S]
  ⟨fun i m H' => m = cs.length - i ∧ i ≤ cs.length ∧ Ex H1 H' ∧ H' Dl = some (.lst ((cs.take i).map g)), ⟨cs.length, by simp, Nat.zero_le _, Ex.new hD, upd_same⟩, by
    rintro i m H' ⟨rfl, hi, p2, p3⟩
    by_cases hlt : i < cs.length
    · refine .inr ⟨by show i < (S cs).cps.size; rw [sz]; exact hlt, fun G => Ex H1 G ∧ G Dl = some (.lst ((cs.take (i + 1)).map g)), fun G hG => ⟨cs.length - (i + 1), by omega, rfl, hlt, hG⟩, fun x G hx => ?_⟩
      obtain ⟨rfl, c, hc, rfl⟩ := hx
      have hc' : cs[i]? = some c := by simpa [S] using hc
      refine ⟨hw _, et_yes _ p2 _ fun H3 e3 => ?_⟩
      refine he c H3 ((e.trans e1).trans (p2.trans e3)) (List.mem_of_getElem? hc') H3 (Ex.refl _) _ fun H4 e4 => ⟨(cs.take i).map g, e4 Dl _ (e3 Dl _ p3), sz_lt (by rw [List.length_map, List.length_take]; omega), Ex.mut ((p2.trans e3).trans e4) hD, ?_⟩
      rw [upd_same, List.take_add_one, hc', List.map_append]
      rfl
    · have hi2 : i = cs.length := by omega
      subst hi2
      refine .inl ⟨by show (S cs).cps.size ≤ cs.length; rw [sz]; exact Nat.le_refl _, q Dl H' (fresh_back e1 hD) (e1.trans p2) ?_⟩
      rw [p3, List.take_length]⟩⟩
theorem lcX {xs : List V} {j : Nat} {vs : List Nat} {Q : VK} (good : Nat → Prop) (v : Nat → V) (h : EvL tl σ H xs) (hz : xs.length ≤ 40000) (hw : ∀ x, wipe ((wipe σ vs).set j (some x)) vs = wipe σ vs)
    (he : ∀ (i : Nat) (x : V) H1 (Q1 : VK), Ex H H1 → xs[i]? = some x → (good i → ∀ H2, Ex H1 H2 → Q1 (v i) H2) → te ((wipe σ vs).set j (some x)) H1 Q1)
    (q : (∀ i, i < xs.length → good i) → ∀ p H2, H p = none → Ex H H2 → H2 p = some (.lst ((List.range xs.length).map v)) → Q (.ref p) H2) : tLc (iList K tl) (gName j) tYes te vs σ H Q := h H (Ex.refl H) _ fun a H1 ha e1 hx => ⟨a, rfl, ⟨xs, sq_of hx⟩, fun Dl hD =>
  ⟨fun i m H' => m = xs.length - i ∧ i ≤ xs.length ∧ Ex H1 H' ∧ H' Dl = some (.lst ((List.range i).map v)) ∧ ∀ k, k < i → good k, ⟨xs.length, by simp, Nat.zero_le _, Ex.new hD, upd_same, fun k hk => absurd hk (Nat.not_lt_zero k)⟩, by
    rintro i m H' ⟨rfl, hi, p2, p3, p4⟩
    have hS : SqL K H' a xs := sq_of (p2 a _ hx)
    by_cases hlt : i < xs.length
    · refine .inr ⟨⟨xs, xs[i], hS, List.getElem?_eq_getElem hlt⟩, fun G => Ex H1 G ∧ G Dl = some (.lst ((List.range (i + 1)).map v)) ∧ ∀ k, k < i + 1 → good k, fun G hG => ⟨xs.length - (i + 1), by omega, rfl, hlt, hG⟩, fun x G hG => ?_⟩
      obtain ⟨rfl, hy⟩ := hG
      have hxi := hy xs hS
      refine ⟨hw _, et_yes _ p2 _ fun H3 e3 => ?_⟩
      refine he i x H3 _ (e1.trans (p2.trans e3)) hxi fun hg H4 e4 => ⟨(List.range i).map v, e4 Dl _ (e3 Dl _ p3), sz_lt (by rw [List.length_map, List.length_range]; omega), Ex.mut ((p2.trans e3).trans e4) hD, ?_, fun k hk => ?_⟩
      · rw [upd_same, List.range_succ, List.map_append]
        rfl
      · by_cases hki : k = i
        · rw [hki]; exact hg
        · exact p4 k (by omega)
    · have hi2 : i = xs.length := by omega
      subst hi2
      exact .inl ⟨⟨xs, hS, Nat.le_refl _⟩, q p4 Dl H' (fresh_back e1 hD) (e1.trans p2) p3⟩⟩⟩
end
end Pk
namespace Pk
open PySem PySem.Spec PyProof.Rows L2 Evl He
def topS (i : Nat) : Stmt := PySem.Challenge.pw_parkrow_k11_texts.main.body.getD i (.Pass ⟨0, 0, 0, 0⟩)
abbrev s_is_number : Stmt := topS 10
abbrev N_is_number : List Str := ["thing", "least", "most"]
abbrev P_is_number : List Str := ["thing", "least", "most"]
theorem sc_is_number : FnScope N_is_number P_is_number (defScope s_is_number) := ⟨rfl, rfl, rfl, by decide +kernel, rfl, by decide +kernel, by decide +kernel⟩
abbrev s_asked_wishes : Stmt := topS 11
abbrev N_asked_wishes : List Str := ["places", "wishes", "wish"]
abbrev P_asked_wishes : List Str := ["places", "wishes"]
theorem sc_asked_wishes : FnScope N_asked_wishes P_asked_wishes (defScope s_asked_wishes) := ⟨rfl, rfl, rfl, by decide +kernel, rfl, by decide +kernel, by decide +kernel⟩
abbrev s_written : Stmt := topS 15
abbrev N_written : List Str := ["places", "wishes", "wish"]
abbrev P_written : List Str := ["places", "wishes"]
theorem sc_written : FnScope N_written P_written (defScope s_written) := ⟨rfl, rfl, rfl, by decide +kernel, rfl, by decide +kernel, by decide +kernel⟩
abbrev s_number_in : Stmt := topS 16
abbrev N_number_in : List Str := ["word"]
abbrev P_number_in : List Str := ["word"]
theorem sc_number_in : FnScope N_number_in P_number_in (defScope s_number_in) := ⟨rfl, rfl, rfl, by decide +kernel, rfl, by decide +kernel, by decide +kernel⟩
abbrev s_read : Stmt := topS 17
abbrev N_read : List Str := ["text", "words", "places", "wishes", "word"]
abbrev P_read : List Str := ["text"]
theorem sc_read : FnScope N_read P_read (defScope s_read) := ⟨rfl, rfl, rfl, by decide +kernel, rfl, by decide +kernel, by decide +kernel⟩
abbrev s_law_number : Stmt := topS 19
abbrev N_law_number : List Str := ["word", "sign"]
abbrev P_law_number : List Str := ["word"]
theorem sc_law_number : FnScope N_law_number P_law_number (defScope s_law_number) := ⟨rfl, rfl, rfl, by decide +kernel, rfl, by decide +kernel, by decide +kernel⟩
abbrev s_law_in : Stmt := topS 20
abbrev N_law_in : List Str := ["text", "words", "places", "wishes", "word", "wish"]
abbrev P_law_in : List Str := ["text"]
theorem sc_law_in : FnScope N_law_in P_law_in (defScope s_law_in) := ⟨rfl, rfl, rfl, by decide +kernel, rfl, by decide +kernel, by decide +kernel⟩
abbrev s_law_asked : Stmt := topS 21
abbrev N_law_asked : List Str := ["text", "error", "others"]
abbrev P_law_asked : List Str := ["text"]
theorem sc_law_asked : FnScope N_law_asked P_law_asked (defScope s_law_asked) := ⟨rfl, rfl, rfl, by decide +kernel, rfl, by decide +kernel, by decide +kernel⟩
abbrev s_law_right : Stmt := topS 22
abbrev N_law_right : List Str := ["text", "due", "came", "found"]
abbrev P_law_right : List Str := ["text"]
theorem sc_law_right : FnScope N_law_right P_law_right (defScope s_law_right) := ⟨rfl, rfl, rfl, by decide +kernel, rfl, by decide +kernel, by decide +kernel⟩
abbrev s_law : Stmt := topS 23
abbrev N_law : List Str := ["script", "mixed", "places", "wishes", "handed", "text", "at", "sign", "texts", "cell", "wish", "some"]
abbrev P_law : List Str := ["script"]
theorem sc_law : FnScope N_law P_law (defScope s_law) := ⟨rfl, rfl, rfl, by decide +kernel, rfl, by decide +kernel, by decide +kernel⟩
def der_is_number {P : Program} {w : World} {K : PySem.W.Frag} {mg : Str → Option Value} {base : Heap} (B : Bi mg) {f : Addr} {cdv : Value} {A : Around} {outer : List Env} {s : Shared} {H : Hp} {E : XK}
    (hr : Room 0 (A.deeper (envOfC "is_number" (defScope s_is_number) s.heap.objs.size f cdv))) :
    {t : TS // PSs (cxOf CX0 P w K mg base N_is_number "is_number" (defScope s_is_number) f cdv A outer s H E).nox (defBody s_is_number) t} := ⟨_, (pss_one (ps_ret (pe_and (pe_callB (id := "isinstance") (r := rIsi K) call_isi (by rfl) B.isinstance (by decide +kernel) (pa_cons (pv 0) (pa_cons (pe_bltn (v := .ty "int") (by rfl) B.int (by decide +kernel) rfl) pa_nil))) (pe_and (pe_not (pe_callB (id := "isinstance") (r := rIsi K) call_isi (by rfl) B.isinstance (by decide +kernel) (pa_cons (pv 0) (pa_cons (pe_bltn (v := .ty "bool") (by rfl) B.bool (by decide +kernel) rfl) pa_nil)))) (pe_one (pe_chain op_le op_le (pv 1) (pv 0) (pv 2)))))))⟩

def der_asked_wishes {P : Program} {w : World} {K : PySem.W.Frag} {mg : Str → Option Value} {base : Heap} (B : Bi mg) {fd_is_number : FuncData} {sp_is_number : Sp} (C_is_number : Cal P w K mg base CX0 1 "is_number" P_is_number sp_is_number fd_is_number) {tk_PLACES : Tok} (gc_PLACES : mg "PLACES" = some (.int 1000000 tk_PLACES)) (X_BadWishes : ExcF K mg "BadWishes") {f : Addr} {cdv : Value} {A : Around} {outer : List Env} {s : Shared} {H : Hp} {E : XK}
    (hr : Room 1 (A.deeper (envOfC "asked_wishes" (defScope s_asked_wishes) s.heap.objs.size f cdv))) :
    {t : TS // PSs (cxOf (L2N.CX P w) P w K mg base N_asked_wishes "asked_wishes" (defScope s_asked_wishes) f cdv A outer s H E) (defBody s_asked_wishes) t} := ⟨_, (pss_cons (ps_if (pt_not (pt_val (pe_call C_is_number.ok (hr.mono (by decide)) (by rfl) C_is_number.gl C_is_number.kp C_is_number.bd .nil pass0 (pa_cons (pv 0) (pa_cons pe_int (pa_cons (pe_glob (v := .int 1000000) rfl gc_PLACES ⟨_, rfl⟩) pa_nil))))))
 (pss_one (L2N.ps_raise rfl (L2N.takes_of rfl rfl rfl rfl) (L2N.pmk_own PySem.F.excBase_ValueError X_BadWishes.ex X_BadWishes.gl X_BadWishes.kp (raises_own X_BadWishes.be X_BadWishes.ty) rfl)))
 pss_nil)
 (pss_one (ps_if (PW.pt (pw_or (pt_not (pt_val (pe_callB (id := "isinstance") (r := rIsi K) call_isi (by rfl) B.isinstance (by decide +kernel) (pa_cons (pv 1) (pa_cons (pe_bltn (v := .ty "list") (by rfl) B.list (by decide +kernel) rfl) pa_nil))))) (pw_or1 (pt_not (pt_val (pe_callB (id := "all") (r := rAll K) (cr_all rfl) (by rfl) B.all (by decide +kernel) (pa_cons (pe_lc (own := [("wish", 2)]) (g := (gName 2)) (tt := tYes) rfl sc_asked_wishes.nd (pi_list (pv 1)) (blkOk_by (own := [("wish", 2)]) (N := N_asked_wishes) (sc := defScope s_asked_wishes) (by decide +kernel)) (fun _ _ _ _ _ => (pg_name (i := 2) sc_asked_wishes.nd rfl (Or.inl rfl) (Or.inr rfl))) (fun _ _ _ _ _ => pts_nil) (fun _ _ _ _ _ => (pe_call C_is_number.ok (hr.mono (by decide)) (by rfl) C_is_number.gl C_is_number.kp C_is_number.bd .nil pass0 (pa_cons (pv 2) (pa_cons pe_int (pa_cons (pe_op op_sub (pv 0) pe_int) pa_nil)))))) pa_nil)))))))
 (pss_one (L2N.ps_raise rfl (L2N.takes_of rfl rfl rfl rfl) (L2N.pmk_own PySem.F.excBase_ValueError X_BadWishes.ex X_BadWishes.gl X_BadWishes.kp (raises_own X_BadWishes.be X_BadWishes.ty) rfl)))
 pss_nil)))⟩

def der_written {P : Program} {w : World} {K : PySem.W.Frag} {mg : Str → Option Value} {base : Heap} (B : Bi mg) {fd_asked_wishes : FuncData} {sp_asked_wishes : Sp} (C_asked_wishes : Cal P w K mg base (L2N.CX P w) 2 "asked_wishes" P_asked_wishes sp_asked_wishes fd_asked_wishes) {f : Addr} {cdv : Value} {A : Around} {outer : List Env} {s : Shared} {H : Hp} {E : XK}
    (hr : Room 2 (A.deeper (envOfC "written" (defScope s_written) s.heap.objs.size f cdv))) :
    {t : TS // PSs (cxOf (L2N.CX P w) P w K mg base N_written "written" (defScope s_written) f cdv A outer s H E) (defBody s_written) t} := ⟨_, (pss_cons (ps_expr (pe_call C_asked_wishes.ok (hr.mono (by decide)) (by rfl) C_asked_wishes.gl C_asked_wishes.kp C_asked_wishes.bd .nil (L2N.passes_call (W := fun cls d _ H => E cls d H) (L2N.takes_of rfl rfl rfl rfl) (fun _ _ _ _ h => h)) (pa_cons (pv 0) (pa_cons (pv 1) pa_nil))))
 (pss_one (ps_ret (pe_join pe_str (pe_op op_cat (pe_lst (pa_cons (pe_op op_add_str (pe_callTy (T := "str") call_str_int (by rfl) B.str (by decide +kernel) (pa_cons (pv 0) pa_nil)) pe_str) pa_nil)) (pe_lc (own := [("wish", 2)]) (g := (gName 2)) (tt := tYes) rfl sc_written.nd (pi_list (pv 1)) (blkOk_by (own := [("wish", 2)]) (N := N_written) (sc := defScope s_written) (by decide +kernel)) (fun _ _ _ _ _ => (pg_name (i := 2) sc_written.nd rfl (Or.inl rfl) (Or.inr rfl))) (fun _ _ _ _ _ => pts_nil) (fun _ _ _ _ _ => (pe_callTy (T := "str") call_str_int (by rfl) B.str (by decide +kernel) (pa_cons (pv 2) pa_nil)))))))))⟩

def der_number_in {P : Program} {w : World} {K : PySem.W.Frag} {mg : Str → Option Value} {base : Heap} (B : Bi mg) {tk_FIGURES : Tok} (gc_FIGURES : mg "FIGURES" = some (.str "0123456789" tk_FIGURES)) {tk_LONGEST : Tok} (gc_LONGEST : mg "LONGEST" = some (.int 7 tk_LONGEST)) (X_BadText : ExcF K mg "BadText") {f : Addr} {cdv : Value} {A : Around} {outer : List Env} {s : Shared} {H : Hp} {E : XK}
    (hr : Room 0 (A.deeper (envOfC "number_in" (defScope s_number_in) s.heap.objs.size f cdv))) :
    {t : TS // PSs (cxOf (L2N.CX P w) P w K mg base N_number_in "number_in" (defScope s_number_in) f cdv A outer s H E) (defBody s_number_in) t} := ⟨_, (pss_cons (ps_if (PW.pt (pw_or (pt_not (pt_chain op_le op_le pe_int (pe_callB (id := "len") (r := rLenT) call_len_str (by rfl) B.len (by decide +kernel) (pa_cons (pv 0) pa_nil)) (pe_glob (v := .int 7) rfl gc_LONGEST ⟨_, rfl⟩))) (pw_or (pt_cmpR op_ne (pe_m1 PySem.F.slot_str_strip PySem.F.type_str_strip mt_stripChars (pv 0) (pe_glob (v := .str "0123456789") rfl gc_FIGURES ⟨_, rfl⟩)) pe_str (nomark _)) (pw_or1 (PW.pt (pw_and (pt_val (pe_m1 PySem.F.slot_str_startswith PySem.F.type_str_startswith mt_startswith (pv 0) pe_str)) (pw_and1 (pt_cmpR op_ne (pv 0) pe_str (nomark _)))))))))
 (pss_one (L2N.ps_raise rfl (L2N.takes_of rfl rfl rfl rfl) (L2N.pmk_own PySem.F.excBase_ValueError X_BadText.ex X_BadText.gl X_BadText.kp (raises_own X_BadText.be X_BadText.ty) rfl)))
 pss_nil)
 (pss_one (ps_ret (pe_callTy (T := "int") call_int_str (by rfl) B.int (by decide +kernel) (pa_cons (pv 0) pa_nil)))))⟩

def der_read {P : Program} {w : World} {K : PySem.W.Frag} {mg : Str → Option Value} {base : Heap} (B : Bi mg) {fd_asked_wishes : FuncData} {sp_asked_wishes : Sp} (C_asked_wishes : Cal P w K mg base (L2N.CX P w) 2 "asked_wishes" P_asked_wishes sp_asked_wishes fd_asked_wishes) {fd_number_in : FuncData} {sp_number_in : Sp} (C_number_in : Cal P w K mg base (L2N.CX P w) 1 "number_in" P_number_in sp_number_in fd_number_in) (X_BadText : ExcF K mg "BadText") (X_BadWishes : ExcF K mg "BadWishes") {f : Addr} {cdv : Value} {A : Around} {outer : List Env} {s : Shared} {H : Hp} {E : XK}
    (hr : Room 2 (A.deeper (envOfC "read" (defScope s_read) s.heap.objs.size f cdv))) :
    {t : TS // PSs (cxOf (CXt P w) P w K mg base N_read "read" (defScope s_read) f cdv A outer s H E) (defBody s_read) t} := ⟨_, (pss_cons (ps_if (pt_not (pt_val (pe_callB (id := "isinstance") (r := rIsi K) call_isi (by rfl) B.isinstance (by decide +kernel) (pa_cons (pv 0) (pa_cons (pe_bltn (v := .ty "str") (by rfl) B.str (by decide +kernel) rfl) pa_nil)))))
 (pss_one (L2N.ps_raise rfl (TakesT.n (takesT_of rfl rfl rfl rfl)) (L2N.pmk_own PySem.F.excBase_ValueError X_BadText.ex X_BadText.gl X_BadText.kp (raises_own X_BadText.be X_BadText.ty) rfl)))
 pss_nil)
 (pss_cons (ps_set (i := 1) sc_read.nd rfl (Or.inl rfl) (pe_split (pv 0) pe_str))
 (pss_cons (ps_if (pt_not (pt_val (pe_m1 PySem.F.slot_str_endswith PySem.F.type_str_endswith mt_endswith (pe_ix (r := rIxL K) ix_list (pv 1) pe_int (fun _ _ => rfl)) pe_str)))
 (pss_one (L2N.ps_raise rfl (TakesT.n (takesT_of rfl rfl rfl rfl)) (L2N.pmk_own PySem.F.excBase_ValueError X_BadText.ex X_BadText.gl X_BadText.kp (raises_own X_BadText.be X_BadText.ty) rfl)))
 pss_nil)
 (pss_cons (ps_set (i := 2) sc_read.nd rfl (Or.inl rfl) (pe_call C_number_in.ok (hr.mono (by decide)) (by rfl) C_number_in.gl C_number_in.kp C_number_in.bd .nil (L2N.passes_call (W := fun cls d _ H => E cls d H) (TakesT.n (takesT_of rfl rfl rfl rfl)) (fun _ _ _ _ h => h)) (pa_cons (pe_slice sl_str (pe_ix (r := rIxL K) ix_list (pv 1) pe_int (fun _ _ => rfl)) po_none (po_some (pe_un un_neg pe_int))) pa_nil)))
 (pss_cons (ps_setLcX (i := 3) (own := [("word", 4)]) (g := (gName 4)) rfl rfl (TakesT.n (takesT_of rfl rfl rfl rfl)) rfl sc_read.nd rfl rfl (sw_true rfl rfl rfl (by decide +kernel)) (pi_list (pe_slice (r := rSlL K) sl_list (pv 1) (po_some pe_int) po_none)) (blkOk_by (own := [("word", 4)]) (N := N_read) (sc := defScope s_read) (by decide +kernel)) (fun _ _ _ _ _ _ => (pg_name (i := 4) sc_read.nd rfl (Or.inl rfl) (Or.inr rfl))) (fun _ _ _ _ _ _ ps => (pe_call C_number_in.ok (hr.mono (by decide)) (by rfl) C_number_in.gl C_number_in.kp C_number_in.bd .nil ps (pa_cons (pv 4) pa_nil))))
 (pss_cons (ps_try_fromT rfl rfl ⟨rfl, by decide, .inl X_BadWishes.gl⟩ (L2H.passesAt_of rfl) (takesT_of rfl rfl rfl rfl)
 (fun W pn xe tk _ => (pss_one (ps_expr (pe_callS C_asked_wishes.ok (hr.mono (by decide)) (by rfl) C_asked_wishes.gl C_asked_wishes.kp C_asked_wishes.bd (fun σ => L2N.passAt tk σ) (pa_cons (pv 2) (pa_cons (pv 3) pa_nil))))))
 (fun a pn => pmk5_own PySem.F.excBase_ValueError X_BadText.ex X_BadText.gl X_BadText.kp (raises_own X_BadText.be X_BadText.ty) rfl))
 (pss_one (ps_ret (pe_tup (pa_cons (pv 2) (pa_cons (pv 3) pa_nil)))))))))))⟩

def der_law_number {P : Program} {w : World} {K : PySem.W.Frag} {mg : Str → Option Value} {base : Heap} (B : Bi mg) {f : Addr} {cdv : Value} {A : Around} {outer : List Env} {s : Shared} {H : Hp} {E : XK}
    (hr : Room 0 (A.deeper (envOfC "_law_number" (defScope s_law_number) s.heap.objs.size f cdv))) :
    {t : TS // PSs (cxOf CX0 P w K mg base N_law_number "_law_number" (defScope s_law_number) f cdv A outer s H E).nox (defBody s_law_number) t} := ⟨_, (pss_cons (ps_if (PW.pt (pw_or (pt_cmpR op_eq (pv 0) pe_str (nomark _)) (pw_or (pt_cmpR op_gt (pe_callB (id := "len") (r := rLenT) call_len_str (by rfl) B.len (by decide +kernel) (pa_cons (pv 0) pa_nil)) pe_int (nomark _)) (pw_or1 (pt_not (pt_val (pe_callB (id := "all") (r := rAll K) (cr_all rfl) (by rfl) B.all (by decide +kernel) (pa_cons (pe_lc (own := [("sign", 1)]) (g := (gName 1)) (tt := tYes) rfl sc_law_number.nd (pi_str (pv 0)) (blkOk_by (own := [("sign", 1)]) (N := N_law_number) (sc := defScope s_law_number) (by decide +kernel)) (fun _ _ _ _ _ => (pg_name (i := 1) sc_law_number.nd rfl (Or.inl rfl) (Or.inr rfl))) (fun _ _ _ _ _ => pts_nil) (fun _ _ _ _ _ => (pe_cmpR op_in_sign (pv 1) pe_str rfl))) pa_nil))))))))
 (pss_one (ps_ret pe_non))
 pss_nil)
 (pss_cons (ps_if (PW.pt (pw_and (pt_cmpR op_eq (pe_ix ix_str (pv 0) pe_int (fun _ _ => rfl)) pe_str (nomark _)) (pw_and1 (pt_cmpR op_ne (pv 0) pe_str (nomark _)))))
 (pss_one (ps_ret pe_non))
 pss_nil)
 (pss_one (ps_ret (pe_callTy (T := "int") call_int_str (by rfl) B.int (by decide +kernel) (pa_cons (pv 0) pa_nil))))))⟩

def der_law_in {P : Program} {w : World} {K : PySem.W.Frag} {mg : Str → Option Value} {base : Heap} (B : Bi mg) {fd_law_number : FuncData} {sp_law_number : Sp} (C_law_number : Cal P w K mg base CX0 1 "_law_number" P_law_number sp_law_number fd_law_number) {f : Addr} {cdv : Value} {A : Around} {outer : List Env} {s : Shared} {H : Hp} {E : XK}
    (hr : Room 1 (A.deeper (envOfC "_law_in" (defScope s_law_in) s.heap.objs.size f cdv))) :
    {t : TS // PSs (cxOf CX0 P w K mg base N_law_in "_law_in" (defScope s_law_in) f cdv A outer s H E).nox (defBody s_law_in) t} := ⟨_, (pss_cons (ps_set (i := 1) sc_law_in.nd rfl (Or.inl rfl) (pe_split (pv 0) pe_str))
 (pss_cons (ps_set (i := 2) sc_law_in.nd rfl (Or.inr rfl) (pe_call C_law_number.ok (hr.mono (by decide)) (by rfl) C_law_number.gl C_law_number.kp C_law_number.bd .nil pass0 (pa_cons (pe_slice sl_str (pe_ix (r := rIxL K) ix_list (pv 1) pe_int (fun _ _ => rfl)) po_none (po_some (pe_un un_neg pe_int))) pa_nil)))
 (pss_cons (ps_if (PW.pt (pw_or (pt_cmpR op_ne (pe_slice sl_str (pe_ix (r := rIxL K) ix_list (pv 1) pe_int (fun _ _ => rfl)) (po_some (pe_un un_neg pe_int)) po_none) pe_str (nomark _)) (pw_or (pt_cmpR op_isN (pv 2) pe_non (nomark _)) (pw_or1 (pt_not (pt_chain op_le op_le pe_int (pv 2) pe_int))))))
 (pss_one (ps_ret pe_non))
 pss_nil)
 (pss_cons (ps_setLc (i := 3) (own := [("word", 4)]) (g := (gName 4)) (tt := tYes) rfl sc_law_in.nd rfl rfl (sw_true rfl rfl rfl (by decide +kernel))   (pi_list (pe_slice (r := rSlL K) sl_list (pv 1) (po_some pe_int) po_none)) (blkOk_by (own := [("word", 4)]) (N := N_law_in) (sc := defScope s_law_in) (by decide +kernel)) (fun _ _ _ _ _ => (pg_name (i := 4) sc_law_in.nd rfl (Or.inl rfl) (Or.inr rfl))) (fun _ _ _ _ _ => pts_nil) (fun _ _ _ _ _ => (pe_call C_law_number.ok (hr.mono (by decide)) (by rfl) C_law_number.gl C_law_number.kp C_law_number.bd .nil pass0 (pa_cons (pv 4) pa_nil))))
 (pss_cons (ps_if (pt_val (pe_callB (id := "any") (r := rAny K) (cr_any rfl) (by rfl) B.any (by decide +kernel) (pa_cons (pe_lc (own := [("wish", 5)]) (g := (gName 5)) (tt := tYes) rfl sc_law_in.nd (pi_list (pv 3)) (blkOk_by (own := [("wish", 5)]) (N := N_law_in) (sc := defScope s_law_in) (by decide +kernel)) (fun _ _ _ _ _ => (pg_name (i := 5) sc_law_in.nd rfl (Or.inl rfl) (Or.inr rfl))) (fun _ _ _ _ _ => pts_nil) (fun _ _ _ _ _ => (pe_or (pe_cmpR op_isN (pv 5) pe_non (nomark _)) (pe_one (pe_cmpR op_ge (pv 5) (pv 2) (nomark _)))))) pa_nil)))
 (pss_one (ps_ret pe_non))
 pss_nil)
 (pss_one (ps_ret (pe_tup (pa_cons (pv 2) (pa_cons (pv 3) pa_nil))))))))))⟩

def der_law_asked {P : Program} {w : World} {K : PySem.W.Frag} {mg : Str → Option Value} {base : Heap} (B : Bi mg) {fd_read : FuncData} {sp_read : Sp} (C_read : Cal P w K mg base (CXt P w) 3 "read" P_read sp_read fd_read) (X_BadPath : ExcF K mg "BadPath") (X_BadStanding : ExcF K mg "BadStanding") (X_BadText : ExcF K mg "BadText") (X_BadTree : ExcF K mg "BadTree") (X_BadWishes : ExcF K mg "BadWishes") (X_TooMany : ExcF K mg "TooMany") (X_StreetError : ExcF K mg "StreetError") {f : Addr} {cdv : Value} {A : Around} {outer : List Env} {s : Shared} {H : Hp} {E : XK}
    (hr : Room 3 (A.deeper (envOfC "_law_asked" (defScope s_law_asked) s.heap.objs.size f cdv))) :
    {t : TS // PSs (cxOf CX0 P w K mg base N_law_asked "_law_asked" (defScope s_law_asked) f cdv A outer s H E).nox (defBody s_law_asked) t} := ⟨_, (pss_cons (ps_try_asT (i := 1) rfl rfl sc_law_asked.nd rfl rfl ⟨rfl, by decide, .inl X_StreetError.gl⟩ takesTN
 (fun W pn xe tk _ => (pss_one (ps_ret (pe_tup (pa_cons pe_str (pa_cons (pe_callS C_read.ok (hr.mono (by decide)) (by rfl) C_read.gl C_read.kp C_read.bd (fun σ => passAtT tk σ) (pa_cons (pv 0) pa_nil)) pa_nil))))))
 (fun a oe cls d pn hz hf hx => (pss_cons (ps_set (i := 2) sc_law_asked.nd rfl (Or.inl rfl) (pe_lst (pa_cons (pe_callB (id := "isinstance") (r := rIsE2 K cls d a) (call_isE3 hz hf) (by rfl) B.isinstance (by decide +kernel) (pa_cons (pv 1) (pa_cons (pe_glob (v := .ref (ga K "BadWishes")) rfl X_BadWishes.gl rfl) pa_nil))) (pa_cons (pe_callB (id := "isinstance") (r := rIsE2 K cls d a) (call_isE3 hz hf) (by rfl) B.isinstance (by decide +kernel) (pa_cons (pv 1) (pa_cons (pe_glob (v := .ref (ga K "TooMany")) rfl X_TooMany.gl rfl) pa_nil))) (pa_cons (pe_callB (id := "isinstance") (r := rIsE2 K cls d a) (call_isE3 hz hf) (by rfl) B.isinstance (by decide +kernel) (pa_cons (pv 1) (pa_cons (pe_glob (v := .ref (ga K "BadTree")) rfl X_BadTree.gl rfl) pa_nil))) pa_nil)))))
 (pss_cons (ps_set (i := 2) sc_law_asked.nd rfl (Or.inl rfl) (pe_op op_cat (pv 2) (pe_lst (pa_cons (pe_callB (id := "isinstance") (r := rIsE2 K cls d a) (call_isE3 hz hf) (by rfl) B.isinstance (by decide +kernel) (pa_cons (pv 1) (pa_cons (pe_glob (v := .ref (ga K "BadPath")) rfl X_BadPath.gl rfl) pa_nil))) (pa_cons (pe_callB (id := "isinstance") (r := rIsE2 K cls d a) (call_isE3 hz hf) (by rfl) B.isinstance (by decide +kernel) (pa_cons (pv 1) (pa_cons (pe_glob (v := .ref (ga K "BadStanding")) rfl X_BadStanding.gl rfl) pa_nil))) pa_nil)))))
 (pss_one (ps_if (PW.pt (pw_or (pt_val (pe_callB (id := "any") (r := rAny K) (cr_anyW (warm_suite hf hx)) (by rfl) B.any (by decide +kernel) (pa_cons (pv 2) pa_nil))) (pw_or1 (pt_not (pt_val (pe_callB (id := "isinstance") (r := rIsE2 K cls d a) (call_isE3 hz hf) (by rfl) B.isinstance (by decide +kernel) (pa_cons (pv 1) (pa_cons (pe_glob (v := .ref (ga K "BadText")) rfl X_BadText.gl rfl) pa_nil))))))))
 (pss_one (ps_ret (pe_tup (pa_cons pe_str (pa_cons pe_non pa_nil)))))
 pss_nil))))))
 (pss_one (ps_ret (pe_tup (pa_cons pe_str (pa_cons pe_non pa_nil))))))⟩

def der_law_right {P : Program} {w : World} {K : PySem.W.Frag} {mg : Str → Option Value} {base : Heap} (B : Bi mg) {fd_law_asked : FuncData} {sp_law_asked : Sp} (C_law_asked : Cal P w K mg base CX0 4 "_law_asked" P_law_asked sp_law_asked fd_law_asked) {fd_law_in : FuncData} {sp_law_in : Sp} (C_law_in : Cal P w K mg base CX0 2 "_law_in" P_law_in sp_law_in fd_law_in) {fd_read : FuncData} {sp_read : Sp} (C_read : Cal P w K mg base (CXt P w) 3 "read" P_read sp_read fd_read) {fd_written : FuncData} {sp_written : Sp} (C_written : Cal P w K mg base (L2N.CX P w) 3 "written" P_written sp_written fd_written) {f : Addr} {cdv : Value} {A : Around} {outer : List Env} {s : Shared} {H : Hp} {E : XK}
    (hr : Room 4 (A.deeper (envOfC "_law_right" (defScope s_law_right) s.heap.objs.size f cdv))) :
    {t : TS // PSs (cxOf CX0 P w K mg base N_law_right "_law_right" (defScope s_law_right) f cdv A outer s H E).nox (defBody s_law_right) t} := ⟨_, (pss_cons (ps_set (i := 1) sc_law_right.nd rfl (Or.inl rfl) (pe_call C_law_in.ok (hr.mono (by decide)) (by rfl) C_law_in.gl C_law_in.kp C_law_in.bd .nil pass0 (pa_cons (pv 0) pa_nil)))
 (pss_cons (ps_asg (pe_call C_law_asked.ok (hr.mono (by decide)) (by rfl) C_law_asked.gl C_law_asked.kp C_law_asked.bd .nil pass0 (pa_cons (pv 0) pa_nil)) (pg_tup rfl (pgs_cons (pg_name (i := 2) sc_law_right.nd rfl (Or.inl rfl)) (pgs_cons (pg_name (i := 3) sc_law_right.nd rfl (Or.inl rfl)) pgs_nil))))
 (pss_cons (ps_if (pt_cmpR op_isN (pv 1) pe_non (nomark _))
 (pss_one (ps_ret (pe_cmpR op_eq (pv 2) pe_str (nomark _))))
 pss_nil)
 (pss_cons (ps_if (PW.pt (pw_or (pt_cmpR op_ne (pv 2) pe_str (nomark _)) (pw_or (pt_not (pt_val (pe_callB (id := "isinstance") (r := rIsi K) call_isi (by rfl) B.isinstance (by decide +kernel) (pa_cons (pv 3) (pa_cons (pe_bltn (v := .ty "tuple") (by rfl) B.tuple (by decide +kernel) rfl) pa_nil))))) (pw_or (pt_cmpR (r := rNeD K) (op_neD hr.units) (pv 3) (pv 1) (nomark _)) (pw_or1 (pt_cmpR op_ne (pe_call C_written.ok (hr.mono (by decide)) (by rfl) C_written.gl C_written.kp C_written.bd .nil passN (pa_cons (pe_ix (r := rIxT K) ix_tup (pv 1) pe_int (fun _ _ => rfl)) (pa_cons (pe_ix (r := rIxT K) ix_tup (pv 1) pe_int (fun _ _ => rfl)) pa_nil))) (pv 0) (nomark _)))))))
 (pss_one (ps_ret pe_bl))
 pss_nil)
 (pss_cons (ps_expr (pe_bm PySem.F.plainAttrs_list PySem.F.slot_list_append PySem.F.type_list_append mt_append (pe_ix (r := rIxT K) ix_tup (pv 3) pe_int (fun _ _ => rfl)) (pa_cons pe_int pa_nil)))
 (pss_one (ps_ret (pe_cmpR (r := rEqD K) (op_eqD hr.units) (pe_call C_read.ok (hr.mono (by decide)) (by rfl) C_read.gl C_read.kp C_read.bd .nil passT (pa_cons (pv 0) pa_nil)) (pv 1) (nomark _)))))))))⟩

def der_law {P : Program} {w : World} {K : PySem.W.Frag} {mg : Str → Option Value} {base : Heap} (B : Bi mg) {fd_law_asked : FuncData} {sp_law_asked : Sp} (C_law_asked : Cal P w K mg base CX0 4 "_law_asked" P_law_asked sp_law_asked fd_law_asked) {fd_law_right : FuncData} {sp_law_right : Sp} (C_law_right : Cal P w K mg base CX0 5 "_law_right" P_law_right sp_law_right fd_law_right) {fd_written : FuncData} {sp_written : Sp} (C_written : Cal P w K mg base (L2N.CX P w) 3 "written" P_written sp_written fd_written) {f : Addr} {cdv : Value} {A : Around} {outer : List Env} {s : Shared} {H : Hp} {E : XK}
    (hr : Room 5 (A.deeper (envOfC "law" (defScope s_law) s.heap.objs.size f cdv))) :
    {t : TS // PSs (cxOf CX0 P w K mg base N_law "law" (defScope s_law) f cdv A outer s H E).nox (defBody s_law) t} := ⟨_, (pss_cons (ps_set (i := 1) sc_law.nd rfl (Or.inl rfl) (pe_callB (id := "sum") (r := rSum K) (cr_sum rfl) (by rfl) B.sum (by decide +kernel) (pa_cons (pv 0) pa_nil)))
 (pss_cons (ps_set (i := 2) sc_law.nd rfl (Or.inr rfl) (pe_op op_add (pe_op op_add pe_int (pe_callB (id := "len") (r := rLenS K) call_len_seq (by rfl) B.len (by decide +kernel) (pa_cons (pe_slice (r := rSlL K) sl_list (pv 0) po_none (po_some pe_int)) pa_nil))) (pe_op op_mod (pv 1) pe_int)))
 (pss_cons (ps_setLc (i := 3) (own := [("cell", 9)]) (g := (gName 9)) (tt := tYes) rfl sc_law.nd rfl rfl (sw_true rfl rfl rfl (by decide +kernel))   (pi_list (pe_slice (r := rSlL K) sl_list (pv 0) po_none (po_some pe_int))) (blkOk_by (own := [("cell", 9)]) (N := N_law) (sc := defScope s_law) (by decide +kernel)) (fun _ _ _ _ _ => (pg_name (i := 9) sc_law.nd rfl (Or.inl rfl) (Or.inr rfl))) (fun _ _ _ _ _ => pts_nil) (fun _ _ _ _ _ => (pe_op op_mod (pv 9) (pv 2))))
 (pss_cons (ps_set (i := 4) sc_law.nd rfl (Or.inl rfl) (pe_callTy (T := "list") (r := rListS K) call_list_of (by rfl) B.list (by decide +kernel) (pa_cons (pv 3) pa_nil)))
 (pss_cons (ps_set (i := 5) sc_law.nd rfl (Or.inl rfl) (pe_join pe_str (pe_op op_cat (pe_lst (pa_cons (pe_op op_add_str (pe_callTy (T := "str") call_str_int (by rfl) B.str (by decide +kernel) (pa_cons (pv 2) pa_nil)) pe_str) pa_nil)) (pe_lc (own := [("wish", 10)]) (g := (gName 10)) (tt := tYes) rfl sc_law.nd (pi_list (pv 3)) (blkOk_by (own := [("wish", 10)]) (N := N_law) (sc := defScope s_law) (by decide +kernel)) (fun _ _ _ _ _ => (pg_name (i := 10) sc_law.nd rfl (Or.inl rfl) (Or.inr rfl))) (fun _ _ _ _ _ => pts_nil) (fun _ _ _ _ _ => (pe_callTy (T := "str") call_str_int (by rfl) B.str (by decide +kernel) (pa_cons (pv 10) pa_nil)))))))
 (pss_cons (ps_if (PW.pt (pw_or (pt_cmpR op_ne (pe_call C_written.ok (hr.mono (by decide)) (by rfl) C_written.gl C_written.kp C_written.bd .nil passN (pa_cons (pv 2) (pa_cons (pv 4) pa_nil))) (pv 5) (nomark _)) (pw_or1 (pt_cmpR (r := rNeD K) (op_neD hr.units) (pv 4) (pv 3) (nomark _)))))
 (pss_one (ps_ret pe_bl))
 pss_nil)
 (pss_cons (ps_set (i := 6) sc_law.nd rfl (Or.inl rfl) (pe_op op_mod (pv 1) (pe_op op_add (pe_callB (id := "len") (r := rLenT) call_len_str (by rfl) B.len (by decide +kernel) (pa_cons (pv 5) pa_nil)) pe_int)))
 (pss_cons (ps_set (i := 7) sc_law.nd rfl (Or.inl rfl) (pe_ix (r := rIxL K) ix_list (pe_lst (pa_cons pe_str (pa_cons pe_str (pa_cons pe_str (pa_cons pe_str (pa_cons pe_str (pa_cons pe_str (pa_cons pe_str (pa_cons pe_str (pa_cons pe_str (pa_cons pe_str (pa_cons pe_str pa_nil)))))))))))) (pe_op op_mod (pe_op op_fdiv (pv 1) pe_int) pe_int) (fun _ _ => rfl)))
 (pss_cons (ps_set (i := 8) sc_law.nd rfl (Or.inl rfl) (pe_lst (pa_cons (pv 5) (pa_cons (pe_op op_add_str (pe_slice sl_str (pv 5) po_none (po_some (pv 6))) (pe_slice sl_str (pv 5) (po_some (pe_op op_add (pv 6) pe_int)) po_none)) (pa_cons (pe_op op_add_str (pe_op op_add_str (pe_slice sl_str (pv 5) po_none (po_some (pv 6))) (pv 7)) (pe_slice sl_str (pv 5) (po_some (pv 6)) po_none)) (pa_cons (pe_op op_add_str (pe_op op_add_str (pe_slice sl_str (pv 5) po_none (po_some (pv 6))) (pv 7)) (pe_slice sl_str (pv 5) (po_some (pe_op op_add (pv 6) pe_int)) po_none)) pa_nil))))))
 (pss_cons (ps_set (i := 8) sc_law.nd rfl (Or.inl rfl) (pe_op op_cat (pv 8) (pe_lst (pa_cons pe_str (pa_cons pe_str (pa_cons pe_str (pa_cons pe_str (pa_cons pe_str (pa_cons pe_str (pa_cons pe_str (pa_cons pe_str (pa_cons pe_str (pa_cons pe_str (pa_cons pe_str (pa_cons pe_str pa_nil)))))))))))))))
 (pss_cons (ps_set (i := 8) sc_law.nd rfl (Or.inl rfl) (pe_op op_cat (pv 8) (pe_lst (pa_cons pe_str (pa_cons pe_str (pa_cons pe_str (pa_cons (pe_op op_add_str (pe_op op_mul_str pe_str pe_int) pe_str) (pa_cons (pe_op op_add_str pe_str (pe_op op_mul_str pe_str pe_int)) pa_nil))))))))
 (pss_cons (ps_set (i := 8) sc_law.nd rfl (Or.inl rfl) (pe_op op_cat (pv 8) (pe_lst (pa_cons pe_str (pa_cons pe_str (pa_cons pe_str (pa_cons pe_str (pa_cons pe_str pa_nil))))))))
 (pss_cons (ps_if (pt_not (pt_val (pe_callB (id := "all") (r := rAll K) (cr_all rfl) (by rfl) B.all (by decide +kernel) (pa_cons (pe_lc (own := [("some", 11)]) (g := (gName 11)) (tt := tYes) rfl sc_law.nd (pi_list (pv 8)) (blkOk_by (own := [("some", 11)]) (N := N_law) (sc := defScope s_law) (by decide +kernel)) (fun _ _ _ _ _ => (pg_name (i := 11) sc_law.nd rfl (Or.inl rfl) (Or.inr rfl))) (fun _ _ _ _ _ => pts_nil) (fun _ _ _ _ _ => (pe_call C_law_right.ok (hr.mono (by decide)) (by rfl) C_law_right.gl C_law_right.kp C_law_right.bd .nil pass0 (pa_cons (pv 11) pa_nil)))) pa_nil))))
 (pss_one (ps_ret pe_bl))
 pss_nil)
 (pss_one (ps_ret (pe_cmpR op_eq (pe_ix (r := rIxT K) ix_tup (pe_call C_law_asked.ok (hr.mono (by decide)) (by rfl) C_law_asked.gl C_law_asked.kp C_law_asked.bd .nil pass0 (pa_cons (pe_ix (r := rIxL K) ix_list (pe_lst (pa_cons pe_non (pa_cons pe_int (pa_cons (pe_lst (pa_cons pe_str pa_nil)) (pa_cons pe_bl pa_nil))))) (pe_op op_mod (pv 1) pe_int) (fun _ _ => rfl)) pa_nil)) pe_int (fun _ _ => rfl)) pe_str (nomark _)))))))))))))))))⟩

end Pk
namespace Pk
open PySem PySem.Spec PyProof.Rows L2 Evl He
abbrev FnP (K : PySem.W.Frag) (x : Str) (st : Stmt) (fd : FuncData) : Prop := FunD K x x (defArgs st) (defBody st) (defScope st) [] [] (ga K x) fd
/-- a def that lets nothing out -/
theorem FnP.ok {P : Program} {w : World} {K : PySem.W.Frag} {mg : Str → Option Value} {base : Heap} {x : Str} {st : Stmt} {fd : FuncData} {N ps : List Str} {k : Nat} {sp : Sp} (F : FnP K x st fd) (S : FnScope N ps (defScope st)) (len : ∀ vs H Q E, sp vs H Q E → vs.length = ps.length)
    (hbody : ∀ (cdv : Value) (A : Around) (outer : List Env) (s : Shared) (H : Hp) (vs : List V) (Q : VK) (E : XK), Room k (A.deeper (envOfC x (defScope st) s.heap.objs.size (ga K x) cdv)) → sp vs H Q E →
      ∃ t : {t : TS // PSs (cxOf CX0 P w K mg base N x (defScope st) (ga K x) cdv A outer s H E).nox (defBody st) t}, t.1 { nx := fun _ H' => Q .non H', rt := Q } (start N vs) H) : FnOk P w K mg base CX0 (k + 1) (ga K x) fd ps sp :=
  FunD.ok F S len fun cdv A outer s H vs Q E hr hsp => by
    obtain ⟨t, q⟩ := hbody cdv A outer s H vs Q E hr hsp
    exact ⟨t.1, t.2.nox, q⟩
theorem FnP.okX {P : Program} {w : World} {K : PySem.W.Frag} {mg : Str → Option Value} {base : Heap} {x : Str} {st : Stmt} {fd : FuncData} {N ps : List Str} {k : Nat} {sp : Sp} (F : FnP K x st fd) (S : FnScope N ps (defScope st)) (len : ∀ vs H Q E, sp vs H Q E → vs.length = ps.length)
    (hbody : ∀ (cdv : Value) (A : Around) (outer : List Env) (s : Shared) (H : Hp) (vs : List V) (Q : VK) (E : XK), Room k (A.deeper (envOfC x (defScope st) s.heap.objs.size (ga K x) cdv)) → sp vs H Q E →
      ∃ t : {t : TS // PSs (cxOf (L2N.CX P w) P w K mg base N x (defScope st) (ga K x) cdv A outer s H E) (defBody st) t}, t.1 { nx := fun _ H' => Q .non H', rt := Q } (start N vs) H) : FnOk P w K mg base (L2N.CX P w) (k + 1) (ga K x) fd ps sp :=
  FunD.ok F S len fun cdv A outer s H vs Q E hr hsp => by
    obtain ⟨t, q⟩ := hbody cdv A outer s H vs Q E hr hsp
    exact ⟨t.1, t.2, q⟩
section
variable {P : Program} {w : World} {K : PySem.W.Frag} {mg : Str → Option Value} {base : Heap}
open SX (S)
/-- an error of the class x, alone -/
abbrev RetT (K : PySem.W.Frag) (x : Str) (H : Hp) (E : XK) : Prop := ∀ H2, Ex H H2 → E (.ref (ga K x)) none H2
/-! ### is_number, of any kind -/
def spIsNumberK (K : PySem.W.Frag) : Sp := fun vs H Q _ => ∃ (x : V) (k : Kd) (lo hi : Int), vs = [x, .int lo, .int hi] ∧ IsK K H x k ∧ RetV (.bl (k.num lo hi)) H Q
theorem ok_is_number {fd : FuncData} (F : FnP K "is_number" s_is_number fd) (B : Bi mg) : FnOk P w K mg base CX0 1 (ga K "is_number") fd P_is_number (spIsNumberK K) := by
  refine F.ok sc_is_number (fun vs H Q E h => ?_) (fun cdv A outer s H vs Q E hr h => ⟨der_is_number B hr, ?_⟩)
  · obtain ⟨x, k, lo, hi, rfl, _⟩ := h; rfl
  obtain ⟨x, k, lo, hi, rfl, hk, q⟩ := h
  unfold der_is_number; dsimp only
  refine s_ret (v := .bl (k.isI && (!k.isB && k.num lo hi))) ?_ ?_
  rotate_left
  · intro H1 e
    have z : (k.isI && (!k.isB && k.num lo hi)) = k.num lo hi := by cases k <;> simp [Kd.isI, Kd.isB, Kd.num]
    rw [z]
    exact q H1 e
  refine ev_andV (ev_cb (ea_cons (ev_var rfl) (ea_cons ev_c ea_nil)) (isi_k hk "int" (kit_int k))) fun h1 => ?_
  refine ev_andV (ev_notV (ev_cb (ea_cons (ev_var rfl) (ea_cons ev_c ea_nil)) (isi_k hk "bool" (kit_bool k)))) fun h2 => ?_
  cases k with
  | int i =>
    cases hk
    exact ev_chain (ev_var rfl) (ev_var rfl) (ev_var rfl) (by simp [Kd.num, Bool.decide_and])
  | bl b => cases h2
  | _ => cases h1
theorem sv_numK {H : Hp} {x : V} {k : Kd} {lo hi : Int} (hk : IsK K H x k) : SpV (spIsNumberK K) [x, .int lo, .int hi] H (.bl (k.num lo hi)) := fun H1 e Q q E => ⟨x, k, lo, hi, rfl, hk.ex e, q⟩
theorem sv_num {H : Hp} {i lo hi : Int} : SpV (spIsNumberK K) [.int i, .int lo, .int hi] H (.bl (decide (lo ≤ i ∧ i ≤ hi))) := sv_numK (k := .int i) rfl
/-- all(is_number(x, lo, hi) ..) over a list of any kinds -/
theorem el_numK {σ : L2.St} {H : Hp} {tl tlo thi : TE} {j : Nat} {a : Addr} {xs : List V} {ks : List Kd} {lo hi : Int} (h : Ev tl σ H (.ref a)) (hx : SqL K H a xs) (hz : xs.length ≤ 40000) (hk : AllK K H xs ks) (hw : ∀ x, wipe ((wipe σ [j]).set j (some x)) [j] = wipe σ [j])
    (hj : ∀ x : V, ((wipe σ [j]).set j (some x))[j]? = some (some x)) (hlo : ∀ x H1, Ex H H1 → Ev tlo ((wipe σ [j]).set j (some x)) H1 (.int lo)) (hhi : ∀ x H1, Ex H H1 → Ev thi ((wipe σ [j]).set j (some x)) H1 (.int hi)) :
    EvL (tLc (iList K tl) (gName j) tYes (tCall (spIsNumberK K) [] E0 (tCons (tVar j) (tCons tlo (tCons thi tNil)))) [j]) σ H ((ks.map (Kd.num lo hi)).map V.bl) := by
  have hl := hk.1
  have e : (ks.map (Kd.num lo hi)).map V.bl = given xs.length (fun _ => true) (fun i => V.bl (Kd.num lo hi (ks.getD i .non))) := by
    rw [given_all, hl, List.map_map]
    refine List.ext_getElem? fun i => ?_
    rw [List.getElem?_map, List.getElem?_map]
    by_cases c : i < ks.length
    · rw [List.getElem?_range c, List.getElem?_eq_getElem c]
      show some _ = some (V.bl (Kd.num lo hi (ks.getD i .non)))
      rw [List.getD_eq_getElem?_getD, List.getElem?_eq_getElem c]
      rfl
    · rw [List.getElem?_eq_none (by omega), List.getElem?_eq_none (by rw [List.length_range]; omega)]
      rfl
  rw [e]
  refine el_lcL (fun _ => true) _ h hx hz hw (fun i x H1 e1 hi => et_yes) fun i x H1 e1 hi _ => ?_
  have hik : i < ks.length := by have := (List.getElem?_eq_some_iff.mp hi).1; omega
  have hg : ks[i]? = some (ks.getD i .non) := by rw [List.getD_eq_getElem?_getD, List.getElem?_eq_getElem hik]; rfl
  exact ev_call (ea_cons (ev_var (hj x)) (ea_cons (hlo x H1 e1) (ea_cons (hhi x H1 e1) ea_nil))) (sv_numK ((hk.2 i x _ hi hg).ex e1))
/-! ### asked_wishes, of any -/
def spAskedV (K : PySem.W.Frag) : Sp := fun vs H Q _ => ∃ (p : Nat) (a : Addr) (ws : List Nat), vs = [nat p, .ref a] ∧ 1 ≤ p ∧ p ≤ 1000000 ∧ SqL K H a (vn ws) ∧ ws.length ≤ 40000 ∧ (∀ x ∈ ws, x < p) ∧ RetV .non H Q
/-- no places, or no wishes in so many places -/
def BadAsk (K : PySem.W.Frag) (H : Hp) (x y : V) : Prop := ∃ kx ky, IsK K H x kx ∧ IsK K H y ky ∧ (kx.num 1 1000000 = false ∨ ∃ p : Int, kx = .int p ∧ (ky.isL = false ∨ ∃ xs ks, ky = .lst xs ∧ AllK K H xs ks ∧ xs.length ≤ 40000 ∧ allN 0 (p - 1) ks = false))
theorem BadAsk.ex {H H1 : Hp} {x y : V} (h : BadAsk K H x y) (e : Ex H H1) : BadAsk K H1 x y := by
  obtain ⟨kx, ky, h1, h2, h3⟩ := h
  refine ⟨kx, ky, h1.ex e, h2.ex e, ?_⟩
  rcases h3 with h | ⟨p, hp, h | ⟨xs, ks, h4, h5, h6⟩⟩
  · exact .inl h
  · exact .inr ⟨p, hp, .inl h⟩
  · exact .inr ⟨p, hp, .inr ⟨xs, ks, h4, h5.ex e, h6⟩⟩
def spAsked (K : PySem.W.Frag) : Sp := fun vs H Q E => spAskedV K vs H Q E ∨ ∃ x y, vs = [x, y] ∧ BadAsk K H x y ∧ RetT K "BadWishes" H E
theorem ok_asked_wishes {fd fd1 : FuncData} {tk : Tok} (F : FnP K "asked_wishes" s_asked_wishes fd) (B : Bi mg) (C1 : Cal P w K mg base CX0 1 "is_number" P_is_number (spIsNumberK K) fd1) (gc : mg "PLACES" = some (.int 1000000 tk)) (X1 : ExcF K mg "BadWishes") : FnOk P w K mg base (L2N.CX P w) 2 (ga K "asked_wishes") fd P_asked_wishes (spAsked K) := by
  refine F.okX sc_asked_wishes (fun vs H Q E h => ?_) (fun cdv A outer s H vs Q E hr h => ⟨der_asked_wishes B C1 gc X1 hr, ?_⟩)
  · rcases h with ⟨p, a, ws, rfl, _⟩ | ⟨x, y, rfl, _⟩ <;> rfl
  rcases h with ⟨p, a, ws, rfl, hp1, hp2, hS, hl, hw, q⟩ | ⟨x, y, rfl, ⟨kx, ky, hx, hy, hbad⟩, qE⟩
  · unfold der_asked_wishes; dsimp only
    have t1 : Ev (tCall (spIsNumberK K) [] E0 (tCons (tVar 0) (tCons (tC (.int 1)) (tCons (tC (.int 1000000)) tNil)))) (L2.start N_asked_wishes [nat p, .ref a]) H (.bl true) := by
      refine ev_is (ev_call (ea_cons (ev_var rfl) (ea_cons ev_c (ea_cons ev_c ea_nil))) sv_num) ?_
      congr 1
      exact decide_eq_true ⟨by omega, by omega⟩
    refine q_when (et_not (et_B t1)) (fun h => by cases h) fun _ H1 e1 => ?_
    have t2 : EvL (tLc (iList K (tVar 1)) (gName 2) tYes (tCall (spIsNumberK K) [] E0 (tCons (tVar 2) (tCons (tC (.int 0)) (tCons (tOp (rI0 fun i j => .int (i - j)) (tVar 0) (tC (.int 1))) tNil)))) [2]) (L2.start N_asked_wishes [nat p, .ref a]) H1 ((ws.map fun _ => true).map V.bl) := by
      rw [List.map_map]
      refine el_ls nat (V.bl ∘ fun _ => true) (ev_var rfl) (ex_l e1 hS) hl (fun _ => rfl) fun i y H2 e2 hy => ?_
      have hyp := hw y (List.mem_of_getElem? hy)
      refine ev_is (ev_call (ea_cons (ev_var rfl) (ea_cons ev_c (ea_cons (ev_sub (k := (p : Int) - 1) (ev_var rfl) ev_c rfl) ea_nil))) sv_num) ?_
      show V.bl (decide _) = V.bl true
      congr 1
      exact decide_eq_true ⟨by omega, by omega⟩
    have t3 : ((ws.map fun _ => true).all id) = true := by
      rw [List.all_map, List.all_eq_true]
      intro x _
      rfl
    refine s_when (et_or (et_not (et_B (ev_cb (ea_cons (ev_var rfl) (ea_cons ev_c ea_nil)) (isi_list (k := true) (ex_l e1 hS) "list" (by decide +kernel))))) fun _ => et_not (et_B (ev_allN t2))) (fun h => ?_) fun _ H2 e2 => q H2 (e1.trans e2)
    rw [t3] at h
    cases h
  · unfold der_asked_wishes; dsimp only
    refine q_when (et_not (et_B (ev_call (ea_cons (ev_var rfl) (ea_cons ev_c (ea_cons ev_c ea_nil))) (sv_numK hx)))) (fun _ H1 e1 => qE H1 e1) fun h1 H1 e1 => ?_
    rcases hbad with hb | ⟨p, rfl, hb⟩
    · rw [hb] at h1
      cases h1
    cases hx
    have hy1 := hy.ex e1
    have tl := ev_cb (σ := L2.start N_asked_wishes [.int p, y]) (H := H1) (ea_cons (ev_var (i := 1) rfl) (ea_cons ev_c ea_nil)) (isi_k hy1 "list" (kit_list ky))
    rcases hb with hb | ⟨xs, ks, rfl, hk, hz, hn⟩
    · rw [hb] at tl
      exact s_when (b := (!false) || false) (et_or (et_not (et_B tl)) fun z => by cases z) (fun _ H2 e2 => qE H2 (e1.trans e2)) fun z => by cases z
    · obtain ⟨a, rfl, hS⟩ := hy1
      have t2 := el_numK (K := K) (σ := L2.start N_asked_wishes [.int p, .ref a]) (H := H1) (tl := tVar 1) (tlo := tC (.int 0)) (thi := tOp (rI0 fun i j => .int (i - j)) (tVar 0) (tC (.int 1))) (j := 2) (lo := 0) (hi := p - 1) (ev_var rfl) hS hz (hk.ex e1) (fun _ => rfl) (fun _ => rfl) (fun x H2 e2 => ev_c) (fun x H2 e2 => ev_sub (ev_var rfl) ev_c rfl)
      refine s_when (b := (!true) || !((ks.map (Kd.num 0 (p - 1))).all id)) (et_or (et_not (et_B tl)) fun _ => et_not (et_B (ev_allN t2))) (fun _ H2 e2 => qE H2 (e1.trans e2)) fun hb => ?_
      have : ((ks.map (Kd.num 0 (p - 1))).all id) = allN 0 (p - 1) ks := by
        unfold allN
        rw [List.all_map]
        rfl
      rw [this, hn] at hb
      cases hb
theorem sv_asked {H : Hp} {a : Addr} {p : Nat} {ws : List Nat} (h1 : 1 ≤ p) (hp : p ≤ 1000000) (h : SqL K H a (vn ws)) (hl : ws.length ≤ 40000) (hw : ∀ x ∈ ws, x < p) : SpV (spAsked K) [nat p, .ref a] H .non := fun H1 e Q q E => .inl ⟨p, a, ws, rfl, h1, hp, ex_l e h, hl, hw, q⟩
theorem lit_u : (Str.ofString "u") = S [117] := by rfl
theorem lit_d : (Str.ofString "d") = S [100] := by rfl
theorem lit_nil : (Str.ofString "") = S [] := by rfl
theorem ev_lit {σ : L2.St} {H : Hp} {z : Str} {cs : List Nat} (h : z = S cs) : Ev (tC (.str z)) σ H (.str (S cs)) := ev_is ev_c (by rw [h])
theorem joinL_nil : ∀ ys : List (List Nat), TL.joinL [] ys = ys.flatten
  | [] => rfl
  | [p] => by simp [TL.joinL]
  | p :: q :: r => by
    show p ++ ([] ++ TL.joinL [] (q :: r)) = _
    rw [joinL_nil (q :: r)]
    rfl
theorem pathL_len : ∀ cs : List Nat, (pathL cs).length = cs.sum + cs.length
  | [] => rfl
  | c :: r => by
    rw [pathL_cons, List.length_append, List.length_replicate, List.length_cons, pathL_len r, List.sum_cons, List.length_cons]
    omega
theorem cnts_sum {ws : List Nat} {p : Nat} (h : ∀ x ∈ ws, x < p) : (cnts p ws).sum = ws.length := by
  have key : ∀ k, ((List.range k).map fun i => ws.count i).sum = lt ws k := by
    intro k
    induction k with
    | zero => rw [lt_zero]; rfl
    | succ k ih =>
      rw [List.range_succ, List.map_append, List.sum_append, ih, lt_succ]
      simp
  unfold cnts
  rw [key, lt_all h]
theorem steps_len (cs : List Nat) : ((cs.map step1).map (·.length)).sum = cs.sum + cs.length := by
  induction cs with
  | nil => rfl
  | cons c r ih =>
    rw [List.map_cons, List.map_cons, List.sum_cons, ih, List.sum_cons, List.length_cons]
    unfold step1
    rw [List.length_append, List.length_replicate]
    simp only [List.length_singleton]
    omega
theorem mem_le_sum : ∀ {l : List Nat} {x : Nat}, x ∈ l → x ≤ l.sum
  | y :: r, x, h => by
    rw [List.sum_cons]
    rcases List.mem_cons.mp h with e | h
    · omega
    · have := mem_le_sum h
      omega
theorem S_eq {a b : List Nat} : decide (V.str (S a) = V.str (S b)) = decide (a = b) := by
  rw [decide_eq_decide]
  exact ⟨fun h => SX.S_inj (V.str.inj h), fun h => by rw [h]⟩
theorem ev_eqS {σ : L2.St} {H : Hp} {ta tb : TE} {a b : List Nat} (ha : Ev ta σ H (.str (S a))) (hb : Ev tb σ H (.str (S b))) : Ev (tOp rEq ta tb) σ H (.bl (decide (a = b))) := by
  have k := ev_op (r := rEq) ha hb (rv_eq rfl)
  rw [S_eq] at k
  exact k
theorem ev_neS {σ : L2.St} {H : Hp} {ta tb : TE} {a b : List Nat} (ha : Ev ta σ H (.str (S a))) (hb : Ev tb σ H (.str (S b))) : Ev (tOp rNe ta tb) σ H (.bl (!decide (a = b))) := by
  have k := ev_op (r := rNe) ha hb (rv_ne rfl)
  rw [S_eq] at k
  exact k
theorem one_eq {a b : Nat} : decide ([a] = [b]) = decide (a = b) := by
  rw [decide_eq_decide]
  exact ⟨fun h => by injection h, fun h => by rw [h]⟩
end
end Pk
namespace Pk
open PySem PySem.Spec PyProof.Rows L2 Evl He
section
variable {P : Program} {w : World} {K : PySem.W.Frag} {mg : Str → Option Value} {base : Heap}
open SX (S)
/-! ### written -/
def txtL (p : Nat) (ws : List Nat) : List Nat := TL.joinL [32] ((TL.numL p ++ [58]) :: ws.map TL.numL)
theorem numL_7 {n : Nat} (h : n ≤ 1000000) : (TL.numL n).length ≤ 7 := TL.numL_len (by decide) (by omega)
theorem sum_7 : ∀ {ws : List Nat}, (∀ x ∈ ws, x ≤ 1000000) → ((ws.map TL.numL).map (·.length)).sum ≤ 7 * ws.length
  | [], _ => Nat.zero_le _
  | x :: r, h => by
    have h1 := numL_7 (h x List.mem_cons_self)
    have h2 := sum_7 (ws := r) fun y hy => h y (List.mem_cons_of_mem _ hy)
    rw [List.map_cons, List.map_cons, List.sum_cons, List.length_cons]
    omega
theorem el_cat3 {σ : L2.St} {H : Hp} {ta tb : TE} {xs ys : List V} (ha : EvL ta σ H xs) (hb : EvL tb σ H ys) (hz : xs.length + ys.length ≤ 100000) : EvL (tOp rCat ta tb) σ H (xs ++ ys) := fun H1 e Q q =>
  ha H1 e _ fun p H2 hp e2 h2 => hb H2 (e.trans e2) _ fun b H3 _ e3 h3 => ⟨p, b, xs, ys, rfl, rfl, e3 p _ h2, h3, sz_of hz, fun d hd => q d _ (fresh_back (e2.trans e3) hd) ((e2.trans e3).trans (Ex.new hd)) upd_same⟩
/-- ' '.join([str(places) + ':'] + [str(wish) for wish in wishes]) -/
theorem ev_txt {σ : L2.St} {H : Hp} {a : Addr} {p : Nat} {ws : List Nat} {i j k : Nat} (hp : p ≤ 1000000) (hw : ∀ x ∈ ws, x ≤ 1000000) (hl : ws.length ≤ 10000) (hi : σ[i]? = some (some (nat p))) (hj : σ[j]? = some (some (.ref a))) (hS : SqL K H a (vn ws)) (hw2 : ∀ x, wipe ((wipe σ [k]).set k (some x)) [k] = wipe σ [k]) (hk : ∀ x : V, ((wipe σ [k]).set k (some x))[k]? = some (some x)) :
    Ev (tM1 (rJoin K) (tC (.str (Str.ofString " "))) (tOp rCat (tLst (tCons (tOp (fun x y H Q => ∃ i j, x = .str i ∧ y = .str j ∧ i.length + j.length ≤ sizeLine ∧ Q (.str (i ++ j)) H) (tCB (fun xs H Q => ∃ i, xs = [.int i] ∧ i.natAbs.log2 < 1920 ∧ Q (.str (toString i)) H) (tCons (tVar i) tNil)) (tC (.str (Str.ofString ":")))) tNil)) (tLc (iList K (tVar j)) (gName k) tYes (tCB (fun xs H Q => ∃ i, xs = [.int i] ∧ i.natAbs.log2 < 1920 ∧ Q (.str (toString i)) H) (tCons (tVar k) tNil)) [k]))) σ H (.str (S (txtL p ws))) := by
  have h1 : EvL (tLst (tCons (tOp (fun x y H Q => ∃ i j, x = .str i ∧ y = .str j ∧ i.length + j.length ≤ sizeLine ∧ Q (.str (i ++ j)) H) (tCB (fun xs H Q => ∃ i, xs = [.int i] ∧ i.natAbs.log2 < 1920 ∧ Q (.str (toString i)) H) (tCons (tVar i) tNil)) (tC (.str (Str.ofString ":")))) tNil)) σ H [V.str (S (TL.numL p ++ [58]))] :=
    el_lst (ea_cons (ev_catS (ev_cb (ea_cons (ev_var hi) ea_nil) (rc_strN (by omega))) (ev_lit lit_co) (by have := numL_7 hp; show _ + 1 ≤ _; omega)) ea_nil) (Nat.le_of_ble_eq_true rfl)
  have h2 : EvL (tLc (iList K (tVar j)) (gName k) tYes (tCB (fun xs H Q => ∃ i, xs = [.int i] ∧ i.natAbs.log2 < 1920 ∧ Q (.str (toString i)) H) (tCons (tVar k) tNil)) [k]) σ H (ws.map fun w => V.str (S (TL.numL w))) :=
    el_ls nat _ (ev_var hj) hS (by omega) hw2 fun i y H2 e2 hy => ev_cb (ea_cons (ev_var (hk _)) ea_nil) (rc_strN (by have := hw y (List.mem_of_getElem? hy); omega))
  have h3 := el_cat3 h1 h2 (by rw [List.length_map, List.length_singleton]; omega)
  have e : [V.str (S (TL.numL p ++ [58]))] ++ (ws.map fun w => V.str (S (TL.numL w))) = ((TL.numL p ++ [58]) :: ws.map TL.numL).map fun y => V.str (S y) := by
    rw [List.map_cons, List.map_map]
    rfl
  rw [e] at h3
  refine ev_joinL (ev_lit lit_sp) h3 ?_
  have h4 := sum_7 hw
  have h5 := numL_7 hp
  rw [List.map_cons, List.sum_cons, List.length_append, List.length_singleton, List.length_cons, List.length_map, List.length_singleton]
  omega
def spWritten (K : PySem.W.Frag) : Sp := fun vs H Q _ => ∃ (p : Nat) (a : Addr) (ws : List Nat), vs = [nat p, .ref a] ∧ 1 ≤ p ∧ p ≤ 1000000 ∧ SqL K H a (vn ws) ∧ ws.length ≤ 10000 ∧ (∀ x ∈ ws, x < p) ∧ RetV (.str (S (txtL p ws))) H Q
theorem ok_written {fd fd1 : FuncData} (F : FnP K "written" s_written fd) (B : Bi mg) (C1 : Cal P w K mg base (L2N.CX P w) 2 "asked_wishes" P_asked_wishes (spAsked K) fd1) : FnOk P w K mg base (L2N.CX P w) 3 (ga K "written") fd P_written (spWritten K) := by
  refine F.okX sc_written (fun vs H Q E h => ?_) (fun cdv A outer s H vs Q E hr h => ⟨der_written B C1 hr, ?_⟩)
  · obtain ⟨p, a, ws, rfl, _⟩ := h; rfl
  obtain ⟨p, a, ws, rfl, hp1, hp2, hS, hl, hw, q⟩ := h
  unfold der_written; dsimp only
  refine q_drop (ev_call (ea_cons (ev_var rfl) (ea_cons (ev_var rfl) ea_nil)) (sv_asked hp1 hp2 hS (by omega) hw)) fun H1 e1 => ?_
  exact s_ret (ev_txt hp2 (fun x hx => by have := hw x hx; omega) hl rfl rfl (ex_l e1 hS) (fun _ => rfl) fun _ => rfl) fun H2 e2 => q H2 (e1.trans e2)
theorem sv_written {H : Hp} {a : Addr} {p : Nat} {ws : List Nat} (h1 : 1 ≤ p) (h2 : p ≤ 1000000) (h : SqL K H a (vn ws)) (hl : ws.length ≤ 10000) (hw : ∀ x ∈ ws, x < p) : SpV (spWritten K) [nat p, .ref a] H (.str (S (txtL p ws))) := fun H1 e Q q E => ⟨p, a, ws, rfl, h1, h2, ex_l e h, hl, hw, q⟩
/-! ### number_in -/
def spNumIn (K : PySem.W.Frag) : Sp := fun vs H Q E => ∃ w : List Nat, vs = [.str (S w)] ∧ w.length ≤ 5000 ∧ (NumOk w → RetV (nat (dv w)) H Q) ∧ (¬ NumOk w → RetT K "BadText" H E)
theorem ok_number_in {fd : FuncData} {tk1 tk2 : Tok} (F : FnP K "number_in" s_number_in fd) (B : Bi mg) (g1 : mg "FIGURES" = some (.str "0123456789" tk1)) (g2 : mg "LONGEST" = some (.int 7 tk2)) (X1 : ExcF K mg "BadText") : FnOk P w K mg base (L2N.CX P w) 1 (ga K "number_in") fd P_number_in (spNumIn K) := by
  refine F.okX sc_number_in (fun vs H Q E h => ?_) (fun cdv A outer s H vs Q E hr h => ⟨der_number_in B g1 g2 X1 hr, ?_⟩)
  · obtain ⟨w, rfl, _⟩ := h; rfl
  obtain ⟨w, rfl, hl, q, qE⟩ := h
  unfold der_number_in; dsimp only
  refine q_when (b := (!(decide (1 ≤ w.length) && decide (w.length ≤ 7))) || ((!(w.all isDg)) || (decide (w.head? = some 48) && !decide (w = [48])))) (et_or (et_not (et_test (ev_chain (i := 1) (j := (w.length : Int)) (k := 7) ev_c (ev_lenT (ev_var rfl) (by omega)) ev_c ?_))) fun _ => et_or (et_test (ev_notDg (ev_var rfl) (ev_lit lit_dg) (ev_lit lit_nil) (by omega))) fun _ => et_and (et_B (ev_starts (ev_var rfl) (ev_lit lit_0))) fun _ => et_test (ev_neS (ev_var rfl) (ev_lit lit_0))) (fun hb H1 e1 => qE (fun hn => ?_) H1 e1) fun hb H1 e1 => ?_
  · have e1 : decide (1 ≤ w.length) = decide ((1 : Int) ≤ (w.length : Int)) := by rw [decide_eq_decide]; omega
    have e2 : decide (w.length ≤ 7) = decide ((w.length : Int) ≤ 7) := by rw [decide_eq_decide]; omega
    rw [e1, e2]
  · have := isNum_iff.mpr hn
    unfold isNum at this
    revert hb this
    cases decide (1 ≤ w.length) <;> cases decide (w.length ≤ 7) <;> cases w.all isDg <;> cases decide (w.head? = some 48) <;> cases decide (w = [48]) <;> decide
  · have hn : NumOk w := by
      rw [← isNum_iff]
      unfold isNum
      revert hb
      cases decide (1 ≤ w.length) <;> cases decide (w.length ≤ 7) <;> cases w.all isDg <;> cases decide (w.head? = some 48) <;> cases decide (w = [48]) <;> decide
    exact s_ret (ev_cb (ea_cons (ev_var rfl) ea_nil) (rc_int hn)) fun H2 e2 => q hn H2 (e1.trans e2)
end
end Pk
namespace Pk
open PySem PySem.Spec PyProof.Rows L2 Evl He
section
variable {P : Program} {w : World} {K : PySem.W.Frag} {mg : Str → Option Value} {base : Heap}
open SX (S)
/-! ### read -/
def IsPW (H0 H : Hp) (v : V) (p : Nat) (ws : List Nat) : Prop := ∃ t l, v = .ref t ∧ H0 t = none ∧ H t = some (.tup [nat p, .ref l]) ∧ H0 l = none ∧ H l = some (.lst (vn ws))
def spRead (K : PySem.W.Frag) : Sp := fun vs H Q E => (∃ (x : V) (k : Kd), vs = [x] ∧ IsK K H x k ∧ k.isS = false ∧ RetT K "BadText" H E) ∨ ∃ cs : List Nat, vs = [.str (S cs)] ∧ cs.length ≤ 5000 ∧ (TextOk cs → ∀ v H2, Ex H H2 → IsPW H H2 v (placesOf cs) (wishesOf cs) → Q v H2) ∧ (¬ TextOk cs → RetT K "BadText" H E)
theorem FnP.okT {P : Program} {w : World} {K : PySem.W.Frag} {mg : Str → Option Value} {base : Heap} {x : Str} {st : Stmt} {fd : FuncData} {N ps : List Str} {k : Nat} {sp : Sp} (F : FnP K x st fd) (S : FnScope N ps (defScope st)) (len : ∀ vs H Q E, sp vs H Q E → vs.length = ps.length)
    (hbody : ∀ (cdv : Value) (A : Around) (outer : List Env) (s : Shared) (H : Hp) (vs : List V) (Q : VK) (E : XK), Room k (A.deeper (envOfC x (defScope st) s.heap.objs.size (ga K x) cdv)) → sp vs H Q E →
      ∃ t : {t : TS // PSs (cxOf (CXt P w) P w K mg base N x (defScope st) (ga K x) cdv A outer s H E) (defBody st) t}, t.1 { nx := fun _ H' => Q .non H', rt := Q } (start N vs) H) : FnOk P w K mg base (CXt P w) (k + 1) (ga K x) fd ps sp :=
  FunD.ok F S len fun cdv A outer s H vs Q E hr hsp => by
    obtain ⟨t, q⟩ := hbody cdv A outer s H vs Q E hr hsp
    exact ⟨t.1, t.2, q⟩
theorem q_asgQ {te : TE} {i : Nat} {tz : TS} {D : Ends} {σ : L2.St} {H : Hp} (h : te σ H fun v H1 => tz D (σ.set i (some v)) H1) : tSeq (tAsg te (gName i)) tz D σ H := h
theorem q_seq {D : Ends} {σ : L2.St} {H : Hp} {t u : TS} (h : t { D with nx := u D } σ H) : tSeq t u D σ H := h
theorem s_dropX2 {D : Ends} {σ : L2.St} {H : Hp} {sp : Sp} {E : L2.St → XK} {ta : TA} {vs : List V} (ha : EvA ta σ H vs) (k : ∀ H1, Ex H H1 → sp vs H1 (fun _ H2 => D.nx σ H2) (E σ)) : tDrop (tCallS sp E ta) D σ H := ha H (Ex.refl H) _ fun H1 e => k H1 e
theorem vt_get {cs : List Nat} : (vt (words cs))[0]? = some (.str (S (w0 cs))) := by
  unfold vt
  rw [words_eq]
  rfl
theorem vt_tail {cs : List Nat} : cutV (vt (words cs)) (some ((1 : Nat) : Int)) none = vt (wr cs) := by
  have h : 1 ≤ (vt (words cs)).length := by unfold vt; rw [List.length_map, words_eq, List.length_cons]; omega
  have e : (vt (words cs)).drop 1 = vt (wr cs) := by
    unfold vt
    rw [words_eq]
    rfl
  rw [← e]
  unfold cutV
  rw [HT.sIx_none, show HT.sIx (vt (words cs)).length 0 (some ((1 : Nat) : Int)) = min 1 (vt (words cs)).length from HT.sIx_nat _ 0 1, show min 1 (vt (words cs)).length = 1 by omega]
  exact List.take_of_length_le (by rw [List.length_drop]; exact Nat.le_refl _)
theorem wr_len (cs : List Nat) : (wr cs).length ≤ cs.length := by
  have h := words_len cs
  rw [words_eq, List.length_cons] at h
  omega
theorem w0_len (cs : List Nat) : (w0 cs).length ≤ cs.length := words_each (by rw [words_eq]; exact List.mem_cons_self)
theorem wr_each {cs w : List Nat} (h : w ∈ wr cs) : w.length ≤ cs.length := words_each (by rw [words_eq]; exact List.mem_cons_of_mem _ h)
theorem vt_at {ws : List (List Nat)} {i : Nat} {x : V} (h : (vt ws)[i]? = some x) : x = .str (S (ws.getD i [])) ∧ ws.getD i [] ∈ ws := by
  obtain ⟨w, hw, rfl⟩ := vmap_get h
  rw [List.getD_eq_getElem?_getD, hw]
  exact ⟨rfl, List.mem_of_getElem? hw⟩
theorem range_vt (ws : List (List Nat)) (f : List Nat → V) : (List.range (vt ws).length).map (fun i => f (ws.getD i [])) = ws.map f := by
  refine List.ext_getElem? fun i => ?_
  rw [List.getElem?_map, List.getElem?_map, show (vt ws).length = ws.length from List.length_map ..]
  by_cases h : i < ws.length
  · rw [List.getElem?_range h, List.getElem?_eq_getElem h]
    show some (f (ws.getD i [])) = _
    rw [List.getD_eq_getElem?_getD, List.getElem?_eq_getElem h]
    rfl
  · rw [List.getElem?_eq_none (by rw [List.length_range]; omega), List.getElem?_eq_none (by omega)]
    rfl
theorem all_getD {ws : List (List Nat)} {P : List Nat → Prop} (h : ∀ i, i < (vt ws).length → P (ws.getD i [])) : ∀ w ∈ ws, P w := fun w hw => by
  obtain ⟨i, hi⟩ := List.getElem?_of_mem hw
  have hl : i < ws.length := (List.getElem?_eq_some_iff.mp hi).1
  have := h i (by unfold vt; rw [List.length_map]; exact hl)
  rw [List.getD_eq_getElem?_getD, hi] at this
  exact this
theorem ok_read {fd fd1 fd2 : FuncData} (F : FnP K "read" s_read fd) (B : Bi mg) (C1 : Cal P w K mg base (L2N.CX P w) 2 "asked_wishes" P_asked_wishes (spAsked K) fd1) (C2 : Cal P w K mg base (L2N.CX P w) 1 "number_in" P_number_in (spNumIn K) fd2) (X1 : ExcF K mg "BadText") (X2 : ExcF K mg "BadWishes") (hE : PySem.W.exmOne K (.ref (ga K "BadWishes")) (.ref (ga K "BadWishes")) = some true) :
    FnOk P w K mg base (CXt P w) 3 (ga K "read") fd P_read (spRead K) := by
  refine F.okT sc_read (fun vs H Q E h => ?_) (fun cdv A outer s H vs Q E hr h => ⟨der_read B C1 C2 X1 X2 hr, ?_⟩)
  · rcases h with ⟨x, k, rfl, _⟩ | ⟨cs, rfl, _⟩ <;> rfl
  rcases h with ⟨x, k, rfl, hk, hb, qE⟩ | ⟨cs, rfl, hl, q, qE⟩
  · unfold der_read; dsimp only
    have tl := ev_cb (σ := L2.start N_read [x]) (H := H) (ea_cons (ev_var (i := 0) rfl) (ea_cons ev_c ea_nil)) (isi_k hk "str" (kit_str k))
    rw [hb] at tl
    exact q_when (b := !false) (et_not (et_B tl)) (fun _ H1 e1 => qE H1 e1) fun z => by cases z
  unfold der_read; dsimp only
  have hwl := words_len cs
  have hrl := wr_len cs
  have h0l := w0_len cs
  refine q_when (et_not (et_B (ev_cb (ea_cons (ev_var rfl) (ea_cons ev_c ea_nil)) (isi_str (k := true) "str" (by decide +kernel))))) (fun h => by cases h) fun _ H1 e1 => ?_
  refine q_asgL (el_split (ev_var rfl) (ev_lit lit_sp) (by omega)) fun l H2 hl2 e2 h2 => ?_
  have e12 := e1.trans e2
  refine q_when (et_not (et_B (ev_ends (w := w0 cs) (k := 58) (ev_ixN (i := 0) (ev_var rfl) ev_c (sq_of h2) vt_get) (ev_lit lit_co)))) (fun hb H3 e3 => qE (fun T => ?_) H3 (e12.trans e3)) fun hb H3 e3 => ?_
  · rw [decide_eq_true T.co] at hb
    cases hb
  have hco : (w0 cs).getLast? = some 58 := by simpa using hb
  have h3 := e3 _ _ h2
  have e13 := e12.trans e3
  refine q_asgX (vs := [.str (S (w0 cs).dropLast)]) (ea_cons (ev_is (ev_slT (ev_ixN (i := 0) (ev_var rfl) ev_c (sq_of h3) vt_get) eo_none (eo_m1 ev_c) (by omega)) (by rw [but_last])) ea_nil) fun H4 e4 => ?_
  have e14 := e13.trans e4
  refine ⟨_, rfl, by rw [List.length_dropLast]; omega, fun hn0 H5 e5 => ?_, fun hn H5 e5 => qE (fun T => hn T.n0) H5 (e14.trans e5)⟩
  have e15 := e14.trans e5
  have h5 := e5 _ _ (e4 _ _ h3)
  refine q_asgQ (lcX (xs := vt (wr cs)) (fun i => NumOk ((wr cs).getD i [])) (fun i => nat (dv ((wr cs).getD i []))) ?_ (by unfold vt; rw [List.length_map]; omega) (fun _ => rfl) (fun i x H6 Q1 e6 hx k => ?_) fun hall lw H6 hlw e6 h6 => ?_)
  · have g := el_sl (K := K) (te := tVar 1) (tl := tPart (tC (.int ((1 : Nat) : Int)))) (th := tNoPart) (σ := [some (.str (S cs)), some (.ref l), some (nat (dv (w0 cs).dropLast)), none, none]) (ev_var rfl) (eo_some ev_c) eo_none (sq_of h5)
    rw [vt_tail] at g
    exact g
  · obtain ⟨rfl, hm⟩ := vt_at hx
    have := wr_each hm
    refine ea_cons (ev_var rfl) ea_nil H6 (Ex.refl H6) _ fun H7 e7 => ?_
    exact ⟨_, rfl, by omega, fun hn H8 e8 => k hn H8 (e7.trans e8), fun hn H8 e8 => qE (fun T => hn (T.nr _ hm)) H8 (e15.trans (e6.trans (e7.trans e8)))⟩
  have hr := all_getD hall
  have e16 := e15.trans e6
  rw [range_vt (wr cs) fun w => nat (dv w)] at h6
  have h6' : H6 lw = some (.lst (vn (wishesOf cs))) := by
    rw [h6]
    unfold wishesOf vn
    rw [List.map_map]
    rfl
  have hwn : H lw = none := fresh_back e15 hlw
  have hwlen : (wishesOf cs).length ≤ 5000 := by unfold wishesOf; rw [List.length_map]; omega
  refine q_seq ?_
  dsimp only
  refine s_dropX2 (vs := [nat (placesOf cs), .ref lw]) (ea_cons (ev_var rfl) (ea_cons (ev_var rfl) ea_nil)) fun H7 e7 => ?_
  have h7 := e7 _ _ h6'
  have e17 := e16.trans e7
  by_cases hok : (1 ≤ placesOf cs ∧ placesOf cs ≤ 1000000) ∧ ∀ x ∈ wishesOf cs, x < placesOf cs
  · obtain ⟨⟨hp1, hp2⟩, hlt⟩ := hok
    have T : TextOk cs := ⟨hco, hn0, hr, hp1, hp2, fun w hw => hlt _ (List.mem_map.mpr ⟨w, hw, rfl⟩)⟩
    refine .inl ⟨placesOf cs, lw, wishesOf cs, rfl, hp1, hp2, sq_of h7, by omega, hlt, fun H8 e8 => ?_⟩
    refine s_retP (ep_tup (eap_cons (v := nat (placesOf cs)) (ev_var rfl) (eap_cons (v := .ref lw) (ev_var rfl) eap_nil)) (fun vs H9 hv => ?_) (fun vs H9 H10 e hv => hv)) fun v H9 e9 hv => ?_
    · obtain ⟨_, rfl, _, rfl, rfl⟩ := hv
      show 2 ≤ 100000
      decide
    · obtain ⟨t, vs, rfl, ht, h9, _, rfl, _, rfl, rfl⟩ := hv
      exact q T _ H9 (e17.trans (e8.trans e9)) ⟨t, lw, rfl, fresh_back (e17.trans e8) ht, h9, hwn, e9 _ _ (e8 _ _ h7)⟩
  · have hnT : ¬ TextOk cs := fun T => hok ⟨⟨T.p1, T.p2⟩, fun x hx => by
      obtain ⟨w, hw, rfl⟩ := List.mem_map.mp hx
      exact T.lt w hw⟩
    refine .inr ⟨nat (placesOf cs), .ref lw, rfl, ?_, fun H8 e8 => ⟨hE, qE hnT H8 (e17.trans e8)⟩⟩
    by_cases hp : 1 ≤ placesOf cs ∧ placesOf cs ≤ 1000000
    · refine ⟨.int (placesOf cs : Int), .lst (vn (wishesOf cs)), rfl, ⟨lw, rfl, sq_of h7⟩, .inr ⟨_, rfl, .inr ⟨_, (wishesOf cs).map fun (n : Nat) => Kd.int (n : Int), rfl, ?_, by rw [List.length_map]; omega, ?_⟩⟩⟩
      · have g := allK_ints (K := K) (H := H7) ((wishesOf cs).map fun (n : Nat) => (n : Int))
        rw [← vn_vi, List.map_map] at g
        exact g
      · cases hz : allN 0 ((placesOf cs : Int) - 1) ((wishesOf cs).map fun (n : Nat) => Kd.int (n : Int)) with
        | false => rfl
        | true =>
          refine absurd ⟨hp, fun x hx => ?_⟩ hok
          have := List.all_eq_true.mp hz (.int (x : Int)) (List.mem_map.mpr ⟨x, hx, rfl⟩)
          have h2 := of_decide_eq_true (show decide ((0 : Int) ≤ (x : Int) ∧ (x : Int) ≤ (placesOf cs : Int) - 1) = true from this)
          omega
    · refine ⟨.int (placesOf cs : Int), .lst (vn (wishesOf cs)), rfl, ⟨lw, rfl, sq_of h7⟩, .inl ?_⟩
      exact decide_eq_false (by omega)
end
end Pk
namespace Pk
open PySem PySem.Spec PyProof.Rows L2 Evl He
section
variable {P : Program} {w : World} {K : PySem.W.Frag} {mg : Str → Option Value} {base : Heap}
open SX (S)
/-! ### _law_number, _law_in -/
theorem ev_anyN {σ : L2.St} {H : Hp} {ta : TE} {bs : List Bool} (h : EvL ta σ H (bs.map V.bl)) : Ev (tCB (rAny K) (tCons ta tNil)) σ H (.bl (bs.any id)) := fun H1 e Q q =>
  h H1 e _ fun p H2 _ e2 h2 => ⟨p, bs, rfl, sq_of h2, q H2 e2⟩
def numV (w : List Nat) : V := if isNum w then nat (dv w) else .non
def spLNum (K : PySem.W.Frag) : Sp := fun vs H Q _ => ∃ w : List Nat, vs = [.str (S w)] ∧ w.length ≤ 5000 ∧ RetV (numV w) H Q
theorem ok_law_number {fd : FuncData} (F : FnP K "_law_number" s_law_number fd) (B : Bi mg) : FnOk P w K mg base CX0 1 (ga K "_law_number") fd P_law_number (spLNum K) := by
  refine F.ok sc_law_number (fun vs H Q E h => ?_) (fun cdv A outer s H vs Q E hr h => ⟨der_law_number B hr, ?_⟩)
  · obtain ⟨w, rfl, _⟩ := h; rfl
  obtain ⟨w, rfl, hl, q⟩ := h
  unfold der_law_number; dsimp only
  have t1 : EvL (tLc (iStr (tVar 0)) (gName 1) tYes (tOp (fun x y H Q => ∃ (c : Nat) (z : Str), x = .str ⟨#[c]⟩ ∧ y = .str z ∧ Q (.bl (decide (c ∈ z.cps.toList))) H) (tVar 1) (tC (.str (Str.ofString "0123456789")))) [1]) (L2.start N_law_number [.str (S w)]) H ((w.map isDg).map V.bl) := by
    rw [List.map_map]
    exact el_lcS (V.bl ∘ isDg) (ev_var rfl) (by omega) (fun _ => rfl) fun c H1 e1 hc => ev_inDg (ev_var rfl) (ev_lit lit_dg)
  have e1 : ((w.map isDg).all id) = w.all isDg := by rw [List.all_map]; rfl
  have t2 := ev_allN (K := K) t1
  rw [e1] at t2
  refine q_when (b := decide (w = []) || (decide (7 < w.length) || (!(w.all isDg)))) (et_or (et_test (ev_eqS (ev_var rfl) (ev_lit lit_nil))) fun _ => et_or (et_test (ev_cmp (i := (w.length : Int)) (j := 7) (ev_lenT (ev_var rfl) (by omega)) ev_c (by rw [decide_eq_decide]; omega))) fun _ => et_not (et_B t2)) (fun hb H1 e1 => ?_) fun hb H1 e1 => ?_
  · have hn : isNum w = false := by
      cases h : isNum w with
      | false => rfl
      | true =>
        have N := isNum_iff.mp h
        rw [Bool.or_eq_true, Bool.or_eq_true, decide_eq_true_eq, decide_eq_true_eq, N.dg] at hb
        have h1 := N.l1
        have h2 := N.l2
        rcases hb with hb | hb | hb
        · rw [hb] at h1
          exact absurd h1 (by decide)
        · omega
        · cases hb
    refine s_ret (v := .non) ev_c fun H2 e2 => ?_
    have := q H2 (e1.trans e2)
    rw [show numV w = .non by unfold numV; rw [hn]; rfl] at this
    exact this
  rw [Bool.or_eq_false_iff, Bool.or_eq_false_iff, decide_eq_false_iff_not, decide_eq_false_iff_not] at hb
  obtain ⟨hne, hl7, hd⟩ := hb
  have hdg : w.all isDg = true := by simpa using hd
  have hl1 : 1 ≤ w.length := by
    cases w with
    | nil => exact absurd rfl hne
    | cons a r => rw [List.length_cons]; omega
  obtain ⟨c, r, hcr⟩ : ∃ c r, w = c :: r := by
    cases w with
    | nil => exact absurd rfl hne
    | cons a r => exact ⟨a, r, rfl⟩
  have hg : w[0]? = some c := by rw [hcr]; rfl
  have hh : w.head? = some c := by rw [hcr]; rfl
  refine q_when (b := decide (c = 48) && !decide (w = [48])) (et_and (et_test (ev_is (ev_eqS (ev_ixS0 (ev_var rfl) ev_c hg (by omega)) (ev_lit lit_0)) (by rw [one_eq]))) fun _ => et_test (ev_neS (ev_var rfl) (ev_lit lit_0))) (fun hb H2 e2 => ?_) fun hb H2 e2 => ?_
  · rw [Bool.and_eq_true, decide_eq_true_eq] at hb
    have hn : isNum w = false := by
      cases h : isNum w with
      | false => rfl
      | true =>
        have N := isNum_iff.mp h
        have := N.hd (by rw [hh, hb.1])
        rw [this] at hb
        simp at hb
    refine s_ret (v := .non) ev_c fun H3 e3 => ?_
    have := q H3 ((e1.trans e2).trans e3)
    rw [show numV w = .non by unfold numV; rw [hn]; rfl] at this
    exact this
  · have N : NumOk w := ⟨hl1, by omega, hdg, fun h => by
      rw [hh] at h
      have hc : c = 48 := Option.some.inj h
      rw [decide_eq_true hc, Bool.true_and] at hb
      simpa using hb⟩
    refine s_ret (v := nat (dv w)) (ev_cb (ea_cons (ev_var rfl) ea_nil) (rc_int N)) fun H3 e3 => ?_
    have := q H3 ((e1.trans e2).trans e3)
    rw [show numV w = nat (dv w) by unfold numV; rw [isNum_iff.mpr N]; rfl] at this
    exact this
theorem sv_lnum {H : Hp} {w : List Nat} (h : w.length ≤ 5000) : SpV (spLNum K) [.str (S w)] H (numV w) := fun H1 e Q q E => ⟨w, rfl, h, q⟩
theorem numV_yes {w : List Nat} (h : NumOk w) : numV w = nat (dv w) := by unfold numV; rw [isNum_iff.mpr h]; rfl
theorem numV_no {w : List Nat} (h : ¬ NumOk w) : numV w = .non := by
  unfold numV
  cases e : isNum w with
  | false => rfl
  | true => exact absurd (isNum_iff.mp e) h
def spLIn (K : PySem.W.Frag) : Sp := fun vs H Q _ => ∃ cs : List Nat, vs = [.str (S cs)] ∧ cs.length ≤ 5000 ∧ (TextOk cs → ∀ v H2, Ex H H2 → IsPW H H2 v (placesOf cs) (wishesOf cs) → Q v H2) ∧ (¬ TextOk cs → RetV .non H Q)
theorem ok_law_in {fd fd1 : FuncData} (F : FnP K "_law_in" s_law_in fd) (B : Bi mg) (C1 : Cal P w K mg base CX0 1 "_law_number" P_law_number (spLNum K) fd1) : FnOk P w K mg base CX0 2 (ga K "_law_in") fd P_law_in (spLIn K) := by
  refine F.ok sc_law_in (fun vs H Q E h => ?_) (fun cdv A outer s H vs Q E hr h => ⟨der_law_in B C1 hr, ?_⟩)
  · obtain ⟨cs, rfl, _⟩ := h; rfl
  obtain ⟨cs, rfl, hl, q, qN⟩ := h
  unfold der_law_in; dsimp only
  have hwl := words_len cs
  have hrl := wr_len cs
  have h0l := w0_len cs
  refine q_asgL (el_split (ev_var rfl) (ev_lit lit_sp) (by omega)) fun l H2 hl2 e2 h2 => ?_
  refine q_asg (v := numV (w0 cs).dropLast) (ev_call (vs := [.str (S (w0 cs).dropLast)]) (ea_cons (ev_is (ev_slT (ev_ixN (i := 0) (ev_var rfl) ev_c (sq_of h2) vt_get) eo_none (eo_m1 ev_c) (by omega)) (by rw [but_last])) ea_nil) (sv_lnum (by rw [List.length_dropLast]; omega))) fun H3 e3 => ?_
  have h3 := e3 _ _ h2
  have e13 := e2.trans e3
  have tlast : Ev (tOp rNe (tSl rSlS (tOp (rIxL K) (tVar 1) (tC (.int 0))) (tPart (tUn (rU fun i => .int (-i)) (tC (.int 1)))) tNoPart) (tC (.str (Str.ofString ":")))) [some (.str (S cs)), some (.ref l), some (numV (w0 cs).dropLast), none, none, none] H3 (.bl (!decide ((w0 cs).getLast? = some 58))) := by
    refine ev_is (ev_neS (ev_is (ev_slT (ev_ixN (i := 0) (ev_var rfl) ev_c (sq_of h3) vt_get) (eo_m1 ev_c) eo_none (by omega)) (by rw [the_last])) (ev_lit lit_co)) ?_
    congr 2
    rw [decide_eq_decide]
    cases (w0 cs).getLast? with
    | none => simp
    | some c => simp
  by_cases hA : (w0 cs).getLast? = some 58 ∧ NumOk (w0 cs).dropLast ∧ 1 ≤ placesOf cs ∧ placesOf cs ≤ 1000000
  rotate_left
  · -- no places
    have tT : ∃ b, EvT (tOr (tTest (tOp rNe (tSl rSlS (tOp (rIxL K) (tVar 1) (tC (.int 0))) (tPart (tUn (rU fun i => .int (-i)) (tC (.int 1)))) tNoPart) (tC (.str (Str.ofString ":"))))) (tOr (tTest (tOp (fun x y H Q => y = .non ∧ Q (.bl (decide (x = .non))) H) (tVar 2) (tC .non))) (tNot (tTest (tChain (rI0 fun i j => .bl (decide (i ≤ j))) (rI0 fun i j => .bl (decide (i ≤ j))) (tC (.int 1)) (tVar 2) (tC (.int 1000000))))))) [some (.str (S cs)), some (.ref l), some (numV (w0 cs).dropLast), none, none, none] H3 b ∧ b = true := by
      by_cases hn : NumOk (w0 cs).dropLast
      · refine ⟨_, et_or (et_test tlast) fun _ => et_or (et_test (ev_isNone (ev_var rfl) ev_c)) fun _ => et_not (et_test (ev_chain (i := 1) (j := (placesOf cs : Int)) (k := 1000000) ev_c (ev_is (ev_var rfl) (numV_yes hn)) ev_c rfl)), ?_⟩
        rw [Bool.or_eq_true, Bool.or_eq_true]
        by_cases hc : (w0 cs).getLast? = some 58
        · refine .inr (.inr ?_)
          rw [Bool.not_eq_true', Bool.and_eq_false_iff, decide_eq_false_iff_not, decide_eq_false_iff_not]
          by_cases h1 : 1 ≤ placesOf cs
          · exact .inr fun h2 => hA ⟨hc, hn, h1, by omega⟩
          · exact .inl (by omega)
        · exact .inl (by rw [decide_eq_false hc]; rfl)
      · refine ⟨(!decide ((w0 cs).getLast? = some 58)) || (true || true), et_or (et_test tlast) fun _ => et_or (et_test (ev_is (w := .bl true) (ev_isNone (x := numV (w0 cs).dropLast) (ev_var rfl) ev_c) (by rw [numV_no hn]; rfl))) fun z => (nomatch z), by rw [Bool.true_or, Bool.or_true]⟩
    obtain ⟨b, tb, rfl⟩ := tT
    refine q_when tb (fun _ H4 e4 => ?_) fun z => by cases z
    exact s_ret (v := .non) ev_c fun H5 e5 => qN (fun T => hA ⟨T.co, T.n0, T.p1, T.p2⟩) H5 (e13.trans (e4.trans e5))
  obtain ⟨hco, hn, hp1, hp2⟩ := hA
  have hpv : numV (w0 cs).dropLast = nat (placesOf cs) := numV_yes hn
  refine q_when (b := (!decide ((w0 cs).getLast? = some 58)) || (false || !(true && true))) (et_or (et_test tlast) fun _ => et_or (et_test (ev_is (ev_isNone (ev_var rfl) ev_c) (by rw [hpv]; rfl))) fun _ => et_not (et_test (ev_chain (i := 1) (j := (placesOf cs : Int)) (k := 1000000) ev_c (ev_is (ev_var rfl) hpv) ev_c (by rw [decide_eq_true (show (1 : Int) ≤ (placesOf cs : Int) by omega), decide_eq_true (show (placesOf cs : Int) ≤ 1000000 by omega)])))) (fun hb => ?_) fun _ H4 e4 => ?_
  · rw [decide_eq_true hco] at hb
    cases hb
  have h4 := e4 _ _ h3
  have e14 := e13.trans e4
  have gw := el_sl (K := K) (te := tVar 1) (tl := tPart (tC (.int ((1 : Nat) : Int)))) (th := tNoPart) (σ := [some (.str (S cs)), some (.ref l), some (numV (w0 cs).dropLast), none, none, none]) (ev_var rfl) (eo_some ev_c) eo_none (sq_of h4)
  rw [vt_tail] at gw
  refine q_asgL (xs := (wr cs).map numV) (el_nl (c := fun w => V.str (S w)) numV gw (by omega) (fun _ => rfl) fun i w H5 e5 hw => ev_call (vs := [.str (S w)]) (ea_cons (ev_var rfl) ea_nil) (sv_lnum (by have := wr_each (List.mem_of_getElem? hw); omega))) fun lw H5 hlw e5 h5 => ?_
  have hlwn : H lw = none := fresh_back e14 hlw
  have e15 := e14.trans e5
  have ta : Ev (tCB (rAny K) (tCons (tLc (iList K (tVar 3)) (gName 5) tYes (tOrV (tOp (fun x y H Q => y = .non ∧ Q (.bl (decide (x = .non))) H) (tVar 5) (tC .non)) (tOp (rI0 fun i j => .bl (decide (i ≥ j))) (tVar 5) (tVar 2))) [5]) tNil)) [some (.str (S cs)), some (.ref l), some (numV (w0 cs).dropLast), some (.ref lw), none, none] H5 (.bl (((wr cs).map fun w => !isNum w || decide (placesOf cs ≤ dv w)).any id)) := fun H6 e6 Q q6 => by
    have g := el_ls (K := K) (σ := [some (.str (S cs)), some (.ref l), some (numV (w0 cs).dropLast), some (.ref lw), none, none]) (H := H5) (a := lw) (ys := wr cs) (te := tOrV (tOp (fun x y H Q => y = .non ∧ Q (.bl (decide (x = .non))) H) (tVar 5) (tC .non)) (tOp (rI0 fun i j => .bl (decide (i ≥ j))) (tVar 5) (tVar 2))) (tl := tVar 3) (j := 5) (vs := [5]) numV (V.bl ∘ fun w => !isNum w || decide (placesOf cs ≤ dv w)) (ev_var rfl) (sq_of h5) (by omega) (fun _ => rfl) fun i w H7 e7 hw => by
      by_cases hnw : NumOk w
      · refine ev_is (ev_orV (a := false) (b := decide (placesOf cs ≤ dv w)) (ev_is (ev_isNone (ev_var rfl) ev_c) (by rw [numV_yes hnw]; rfl)) fun _ => ev_cmp (i := (dv w : Int)) (j := (placesOf cs : Int)) (ev_is (ev_var rfl) (numV_yes hnw)) (ev_is (ev_var rfl) hpv) (by rw [decide_eq_decide]; omega)) ?_
        show V.bl _ = V.bl (!isNum w || decide (placesOf cs ≤ dv w))
        rw [isNum_iff.mpr hnw]
        rfl
      · refine ev_is (ev_orV (a := true) (b := true) (ev_is (ev_isNone (ev_var rfl) ev_c) (by rw [numV_no hnw]; rfl)) fun z => by cases z) ?_
        show V.bl _ = V.bl (!isNum w || decide (placesOf cs ≤ dv w))
        rw [show isNum w = false by cases e : isNum w with
          | false => rfl
          | true => exact absurd (isNum_iff.mp e) hnw]
        rfl
    rw [← List.map_map] at g
    exact ev_anyN g H6 e6 Q q6
  refine q_when (et_B ta) (fun hb H6 e6 => ?_) fun hb H6 e6 => ?_
  · refine s_ret (v := .non) ev_c fun H7 e7 => qN (fun T => ?_) H7 (e15.trans (e6.trans e7))
    obtain ⟨b, hm, hbt⟩ := List.any_eq_true.mp hb
    obtain ⟨w, hw, rfl⟩ := List.mem_map.mp hm
    have h1 := T.lt w hw
    rw [isNum_iff.mpr (T.nr w hw)] at hbt
    have h2 : decide (placesOf cs ≤ dv w) = true := by simpa using hbt
    have := of_decide_eq_true h2
    omega
  · have hall : ∀ w ∈ wr cs, NumOk w ∧ dv w < placesOf cs := fun w hw => by
      have h1 : (!isNum w || decide (placesOf cs ≤ dv w)) = false := by
        cases hz : (!isNum w || decide (placesOf cs ≤ dv w)) with
        | false => rfl
        | true =>
          rw [List.any_eq_true.mpr ⟨true, List.mem_map.mpr ⟨w, hw, hz⟩, rfl⟩] at hb
          cases hb
      rw [Bool.or_eq_false_iff, decide_eq_false_iff_not, Bool.not_eq_false'] at h1
      exact ⟨isNum_iff.mp h1.1, by omega⟩
    have T : TextOk cs := ⟨hco, hn, fun w hw => (hall w hw).1, hp1, hp2, fun w hw => (hall w hw).2⟩
    have h5' : H5 lw = some (.lst (vn (wishesOf cs))) := by
      rw [h5]
      congr 2
      unfold wishesOf vn
      rw [List.map_map]
      exact List.map_congr_left fun w hw => numV_yes (hall w hw).1
    refine s_retP (ep_tup (eap_cons (v := nat (placesOf cs)) (ev_is (ev_var rfl) hpv) (eap_cons (v := .ref lw) (ev_var rfl) eap_nil)) (fun vs H9 hv => ?_) (fun vs H9 H10 e hv => hv)) fun v H9 e9 hv => ?_
    · obtain ⟨_, rfl, _, rfl, rfl⟩ := hv
      show 2 ≤ 100000
      decide
    · obtain ⟨t, vs, rfl, ht, h9, _, rfl, _, rfl, rfl⟩ := hv
      exact q T _ H9 (e15.trans (e6.trans e9)) ⟨t, lw, rfl, fresh_back (e15.trans e6) ht, h9, hlwn, e9 _ _ (e6 _ _ h5')⟩
end
end Pk
namespace Pk
open PySem PySem.Spec PyProof.Rows L2 Evl He
section
variable {P : Program} {w : World} {K : PySem.W.Frag} {mg : Str → Option Value} {base : Heap}
open SX (S)
/-! ### _law_asked -/
def Refused (H : Hp) (v : V) : Prop := ∃ t, v = .ref t ∧ H t = some (.tup [.str (Str.ofString "refused"), .non])
def Made (H0 H : Hp) (v : V) (p : Nat) (ws : List Nat) : Prop := ∃ t f, v = .ref t ∧ H t = some (.tup [.str (Str.ofString "made"), f]) ∧ IsPW H0 H f p ws
def spLAsked (K : PySem.W.Frag) : Sp := fun vs H Q _ => (∃ (x : V) (k : Kd), vs = [x] ∧ IsK K H x k ∧ k.isS = false ∧ ∀ v H2, Ex H H2 → Refused H2 v → Q v H2) ∨ ∃ cs : List Nat, vs = [.str (S cs)] ∧ cs.length ≤ 5000 ∧ (TextOk cs → ∀ v H2, Ex H H2 → Made H H2 v (placesOf cs) (wishesOf cs) → Q v H2) ∧ (¬ TextOk cs → ∀ v H2, Ex H H2 → Refused H2 v → Q v H2)
abbrev isE1 (K : PySem.W.Frag) (x : Str) (a : Addr) (y : Str) : TE := tCB (rIsE2 K (.ref (ga K x)) none a) (tCons (tVar 1) (tCons (tC (.ref (ga K y))) tNil))
theorem s_retTupX {D : Ends} {σ : L2.St} {H : Hp} {sp : Sp} {E : L2.St → XK} {ta : TA} {vs : List V} {c : V} (ha : EvA ta σ H vs) (k : ∀ H1, Ex H H1 → sp vs H1 (fun v H2 => [c, v].length ≤ sizeLine ∧ ∀ p, H2 p = none → D.rt (.ref p) (upd H2 p (.tup [c, v]))) (E σ)) : tRet (tTup (tCons (tC c) (tCons (tCallS sp E ta) tNil))) D σ H := ha H (Ex.refl H) _ fun H1 e => k H1 e
theorem s_refused {D : Ends} {σ : L2.St} {H H0 : Hp} (e : Ex H0 H) (q : ∀ v H2, Ex H0 H2 → Refused H2 v → D.rt v H2) : tRet (tTup (tCons (tC (.str (Str.ofString "refused"))) (tCons (tC .non) tNil))) D σ H := by
  refine s_retP (ep_tup (eap_cons (v := .str (Str.ofString "refused")) ev_c (eap_cons (v := .non) ev_c eap_nil)) (fun vs H9 hv => ?_) (fun vs H9 H10 e hv => hv)) fun v H9 e9 hv => ?_
  · obtain ⟨_, rfl, _, rfl, rfl⟩ := hv
    show 2 ≤ 100000
    decide
  · obtain ⟨t, vs, rfl, ht, h9, _, rfl, _, rfl, rfl⟩ := hv
    exact q _ H9 (e.trans e9) ⟨t, rfl, h9⟩
theorem asked_hnd {D : Ends} {H H0 : Hp} {a : Addr} {v0 v2 : Option V} (X : ErrX K "BadText") (e : Ex H0 H) (q : ∀ σ' H', Ex H0 H' → D.nx σ' H') :
    tSeq (tAsg (tLst (tCons (isE1 K "BadText" a "BadWishes") (tCons (isE1 K "BadText" a "TooMany") (tCons (isE1 K "BadText" a "BadTree") tNil)))) (gName 2)) (tSeq (tAsg (tOp rCat (tVar 2) (tLst (tCons (isE1 K "BadText" a "BadPath") (tCons (isE1 K "BadText" a "BadStanding") tNil)))) (gName 2)) (tIfS (tOr (tB (tCB (rAny K) (tCons (tVar 2) tNil))) (tNot (tB (isE1 K "BadText" a "BadText")))) (tRet (tTup (tCons (tC (.str (Str.ofString "other"))) (tCons (tC .non) tNil)))) tNext)) D [v0, some (.ref a), v2] H := by
  have is : ∀ {σ : L2.St} {G : Hp} {y : Str} {b : Bool}, σ[1]? = some (some (.ref a)) → y ∈ errNames → decide ((Str.ofString "BadText") = y) = b → Ev (isE1 K "BadText" a y) σ G (.bl b) := fun hσ hy hb => ev_cb (ea_cons (ev_var hσ) (ea_cons ev_c ea_nil)) (rc_isE X hy hb)
  refine q_asgL (xs := [false, false, false].map V.bl) (el_lst (ea_cons (is rfl (by decide) (by decide)) (ea_cons (is rfl (by decide) (by decide)) (ea_cons (is rfl (by decide) (by decide)) ea_nil))) (by decide)) fun l1 H3 hl1 e3 h3 => ?_
  refine q_asgL (xs := [false, false, false, false, false].map V.bl) (el_cat (ev_var rfl) h3 (el_lst (vs := [false, false].map V.bl) (ea_cons (is rfl (by decide) (by decide)) (ea_cons (is rfl (by decide) (by decide)) ea_nil)) (by decide)) (by decide)) fun l2 H4 hl2 e4 h4 => ?_
  refine s_when (b := [false, false, false, false, false].any id || !true) (et_or (et_B (ev_cb (ea_cons (ev_var rfl) ea_nil) (rc_any (sq_of h4)))) fun _ => et_not (et_B (is rfl (by decide) (by decide)))) (fun z => by cases z) fun _ H5 e5 => q _ H5 (e.trans (e3.trans (e4.trans e5)))
theorem ok_law_asked {fd fd1 : FuncData} (F : FnP K "_law_asked" s_law_asked fd) (B : Bi mg) (C1 : Cal P w K mg base (CXt P w) 3 "read" P_read (spRead K) fd1) (X1 : ExcF K mg "BadPath") (X2 : ExcF K mg "BadStanding") (X3 : ExcF K mg "BadText") (X4 : ExcF K mg "BadTree") (X5 : ExcF K mg "BadWishes") (X6 : ExcF K mg "TooMany") (X7 : ExcF K mg "StreetError") (EX : ErrX K "BadText") :
    FnOk P w K mg base CX0 4 (ga K "_law_asked") fd P_law_asked (spLAsked K) := by
  refine F.ok sc_law_asked (fun vs H Q E h => ?_) (fun cdv A outer s H vs Q E hr h => ⟨der_law_asked B C1 X1 X2 X3 X4 X5 X6 X7 hr, ?_⟩)
  · rcases h with ⟨x, k, rfl, _⟩ | ⟨cs, rfl, _⟩ <;> rfl
  rcases h with ⟨x, k, rfl, hk, hb, q⟩ | ⟨cs, rfl, hl, q, qN⟩
  · unfold der_law_asked; dsimp only
    refine q_seq ?_
    dsimp only
    refine s_retTupX (vs := [x]) (ea_cons (ev_var rfl) ea_nil) fun H1 e1 => .inl ⟨x, k, rfl, hk.ex e1, hb, fun H2 e2 => ⟨true, EX.exm, fun _ c hc => asked_hnd EX (e1.trans e2) fun σ' H' e' => s_refused (σ := σ'.set 1 none) e' q, fun z => nomatch z⟩⟩
  · unfold der_law_asked; dsimp only
    refine q_seq ?_
    dsimp only
    refine s_retTupX (vs := [.str (S cs)]) (ea_cons (ev_var rfl) ea_nil) fun H1 e1 => .inr ⟨cs, rfl, hl, fun T f H2 e2 hf => ⟨sz_of (by show 2 ≤ _; decide), fun p hp => ?_⟩, fun hn H2 e2 => ⟨true, EX.exm, fun _ c hc => asked_hnd EX (e1.trans e2) fun σ' H' e' => s_refused (σ := σ'.set 1 none) e' (qN hn), fun z => nomatch z⟩⟩
    obtain ⟨t, l, rfl, ht, h1, hl1, h2⟩ := hf
    have en := Ex.new (H := H2) (p := p) (o := .tup [.str (Str.ofString "made"), .ref t]) hp
    exact q T _ _ ((e1.trans e2).trans en) ⟨p, .ref t, rfl, upd_same, t, l, rfl, fresh_back e1 ht, en _ _ h1, fresh_back e1 hl1, en _ _ h2⟩
/-! ### _law_right -/
theorem dp_pw {H : Hp} {t l : Addr} {p : Nat} {ws : List Nat} (h1 : H t = some (.tup [nat p, .ref l])) (h2 : H l = some (.lst (vn ws))) : Dp K H (.ref t) (.tuple [.int (p : Int), pdi (ws.map fun (n : Nat) => (n : Int))]) :=
  .tup (st_of h1) (.cons (.int _) (.cons (dp_ints (by rw [← vn_vi]; exact sq_of h2)) .nil))
theorem shaped_pw (p : Int) (ns : List Int) : SeqAt.shaped (.tuple [.int p, pdi ns]) = true := by
  have h := depth_ints ns
  have h2 := canLay_ints ns
  unfold SeqAt.shaped pdi
  rw [Bool.and_eq_true_iff]
  refine ⟨by simp [PyData.canLay0, PyData.canLayAll0, h2], decide_eq_true ?_⟩
  simp only [PyData.depth, PyData.depthAll]
  omega
theorem eqv_pw (p : Int) (ns : List Int) : PyData.eqv (.tuple [.int p, pdi ns]) (.tuple [.int p, pdi ns]) = true := by
  show (PyData.eqv (.int p) (.int p) && (PyData.eqv (pdi ns) (pdi ns) && true)) = true
  rw [eqv_ints]
  show ((p == p) && (decide (ns = ns) && true)) = true
  simp
theorem rv_nePW {H : Hp} {t1 l1 t2 l2 : Addr} {p : Nat} {ws : List Nat} (h1 : H t1 = some (.tup [nat p, .ref l1])) (h2 : H l1 = some (.lst (vn ws))) (h3 : H t2 = some (.tup [nat p, .ref l2])) (h4 : H l2 = some (.lst (vn ws))) : RV (rNeD K) (.ref t1) (.ref t2) H (.bl false) := fun H1 e Q q =>
  ⟨_, _, dp_pw (e _ _ h1) (e _ _ h2), dp_pw (e _ _ h3) (e _ _ h4), shaped_pw _ _, shaped_pw _ _, by rw [eqv_pw]; exact q H1 (Ex.refl H1)⟩
theorem rv_eqPW {H : Hp} {t1 l1 t2 l2 : Addr} {p : Nat} {ws : List Nat} (h1 : H t1 = some (.tup [nat p, .ref l1])) (h2 : H l1 = some (.lst (vn ws))) (h3 : H t2 = some (.tup [nat p, .ref l2])) (h4 : H l2 = some (.lst (vn ws))) : RV (rEqD K) (.ref t1) (.ref t2) H (.bl true) := fun H1 e Q q =>
  ⟨_, _, dp_pw (e _ _ h1) (e _ _ h2), dp_pw (e _ _ h3) (e _ _ h4), shaped_pw _ _, shaped_pw _ _, by rw [eqv_pw]; exact q H1 (Ex.refl H1)⟩
theorem IsPW.back {H0 H1 H2 : Hp} {v : V} {p : Nat} {ws : List Nat} (h : IsPW H1 H2 v p ws) (e : Ex H0 H1) : IsPW H0 H2 v p ws := by
  obtain ⟨t, l, rfl, h1, h2, h3, h4⟩ := h
  exact ⟨t, l, rfl, fresh_back e h1, h2, fresh_back e h3, h4⟩
theorem ev_ixT0 {σ : L2.St} {H : Hp} {ta tb : TE} {t : Addr} {xs : List V} {i : Nat} {v : V} (ha : Ev ta σ H (.ref t)) (hb : Ev tb σ H (nat i)) (h : H t = some (.tup xs)) (hi : xs[i]? = some v) : Ev (tOp (rIxT K) ta tb) σ H v := ev_op ha hb (rv_ixT (st_of h) (at_nat hi))
theorem ev_neZ {σ : L2.St} {H : Hp} {ta tb : TE} {a b : Str} (ha : Ev ta σ H (.str a)) (hb : Ev tb σ H (.str b)) : Ev (tOp rNe ta tb) σ H (.bl (!decide (V.str a = V.str b))) := ev_op ha hb (rv_ne rfl)
theorem ev_eqZ {σ : L2.St} {H : Hp} {ta tb : TE} {a b : Str} (ha : Ev ta σ H (.str a)) (hb : Ev tb σ H (.str b)) : Ev (tOp rEq ta tb) σ H (.bl (decide (V.str a = V.str b))) := ev_op ha hb (rv_eq rfl)
def spLRight (K : PySem.W.Frag) : Sp := fun vs H Q _ => ∃ cs : List Nat, vs = [.str (S cs)] ∧ cs.length ≤ 5000 ∧ RetV (.bl true) H Q
theorem ok_law_right {fd fd1 fd2 fd3 fd4 : FuncData} (F : FnP K "_law_right" s_law_right fd) (B : Bi mg) (C1 : Cal P w K mg base CX0 4 "_law_asked" P_law_asked (spLAsked K) fd1) (C2 : Cal P w K mg base CX0 2 "_law_in" P_law_in (spLIn K) fd2) (C3 : Cal P w K mg base (CXt P w) 3 "read" P_read (spRead K) fd3) (C4 : Cal P w K mg base (L2N.CX P w) 3 "written" P_written (spWritten K) fd4) :
    FnOk P w K mg base CX0 5 (ga K "_law_right") fd P_law_right (spLRight K) := by
  refine F.ok sc_law_right (fun vs H Q E h => ?_) (fun cdv A outer s H vs Q E hr h => ⟨der_law_right B C1 C2 C3 C4 hr, ?_⟩)
  · obtain ⟨cs, rfl, _⟩ := h; rfl
  obtain ⟨cs, rfl, hl, q⟩ := h
  unfold der_law_right; dsimp only
  refine q_asgX (vs := [.str (S cs)]) (ea_cons (ev_var rfl) ea_nil) fun H1 e1 => ⟨cs, rfl, hl, fun T v H2 e2 hv => ?_, fun hn H2 e2 => ?_⟩
  · have hwl : (wishesOf cs).length ≤ 10000 := by unfold wishesOf; rw [List.length_map]; have := wr_len cs; omega
    have hlt : ∀ x ∈ wishesOf cs, x < placesOf cs := fun x hx => by
      obtain ⟨w, hw, rfl⟩ := List.mem_map.mp hx
      exact T.lt w hw
    obtain ⟨t1, l1, rfl, ht1, h1, hl1, h2⟩ := hv
    refine q_un2 (K := K) (ep_call (vs := [.str (S cs)]) (Φ := fun v H3 => Made H2 H3 v (placesOf cs) (wishesOf cs)) (ea_cons (ev_var rfl) ea_nil) fun H3 e3 Q3 q3 E3 => .inr ⟨cs, rfl, hl, fun _ v H4 e4 hv => q3 v H4 e4 (by
      obtain ⟨t, f, rfl, g1, g2⟩ := hv
      exact ⟨t, f, rfl, g1, g2.back e3⟩), fun hn => absurd T hn⟩) fun v H3 e3 hv => ?_
    obtain ⟨t, f, rfl, g1, t3, l3, rfl, ht3, g2, hl3, g3⟩ := hv
    refine ⟨t, _, _, rfl, st_of g1, ?_⟩
    have n1 : l1 ≠ l3 := ne_of_none h2 hl3
    have n2 : t1 ≠ l3 := ne_of_none h1 hl3
    have e23 : Ex H H3 := e1.trans (e2.trans e3)
    refine q_when (b := false) (et_test (ev_isNone (x := .ref t1) (ev_var rfl) ev_c)) (fun z => by cases z) fun _ H4 e4 => ?_
    have hk : IsK K H4 (.ref t3) (.tup [nat (placesOf cs), .ref l3]) := ⟨t3, rfl, st_of (e4 _ _ g2)⟩
    have m1 := e4 _ _ (e3 _ _ h1)
    have m2 := e4 _ _ (e3 _ _ h2)
    refine q_when (b := false || (!true || (false || false))) (et_or (et_test (ev_is (ev_neZ (ev_var rfl) ev_c) (by rw [decide_eq_true rfl]; rfl))) fun _ => et_or (et_not (et_B (ev_cb (ea_cons (ev_var rfl) (ea_cons ev_c ea_nil)) (isi_k hk "tuple" (by decide +kernel : kitB "tuple" "tuple" = some true))))) fun _ => et_or (et_test (ev_op (ev_var rfl) (ev_var rfl) (rv_nePW (e4 _ _ g2) (e4 _ _ g3) m1 m2))) fun _ => et_test (ev_is (ev_neS (ev_call (vs := [nat (placesOf cs), .ref l1]) (ea_cons (ev_ixT0 (i := 0) (ev_var rfl) ev_c m1 rfl) (ea_cons (ev_ixT0 (i := 1) (ev_var rfl) ev_c m1 rfl) ea_nil)) (sv_written T.p1 T.p2 (sq_of m2) hwl hlt)) (ev_var rfl)) (by rw [show txtL (placesOf cs) (wishesOf cs) = cs from T.back, decide_eq_true rfl]; rfl))) (fun z => by cases z) fun _ H5 e5 => ?_
    refine q_app (l := l3) (xs := vn (wishesOf cs)) (v := nat 0) (e5 _ _ (e4 _ _ g3)) (ev_ixT0 (i := 1) (ev_var rfl) ev_c (e5 _ _ (e4 _ _ g2)) rfl) ev_c (by rw [List.length_map]; omega) fun H6 e6 => ?_
    have hl3H : H l3 = none := fresh_back (e1.trans e2) hl3
    have e36 : Ex H H6 := e23.trans (e4.trans (e5.trans e6))
    have r1 : upd H6 l3 (.lst (vn (wishesOf cs) ++ [nat 0])) t1 = some (.tup [nat (placesOf cs), .ref l1]) := by rw [upd_ne n2]; exact e6 _ _ (e5 _ _ m1)
    have r2 : upd H6 l3 (.lst (vn (wishesOf cs) ++ [nat 0])) l1 = some (.lst (vn (wishesOf cs))) := by rw [upd_ne n1]; exact e6 _ _ (e5 _ _ m2)
    have eG := Ex.mut (o := .lst (vn (wishesOf cs) ++ [nat 0])) e36 hl3H
    generalize upd H6 l3 (.lst (vn (wishesOf cs) ++ [nat 0])) = G at r1 r2 eG
    refine s_ret (v := .bl true) (ev_opP (ep_call (vs := [.str (S cs)]) (Φ := fun v H3 => IsPW G H3 v (placesOf cs) (wishesOf cs)) (ea_cons (ev_var rfl) ea_nil) fun H3 e3 Q3 q3 E3 => .inr ⟨cs, rfl, hl, fun _ v H4 e4 hv => q3 v H4 e4 (hv.back e3), fun hn => absurd T hn⟩) fun x H7 e7 hx Q7 q7 => ?_) fun H7 e7 => q H7 (eG.trans e7)
    obtain ⟨t7, l7, rfl, _, k1, _, k2⟩ := hx
    exact ev_var rfl H7 (Ex.refl H7) _ fun H8 e8 => rv_eqPW k1 k2 (e7 _ _ r1) (e7 _ _ r2) H8 e8 _ fun H9 e9 => q7 H9 (e8.trans e9)
  · refine q_un2 (K := K) (ep_call (vs := [.str (S cs)]) (Φ := fun v H3 => Refused H3 v) (ea_cons (ev_var rfl) ea_nil) fun H3 e3 Q3 q3 E3 => .inr ⟨cs, rfl, hl, fun T => absurd T hn, fun _ v H4 e4 hv => q3 v H4 e4 hv⟩) fun v H3 e3 hv => ?_
    obtain ⟨t, rfl, g1⟩ := hv
    refine ⟨t, _, _, rfl, st_of g1, ?_⟩
    refine q_when (b := true) (et_test (ev_isNone (x := .non) (ev_var rfl) ev_c)) (fun _ H4 e4 => ?_) fun z => by cases z
    exact s_ret (v := .bl true) (ev_is (ev_eqZ (ev_var rfl) ev_c) (by rw [decide_eq_true rfl])) fun H5 e5 => q H5 ((e1.trans e2).trans (e3.trans (e4.trans e5)))
theorem sv_lright {H : Hp} {cs : List Nat} (h : cs.length ≤ 5000) : SpV (spLRight K) [.str (S cs)] H (.bl true) := fun H1 e Q q E => ⟨cs, rfl, h, q⟩
end
end Pk
namespace Pk
open PySem PySem.Spec PyProof.Rows L2 Evl He
section
variable {P : Program} {w : World} {K : PySem.W.Frag} {mg : Str → Option Value} {base : Heap}
open SX (S)
theorem cut_hi {xs : List V} {n : Nat} (h : xs.length ≤ n) : cutV xs none (some (n : Int)) = xs := by
  unfold cutV
  rw [HT.sIx_none, show HT.sIx xs.length xs.length (some (n : Int)) = min n xs.length from HT.sIx_nat xs.length xs.length n]
  rw [show min n xs.length - 0 = xs.length by omega]
  show (xs.drop 0).take xs.length = xs
  rw [List.drop_zero, List.take_length]
/-- script[:1000] -/
theorem el_cut {σ : L2.St} {H : Hp} {te : TE} {a : Addr} {xs : List V} (ha : Ev te σ H (.ref a)) (h : SqL K H a xs) (hl : xs.length ≤ 1000) : EvL (tSl (rSlL K) te tNoPart (tPart (tC (.int 1000)))) σ H xs := by
  have k := el_sl ha eo_none (eo_some (i := 1000) (te := tC (.int 1000)) ev_c) h
  rw [show ((1000 : Int)) = ((1000 : Nat) : Int) from rfl, cut_hi hl] at k
  exact k
theorem vn_cells (ns : List Int) {m : Nat} (hm : 0 < m) : (ns.map fun c => V.int (c % (m : Int))) = vn (cells ns m) := by
  unfold vn cells
  rw [List.map_map]
  refine List.map_congr_left fun c _ => ?_
  show V.int _ = V.int (((c % (m : Int)).toNat : Nat) : Int)
  have := Int.emod_nonneg c (show (m : Int) ≠ 0 from by omega)
  congr 1
  omega
/-! ### the law -/
theorem str_S (z : Str) : z = S z.cps.toList := TL.ext_tl (by rfl)
def cz (z : Str) : List Nat := z.cps.toList
theorem ev_z {σ : L2.St} {H : Hp} {z : Str} : Ev (tC (.str z)) σ H (.str (S (cz z))) := ev_lit (str_S z)
theorem joinL_le : ∀ ys : List (List Nat), (TL.joinL [32] ys).length ≤ (ys.map (·.length)).sum + ys.length
  | [] => Nat.zero_le _
  | [p] => by simp [TL.joinL]
  | p :: q :: r => by
    have := joinL_le (q :: r)
    show (p ++ ([32] ++ TL.joinL [32] (q :: r))).length ≤ _
    simp only [List.length_append, List.length_cons, List.length_nil, List.map_cons, List.sum_cons] at this ⊢
    omega
theorem txtL_len {p : Nat} {ws : List Nat} (hp : p ≤ 1000000) (hw : ∀ x ∈ ws, x ≤ 1000000) : (txtL p ws).length ≤ 9 + 8 * ws.length := by
  have h := joinL_le ((TL.numL p ++ [58]) :: ws.map TL.numL)
  have h1 := numL_7 hp
  have h2 := sum_7 hw
  rw [List.map_cons, List.sum_cons, List.length_append, List.length_singleton, List.length_cons, List.length_map] at h
  unfold txtL
  omega
theorem ev_to {σ : L2.St} {H : Hp} {te tb : TE} {cs : List Nat} {n : Nat} (h : Ev te σ H (.str (S cs))) (hb : Ev tb σ H (nat n)) (hz : cs.length ≤ 100000) : Ev (tSl rSlS te tNoPart (tPart tb)) σ H (.str (S (cs.take n))) := ev_is (ev_slT h eo_none (eo_some hb) hz) (by rw [SX.slice_to (by omega), Int.toNat_natCast])
theorem ev_from {σ : L2.St} {H : Hp} {te tb : TE} {cs : List Nat} {n : Nat} (h : Ev te σ H (.str (S cs))) (hb : Ev tb σ H (nat n)) (hz : cs.length ≤ 100000) : Ev (tSl rSlS te (tPart tb) tNoPart) σ H (.str (S (cs.drop n))) := ev_is (ev_slT h (eo_some hb) eo_none hz) (by rw [SX.slice_from (by omega), Int.toNat_natCast])
def signsZ : List Str := ["0", "1", "9", " ", ":", "-", "+", "x", "\n", "\t", "_"]
theorem signs_len : ∀ z ∈ signsZ, (cz z).length ≤ 1 := by decide
def textsZ1 : List Str := ["", ":", "0:", "1:", "1: 0", "1: 1", "1:0", "1 : 0", "2: 00", "2: 01", "2: -0", "2: 1 "]
def textsZ2 : List Str := ["1000000: 999999", "1000001: 0", "1000000: 1000000"]
def textsZ3 : List Str := ["02: 1", "2", "2:  1", "1; 0", "1;"]
def many9 : List Nat := List.replicate 4000 57
theorem many9_len : many9.length = 4000 := List.length_replicate ..
theorem z1_len : ∀ z ∈ textsZ1, (cz z).length ≤ 100 := by decide
theorem z2_len : ∀ z ∈ textsZ2, (cz z).length ≤ 100 := by decide
theorem z3_len : ∀ z ∈ textsZ3, (cz z).length ≤ 100 := by decide
theorem lit_9 : (Str.ofString "9") = S [57] := by rfl
theorem vt_app (a b : List (List Nat)) : vt (a ++ b) = vt a ++ vt b := by unfold vt; rw [List.map_append]
theorem DwAll.one {H : Hp} {vs : List V} {d : PyData} (h : DwAll H vs [d]) : ∃ x, vs = [x] ∧ Dw H x d := by
  cases h with
  | cons h1 h2 => cases h2; exact ⟨_, rfl, h1⟩
def askD : List PyData := [.none, .int 5, .list [.str "1:"], .bool true]
theorem askD_bad : ∀ i, i < 4 → ∃ d, askD[i]? = some d ∧ dIsS d = false
  | 0, _ => ⟨_, rfl, rfl⟩
  | 1, _ => ⟨_, rfl, rfl⟩
  | 2, _ => ⟨_, rfl, rfl⟩
  | 3, _ => ⟨_, rfl, rfl⟩
  | n + 4, h => absurd h (by omega)
def spLaw (K : PySem.W.Frag) : Sp := fun vs H Q _ => ∃ (a : Addr) (ns : List Int), vs = [.ref a] ∧ SqL K H a (vi ns) ∧ ns.length ≤ 63 ∧ ∀ H', Q (.bl true) H'
theorem ok_law {fd fd1 fd2 fd3 : FuncData} (F : FnP K "law" s_law fd) (B : Bi mg) (C1 : Cal P w K mg base CX0 4 "_law_asked" P_law_asked (spLAsked K) fd1) (C2 : Cal P w K mg base CX0 5 "_law_right" P_law_right (spLRight K) fd2) (C3 : Cal P w K mg base (L2N.CX P w) 3 "written" P_written (spWritten K) fd3) : FnOk P w K mg base CX0 6 (ga K "law") fd P_law (spLaw K) := by
  refine F.ok sc_law (fun vs H Q E h => ?_) (fun cdv A outer s H vs Q E hr h => ⟨der_law B C1 C2 C3 hr, ?_⟩)
  · obtain ⟨a, ns, rfl, _⟩ := h; rfl
  obtain ⟨a, ns, rfl, hS, hl, q⟩ := h
  have hlv : (vi ns).length ≤ 1000 := by rw [List.length_map]; omega
  unfold der_law; dsimp only
  refine q_asg (ev_sum (ev_var rfl) hS) fun H1 e1 => ?_
  have hS1 := ex_l e1 hS
  generalize ns.sum = M
  have hM1 := Int.emod_nonneg M (show (50 : Int) ≠ 0 by decide)
  have hM2 := Int.emod_lt_of_pos M (show (0 : Int) < 50 by decide)
  obtain ⟨p, hp⟩ : ∃ p : Nat, 1 + (ns.length : Int) + M % 50 = (p : Int) := ⟨(1 + (ns.length : Int) + M % 50).toNat, by omega⟩
  have hp1 : 1 ≤ p := by omega
  have hp2 : p ≤ 120 := by omega
  refine q_asg (v := nat p) (ev_add (ev_add (i := 1) (j := (ns.length : Int)) ev_c (ev_is (ev_lenN (el_cut (ev_var rfl) hS1 hlv)) (by rw [List.length_map])) rfl) (ev_mod (i := M) (j := 50) (ev_var rfl) ev_c (by decide) rfl) hp.symm) fun H2 e2 => ?_
  have hS2 := ex_l e2 hS1
  refine q_asgL (xs := vn (cells ns p)) (by
    rw [← vn_cells ns hp1]
    exact el_nl V.int _ (el_cut (ev_var rfl) hS2 hlv) (by omega) (fun _ => rfl) fun i y H5 e5 hy => ev_mod (ev_var rfl) (ev_var rfl) (by omega) rfl) fun lw H3 hlw e3 h3 => ?_
  refine q_asgL (el_list (ev_var rfl) (sq_of h3)) fun lh H4 hlh e4 h4 => ?_
  have hcl : (cells ns p).length = ns.length := cells_length ns p
  have hlt : ∀ x ∈ cells ns p, x < p := cells_lt hp1
  have h34 := e4 _ _ h3
  refine q_asg (ev_txt (p := p) (ws := cells ns p) (a := lw) (i := 2) (j := 3) (k := 10) (by omega) (fun x hx => by have := hlt x hx; omega) (by omega) rfl rfl (sq_of h34) (fun _ => rfl) fun _ => rfl) fun H5 e5 => ?_
  have hcs := txtL_len (p := p) (ws := cells ns p) (by omega) (fun x hx => by have := hlt x hx; omega)
  have h45 := e5 _ _ h4
  have h35 := e5 _ _ h34
  refine q_when (b := (!decide (txtL p (cells ns p) = txtL p (cells ns p))) || (!decide (cells ns p = cells ns p))) (et_or (et_test (ev_neS (ev_call (vs := [nat p, .ref lh]) (ea_cons (ev_var rfl) (ea_cons (ev_var rfl) ea_nil)) (sv_written hp1 (by omega) (sq_of h45) (by omega) hlt)) (ev_var rfl))) fun _ => et_test (ev_neN (ev_var rfl) (ev_var rfl) (sq_of h45) (sq_of h35))) (fun hb => by rw [decide_eq_true rfl, decide_eq_true rfl] at hb; cases hb) fun _ H6 e6 => ?_
  generalize txtL p (cells ns p) = cs at hcs
  have hcsl : cs.length ≤ 600 := by omega
  have hat0 := Int.emod_nonneg M (show ((cs.length : Int) + 1) ≠ 0 by omega)
  have hat1 := Int.emod_lt_of_pos M (show (0 : Int) < (cs.length : Int) + 1 by omega)
  obtain ⟨at_, hat⟩ : ∃ k : Nat, M % ((cs.length : Int) + 1) = (k : Int) := ⟨(M % ((cs.length : Int) + 1)).toNat, by omega⟩
  refine q_asg (v := nat at_) (ev_mod (i := M) (j := (cs.length : Int) + 1) (ev_var rfl) (ev_add (i := (cs.length : Int)) (j := 1) (ev_lenT (ev_var rfl) (by omega)) ev_c rfl) (by omega) hat.symm) fun H7 e7 => ?_
  have hj1 := Int.emod_nonneg (M / 7) (show (11 : Int) ≠ 0 by decide)
  have hj2 := Int.emod_lt_of_pos (M / 7) (show (0 : Int) < 11 by decide)
  obtain ⟨j, hj⟩ : ∃ j : Nat, M / 7 % 11 = (j : Int) := ⟨(M / 7 % 11).toNat, by omega⟩
  have hj11 : j < signsZ.length := by show j < 11; omega
  obtain ⟨sg, hsg⟩ : ∃ z, signsZ[j]? = some z := ⟨signsZ[j], List.getElem?_eq_getElem hj11⟩
  have hsl := signs_len sg (List.mem_of_getElem? hsg)
  refine q_asg (v := .str (S (cz sg))) (ev_ixL (xs := signsZ.map V.str) (i := j) (el_lst (ea_cons ev_c (ea_cons ev_c (ea_cons ev_c (ea_cons ev_c (ea_cons ev_c (ea_cons ev_c (ea_cons ev_c (ea_cons ev_c (ea_cons ev_c (ea_cons ev_c (ea_cons ev_c ea_nil))))))))))) (by decide)) (fun _ _ => ev_mod (ev_div (i := M) (j := 7) (ev_var rfl) ev_c ⟨by decide, by decide⟩ rfl) ev_c (by decide) hj.symm) (by rw [List.getElem?_map, hsg]; show some (V.str sg) = some (V.str (S (cz sg))); rw [← show sg = S (cz sg) from str_S sg])) fun H8 e8 => ?_
  generalize hsz : cz sg = sz at hsl
  have ht : ∀ k, (cs.take k).length ≤ 600 := fun k => by rw [List.length_take]; omega
  have hd : ∀ k, (cs.drop k).length ≤ 600 := fun k => by rw [List.length_drop]; omega
  refine q_asgL (xs := vt [cs, cs.take at_ ++ cs.drop (at_ + 1), (cs.take at_ ++ sz) ++ cs.drop at_, (cs.take at_ ++ sz) ++ cs.drop (at_ + 1)]) (el_lst (ea_cons (ev_var rfl) (ea_cons (ev_catS (ev_to (ev_var rfl) (ev_var rfl) (by omega)) (ev_from (ev_var rfl) (ev_add (k := ((at_ + 1 : Nat) : Int)) (ev_var rfl) ev_c (by omega)) (by omega)) (by have := ht at_; have := hd (at_ + 1); omega)) (ea_cons (ev_catS (ev_catS (ev_to (ev_var rfl) (ev_var rfl) (by omega)) (ev_var rfl) (by have := ht at_; omega)) (ev_from (ev_var rfl) (ev_var rfl) (by omega)) (by have := ht at_; have := hd at_; rw [List.length_append]; omega)) (ea_cons (ev_catS (ev_catS (ev_to (ev_var rfl) (ev_var rfl) (by omega)) (ev_var rfl) (by have := ht at_; omega)) (ev_from (ev_var rfl) (ev_add (k := ((at_ + 1 : Nat) : Int)) (ev_var rfl) ev_c (by omega)) (by omega)) (by have := ht at_; have := hd (at_ + 1); rw [List.length_append]; omega)) ea_nil)))) (Nat.le_of_ble_eq_true rfl)) fun l1 H9 hl1 e9 h9 => ?_
  have hA : ∀ t ∈ [cs, cs.take at_ ++ cs.drop (at_ + 1), (cs.take at_ ++ sz) ++ cs.drop at_, (cs.take at_ ++ sz) ++ cs.drop (at_ + 1)], t.length ≤ 5000 := fun t hm => by
    have b1 := ht at_
    have b2 := hd at_
    have b3 := hd (at_ + 1)
    simp only [List.mem_cons, List.not_mem_nil, or_false] at hm
    rcases hm with rfl | rfl | rfl | rfl
    · omega
    · rw [List.length_append]; omega
    · rw [List.length_append, List.length_append]; omega
    · rw [List.length_append, List.length_append]; omega
  generalize hT1 : [cs, cs.take at_ ++ cs.drop (at_ + 1), (cs.take at_ ++ sz) ++ cs.drop at_, (cs.take at_ ++ sz) ++ cs.drop (at_ + 1)] = T1 at h9 hA
  have hT1l : T1.length = 4 := by rw [← hT1]; rfl
  refine q_asgL (xs := vt (T1 ++ textsZ1.map cz)) (by
    rw [vt_app]
    exact el_cat (ev_var rfl) h9 (el_lst (vs := vt (textsZ1.map cz)) (ea_cons ev_z (ea_cons ev_z (ea_cons ev_z (ea_cons ev_z (ea_cons ev_z (ea_cons ev_z (ea_cons ev_z (ea_cons ev_z (ea_cons ev_z (ea_cons ev_z (ea_cons ev_z (ea_cons ev_z ea_nil)))))))))))) (by decide)) (by show (vt T1).length + 12 ≤ _; unfold vt; rw [List.length_map]; omega)) fun l2 H10 hl2 e10 h10 => ?_
  have hB : ∀ t ∈ T1 ++ textsZ1.map cz, t.length ≤ 5000 := fun t hm => by
    rcases List.mem_append.mp hm with hm | hm
    · exact hA t hm
    · obtain ⟨z, hz, rfl⟩ := List.mem_map.mp hm
      have := z1_len z hz
      omega
  generalize hT2 : T1 ++ textsZ1.map cz = T2 at h10 hB
  have hT2l : T2.length = 16 := by rw [← hT2, List.length_append, hT1l]; rfl
  refine q_asgL (xs := vt (T2 ++ (textsZ2.map cz ++ [many9 ++ [58], cz "2: " ++ many9]))) (by
    rw [vt_app]
    exact el_cat (ev_var rfl) h10 (el_lst (vs := vt (textsZ2.map cz ++ [many9 ++ [58], cz "2: " ++ many9])) (ea_cons ev_z (ea_cons ev_z (ea_cons ev_z (ea_cons (ev_catS (ev_mulS (n := 4000) (ev_lit lit_9) ev_c (by decide)) (ev_lit lit_co) (by rw [many9_len]; decide)) (ea_cons (ev_catS ev_z (ev_mulS (n := 4000) (ev_lit lit_9) ev_c (by decide)) (by rw [many9_len]; decide)) ea_nil))))) (Nat.le_of_ble_eq_true rfl)) (by show (vt T2).length + 5 ≤ _; unfold vt; rw [List.length_map]; omega)) fun l3 H11 hl3 e11 h11 => ?_
  have hC : ∀ t ∈ T2 ++ (textsZ2.map cz ++ [many9 ++ [58], cz "2: " ++ many9]), t.length ≤ 5000 := fun t hm => by
    rcases List.mem_append.mp hm with hm | hm
    · exact hB t hm
    · rcases List.mem_append.mp hm with hm | hm
      · obtain ⟨z, hz, rfl⟩ := List.mem_map.mp hm
        have := z2_len z hz
        omega
      · simp only [List.mem_cons, List.not_mem_nil, or_false] at hm
        rcases hm with rfl | rfl
        · rw [List.length_append]
          rw [many9_len]
          decide
        · rw [List.length_append]
          rw [many9_len]
          decide
  generalize hT3 : T2 ++ (textsZ2.map cz ++ [many9 ++ [58], cz "2: " ++ many9]) = T3 at h11 hC
  have hT3l : T3.length = 21 := by rw [← hT3, List.length_append, hT2l]; rfl
  refine q_asgL (xs := vt (T3 ++ textsZ3.map cz)) (by
    rw [vt_app]
    exact el_cat (ev_var rfl) h11 (el_lst (vs := vt (textsZ3.map cz)) (ea_cons ev_z (ea_cons ev_z (ea_cons ev_z (ea_cons ev_z (ea_cons ev_z ea_nil))))) (by decide)) (by show (vt T3).length + 5 ≤ _; unfold vt; rw [List.length_map]; omega)) fun l4 H12 hl4 e12 h12 => ?_
  have hD : ∀ t ∈ T3 ++ textsZ3.map cz, t.length ≤ 5000 := fun t hm => by
    rcases List.mem_append.mp hm with hm | hm
    · exact hC t hm
    · obtain ⟨z, hz, rfl⟩ := List.mem_map.mp hm
      have := z3_len z hz
      omega
  generalize hT4 : T3 ++ textsZ3.map cz = T4 at h12 hD
  have hT4l : T4.length = 26 := by rw [← hT4, List.length_append, hT3l]; rfl
  have tall := ev_allN (K := K) (bs := T4.map fun _ => true) (σ := [some (.ref a), some (.int M), some (nat p), some (.ref lw), some (.ref lh), some (.str (S cs)), some (nat at_), some (.str (S sz)), some (.ref l4), none, none, none]) (H := H12) (ta := tLc (iList K (tVar 8)) (gName 11) tYes (tCall (spLRight K) [] E0 (tCons (tVar 11) tNil)) [11]) (by
    rw [List.map_map]
    exact el_ls (c := fun w => V.str (S w)) (V.bl ∘ fun _ => true) (ev_var rfl) (sq_of h12) (by omega) (fun _ => rfl) fun i y H13 e13 hy => ev_call (vs := [.str (S y)]) (ea_cons (ev_var rfl) ea_nil) (sv_lright (hD y (List.mem_of_getElem? hy))))
  refine q_when (et_not (et_B tall)) (fun hb => ?_) fun _ H13 e13 => ?_
  · have : (T4.map fun _ => true).all id = true := by rw [List.all_map, List.all_eq_true]; intro x _; rfl
    rw [this] at hb
    cases hb
  have hk1 := Int.emod_nonneg M (show (4 : Int) ≠ 0 by decide)
  have hk2 := Int.emod_lt_of_pos M (show (0 : Int) < 4 by decide)
  obtain ⟨k, hk⟩ : ∃ k : Nat, M % 4 = (k : Int) := ⟨(M % 4).toNat, by omega⟩
  obtain ⟨d, hd4, hds⟩ := askD_bad k (by omega)
  have tx : EvD (tOp (rIxL K) (tLst (tCons (tC .non) (tCons (tC (.int 5)) (tCons (tLst (tCons (tC (.str (Str.ofString "1:"))) tNil)) (tCons (tC (.bl true)) tNil))))) (tOp (rI (fun _ j => 0 < j) fun i j => .int (i % j)) (tVar 1) (tC (.int 4)))) [some (.ref a), some (.int M), some (nat p), some (.ref lw), some (.ref lh), some (.str (S cs)), some (nat at_), some (.str (S sz)), some (.ref l4), none, none, none] H13 d := ed_ix (ds := askD) (ed_lst (eds_cons ed_n (eds_cons ed_i (eds_cons (ed_lst (eds_cons ed_s eds_nil)) (eds_cons ed_b eds_nil))))) (ev_mod (i := M) (j := 4) (ev_var rfl) ev_c (by decide) hk.symm) hd4
  have tq : EvP (tCall (spLAsked K) [] E0 (tCons (tOp (rIxL K) (tLst (tCons (tC .non) (tCons (tC (.int 5)) (tCons (tLst (tCons (tC (.str (Str.ofString "1:"))) tNil)) (tCons (tC (.bl true)) tNil))))) (tOp (rI (fun _ j => 0 < j) fun i j => .int (i % j)) (tVar 1) (tC (.int 4)))) tNil)) [some (.ref a), some (.int M), some (nat p), some (.ref lw), some (.ref lh), some (.str (S cs)), some (nat at_), some (.str (S sz)), some (.ref l4), none, none, none] H13 (fun v H2 => Refused H2 v) := fun G eG Q1 q1 => (eds_cons tx eds_nil) G eG _ fun vs G2 eG2 hv => by
    obtain ⟨x, rfl, hx⟩ := hv.one
    obtain ⟨kd, k1, k2⟩ := Dw.kd (K := K) hx
    exact .inl ⟨x, kd, rfl, k1, by rw [k2.s]; exact hds, fun v G3 eG3 hv => q1 v G3 (eG2.trans eG3) hv⟩
  refine s_ret (v := .bl true) (ev_is (ev_eqZ (a := "refused") (b := "refused") (fun G eG Q1 q1 => tq G eG _ fun v G2 eG2 hv => ?_) ev_c) (by rw [decide_eq_true rfl])) fun H14 e14 => q H14
  obtain ⟨t, rfl, hg⟩ := hv
  exact ⟨t, _, ((0 : Nat) : Int), _, rfl, rfl, st_of hg, at_nat rfl, q1 G2 eG2⟩
end
end Pk
namespace Pk
open PySem PySem.Spec PyProof.Rows L2 Evl He
/-! ### the end: what the top has left, by names -/
def d_is_number : DefD := ⟨("is_number", none), "is_number", "is_number", defArgs s_is_number, defBody s_is_number, defScope s_is_number, [], []⟩
def d_number_in : DefD := ⟨("number_in", none), "number_in", "number_in", defArgs s_number_in, defBody s_number_in, defScope s_number_in, [], []⟩
def d_law_number : DefD := ⟨("_law_number", none), "_law_number", "_law_number", defArgs s_law_number, defBody s_law_number, defScope s_law_number, [], []⟩
def d_asked_wishes : DefD := ⟨("asked_wishes", none), "asked_wishes", "asked_wishes", defArgs s_asked_wishes, defBody s_asked_wishes, defScope s_asked_wishes, [], []⟩
def d_law_in : DefD := ⟨("_law_in", none), "_law_in", "_law_in", defArgs s_law_in, defBody s_law_in, defScope s_law_in, [], []⟩
def d_written : DefD := ⟨("written", none), "written", "written", defArgs s_written, defBody s_written, defScope s_written, [], []⟩
def d_read : DefD := ⟨("read", none), "read", "read", defArgs s_read, defBody s_read, defScope s_read, [], []⟩
def d_law_asked : DefD := ⟨("_law_asked", none), "_law_asked", "_law_asked", defArgs s_law_asked, defBody s_law_asked, defScope s_law_asked, [], []⟩
def d_law_right : DefD := ⟨("_law_right", none), "_law_right", "_law_right", defArgs s_law_right, defBody s_law_right, defScope s_law_right, [], []⟩
def d_law : DefD := ⟨("law", none), "law", "law", defArgs s_law, defBody s_law, defScope s_law, [], []⟩
def fnL : List DefD := [d_is_number, d_number_in, d_law_number, d_asked_wishes, d_law_in, d_written, d_read, d_law_asked, d_law_right, d_law]
def faL : List Fa := [.glo "is_number", .glo "number_in", .glo "_law_number", .glo "asked_wishes", .glo "_law_in", .glo "written", .glo "read", .glo "_law_asked", .glo "_law_right", .glo "law", .free "len", .free "range", .free "max", .free "min", .free "sum", .free "all", .free "any", .free "list", .free "sorted", .free "isinstance", .free "enumerate", .free "reversed", .free "set", .free "str", .free "int", .free "bool", .free "tuple", .free "ValueError", .int "PLACES" 1000000, .str "FIGURES" "0123456789", .int "LONGEST" 7, .glo "BadPath", .exc "BadPath", .glo "BadStanding", .exc "BadStanding", .glo "BadText", .exc "BadText", .glo "BadTree", .exc "BadTree", .glo "BadWishes", .exc "BadWishes", .glo "StreetError", .exc "StreetError", .glo "TooMany", .exc "TooMany"]
abbrev RowL : PySem.W.OpenRow := PySem.W.OpenLaw.row PySem.Challenge.rw_parkrow_k11_texts
def exL (K : PySem.W.Frag) : Bool := ([("BadText" : Str)] : List Str).all (errB K) && decide (PySem.W.exmOne K (.ref (ga K "BadWishes")) (.ref (ga K "BadWishes")) = some true)
abbrev hkL : PySem.W.Hook := hookX 4 faL fnL [] [] exL
def obL (s : PySem.W.SharedT) : AlX := obsX 4 faL fnL [] [] exL (HandSHeadRun.getT s)
theorem obL_eq (s : PySem.W.SharedT) : obL s = hkL.obs s.abs := obsX_eq (HandSHeadRun.getT_eq s)
def looseL : List Str := ["StreetError", "BadWishes", "TooMany", "BadTree", "BadPath", "BadStanding", "BadText", "PLACES", "is_number", "asked_wishes", "FIGURES", "LONGEST", "written", "number_in", "read", "_law_number", "_law_in", "_law_asked", "_law_right"]
theorem runL (w : World) : HandSHeadRun.RunEq RowL (PySem.W.view RowL.prog [23]) hkL obL 6000 looseL w := by
  intro os
  kernel_rfl
theorem factsL {P : Program} {w : World} {K : PySem.W.Frag} {h : Heap} {mg : Str → Option Value} {f : Addr} (X : K.In h) (G : h.Ns mainGlobals mg) (hfa : mg ("law" : Str) = some (.ref f)) (c : SaysD faL fnL K) (hx : exL K = true) :
    ∃ fd : FuncData, (∀ (s : Shared) (v : Value), BindsTo s fd ⟨[v], []⟩ [("script", v)]) ∧ ∀ base : Heap, K.In base → base.Ns mainGlobals mg → FnOk P w K mg base CX0 6 f fd ["script"] (spLaw K) := by
  obtain ⟨fd_is_number, F_is_number⟩ := c.def_ 0 (d := d_is_number) rfl
  have F_is_number : FnP K "is_number" s_is_number fd_is_number := F_is_number
  obtain ⟨fd_number_in, F_number_in⟩ := c.def_ 1 (d := d_number_in) rfl
  have F_number_in : FnP K "number_in" s_number_in fd_number_in := F_number_in
  obtain ⟨fd_law_number, F_law_number⟩ := c.def_ 2 (d := d_law_number) rfl
  have F_law_number : FnP K "_law_number" s_law_number fd_law_number := F_law_number
  obtain ⟨fd_asked_wishes, F_asked_wishes⟩ := c.def_ 3 (d := d_asked_wishes) rfl
  have F_asked_wishes : FnP K "asked_wishes" s_asked_wishes fd_asked_wishes := F_asked_wishes
  obtain ⟨fd_law_in, F_law_in⟩ := c.def_ 4 (d := d_law_in) rfl
  have F_law_in : FnP K "_law_in" s_law_in fd_law_in := F_law_in
  obtain ⟨fd_written, F_written⟩ := c.def_ 5 (d := d_written) rfl
  have F_written : FnP K "written" s_written fd_written := F_written
  obtain ⟨fd_read, F_read⟩ := c.def_ 6 (d := d_read) rfl
  have F_read : FnP K "read" s_read fd_read := F_read
  obtain ⟨fd_law_asked, F_law_asked⟩ := c.def_ 7 (d := d_law_asked) rfl
  have F_law_asked : FnP K "_law_asked" s_law_asked fd_law_asked := F_law_asked
  obtain ⟨fd_law_right, F_law_right⟩ := c.def_ 8 (d := d_law_right) rfl
  have F_law_right : FnP K "_law_right" s_law_right fd_law_right := F_law_right
  obtain ⟨fd_law, F_law⟩ := c.def_ 9 (d := d_law) rfl
  have F_law : FnP K "law" s_law fd_law := F_law
  have B : Bi mg := ⟨free_ok X G (c.fact 10 (f := .free "len") rfl), free_ok X G (c.fact 11 (f := .free "range") rfl), free_ok X G (c.fact 12 (f := .free "max") rfl), free_ok X G (c.fact 13 (f := .free "min") rfl), free_ok X G (c.fact 14 (f := .free "sum") rfl), free_ok X G (c.fact 15 (f := .free "all") rfl), free_ok X G (c.fact 16 (f := .free "any") rfl), free_ok X G (c.fact 17 (f := .free "list") rfl), free_ok X G (c.fact 18 (f := .free "sorted") rfl), free_ok X G (c.fact 19 (f := .free "isinstance") rfl), free_ok X G (c.fact 20 (f := .free "enumerate") rfl), free_ok X G (c.fact 21 (f := .free "reversed") rfl), free_ok X G (c.fact 22 (f := .free "set") rfl), free_ok X G (c.fact 23 (f := .free "str") rfl), free_ok X G (c.fact 24 (f := .free "int") rfl), free_ok X G (c.fact 25 (f := .free "bool") rfl), free_ok X G (c.fact 26 (f := .free "tuple") rfl), free_ok X G (c.fact 27 (f := .free "ValueError") rfl)⟩
  obtain ⟨tk_PLACES, gc_PLACES⟩ := int_ok X G (c.fact 28 (f := .int "PLACES" 1000000) rfl)
  obtain ⟨tk_FIGURES, gc_FIGURES⟩ := str_ok X G (c.fact 29 (f := .str "FIGURES" "0123456789") rfl)
  obtain ⟨tk_LONGEST, gc_LONGEST⟩ := int_ok X G (c.fact 30 (f := .int "LONGEST" 7) rfl)
  have X_BadPath : ExcF K mg "BadPath" := by
    obtain ⟨a1, a2, a3, a4⟩ := exc_ok (c.fact 32 (f := .exc "BadPath") rfl)
    exact ⟨a1, glo_ok X G (c.fact 31 (f := .glo "BadPath") rfl), a2, a3, a4⟩
  have X_BadStanding : ExcF K mg "BadStanding" := by
    obtain ⟨a1, a2, a3, a4⟩ := exc_ok (c.fact 34 (f := .exc "BadStanding") rfl)
    exact ⟨a1, glo_ok X G (c.fact 33 (f := .glo "BadStanding") rfl), a2, a3, a4⟩
  have X_BadText : ExcF K mg "BadText" := by
    obtain ⟨a1, a2, a3, a4⟩ := exc_ok (c.fact 36 (f := .exc "BadText") rfl)
    exact ⟨a1, glo_ok X G (c.fact 35 (f := .glo "BadText") rfl), a2, a3, a4⟩
  have X_BadTree : ExcF K mg "BadTree" := by
    obtain ⟨a1, a2, a3, a4⟩ := exc_ok (c.fact 38 (f := .exc "BadTree") rfl)
    exact ⟨a1, glo_ok X G (c.fact 37 (f := .glo "BadTree") rfl), a2, a3, a4⟩
  have X_BadWishes : ExcF K mg "BadWishes" := by
    obtain ⟨a1, a2, a3, a4⟩ := exc_ok (c.fact 40 (f := .exc "BadWishes") rfl)
    exact ⟨a1, glo_ok X G (c.fact 39 (f := .glo "BadWishes") rfl), a2, a3, a4⟩
  have X_StreetError : ExcF K mg "StreetError" := by
    obtain ⟨a1, a2, a3, a4⟩ := exc_ok (c.fact 42 (f := .exc "StreetError") rfl)
    exact ⟨a1, glo_ok X G (c.fact 41 (f := .glo "StreetError") rfl), a2, a3, a4⟩
  have X_TooMany : ExcF K mg "TooMany" := by
    obtain ⟨a1, a2, a3, a4⟩ := exc_ok (c.fact 44 (f := .exc "TooMany") rfl)
    exact ⟨a1, glo_ok X G (c.fact 43 (f := .glo "TooMany") rfl), a2, a3, a4⟩
  obtain ⟨hxe, hxm⟩ := ba hx
  have EX_BadText : ErrX K "BadText" := errX_of (List.all_eq_true.mp hxe "BadText" (by decide))
  have hE := of_decide_eq_true hxm
  have e := hfa.symm.trans (glo_ok X G (c.fact 9 (f := .glo "law") rfl))
  cases e
  have b := FunD.bindsA (ps := ["script"]) F_law fun _ _ _ _ _ _ us hl => match us, hl with | [_], _ => rfl
  refine ⟨fd_law, fun s v => b s [v] rfl, fun base _ _ => ?_⟩
  have C_is_number := Cal.mk (P := P) (w := w) (base := base) (x := "is_number") (ps := P_is_number) (ok_is_number F_is_number B ) (glo_ok X G (c.fact 0 (f := .glo "is_number") rfl)) F_is_number.kp (FunD.bindsN F_is_number fun _ _ _ _ _ _ us hl => match us, hl with | [_, _, _], _ => rfl)
  have C_number_in := Cal.mk (P := P) (w := w) (base := base) (x := "number_in") (ps := P_number_in) (ok_number_in F_number_in B gc_FIGURES gc_LONGEST X_BadText ) (glo_ok X G (c.fact 1 (f := .glo "number_in") rfl)) F_number_in.kp (FunD.bindsN F_number_in fun _ _ _ _ _ _ us hl => match us, hl with | [_], _ => rfl)
  have C_law_number := Cal.mk (P := P) (w := w) (base := base) (x := "_law_number") (ps := P_law_number) (ok_law_number F_law_number B ) (glo_ok X G (c.fact 2 (f := .glo "_law_number") rfl)) F_law_number.kp (FunD.bindsN F_law_number fun _ _ _ _ _ _ us hl => match us, hl with | [_], _ => rfl)
  have C_asked_wishes := Cal.mk (P := P) (w := w) (base := base) (x := "asked_wishes") (ps := P_asked_wishes) (ok_asked_wishes F_asked_wishes B C_is_number gc_PLACES X_BadWishes ) (glo_ok X G (c.fact 3 (f := .glo "asked_wishes") rfl)) F_asked_wishes.kp (FunD.bindsN F_asked_wishes fun _ _ _ _ _ _ us hl => match us, hl with | [_, _], _ => rfl)
  have C_law_in := Cal.mk (P := P) (w := w) (base := base) (x := "_law_in") (ps := P_law_in) (ok_law_in F_law_in B C_law_number ) (glo_ok X G (c.fact 4 (f := .glo "_law_in") rfl)) F_law_in.kp (FunD.bindsN F_law_in fun _ _ _ _ _ _ us hl => match us, hl with | [_], _ => rfl)
  have C_written := Cal.mk (P := P) (w := w) (base := base) (x := "written") (ps := P_written) (ok_written F_written B C_asked_wishes ) (glo_ok X G (c.fact 5 (f := .glo "written") rfl)) F_written.kp (FunD.bindsN F_written fun _ _ _ _ _ _ us hl => match us, hl with | [_, _], _ => rfl)
  have C_read := Cal.mk (P := P) (w := w) (base := base) (x := "read") (ps := P_read) (ok_read F_read B C_asked_wishes C_number_in X_BadText X_BadWishes hE) (glo_ok X G (c.fact 6 (f := .glo "read") rfl)) F_read.kp (FunD.bindsN F_read fun _ _ _ _ _ _ us hl => match us, hl with | [_], _ => rfl)
  have C_law_asked := Cal.mk (P := P) (w := w) (base := base) (x := "_law_asked") (ps := P_law_asked) (ok_law_asked F_law_asked B C_read X_BadPath X_BadStanding X_BadText X_BadTree X_BadWishes X_TooMany X_StreetError EX_BadText) (glo_ok X G (c.fact 7 (f := .glo "_law_asked") rfl)) F_law_asked.kp (FunD.bindsN F_law_asked fun _ _ _ _ _ _ us hl => match us, hl with | [_], _ => rfl)
  have C_law_right := Cal.mk (P := P) (w := w) (base := base) (x := "_law_right") (ps := P_law_right) (ok_law_right F_law_right B C_law_asked C_law_in C_read C_written ) (glo_ok X G (c.fact 8 (f := .glo "_law_right") rfl)) F_law_right.kp (FunD.bindsN F_law_right fun _ _ _ _ _ _ us hl => match us, hl with | [_], _ => rfl)
  exact ok_law F_law B C_law_asked C_law_right C_written 
end Pk
open PySem PySem.W PySem.Calls PyProof.Rows
set_option maxHeartbeats 0 in
theorem PySem.Challenge.cw_parkrow_k11_texts_holds : PySem.Challenge.rw_parkrow_k11_texts.Holds := by
  w_on; o_law
  refine HandSHeadRun.head_any (r := OpenLaw.row PySem.Challenge.rw_parkrow_k11_texts) (q := view (OpenLaw.row PySem.Challenge.rw_parkrow_k11_texts).prog [23]) (H := Pk.hkL) (ob := Pk.obL) (M := 6000) (loose := Pk.looseL) (d := HandSHeadRun.topDef (OpenLaw.row PySem.Challenge.rw_parkrow_k11_texts).prog 23) (kwd := []) Pk.obL_eq
    (by kernel_rfl) (fun s => by kernel_rfl) Pk.runL (by kernel_rfl) (by kernel_rfl) (by kernel_rfl) (by rfl) (by first | assumption | decide +kernel) (by decide +kernel) ⟨rfl, rfl, rfl, rfl, rfl, by decide +kernel⟩ ?hw ?hc
  case hw => w_witness2
  case hc =>
    refine L2.walk_ofE (l := PySem.Challenge.rw_parkrow_k11_texts) (n := 63) (k := 6) (x := "script") (CX := L2.CX0) rfl (by decide) (by kernel_rfl) ⟨rfl, by decide, by decide⟩ ?F (fun _ _ _ _ z => z)
    intro w mg fa h Y G hmg0
    obtain ⟨K, KX, c⟩ := Y
    have hmg : mg ("law" : PySem.Str) = some (.ref fa) := by
      have e : (HandSHeadRun.topDef (OpenLaw.row PySem.Challenge.rw_parkrow_k11_texts).prog 23).name = ("law" : PySem.Str) := by kernel_rfl
      rw [← e]
      exact hmg0
    obtain ⟨fd, hb, hF⟩ := Pk.factsL (P := (PySem.Challenge.rw_parkrow_k11_texts).prog) (w := w) KX G hmg c.t.d c.more
    exact ⟨K, fd, Pk.spLaw K, KX, hb, fun H a ns hl _ hS => ⟨a, ns, rfl, hS, hl, fun _ => rfl⟩, hF⟩
