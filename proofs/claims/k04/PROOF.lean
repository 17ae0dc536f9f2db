import PyProof.Rows.All
import Wide.All
import OpenK.AllK
import Wide.FinOn
import KE.KStateDown
import Lean
import HandS.ForMost
import HandS.Exc
import HandS.TryOnly
import HandS.ExcOwn
import HandS.WordsExc
import HandS.IsInst
import HandS.Style
import HandS.RevRange
import HandS.StrMore
import HandS.Zip
import HandS.SortInts
import HandS.Evl
import HandS.CallLocal
import HandS.CallSlots
import HandS.ExcIs
import HandS.Codes
import HandS.ExcCtx
import HandS.Hot
import HandS.HotCalls
import HandS.Defaults
import HandS.Head0
import HandS.Head1
import HandS.Head2
import HandS.HeadEnd
import HandS.HeadHook1
import HandS.HeadHook2
import HandS.HeadHook3
import HandS.HeadHook4
import PySem.Challenge.RW_parkrow_k04_whole_turning
set_option Elab.async false
set_option linter.all false
set_option maxRecDepth 100000
set_option maxHeartbeats 0
namespace Pk
open PySem PySem.Spec PyProof.Rows L2 Evl He
/-- what the module's names of built-ins hold: nothing of its own -/
structure Bi (mg : Str → Option Value) : Prop where
  len : mg "len" = none
  range : mg "range" = none
  max : mg "max" = none
  min : mg "min" = none
  sum : mg "sum" = none
  all : mg "all" = none
  any : mg "any" = none
  list : mg "list" = none
  sorted : mg "sorted" = none
  isinstance : mg "isinstance" = none
  enumerate : mg "enumerate" = none
  reversed : mg "reversed" = none
  set : mg "set" = none
  str : mg "str" = none
  int : mg "int" = none
  bool : mg "bool" = none
  tuple : mg "tuple" = none
  valueError : mg "ValueError" = none
/-- a def of the text that keeps its promise, to be called -/
structure Cal (P : Program) (w : World) (K : PySem.W.Frag) (mg : Str → Option Value) (base : Heap) (CX : CXT) (k : Nat) (x : Str) (ps : List Str) (sp : Sp) (fd : FuncData) : Prop where
  ok : FnOk P w K mg base CX k (ga K x) fd ps sp
  gl : mg x = some (.ref (ga K x))
  kp : PySem.W.keepIn K (.ref (ga K x)) = true
  bd : Binds K fd ps []
abbrev veB : List Value := [.type "ValueError", .type "Exception", .type "BaseException", .type "object"]
/-- an own class of errors -/
structure ExcF (K : PySem.W.Frag) (mg : Str → Option Value) (x : Str) : Prop where
  ex : PySem.W.excIn K (ga K x) veB "ValueError.__new__" = true
  gl : mg x = some (.ref (ga K x))
  kp : PySem.W.keepIn K (.ref (ga K x)) = true
  be : PySem.W.subIn K (.ref (ga K x)) (.type "BaseException") = some true
  ty : PySem.W.typeIn K (.ref (ga K x)) = some (.type "type")
def rMulS : R2 := fun x y H Q => ∃ (a : Str) (n : Int), x = .str a ∧ y = .int n ∧ MulOk a n ∧ Q (.str (Txt.mul a n)) H
theorem op_mul_str {X : Cx} : OpR X (binaryOp .Mult) rMulS := by
  intro pins s σ H x y v u Q I rx ry h
  obtain ⟨a, n, rfl, rfl, hz, q⟩ := h
  obtain ⟨t, rfl⟩ := rx
  obtain ⟨t', rfl⟩ := ry
  exact PySem.SB.mul hz (fun t' tk => ⟨.str (Txt.mul a n), H, I.tok _, ⟨_, rfl⟩, q⟩)
def rMin2 : List V → Hp → VK → Prop := fun xs H Q => ∃ i j, xs = [.int i, .int j] ∧ Q (.int (if j < i then j else i)) H
def rLenT : List V → Hp → VK → Prop := fun xs H Q => ∃ z, xs = [.str z] ∧ z.length ≤ sizeLine ∧ Q (.int z.length) H
end Pk
namespace Pk
open PySem PySem.Spec PyProof.Rows L2 Evl He
/-! ### lists of numbers as values -/
def nat (n : Nat) : V := .int (n : Int)
abbrev vn (ws : List Nat) : List V := ws.map nat
abbrev vi (ns : List Int) : List V := ns.map V.int
theorem vn_vi (ws : List Nat) : vn ws = vi (ws.map fun (n : Nat) => (n : Int)) := by
  unfold vn vi
  rw [List.map_map]
  rfl
theorem vn_get {ws : List Nat} {i : Nat} {n : Nat} (h : ws[i]? = some n) : (vn ws)[i]? = some (nat n) := by
  rw [List.getElem?_map, h]
  rfl
theorem vmap_get {α : Type} {c : α → V} {ys : List α} {i : Nat} {x : V} (h : (ys.map c)[i]? = some x) : ∃ y, ys[i]? = some y ∧ x = c y := by
  rw [List.getElem?_map] at h
  cases e : ys[i]? with
  | none => rw [e] at h; cases h
  | some y => rw [e] at h; exact ⟨y, rfl, (Option.some.inj h).symm⟩
theorem at_nat {xs : List V} {i : Nat} {v : V} (h : xs[i]? = some v) : atI xs ((i : Nat) : Int) = some v := atI_nat h
/-- heaps -/
theorem Ex.of_new {H H1 H2 : Hp} {p : Addr} (n : H p = none) (e : Ex H H1) (h : ∀ b o, b ≠ p → H1 b = some o → H2 b = some o) : Ex H H2 := fun a o ha => h a o (ne_of_none ha n) (e a o ha)
theorem et_yes {σ : L2.St} {H : Hp} : EvT tYes σ H true := fun H1 _ _ q => q H1 (Ex.refl H1)
theorem given_all {n : Nat} {v : Nat → V} : given n (fun _ => true) v = (List.range n).map v := by
  unfold given
  rw [List.filter_eq_self.mpr (fun _ _ => rfl)]
section
variable {K : PySem.W.Frag} {σ : L2.St} {H H' : Hp} {ta tb te tx : TE} {t u : TT} {x y z v : V} {r : R2}
/-- [e for i in range(n)] -/
theorem el_rng {ta : TA} {j : Nat} {vs : List Nat} {n : Nat} (v : Nat → V) (h : EvA ta σ H [nat n]) (hn : n ≤ 40000) (hw : ∀ x, wipe ((wipe σ vs).set j (some x)) vs = wipe σ vs)
    (he : ∀ (i : Nat) H1, Ex H H1 → i < n → Ev te ((wipe σ vs).set j (some (nat i))) H1 (v i)) : EvL (tLc (iRng1 ta) (gName j) tYes te vs) σ H ((List.range n).map v) := by
  have g := el_lcR1 (te := te) (fun _ => true) v h ⟨by omega, by omega⟩ hw (fun i H1 e hi => et_yes) (fun i H1 e hi _ => he i H1 e (by omega))
  rw [given_all] at g
  exact g
theorem given_list {α : Type} (f : α → Bool) (g : α → V) (d : α) : ∀ (ys : List α), given ys.length (fun i => f (ys.getD i d)) (fun i => g (ys.getD i d)) = (ys.filter f).map g := by
  intro ys
  have key : ∀ n, n ≤ ys.length → given n (fun i => f (ys.getD i d)) (fun i => g (ys.getD i d)) = ((ys.take n).filter f).map g := by
    intro n
    induction n with
    | zero => intro _; rfl
    | succ n ih =>
      intro hn
      have hlt : n < ys.length := hn
      have e : ys[n]? = some (ys.getD n d) := by
        rw [List.getD_eq_getElem?_getD, List.getElem?_eq_getElem hlt]; rfl
      rw [List.take_add_one, e]
      cases hf : f (ys.getD n d) with
      | true =>
        rw [given_yes (f := fun i => f (ys.getD i d)) hf, ih (by omega)]
        generalize ys.getD n d = z at hf
        simp [hf]
      | false =>
        rw [given_no (f := fun i => f (ys.getD i d)) hf, ih (by omega)]
        generalize ys.getD n d = z at hf
        simp [hf]
  rw [key ys.length (Nat.le_refl _), List.take_length]
/-- [e for y in list if t] over items that are c y -/
theorem el_lsF {α : Type} {a : Addr} {ys : List α} (c : α → V) {tl : TE} {j : Nat} {vs : List Nat} (f : α → Bool) (g : α → V) (h : Ev tl σ H (.ref a)) (hx : SqL K H a (ys.map c)) (hz : ys.length ≤ 40000) (hw : ∀ x, wipe ((wipe σ vs).set j (some x)) vs = wipe σ vs)
    (ht : ∀ (i : Nat) (y : α) H1, Ex H H1 → ys[i]? = some y → EvT t ((wipe σ vs).set j (some (c y))) H1 (f y)) (he : ∀ (i : Nat) (y : α) H1, Ex H H1 → ys[i]? = some y → f y = true → Ev te ((wipe σ vs).set j (some (c y))) H1 (g y)) :
    EvL (tLc (iList K tl) (gName j) t te vs) σ H ((ys.filter f).map g) := by
  cases ys with
  | nil => exact el_lcL (te := te) (t := t) (fun _ => true) (fun _ => .non) h hx hz hw (fun i x H1 e hi => by simp at hi) (fun i x H1 e hi _ => by simp at hi)
  | cons d r =>
    have hd : ∀ i y, (d :: r)[i]? = some y → (d :: r).getD i d = y := fun i y hi => by
      rw [List.getD_eq_getElem?_getD, hi]; rfl
    have k := el_lcL (te := te) (t := t) (fun i => f ((d :: r).getD i d)) (fun i => g ((d :: r).getD i d)) h hx (by rw [List.length_map]; exact hz) hw (fun i x H1 e hi => by
      obtain ⟨y, hy, rfl⟩ := vmap_get hi
      show EvT _ _ _ (f ((d :: r).getD i d))
      rw [hd i y hy]
      exact ht i y H1 e hy) (fun i x H1 e hi hf => by
      obtain ⟨y, hy, rfl⟩ := vmap_get hi
      have hf' : f ((d :: r).getD i d) = true := hf
      rw [hd i y hy] at hf'
      show Ev _ _ _ (g ((d :: r).getD i d))
      rw [hd i y hy]
      exact he i y H1 e hy hf')
    rw [List.length_map, given_list] at k
    exact k
theorem el_ls {α : Type} {a : Addr} {ys : List α} (c : α → V) {tl : TE} {j : Nat} {vs : List Nat} (g : α → V) (h : Ev tl σ H (.ref a)) (hx : SqL K H a (ys.map c)) (hz : ys.length ≤ 40000) (hw : ∀ x, wipe ((wipe σ vs).set j (some x)) vs = wipe σ vs)
    (he : ∀ (i : Nat) (y : α) H1, Ex H H1 → ys[i]? = some y → Ev te ((wipe σ vs).set j (some (c y))) H1 (g y)) :
    EvL (tLc (iList K tl) (gName j) tYes te vs) σ H (ys.map g) := by
  have k := el_lsF (te := te) (t := tYes) c (fun _ => true) g h hx hz hw (fun _ _ _ _ _ => et_yes) (fun i y H1 e hi _ => he i y H1 e hi)
  rw [List.filter_eq_self.mpr (fun _ _ => rfl)] at k
  exact k
/-- over a new list -/
theorem el_nlF {α : Type} {ys : List α} (c : α → V) {tl : TE} {j : Nat} {vs : List Nat} (f : α → Bool) (g : α → V) (h : EvL tl σ H (ys.map c)) (hz : ys.length ≤ 40000) (hw : ∀ x, wipe ((wipe σ vs).set j (some x)) vs = wipe σ vs)
    (ht : ∀ (i : Nat) (y : α) H1, Ex H H1 → ys[i]? = some y → EvT t ((wipe σ vs).set j (some (c y))) H1 (f y)) (he : ∀ (i : Nat) (y : α) H1, Ex H H1 → ys[i]? = some y → f y = true → Ev te ((wipe σ vs).set j (some (c y))) H1 (g y)) :
    EvL (tLc (iList K tl) (gName j) t te vs) σ H ((ys.filter f).map g) := by
  cases ys with
  | nil => exact el_lcNL (te := te) (t := t) (fun _ => true) (fun _ => .non) h hz hw (fun i x H1 e hi => by simp at hi) (fun i x H1 e hi _ => by simp at hi)
  | cons d r =>
    have hd : ∀ i y, (d :: r)[i]? = some y → (d :: r).getD i d = y := fun i y hi => by
      rw [List.getD_eq_getElem?_getD, hi]; rfl
    have k := el_lcNL (te := te) (t := t) (K := K) (fun i => f ((d :: r).getD i d)) (fun i => g ((d :: r).getD i d)) h (by rw [List.length_map]; exact hz) hw (fun i x H1 e hi => by
      obtain ⟨y, hy, rfl⟩ := vmap_get hi
      show EvT _ _ _ (f ((d :: r).getD i d))
      rw [hd i y hy]
      exact ht i y H1 e hy) (fun i x H1 e hi hf => by
      obtain ⟨y, hy, rfl⟩ := vmap_get hi
      have hf' : f ((d :: r).getD i d) = true := hf
      rw [hd i y hy] at hf'
      show Ev _ _ _ (g ((d :: r).getD i d))
      rw [hd i y hy]
      exact he i y H1 e hy hf')
    rw [List.length_map, given_list] at k
    exact k
theorem el_nl {α : Type} {ys : List α} (c : α → V) {tl : TE} {j : Nat} {vs : List Nat} (g : α → V) (h : EvL tl σ H (ys.map c)) (hz : ys.length ≤ 40000) (hw : ∀ x, wipe ((wipe σ vs).set j (some x)) vs = wipe σ vs)
    (he : ∀ (i : Nat) (y : α) H1, Ex H H1 → ys[i]? = some y → Ev te ((wipe σ vs).set j (some (c y))) H1 (g y)) :
    EvL (tLc (iList K tl) (gName j) tYes te vs) σ H (ys.map g) := by
  have k := el_nlF (te := te) (t := tYes) (K := K) c (fun _ => true) g h hz hw (fun _ _ _ _ _ => et_yes) (fun i y H1 e hi _ => he i y H1 e hi)
  rw [List.filter_eq_self.mpr (fun _ _ => rfl)] at k
  exact k

/-! ### loops over prefixes -/
theorem take_pre {α : Type} {ys : List α} {i : Nat} {y : α} (h : ys[i]? = some y) : ys = ys.take i ++ y :: ys.drop (i + 1) ∧ ys.take (i + 1) = ys.take i ++ [y] := by
  obtain ⟨hi, rfl⟩ := List.getElem?_eq_some_iff.mp h
  refine ⟨?_, ?_⟩
  · rw [← List.drop_eq_getElem_cons hi, List.take_append_drop]
  · rw [List.take_add_one, List.getElem?_eq_getElem hi]; rfl
variable {D : Ends} {tu tw tz : TS} {g : TG}
/-- for y in list: rest; I: by the prefix gone -/
theorem q_forP {α : Type} {a : Addr} {ys : List α} (c : α → V) {tl : TE} {j : Nat} (h : Ev tl σ H (.ref a)) (hx : SqL K H a (ys.map c)) (I : List α → L2.St → Hp → Prop) (h0 : ∀ H1, Ex H H1 → I [] σ H1)
    (hl : ∀ pre σ' H', I pre σ' H' → SqL K H' a (ys.map c))
    (hs : ∀ pre y post σ' H', ys = pre ++ y :: post → I pre σ' H' → tu { D with nx := I (pre ++ [y]), ct := I (pre ++ [y]), bk := tz D } (σ'.set j (some (c y))) H')
    (hd : ∀ σ' H', I ys σ' H' → tz D σ' H') : tSeq (tFor (iList K tl) (gName j) tu) tz D σ H :=
  q_forLn h hx (fun i => I (ys.take i)) (fun H1 e => h0 H1 e) (fun i σ' H' _ q => hl _ σ' H' q) (fun i x σ' H' hi q => by
    obtain ⟨y, hy, rfl⟩ := vmap_get hi
    obtain ⟨e1, e2⟩ := take_pre hy
    have := hs (ys.take i) y (ys.drop (i + 1)) σ' H' e1 q
    rw [e2]
    exact this) (fun σ' H' q => hd σ' H' (by rw [List.length_map, List.take_length] at q; exact q))
theorem s_forP {α : Type} {a : Addr} {ys : List α} (c : α → V) {tl : TE} {j : Nat} (h : Ev tl σ H (.ref a)) (hx : SqL K H a (ys.map c)) (I : List α → L2.St → Hp → Prop) (h0 : ∀ H1, Ex H H1 → I [] σ H1)
    (hl : ∀ pre σ' H', I pre σ' H' → SqL K H' a (ys.map c))
    (hs : ∀ pre y post σ' H', ys = pre ++ y :: post → I pre σ' H' → tu { D with nx := I (pre ++ [y]), ct := I (pre ++ [y]), bk := D.nx } (σ'.set j (some (c y))) H')
    (hd : ∀ σ' H', I ys σ' H' → D.nx σ' H') : tFor (iList K tl) (gName j) tu D σ H :=
  s_forLn h hx (fun i => I (ys.take i)) (fun H1 e => h0 H1 e) (fun i σ' H' _ q => hl _ σ' H' q) (fun i x σ' H' hi q => by
    obtain ⟨y, hy, rfl⟩ := vmap_get hi
    obtain ⟨e1, e2⟩ := take_pre hy
    have := hs (ys.take i) y (ys.drop (i + 1)) σ' H' e1 q
    rw [e2]
    exact this) (fun σ' H' q => hd σ' H' (by rw [List.length_map, List.take_length] at q; exact q))
/-- for i in range(n) -/
theorem q_forR {ta : TA} {j : Nat} {n : Nat} (h : EvA ta σ H [nat n]) (hn : n ≤ 100000) (Pv : Nat → L2.St → Hp → Prop) (h0 : ∀ H1, Ex H H1 → Pv 0 σ H1)
    (hs : ∀ (i : Nat) σ' H', i < n → Pv i σ' H' → tu { D with nx := Pv (i + 1), ct := Pv (i + 1), bk := tz D } (σ'.set j (some (nat i))) H') (hd : ∀ σ' H', Pv n σ' H' → tz D σ' H') : tSeq (tFor (iRng1 ta) (gName j) tu) tz D σ H :=
  q_forR1 h ⟨by omega, by omega⟩ Pv h0 (fun i σ' H' hi q => hs i σ' H' (by omega) q) (fun σ' H' q => hd σ' H' (by rw [Int.toNat_natCast] at q; exact q))
/-- for i in reversed(range(n)): I k: k turns are left -/
theorem q_forRev {te : TE} {j : Nat} {n : Nat} (h : Ev te σ H (nat n)) (hn : n ≤ 100000) (Pv : Nat → L2.St → Hp → Prop) (h0 : ∀ H1, Ex H H1 → Pv n σ H1)
    (hs : ∀ (i : Nat) σ' H', i < n → Pv (i + 1) σ' H' → tu { D with nx := Pv i, ct := Pv i, bk := tz D } (σ'.set j (some (nat i))) H') (hd : ∀ σ' H', Pv 0 σ' H' → tz D σ' H') : tSeq (tFor (iRevR (tRg1 te)) (gName j) tu) tz D σ H := by
  refine h H (Ex.refl H) _ fun H1 e => ⟨n, rfl, ?_⟩
  refine ⟨by omega, by omega, by omega, by omega, ?_⟩
  have en : (((n : Int) - 0).toNat) = n := by omega
  rw [en]
  refine for_rangeC (lo := (0 : Int) + (n : Int) - 1) (c := -1) (n := n) (fun i => Pv (n - i)) (h0 H1 e) (fun i σ' H' hi q => ?_) (fun σ' H' q => hd σ' H' (by rw [Nat.sub_self] at q; exact q))
  have e1 : ((0 : Int) + (n : Int) - 1 + (i : Int) * -1) = ((n - (i + 1) : Nat) : Int) := by omega
  show tu { D with nx := Pv (n - (i + 1)), ct := Pv (n - (i + 1)), bk := tz D } (σ'.set j (some (.int ((0 : Int) + (n : Int) - 1 + (i : Int) * -1)))) H'
  rw [e1]
  have e2 : n - (i + 1) + 1 = n - i := by omega
  exact hs (n - (i + 1)) σ' H' (by omega) (by rw [e2]; exact q)
end
end Pk
namespace Pk
open PySem PySem.Spec PyProof.Rows L2 Evl He
/-! ### equality of lists of numbers -/
def pdi (ns : List Int) : PyData := .list (ns.map PyData.int)
theorem dpAll_ints {K : PySem.W.Frag} {H : Hp} : ∀ ns : List Int, DpAll K H (vi ns) (ns.map PyData.int)
  | [] => .nil
  | n :: r => .cons (.int n) (dpAll_ints r)
theorem dp_ints {K : PySem.W.Frag} {H : Hp} {a : Addr} {ns : List Int} (h : SqL K H a (vi ns)) : Dp K H (.ref a) (pdi ns) := .lst h (dpAll_ints ns)
theorem canLay_ints : ∀ ns : List Int, PyData.canLayAll0 (ns.map PyData.int) = true
  | [] => by simp [PyData.canLayAll0]
  | n :: r => by simp [PyData.canLayAll0, PyData.canLay0, canLay_ints r]
theorem depth_ints : ∀ ns : List Int, PyData.depthAll (ns.map PyData.int) ≤ 1
  | [] => by simp [PyData.depthAll]
  | n :: r => by
    have h := depth_ints r
    simp only [List.map_cons, PyData.depthAll, PyData.depth]
    omega
theorem shaped_ints (ns : List Int) : SeqAt.shaped (pdi ns) = true := by
  have h := depth_ints ns
  unfold SeqAt.shaped pdi
  rw [Bool.and_eq_true_iff]
  refine ⟨by simp [PyData.canLay0, canLay_ints ns], decide_eq_true ?_⟩
  simp only [PyData.depth]
  omega
theorem eqvAll_ints : ∀ ns ms : List Int, PyData.eqvAll (ns.map PyData.int) (ms.map PyData.int) = decide (ns = ms)
  | [], [] => rfl
  | [], m :: s => rfl
  | n :: r, [] => rfl
  | n :: r, m :: s => by
    show (PyData.eqv (.int n) (.int m) && PyData.eqvAll (r.map PyData.int) (s.map PyData.int)) = _
    rw [eqvAll_ints r s]
    show ((n == m) && decide (r = s)) = _
    by_cases h1 : n = m
    · by_cases h2 : r = s
      · simp [h1, h2]
      · simp [h1, h2]
    · simp [h1]
theorem eqv_ints (ns ms : List Int) : PyData.eqv (pdi ns) (pdi ms) = decide (ns = ms) := eqvAll_ints ns ms
section
variable {K : PySem.W.Frag} {σ : L2.St} {H H' : Hp} {ta tb te tx : TE} {t u : TT} {x y z v : V} {r : R2}
theorem rv_eqI {a b : Addr} {ns ms : List Int} (h1 : SqL K H a (vi ns)) (h2 : SqL K H b (vi ms)) : RV (rEqD K) (.ref a) (.ref b) H (.bl (decide (ns = ms))) := fun H1 e Q q =>
  ⟨_, _, dp_ints (ex_l e h1), dp_ints (ex_l e h2), shaped_ints ns, shaped_ints ms, by rw [eqv_ints]; exact q H1 (Ex.refl H1)⟩
theorem rv_neI {a b : Addr} {ns ms : List Int} (h1 : SqL K H a (vi ns)) (h2 : SqL K H b (vi ms)) : RV (rNeD K) (.ref a) (.ref b) H (.bl (!decide (ns = ms))) := fun H1 e Q q =>
  ⟨_, _, dp_ints (ex_l e h1), dp_ints (ex_l e h2), shaped_ints ns, shaped_ints ms, by rw [eqv_ints]; exact q H1 (Ex.refl H1)⟩
theorem rv_eqN {a b : Addr} {ns ms : List Nat} (h1 : SqL K H a (vn ns)) (h2 : SqL K H b (vn ms)) : RV (rEqD K) (.ref a) (.ref b) H (.bl (decide (ns = ms))) := by
  rw [vn_vi] at h1 h2
  have k := rv_eqI h1 h2
  have e : (ns.map (fun (n : Nat) => (n : Int)) = ms.map (fun (n : Nat) => (n : Int))) = (ns = ms) := by
    refine propext ⟨fun h => ?_, fun h => by rw [h]⟩
    exact List.map_inj_right (fun a b hab => Int.ofNat.inj hab) |>.mp h
  rw [show decide (ns.map (fun (n : Nat) => (n : Int)) = ms.map (fun (n : Nat) => (n : Int))) = decide (ns = ms) from by simp only [e]] at k
  exact k
theorem rv_neN {a b : Addr} {ns ms : List Nat} (h1 : SqL K H a (vn ns)) (h2 : SqL K H b (vn ms)) : RV (rNeD K) (.ref a) (.ref b) H (.bl (!decide (ns = ms))) := by
  rw [vn_vi] at h1 h2
  have k := rv_neI h1 h2
  have e : (ns.map (fun (n : Nat) => (n : Int)) = ms.map (fun (n : Nat) => (n : Int))) = (ns = ms) := by
    refine propext ⟨fun h => ?_, fun h => by rw [h]⟩
    exact List.map_inj_right (fun a b hab => Int.ofNat.inj hab) |>.mp h
  rw [show decide (ns.map (fun (n : Nat) => (n : Int)) = ms.map (fun (n : Nat) => (n : Int))) = decide (ns = ms) from by simp only [e]] at k
  exact k
/-! ### calls of built-ins -/
theorem rc_sum {a : Addr} {ns : List Int} (h : SqL K H a (vi ns)) : RC (rSum K) [.ref a] H (.int ns.sum) := fun H1 e Q q => ⟨a, ns, rfl, ex_l e h, q H1 (Ex.refl H1)⟩
theorem sum_nat : ∀ ws : List Nat, (ws.map fun (n : Nat) => (n : Int)).sum = ((ws.sum : Nat) : Int)
  | [] => rfl
  | w :: r => by
    rw [List.map_cons, List.sum_cons, List.sum_cons, sum_nat r]
    omega
theorem rc_sumN {a : Addr} {ws : List Nat} (h : SqL K H a (vn ws)) : RC (rSum K) [.ref a] H (nat ws.sum) := by
  rw [vn_vi] at h
  have k := rc_sum h
  rw [sum_nat] at k
  exact k
theorem rc_all {a : Addr} {bs : List Bool} (h : SqL K H a (bs.map V.bl)) : RC (rAll K) [.ref a] H (.bl (bs.all id)) := fun H1 e Q q => ⟨a, bs, rfl, ex_l e h, q H1 (Ex.refl H1)⟩
/-- all([..]), the list made on the way -/
theorem ev_allN {bs : List Bool} (h : EvL ta σ H (bs.map V.bl)) : Ev (tCB (rAll K) (tCons ta tNil)) σ H (.bl (bs.all id)) := fun H1 e Q q =>
  h H1 e _ fun p H2 _ e2 h2 => ⟨p, bs, rfl, sq_of h2, q H2 e2⟩
theorem ev_all {a : Addr} {bs : List Bool} (ha : Ev ta σ H (.ref a)) (h : SqL K H a (bs.map V.bl)) : Ev (tCB (rAll K) (tCons ta tNil)) σ H (.bl (bs.all id)) := ev_cb (ea_cons ha ea_nil) (rc_all h)
theorem ev_sumN {a : Addr} {ws : List Nat} (ha : Ev ta σ H (.ref a)) (h : SqL K H a (vn ws)) : Ev (tCB (rSum K) (tCons ta tNil)) σ H (nat ws.sum) := ev_cb (ea_cons ha ea_nil) (rc_sumN h)
theorem ev_sum {a : Addr} {ns : List Int} (ha : Ev ta σ H (.ref a)) (h : SqL K H a (vi ns)) : Ev (tCB (rSum K) (tCons ta tNil)) σ H (.int ns.sum) := ev_cb (ea_cons ha ea_nil) (rc_sum h)
/-- isinstance of a built-in class -/
theorem rc_isi {t b : String} {k : Bool} (ty : ∀ H1, Ex H H1 → TyX K H1 x (.type t)) (hk : kitB t b = some k) : RC (rIsi K) [x, .ty b] H (.bl k) := fun H1 e Q q =>
  ⟨x, .ty b, .type t, .type b, k, rfl, .ty b, ty H1 e, kit_ty hk, q H1 (Ex.refl H1)⟩
theorem ty_list {a : Addr} {xs : List V} (h : SqL K H a xs) : TyX K H (.ref a) (.type "list") := by
  rcases h with (h | ⟨o, h⟩) | ⟨o, its, n, hk, hc, hd, hs, hz, r⟩
  · exact .base (.lst h)
  · exact .base (.frz h)
  · exact .kList hk hc
theorem isi_int {i : Int} (b : String) {k : Bool} (hk : kitB "int" b = some k) : RC (rIsi K) [.int i, .ty b] H (.bl k) := rc_isi (fun _ _ => .base (.int i)) hk
theorem isi_list {a : Addr} {xs : List V} (h : SqL K H a xs) (b : String) {k : Bool} (hk : kitB "list" b = some k) : RC (rIsi K) [.ref a, .ty b] H (.bl k) := rc_isi (fun H1 e => ty_list (ex_l e h)) hk
theorem isi_str {s : Str} (b : String) {k : Bool} (hk : kitB "str" b = some k) : RC (rIsi K) [.str s, .ty b] H (.bl k) := rc_isi (fun _ _ => .base (.str s)) hk
theorem isi_bl {s : Bool} (b : String) {k : Bool} (hk : kitB "bool" b = some k) : RC (rIsi K) [.bl s, .ty b] H (.bl k) := rc_isi (fun _ _ => .base (.bl s)) hk
/-! ### sorted -/
def isort (ns : List Int) : List Int := ns.mergeSort (fun a b => decide (a ≤ b))
theorem isort_perm (ns : List Int) : (isort ns).Perm ns := List.mergeSort_perm ns _
theorem isort_rise (ns : List Int) : (isort ns).Pairwise (· ≤ ·) := by
  have h := List.pairwise_mergeSort (le := fun (a b : Int) => decide (a ≤ b)) (fun a b c h1 h2 => by simp only [decide_eq_true_eq] at *; omega) (fun a b => by simp only [Bool.or_eq_true, decide_eq_true_eq]; omega) ns
  exact h.imp (fun q => of_decide_eq_true q)
theorem isort_is {ns ms : List Int} (p : ms.Perm ns) (r : ms.Pairwise (· ≤ ·)) : isort ns = ms :=
  List.Perm.eq_of_pairwise (fun a b _ _ h1 h2 => Int.le_antisymm h1 h2) (isort_rise ns) r ((isort_perm ns).trans p.symm)
theorem el_sorted {a : Addr} {ns : List Int} (ha : Ev ta σ H (.ref a)) (h : SqL K H a (vi ns)) : EvL (tCB (rSortedI K) (tCons ta tNil)) σ H (vi (isort ns)) := fun H1 e Q q =>
  ha H1 e _ fun H2 e2 => ⟨a, ns, rfl, ex_l (e.trans e2) h, fun ns' p hp hr hn => by
    have z := isort_is hp hr
    subst z
    exact q p _ (fresh_back e2 hn) (e2.trans (Ex.new hn)) upd_same⟩
/-- operators on numbers -/
theorem ev_add {i j k : Int} (ha : Ev ta σ H (.int i)) (hb : Ev tb σ H (.int j)) (e : k = i + j) : Ev (tOp (rI0 fun i j => .int (i + j)) ta tb) σ H (.int k) := by
  rw [e]; exact ev_op ha hb rv_I0
theorem ev_sub {i j k : Int} (ha : Ev ta σ H (.int i)) (hb : Ev tb σ H (.int j)) (e : k = i - j) : Ev (tOp (rI0 fun i j => .int (i - j)) ta tb) σ H (.int k) := by
  rw [e]; exact ev_op ha hb rv_I0
theorem ev_mod {i j k : Int} (ha : Ev ta σ H (.int i)) (hb : Ev tb σ H (.int j)) (hj : 0 < j) (e : k = i % j) : Ev (tOp (rI (fun _ j => 0 < j) fun i j => .int (i % j)) ta tb) σ H (.int k) := by
  rw [e]; exact ev_op ha hb (rv_I hj)
theorem ev_div {i j k : Int} (ha : Ev ta σ H (.int i)) (hb : Ev tb σ H (.int j)) (hj : 0 < j ∧ j < 1073741824) (e : k = i / j) : Ev (tOp (rI CDiv fun i j => .int (i / j)) ta tb) σ H (.int k) := by
  rw [e]; exact ev_op ha hb (rv_I hj)
theorem ev_mul {i j k : Int} (ha : Ev ta σ H (.int i)) (hb : Ev tb σ H (.int j)) (hj : CMul i j) (e : k = i * j) : Ev (tOp (rI CMul fun i j => .int (i * j)) ta tb) σ H (.int k) := by
  rw [e]; exact ev_op ha hb (rv_I hj)
theorem ev_cmp {p : Int → Int → Bool} {i j : Int} {b : Bool} (ha : Ev ta σ H (.int i)) (hb : Ev tb σ H (.int j)) (e : b = p i j) : Ev (tOp (rI0 fun i j => .bl (p i j)) ta tb) σ H (.bl b) := by
  rw [e]; exact ev_op ha hb rv_I0
theorem ev_eqInt {i j : Int} (ha : Ev ta σ H (.int i)) (hb : Ev tb σ H (.int j)) : Ev (tOp rEq ta tb) σ H (.bl (decide (i = j))) := by
  have k := ev_op (r := rEq) ha hb (rv_eq rfl)
  rw [show decide (V.int i = V.int j) = decide (i = j) from by simp] at k
  exact k
theorem ev_neInt {i j : Int} (ha : Ev ta σ H (.int i)) (hb : Ev tb σ H (.int j)) : Ev (tOp rNe ta tb) σ H (.bl (!decide (i = j))) := by
  have k := ev_op (r := rNe) ha hb (rv_ne rfl)
  rw [show decide (V.int i = V.int j) = decide (i = j) from by simp] at k
  exact k
/-- ws[i] -/
theorem ev_ixN {p : Addr} {xs : List V} {i : Nat} (ha : Ev ta σ H (.ref p)) (hb : Ev tb σ H (nat i)) (h : SqL K H p xs) (hi : xs[i]? = some v) : Ev (tOp (rIxL K) ta tb) σ H v := ev_op ha hb (rv_ixL h (at_nat hi))
theorem ev_chain {p q : Int → Int → Bool} {i j k : Int} {b : Bool} (ha : Ev ta σ H (.int i)) (hb : Ev tb σ H (.int j)) (hc : Ev te σ H (.int k)) (e : b = (p i j && q j k)) :
    Ev (tChain (rI0 fun i j => .bl (p i j)) (rI0 fun i j => .bl (q i j)) ta tb te) σ H (.bl b) := fun H1 e1 Q Qk => by
  rw [e] at Qk
  refine ha H1 e1 _ fun H2 e2 => hb H2 (e1.trans e2) _ fun H3 e3 => ⟨i, j, rfl, rfl, p i j, rfl, ?_⟩
  cases hp : p i j with
  | true =>
    rw [hp] at Qk
    exact hc H3 ((e1.trans e2).trans e3) _ fun H4 e4 => ⟨j, k, rfl, rfl, Qk H4 ((e2.trans e3).trans e4)⟩
  | false =>
    rw [hp] at Qk
    exact Qk H3 (e2.trans e3)
end
end Pk
namespace Pk
open PySem PySem.Spec PyProof.Rows L2 Evl He
section
variable {K : PySem.W.Frag} {σ : L2.St} {H H' : Hp} {ta tb te tx : TE} {t u : TT} {x y z v : V} {r : R2} {D : Ends} {tu tw tz : TS} {g : TG}
/-! ### calls that may raise -/
theorem s_callX {sp : Sp} {dvs vs : List V} {E : XK} {ta : TA} (h : EvA ta σ H vs) (k : ∀ H1, Ex H H1 → sp (vs ++ dvs) H1 (fun _ H' => D.nx σ H') E) : tDrop (tCall sp dvs E ta) D σ H :=
  h H (Ex.refl H) _ fun H1 e => k H1 e
theorem q_callX {sp : Sp} {dvs vs : List V} {E : XK} {ta : TA} (h : EvA ta σ H vs) (k : ∀ H1, Ex H H1 → sp (vs ++ dvs) H1 (fun _ H' => tz D σ H') E) : tSeq (tDrop (tCall sp dvs E ta)) tz D σ H := s_callX (D := { D with nx := tz D }) h k
theorem s_asgX {sp : Sp} {dvs vs : List V} {E : XK} {ta : TA} {i : Nat} (h : EvA ta σ H vs) (k : ∀ H1, Ex H H1 → sp (vs ++ dvs) H1 (fun v H' => D.nx (σ.set i (some v)) H') E) : tAsg (tCall sp dvs E ta) (gName i) D σ H :=
  h H (Ex.refl H) _ fun H1 e => k H1 e
theorem q_asgX {sp : Sp} {dvs vs : List V} {E : XK} {ta : TA} {i : Nat} (h : EvA ta σ H vs) (k : ∀ H1, Ex H H1 → sp (vs ++ dvs) H1 (fun v H' => tz D (σ.set i (some v)) H') E) : tSeq (tAsg (tCall sp dvs E ta) (gName i)) tz D σ H := s_asgX (D := { D with nx := tz D }) h k
theorem s_retX {sp : Sp} {dvs vs : List V} {E : XK} {ta : TA} (h : EvA ta σ H vs) (k : ∀ H1, Ex H H1 → sp (vs ++ dvs) H1 D.rt E) : tRet (tCall sp dvs E ta) D σ H :=
  h H (Ex.refl H) _ fun H1 e => k H1 e
/-! ### comparisons with a list made on the way -/
theorem ev_neLN {a : Addr} {ns ms : List Nat} (ha : Ev ta σ H (.ref a)) (h1 : SqL K H a (vn ns)) (hb : EvL tb σ H (vn ms)) : Ev (tOp (rNeD K) ta tb) σ H (.bl (!decide (ns = ms))) :=
  ev_opL ha hb fun p H1 hp e => rv_neN (ex_l e h1) (sq_of hp)
theorem ev_eqLN {a : Addr} {ns ms : List Nat} (ha : Ev ta σ H (.ref a)) (h1 : SqL K H a (vn ns)) (hb : EvL tb σ H (vn ms)) : Ev (tOp (rEqD K) ta tb) σ H (.bl (decide (ns = ms))) :=
  ev_opL ha hb fun p H1 hp e => rv_eqN (ex_l e h1) (sq_of hp)
theorem ev_neLI {a : Addr} {ns ms : List Int} (ha : Ev ta σ H (.ref a)) (h1 : SqL K H a (vi ns)) (hb : EvL tb σ H (vi ms)) : Ev (tOp (rNeD K) ta tb) σ H (.bl (!decide (ns = ms))) :=
  ev_opL ha hb fun p H1 hp e => rv_neI (ex_l e h1) (sq_of hp)
theorem ev_eqLI {a : Addr} {ns ms : List Int} (ha : Ev ta σ H (.ref a)) (h1 : SqL K H a (vi ns)) (hb : EvL tb σ H (vi ms)) : Ev (tOp (rEqD K) ta tb) σ H (.bl (decide (ns = ms))) :=
  ev_opL ha hb fun p H1 hp e => rv_eqI (ex_l e h1) (sq_of hp)
theorem ev_neN {a b : Addr} {ns ms : List Nat} (ha : Ev ta σ H (.ref a)) (hb : Ev tb σ H (.ref b)) (h1 : SqL K H a (vn ns)) (h2 : SqL K H b (vn ms)) : Ev (tOp (rNeD K) ta tb) σ H (.bl (!decide (ns = ms))) := ev_op ha hb (rv_neN h1 h2)
theorem ev_eqN {a b : Addr} {ns ms : List Nat} (ha : Ev ta σ H (.ref a)) (hb : Ev tb σ H (.ref b)) (h1 : SqL K H a (vn ns)) (h2 : SqL K H b (vn ms)) : Ev (tOp (rEqD K) ta tb) σ H (.bl (decide (ns = ms))) := ev_op ha hb (rv_eqN h1 h2)
theorem ev_lenS {p : Addr} {xs : List V} {n : Nat} (ha : Ev ta σ H (.ref p)) (h : SqL K H p xs) (hn : xs.length = n) : Ev (tCB (rLenS K) (tCons ta tNil)) σ H (nat n) := by
  have k := ev_len ha h
  rw [hn] at k
  exact k
theorem ev_maxN {i j k : Nat} (ha : Ev ta σ H (nat i)) (hb : Ev tb σ H (nat j)) (e : k = Nat.max i j) : Ev (tCB rMax2 (tCons ta (tCons tb tNil))) σ H (nat k) := by
  have q := ev_max2 ha hb
  refine ev_is q ?_
  unfold nat
  rw [e]
  congr 1
  have h2 : Nat.max i j = if i < j then j else i := by
    show max i j = _
    split <;> omega
  rw [h2]
  split
  · rw [if_pos (by omega)]
  · rw [if_neg (by omega)]
/-! ### texts -/
open SX (S)
theorem q_forS {ts : TE} {j : Nat} {cs : List Nat} (h : Ev ts σ H (.str (S cs))) (I : List Nat → L2.St → Hp → Prop) (h0 : ∀ H1, Ex H H1 → I [] σ H1)
    (hs : ∀ pre c post σ' H', cs = pre ++ c :: post → I pre σ' H' → tu { D with nx := I (pre ++ [c]), ct := I (pre ++ [c]), bk := tz D } (σ'.set j (some (.str (S [c])))) H')
    (hd : ∀ σ' H', I cs σ' H' → tz D σ' H') : tSeq (tFor (iStr ts) (gName j) tu) tz D σ H := by
  refine h H (Ex.refl H) _ fun H1 e => ⟨S cs, rfl, ?_⟩
  refine ⟨fun i m σ H => m = cs.length - i ∧ i ≤ cs.length ∧ I (cs.take i) σ H, ⟨cs.length, by simp, Nat.zero_le _, h0 H1 e⟩, ?_⟩
  rintro i m σ H ⟨rfl, hi, p⟩
  have sz : (S cs).cps.size = cs.length := by simp [S]
  by_cases hlt : i < cs.length
  · refine .inr ⟨by show i < (S cs).cps.size; rw [sz]; exact hlt, I (cs.take (i + 1)), fun σ' H' p' => ⟨cs.length - (i + 1), by omega, rfl, hlt, p'⟩, fun x H' y => ?_⟩
    obtain ⟨rfl, c, hc, rfl⟩ := y
    have hc' : cs[i]? = some c := by simpa [S] using hc
    obtain ⟨e1, e2⟩ := take_pre hc'
    have := hs (cs.take i) c (cs.drop (i + 1)) σ _ e1 p
    rw [e2]
    exact this
  · have e : i = cs.length := by omega
    subst e
    refine .inl ⟨by show (S cs).cps.size ≤ cs.length; rw [sz]; exact Nat.le_refl _, hd σ H ?_⟩
    rw [List.take_length] at p
    exact p
theorem ev_catS {a b : List Nat} (ha : Ev ta σ H (.str (S a))) (hb : Ev tb σ H (.str (S b))) (hz : a.length + b.length ≤ 100000) : Ev (tOp (fun x y H Q => ∃ i j, x = .str i ∧ y = .str j ∧ i.length + j.length ≤ sizeLine ∧ Q (.str (i ++ j)) H) ta tb) σ H (.str (S (a ++ b))) :=
  ev_op ha hb fun H1 e Q q => ⟨S a, S b, rfl, rfl, by rw [SX.S_len, SX.S_len]; exact sz_of hz, by rw [SX.S_cat]; exact q H1 (Ex.refl H1)⟩
theorem mul_S (c : Nat) (n : Nat) : Txt.mul (S [c]) (n : Int) = S (List.replicate n c) := by
  unfold Txt.mul
  cases n with
  | zero => rfl
  | succ n =>
    rw [if_neg (by omega)]
    by_cases h1 : n = 0
    · subst h1
      rfl
    · have e1 : (((n + 1 : Nat) : Int) == 1) = false := by simp; omega
      have e2 : ((S [c]).length == 0) = false := rfl
      rw [e1, e2]
      show (if false = true then S [c] else _) = _
      rw [if_neg Bool.false_ne_true, Int.toNat_natCast]
      have key : ∀ (k : Nat) (acc : Array Nat), ((List.replicate k (S [c]).cps).foldl (· ++ ·) acc).toList = acc.toList ++ List.replicate k c := by
        intro k
        induction k with
        | zero => intro acc; simp
        | succ k ih =>
          intro acc
          rw [List.replicate_succ, List.foldl_cons, ih, Array.toList_append, List.replicate_succ, List.append_assoc]
          rfl
      refine TL.ext_tl ?_
      exact (key (n + 1) #[]).trans (by simp [TL.tl, S])
theorem mulOk_S (c : Nat) {n : Nat} (h : n ≤ 100000) : MulOk (S [c]) (n : Int) := by
  have h1 : (S [c]).length = 1 := rfl
  refine ⟨?_, fun h2 _ => ?_, fun _ _ => ?_⟩
  · rw [Bool.or_eq_false_iff]
    exact ⟨decide_eq_false (by omega), decide_eq_false (by omega)⟩
  · rw [h1]
    have h3 : (1 : Int) ≤ (2 ^ 63 - 1) / (n : Int) := by
      refine (Int.le_ediv_iff_mul_le (by omega)).mpr ?_
      omega
    show ¬ (((1 : Nat) : Int) > (2 ^ 63 - 1) / (n : Int))
    omega
  · rw [h1, Int.toNat_natCast]
    unfold Builtin.Str.tooLong
    have h4 : 1 * n ≤ sizeLine := by rw [Nat.one_mul]; exact sz_of h
    exact decide_eq_false (by omega)
theorem ev_mulS {c n : Nat} (ha : Ev ta σ H (.str (S [c]))) (hb : Ev tb σ H (nat n)) (hz : n ≤ 100000) : Ev (tOp rMulS ta tb) σ H (.str (S (List.replicate n c))) :=
  ev_op ha hb fun H1 e Q q => ⟨S [c], (n : Int), rfl, rfl, mulOk_S c hz, by rw [mul_S]; exact q H1 (Ex.refl H1)⟩
/-- "".join(new list of texts) -/
def rJoin (K : PySem.W.Frag) : V → List V → Hp → VK → Prop := fun x xs H Q => ∃ a p, ∃ ys : List Str, x = .str a ∧ xs = [.ref p] ∧ (SqL K H p (ys.map V.str) ∨ SqT K H p (ys.map V.str)) ∧
      (ys.map (·.length)).sum + ys.length * a.length ≤ 16777216 ∧ Q (.str (Txt.join a ys)) H
theorem ev_joinL {a : List Nat} {ys : List (List Nat)} (ha : Ev ta σ H (.str (S a))) (hb : EvL tb σ H (ys.map fun y => V.str (S y))) (hz : (ys.map (·.length)).sum + ys.length * a.length ≤ 16777216) :
    Ev (tM1 (rJoin K) ta tb) σ H (.str (S (TL.joinL a ys))) := fun H1 e Q q =>
  ha H1 e _ fun H2 e2 => ⟨⟨_, rfl⟩, hb H2 (e.trans e2) _ fun p H3 _ e3 hp => ⟨S a, p, ys.map S, rfl, rfl, .inl (sq_of (by rw [List.map_map]; exact hp)), by
    rw [List.map_map, List.length_map, SX.S_len]
    have e4 : ((fun y : Str => y.length) ∘ S) = fun y : List Nat => y.length := funext fun y => SX.S_len y
    rw [e4]
    exact hz, by rw [SX.join_S]; exact q H3 (e2.trans e3)⟩⟩
end
end Pk
namespace Pk
open PySem PySem.Spec PyProof.Rows L2 Evl He
/-! ### errors: what leaves a def, what is caught -/
theorem passN {X : Cx} : Passes (L2N.CX X.prog X.w) X E0 := fun _ _ _ _ _ _ _ h => by
  obtain ⟨_, _, _, _, _, _, _, _, _, _, _, _, z⟩ := h
  exact z.elim
theorem takesN {X : Cx} : L2N.Takes X (fun _ _ _ _ => False) := fun _ _ x => by
  obtain ⟨_, _, _, _, _, _, _, _, _, _, _, _, _, _, _, _, z⟩ := x
  exact z.elim
/-- the end of a list's walk while an exception is handled -/
theorem list_end_hot {prog : Program} {w : World} {A : Around} {E : Value → Shared → Prop} {s : Shared} {it l x1 : Addr} {i : Nat} {items : Array Value} {Q : Option Value → Shared → Prop} (hot : HotX.HotAt A x1 s.heap) (hne : x1 ≠ it)
    (hit : s.heap.IsListIter it l i) (hl : s.heap.IsList l items) (hx : items[i]? = none)
    (hQ : ∀ h', Heap.ExtBut it s.heap h' → Q none { s with heap := h' }) : wpAny (model prog w) A (pyNext (.ref it)) Q E s := by
  obtain ⟨o, ho, hc, hd⟩ := id hit
  obtain ⟨ol, hol, _, nl, hdl⟩ := hl
  obtain ⟨hh, o1, vs1, h1, d1, c1⟩ := hot
  unfold pyNext
  refine wpAny_bind (wpAny_attempt (wpAny_callSpecial?_slot (name := Str.ofString "__next__") hit.typeIs slot_listiter_next
    (wpAny_call_entry slot_listiter_next hit.typeIs entry_listiter_next ?_ (args_listiter_next _))))
  show wpAny _ _ (field (.ref it) 0 >>= _) _ _ s
  refine wpAny_bind (wpAny_field ho hd (x := .ref l) rfl ?_)
  show wpAny _ _ (if (Value.ref l == Value.none) = true then _ else _) _ _ s
  rw [if_neg (show ¬ ((Value.ref l == Value.none) = true) from Bool.false_ne_true)]
  show wpAny _ _ (field (.ref it) 1 >>= _) _ _ s
  refine wpAny_bind (wpAny_field ho hd (x := .int i 0) rfl ?_)
  show wpAny _ _ (seqItems? (.ref l) >>= _) _ _ s
  refine wpAny_bind (wpAny_seqItems hol hdl ?_)
  simp only [Int.toNat_natCast, hx]
  refine wpAny_bind (wpAny_rule (wpAny_bind (wpAny_setField ho hd (by simp) ?_)))
  show wpAny _ _ (newExc (.type "StopIteration") [] >>= _) _ _ _
  refine wpAny_bind ?_
  simp only [newExc, newTuple]
  refine wpAny_bind (wpAny_newObj_type ?_ (by size_fits))
  refine wpAny_bind (m := firstArgMember _ _) (wpAny_of_eq (a := Value.none) (by first | rfl | (simp only [firstArgMember]; rfl)) ?_)
  refine wpAny_newObj_type ?_ (by size_fits)
  refine HotX.raiseNew_hot (x1 := x1) ⟨hh, o1, vs1, ?_, d1, c1⟩ ?_ (Heap.get?_push_size _ rfl) rfl (by first | (simp; done) | (simp; omega) | (simp only [Array.size_append]; simp; omega)) ?_
  · exact Heap.get?_push_of_some _ (Heap.get?_push_of_some _ ((Heap.get?_update_other _ _ (Ne.symm hne)).trans h1))
  · exact Nat.ne_of_lt (Heap.lt_size (Heap.get?_push_of_some _ ((Heap.get?_update_other _ _ (Ne.symm hne)).trans h1)))
  refine wpAny_bind (wpAny_isInstance (T := "StopIteration") (b := true) ⟨_, Heap.get?_update_self _ (Heap.get?_push_size _ rfl) rfl, rfl⟩ isSubtype_stop ?_)
  refine wpAny_pure (hQ _ fun b ob hb e => ?_)
  have e1 := (Heap.get?_update_other s.heap (Obj.mapFields fun x => x.setIfInBounds 0 Value.none) (Ne.symm hb)).trans e
  rw [Heap.get?_update_other _ _ (Nat.ne_of_gt (Heap.lt_size (Heap.get?_push_of_some _ e1)))]
  exact Heap.get?_push_of_some _ (Heap.get?_push_of_some _ e1)
/-- x1 is an exception whose context is None -/
def CtxAt (h : Heap) (x1 : Addr) : Prop := ∃ (o : Obj) (vs : Array Value), h.get? x1 = some o ∧ o.data = .fields vs ∧ vs[2]? = some .none
theorem walks_hot {prog : Program} {w : World} {A : Around} {x1 : Addr} (hh : A.handled = some (.ref x1)) (I ax : Addr) (hne : ax ≠ I) (hx : x1 ≠ I) (items : Array Value) :
    Walks prog w A I [I, ax, x1] [I] items.size (fun i v => items[i]? = some v) (fun i h => h.IsListIter I ax i ∧ h.IsList ax items ∧ CtxAt h x1) where
  sub := fun b hb => by simp at hb; simp [hb]
  frame := fun _ _ _ st hk => ⟨st.1.at fun o e => hk I (by simp) o e, st.2.1.at fun o e => hk ax (by simp) o e, by
    obtain ⟨o, vs, e, r⟩ := st.2.2
    exact ⟨o, vs, hk x1 (by simp) o e, r⟩⟩
  item := fun i s Q E hi st hQ => by
    refine wpAny_pyNext_list_item st.1 st.2.1 (x := items[i]) (by simp [hi]) fun h' hit' hs' => ?_
    refine hQ _ h' s.toks (by simp [hi]) ⟨hit', st.2.1.extBut hs'.extBut hne, ?_⟩ fun b o hb e => hs'.extBut b o (fun h => hb (by simp [h])) e
    obtain ⟨o, vs, e, r⟩ := st.2.2
    exact ⟨o, vs, hs'.extBut x1 o hx e, r⟩
  done := fun s Q E st hQ => by
    obtain ⟨o, vs, e, r⟩ := st.2.2
    exact list_end_hot ⟨hh, o, vs, e, r⟩ hx st.1 st.2.1 (by simp) fun h' he' => hQ h' s.toks fun b o hb e => he' b o (fun h => hb (by simp [h])) e
  self := fun _ _ _ _ st hQ => wpAny_pyIter_listiter st.1 hQ
/-- any(xs) while an exception is handled -/
theorem cr_anyH {X : Cx} (hc : L2H.HotC X) : CallR X (.builtin "any") (rAny X.K) := by
  intro pins s σ H vs us Q I r h
  obtain ⟨a, bs, rfl, hs, q⟩ := h
  obtain ⟨its, rv, hl, _⟩ := I.list hs
  rw [Vals.ref1 r]
  have hb := rv.bls
  obtain ⟨x1, hh, o1, vs1, h1, d1, c1⟩ := hc.at I
  have hlt1 := Heap.lt_size h1
  refine call_any_walk (iter_any hl.isList fun s₂ e2 st hne => ?_)
  subst e2
  refine ⟨_, _, _, _, _, _, _, rfl, walks_hot (A := X.A.in1) hh _ a hne (Nat.ne_of_lt hlt1) its.toArray, ⟨st.1, st.2, o1, vs1, Heap.get?_push_of_some _ h1, d1, c1⟩, truth_bools hb, fun h' tk hk => ?_⟩
  refine ⟨.bl _, H, I.kept fun b o eo => hk b o (fun hmem => ?_) (Heap.get?_push_of_some _ eo), ?_, q⟩
  · rcases List.mem_cons.mp hmem with e1 | hmem
    · exact absurd (e1 ▸ Heap.lt_size eo) (Nat.lt_irrefl _)
    · cases hmem
  · show Value.bool _ = Value.bool _
    rw [← L2.any_range, hb, List.size_toArray, List.length_map]
theorem hot_suite {X : Cx} {a : Addr} {oe : Obj} {cls : Value} {d : Option Addr} {pn : List (Addr × Obj)} (hz : L2N.Zn cls d oe) (hf : ∃ vs, oe.data = .fields vs) : L2H.HotC (X.suite a ((a, oe) :: pn)) := by
  obtain ⟨vs, e⟩ := hf
  exact ⟨(a, oe), ⟨rfl, vs, e, hz.2.2 vs e⟩, List.mem_cons_self⟩
/-- isinstance(e, c) in the suite, whatever own class e is of -/
def rIsE2 (K : PySem.W.Frag) (cls : Value) (d : Option Addr) (a : Addr) : List V → Hp → VK → Prop := fun xs H Q => ∃ D, cls = .ref D ∧ d = none ∧ ExcC K D ∧ rIsE K D a xs H Q
theorem call_isE2 {X : Cx} {a : Addr} {oe : Obj} {cls : Value} {d : Option Addr} {pn : List (Addr × Obj)} (hz : L2N.Zn cls d oe) (hf : ∃ vs, oe.data = .fields vs) : CallR (X.suite a ((a, oe) :: pn)) (.builtin "isinstance") (rIsE2 X.K cls d a) := by
  intro pins s σ H xs us Q I r h
  obtain ⟨D, rfl, rfl, C, h⟩ := h
  exact call_isE C hz.zc hf pins s σ H xs us Q I r h
/-- of several defs that a slot may hold, that may raise -/
structure HeldX (P : Program) (w : World) (K : PySem.W.Frag) (mg : Str → Option Value) (base : Heap) (k : Nat) (f : Addr) (sp : Sp) : Prop where
  ex : ∃ (fd : FuncData) (ps : List Str), FnOk P w K mg base (L2N.CX P w) k f fd ps sp ∧ PySem.W.keepIn K (.ref f) = true ∧ Binds K fd ps []
def tCallX (i : Nat) (SP : Addr → Sp → Prop) (E : L2.St → XK) (t : TA) : TE := fun σ H Q => ∃ f sp, σ[i]? = some (some (.ref f)) ∧ SP f sp ∧ t σ H fun vs H1 => sp vs H1 Q (E σ)
theorem pe_callX {X : Cx} {k i : Nat} {SP : Addr → Sp → Prop} {E : L2.St → XK} {x : Str} {p pos : Pos} {e : Expr} {es : List Expr} {t : TA} (L : ∀ f sp, SP f sp → HeldX X.prog X.w X.K X.mg X.base k f sp) (hr : Room k X.A) (hN : X.N[i]? = some x) (hv : Vis X.env.scope x)
    (hx : ∀ σ, PassesAt (L2N.CX X.prog X.w) X σ (E σ)) (ha : PA X (e :: es) t)
    (hdb : (x == ("__debug__" : Str)) = false := by decide) (hcd : (x == ("__classdict__" : Str)) = false := by decide)
    (he : starEach (e :: es) X.env = (false, eval e X.env) :: starEach es X.env := by rfl) (hpl : (backTo pos (starEach es X.env)).any (·.1) = false := by rfl) : PE X (.Call (.Name x p) (e :: es) [] pos) (tCallX i SP E t) := by
  refine ⟨fun pins s σ H Q I h => ?_⟩
  obtain ⟨f, sp, hs, hS, ht⟩ := h
  obtain ⟨fd, ps, F, hk, hb⟩ := (L f sp hS).ex
  refine wpAny_Call_Name_kw (thn ((pe_var (pos := p) hN hv hdb hcd).run pins s σ H (fun v H1 => v = .ref f ∧ H1 = H) I ⟨.ref f, hs, rfl, rfl⟩) fun u s1 ⟨v, H1, I1, r1, q1⟩ => ?_)
  obtain ⟨rfl, rfl⟩ := q1
  cases r1
  refine PySem.W.callWith_K (h₀ := X.base) I.ok.mod.kin hk (thn (ha.run pos pins s1 σ _ _ I1 ht) fun us s2 ⟨vs, H2, I2, r, q⟩ => ⟨I2.kIn, ?_⟩) he hpl
  exact run_fnS F hr hb (hx σ) I2 r q
end Pk
namespace Pk
open PySem PySem.Spec PyProof.Rows L2 Evl He
open SX (S)
/-- z[::-1] of a text -/
def tRevS (te : TE) : TE := fun σ H Q => te σ H fun x H1 => ∃ z : List Nat, x = .str (S z) ∧ z.length ≤ sizeLine ∧ Q (.str (S z.reverse)) H1
theorem revS_idx (z : List Nat) : (Builtin.Str.strSliceIndices none none (-1) z.length).filterMap ((S z).cps[·]?) = z.reverse := by
  have e1 : Builtin.Str.strSliceIndices none none (-1) z.length = (List.range z.length).reverse := by
    have e0 : Builtin.Str.strSliceIndices none none (-1) z.length = sliceRange ((z.length : Int) - 1) (-1) (-1) := rfl
    rw [e0, PySem.W.krv_sliceRange, PySem.W.krv_range]
  have e2 := PySem.W.krv_all (S z).cps
  rw [e1, List.filterMap_reverse]
  have e3 : (S z).cps.size = z.length := by simp [S]
  rw [e3] at e2
  rw [e2]
theorem pe_revS {X : Cx} {pos : Pos} {e : Expr} {te : TE} {k : Nat} {p1 p2 p3 : Pos} (he : PE X e te) : PE X (.Subscript e (.Slice none none (some (.UnaryOp .USub (.Constant (.int 1) k p1) p2)) p3) pos) (tRevS te) := by
  refine ⟨fun pins s σ H Q I h => ?_⟩
  refine Subscript_ (thn (he.run pins s σ H _ I h) fun v s1 ⟨x, H1, I1, r1, q1⟩ => ?_)
  obtain ⟨z, ex, hz, q⟩ := q1
  subst ex
  obtain ⟨t, rfl⟩ := r1
  have hst : PO X (some (.UnaryOp .USub (.Constant (.int 1) k p1) p2)) (tPart (tUn (rU fun i => .int (-i)) (tC (.int 1)))) := po_some (pe_un un_neg pe_int)
  refine wpAny_Slice (thn (po_none.run pins s1 σ H1 (fun o H2 => o = none ∧ H2 = H1) I1 ⟨rfl, rfl⟩) fun vl s2 ⟨l, H2, I2, pl, el, e2⟩ => ?_)
  subst el e2
  refine thn (po_none.run pins s2 σ H2 (fun o H3 => o = none ∧ H3 = H2) I2 ⟨rfl, rfl⟩) fun vu s3 ⟨u, H3, I3, pu, eu, e3⟩ => ?_
  subst eu e3
  refine thn (hst.run pins s3 σ H3 (fun o H4 => o = some (-1) ∧ H4 = H3) I3 ⟨1, rfl, -1, rfl, rfl, rfl⟩) fun vs s4 ⟨o, H4, I4, ps, eo, e4⟩ => ?_
  subst eo e4
  have I5 : Inv X pins σ H4 { s4 with heap := s4.heap.push { cls := .type "slice", data := .fields #[vl, vu, vs] } } := I4.kept (t' := s4.toks) fun b ob q => Heap.get?_push_of_some _ q
  obtain ⟨l, hl1, hl2⟩ := IsPart.raw pl
  obtain ⟨u, hu1, hu2⟩ := IsPart.raw pu
  obtain ⟨st, hs1, hs2⟩ := IsPart.raw ps
  have hlN : l = none := by cases l with
    | none => rfl
    | some y => cases hl2
  have huN : u = none := by cases u with
    | none => rfl
    | some y => cases hu2
  subst hlN huN
  show wpAny (model X.prog X.w) X.A (subscriptTail e (.Slice none none (some (.UnaryOp .USub (.Constant (.int 1) k p1) p2)) p3) (.str (S z) t) (.ref s4.heap.objs.size)) (EP X pins σ Q) X.xe { s4 with heap := s4.heap.push { cls := .type "slice", data := .fields #[vl, vu, vs] } }
  refine tail_any (ops := [.ref s4.heap.objs.size, .str (S z) t]) (typeIs_str _ _ _) F.slot_str_getitem.lookup ?_ (by with_unfolding_all rfl)
  have hst2 : (st.map (·.1)).getD 1 = -1 := by rw [hs2]; rfl
  refine wpAny_getItem_str_slice (l := none) (u := none) (st := st) ⟨_, Heap.get?_push_size _ rfl, rfl, by rw [hl1, hu1, hs1]⟩ (by rw [hst2]; rfl) ?_
  show Made.post (if ((st.map (·.1)).getD 1 == 1 && (slicePicked (S z) none none st).length == (S z).length) = true then Made.val (.str (S z) t) else Made.str ⟨((slicePicked (S z) none none st).filterMap ((S z).cps[·]?)).toArray⟩) _ _
  have hp : slicePicked (S z) none none st = Builtin.Str.strSliceIndices none none (-1) z.length := by
    unfold slicePicked
    rw [hst2, SX.S_len]
    rfl
  rw [hst2, if_neg (by simp), hp, revS_idx]
  exact ⟨by show (S z.reverse).length ≤ sizeLine; rw [SX.S_len, List.length_reverse]; exact hz, .str (S z.reverse), H4, I5.tok _, ⟨_, rfl⟩, q⟩
end Pk
namespace Pk
open PySem PySem.Spec PyProof.Rows L2 Evl He
open SX (S)
section
variable {K : PySem.W.Frag} {σ : L2.St} {H H' : Hp} {ta tb te tx : TE} {t u : TT} {x y z v : V} {r : R2} {D : Ends} {tu tw tz : TS} {g : TG}
/-! ### what is told by a relation -/
def EvP (te : TE) (σ : L2.St) (H : Hp) (Φ : V → Hp → Prop) : Prop := ∀ H1, Ex H H1 → ∀ Q : VK, (∀ v H2, Ex H1 H2 → Φ v H2 → Q v H2) → te σ H1 Q
theorem ev_opP {Φ : V → Hp → Prop} (ha : EvP ta σ H Φ) (hk : ∀ x H1, Ex H H1 → Φ x H1 → ∀ Q : VK, (∀ H2, Ex H1 H2 → Q z H2) → tb σ H1 fun y H2 => r x y H2 Q) : Ev (tOp r ta tb) σ H z := fun H1 e Q q =>
  ha H1 e _ fun x H2 e2 hx => hk x H2 (e.trans e2) hx Q fun H3 e3 => q H3 (e2.trans e3)
/-- the first operand a new tuple -/
theorem ev_opU1 {xs : List V} (ha : EvU ta σ H xs) (hb : ∀ H1, Ex H H1 → Ev tb σ H1 y) (hr : ∀ p H1, H1 p = some (.tup xs) → Ex H H1 → RV r (.ref p) y H1 z) : Ev (tOp r ta tb) σ H z := fun H1 e Q q =>
  ha H1 e _ fun p H2 _ e2 hp => hb H2 (e.trans e2) H2 (Ex.refl H2) _ fun H3 e3 => hr p H3 (e3 p _ hp) ((e.trans e2).trans e3) H3 (Ex.refl H3) Q fun H4 e4 => q H4 ((e2.trans e3).trans e4)
/-- (a, b, ..)[i] -/
theorem ev_ixU {xs : List V} {i : Nat} (ha : EvU ta σ H xs) (hb : ∀ H1, Ex H H1 → Ev tb σ H1 (nat i)) (hi : xs[i]? = some v) : Ev (tOp (rIxT K) ta tb) σ H v := ev_opU1 ha hb fun p H1 hp _ => rv_ixT (st_of hp) (at_nat hi)
/-- [a, b, ..][i] -/
theorem ev_ixL {xs : List V} {i : Nat} (ha : EvL ta σ H xs) (hb : ∀ H1, Ex H H1 → Ev tb σ H1 (nat i)) (hi : xs[i]? = some v) : Ev (tOp (rIxL K) ta tb) σ H v := ev_opL1 ha hb fun p H1 hp _ => rv_ixL (sq_of hp) (at_nat hi)
/-- xs + ys -/
theorem el_cat {p : Addr} {xs ys : List V} (ha : Ev ta σ H (.ref p)) (hp : H p = some (.lst xs)) (hb : EvL tb σ H ys) (hz : xs.length + ys.length ≤ 100000) : EvL (tOp rCat ta tb) σ H (xs ++ ys) := fun H1 e Q q =>
  ha H1 e _ fun H2 e2 => hb H2 (e.trans e2) _ fun b H3 _ e3 h3 => ⟨p, b, xs, ys, rfl, rfl, e3 p _ (e2 p _ (e p _ hp)), h3, sz_of hz, fun d hd => q d _ (fresh_back (e2.trans e3) hd) ((e2.trans e3).trans (Ex.new hd)) upd_same⟩
theorem rc_any {a : Addr} {bs : List Bool} (h : SqL K H a (bs.map V.bl)) : RC (rAny K) [.ref a] H (.bl (bs.any id)) := fun H1 e Q q => ⟨a, bs, rfl, ex_l e h, q H1 (Ex.refl H1)⟩
/-- a, b, c = t -/
theorem q_un3 {i j k : Nat} {Φ : V → Hp → Prop} (h : EvP te σ H Φ) (hk : ∀ x H1, Ex H H1 → Φ x H1 → ∃ a v1 v2 v3, x = .ref a ∧ SqT K H1 a [v1, v2, v3] ∧ tz D (((σ.set i (some v1)).set j (some v2)).set k (some v3)) H1) :
    tSeq (tAsg te (gTup K 3 (gCons (gName i) (gCons (gName j) (gCons (gName k) gNil))))) tz D σ H := h H (Ex.refl H) _ fun x H1 e hx => by
  obtain ⟨a, v1, v2, v3, rfl, hS, q⟩ := hk x H1 e hx
  exact ⟨a, _, rfl, hS, rfl, v1, [v2, v3], rfl, v2, [v3], rfl, v3, [], rfl, rfl, q⟩
theorem q_try {tb2 : WX → TS} {c : Value} {i : Nat} {ts : Addr → Value → Option Addr → TS} {Wout : WX} (h : tb2 (wAs K c i ts Wout { D with nx := tz D }) { D with nx := tz D } σ H) : tSeq (fun D σ H => tb2 (wAs K c i ts Wout D) D σ H) tz D σ H := h
end
/-! ### errors: what the classes tell -/
def errNames : List Str := ["BadWishes", "TooMany", "BadTree", "BadPath", "BadStanding", "BadText"]
structure ErrX (K : PySem.W.Frag) (x : Str) : Prop where
  exm : PySem.W.exmOne K (.ref (ga K x)) (.ref (ga K "StreetError")) = some true
  cc : ExcC K (ga K x)
  kit : ∀ y ∈ errNames, PySem.W.kitOne K (.ref (ga K x)) (.ref (ga K y)) = some (decide (x = y))
  ve : PySem.W.kitOne K (.ref (ga K x)) (.type "ValueError") = some true
def errB (K : PySem.W.Frag) (x : Str) : Bool :=
  decide (PySem.W.exmOne K (.ref (ga K x)) (.ref (ga K "StreetError")) = some true) && (eqO (PySem.W.findIn K (.ref (ga K x)) "__getattribute__") (some (some (.builtin "BaseException.__getattribute__"))) && (eqO (PySem.W.findIn K (.ref (ga K x)) "__getattr__") (some none) &&
  (decide (PySem.W.subIn K (.ref (ga K x)) (.type "BaseException") = some true) && (PySem.W.hasDictIn K (ga K x) && (eqO (PySem.W.findIn K (.ref (ga K x)) "__class__") (some (some (.builtin "object.__class__"))) && (eqO (PySem.W.specialIn K (.builtin "object.__class__") "__get__") (some (some (.builtin "getset_descriptor.__get__"))) &&
  (decide (PySem.W.takesIn K (.builtin "object.__class__") = some true) && (decide (PySem.W.mroIn K (ga K x) (.type "object") = some true) && ((errNames.all fun y => decide (PySem.W.kitOne K (.ref (ga K x)) (.ref (ga K y)) = some (decide (x = y)))) && decide (PySem.W.kitOne K (.ref (ga K x)) (.type "ValueError") = some true))))))))))
theorem errX_of {K : PySem.W.Frag} {x : Str} (h : errB K x = true) : ErrX K x := by
  obtain ⟨a1, h⟩ := ba h
  obtain ⟨a2, h⟩ := ba h
  obtain ⟨a3, h⟩ := ba h
  obtain ⟨a4, h⟩ := ba h
  obtain ⟨a5, h⟩ := ba h
  obtain ⟨a6, h⟩ := ba h
  obtain ⟨a7, h⟩ := ba h
  obtain ⟨a8, h⟩ := ba h
  obtain ⟨a9, h⟩ := ba h
  obtain ⟨b1, b2⟩ := ba h
  exact ⟨of_decide_eq_true a1, ⟨eqO_ok a2, eqO_ok a3, of_decide_eq_true a4, a5, eqO_ok a6, eqO_ok a7, of_decide_eq_true a8, of_decide_eq_true a9⟩, fun y hy => of_decide_eq_true (List.all_eq_true.mp b1 y hy), of_decide_eq_true b2⟩
section
variable {K : PySem.W.Frag} {H : Hp} {a : Addr} {x y : Str}
theorem rc_isE (E : ErrX K x) (hy : y ∈ errNames) {b : Bool} (hb : decide (x = y) = b) : RC (rIsE2 K (.ref (ga K x)) none a) [.ref a, .ref (ga K y)] H (.bl b) := fun H1 e Q q =>
  ⟨ga K x, rfl, rfl, E.cc, .ref (ga K y), .ref (ga K y), b, rfl, fun u r => r, by rw [E.kit y hy, hb], q H1 (Ex.refl H1)⟩
theorem rc_isVE (E : ErrX K x) : RC (rIsE2 K (.ref (ga K x)) none a) [.ref a, .ty "ValueError"] H (.bl true) := fun H1 e Q q =>
  ⟨ga K x, rfl, rfl, E.cc, .ty "ValueError", .type "ValueError", true, rfl, fun u r => r, E.ve, q H1 (Ex.refl H1)⟩
end
end Pk
namespace Pk
open PySem PySem.Spec PyProof.Rows L2 Evl He
open SX (S)
section
variable {K : PySem.W.Frag} {σ : L2.St} {H H' : Hp} {ta tb te tx : TE} {t u : TT} {x y z v : V} {r : R2} {D : Ends} {tu tw tz : TS} {g : TG}
/-- for y in a new list: I: by the list's address and the prefix gone -/
theorem q_forNP {α : Type} {ys : List α} (c : α → V) {tl : TE} {j : Nat} (h : EvL tl σ H (ys.map c)) (I : Addr → List α → L2.St → Hp → Prop) (h0 : ∀ p H1, H p = none → Ex H H1 → H1 p = some (.lst (ys.map c)) → I p [] σ H1)
    (hl : ∀ p pre σ' H', I p pre σ' H' → SqL K H' p (ys.map c))
    (hs : ∀ p pre y post σ' H', ys = pre ++ y :: post → I p pre σ' H' → tu { D with nx := I p (pre ++ [y]), ct := I p (pre ++ [y]), bk := tz D } (σ'.set j (some (c y))) H')
    (hd : ∀ p σ' H', I p ys σ' H' → tz D σ' H') : tSeq (tFor (iList K tl) (gName j) tu) tz D σ H :=
  q_forNLn h (fun p i => I p (ys.take i)) (fun p H1 hp e h1 => h0 p H1 hp e h1) (fun p i σ' H' _ q => hl p _ σ' H' q) (fun p i x σ' H' hi q => by
    obtain ⟨y, hy, rfl⟩ := vmap_get hi
    obtain ⟨e1, e2⟩ := take_pre hy
    have := hs p (ys.take i) y (ys.drop (i + 1)) σ' H' e1 q
    rw [e2]
    exact this) (fun p σ' H' q => hd p σ' H' (by rw [List.length_map, List.take_length] at q; exact q))
end
end Pk
namespace Pk
open PySem PySem.Spec PyProof.Rows L2 Evl He
open SX (S)
section
variable {K : PySem.W.Frag} {σ : L2.St} {H H' : Hp} {ta tb te tx tl : TE} {t u : TT} {x y z v : V} {r : R2} {D : Ends} {tu tw tz : TS} {g : TG} {α : Type} {ys : List α}
/-! ### enumerate -/
abbrev gPair (K : PySem.W.Frag) (j1 j2 : Nat) : TG := gTup K 2 (gCons (gName j1) (gCons (gName j2) gNil))
theorem s_forE0 {a : Addr} {j1 j2 : Nat} (c : α → V) (hx : SqL K H a (ys.map c)) (I : Nat → L2.St → Hp → Prop) (h0 : I 0 σ H)
    (hl : ∀ i σ' H', I i σ' H' → SqL K H' a (ys.map c))
    (hs : ∀ i y σ' H', ys[i]? = some y → I i σ' H' → ∀ H1, Ex H' H1 → tu { D with nx := I (i + 1), ct := I (i + 1), bk := D.nx } ((σ'.set j1 (some (nat i))).set j2 (some (c y))) H1)
    (hd : ∀ σ' H', I ys.length σ' H' → D.nx σ' H') :
    ∃ W : Nat → Nat → L2.St → Hp → Prop, (∃ m, W 0 m σ H) ∧ ∀ i m σ H, W i m σ H →
      ((Ite K a).stop i H ∧ D.nx σ H) ∨ ((Ite K a).go i H ∧ ∃ N : L2.St → Hp → Prop, (∀ σ' H', N σ' H' → ∃ m', m' < m ∧ W (i + 1) m' σ' H') ∧ ∀ x H', (Ite K a).yld i H x H' → gPair K j1 j2 x σ H' fun σ2 H2 => tu { D with nx := N, ct := N, bk := D.nx } σ2 H2) := by
  refine ⟨fun i m σ H => m = ys.length - i ∧ i ≤ ys.length ∧ I i σ H, ⟨ys.length, by simp, Nat.zero_le _, h0⟩, ?_⟩
  rintro i m σ H ⟨rfl, hi, p⟩
  have q := hl i σ H p
  by_cases hlt : i < ys.length
  · have hy : ys[i]? = some ys[i] := List.getElem?_eq_getElem hlt
    have hcy : (ys.map c)[i]? = some (c ys[i]) := by rw [List.getElem?_map, hy]; rfl
    refine .inr ⟨⟨ys.map c, c ys[i], q, hcy⟩, I (i + 1), fun σ' H' p' => ⟨ys.length - (i + 1), by omega, rfl, hlt, p'⟩, fun x H' hyl => ?_⟩
    obtain ⟨T, x1, rfl, hT, rfl, hx1⟩ := hyl
    have e1 : x1 = c ys[i] := Option.some.inj ((hx1 _ q).symm.trans hcy)
    subst e1
    exact ⟨T, _, rfl, st_of upd_same, rfl, _, _, rfl, _, _, rfl, rfl, hs i ys[i] σ H hy p _ (Ex.new hT)⟩
  · have e : i = ys.length := by omega
    subst e
    exact .inl ⟨⟨ys.map c, q, by rw [List.length_map]; exact Nat.le_refl _⟩, hd σ H p⟩
theorem s_forE {a : Addr} {j1 j2 : Nat} (c : α → V) (h : Ev tl σ H (.ref a)) (hx : SqL K H a (ys.map c)) (I : Nat → L2.St → Hp → Prop) (h0 : ∀ H1, Ex H H1 → I 0 σ H1)
    (hl : ∀ i σ' H', I i σ' H' → SqL K H' a (ys.map c))
    (hs : ∀ i y σ' H', ys[i]? = some y → I i σ' H' → ∀ H1, Ex H' H1 → tu { D with nx := I (i + 1), ct := I (i + 1), bk := D.nx } ((σ'.set j1 (some (nat i))).set j2 (some (c y))) H1)
    (hd : ∀ σ' H', I ys.length σ' H' → D.nx σ' H') : tFor (iEnum K (tCons tl tNil)) (gPair K j1 j2) tu D σ H :=
  h H (Ex.refl H) _ fun H1 e => ⟨a, ys.map c, rfl, ex_l e hx, s_forE0 c (ex_l e hx) I (h0 H1 e) hl hs hd⟩
theorem q_forE {a : Addr} {j1 j2 : Nat} (c : α → V) (h : Ev tl σ H (.ref a)) (hx : SqL K H a (ys.map c)) (I : Nat → L2.St → Hp → Prop) (h0 : ∀ H1, Ex H H1 → I 0 σ H1)
    (hl : ∀ i σ' H', I i σ' H' → SqL K H' a (ys.map c))
    (hs : ∀ i y σ' H', ys[i]? = some y → I i σ' H' → ∀ H1, Ex H' H1 → tu { D with nx := I (i + 1), ct := I (i + 1), bk := tz D } ((σ'.set j1 (some (nat i))).set j2 (some (c y))) H1)
    (hd : ∀ σ' H', I ys.length σ' H' → tz D σ' H') : tSeq (tFor (iEnum K (tCons tl tNil)) (gPair K j1 j2) tu) tz D σ H := s_forE (D := { D with nx := tz D }) c h hx I h0 hl hs hd
/-- over a new list -/
theorem q_forEN {j1 j2 : Nat} (c : α → V) (h : EvL tl σ H (ys.map c)) (I : Addr → Nat → L2.St → Hp → Prop) (h0 : ∀ p H1, H p = none → Ex H H1 → H1 p = some (.lst (ys.map c)) → I p 0 σ H1)
    (hl : ∀ p i σ' H', I p i σ' H' → SqL K H' p (ys.map c))
    (hs : ∀ p i y σ' H', ys[i]? = some y → I p i σ' H' → ∀ H1, Ex H' H1 → tu { D with nx := I p (i + 1), ct := I p (i + 1), bk := tz D } ((σ'.set j1 (some (nat i))).set j2 (some (c y))) H1)
    (hd : ∀ p σ' H', I p ys.length σ' H' → tz D σ' H') : tSeq (tFor (iEnum K (tCons tl tNil)) (gPair K j1 j2) tu) tz D σ H :=
  h H (Ex.refl H) _ fun p H1 hp e h1 => ⟨p, ys.map c, rfl, sq_of h1, s_forE0 (D := { D with nx := tz D }) c (sq_of h1) (I p) (h0 p H1 hp e h1) (hl p) (hs p) (hd p)⟩
/-- comprehensions over enumerate: by the place and the item -/
def enumF (ys : List α) (f : Nat → α → Bool) (g : Nat → α → V) : List V := (ys.zipIdx.filter fun q => f q.2 q.1).map fun q => g q.2 q.1
theorem given_enum (f : Nat → α → Bool) (g : Nat → α → V) (d : α) : given ys.length (fun i => f i (ys.getD i d)) (fun i => g i (ys.getD i d)) = enumF ys f g := by
  have key : ∀ n, n ≤ ys.length → given n (fun i => f i (ys.getD i d)) (fun i => g i (ys.getD i d)) = ((ys.zipIdx.take n).filter fun q => f q.2 q.1).map fun q => g q.2 q.1 := by
    intro n
    induction n with
    | zero => intro _; rfl
    | succ n ih =>
      intro hn
      have hlt : n < ys.length := hn
      have e : ys.zipIdx[n]? = some (ys.getD n d, n) := by
        rw [List.getElem?_zipIdx, List.getElem?_eq_getElem hlt, List.getD_eq_getElem?_getD, List.getElem?_eq_getElem hlt]
        simp
      rw [List.take_add_one, e]
      cases hf : f n (ys.getD n d) with
      | true =>
        rw [given_yes (f := fun i => f i (ys.getD i d)) hf, ih (by omega)]
        generalize ys.getD n d = z at hf
        simp [hf]
      | false =>
        rw [given_no (f := fun i => f i (ys.getD i d)) hf, ih (by omega)]
        generalize ys.getD n d = z at hf
        simp [hf]
  have h := key ys.length (Nat.le_refl _)
  rw [List.take_of_length_le (by rw [List.length_zipIdx]; exact Nat.le_refl _)] at h
  exact h
theorem lc_enum0 {a : Addr} {j1 j2 : Nat} {vs : List Nat} {H1 : Hp} {Dl : Addr} {Qd : Hp → Prop} (c : α → V) (f : Nat → α → Bool) (g : Nat → α → V) (hx : SqL K H1 a (ys.map c)) (hz : ys.length ≤ 40000) (hD : H1 Dl = none)
    (hw : ∀ x y, wipe (((wipe σ vs).set j1 (some x)).set j2 (some y)) vs = wipe σ vs)
    (ht : ∀ (i : Nat) (y : α) H2, Ex H1 H2 → ys[i]? = some y → EvT t (((wipe σ vs).set j1 (some (nat i))).set j2 (some (c y))) H2 (f i y)) (he : ∀ (i : Nat) (y : α) H2, Ex H1 H2 → ys[i]? = some y → f i y = true → Ev te (((wipe σ vs).set j1 (some (nat i))).set j2 (some (c y))) H2 (g i y))
    (hd : ∀ H', Ex H1 H' → H' Dl = some (.lst (enumF ys f g)) → Qd H') :
    ∃ W : Nat → Nat → Hp → Prop, (∃ m, W 0 m (upd H1 Dl (.lst []))) ∧ ∀ i m H, W i m H →
      ((Ite K a).stop i H ∧ Qd H) ∨ ((Ite K a).go i H ∧ ∃ Nx : Hp → Prop, (∀ H', Nx H' → ∃ m', m' < m ∧ W (i + 1) m' H') ∧ ∀ x H', (Ite K a).yld i H x H' → gPair K j1 j2 x (wipe σ vs) H' fun σ2 H2 => wipe σ2 vs = wipe σ vs ∧ t σ2 H2 fun b H3 =>
        if b = true then te σ2 H3 fun y H4 => ∃ acc, H4 Dl = some (.lst acc) ∧ acc.length < sizeLine ∧ Nx (upd H4 Dl (.lst (acc ++ [y]))) else Nx H3) := by
  have hdd : ∀ d : α, ∃ f' g', (f' = fun i => f i (ys.getD i d)) ∧ (g' = fun i => g i (ys.getD i d)) := fun d => ⟨_, _, rfl, rfl⟩
  have main : ∀ (f' : Nat → Bool) (g' : Nat → V), (∀ i y, ys[i]? = some y → f' i = f i y ∧ g' i = g i y) → given ys.length f' g' = enumF ys f g → ∃ W : Nat → Nat → Hp → Prop, (∃ m, W 0 m (upd H1 Dl (.lst []))) ∧ ∀ i m H, W i m H →
      ((Ite K a).stop i H ∧ Qd H) ∨ ((Ite K a).go i H ∧ ∃ Nx : Hp → Prop, (∀ H', Nx H' → ∃ m', m' < m ∧ W (i + 1) m' H') ∧ ∀ x H', (Ite K a).yld i H x H' → gPair K j1 j2 x (wipe σ vs) H' fun σ2 H2 => wipe σ2 vs = wipe σ vs ∧ t σ2 H2 fun b H3 =>
        if b = true then te σ2 H3 fun y H4 => ∃ acc, H4 Dl = some (.lst acc) ∧ acc.length < sizeLine ∧ Nx (upd H4 Dl (.lst (acc ++ [y]))) else Nx H3) := by
    intro f' g' hfg hgiv
    refine ⟨fun i m H => m = ys.length - i ∧ i ≤ ys.length ∧ Cw H1 f' g' Dl i H, ⟨ys.length, by simp, Nat.zero_le _, hD, Ex.new hD, upd_same⟩, ?_⟩
    rintro i m H ⟨rfl, hi, p⟩
    have q := ex_l p.2.1 hx
    by_cases hlt : i < ys.length
    · have hy : ys[i]? = some ys[i] := List.getElem?_eq_getElem hlt
      have hcy : (ys.map c)[i]? = some (c ys[i]) := by rw [List.getElem?_map, hy]; rfl
      obtain ⟨ef, eg⟩ := hfg i _ hy
      refine .inr ⟨⟨ys.map c, c ys[i], q, hcy⟩, Cw H1 f' g' Dl (i + 1), fun H' p' => ⟨ys.length - (i + 1), by omega, rfl, hlt, p'⟩, fun x H' hyl => ?_⟩
      obtain ⟨T, x1, rfl, hT, rfl, hx1⟩ := hyl
      have e1 : x1 = c ys[i] := Option.some.inj ((hx1 _ q).symm.trans hcy)
      subst e1
      have p2 : Cw H1 f' g' Dl i (upd H T (.tup [.int (i : Nat), c ys[i]])) := ⟨p.1, p.2.1.trans (Ex.new hT), by rw [upd_ne (ne_of_none p.2.2 hT)]; exact p.2.2⟩
      refine ⟨T, _, rfl, st_of upd_same, rfl, _, _, rfl, _, _, rfl, rfl, hw _ _, ?_⟩
      exact cw_turn p2 (by omega) (by rw [ef]; exact ht i _ H1 (Ex.refl H1) hy) (fun hf => by rw [eg]; exact he i _ H1 (Ex.refl H1) hy (by rw [← ef]; exact hf))
    · have e : i = ys.length := by omega
      subst e
      exact .inl ⟨⟨ys.map c, q, by rw [List.length_map]; exact Nat.le_refl _⟩, hd H p.2.1 (by rw [← hgiv]; exact p.2.2)⟩
  cases ys with
  | nil => exact main (fun _ => true) (fun _ => .non) (fun i y h => by simp at h) rfl
  | cons d r =>
    refine main (fun i => f i ((d :: r).getD i d)) (fun i => g i ((d :: r).getD i d)) (fun i y h => ?_) (given_enum f g d)
    have : (d :: r).getD i d = y := by rw [List.getD_eq_getElem?_getD, h]; rfl
    exact ⟨by rw [this], by rw [this]⟩
theorem el_enF {a : Addr} {j1 j2 : Nat} {vs : List Nat} (c : α → V) (f : Nat → α → Bool) (g : Nat → α → V) (h : Ev tl σ H (.ref a)) (hx : SqL K H a (ys.map c)) (hz : ys.length ≤ 40000)
    (hw : ∀ x y, wipe (((wipe σ vs).set j1 (some x)).set j2 (some y)) vs = wipe σ vs)
    (ht : ∀ (i : Nat) (y : α) H2, Ex H H2 → ys[i]? = some y → EvT t (((wipe σ vs).set j1 (some (nat i))).set j2 (some (c y))) H2 (f i y)) (he : ∀ (i : Nat) (y : α) H2, Ex H H2 → ys[i]? = some y → f i y = true → Ev te (((wipe σ vs).set j1 (some (nat i))).set j2 (some (c y))) H2 (g i y)) :
    EvL (tLc (iEnum K (tCons tl tNil)) (gPair K j1 j2) t te vs) σ H (enumF ys f g) := fun H0 e Q q => h H0 e _ fun H1 e1 => ⟨a, _, rfl, ex_l (e.trans e1) hx, fun Dl hD =>
  lc_enum0 c f g (ex_l (e.trans e1) hx) hz hD hw (fun i y H2 e2 hy => ht i y H2 ((e.trans e1).trans e2) hy) (fun i y H2 e2 hy hf => he i y H2 ((e.trans e1).trans e2) hy hf) fun H' e' h' => q Dl H' (fresh_back e1 hD) (e1.trans e') h'⟩
theorem el_enNF {j1 j2 : Nat} {vs : List Nat} (c : α → V) (f : Nat → α → Bool) (g : Nat → α → V) (h : EvL tl σ H (ys.map c)) (hz : ys.length ≤ 40000)
    (hw : ∀ x y, wipe (((wipe σ vs).set j1 (some x)).set j2 (some y)) vs = wipe σ vs)
    (ht : ∀ (i : Nat) (y : α) H2, Ex H H2 → ys[i]? = some y → EvT t (((wipe σ vs).set j1 (some (nat i))).set j2 (some (c y))) H2 (f i y)) (he : ∀ (i : Nat) (y : α) H2, Ex H H2 → ys[i]? = some y → f i y = true → Ev te (((wipe σ vs).set j1 (some (nat i))).set j2 (some (c y))) H2 (g i y)) :
    EvL (tLc (iEnum K (tCons tl tNil)) (gPair K j1 j2) t te vs) σ H (enumF ys f g) := fun H0 e Q q => h H0 e _ fun a H1 ha e1 hx => ⟨a, _, rfl, sq_of hx, fun Dl hD =>
  lc_enum0 c f g (sq_of hx) hz hD hw (fun i y H2 e2 hy => ht i y H2 ((e.trans e1).trans e2) hy) (fun i y H2 e2 hy hf => he i y H2 ((e.trans e1).trans e2) hy hf) fun H' e' h' => q Dl H' (fresh_back e1 hD) (e1.trans e') h'⟩
theorem enumF_all (g : Nat → α → V) : enumF ys (fun _ _ => true) g = ys.zipIdx.map fun q => g q.2 q.1 := by
  unfold enumF
  rw [List.filter_eq_self.mpr (fun _ _ => rfl)]
end
end Pk
namespace Pk
open PySem PySem.Spec PyProof.Rows L2 Evl He
open SX (S)
section
variable {P : Program} {w : World} {K : PySem.W.Frag} {σ : L2.St} {H : Hp} {te ta tb : TE} {v : V} {D : Ends} {tz : TS}
/-! ### arguments some of which are new lists -/
def EvAP (ta : TA) (σ : L2.St) (H : Hp) (Φ : List V → Hp → Prop) : Prop := ∀ H1, Ex H H1 → ∀ Q : List V → Hp → Prop, (∀ vs H2, Ex H1 H2 → Φ vs H2 → Q vs H2) → ta σ H1 Q
theorem eap_nil : EvAP tNil σ H (fun vs _ => vs = []) := fun H1 _ _ q => q _ H1 (Ex.refl H1) rfl
theorem eap_cons {tr : TA} {Φ : List V → Hp → Prop} (h : Ev te σ H v) (hr : EvAP tr σ H Φ) : EvAP (tCons te tr) σ H (fun vs H2 => ∃ ws, vs = v :: ws ∧ Φ ws H2) := fun H1 e _ q =>
  h H1 e _ fun H2 e2 => hr H2 (e.trans e2) _ fun ws H3 e3 hw => q _ H3 (e2.trans e3) ⟨ws, rfl, hw⟩
theorem eap_consL {tr : TA} {xs : List V} {Φ : List V → Hp → Prop} (h : EvL te σ H xs) (hr : EvAP tr σ H Φ) : EvAP (tCons te tr) σ H (fun vs H2 => ∃ p ws, vs = .ref p :: ws ∧ H p = none ∧ H2 p = some (.lst xs) ∧ Φ ws H2) := fun H1 e _ q =>
  h H1 e _ fun p H2 hp e2 h2 => hr H2 (e.trans e2) _ fun ws H3 e3 hw => q _ H3 (e2.trans e3) ⟨p, ws, rfl, fresh_back e hp, e3 p _ h2, hw⟩
theorem ev_callP {sp : Sp} {dvs : List V} {E : XK} {ta : TA} {Φ : List V → Hp → Prop} (h : EvAP ta σ H Φ) (hs : ∀ vs H1, Ex H H1 → Φ vs H1 → SpV sp (vs ++ dvs) H1 v) : Ev (tCall sp dvs E ta) σ H v := fun H1 e Q q =>
  h H1 e _ fun vs H2 e2 hv => hs vs H2 (e.trans e2) hv H2 (Ex.refl H2) _ (fun H3 e3 => q H3 (e2.trans e3)) E
theorem el_callP {sp : Sp} {dvs xs : List V} {E : XK} {ta : TA} {Φ : List V → Hp → Prop} (h : EvAP ta σ H Φ) (hs : ∀ vs H1, Ex H H1 → Φ vs H1 → SpL sp (vs ++ dvs) H1 xs) : EvL (tCall sp dvs E ta) σ H xs := fun H1 e Q q =>
  h H1 e _ fun vs H2 e2 hv => hs vs H2 (e.trans e2) hv H2 (Ex.refl H2) _ (fun p H3 hp e3 h3 => q p H3 (fresh_back e2 hp) (e2.trans e3) h3) E
/-- one new list handed in -/
theorem ev_callL1 {sp : Sp} {E : XK} {xs : List V} (h : EvL te σ H xs) (hs : ∀ p H1, Ex H H1 → H1 p = some (.lst xs) → SpV sp [.ref p] H1 v) : Ev (tCall sp [] E (tCons te tNil)) σ H v :=
  ev_callP (eap_consL h eap_nil) fun vs H1 e hv => by
    obtain ⟨p, ws, rfl, _, hp, rfl⟩ := hv
    exact hs p H1 e hp
theorem el_callL1 {sp : Sp} {E : XK} {xs ys : List V} (h : EvL te σ H xs) (hs : ∀ p H1, Ex H H1 → H1 p = some (.lst xs) → SpL sp [.ref p] H1 ys) : EvL (tCall sp [] E (tCons te tNil)) σ H ys :=
  el_callP (eap_consL h eap_nil) fun vs H1 e hv => by
    obtain ⟨p, ws, rfl, _, hp, rfl⟩ := hv
    exact hs p H1 e hp
theorem el_callL2 {sp : Sp} {E : XK} {xs xs2 ys : List V} (h : EvL te σ H xs) (h2 : EvL ta σ H xs2) (hs : ∀ p q H1, Ex H H1 → H1 p = some (.lst xs) → H1 q = some (.lst xs2) → SpL sp [.ref p, .ref q] H1 ys) : EvL (tCall sp [] E (tCons te (tCons ta tNil))) σ H ys :=
  el_callP (eap_consL h (eap_consL h2 eap_nil)) fun vs H1 e hv => by
    obtain ⟨p, ws, rfl, _, hp, q, ws2, rfl, _, hq, rfl⟩ := hv
    exact hs p q H1 e hp hq
theorem el_callVL {sp : Sp} {E : XK} {xs ys : List V} (h : Ev te σ H v) (h2 : EvL ta σ H xs) (hs : ∀ p H1, Ex H H1 → H1 p = some (.lst xs) → SpL sp [v, .ref p] H1 ys) : EvL (tCall sp [] E (tCons te (tCons ta tNil))) σ H ys :=
  el_callP (eap_cons h (eap_consL h2 eap_nil)) fun vs H1 e hv => by
    obtain ⟨ws, rfl, p, ws2, rfl, _, hp, rfl⟩ := hv
    exact hs p H1 e hp
theorem ev_callVL {sp : Sp} {E : XK} {xs : List V} {z : V} (h : Ev te σ H v) (h2 : EvL ta σ H xs) (hs : ∀ p H1, Ex H H1 → H1 p = some (.lst xs) → SpV sp [v, .ref p] H1 z) : Ev (tCall sp [] E (tCons te (tCons ta tNil))) σ H z :=
  ev_callP (eap_cons h (eap_consL h2 eap_nil)) fun vs H1 e hv => by
    obtain ⟨ws, rfl, p, ws2, rfl, _, hp, rfl⟩ := hv
    exact hs p H1 e hp
/-- a new list by a comparison with one at hand -/
theorem ev_neNL {b : Addr} {ns ms : List Nat} (ha : EvL ta σ H (vn ns)) (hb : Ev tb σ H (.ref b)) (h : SqL K H b (vn ms)) : Ev (tOp (rNeD K) ta tb) σ H (.bl (!decide (ns = ms))) :=
  ev_opL1 ha (fun H1 e => hb.mono e) fun p H1 hp e => rv_neN (sq_of hp) (ex_l e h)
theorem ev_eqNL {b : Addr} {ns ms : List Nat} (ha : EvL ta σ H (vn ns)) (hb : Ev tb σ H (.ref b)) (h : SqL K H b (vn ms)) : Ev (tOp (rEqD K) ta tb) σ H (.bl (decide (ns = ms))) :=
  ev_opL1 ha (fun H1 e => hb.mono e) fun p H1 hp e => rv_eqN (sq_of hp) (ex_l e h)
theorem ev_neNLL {ns ms : List Nat} (ha : EvL ta σ H (vn ns)) (hb : EvL tb σ H (vn ms)) : Ev (tOp (rNeD K) ta tb) σ H (.bl (!decide (ns = ms))) :=
  ev_opLL ha hb fun p q H1 hp hq e => rv_neN (sq_of hp) (sq_of hq)
theorem ev_eqNLL {ns ms : List Nat} (ha : EvL ta σ H (vn ns)) (hb : EvL tb σ H (vn ms)) : Ev (tOp (rEqD K) ta tb) σ H (.bl (decide (ns = ms))) :=
  ev_opLL ha hb fun p q H1 hp hq e => rv_eqN (sq_of hp) (sq_of hq)
end
end Pk
namespace Pk
/-! ### how many wish a place below i; full wishes -/
def lt (ws : List Nat) (i : Nat) : Nat := ws.countP fun w => decide (w < i)
def ge (ws : List Nat) (i : Nat) : Nat := ws.countP fun w => decide (i ≤ w)
theorem lt_ge (ws : List Nat) (i : Nat) : lt ws i + ge ws i = ws.length := by
  unfold lt ge
  induction ws with
  | nil => rfl
  | cons w r ih =>
    rw [List.countP_cons, List.countP_cons, List.length_cons]
    by_cases h : w < i
    · simp only [h, decide_true, if_true, show ¬ i ≤ w from by omega, decide_false]
      simp only [Bool.false_eq_true, if_false]
      omega
    · simp only [h, decide_false, show i ≤ w from by omega, decide_true, if_true]
      simp only [Bool.false_eq_true, if_false]
      omega
theorem lt_zero (ws : List Nat) : lt ws 0 = 0 := by
  unfold lt
  rw [List.countP_eq_zero]
  intro a _
  simp
theorem lt_succ (ws : List Nat) (i : Nat) : lt ws (i + 1) = lt ws i + ws.count i := by
  unfold lt
  induction ws with
  | nil => rfl
  | cons w r ih =>
    rw [List.countP_cons, List.countP_cons, List.count_cons, ih]
    by_cases h : w < i
    · have h2 : (w == i) = false := by simp; omega
      simp [h, h2, show w < i + 1 from by omega]
      omega
    · by_cases h3 : w = i
      · subst h3
        simp
        omega
      · have h2 : (w == i) = false := by simp; omega
        simp [h, h2, show ¬ w < i + 1 from by omega]
theorem lt_all {ws : List Nat} {p : Nat} (h : ∀ x ∈ ws, x < p) : lt ws p = ws.length := by
  unfold lt
  rw [List.countP_eq_length]
  intro a ha
  simpa using h a ha
theorem lt_le (ws : List Nat) (i : Nat) : lt ws i ≤ ws.length := List.countP_le_length
theorem lt_mono (ws : List Nat) {i j : Nat} (h : i ≤ j) : lt ws i ≤ lt ws j := by
  unfold lt
  refine List.countP_mono_left fun x _ hx => ?_
  simp only [decide_eq_true_eq] at *
  omega
theorem ge_top {ws : List Nat} {p : Nat} (h : ∀ x ∈ ws, x < p) : ge ws p = 0 := by
  have := lt_ge ws p
  rw [lt_all h] at this
  omega
theorem ge_succ (ws : List Nat) (i : Nat) : ge ws i = ge ws (i + 1) + ws.count i := by
  have h1 := lt_ge ws i
  have h2 := lt_ge ws (i + 1)
  have h3 := lt_succ ws i
  omega
/-- full wishes: places of as many, none driving off -/
structure Full (ws : List Nat) : Prop where
  lo : ∀ x ∈ ws, x < ws.length
  up : ∀ i, i ≤ ws.length → i ≤ lt ws i
theorem Full.no {ws : List Nat} (h : Full ws) : ∀ i, i < ws.length → ge ws i ≤ ws.length - i := fun i hi => by
  have h1 := lt_ge ws i
  have h2 := h.up i (by omega)
  omega
theorem Full.of {ws : List Nat} (lo : ∀ x ∈ ws, x < ws.length) (h : ∀ i, i < ws.length → ge ws i ≤ ws.length - i) : Full ws := by
  refine ⟨lo, fun i hi => ?_⟩
  by_cases e : i = ws.length
  · subst e
    rw [lt_all lo]
    exact Nat.le_refl _
  · have h1 := lt_ge ws i
    have h2 := h i (by omega)
    omega
/-! ### a crowd: the least place such that more wish it or beyond than there are places; -1 -/
def crow (p : Nat) (ws : List Nat) : Nat → Int
  | 0 => -1
  | d + 1 => if p - (p - (d + 1)) < ge ws (p - (d + 1)) then ((p - (d + 1) : Nat) : Int) else crow p ws d
def crowd (p : Nat) (ws : List Nat) : Int := crow p ws p
theorem crow_no {p : Nat} {ws : List Nat} : ∀ d, d ≤ p → (∀ i, p - d ≤ i → i < p → ge ws i ≤ p - i) → crow p ws d = -1
  | 0, _, _ => rfl
  | d + 1, hd, h => by
    unfold crow
    rw [if_neg (by have := h (p - (d + 1)) (by omega) (by omega); omega)]
    exact crow_no d (by omega) fun i h1 h2 => h i (by omega) h2
theorem crow_yes {p : Nat} {ws : List Nat} : ∀ d, d ≤ p → (∃ i, p - d ≤ i ∧ i < p ∧ p - i < ge ws i) → ∃ i : Nat, crow p ws d = (i : Int) ∧ i < p ∧ p - i < ge ws i
  | 0, _, h => by
    obtain ⟨i, h1, h2, _⟩ := h
    omega
  | d + 1, hd, h => by
    unfold crow
    by_cases hc : p - (p - (d + 1)) < ge ws (p - (d + 1))
    · rw [if_pos hc]
      exact ⟨p - (d + 1), rfl, by omega, hc⟩
    · rw [if_neg hc]
      refine crow_yes d (by omega) ?_
      obtain ⟨i, h1, h2, h3⟩ := h
      by_cases e : i = p - (d + 1)
      · subst e
        exact absurd h3 hc
      · exact ⟨i, by omega, h2, h3⟩
theorem crowd_no {p : Nat} {ws : List Nat} (h : ∀ i, i < p → ge ws i ≤ p - i) : crowd p ws = -1 := crow_no p (Nat.le_refl _) fun i _ h2 => h i h2
theorem crowd_yes {p : Nat} {ws : List Nat} (h : ¬ ∀ i, i < p → ge ws i ≤ p - i) : ∃ i : Nat, crowd p ws = (i : Int) ∧ i < p ∧ p - i < ge ws i := by
  refine crow_yes p (Nat.le_refl _) ?_
  refine Classical.byContradiction fun k => h fun i hi => ?_
  refine Classical.byContradiction fun q => k ⟨i, by omega, hi, by omega⟩
theorem crowd_neg {p : Nat} {ws : List Nat} : crowd p ws < 0 ↔ ∀ i, i < p → ge ws i ≤ p - i := by
  constructor
  · intro h
    refine Classical.byContradiction fun k => ?_
    obtain ⟨i, e, _⟩ := crowd_yes k
    omega
  · intro h
    rw [crowd_no h]
    omega
/-! ### the law's own full wishes -/
/-- the walk of ups and downs: the height, the least one, the first place where it is so low -/
def fwalk (ws : List Nat) : Nat → Int × Int × Nat
  | 0 => (0, 0, 0)
  | k + 1 => if (fwalk ws k).1 + (ws.count k : Int) - 1 < (fwalk ws k).2.1 then ((fwalk ws k).1 + (ws.count k : Int) - 1, (fwalk ws k).1 + (ws.count k : Int) - 1, k)
    else ((fwalk ws k).1 + (ws.count k : Int) - 1, (fwalk ws k).2.1, (fwalk ws k).2.2)
def hgt (ws : List Nat) (j : Nat) : Int := (lt ws j : Int) - (j : Int)
theorem hgt_succ (ws : List Nat) (j : Nat) : hgt ws (j + 1) = hgt ws j + (ws.count j : Int) - 1 := by
  unfold hgt
  rw [lt_succ]
  omega
structure FW (ws : List Nat) (k : Nat) (h l : Int) (e : Nat) : Prop where
  hh : h = hgt ws k
  ll : (l = 0 ∧ e = 0) ∨ (l < 0 ∧ e < k ∧ l = hgt ws (e + 1) ∧ ∀ j, j ≤ e → l < hgt ws j)
  lo : ∀ j, j ≤ k → l ≤ hgt ws j
theorem fwalk_fw (ws : List Nat) : ∀ k, FW ws k (fwalk ws k).1 (fwalk ws k).2.1 (fwalk ws k).2.2
  | 0 => by
    have e0 : hgt ws 0 = 0 := by
      unfold hgt
      rw [lt_zero]
      rfl
    refine ⟨e0.symm, .inl ⟨rfl, rfl⟩, fun j hj => ?_⟩
    have : j = 0 := by omega
    subst this
    show (0 : Int) ≤ _
    omega
  | k + 1 => by
    obtain ⟨hh, ll, lo⟩ := fwalk_fw ws k
    have es := hgt_succ ws k
    rw [← hh] at es
    unfold fwalk
    by_cases c : (fwalk ws k).1 + (ws.count k : Int) - 1 < (fwalk ws k).2.1
    · rw [if_pos c]
      refine ⟨es.symm, .inr ⟨?_, Nat.lt_succ_self k, es.symm, fun j hj => ?_⟩, fun j hj => ?_⟩
      · show (fwalk ws k).1 + (ws.count k : Int) - 1 < 0
        rcases ll with ⟨q, _⟩ | ⟨q, _⟩ <;> omega
      · have := lo j hj
        show (fwalk ws k).1 + (ws.count k : Int) - 1 < _
        omega
      · show (fwalk ws k).1 + (ws.count k : Int) - 1 ≤ _
        by_cases e : j = k + 1
        · subst e
          omega
        · have := lo j (by omega)
          omega
    · rw [if_neg c]
      refine ⟨es.symm, ?_, fun j hj => ?_⟩
      · rcases ll with q | ⟨q1, q2, q3, q4⟩
        · exact .inl q
        · exact .inr ⟨q1, Nat.lt_succ_of_lt q2, q3, q4⟩
      · show (fwalk ws k).2.1 ≤ _
        by_cases e : j = k + 1
        · subst e
          omega
        · exact lo j (by omega)
/-- turned by so much that the empty place is the last one -/
def turnN (m by_ : Nat) (ws : List Nat) : List Nat := ws.map fun w => (w + by_) % m
def emptyOf (ws : List Nat) : Nat := (fwalk ws (ws.length + 1)).2.2
def fullN (ws : List Nat) : List Nat := ws.map fun w => (w + ws.length - emptyOf ws) % (ws.length + 1)
theorem fullN_length (ws : List Nat) : (fullN ws).length = ws.length := by
  unfold fullN
  rw [List.length_map]
structure EmptyIs (ws : List Nat) (e : Nat) : Prop where
  lt : e ≤ ws.length
  neg : hgt ws (e + 1) < 0
  up : ∀ j, j ≤ e → hgt ws (e + 1) < hgt ws j
  lo : ∀ j, j ≤ ws.length + 1 → hgt ws (e + 1) ≤ hgt ws j
theorem emptyOf_is {ws : List Nat} (hw : ∀ x ∈ ws, x < ws.length + 1) : EmptyIs ws (emptyOf ws) := by
  obtain ⟨hh, ll, lo⟩ := fwalk_fw ws (ws.length + 1)
  have e1 : hgt ws (ws.length + 1) = -1 := by
    unfold hgt
    rw [lt_all hw]
    omega
  have h2 := lo (ws.length + 1) (Nat.le_refl _)
  rcases ll with ⟨q, _⟩ | ⟨q1, q2, q3, q4⟩
  · omega
  · unfold emptyOf
    exact ⟨by omega, by omega, fun j hj => by have := q4 j hj; omega, fun j hj => by have := lo j hj; omega⟩
theorem countP4 {α : Type} {f g f' g' : α → Bool} : ∀ {l : List α}, (∀ x ∈ l, (f x).toNat + (g x).toNat = (f' x).toNat + (g' x).toNat) → l.countP f + l.countP g = l.countP f' + l.countP g'
  | [], _ => rfl
  | x :: r, h => by
    have ih := countP4 (l := r) fun y hy => h y (List.mem_cons_of_mem _ hy)
    have hx := h x List.mem_cons_self
    simp only [List.countP_cons]
    cases h1 : f x <;> cases h2 : g x <;> cases h3 : f' x <;> cases h4 : g' x <;> simp [h1, h2, h3, h4] at hx ⊢ <;> omega
theorem turn_val {w n e : Nat} (hw : w < n + 1) (he : e ≤ n) : (w + n - e) % (n + 1) = if w ≤ e then w + n - e else w - e - 1 := by
  by_cases h : w ≤ e
  · rw [if_pos h, Nat.mod_eq_of_lt (by omega)]
  · rw [if_neg h]
    have : w + n - e = (w - e - 1) + (n + 1) := by omega
    rw [this, Nat.add_mod_right, Nat.mod_eq_of_lt (by omega)]
/-- the counts of the turned ones -/
theorem lt_turn {ws : List Nat} {e : Nat} (hw : ∀ x ∈ ws, x < ws.length + 1) (he : e ≤ ws.length) (i : Nat) (hi : i ≤ ws.length) :
    lt (ws.map fun w => (w + ws.length - e) % (ws.length + 1)) i + lt ws (e + 1) = lt ws (e + 1 + i) + lt ws (i + e - ws.length) := by
  unfold lt
  rw [List.countP_map]
  refine countP4 fun x hx => ?_
  have h1 := hw x hx
  show (decide ((x + ws.length - e) % (ws.length + 1) < i)).toNat + (decide (x < e + 1)).toNat = (decide (x < e + 1 + i)).toNat + (decide (x < i + e - ws.length)).toNat
  have hv := turn_val (w := x) h1 he
  generalize (x + ws.length - e) % (ws.length + 1) = v at hv ⊢
  by_cases h : x ≤ e
  · rw [if_pos h] at hv
    subst hv
    simp only [show x < e + 1 from by omega, show x < e + 1 + i from by omega, decide_true]
    by_cases h2 : x + ws.length - e < i
    · simp [h2, show x < i + e - ws.length from by omega]
    · simp [h2, show ¬ x < i + e - ws.length from by omega]
  · rw [if_neg h] at hv
    subst hv
    simp only [show ¬ x < e + 1 from by omega, show ¬ x < i + e - ws.length from by omega, decide_false]
    by_cases h2 : x - e - 1 < i
    · simp [h2, show x < e + 1 + i from by omega]
    · simp [h2, show ¬ x < e + 1 + i from by omega]
theorem full_of_empty {ws : List Nat} {e : Nat} (hw : ∀ x ∈ ws, x < ws.length + 1) (E : EmptyIs ws e) : Full (ws.map fun w => (w + ws.length - e) % (ws.length + 1)) := by
  have key : ∀ i, i ≤ ws.length → i ≤ lt (ws.map fun w => (w + ws.length - e) % (ws.length + 1)) i := fun i hi => by
    have h := lt_turn hw E.lt i hi
    have h1 := E.lt
    by_cases c : e + 1 + i ≤ ws.length + 1
    · have h2 := E.lo (e + 1 + i) c
      unfold hgt at h2
      omega
    · have h2 := E.up (i + e - ws.length) (by omega)
      have h3 : lt ws (e + 1 + i) = ws.length := lt_all fun x hx => by have := hw x hx; omega
      unfold hgt at h2
      omega
  have hlen : (ws.map fun w => (w + ws.length - e) % (ws.length + 1)).length = ws.length := List.length_map ..
  have hn := key ws.length (Nat.le_refl _)
  have hl : ∀ x ∈ (ws.map fun w => (w + ws.length - e) % (ws.length + 1)), x < ws.length := by
    have h2 : lt (ws.map fun w => (w + ws.length - e) % (ws.length + 1)) ws.length = (ws.map fun w => (w + ws.length - e) % (ws.length + 1)).length := by
      have := lt_le (ws.map fun w => (w + ws.length - e) % (ws.length + 1)) ws.length
      omega
    unfold lt at h2
    rw [List.countP_eq_length] at h2
    intro x hx
    simpa using h2 x hx
  exact ⟨fun x hx => by rw [hlen]; exact hl x hx, fun i hi => key i (by rw [hlen] at hi; exact hi)⟩
theorem fullN_full {ws : List Nat} (hw : ∀ x ∈ ws, x < ws.length + 1) : Full (fullN ws) := full_of_empty hw (emptyOf_is hw)
/-- the script's cells on a ring -/
def cells (ns : List Int) (m : Nat) : List Nat := ns.map fun c => (c % (m : Int)).toNat
theorem cells_length (ns : List Int) (m : Nat) : (cells ns m).length = ns.length := by
  unfold cells
  rw [List.length_map]
theorem cells_lt {ns : List Int} {m : Nat} (hm : 0 < m) : ∀ x ∈ cells ns m, x < m := fun x hx => by
  unfold cells at hx
  obtain ⟨c, _, rfl⟩ := List.mem_map.mp hx
  have h1 := Int.emod_lt_of_pos c (show (0 : Int) < m from by omega)
  have h2 := Int.emod_nonneg c (show (m : Int) ≠ 0 from by omega)
  omega
def lawFull (ns : List Int) : List Nat := fullN (cells ns (ns.length + 1))
theorem lawFull_length (ns : List Int) : (lawFull ns).length = ns.length := by
  unfold lawFull
  rw [fullN_length, cells_length]
theorem lawFull_full (ns : List Int) : Full (lawFull ns) := by
  refine fullN_full fun x hx => ?_
  rw [cells_length]
  exact cells_lt (Nat.succ_pos _) x hx
end Pk
namespace Pk
/-! ### paths as lists of codes: u is 117, d is 100 -/
def step1 (c : Nat) : List Nat := List.replicate c 117 ++ [100]
def pathL (cs : List Nat) : List Nat := (cs.map step1).flatten
theorem pathL_cons (c : Nat) (r : List Nat) : pathL (c :: r) = List.replicate c 117 ++ 100 :: pathL r := by
  unfold pathL step1
  rw [List.map_cons, List.flatten_cons, List.append_assoc]
  rfl
/-- the heights behind each down, or none where it is no path -/
def hgo : List Nat → Nat → Option (List Nat)
  | [], h => if h = 0 then some [] else none
  | c :: r, h => if c = 117 then hgo r (h + 1) else if c = 100 ∧ 0 < h then (hgo r (h - 1)).map ((h - 1) :: ·) else none
def ris : List Nat → Nat → List Nat
  | [], _ => []
  | c :: r, p => if c = 117 then p :: ris r p else ris r (p + 1)
theorem hgo_up (c : Nat) (r : List Nat) (h : Nat) : hgo (List.replicate c 117 ++ r) h = hgo r (h + c) := by
  induction c generalizing h with
  | zero => rfl
  | succ c ih =>
    rw [List.replicate_succ, List.cons_append]
    show (if (117 : Nat) = 117 then hgo (List.replicate c 117 ++ r) (h + 1) else _) = _
    rw [if_pos rfl, ih]
    congr 1
    omega
theorem ris_up (c : Nat) (r : List Nat) (p : Nat) : ris (List.replicate c 117 ++ r) p = List.replicate c p ++ ris r p := by
  induction c with
  | zero => rfl
  | succ c ih =>
    rw [List.replicate_succ, List.cons_append]
    show (if (117 : Nat) = 117 then p :: ris (List.replicate c 117 ++ r) p else _) = _
    rw [if_pos rfl, ih]
    rfl
def hl : List Nat → Nat → List Nat
  | [], _ => []
  | c :: r, h => (h + c - 1) :: hl r (h + c - 1)
def POk : List Nat → Nat → Prop
  | [], h => h = 0
  | c :: r, h => 0 < h + c ∧ POk r (h + c - 1)
theorem hgo_path : ∀ (cs : List Nat) (h : Nat), POk cs h → hgo (pathL cs) h = some (hl cs h)
  | [], h, e => by
    have e : h = 0 := e
    subst e
    rfl
  | c :: r, h, e => by
    obtain ⟨e1, e2⟩ := e
    rw [pathL_cons, hgo_up]
    show (if (100 : Nat) = 117 then _ else if (100 : Nat) = 100 ∧ 0 < h + c then (hgo (pathL r) (h + c - 1)).map ((h + c - 1) :: ·) else none) = _
    rw [if_neg (by decide), if_pos ⟨rfl, e1⟩, hgo_path r _ e2]
    rfl
theorem ris_path : ∀ (cs : List Nat) (p : Nat), ris (pathL cs) p = (cs.zipIdx p).flatMap fun q => List.replicate q.1 q.2
  | [], p => rfl
  | c :: r, p => by
    rw [pathL_cons, ris_up, List.zipIdx_cons, List.flatMap_cons]
    show List.replicate c p ++ (if (100 : Nat) = 117 then _ else ris (pathL r) (p + 1)) = _
    rw [if_neg (by decide), ris_path r (p + 1)]
/-! ### of full wishes -/
def cnts (p : Nat) (ws : List Nat) : List Nat := (List.range p).map fun i => ws.count i
theorem cnts_nil (p : Nat) : cnts p [] = (List.range p).map fun _ => 0 := by
  unfold cnts
  simp
theorem cnts_len (p : Nat) (ws : List Nat) : (cnts p ws).length = p := by
  unfold cnts
  rw [List.length_map, List.length_range]
theorem cnts_get {p : Nat} {ws : List Nat} {i : Nat} (hi : i < p) : (cnts p ws)[i]? = some (ws.count i) := by
  unfold cnts
  rw [List.getElem?_map, List.getElem?_range hi]
  rfl
theorem cnts_add {p : Nat} {ws : List Nat} {x : Nat} (hx : x < p) : (cnts p ws).set x (ws.count x + 1) = cnts p (ws ++ [x]) := by
  refine List.ext_getElem? fun i => ?_
  by_cases hi : i < p
  · rw [cnts_get hi]
    by_cases e : x = i
    · subst e
      rw [List.getElem?_set_self (by rw [cnts_len]; exact hx), List.count_append, List.count_singleton]
      simp
    · rw [List.getElem?_set_ne e, cnts_get hi, List.count_append, List.count_singleton]
      simp [e]
  · rw [List.getElem?_eq_none (by rw [List.length_set, cnts_len]; omega), List.getElem?_eq_none (by rw [cnts_len]; omega)]
theorem cnts_perm {p : Nat} {ws vs : List Nat} (h : ws.Perm vs) : cnts p ws = cnts p vs := by
  unfold cnts
  refine List.map_congr_left fun i _ => ?_
  exact h.count_eq i
theorem lt_perm {ws vs : List Nat} (h : ws.Perm vs) (i : Nat) : lt ws i = lt vs i := h.countP_eq _
theorem Full.perm {ws vs : List Nat} (h : ws.Perm vs) (F : Full ws) : Full vs := by
  refine ⟨fun x hx => ?_, fun i hi => ?_⟩
  · rw [← h.length_eq]
    exact F.lo x (h.mem_iff.mpr hx)
  · rw [← lt_perm h]
    exact F.up i (by rw [h.length_eq]; exact hi)
theorem pok_full {ws : List Nat} (F : Full ws) : ∀ k i, i + k = ws.length → POk ((List.range' i k).map fun j => ws.count j) (lt ws i - i)
  | 0, i, h => by
    have e : i = ws.length := by omega
    have h2 : lt ws i = ws.length := by rw [e]; exact lt_all F.lo
    show lt ws i - i = 0
    omega
  | k + 1, i, h => by
    have h1 := F.up i (by omega)
    have h2 := F.up (i + 1) (by omega)
    have h3 := lt_succ ws i
    rw [List.range'_succ, List.map_cons]
    refine ⟨by omega, ?_⟩
    have ih := pok_full F k (i + 1) (by omega)
    have e : lt ws i - i + ws.count i - 1 = lt ws (i + 1) - (i + 1) := by omega
    rw [e]
    exact ih
theorem hl_full {ws : List Nat} (F : Full ws) : ∀ k i, i + k = ws.length → hl ((List.range' i k).map fun j => ws.count j) (lt ws i - i) = (List.range' i k).map fun j => lt ws (j + 1) - (j + 1)
  | 0, i, h => rfl
  | k + 1, i, h => by
    have h1 := F.up i (by omega)
    have h3 := lt_succ ws i
    rw [List.range'_succ, List.map_cons, List.map_cons]
    have ih := hl_full F k (i + 1) (by omega)
    have e : lt ws i - i + ws.count i - 1 = lt ws (i + 1) - (i + 1) := by omega
    show (lt ws i - i + ws.count i - 1) :: hl _ (lt ws i - i + ws.count i - 1) = _
    rw [e, ih]
def hts (ws : List Nat) : List Nat := (List.range ws.length).map fun j => lt ws (j + 1) - (j + 1)
theorem hgo_full {ws : List Nat} (F : Full ws) : hgo (pathL (cnts ws.length ws)) 0 = some (hts ws) := by
  have h1 := pok_full F ws.length 0 (by omega)
  have h2 := hl_full F ws.length 0 (by omega)
  rw [← List.range_eq_range'] at h1 h2
  rw [show lt ws 0 - 0 = 0 from by rw [lt_zero]] at h1 h2
  have h3 := hgo_path _ 0 h1
  rw [h2] at h3
  exact h3
/-! ### the rising wishes of a path -/
def rr (ws : List Nat) (i k : Nat) : List Nat := (List.range' i k).flatMap fun j => List.replicate (ws.count j) j
theorem zip_rr (ws : List Nat) : ∀ k i, (((List.range' i k).map fun j => ws.count j).zipIdx i).flatMap (fun q => List.replicate q.1 q.2) = rr ws i k
  | 0, i => rfl
  | k + 1, i => by
    unfold rr
    rw [List.range'_succ, List.map_cons, List.zipIdx_cons, List.flatMap_cons, List.flatMap_cons]
    congr 1
    exact zip_rr ws k (i + 1)
theorem rr_ge (ws : List Nat) : ∀ k i, ∀ x ∈ rr ws i k, i ≤ x ∧ x < i + k := fun k i x hx => by
  unfold rr at hx
  obtain ⟨j, hj, h2⟩ := List.mem_flatMap.mp hx
  obtain ⟨_, rfl⟩ := List.mem_replicate.mp h2
  have := List.mem_range'_1.mp hj
  omega
theorem rr_rise (ws : List Nat) : ∀ k i, (rr ws i k).Pairwise (· ≤ ·)
  | 0, i => List.Pairwise.nil
  | k + 1, i => by
    unfold rr
    rw [List.range'_succ, List.flatMap_cons]
    refine List.pairwise_append.mpr ⟨?_, rr_rise ws k (i + 1), fun a ha b hb => ?_⟩
    · refine List.pairwise_replicate.mpr ?_
      exact Or.inr (Nat.le_refl _)
    · obtain ⟨_, rfl⟩ := List.mem_replicate.mp ha
      have := rr_ge ws k (a + 1) b hb
      omega
theorem rr_count (ws : List Nat) (x : Nat) : ∀ k i, (rr ws i k).count x = if i ≤ x ∧ x < i + k then ws.count x else 0
  | 0, i => by
    rw [if_neg (by omega)]
    rfl
  | k + 1, i => by
    have ih := rr_count ws x k (i + 1)
    unfold rr at ih ⊢
    rw [List.range'_succ, List.flatMap_cons, List.count_append, ih, List.count_replicate]
    by_cases e : i = x
    · subst e
      have h1 : ¬ (i + 1 ≤ i ∧ i < i + 1 + k) := by omega
      have h2 : i ≤ i ∧ i < i + (k + 1) := by omega
      rw [if_neg h1, if_pos h2]
      simp
    · have h0 : ¬ ((i == x) = true) := by simpa using e
      rw [if_neg h0]
      by_cases h : i + 1 ≤ x ∧ x < i + 1 + k
      · have h2 : i ≤ x ∧ x < i + (k + 1) := by omega
        rw [if_pos h, if_pos h2, Nat.zero_add]
      · have h2 : ¬ (i ≤ x ∧ x < i + (k + 1)) := by omega
        rw [if_neg h, if_neg h2]
theorem rr_perm {ws : List Nat} {p : Nat} (h : ∀ x ∈ ws, x < p) : (rr ws 0 p).Perm ws := by
  refine List.perm_iff_count.mpr fun x => ?_
  rw [rr_count]
  by_cases c : 0 ≤ x ∧ x < 0 + p
  · rw [if_pos c]
  · rw [if_neg c]
    symm
    refine List.count_eq_zero.mpr fun hx => c ?_
    have := h x hx
    omega
def rise (ws : List Nat) : List Nat := rr ws 0 ws.length
theorem ris_full (ws : List Nat) : ris (pathL (cnts ws.length ws)) 0 = rise ws := by
  rw [ris_path]
  unfold cnts
  rw [List.range_eq_range', zip_rr]
  rfl
/-! ### what lies beneath: the drives -/
theorem sum_lt (ws : List Nat) : ∀ n, ((List.range n).map fun j => lt ws (j + 1)).sum = (ws.map fun w => n - w).sum := by
  intro n
  induction n with
  | zero =>
    simp only [List.range_zero, List.map_nil, List.sum_nil]
    induction ws with
    | nil => rfl
    | cons w r ih =>
      rw [List.map_cons, List.sum_cons, ← ih]
      omega
  | succ n ih =>
    rw [List.range_succ, List.map_append, List.sum_append, ih, List.map_singleton]
    show _ + (lt ws (n + 1) + 0) = _
    unfold lt
    clear ih
    induction ws with
    | nil => rfl
    | cons w r ih2 =>
      rw [List.map_cons, List.sum_cons, List.map_cons, List.sum_cons, List.countP_cons, ← ih2]
      by_cases h : w < n + 1
      · simp only [h, decide_true, if_true]
        omega
      · simp only [h, decide_false, Bool.false_eq_true, if_false]
        omega
theorem sum_sub {n : Nat} : ∀ {ws : List Nat}, (∀ x ∈ ws, x < n) → (ws.map fun w => n - w).sum + ws.sum = n * ws.length
  | [], _ => rfl
  | w :: r, h => by
    have ih := sum_sub (ws := r) fun x hx => h x (List.mem_cons_of_mem _ hx)
    have hw := h w List.mem_cons_self
    rw [List.map_cons, List.sum_cons, List.sum_cons, List.length_cons, Nat.mul_succ]
    omega
theorem sum_range (n : Nat) : 2 * ((List.range n).map fun j => j + 1).sum = n * (n + 1) := by
  induction n with
  | zero => rfl
  | succ n ih =>
    rw [List.range_succ, List.map_append, List.sum_append, List.map_singleton, Nat.mul_add, ih]
    show n * (n + 1) + 2 * (n + 1 + 0) = (n + 1) * (n + 1 + 1)
    have e : (n + 1) * (n + 1 + 1) = n * (n + 1) + 2 * (n + 1) := by rw [← Nat.add_mul, Nat.mul_comm]
    omega
theorem sum_diff {f g : Nat → Nat} : ∀ n, (∀ j, j < n → g j ≤ f j) → ((List.range n).map fun j => f j - g j).sum + ((List.range n).map g).sum = ((List.range n).map f).sum := by
  intro n
  induction n with
  | zero => intro _; rfl
  | succ n ih =>
    intro h
    have h1 := ih fun j hj => h j (by omega)
    have h2 := h n (Nat.lt_succ_self n)
    rw [List.range_succ, List.map_append, List.map_append, List.map_append, List.sum_append, List.sum_append, List.sum_append]
    simp only [List.map_singleton, List.sum_singleton]
    omega
/-- how far all drive -/
def drv (ws : List Nat) : Int := ((ws.length : Int) * ((ws.length : Int) - 1)) / 2 - ((ws.sum : Nat) : Int)
theorem drv_hts {ws : List Nat} (F : Full ws) : drv ws = (((hts ws).sum : Nat) : Int) := by
  have h1 := sum_lt ws ws.length
  have h2 := sum_sub F.lo
  have h3 := sum_range ws.length
  have h4 := sum_diff (f := fun j => lt ws (j + 1)) (g := fun j => j + 1) ws.length fun j hj => F.up (j + 1) (by omega)
  have h5 : (hts ws).sum + ((List.range ws.length).map fun j => j + 1).sum + ws.sum = ws.length * ws.length := by
    unfold hts
    omega
  unfold drv
  have e : ((ws.length : Int) * ((ws.length : Int) - 1)) = 2 * ((((hts ws).sum + ws.sum : Nat)) : Int) := by
    have h6 : ws.length * (ws.length + 1) + 2 * ((hts ws).sum + ws.sum) = 2 * (ws.length * ws.length) := by omega
    have h7 : ((ws.length * (ws.length + 1) + 2 * ((hts ws).sum + ws.sum) : Nat) : Int) = ((2 * (ws.length * ws.length) : Nat) : Int) := by rw [h6]
    push_cast at h7 ⊢
    rw [Int.mul_sub]
    rw [Int.mul_add] at h7
    omega
  rw [e, Int.mul_ediv_cancel_left _ (by decide)]
  push_cast
  omega
end Pk
namespace Pk
/-! ### standings: reaches by walking back -/
/-- the cars of a standing: each of as many once -/
structure IsSt (st : List Nat) : Prop where
  lo : ∀ x ∈ st, x < st.length
  nd : st.Nodup
/-- walking back from k past smaller ones -/
def back (st : List Nat) (x : Nat) : Nat → Nat
  | 0 => 0
  | k + 1 => if st.getD k 0 < x then back st x k else k + 1
theorem back_le (st : List Nat) (x : Nat) : ∀ k, back st x k ≤ k
  | 0 => Nat.le_refl _
  | k + 1 => by
    have := back_le st x k
    unfold back
    split <;> omega
theorem back_lt {st : List Nat} {x : Nat} : ∀ k j, back st x k ≤ j → j < k → st.getD j 0 < x
  | k + 1, j, h1, h2 => by
    unfold back at h1
    split at h1
    · rename_i c
      by_cases e : j = k
      · subst e
        exact c
      · exact back_lt k j h1 (by omega)
    · omega
theorem back_ge {st : List Nat} {x : Nat} : ∀ k, 0 < back st x k → x ≤ st.getD (back st x k - 1) 0
  | k + 1, h => by
    unfold back at h ⊢
    split at h
    · rename_i c
      rw [if_pos c]
      exact back_ge k h
    · rename_i c
      rw [if_neg c]
      show x ≤ st.getD k 0
      omega
theorem back_back {st : List Nat} {x y : Nat} (h : y ≤ x) : ∀ k, back st x k = back st x (back st y k)
  | 0 => rfl
  | k + 1 => by
    show (if st.getD k 0 < x then back st x k else k + 1) = back st x (if st.getD k 0 < y then back st y k else k + 1)
    by_cases c : st.getD k 0 < y
    · rw [if_pos c, if_pos (by omega)]
      exact back_back h k
    · rw [if_neg c]
      rfl
def reach (st : List Nat) (p : Nat) : Nat := back st (st.getD p 0) p
theorem reach_le (st : List Nat) (p : Nat) : reach st p ≤ p := back_le _ _ _
def rchs (st : List Nat) : List Nat := (List.range st.length).map (reach st)
/-- the places that wait, from the first on -/
def chain (st : List Nat) : Nat → List Nat
  | 0 => []
  | k + 1 => chain st (back st (st.getD k 0) k) ++ [k]
termination_by k => k
decreasing_by
  have := back_le st (st.getD k 0) k
  omega
theorem chain_zero (st : List Nat) : chain st 0 = [] := by rw [chain]
theorem chain_succ (st : List Nat) (k : Nat) : chain st (k + 1) = chain st (back st (st.getD k 0) k) ++ [k] := by rw [chain]
theorem chain_len (st : List Nat) : ∀ k, (chain st k).length ≤ k := by
  intro k
  induction k using Nat.strongRecOn with
  | _ k ih =>
    cases k with
    | zero => rw [chain_zero]; exact Nat.le_refl _
    | succ k =>
      have h1 := back_le st (st.getD k 0) k
      have h2 := ih _ (Nat.lt_succ_of_le h1)
      rw [chain_succ, List.length_append]
      simp only [List.length_singleton]
      omega
/-- how many wishes lead to it -/
def prodR (f : Nat → Nat) : Nat → Nat
  | 0 => 1
  | k + 1 => prodR f k * (k - f k + 1)
/-- the wishes by which the car at each place drove so many steps -/
def fstep (st : List Nat) (ss : List Int) : Nat → List Nat
  | 0 => List.replicate st.length 0
  | k + 1 => (fstep st ss k).set (st.getD k 0) ((k : Int) - ss.getD k 0).toNat
theorem fstep_len (st : List Nat) (ss : List Int) : ∀ k, (fstep st ss k).length = st.length
  | 0 => by unfold fstep; rw [List.length_replicate]
  | k + 1 => by unfold fstep; rw [List.length_set, fstep_len st ss k]
def fsteps (st : List Nat) (ss : List Int) : List Nat := fstep st ss st.length
theorem st_inj {st : List Nat} (S : IsSt st) {i j : Nat} (hi : i < st.length) (hj : j < st.length) (h : st.getD i 0 = st.getD j 0) : i = j := by
  rw [List.getD_eq_getElem?_getD, List.getD_eq_getElem?_getD, List.getElem?_eq_getElem hi, List.getElem?_eq_getElem hj] at h
  exact (List.getElem_inj S.nd).mp h
theorem st_lt {st : List Nat} (S : IsSt st) {i : Nat} (hi : i < st.length) : st.getD i 0 < st.length := by
  rw [List.getD_eq_getElem?_getD, List.getElem?_eq_getElem hi]
  exact S.lo _ (List.getElem_mem hi)
theorem fstep_get {st : List Nat} (S : IsSt st) (ss : List Int) : ∀ k, k ≤ st.length → ∀ p, p < k → (fstep st ss k)[st.getD p 0]? = some ((p : Int) - ss.getD p 0).toNat
  | k + 1, hk, p, hp => by
    unfold fstep
    by_cases e : p = k
    · subst e
      rw [List.getElem?_set_self (by rw [fstep_len]; exact st_lt S hk)]
    · have hne : st.getD k 0 ≠ st.getD p 0 := fun q => e (st_inj S hk (by omega) q).symm
      rw [List.getElem?_set_ne hne]
      exact fstep_get S ss k (by omega) p (by omega)
/-- each car stands somewhere -/
theorem st_has {st : List Nat} (S : IsSt st) {c : Nat} (hc : c < st.length) : ∃ p, p < st.length ∧ st.getD p 0 = c := by
  have hsub : ∀ x ∈ st, x ∈ List.range st.length := fun x hx => List.mem_range.mpr (S.lo x hx)
  have hmem : c ∈ st := by
    refine Classical.byContradiction fun hn => ?_
    have h1 : (c :: st).Nodup := List.nodup_cons.mpr ⟨hn, S.nd⟩
    have h2 : (c :: st) ⊆ List.range st.length := fun x hx => by
      rcases List.mem_cons.mp hx with e | hx
      · subst e
        exact List.mem_range.mpr hc
      · exact hsub x hx
    have h3 := h1.length_le_of_subset h2
    rw [List.length_cons, List.length_range] at h3
    omega
  obtain ⟨p, hp, e⟩ := List.mem_iff_getElem.mp hmem
  exact ⟨p, hp, by rw [List.getD_eq_getElem?_getD, List.getElem?_eq_getElem hp]; exact e⟩
/-! ### a street, walked place by place -/
def seek (occ : List Nat) : Nat → Nat → Nat
  | 0, w => w
  | k + 1, w => if w ∈ occ then seek occ k (w + 1) else w
/-- where a car stands that wishes w: the first place from there on that isn't taken; p where there is none -/
def stand (p : Nat) (occ : List Nat) (w : Nat) : Nat := seek occ (p - w) w
def whereL (p : Nat) (ws : List Nat) : List Nat := ws.foldl (fun acc w => acc ++ [stand p acc w]) []
theorem seek_spec (occ : List Nat) : ∀ k w, w ≤ seek occ k w ∧ seek occ k w ≤ w + k ∧ (∀ j, w ≤ j → j < seek occ k w → j ∈ occ) ∧ (seek occ k w < w + k → seek occ k w ∉ occ)
  | 0, w => ⟨Nat.le_refl _, Nat.le_refl _, fun j h1 h2 => absurd h2 (Nat.not_lt.mpr h1), fun h => absurd h (Nat.lt_irrefl _)⟩
  | k + 1, w => by
    obtain ⟨h1, h2, h3, h4⟩ := seek_spec occ k (w + 1)
    unfold seek
    by_cases c : w ∈ occ
    · rw [if_pos c]
      refine ⟨by omega, by omega, fun j hj1 hj2 => ?_, fun h => h4 (by omega)⟩
      by_cases e : j = w
      · subst e
        exact c
      · exact h3 j (by omega) hj2
    · rw [if_neg c]
      exact ⟨Nat.le_refl _, by omega, fun j hj1 hj2 => absurd hj2 (Nat.not_lt.mpr hj1), fun _ => c⟩
theorem stand_ge {p w : Nat} (occ : List Nat) (h : w < p) : w ≤ stand p occ w ∧ stand p occ w ≤ p ∧ (∀ j, w ≤ j → j < stand p occ w → j ∈ occ) ∧ (stand p occ w < p → stand p occ w ∉ occ) := by
  have h1 := seek_spec occ (p - w) w
  unfold stand
  have e : w + (p - w) = p := by omega
  rw [e] at h1
  exact h1
theorem stand_is {p w x : Nat} {occ : List Nat} (hw : w ≤ x) (hx : x < p) (h1 : ∀ j, w ≤ j → j < x → j ∈ occ) (h2 : x ∉ occ) : stand p occ w = x := by
  obtain ⟨a1, a2, a3, a4⟩ := stand_ge occ (Nat.lt_of_le_of_lt hw hx)
  by_cases c : stand p occ w < x
  · exact absurd (h1 _ a1 c) (a4 (by omega))
  · by_cases e : x < stand p occ w
    · exact absurd (a3 x hw e) h2
    · omega
theorem whereL_snoc (p : Nat) (ws : List Nat) (w : Nat) : whereL p (ws ++ [w]) = whereL p ws ++ [stand p (whereL p ws) w] := by
  unfold whereL
  rw [List.foldl_append]
  rfl
theorem snoc_ind {α : Type} {P : List α → Prop} (h0 : P []) (hs : ∀ r w, P r → P (r ++ [w])) : ∀ l, P l := by
  intro l
  have key : ∀ n (l : List α), l.length = n → P l := by
    intro n
    induction n with
    | zero =>
      intro l hl
      rw [List.length_eq_zero_iff.mp hl]
      exact h0
    | succ n ih =>
      intro l hl
      have hne : l ≠ [] := fun e => by rw [e] at hl; cases hl
      rw [← List.dropLast_concat_getLast hne]
      exact hs _ _ (ih _ (by rw [List.length_dropLast, hl]; rfl))
  exact key _ l rfl
theorem whereL_len (p : Nat) : ∀ ws : List Nat, (whereL p ws).length = ws.length := by
  refine snoc_ind rfl fun r w ih => ?_
  rw [whereL_snoc, List.length_append, List.length_append, ih]
  rfl
theorem whereL_le {p : Nat} : ∀ ws : List Nat, (∀ w ∈ ws, w < p) → ∀ x ∈ whereL p ws, x ≤ p := by
  refine snoc_ind (fun _ x hx => by cases hx) fun r w ih h x hx => ?_
  rw [whereL_snoc] at hx
  rcases List.mem_append.mp hx with hx | hx
  · exact ih (fun v hv => h v (List.mem_append_left _ hv)) x hx
  · have e : x = stand p (whereL p r) w := by simpa using hx
    rw [e]
    exact (stand_ge _ (h w (by simp))).2.1
/-- the first c cars stand where st tells -/
def posOf (st : List Nat) (c : Nat) : Nat := st.idxOf c
theorem posOf_is {st : List Nat} (S : IsSt st) {c : Nat} (hc : c < st.length) : posOf st c < st.length ∧ st.getD (posOf st c) 0 = c := by
  obtain ⟨p, hp, e⟩ := st_has S hc
  have hm : c ∈ st := by
    rw [← e, List.getD_eq_getElem?_getD, List.getElem?_eq_getElem hp]
    exact List.getElem_mem hp
  have h1 : posOf st c < st.length := List.idxOf_lt_length_iff.mpr hm
  refine ⟨h1, ?_⟩
  rw [List.getD_eq_getElem?_getD, List.getElem?_eq_getElem h1]
  exact List.getElem_idxOf h1
theorem posOf_at {st : List Nat} (S : IsSt st) {p : Nat} (hp : p < st.length) : posOf st (st.getD p 0) = p := by
  obtain ⟨h1, h2⟩ := posOf_is S (st_lt S hp)
  exact st_inj S h1 hp h2
/-- wishes within the reaches, up to the car c -/
theorem leads_to {st ws : List Nat} (S : IsSt st) : ∀ c, c ≤ st.length → c ≤ ws.length → (∀ d, d < c → reach st (posOf st d) ≤ ws.getD d 0 ∧ ws.getD d 0 ≤ posOf st d) → whereL st.length (ws.take c) = (List.range c).map (posOf st)
  | 0, _, _, _ => rfl
  | c + 1, hc, hl, h => by
    have ih := leads_to S c (by omega) (by omega) fun d hd => h d (by omega)
    have hlt : c < ws.length := hl
    rw [List.take_add_one, List.getElem?_eq_getElem hlt]
    show whereL st.length (ws.take c ++ [ws[c]]) = _
    rw [whereL_snoc, ih, List.range_succ, List.map_append, List.map_singleton]
    congr 1
    have hd := h c (Nat.lt_succ_self c)
    have e : ws.getD c 0 = ws[c] := by rw [List.getD_eq_getElem?_getD, List.getElem?_eq_getElem hlt]; rfl
    rw [e] at hd
    obtain ⟨p1, p2⟩ := posOf_is S (show c < st.length from hc)
    congr 1
    refine stand_is hd.2 p1 (fun j hj1 hj2 => ?_) (fun hm => ?_)
    · have hb := back_lt (posOf st c) j (Nat.le_trans hd.1 hj1) hj2
      rw [p2] at hb
      refine List.mem_map.mpr ⟨st.getD j 0, List.mem_range.mpr hb, posOf_at S (by omega)⟩
    · obtain ⟨d, hd1, hd2⟩ := List.mem_map.mp hm
      have hd3 := List.mem_range.mp hd1
      have q1 := posOf_is S (show d < st.length by omega)
      rw [hd2, p2] at q1
      omega
/-- whether wishes lead to st, asked as the law asks -/
def leadsB (st ws : List Nat) : Bool := (List.range ws.length).all fun c => decide ((whereL st.length ws).getD c 0 < st.length) && decide (st.getD ((whereL st.length ws).getD c 0) 0 = c)
theorem leads_yes {st ws : List Nat} (S : IsSt st) (hl : ws.length = st.length) (h : ∀ d, d < st.length → reach st (posOf st d) ≤ ws.getD d 0 ∧ ws.getD d 0 ≤ posOf st d) : leadsB st ws = true := by
  have k := leads_to S (ws := ws) st.length (Nat.le_refl _) (by omega) h
  rw [← hl, List.take_length, hl] at k
  unfold leadsB
  rw [List.all_eq_true]
  intro c hc
  have hc2 : c < st.length := by rw [← hl]; exact List.mem_range.mp hc
  have e : ((List.range st.length).map (posOf st)).getD c 0 = posOf st c := by
    rw [List.getD_eq_getElem?_getD, List.getElem?_map, List.getElem?_range hc2]
    rfl
  obtain ⟨p1, p2⟩ := posOf_is S hc2
  rw [k, e, p2]
  simp [p1]
theorem whereL_take (p : Nat) (ws : List Nat) : ∀ c, c ≤ ws.length → whereL p (ws.take c) = (whereL p ws).take c := by
  refine snoc_ind (P := fun ws => ∀ c, c ≤ ws.length → whereL p (ws.take c) = (whereL p ws).take c) (fun c hc => ?_) (fun r w ih c hc => ?_) ws
  · have : c = 0 := Nat.le_zero.mp hc
    subst this
    rfl
  · by_cases e : c ≤ r.length
    · rw [List.take_append_of_le_length e, ih c e, whereL_snoc, List.take_append_of_le_length (by rw [whereL_len]; exact e)]
    · rw [List.length_append, List.length_singleton] at hc
      have e2 : c = (r ++ [w]).length := by rw [List.length_append, List.length_singleton]; omega
      rw [e2, List.take_length]
      rw [List.take_of_length_le (by rw [whereL_len]; exact Nat.le_refl _)]
/-- with one wish ahead of its reach they don't -/
theorem leads_no {st ws : List Nat} (S : IsSt st) (hl : ws.length = st.length) {p : Nat} (hp : p < st.length) (h : ∀ d, d < st.getD p 0 → reach st (posOf st d) ≤ ws.getD d 0 ∧ ws.getD d 0 ≤ posOf st d) (h0 : 0 < reach st p) (hw : ws.getD (st.getD p 0) 0 = reach st p - 1) : leadsB st ws = false := by
  have hc := st_lt S hp
  generalize hce : st.getD p 0 = c at hc h hw
  have k := leads_to S (ws := ws) c (by omega) (by omega) h
  have hlt : c < ws.length := by omega
  have hge := back_ge (st := st) (x := st.getD p 0) p h0
  have hj : reach st p - 1 < p := by have := reach_le st p; omega
  have hgt : c < st.getD (reach st p - 1) 0 := by
    have hne : st.getD (reach st p - 1) 0 ≠ st.getD p 0 := fun e => by have := st_inj S (by omega) hp e; omega
    have hge2 : st.getD p 0 ≤ st.getD (reach st p - 1) 0 := hge
    omega
  have e1 : stand st.length (whereL st.length (ws.take c)) (reach st p - 1) = reach st p - 1 := by
    refine stand_is (Nat.le_refl _) (by omega) (fun j h1 h2 => absurd h2 (Nat.not_lt.mpr h1)) (fun hm => ?_)
    rw [k] at hm
    obtain ⟨d, hd1, hd2⟩ := List.mem_map.mp hm
    have hd3 := List.mem_range.mp hd1
    have q1 := (posOf_is S (show d < st.length by omega)).2
    rw [hd2] at q1
    omega
  have e2 : (whereL st.length ws).getD c 0 = reach st p - 1 := by
    have t := whereL_take st.length ws (c + 1) hlt
    rw [List.take_add_one, List.getElem?_eq_getElem hlt] at t
    have t2 : whereL st.length (ws.take c ++ [ws[c]]) = (whereL st.length ws).take (c + 1) := t
    have ew : ws[c] = reach st p - 1 := by
      rw [List.getD_eq_getElem?_getD, List.getElem?_eq_getElem hlt] at hw
      exact hw
    rw [whereL_snoc, ew, e1] at t2
    have g : ((whereL st.length ws).take (c + 1))[c]? = some (reach st p - 1) := by
      rw [← t2, List.getElem?_append_right (by rw [whereL_len, List.length_take]; omega), whereL_len, List.length_take, show c - min c ws.length = 0 by omega]
      rfl
    rw [List.getElem?_take_of_lt (Nat.lt_succ_self c)] at g
    rw [List.getD_eq_getElem?_getD, g]
    rfl
  unfold leadsB
  rw [List.all_eq_false]
  refine ⟨c, List.mem_range.mpr hlt, ?_⟩
  rw [e2]
  simp only [Bool.and_eq_true, decide_eq_true_eq, not_and]
  intro _ e
  omega
/-! ### a drawn standing -/
def insCar (st : List Nat) (at_ : Nat) : List Nat := st.take at_ ++ [st.length] ++ st.drop at_
def drawSt (ns : List Int) : List Nat := ns.foldl (fun st c => insCar st (c % ((st.length : Int) + 1)).toNat) []
theorem drawSt_snoc (ns : List Int) (c : Int) : drawSt (ns ++ [c]) = insCar (drawSt ns) (c % (((drawSt ns).length : Int) + 1)).toNat := by
  unfold drawSt
  rw [List.foldl_append]
  rfl
theorem insCar_perm (st : List Nat) (k : Nat) : (insCar st k).Perm (st.length :: st) := by
  unfold insCar
  rw [List.append_assoc, List.singleton_append]
  exact List.perm_middle.trans (by rw [List.take_append_drop])
theorem drawSt_perm : ∀ ns : List Int, (drawSt ns).Perm (List.range ns.length).reverse ∧ (drawSt ns).length = ns.length := by
  refine snoc_ind ⟨List.Perm.refl _, rfl⟩ fun r c ih => ?_
  obtain ⟨h1, h2⟩ := ih
  have h3 := insCar_perm (drawSt r) (c % (((drawSt r).length : Int) + 1)).toNat
  rw [drawSt_snoc]
  refine ⟨?_, ?_⟩
  · rw [List.length_append, List.length_singleton, List.range_succ, List.reverse_append]
    rw [h2] at h3 ⊢
    exact h3.trans (h1.cons _)
  · rw [h3.length_eq, List.length_cons, h2, List.length_append]
    rfl
theorem drawSt_is (ns : List Int) : IsSt (drawSt ns) := by
  obtain ⟨h1, h2⟩ := drawSt_perm ns
  refine ⟨fun x hx => ?_, ?_⟩
  · rw [h2]
    have := h1.mem_iff.mp hx
    rw [List.mem_reverse] at this
    exact List.mem_range.mp this
  · refine h1.nodup_iff.mpr ?_
    exact (List.reverse_perm _).nodup_iff.mpr List.nodup_range
end Pk
namespace Pk
/-! ### who parks -/
theorem getD_of {ws : List Nat} {c : Nat} (h : c < ws.length) : ws[c]? = some (ws.getD c 0) := by
  rw [List.getD_eq_getElem?_getD, List.getElem?_eq_getElem h]
  rfl
theorem whereL_get (p : Nat) {ws : List Nat} {c : Nat} (h : c < ws.length) : (whereL p ws).getD c 0 = stand p ((whereL p ws).take c) (ws.getD c 0) := by
  have t := whereL_take p ws (c + 1) h
  rw [List.take_add_one, getD_of h] at t
  have t2 : whereL p (ws.take c ++ [ws.getD c 0]) = (whereL p ws).take (c + 1) := t
  rw [whereL_snoc, whereL_take p ws c (Nat.le_of_lt h)] at t2
  have hl := whereL_len p ws
  have g : ((whereL p ws).take (c + 1))[c]? = some (stand p ((whereL p ws).take c) (ws.getD c 0)) := by
    rw [← t2, List.getElem?_append_right (by rw [List.length_take]; omega), List.length_take, show c - min c (whereL p ws).length = 0 by omega]
    rfl
  rw [List.getElem?_take_of_lt (Nat.lt_succ_self c)] at g
  rw [List.getD_eq_getElem?_getD, g]
  rfl
theorem mem_take_iff {l : List Nat} {c x : Nat} (hc : c ≤ l.length) : x ∈ l.take c ↔ ∃ d, d < c ∧ l.getD d 0 = x := by
  constructor
  · intro h
    obtain ⟨d, hd, e⟩ := List.mem_iff_getElem.mp h
    rw [List.length_take] at hd
    refine ⟨d, by omega, ?_⟩
    rw [List.getElem_take] at e
    rw [List.getD_eq_getElem?_getD, List.getElem?_eq_getElem (by omega)]
    exact e
  · rintro ⟨d, hd, e⟩
    have h1 : (l.take c)[d]? = some x := by rw [List.getElem?_take_of_lt hd, getD_of (by omega), e]
    exact List.mem_of_getElem? h1
structure Parks (p : Nat) (ws : List Nat) (L : List Nat) : Prop where
  len : L.length = ws.length
  lo : ∀ c, c < ws.length → ws.getD c 0 ≤ L.getD c 0
  hi : ∀ c, c < ws.length → L.getD c 0 ≤ p
  be : ∀ c, c < ws.length → ∀ j, ws.getD c 0 ≤ j → j < L.getD c 0 → ∃ d, d < c ∧ L.getD d 0 = j
  ne : ∀ c, c < ws.length → L.getD c 0 < p → ∀ d, d < c → L.getD d 0 ≠ L.getD c 0
theorem parks {p : Nat} {ws : List Nat} (h : ∀ x ∈ ws, x < p) : Parks p ws (whereL p ws) := by
  have hl := whereL_len p ws
  have k : ∀ c, c < ws.length → ws.getD c 0 ≤ (whereL p ws).getD c 0 ∧ (whereL p ws).getD c 0 ≤ p ∧ (∀ j, ws.getD c 0 ≤ j → j < (whereL p ws).getD c 0 → j ∈ (whereL p ws).take c) ∧ ((whereL p ws).getD c 0 < p → (whereL p ws).getD c 0 ∉ (whereL p ws).take c) := fun c hc => by
    rw [whereL_get p hc]
    exact stand_ge _ (h _ (List.mem_of_getElem? (getD_of hc)))
  refine ⟨hl, fun c hc => (k c hc).1, fun c hc => (k c hc).2.1, fun c hc j h1 h2 => (mem_take_iff (by omega)).mp ((k c hc).2.2.1 j h1 h2), fun c hc h1 d hd e => (k c hc).2.2.2 h1 ((mem_take_iff (by omega)).mpr ⟨d, hd, e⟩)⟩
theorem parks_inj {p : Nat} {ws L : List Nat} (P : Parks p ws L) {c d : Nat} (hc : c < ws.length) (hd : d < ws.length) (h1 : L.getD c 0 < p) (e : L.getD c 0 = L.getD d 0) : c = d := by
  rcases Nat.lt_trichotomy c d with h | h | h
  · exact absurd e (P.ne d hd (by omega) c h)
  · exact h
  · exact absurd e.symm (P.ne c hc h1 d h)
theorem ge_filter (ws : List Nat) (i : Nat) : ge ws i = ((List.range ws.length).filter fun c => decide (i ≤ ws.getD c 0)).length := by
  have e : ws = (List.range ws.length).map fun c => ws.getD c 0 := by
    refine List.ext_getElem? fun c => ?_
    rw [List.getElem?_map]
    by_cases h : c < ws.length
    · rw [List.getElem?_range h, getD_of h]
      rfl
    · rw [List.getElem?_eq_none (by omega), List.getElem?_eq_none (by rw [List.length_range]; omega)]
      rfl
  unfold ge
  conv => lhs; rw [e]
  rw [List.countP_map, List.countP_eq_length_filter]
  rfl
theorem low_is {S : Nat → Prop} {p : Nat} : ∀ w, (∀ j, w ≤ j → j < p → S j) → ∃ i, i ≤ w ∧ (∀ j, i ≤ j → j < p → S j) ∧ ∀ k, k + 1 = i → ¬ S k
  | 0, h => ⟨0, Nat.le_refl _, h, fun k e => by omega⟩
  | w + 1, h => by
    by_cases c : S w
    · obtain ⟨i, h1, h2, h3⟩ := low_is w (S := S) (p := p) fun j a b => by
        by_cases e : j = w
        · subst e
          exact c
        · exact h j (by omega) b
      exact ⟨i, by omega, h2, h3⟩
    · refine ⟨w + 1, Nat.le_refl _, h, fun k e => ?_⟩
      have : k = w := by omega
      subst this
      exact c
/-- none drives off where there is no crowd -/
theorem parks_all {p : Nat} {ws L : List Nat} (P : Parks p ws L) (hw : ∀ x ∈ ws, x < p) (h : ∀ i, i < p → ge ws i ≤ p - i) : ∀ c, c < ws.length → L.getD c 0 < p := fun c hc => by
  refine Classical.byContradiction fun hn => ?_
  have hL : L.getD c 0 = p := by have := P.hi c hc; omega
  obtain ⟨i, hi, h1, h2⟩ := low_is (S := fun j => ∃ d, d < c ∧ L.getD d 0 = j) (p := p) (ws.getD c 0) fun j a b => P.be c hc j a (by omega)
  have hwc := hw _ (List.mem_of_getElem? (getD_of hc))
  have hip : i < p := by omega
  have hch : ∀ j, ∃ d, i ≤ j → j < p → d < c ∧ L.getD d 0 = j := fun j => by
    by_cases a : i ≤ j
    · by_cases b : j < p
      · obtain ⟨d, hd⟩ := h1 j a b
        exact ⟨d, fun _ _ => hd⟩
      · exact ⟨0, fun _ z => absurd z b⟩
    · exact ⟨0, fun z => absurd z a⟩
  have hf := fun j => Classical.choose_spec (hch j)
  generalize (fun j => Classical.choose (hch j)) = f at hf
  have hf2 : ∃ f : Nat → Nat, ∀ j, i ≤ j → j < p → f j < c ∧ L.getD (f j) 0 = j := ⟨fun j => Classical.choose (hch j), hf⟩
  obtain ⟨f, hf⟩ := hf2
  have hnd : (c :: (List.range' i (p - i)).map f).Nodup := by
    refine List.nodup_cons.mpr ⟨fun hm => ?_, ?_⟩
    · obtain ⟨j, hj, e⟩ := List.mem_map.mp hm
      rw [List.mem_range'_1] at hj
      have := (hf j hj.1 (by omega)).1
      omega
    · refine List.Pairwise.map (R := fun a b => a ≠ b ∧ (i ≤ a ∧ a < p) ∧ (i ≤ b ∧ b < p)) f (fun a b hab e => ?_) ?_
      · have h3 := (hf a hab.2.1.1 hab.2.1.2).2
        have h4 := (hf b hab.2.2.1 hab.2.2.2).2
        rw [e] at h3
        exact hab.1 (h3.symm.trans h4)
      · refine List.Pairwise.imp_of_mem (fun {a b} ha hb hab => ⟨hab, ?_, ?_⟩) (List.nodup_range' (s := i) (n := p - i) (step := 1))
        · rw [List.mem_range'_1] at ha; omega
        · rw [List.mem_range'_1] at hb; omega
  have hsub : (c :: (List.range' i (p - i)).map f) ⊆ (List.range ws.length).filter fun c => decide (i ≤ ws.getD c 0) := fun x hx => by
    rw [List.mem_filter, List.mem_range, decide_eq_true_eq]
    rcases List.mem_cons.mp hx with e | hx
    · subst e
      exact ⟨hc, hi⟩
    · obtain ⟨j, hj, e⟩ := List.mem_map.mp hx
      rw [List.mem_range'_1] at hj
      obtain ⟨h3, h4⟩ := hf j hj.1 (by omega)
      subst e
      refine ⟨by omega, Nat.le_of_not_lt fun hlt => ?_⟩
      obtain ⟨d, hd, e⟩ := P.be (f j) (by omega) (i - 1) (by omega) (by omega)
      exact h2 (i - 1) (by omega) ⟨d, by omega, e⟩
  have h3 := hnd.length_le_of_subset hsub
  rw [← ge_filter, List.length_cons, List.length_map, List.length_range'] at h3
  have := h i hip
  omega
/-- where none drives off there is no crowd -/
theorem parks_no {p : Nat} {ws L : List Nat} (P : Parks p ws L) (h : ∀ c, c < ws.length → L.getD c 0 < p) : ∀ i, i < p → ge ws i ≤ p - i := fun i hi => by
  rw [ge_filter]
  have hnd : (((List.range ws.length).filter fun c => decide (i ≤ ws.getD c 0)).map fun c => L.getD c 0).Nodup := by
    refine List.Pairwise.map (R := fun a b => a ≠ b ∧ a < ws.length ∧ b < ws.length) _ (fun a b hab e => hab.1 (parks_inj P hab.2.1 hab.2.2 (h a hab.2.1) e)) ?_
    refine List.Pairwise.imp_of_mem (fun {a b} ha hb hab => ⟨hab, ?_, ?_⟩) (List.nodup_range.filter _)
    · exact List.mem_range.mp (List.mem_filter.mp ha).1
    · exact List.mem_range.mp (List.mem_filter.mp hb).1
  have hsub : (((List.range ws.length).filter fun c => decide (i ≤ ws.getD c 0)).map fun c => L.getD c 0) ⊆ List.range' i (p - i) := fun x hx => by
    obtain ⟨c, hc, e⟩ := List.mem_map.mp hx
    subst e
    obtain ⟨h1, h2⟩ := List.mem_filter.mp hc
    have h3 := List.mem_range.mp h1
    have h4 := P.lo c h3
    have h5 := h c h3
    have h6 := of_decide_eq_true h2
    rw [List.mem_range'_1]
    omega
  have h3 := hnd.length_le_of_subset hsub
  rw [List.length_map, List.length_range'] at h3
  exact h3
/-! ### the standing that they lead to -/
def stdK (L : List Nat) : Nat → List Nat
  | 0 => List.replicate L.length 0
  | k + 1 => (stdK L k).set (L.getD k 0) k
theorem stdK_len (L : List Nat) : ∀ k, (stdK L k).length = L.length
  | 0 => by unfold stdK; rw [List.length_replicate]
  | k + 1 => by unfold stdK; rw [List.length_set, stdK_len L k]
def stdOf (L : List Nat) : List Nat := stdK L L.length
structure PermL (L : List Nat) : Prop where
  lo : ∀ c, c < L.length → L.getD c 0 < L.length
  ij : ∀ c d, c < L.length → d < L.length → L.getD c 0 = L.getD d 0 → c = d
theorem stdK_get {L : List Nat} (h : PermL L) : ∀ k, k ≤ L.length → ∀ c, c < k → (stdK L k)[L.getD c 0]? = some c
  | k + 1, hk, c, hc => by
    unfold stdK
    by_cases e : c = k
    · subst e
      rw [List.getElem?_set_self (by rw [stdK_len]; exact h.lo c hk)]
    · rw [List.getElem?_set_ne (fun q => e (h.ij k c hk (by omega) q).symm)]
      exact stdK_get h k (by omega) c (by omega)
theorem permL_nd {L : List Nat} (h : PermL L) : L.Nodup := by
  rw [List.Nodup, List.pairwise_iff_getElem]
  intro i j hi hj hij e
  have := h.ij i j hi hj (by rw [List.getD_eq_getElem?_getD, List.getD_eq_getElem?_getD, List.getElem?_eq_getElem hi, List.getElem?_eq_getElem hj]; exact congrArg (fun z => (some z).getD 0) e)
  omega
theorem permL_st {L : List Nat} (h : PermL L) : IsSt L := ⟨fun x hx => by
  obtain ⟨c, hc, e⟩ := List.mem_iff_getElem.mp hx
  have := h.lo c hc
  rw [List.getD_eq_getElem?_getD, List.getElem?_eq_getElem hc] at this
  rw [← e]
  exact this, permL_nd h⟩
theorem stdOf_len (L : List Nat) : (stdOf L).length = L.length := stdK_len L _
theorem stdOf_at {L : List Nat} (h : PermL L) {c : Nat} (hc : c < L.length) : (stdOf L).getD (L.getD c 0) 0 = c := by
  have g := stdK_get h L.length (Nat.le_refl _) c hc
  unfold stdOf
  rw [List.getD_eq_getElem?_getD, g]
  rfl
/-- every place is taken -/
theorem stdOf_has {L : List Nat} (h : PermL L) {x : Nat} (hx : x < L.length) : ∃ c, c < L.length ∧ L.getD c 0 = x ∧ (stdOf L).getD x 0 = c := by
  obtain ⟨c, hc, e⟩ := st_has (permL_st h) hx
  refine ⟨c, hc, e, ?_⟩
  rw [← e, stdOf_at h hc]
theorem stdOf_st {L : List Nat} (h : PermL L) : IsSt (stdOf L) := by
  refine permL_st ⟨fun x hx => ?_, fun x y hx hy e => ?_⟩
  · rw [stdOf_len] at hx ⊢
    obtain ⟨c, hc, _, e2⟩ := stdOf_has h hx
    omega
  · rw [stdOf_len] at hx hy
    obtain ⟨c, hc, e1, e2⟩ := stdOf_has h hx
    obtain ⟨d, hd, e3, e4⟩ := stdOf_has h hy
    rw [e2, e4] at e
    subst e
    omega
theorem full_perm {ws : List Nat} (F : Full ws) : Parks ws.length ws (whereL ws.length ws) ∧ PermL (whereL ws.length ws) := by
  have P := parks (p := ws.length) (ws := ws) F.lo
  have A := parks_all P F.lo F.no
  refine ⟨P, fun c hc => ?_, fun c d hc hd e => ?_⟩
  · rw [P.len] at hc ⊢
    exact A c hc
  · rw [P.len] at hc hd
    exact parks_inj P hc hd (A c hc) e
/-- each wish is from its place's reach on -/
theorem full_reach {ws : List Nat} (F : Full ws) {c : Nat} (hc : c < ws.length) : reach (stdOf (whereL ws.length ws)) ((whereL ws.length ws).getD c 0) ≤ ws.getD c 0 := by
  obtain ⟨P, L⟩ := full_perm F
  refine Nat.le_of_not_lt fun hlt => ?_
  have h1 := reach_le (stdOf (whereL ws.length ws)) ((whereL ws.length ws).getD c 0)
  have h2 := back_ge (st := stdOf (whereL ws.length ws)) (x := (stdOf (whereL ws.length ws)).getD ((whereL ws.length ws).getD c 0) 0) ((whereL ws.length ws).getD c 0) (by unfold reach at hlt; omega)
  have h3 : (stdOf (whereL ws.length ws)).getD ((whereL ws.length ws).getD c 0) 0 = c := stdOf_at L (by rw [P.len]; exact hc)
  have h4 : c ≤ (stdOf (whereL ws.length ws)).getD (reach (stdOf (whereL ws.length ws)) ((whereL ws.length ws).getD c 0) - 1) 0 := by unfold reach; rw [h3] at h2 ⊢; exact h2
  obtain ⟨d, hd, e⟩ := P.be c hc (reach (stdOf (whereL ws.length ws)) ((whereL ws.length ws).getD c 0) - 1) (by omega) (by omega)
  have h5 : (stdOf (whereL ws.length ws)).getD (reach (stdOf (whereL ws.length ws)) ((whereL ws.length ws).getD c 0) - 1) 0 = d := by
    rw [← e]
    exact stdOf_at L (by rw [P.len]; omega)
  omega
end Pk
namespace Pk
/-! ### a list of steps ahead to the first free place -/
/-- ah leads each x on to nf x -/
structure Fr (n : Nat) (nf d : Nat → Nat) (ah : List Nat) : Prop where
  len : ah.length = n
  lt : ∀ x, x < n → ah.getD x 0 < n
  eq : ∀ x, x < n → (ah.getD x 0 = x ↔ nf x = x)
  on : ∀ x, x < n → nf (ah.getD x 0) = nf x
  ds : ∀ x, x < n → ah.getD x 0 ≠ x → d (ah.getD x 0) < d x
  nn : ∀ x, x < n → nf x < n ∧ nf (nf x) = nf x ∧ (nf x ≠ x → d (nf x) < d x)
  bd : ∀ x, x < n → d x ≤ n
theorem getD_set_self {ah : List Nat} {x v : Nat} (h : x < ah.length) : (ah.set x v).getD x 0 = v := by
  rw [List.getD_eq_getElem?_getD, List.getElem?_set_self h]
  rfl
theorem getD_set_ne {ah : List Nat} {x y v : Nat} (h : x ≠ y) : (ah.set x v).getD y 0 = ah.getD y 0 := by
  rw [List.getD_eq_getElem?_getD, List.getElem?_set_ne h, List.getD_eq_getElem?_getD]
/-- shortened -/
theorem Fr.cut {n : Nat} {nf d : Nat → Nat} {ah : List Nat} (F : Fr n nf d ah) {x : Nat} (hx : x < n) (hn : nf x ≠ x) : Fr n nf d (ah.set x (nf x)) := by
  have N := F.nn x hx
  have hl := F.len
  have key : ∀ y, (ah.set x (nf x)).getD y 0 = if y = x then nf x else ah.getD y 0 := fun y => by
    by_cases e : y = x
    · rw [if_pos e, e]
      exact getD_set_self (by omega)
    · rw [if_neg e]
      exact getD_set_ne (fun q => e q.symm)
  refine ⟨by rw [List.length_set, hl], fun y hy => ?_, fun y hy => ?_, fun y hy => ?_, fun y hy hne => ?_, F.nn, F.bd⟩
  · rw [key y]
    by_cases e : y = x
    · rw [if_pos e]; exact N.1
    · rw [if_neg e]; exact F.lt y hy
  · rw [key y]
    by_cases e : y = x
    · rw [if_pos e, e]
    · rw [if_neg e]; exact F.eq y hy
  · rw [key y]
    by_cases e : y = x
    · rw [if_pos e, e]; exact N.2.1
    · rw [if_neg e]; exact F.on y hy
  · rw [key y] at hne ⊢
    by_cases e : y = x
    · rw [if_pos e, e]; exact N.2.2 hn
    · rw [if_neg e] at hne ⊢; exact F.ds y hy hne
/-! ### around a ring -/
def rdist (occ : List Nat) (p x : Nat) : Nat := (List.range p).findIdx fun k => decide ((x + k) % p ∉ occ)
def rnf (occ : List Nat) (p x : Nat) : Nat := (x + rdist occ p x) % p
/-- the first free place is k away -/
def Fst (occ : List Nat) (p x k : Nat) : Prop := (∀ j, j < k → (x + j) % p ∈ occ) ∧ (x + k) % p ∉ occ
theorem fst_uniq {occ : List Nat} {p x k k' : Nat} (h : Fst occ p x k) (h' : Fst occ p x k') : k = k' := by
  rcases Nat.lt_trichotomy k k' with c | c | c
  · exact absurd (h'.1 k c) h.2
  · exact c
  · exact absurd (h.1 k' c) h'.2
def HasFree (occ : List Nat) (p : Nat) : Prop := ∃ g, g < p ∧ g ∉ occ
theorem reach_by {p x g : Nat} (hx : x < p) (hg : g < p) : ∃ k, k < p ∧ (x + k) % p = g := by
  by_cases c : x ≤ g
  · exact ⟨g - x, by omega, by rw [show x + (g - x) = g by omega]; exact Nat.mod_eq_of_lt hg⟩
  · refine ⟨g + p - x, by omega, ?_⟩
    rw [show x + (g + p - x) = g + p by omega, Nat.add_mod_right]
    exact Nat.mod_eq_of_lt hg
theorem rdist_spec {occ : List Nat} {p x : Nat} (F : HasFree occ p) (hx : x < p) : rdist occ p x < p ∧ Fst occ p x (rdist occ p x) := by
  obtain ⟨g, hg, hf⟩ := F
  obtain ⟨k, hk, e⟩ := reach_by hx hg
  have h1 : rdist occ p x < (List.range p).length := by
    unfold rdist
    refine List.findIdx_lt_length_of_exists ⟨k, List.mem_range.mpr hk, ?_⟩
    rw [decide_eq_true_eq, e]
    exact hf
  have h2 := h1
  rw [List.length_range] at h2
  refine ⟨h2, fun j hj => ?_, ?_⟩
  · have h3 := List.not_of_lt_findIdx (p := fun k => decide ((x + k) % p ∉ occ)) (xs := List.range p) (i := j) hj
    rw [List.getElem_range] at h3
    simpa using h3
  · have h3 := List.findIdx_getElem (p := fun k => decide ((x + k) % p ∉ occ)) (xs := List.range p) (w := h1)
    have h4 := of_decide_eq_true h3
    have e : (List.range p)[rdist occ p x]'h1 = rdist occ p x := List.getElem_range h1
    exact fun hm => h4 (by show (x + (List.range p)[rdist occ p x]'h1) % p ∈ occ; rw [e]; exact hm)
theorem rdist_is {occ : List Nat} {p x k : Nat} (F : HasFree occ p) (hx : x < p) (h : Fst occ p x k) : rdist occ p x = k := fst_uniq (rdist_spec F hx).2 h
theorem rnf_lt {occ : List Nat} {p x : Nat} (hp : 0 < p) : rnf occ p x < p := Nat.mod_lt _ hp
theorem rnf_free {occ : List Nat} {p x : Nat} (F : HasFree occ p) (hx : x < p) : rnf occ p x ∉ occ := (rdist_spec F hx).2.2
theorem fst_zero {occ : List Nat} {p x : Nat} (hx : x < p) (h : x ∉ occ) : Fst occ p x 0 := ⟨fun j hj => absurd hj (Nat.not_lt_zero j), by rw [Nat.add_zero, Nat.mod_eq_of_lt hx]; exact h⟩
theorem rdist_zero {occ : List Nat} {p x : Nat} (F : HasFree occ p) (hx : x < p) : rdist occ p x = 0 ↔ x ∉ occ := by
  constructor
  · intro h
    have := (rdist_spec F hx).2.2
    rw [h, Nat.add_zero, Nat.mod_eq_of_lt hx] at this
    exact this
  · exact fun h => rdist_is F hx (fst_zero hx h)
theorem rnf_self {occ : List Nat} {p x : Nat} (F : HasFree occ p) (hx : x < p) : rnf occ p x = x ↔ x ∉ occ := by
  constructor
  · intro h
    have := rnf_free F hx
    rw [h] at this
    exact this
  · intro h
    unfold rnf
    rw [(rdist_zero F hx).mpr h, Nat.add_zero, Nat.mod_eq_of_lt hx]
/-- one step on -/
theorem rdist_step {occ : List Nat} {p x : Nat} (F : HasFree occ p) (hx : x < p) (h : x ∈ occ) : rdist occ p x = rdist occ p ((x + 1) % p) + 1 := by
  have hp : 0 < p := by omega
  have h2 := (rdist_spec F (x := (x + 1) % p) (Nat.mod_lt _ hp)).2
  refine rdist_is F hx ⟨fun j hj => ?_, ?_⟩
  · cases j with
    | zero => rw [Nat.add_zero, Nat.mod_eq_of_lt hx]; exact h
    | succ j =>
      have h3 := h2.1 j (by omega)
      rw [Nat.mod_add_mod, show x + 1 + j = x + (j + 1) by omega] at h3
      exact h3
  · have h3 := h2.2
    rw [Nat.mod_add_mod, show x + 1 + rdist occ p ((x + 1) % p) = x + (rdist occ p ((x + 1) % p) + 1) by omega] at h3
    exact h3
theorem rnf_step {occ : List Nat} {p x : Nat} (F : HasFree occ p) (hx : x < p) (h : x ∈ occ) : rnf occ p x = rnf occ p ((x + 1) % p) := by
  unfold rnf
  rw [rdist_step F hx h, Nat.mod_add_mod]
  congr 1
  omega
/-- a place more is taken -/
theorem rdist_more {occ : List Nat} {p f x : Nat} (F2 : HasFree (occ ++ [f]) p) (hx : x < p) (hf : f < p) (hff : f ∉ occ) :
    rdist (occ ++ [f]) p x = if rnf occ p x = f then rdist occ p x + 1 + rdist (occ ++ [f]) p ((f + 1) % p) else rdist occ p x := by
  have F : HasFree occ p := ⟨f, hf, hff⟩
  have hp : 0 < p := by omega
  have h1 := (rdist_spec F hx).2
  by_cases e : rnf occ p x = f
  · rw [if_pos e]
    have h2 := (rdist_spec F2 (x := (f + 1) % p) (Nat.mod_lt _ hp)).2
    have key : ∀ i, ((f + 1) % p + i) % p = (x + (rdist occ p x + 1 + i)) % p := fun i => by
      have e2 : f = (x + rdist occ p x) % p := e.symm
      rw [e2, Nat.mod_add_mod, show (x + rdist occ p x) % p + 1 + i = (x + rdist occ p x) % p + (1 + i) by omega, Nat.mod_add_mod]
      congr 1
      omega
    refine rdist_is F2 hx ⟨fun j hj => ?_, ?_⟩
    · by_cases c : j < rdist occ p x
      · exact List.mem_append_left _ (h1.1 j c)
      · by_cases c2 : j = rdist occ p x
        · rw [c2]
          have e2 : (x + rdist occ p x) % p = f := e
          rw [e2]
          exact List.mem_append_right _ (List.mem_singleton.mpr rfl)
        · have := h2.1 (j - (rdist occ p x + 1)) (by omega)
          rw [key, show rdist occ p x + 1 + (j - (rdist occ p x + 1)) = j by omega] at this
          exact this
    · have := h2.2
      rw [key] at this
      exact this
  · rw [if_neg e]
    refine rdist_is F2 hx ⟨fun j hj => List.mem_append_left _ (h1.1 j hj), fun hm => ?_⟩
    rcases List.mem_append.mp hm with hm | hm
    · exact h1.2 hm
    · exact e (List.mem_singleton.mp hm)
theorem rnf_more {occ : List Nat} {p f x : Nat} (F2 : HasFree (occ ++ [f]) p) (hx : x < p) (hf : f < p) (hff : f ∉ occ) :
    rnf (occ ++ [f]) p x = if rnf occ p x = f then rnf (occ ++ [f]) p ((f + 1) % p) else rnf occ p x := by
  have e := rdist_more F2 hx hf hff
  by_cases c : rnf occ p x = f
  · rw [if_pos c] at e ⊢
    show (x + rdist (occ ++ [f]) p x) % p = ((f + 1) % p + rdist (occ ++ [f]) p ((f + 1) % p)) % p
    have e2 : f = (x + rdist occ p x) % p := c.symm
    rw [e]
    conv => rhs; arg 1; arg 1; rw [e2, Nat.mod_add_mod]
    rw [Nat.mod_add_mod]
    congr 1
    omega
  · rw [if_neg c] at e ⊢
    show (x + rdist (occ ++ [f]) p x) % p = _
    rw [e]
    rfl
theorem range_get {p x : Nat} (h : x < p) : (List.range p).getD x 0 = x := by
  rw [List.getD_eq_getElem?_getD, List.getElem?_range h]
  rfl
theorem fr_start {p : Nat} : Fr p (rnf [] p) (rdist [] p) (List.range p) := by
  have nil : ∀ x, x < p → rnf [] p x = x ∧ rdist [] p x = 0 := fun x hx =>
    ⟨(rnf_self ⟨x, hx, by simp⟩ hx).mpr (by simp), (rdist_zero ⟨x, hx, by simp⟩ hx).mpr (by simp)⟩
  refine ⟨List.length_range, fun x hx => by rw [range_get hx]; exact hx, fun x hx => ?_, fun x hx => by rw [range_get hx], fun x hx h => absurd (range_get hx) h, fun x hx => ?_, fun x hx => by rw [(nil x hx).2]; exact Nat.zero_le _⟩
  · rw [range_get hx, (nil x hx).1]
  · rw [(nil x hx).1]
    exact ⟨hx, (nil x hx).1, fun h => absurd rfl h⟩
theorem fr_more {occ ah : List Nat} {p f : Nat} (R : Fr p (rnf occ p) (rdist occ p) ah) (F2 : HasFree (occ ++ [f]) p) (hf : f < p) (hff : f ∉ occ) : Fr p (rnf (occ ++ [f]) p) (rdist (occ ++ [f]) p) (ah.set f ((f + 1) % p)) := by
  have F : HasFree occ p := ⟨f, hf, hff⟩
  have hp : 0 < p := by omega
  have hl := R.len
  have hmf : f ∈ occ ++ [f] := List.mem_append_right _ (List.mem_singleton.mpr rfl)
  have hne1 : (f + 1) % p ≠ f := fun e => by
    obtain ⟨g, hg, hgf⟩ := F2
    have : g ≠ f := fun e2 => hgf (e2 ▸ hmf)
    by_cases c : f + 1 < p
    · rw [Nat.mod_eq_of_lt c] at e; omega
    · have : f + 1 = p := by omega
      rw [this, Nat.mod_self] at e
      omega
  have key : ∀ y, (ah.set f ((f + 1) % p)).getD y 0 = if y = f then (f + 1) % p else ah.getD y 0 := fun y => by
    by_cases e : y = f
    · rw [if_pos e, e]
      exact getD_set_self (by omega)
    · rw [if_neg e]
      exact getD_set_ne (fun q => e q.symm)
  refine ⟨by rw [List.length_set, hl], fun y hy => ?_, fun y hy => ?_, fun y hy => ?_, fun y hy hne => ?_, fun y hy => ?_, fun y hy => Nat.le_of_lt (rdist_spec F2 hy).1⟩
  · rw [key y]
    by_cases e : y = f
    · rw [if_pos e]; exact Nat.mod_lt _ hp
    · rw [if_neg e]; exact R.lt y hy
  · rw [key y, rnf_self F2 hy]
    by_cases e : y = f
    · rw [if_pos e, e]
      exact ⟨fun h => absurd h hne1, fun h => absurd hmf h⟩
    · rw [if_neg e, R.eq y hy, rnf_self F hy]
      simp [e]
  · rw [key y]
    by_cases e : y = f
    · rw [if_pos e, e]
      exact (rnf_step F2 hf hmf).symm
    · rw [if_neg e, rnf_more F2 (R.lt y hy) hf hff, rnf_more F2 hy hf hff, R.on y hy]
  · rw [key y] at hne ⊢
    by_cases e : y = f
    · rw [if_pos e, e, rdist_step F2 hf hmf]
      exact Nat.lt_succ_self _
    · rw [if_neg e] at hne ⊢
      have h := R.ds y hy hne
      rw [rdist_more F2 (R.lt y hy) hf hff, rdist_more F2 hy hf hff, R.on y hy]
      split <;> omega
  · have h1 := rnf_free F2 hy
    have h2 := rnf_lt (occ := occ ++ [f]) (x := y) hp
    refine ⟨h2, (rnf_self F2 h2).mpr h1, fun hne => ?_⟩
    rw [(rdist_zero F2 h2).mpr h1]
    refine Nat.pos_of_ne_zero fun h0 => hne ?_
    exact (rnf_self F2 hy).mpr ((rdist_zero F2 hy).mp h0)
/-- where all stand around a ring -/
def whereR (p : Nat) (ws : List Nat) : List Nat := ws.foldl (fun acc w => acc ++ [rnf acc p w]) []
theorem whereR_snoc (p : Nat) (ws : List Nat) (w : Nat) : whereR p (ws ++ [w]) = whereR p ws ++ [rnf (whereR p ws) p w] := by
  unfold whereR
  rw [List.foldl_append]
  rfl
theorem whereR_len (p : Nat) : ∀ ws : List Nat, (whereR p ws).length = ws.length := by
  refine snoc_ind rfl fun r w ih => ?_
  rw [whereR_snoc, List.length_append, List.length_append, ih]
  rfl
theorem has_free {occ : List Nat} {p : Nat} (h : occ.length < p) : HasFree occ p := by
  refine Classical.byContradiction fun hn => ?_
  have hsub : List.range p ⊆ occ := fun x hx => by
    refine Classical.byContradiction fun hm => hn ⟨x, List.mem_range.mp hx, hm⟩
  have := (List.nodup_range (n := p)).length_le_of_subset hsub
  rw [List.length_range] at this
  omega
end Pk
namespace Pk
/-! ### trees: children, the queue -/
def chlK (ps : List Nat) (i v : Nat) : List Nat := ((List.range i).filter fun c => decide (ps.getD c 0 = v)).map (· + 1)
def chl (ps : List Nat) (v : Nat) : List Nat := chlK ps ps.length v
theorem chlK_zero (ps : List Nat) (v : Nat) : chlK ps 0 v = [] := rfl
theorem chlK_succ (ps : List Nat) (i v : Nat) : chlK ps (i + 1) v = if ps.getD i 0 = v then chlK ps i v ++ [i + 1] else chlK ps i v := by
  unfold chlK
  rw [List.range_succ, List.filter_append, List.map_append]
  by_cases h : ps.getD i 0 = v
  · rw [if_pos h, List.filter_cons, if_pos (decide_eq_true h)]
    rfl
  · rw [if_neg h, List.filter_cons, if_neg (by rw [decide_eq_false h]; decide)]
    simp
theorem mem_chl {ps : List Nat} {v x : Nat} : x ∈ chl ps v ↔ ∃ c, c < ps.length ∧ ps.getD c 0 = v ∧ c + 1 = x := by
  unfold chl chlK
  rw [List.mem_map]
  constructor
  · rintro ⟨c, hc, e⟩
    obtain ⟨h1, h2⟩ := List.mem_filter.mp hc
    exact ⟨c, List.mem_range.mp h1, of_decide_eq_true h2, e⟩
  · rintro ⟨c, h1, h2, e⟩
    exact ⟨c, List.mem_filter.mpr ⟨List.mem_range.mpr h1, decide_eq_true h2⟩, e⟩
theorem chl_nd (ps : List Nat) (v : Nat) : (chl ps v).Nodup := by
  unfold chl chlK
  refine List.Pairwise.map _ (fun a b hab e => hab (by omega)) (List.nodup_range.filter _)
theorem chl_len (ps : List Nat) (v : Nat) : (chl ps v).length = ps.count v := by
  unfold chl chlK
  rw [List.length_map]
  have e : ps = (List.range ps.length).map fun c => ps.getD c 0 := by
    refine List.ext_getElem? fun c => ?_
    rw [List.getElem?_map]
    by_cases h : c < ps.length
    · rw [List.getElem?_range h, getD_of h]
      rfl
    · rw [List.getElem?_eq_none (by omega), List.getElem?_eq_none (by rw [List.length_range]; omega)]
      rfl
  conv => rhs; rw [e]
  rw [List.count_eq_countP, List.countP_map, List.countP_eq_length_filter]
  congr 1
def qw (ps : List Nat) : Nat → List Nat
  | 0 => [0]
  | k + 1 => qw ps k ++ (if k < (qw ps k).length then chl ps ((qw ps k).getD k 0) else [])
theorem qw_yes {ps : List Nat} {k : Nat} (h : k < (qw ps k).length) : qw ps (k + 1) = qw ps k ++ chl ps ((qw ps k).getD k 0) := by
  show qw ps k ++ _ = _
  rw [if_pos h]
theorem qw_no {ps : List Nat} {k : Nat} (h : ¬ k < (qw ps k).length) : qw ps (k + 1) = qw ps k := by
  show qw ps k ++ _ = _
  rw [if_neg h, List.append_nil]
theorem qw_pre {ps : List Nat} {k : Nat} : ∀ j, qw ps k <+: qw ps (k + j)
  | 0 => List.prefix_rfl
  | j + 1 => (qw_pre j).trans (by show qw ps (k + j) <+: qw ps (k + j + 1); exact ⟨_, rfl⟩)
theorem qw_get {ps : List Nat} {k k' i : Nat} (h : k ≤ k') (hi : i < (qw ps k).length) : (qw ps k').getD i 0 = (qw ps k).getD i 0 := by
  obtain ⟨t, ht⟩ := qw_pre (ps := ps) (k := k) (k' - k)
  rw [show k + (k' - k) = k' by omega] at ht
  rw [← ht, List.getD_eq_getElem?_getD, List.getElem?_append_left hi, List.getD_eq_getElem?_getD]
theorem qw_stop {ps : List Nat} {k : Nat} (h : (qw ps k).length ≤ k) : ∀ j, qw ps (k + j) = qw ps k
  | 0 => rfl
  | j + 1 => by
    have e := qw_stop h j
    rw [show k + (j + 1) = (k + j) + 1 by omega, qw_no (by rw [e]; omega), e]
structure QI (ps : List Nat) (k : Nat) : Prop where
  nd : (qw ps k).Nodup
  le : ∀ x ∈ qw ps k, x ≤ ps.length
  up : ∀ x ∈ qw ps k, x ≠ 0 → ∃ j, j < k ∧ j < (qw ps k).length ∧ (qw ps k).getD j 0 = ps.getD (x - 1) 0
theorem nd_get {l : List Nat} (h : l.Nodup) {i j : Nat} (hi : i < l.length) (hj : j < l.length) (e : l.getD i 0 = l.getD j 0) : i = j := by
  rw [List.getD_eq_getElem?_getD, List.getD_eq_getElem?_getD, List.getElem?_eq_getElem hi, List.getElem?_eq_getElem hj] at e
  exact (List.getElem_inj h).mp e
theorem qi (ps : List Nat) : ∀ k, QI ps k
  | 0 => ⟨by simp [qw], fun x hx => by have : x = 0 := by simpa [qw] using hx
                                       omega, fun x hx h => absurd (by simpa [qw] using hx) h⟩
  | k + 1 => by
    obtain ⟨h1, h2, h3⟩ := qi ps k
    by_cases c : k < (qw ps k).length
    · have e := qw_yes c
      have old : ∀ j, j < (qw ps k).length → (qw ps (k + 1)).getD j 0 = (qw ps k).getD j 0 := fun j hj => qw_get (Nat.le_succ k) hj
      have hle : (qw ps k).length ≤ (qw ps (k + 1)).length := by rw [e, List.length_append]; omega
      refine ⟨?_, fun x hx => ?_, fun x hx h0 => ?_⟩
      · rw [e]
        refine List.nodup_append.mpr ⟨h1, chl_nd _ _, fun x hx y hy hxy => ?_⟩
        subst hxy
        obtain ⟨d, hd, hd2, rfl⟩ := mem_chl.mp hy
        obtain ⟨j, hj1, hj2, hj3⟩ := h3 (d + 1) hx (by omega)
        rw [show d + 1 - 1 = d by omega, hd2] at hj3
        have := nd_get h1 hj2 c hj3
        omega
      · rw [e] at hx
        rcases List.mem_append.mp hx with hx | hx
        · exact h2 x hx
        · obtain ⟨d, hd, _, rfl⟩ := mem_chl.mp hx
          omega
      · rw [e] at hx
        rcases List.mem_append.mp hx with hx | hx
        · obtain ⟨j, hj1, hj2, hj3⟩ := h3 x hx h0
          exact ⟨j, by omega, by omega, by rw [old j hj2, hj3]⟩
        · obtain ⟨d, hd, hd2, rfl⟩ := mem_chl.mp hx
          exact ⟨k, by omega, by omega, by rw [old k c, show d + 1 - 1 = d by omega, hd2]⟩
    · have e := qw_no c
      refine ⟨by rw [e]; exact h1, fun x hx => h2 x (by rw [← e]; exact hx), fun x hx h0 => ?_⟩
      rw [e] at hx ⊢
      obtain ⟨j, hj1, hj2, hj3⟩ := h3 x hx h0
      exact ⟨j, by omega, hj2, hj3⟩
theorem qw_len (ps : List Nat) (k : Nat) : (qw ps k).length ≤ ps.length + 1 := by
  have h := (qi ps k).nd.length_le_of_subset (l₂ := List.range (ps.length + 1)) fun x hx => List.mem_range.mpr (Nat.lt_succ_of_le ((qi ps k).le x hx))
  rw [List.length_range] at h
  exact h
/-- all that come from the root -/
def qAll (ps : List Nat) : List Nat := qw ps (ps.length + 1)
theorem qAll_stop {ps : List Nat} {k : Nat} (hk : k ≤ ps.length + 1) (h : (qw ps k).length ≤ k) : qw ps k = qAll ps := by
  have := qw_stop h (ps.length + 1 - k)
  rw [show k + (ps.length + 1 - k) = ps.length + 1 by omega] at this
  exact this.symm
theorem qAll_lt {ps : List Nat} {k : Nat} (h : k < (qAll ps).length) : k < (qw ps k).length := by
  refine Nat.lt_of_not_le fun hn => ?_
  have h1 := qw_len ps (ps.length + 1)
  have h2 : (qAll ps).length ≤ ps.length + 1 := h1
  have e := qAll_stop (ps := ps) (k := k) (by omega) hn
  rw [e] at hn
  omega
theorem qAll_get {ps : List Nat} {k i : Nat} (hk : k ≤ ps.length + 1) (hi : i < (qw ps k).length) : (qAll ps).getD i 0 = (qw ps k).getD i 0 := qw_get hk hi
theorem qAll_closed {ps : List Nat} {v x : Nat} (hv : v ∈ qAll ps) (hx : x ∈ chl ps v) : x ∈ qAll ps := by
  obtain ⟨j, hj, e⟩ := List.mem_iff_getElem.mp hv
  have h1 := qAll_lt hj
  have h2 := qw_len ps (ps.length + 1)
  have h3 : (qAll ps).length ≤ ps.length + 1 := h2
  have g := qAll_get (ps := ps) (k := j) (i := j) (by omega) h1
  rw [List.getD_eq_getElem?_getD, List.getElem?_eq_getElem hj] at g
  have g2 : (qw ps j).getD j 0 = v := by rw [← g]; exact e
  have e2 := qw_yes h1
  rw [g2] at e2
  obtain ⟨t, ht⟩ := qw_pre (ps := ps) (k := j + 1) (ps.length + 1 - (j + 1))
  rw [show j + 1 + (ps.length + 1 - (j + 1)) = ps.length + 1 by omega] at ht
  show x ∈ qw ps (ps.length + 1)
  rw [← ht, e2]
  exact List.mem_append_left _ (List.mem_append_right _ hx)
theorem qAll_root (ps : List Nat) : 0 ∈ qAll ps := by
  obtain ⟨t, ht⟩ := qw_pre (ps := ps) (k := 0) (ps.length + 1)
  rw [Nat.zero_add] at ht
  show 0 ∈ qw ps (ps.length + 1)
  rw [← ht]
  exact List.mem_append_left _ (by simp [qw])
/-- each car is beneath one that is nearer to the root -/
structure Ranked (ps : List Nat) (r : Nat → Nat) : Prop where
  le : ∀ c, c < ps.length → ps.getD c 0 ≤ ps.length
  lt : ∀ c, c < ps.length → r (ps.getD c 0) < r (c + 1)
theorem ranked_all {ps : List Nat} {r : Nat → Nat} (R : Ranked ps r) : ∀ v, v ≤ ps.length → v ∈ qAll ps := by
  have key : ∀ m v, r v ≤ m → v ≤ ps.length → v ∈ qAll ps := by
    intro m
    induction m with
    | zero =>
      intro v hr hv
      cases v with
      | zero => exact qAll_root ps
      | succ c =>
        have := R.lt c hv
        omega
    | succ m ih =>
      intro v hr hv
      cases v with
      | zero => exact qAll_root ps
      | succ c =>
        have h1 := R.lt c hv
        have h2 := ih (ps.getD c 0) (by omega) (R.le c hv)
        exact qAll_closed h2 (mem_chl.mpr ⟨c, hv, rfl, rfl⟩)
  exact fun v hv => key (r v) v (Nat.le_refl _) hv
structure Tr (ps : List Nat) : Prop where
  le : ∀ c, c < ps.length → ps.getD c 0 ≤ ps.length
  all : ∀ v, v ≤ ps.length → v ∈ qAll ps
theorem Tr.len {ps : List Nat} (T : Tr ps) : (qAll ps).length = ps.length + 1 := by
  have h := (List.nodup_range (n := ps.length + 1)).length_le_of_subset (l₂ := qAll ps) fun x hx => T.all x (Nat.le_of_lt_succ (List.mem_range.mp hx))
  rw [List.length_range] at h
  have h2 : (qAll ps).length ≤ ps.length + 1 := qw_len ps (ps.length + 1)
  omega
theorem Tr.perm {ps : List Nat} (T : Tr ps) : PermL (qAll ps) := by
  have h := qi ps (ps.length + 1)
  refine ⟨fun c hc => ?_, fun c d hc hd e => nd_get h.nd hc hd e⟩
  have h1 := h.le _ (List.mem_of_getElem? (getD_of hc))
  have h2 := T.len
  show (qAll ps).getD c 0 < _
  have h3 : (qAll ps).getD c 0 ≤ ps.length := h1
  omega
/-- the turn in which one is served -/
def turnsOf (ps : List Nat) : List Nat := stdOf (qAll ps)
def wishL (ps : List Nat) : List Nat := ps.map fun v => (turnsOf ps).getD v 0
theorem wishL_len (ps : List Nat) : (wishL ps).length = ps.length := by unfold wishL; rw [List.length_map]
theorem wishL_get {ps : List Nat} {c : Nat} (hc : c < ps.length) : (wishL ps).getD c 0 = (turnsOf ps).getD (ps.getD c 0) 0 := by
  unfold wishL
  rw [List.getD_eq_getElem?_getD, List.getElem?_map, getD_of hc]
  rfl
theorem turns_is {ps : List Nat} (T : Tr ps) {v : Nat} (hv : v ≤ ps.length) : (turnsOf ps).getD v 0 < ps.length + 1 ∧ (qAll ps).getD ((turnsOf ps).getD v 0) 0 = v := by
  obtain ⟨c, h1, h2, h3⟩ := stdOf_has T.perm (x := v) (by rw [T.len]; omega)
  rw [T.len] at h1
  show (stdOf (qAll ps)).getD v 0 < _ ∧ _
  unfold turnsOf
  rw [h3]
  exact ⟨h1, h2⟩
theorem turns_at {ps : List Nat} (T : Tr ps) {t : Nat} (ht : t < ps.length + 1) : (turnsOf ps).getD ((qAll ps).getD t 0) 0 = t := stdOf_at T.perm (by rw [T.len]; exact ht)
/-! ### the wishes' own tree -/
def sv (ws : List Nat) : Nat → List Nat
  | 0 => [0]
  | k + 1 => sv ws k ++ chl ws k
def treeL (ws : List Nat) : List Nat := ws.map fun w => (sv ws ws.length).getD w 0
theorem sv_len (ws : List Nat) : ∀ k, (sv ws k).length = 1 + lt ws k
  | 0 => by
    rw [lt_zero]
    rfl
  | k + 1 => by
    show (sv ws k ++ chl ws k).length = _
    rw [List.length_append, sv_len ws k, chl_len, lt_succ]
    omega
theorem sv_pre {ws : List Nat} {k : Nat} : ∀ j, sv ws k <+: sv ws (k + j)
  | 0 => List.prefix_rfl
  | j + 1 => (sv_pre j).trans (by show sv ws (k + j) <+: sv ws (k + j + 1); exact ⟨_, rfl⟩)
theorem sv_get {ws : List Nat} {k k' i : Nat} (h : k ≤ k') (hi : i < (sv ws k).length) : (sv ws k').getD i 0 = (sv ws k).getD i 0 := by
  obtain ⟨t, ht⟩ := sv_pre (ws := ws) (k := k) (k' - k)
  rw [show k + (k' - k) = k' by omega] at ht
  rw [← ht, List.getD_eq_getElem?_getD, List.getElem?_append_left hi, List.getD_eq_getElem?_getD]
theorem wishL_chl {ps : List Nat} (T : Tr ps) {t : Nat} (ht : t < ps.length + 1) : chl (wishL ps) t = chl ps ((qAll ps).getD t 0) := by
  unfold chl chlK
  rw [wishL_len]
  congr 1
  refine List.filter_congr fun c hc => ?_
  have hc2 := List.mem_range.mp hc
  rw [wishL_get hc2, decide_eq_decide]
  have h := turns_is T (T.le c hc2)
  constructor
  · intro e
    rw [← e, h.2]
  · intro e
    rw [e, turns_at T ht]
theorem sv_qw {ps : List Nat} (T : Tr ps) : ∀ k, k ≤ ps.length + 1 → sv (wishL ps) k = qw ps k
  | 0, _ => rfl
  | k + 1, hk => by
    have hlt : k < (qw ps k).length := qAll_lt (by rw [T.len]; omega)
    rw [qw_yes hlt]
    show sv (wishL ps) k ++ chl (wishL ps) k = _
    rw [sv_qw T k (by omega), wishL_chl T (by omega), qAll_get (by omega) hlt]
theorem wishL_full {ps : List Nat} (T : Tr ps) : Full (wishL ps) := by
  have key : ∀ i, i ≤ ps.length → i ≤ lt (wishL ps) i := fun i hi => by
    have h1 : i < (qw ps i).length := qAll_lt (by rw [T.len]; omega)
    rw [← sv_qw T i (by omega), sv_len] at h1
    omega
  have hl : ∀ x ∈ wishL ps, x < ps.length := by
    have h2 : lt (wishL ps) ps.length = (wishL ps).length := by
      have h3 := lt_le (wishL ps) ps.length
      have h4 := key ps.length (Nat.le_refl _)
      rw [wishL_len] at *
      omega
    unfold lt at h2
    rw [List.countP_eq_length] at h2
    intro x hx
    simpa using h2 x hx
  exact ⟨fun x hx => by rw [wishL_len]; exact hl x hx, fun i hi => key i (by rw [wishL_len] at hi; exact hi)⟩
theorem treeL_back {ps : List Nat} (T : Tr ps) : treeL (wishL ps) = ps := by
  have hF := wishL_full T
  refine List.ext_getElem? fun c => ?_
  unfold treeL
  rw [List.getElem?_map]
  by_cases hc : c < ps.length
  · rw [getD_of (ws := wishL ps) (c := c) (by rw [wishL_len]; exact hc), getD_of (ws := ps) hc]
    show some _ = some _
    congr 1
    have h1 := hF.lo _ (List.mem_of_getElem? (getD_of (ws := wishL ps) (c := c) (by rw [wishL_len]; exact hc)))
    have h2 : ps.length < (qw ps ps.length).length := qAll_lt (by rw [T.len]; omega)
    rw [wishL_len] at h1 ⊢
    rw [sv_qw T ps.length (by omega)]
    show (qw ps ps.length).getD ((wishL ps).getD c 0) 0 = _
    rw [← qAll_get (Nat.le_succ _) (by omega), wishL_get hc]
    exact (turns_is T (T.le c hc)).2
  · rw [List.getElem?_eq_none (by rw [wishL_len]; omega), List.getElem?_eq_none (by omega)]
    rfl
/-- some that never come to the root -/
theorem qAll_less {ps : List Nat} {S : List Nat} (h0 : 0 ∉ S) (hc : ∀ x ∈ S, ps.getD (x - 1) 0 ∈ S) {s : Nat} (hs : s ∈ S) (hsn : s ≤ ps.length) : (qAll ps).length ≤ ps.length := by
  have key : ∀ k, ∀ x ∈ qw ps k, x ∉ S := by
    intro k
    induction k with
    | zero =>
      intro x hx
      have : x = 0 := by simpa [qw] using hx
      subst this
      exact h0
    | succ k ih =>
      intro x hx
      by_cases c : k < (qw ps k).length
      · rw [qw_yes c] at hx
        rcases List.mem_append.mp hx with hx | hx
        · exact ih x hx
        · obtain ⟨d, hd, hd2, rfl⟩ := mem_chl.mp hx
          intro hm
          have h1 := hc (d + 1) hm
          rw [show d + 1 - 1 = d by omega, hd2] at h1
          exact ih _ (List.mem_of_getElem? (getD_of c)) h1
      · rw [qw_no c] at hx
        exact ih x hx
  have h := qi ps (ps.length + 1)
  have h1 : (s :: qAll ps).Nodup := List.nodup_cons.mpr ⟨fun hm => key _ s hm hs, h.nd⟩
  have h2 := h1.length_le_of_subset (l₂ := List.range (ps.length + 1)) fun x hx => by
    rcases List.mem_cons.mp hx with e | hx
    · subst e
      exact List.mem_range.mpr (by omega)
    · exact List.mem_range.mpr (Nat.lt_succ_of_le (h.le x hx))
  rw [List.length_range, List.length_cons] at h2
  omega
end Pk
namespace Pk
/-! ### the places that are taken -/
theorem lt_filter (ws : List Nat) (i : Nat) : lt ws i = ((List.range ws.length).filter fun c => decide (ws.getD c 0 < i)).length := by
  have e : ws = (List.range ws.length).map fun c => ws.getD c 0 := by
    refine List.ext_getElem? fun c => ?_
    rw [List.getElem?_map]
    by_cases h : c < ws.length
    · rw [List.getElem?_range h, getD_of h]
      rfl
    · rw [List.getElem?_eq_none (by omega), List.getElem?_eq_none (by rw [List.length_range]; omega)]
      rfl
  unfold lt
  conv => lhs; rw [e]
  rw [List.countP_map, List.countP_eq_length_filter]
  rfl
def wq (ws : List Nat) : Nat → Nat
  | 0 => 0
  | x + 1 => wq ws x + ws.count x - 1
def tkn (ws : List Nat) (p : Nat) : List Nat := (List.range p).filter fun x => decide (0 < wq ws x + ws.count x)
theorem tkn_succ (ws : List Nat) (p : Nat) : tkn ws (p + 1) = if 0 < wq ws p + ws.count p then tkn ws p ++ [p] else tkn ws p := by
  unfold tkn
  rw [List.range_succ, List.filter_append, List.filter_cons]
  by_cases h : 0 < wq ws p + ws.count p
  · rw [if_pos h, if_pos (decide_eq_true h)]
    rfl
  · rw [if_neg h, if_neg (by rw [decide_eq_false h]; decide)]
    simp
theorem tkn_len (ws : List Nat) (p : Nat) : (tkn ws p).length ≤ p := by
  unfold tkn
  have := List.length_filter_le (fun x => decide (0 < wq ws x + ws.count x)) (List.range p)
  rw [List.length_range] at this
  exact this
theorem wq_perm {ws ys : List Nat} (h : ys.Perm ws) : ∀ x, wq ys x = wq ws x
  | 0 => rfl
  | x + 1 => by
    show wq ys x + ys.count x - 1 = wq ws x + ws.count x - 1
    rw [wq_perm h x, h.count_eq]
theorem tkn_perm {ws ys : List Nat} (h : ys.Perm ws) (p : Nat) : tkn ys p = tkn ws p := by
  unfold tkn
  refine List.filter_congr fun x _ => ?_
  rw [wq_perm h x, h.count_eq]
theorem parks_lt_le {p : Nat} {ws L : List Nat} (P : Parks p ws L) (x : Nat) : lt L x ≤ lt ws x := by
  rw [lt_filter, lt_filter]
  refine List.Nodup.length_le_of_subset (List.Pairwise.filter _ List.nodup_range) fun c hc => ?_
  obtain ⟨h1, h2⟩ := List.mem_filter.mp hc
  have h3 := List.mem_range.mp h1
  have h4 := of_decide_eq_true h2
  rw [P.len] at h3
  have h5 := P.lo c h3
  exact List.mem_filter.mpr ⟨List.mem_range.mpr h3, decide_eq_true (by omega)⟩
theorem parks_lt_iff {p : Nat} {ws L : List Nat} (P : Parks p ws L) {x : Nat} : x ∈ L → lt L x < lt ws (x + 1) := fun hx => by
  obtain ⟨c, hc, e⟩ := List.mem_iff_getElem.mp hx
  have hg : L.getD c 0 = x := by rw [List.getD_eq_getElem?_getD, List.getElem?_eq_getElem hc]; exact e
  rw [P.len] at hc
  rw [lt_filter, lt_filter]
  have hnd : (c :: (List.range L.length).filter fun c => decide (L.getD c 0 < x)).Nodup := by
    refine List.nodup_cons.mpr ⟨fun hm => ?_, List.nodup_range.filter _⟩
    have := of_decide_eq_true (List.mem_filter.mp hm).2
    omega
  have h := hnd.length_le_of_subset (l₂ := (List.range ws.length).filter fun c => decide (ws.getD c 0 < x + 1)) fun d hd => by
    rcases List.mem_cons.mp hd with e | hd
    · subst e
      have := P.lo d hc
      exact List.mem_filter.mpr ⟨List.mem_range.mpr hc, decide_eq_true (by omega)⟩
    · obtain ⟨h1, h2⟩ := List.mem_filter.mp hd
      have h3 := List.mem_range.mp h1
      have h4 := of_decide_eq_true h2
      rw [P.len] at h3
      have h5 := P.lo d h3
      exact List.mem_filter.mpr ⟨List.mem_range.mpr h3, decide_eq_true (by omega)⟩
  rw [List.length_cons] at h
  omega
theorem parks_lt_mem {p : Nat} {ws L : List Nat} (P : Parks p ws L) {x : Nat} (h : lt L x < lt ws (x + 1)) : x ∈ L := by
  refine Classical.byContradiction fun hn => ?_
  have hle : lt ws (x + 1) ≤ lt L x := by
    rw [lt_filter, lt_filter]
    refine List.Nodup.length_le_of_subset (List.Pairwise.filter _ List.nodup_range) fun c hc => ?_
    obtain ⟨h1, h2⟩ := List.mem_filter.mp hc
    have h3 := List.mem_range.mp h1
    have h4 := of_decide_eq_true h2
    have hcL : c < L.length := by rw [P.len]; exact h3
    refine List.mem_filter.mpr ⟨List.mem_range.mpr hcL, decide_eq_true (Nat.lt_of_not_le fun hge => hn ?_)⟩
    by_cases e : L.getD c 0 = x
    · rw [← e]
      exact List.mem_of_getElem? (getD_of hcL)
    · obtain ⟨d, hd, e2⟩ := P.be c h3 x (by omega) (by omega)
      rw [← e2]
      exact List.mem_of_getElem? (getD_of (by omega))
  omega
theorem parks_nd {p : Nat} {ws L : List Nat} (P : Parks p ws L) : (L.filter fun x => decide (x < p)).Nodup := by
  have h1 : L.Pairwise fun a b => b < p → a ≠ b := by
    rw [List.pairwise_iff_getElem]
    intro i j hi hj hij hb e
    rw [P.len] at hi hj
    have g : ∀ k, (h : k < L.length) → L.getD k 0 = L[k] := fun k h => by rw [List.getD_eq_getElem?_getD, List.getElem?_eq_getElem h]; rfl
    have hiL : i < L.length := by rw [P.len]; exact hi
    have hjL : j < L.length := by rw [P.len]; exact hj
    refine P.ne j hj (by rw [g j hjL]; exact hb) i hij ?_
    rw [g i hiL, g j hjL]
    exact e
  refine (h1.filter _).imp_of_mem fun {a b} _ hb h => h (of_decide_eq_true (List.mem_filter.mp hb).2)
theorem parks_count {p : Nat} {ws L : List Nat} (P : Parks p ws L) {x : Nat} (hx : x < p) : L.count x = if x ∈ L then 1 else 0 := by
  have h1 := List.nodup_iff_count.mp (parks_nd P) x
  rw [List.count_filter (p := fun x => decide (x < p)) (decide_eq_true hx)] at h1
  by_cases h : x ∈ L
  · rw [if_pos h]
    have := List.count_pos_iff.mpr h
    omega
  · rw [if_neg h]
    exact List.count_eq_zero.mpr h
theorem wq_is {p : Nat} {ws L : List Nat} (P : Parks p ws L) : ∀ x, x ≤ p → wq ws x = lt ws x - lt L x
  | 0, _ => by rw [lt_zero, lt_zero]; rfl
  | x + 1, hx => by
    have ih := wq_is P x (by omega)
    have h1 := parks_lt_le P x
    have h2 := lt_succ ws x
    have h3 := lt_succ L x
    have h4 := parks_count P (x := x) (by omega)
    show wq ws x + ws.count x - 1 = _
    by_cases c : x ∈ L
    · rw [if_pos c] at h4
      omega
    · rw [if_neg c] at h4
      have h5 : ¬ lt L x < lt ws (x + 1) := fun h => c (parks_lt_mem P h)
      omega
theorem tkn_mem {p : Nat} {ws L : List Nat} (P : Parks p ws L) {x : Nat} : x ∈ tkn ws p ↔ x < p ∧ x ∈ L := by
  unfold tkn
  rw [List.mem_filter, List.mem_range, decide_eq_true_eq]
  constructor
  · rintro ⟨h1, h2⟩
    have h3 := wq_is P x (by omega)
    have h4 := lt_succ ws x
    have h5 := parks_lt_le P x
    exact ⟨h1, parks_lt_mem P (by omega)⟩
  · rintro ⟨h1, h2⟩
    have h3 := wq_is P x (by omega)
    have h4 := lt_succ ws x
    have h5 := parks_lt_le P x
    have h6 := parks_lt_iff P h2
    exact ⟨h1, by omega⟩
theorem tkn_perm_of {p : Nat} {ws L : List Nat} (P : Parks p ws L) : (tkn ws p).Perm (L.filter fun x => decide (x < p)) := by
  refine (List.perm_ext_iff_of_nodup ?_ (parks_nd P)).mpr fun x => ?_
  · unfold tkn
    exact List.nodup_range.filter _
  · rw [tkn_mem P, List.mem_filter, decide_eq_true_eq]
    exact And.comm
theorem tkn_rise (ws : List Nat) (p : Nat) : (tkn ws p).Pairwise (· ≤ ·) := by
  unfold tkn
  exact (List.pairwise_lt_range.imp fun h => Nat.le_of_lt h).filter _
/-! ### full wishes in another turn -/
theorem drv_perm {ws ys : List Nat} (h : ys.Perm ws) : drv ys = drv ws := by
  unfold drv
  rw [h.length_eq, h.sum_nat]
theorem sum_range0 (n : Nat) : ((((List.range n).sum : Nat)) : Int) = ((n : Int) * ((n : Int) - 1)) / 2 := by
  have h : ∀ n : Nat, 2 * (List.range n).sum = n * (n - 1) := by
    intro n
    induction n with
    | zero => rfl
    | succ n ih =>
      rw [List.range_succ, List.sum_append_nat]
      simp only [List.sum_cons, List.sum_nil]
      rw [Nat.mul_add, ih]
      cases n with
      | zero => rfl
      | succ m =>
        show (m + 1) * m + 2 * (m + 1 + 0) = (m + 2) * (m + 1)
        rw [Nat.add_zero, ← Nat.mul_comm (m + 1) 2, ← Nat.mul_add, Nat.mul_comm]
  have h1 := h n
  have h2 : (n : Int) * ((n : Int) - 1) = 2 * (((List.range n).sum : Nat) : Int) := by
    have h3 : (((2 * (List.range n).sum : Nat)) : Int) = ((n * (n - 1) : Nat) : Int) := by rw [h1]
    cases n with
    | zero => rfl
    | succ m =>
      rw [show ((m + 1 : Nat) : Int) - 1 = (m : Int) by omega]
      rw [show m + 1 - 1 = m by omega] at h3
      push_cast at h3 ⊢
      omega
  rw [h2]
  omega
theorem permL_sum {L : List Nat} (h : PermL L) : (((L.sum : Nat)) : Int) = ((L.length : Int) * ((L.length : Int) - 1)) / 2 := by
  have S := permL_st h
  have hp : L.Perm (List.range L.length) := by
    refine (List.perm_ext_iff_of_nodup S.nd List.nodup_range).mpr fun x => ?_
    rw [List.mem_range]
    constructor
    · exact S.lo x
    · intro hx
      obtain ⟨p, hp, e⟩ := st_has S hx
      rw [← e]
      exact List.mem_of_getElem? (getD_of hp)
  rw [hp.sum_nat]
  exact sum_range0 _
theorem full_drv {ws : List Nat} (F : Full ws) : (((whereL ws.length ws).sum : Nat) : Int) - ((ws.sum : Nat) : Int) = drv ws := by
  obtain ⟨P, L⟩ := full_perm F
  have h := permL_sum L
  rw [P.len] at h
  unfold drv
  rw [h]
theorem mem_end {n : Nat} {ws : List Nat} (hw : ∀ x ∈ ws, x < n) (hl : ws.length = n) : n ∈ whereL n ws ↔ ¬ Full ws := by
  have P := parks hw
  constructor
  · intro hm F
    obtain ⟨c, hc, e⟩ := List.mem_iff_getElem.mp hm
    have hg : (whereL n ws).getD c 0 = n := by rw [List.getD_eq_getElem?_getD, List.getElem?_eq_getElem hc]; exact e
    rw [P.len] at hc
    have := parks_all P hw (fun i hi => by have := F.no i (by omega); omega) c hc
    omega
  · intro hF
    refine Classical.byContradiction fun hm => hF ?_
    refine Full.of (fun x hx => by rw [hl]; exact hw x hx) fun i hi => ?_
    rw [hl] at hi ⊢
    refine parks_no P (fun c hc => ?_) i hi
    have h1 := P.hi c hc
    by_cases e : (whereL n ws).getD c 0 = n
    · exact absurd (by have k := List.mem_of_getElem? (getD_of (ws := whereL n ws) (c := c) (by rw [P.len]; exact hc)); rw [e] at k; exact k) hm
    · omega
end Pk
namespace Pk
/-! ### a street with a place behind its end -/
structure Sst (p : Nat) (occ : List Nat) (x y : Nat) : Prop where
  lo : x ≤ y
  hi : y ≤ p
  be : ∀ j, x ≤ j → j < y → j ∈ occ
  no : y < p → y ∉ occ
theorem stand_sst {p x : Nat} (occ : List Nat) (h : x ≤ p) : Sst p occ x (stand p occ x) := by
  obtain ⟨h1, h2, h3, h4⟩ := seek_spec occ (p - x) x
  have e : x + (p - x) = p := by omega
  rw [e] at h2 h4
  exact ⟨h1, h2, h3, h4⟩
theorem sst_uniq {p x y y' : Nat} {occ : List Nat} (h : Sst p occ x y) (h' : Sst p occ x y') : y = y' := by
  rcases Nat.lt_trichotomy y y' with c | c | c
  · exact absurd (h'.be y h.lo c) (h.no (by have := h'.hi; omega))
  · exact c
  · exact absurd (h.be y' h'.lo c) (h'.no (by have := h.hi; omega))
theorem stand_eq {p x y : Nat} {occ : List Nat} (hx : x ≤ p) (h : Sst p occ x y) : stand p occ x = y := sst_uniq (stand_sst occ hx) h
theorem stand_self {p x : Nat} {occ : List Nat} (hx : x ≤ p) : stand p occ x = x ↔ (x < p → x ∉ occ) := by
  constructor
  · intro h
    have := (stand_sst occ hx).no
    rw [h] at this
    exact this
  · intro h
    exact stand_eq hx ⟨Nat.le_refl _, hx, fun j h1 h2 => absurd h2 (Nat.not_lt.mpr h1), h⟩
theorem stand_idem {p x : Nat} {occ : List Nat} (hx : x ≤ p) : stand p occ (stand p occ x) = stand p occ x := (stand_self (stand_sst occ hx).hi).mpr (stand_sst occ hx).no
theorem stand_more {p f x : Nat} {occ : List Nat} (hx : x ≤ p) (hf : f < p) : stand p (occ ++ [f]) x = if stand p occ x = f then stand p (occ ++ [f]) (f + 1) else stand p occ x := by
  have S := stand_sst occ hx
  by_cases e : stand p occ x = f
  · rw [if_pos e]
    have S2 := stand_sst (p := p) (x := f + 1) (occ ++ [f]) (by omega)
    refine stand_eq hx ⟨by have := S.lo; have := S2.lo; omega, S2.hi, fun j h1 h2 => ?_, S2.no⟩
    by_cases c : j < f
    · exact List.mem_append_left _ (S.be j h1 (by omega))
    · by_cases c2 : j = f
      · rw [c2]
        exact List.mem_append_right _ (List.mem_singleton.mpr rfl)
      · exact S2.be j (by omega) h2
  · rw [if_neg e]
    refine stand_eq hx ⟨S.lo, S.hi, fun j h1 h2 => List.mem_append_left _ (S.be j h1 h2), fun h hm => ?_⟩
    rcases List.mem_append.mp hm with hm | hm
    · exact S.no h hm
    · exact e (List.mem_singleton.mp hm)
theorem stand_off {p x : Nat} {occ : List Nat} (hx : x ≤ p) : stand p (occ ++ [p]) x = stand p occ x := by
  have S := stand_sst occ hx
  refine stand_eq hx ⟨S.lo, S.hi, fun j h1 h2 => List.mem_append_left _ (S.be j h1 h2), fun h hm => ?_⟩
  rcases List.mem_append.mp hm with hm | hm
  · exact S.no h hm
  · have := List.mem_singleton.mp hm
    omega
def sdist (p : Nat) (occ : List Nat) (x : Nat) : Nat := stand p occ x - x
/-- steps ahead on a street -/
structure Frs (p : Nat) (occ ah : List Nat) : Prop where
  len : ah.length = p + 1
  lt : ∀ x, x ≤ p → ah.getD x 0 ≤ p
  eq : ∀ x, x ≤ p → (ah.getD x 0 = x ↔ stand p occ x = x)
  on : ∀ x, x ≤ p → stand p occ (ah.getD x 0) = stand p occ x
  gt : ∀ x, x ≤ p → x ≤ ah.getD x 0
theorem Frs.fr {p : Nat} {occ ah : List Nat} (R : Frs p occ ah) : Fr (p + 1) (stand p occ) (sdist p occ) ah := by
  refine ⟨R.len, fun x hx => Nat.lt_succ_of_le (R.lt x (by omega)), fun x hx => R.eq x (by omega), fun x hx => R.on x (by omega), fun x hx hne => ?_, fun x hx => ⟨Nat.lt_succ_of_le (stand_sst occ (by omega)).hi, stand_idem (by omega), fun hne => ?_⟩, fun x hx => ?_⟩
  · have h1 := R.gt x (by omega)
    have h2 := R.on x (by omega)
    have h3 := (stand_sst occ (R.lt x (by omega))).lo
    unfold sdist
    rw [h2]
    rw [h2] at h3
    omega
  · unfold sdist
    rw [stand_idem (by omega)]
    have := (stand_sst (p := p) (x := x) occ (by omega)).lo
    omega
  · unfold sdist
    have := (stand_sst (p := p) (x := x) occ (by omega)).hi
    omega
theorem fr_frs {p : Nat} {occ ah : List Nat} (F : Fr (p + 1) (stand p occ) (sdist p occ) ah) : Frs p occ ah := by
  refine ⟨F.len, fun x hx => Nat.le_of_lt_succ (F.lt x (by omega)), fun x hx => F.eq x (by omega), fun x hx => F.on x (by omega), fun x hx => ?_⟩
  by_cases e : ah.getD x 0 = x
  · omega
  · have h1 := F.ds x (by omega) e
    have h2 := F.on x (by omega)
    unfold sdist at h1
    rw [h2] at h1
    omega
theorem frs_start {p : Nat} : Frs p [] (List.range (p + 1)) := by
  have g : ∀ x, x ≤ p → (List.range (p + 1)).getD x 0 = x := fun x hx => range_get (by omega)
  refine ⟨List.length_range, fun x hx => by rw [g x hx]; exact hx, fun x hx => ?_, fun x hx => by rw [g x hx], fun x hx => by rw [g x hx]; exact Nat.le_refl _⟩
  rw [g x hx, stand_self hx]
  simp
theorem frs_more {p f : Nat} {occ ah : List Nat} (R : Frs p occ ah) (hf : f < p) (hff : f ∉ occ) : Frs p (occ ++ [f]) (ah.set f (f + 1)) := by
  have hl := R.len
  have key : ∀ y, (ah.set f (f + 1)).getD y 0 = if y = f then f + 1 else ah.getD y 0 := fun y => by
    by_cases e : y = f
    · rw [if_pos e, e]
      exact getD_set_self (by omega)
    · rw [if_neg e]
      exact getD_set_ne (fun q => e q.symm)
  have hsf : stand p (occ ++ [f]) f = stand p (occ ++ [f]) (f + 1) := by
    have e := stand_more (p := p) (x := f) (occ := occ) (by omega) hf
    rw [if_pos ((stand_self (by omega)).mpr fun _ => hff)] at e
    exact e
  refine ⟨by rw [List.length_set, hl], fun y hy => ?_, fun y hy => ?_, fun y hy => ?_, fun y hy => ?_⟩
  · rw [key y]
    by_cases e : y = f
    · rw [if_pos e]; omega
    · rw [if_neg e]; exact R.lt y hy
  · rw [key y]
    by_cases e : y = f
    · rw [if_pos e, e, hsf]
      have := (stand_sst (p := p) (x := f + 1) (occ ++ [f]) (by omega)).lo
      omega
    · rw [if_neg e, R.eq y hy, stand_self hy, stand_self hy]
      simp [e]
  · rw [key y]
    by_cases e : y = f
    · rw [if_pos e, e]
      exact hsf.symm
    · rw [if_neg e, stand_more (R.lt y hy) hf, stand_more hy hf, R.on y hy]
  · rw [key y]
    by_cases e : y = f
    · rw [if_pos e]; omega
    · rw [if_neg e]; exact R.gt y hy
theorem frs_off {p : Nat} {occ ah : List Nat} (R : Frs p occ ah) : Frs p (occ ++ [p]) ah :=
  ⟨R.len, R.lt, fun x hx => by rw [stand_off hx]; exact R.eq x hx, fun x hx => by rw [stand_off (R.lt x hx), stand_off hx]; exact R.on x hx, R.gt⟩
end Pk
namespace Pk
/-! ### the empty place of a ring -/
theorem whereR_take (p : Nat) (ws : List Nat) : ∀ c, c ≤ ws.length → whereR p (ws.take c) = (whereR p ws).take c := by
  refine snoc_ind (P := fun ws => ∀ c, c ≤ ws.length → whereR p (ws.take c) = (whereR p ws).take c) (fun c hc => ?_) (fun r w ih c hc => ?_) ws
  · have : c = 0 := Nat.le_zero.mp hc
    subst this
    rfl
  · by_cases e : c ≤ r.length
    · rw [List.take_append_of_le_length e, ih c e, whereR_snoc, List.take_append_of_le_length (by rw [whereR_len]; exact e)]
    · rw [List.length_append, List.length_singleton] at hc
      have e2 : c = (r ++ [w]).length := by rw [List.length_append, List.length_singleton]; omega
      rw [e2, List.take_length]
      rw [List.take_of_length_le (by rw [whereR_len]; exact Nat.le_refl _)]
theorem whereR_get (p : Nat) {ws : List Nat} {c : Nat} (h : c < ws.length) : (whereR p ws).getD c 0 = rnf ((whereR p ws).take c) p (ws.getD c 0) := by
  have t := whereR_take p ws (c + 1) h
  rw [List.take_add_one, getD_of h] at t
  have t2 : whereR p (ws.take c ++ [ws.getD c 0]) = (whereR p ws).take (c + 1) := t
  rw [whereR_snoc, whereR_take p ws c (Nat.le_of_lt h)] at t2
  have hl := whereR_len p ws
  have g : ((whereR p ws).take (c + 1))[c]? = some (rnf ((whereR p ws).take c) p (ws.getD c 0)) := by
    rw [← t2, List.getElem?_append_right (by rw [List.length_take]; omega), List.length_take, show c - min c (whereR p ws).length = 0 by omega]
    rfl
  rw [List.getElem?_take_of_lt (Nat.lt_succ_self c)] at g
  rw [List.getD_eq_getElem?_getD, g]
  rfl
theorem whereR_lt {p : Nat} (hp : 0 < p) (ws : List Nat) : ∀ x ∈ whereR p ws, x < p := fun x hx => by
  obtain ⟨c, hc, e⟩ := List.mem_iff_getElem.mp hx
  have hl := whereR_len p ws
  have g := whereR_get p (ws := ws) (c := c) (by omega)
  rw [List.getD_eq_getElem?_getD, List.getElem?_eq_getElem hc] at g
  have g2 : (whereR p ws)[c] = rnf ((whereR p ws).take c) p (ws.getD c 0) := g
  rw [← e, g2]
  exact rnf_lt hp
theorem whereR_nd {p : Nat} {ws : List Nat} (hw : ∀ x ∈ ws, x < p) (hl : ws.length ≤ p) : (whereR p ws).Nodup := by
  rw [List.Nodup, List.pairwise_iff_getElem]
  intro i j hi hj hij e
  have hlen := whereR_len p ws
  have g := whereR_get p (ws := ws) (c := j) (by omega)
  rw [List.getD_eq_getElem?_getD, List.getElem?_eq_getElem hj] at g
  have g2 : (whereR p ws)[j] = rnf ((whereR p ws).take j) p (ws.getD j 0) := g
  have hf := rnf_free (occ := (whereR p ws).take j) (p := p) (x := ws.getD j 0) (has_free (by rw [List.length_take]; omega)) (hw _ (List.mem_of_getElem? (getD_of (by omega))))
  rw [← g2, ← e] at hf
  refine hf ((mem_take_iff (by omega)).mpr ⟨i, hij, ?_⟩)
  rw [List.getD_eq_getElem?_getD, List.getElem?_eq_getElem hi]
  rfl
/-- turned so that e is the last -/
def rot (n e x : Nat) : Nat := (x + n - e) % (n + 1)
theorem rot_lt {n e x : Nat} (he : e ≤ n) (hx : x < n + 1) (hne : x ≠ e) : rot n e x < n := by
  unfold rot
  rw [turn_val hx he]
  split <;> omega
theorem rot_succ {n e x : Nat} (he : e ≤ n) (hx : x < n + 1) (hne : x ≠ e) : rot n e ((x + 1) % (n + 1)) = rot n e x + 1 := by
  have h1 : (x + 1) % (n + 1) < n + 1 := Nat.mod_lt _ (Nat.succ_pos n)
  unfold rot
  rw [turn_val h1 he, turn_val hx he]
  by_cases c : x + 1 < n + 1
  · rw [Nat.mod_eq_of_lt c]
    split <;> split <;> omega
  · have e2 : x + 1 = n + 1 := by omega
    rw [e2, Nat.mod_self]
    split <;> split <;> omega
theorem rot_inj {n e x y : Nat} (he : e ≤ n) (hx : x < n + 1) (hy : y < n + 1) (h : rot n e x = rot n e y) : x = y := by
  unfold rot at h
  rw [turn_val hx he, turn_val hy he] at h
  split at h <;> split at h <;> omega
theorem lt_mono2 {A B : List Nat} (hl : A.length = B.length) (h : ∀ c, c < A.length → A.getD c 0 ≤ B.getD c 0) (i : Nat) : lt B i ≤ lt A i := by
  rw [lt_filter, lt_filter]
  refine List.Nodup.length_le_of_subset (List.Pairwise.filter _ List.nodup_range) fun c hc => ?_
  obtain ⟨h1, h2⟩ := List.mem_filter.mp hc
  have h3 := List.mem_range.mp h1
  have h4 := of_decide_eq_true h2
  have h5 := h c (by omega)
  exact List.mem_filter.mpr ⟨List.mem_range.mpr (by omega), decide_eq_true (by omega)⟩
theorem lt_perm_ge {B : List Nat} (S : IsSt B) {i : Nat} (hi : i ≤ B.length) : i ≤ lt B i := by
  unfold lt
  rw [List.countP_eq_length_filter]
  have h := (List.nodup_range (n := i)).length_le_of_subset (l₂ := B.filter fun x => decide (x < i)) fun x hx => by
    have hx2 := List.mem_range.mp hx
    obtain ⟨p, hp, e⟩ := st_has S (c := x) (by omega)
    exact List.mem_filter.mpr ⟨by rw [← e]; exact List.mem_of_getElem? (getD_of hp), decide_eq_true hx2⟩
  rw [List.length_range] at h
  exact h
/-- a place that stays free -/
theorem ring_rot {ws : List Nat} {e : Nat} (hw : ∀ x ∈ ws, x < ws.length + 1) (he : e ≤ ws.length) (hne : e ∉ whereR (ws.length + 1) ws) {c : Nat} (hc : c < ws.length) :
    ws.getD c 0 ≠ e ∧ rot ws.length e (ws.getD c 0) ≤ rot ws.length e ((whereR (ws.length + 1) ws).getD c 0) := by
  have hl := whereR_len (ws.length + 1) ws
  have hwc := hw _ (List.mem_of_getElem? (getD_of hc))
  have g := whereR_get (ws.length + 1) hc
  have sp := (rdist_spec (occ := (whereR (ws.length + 1) ws).take c) (p := ws.length + 1) (x := ws.getD c 0) (has_free (by rw [List.length_take]; omega)) hwc).2
  have hLm : (whereR (ws.length + 1) ws).getD c 0 ∈ whereR (ws.length + 1) ws := List.mem_of_getElem? (getD_of (by omega))
  generalize hd : rdist ((whereR (ws.length + 1) ws).take c) (ws.length + 1) (ws.getD c 0) = d at sp
  have g2 : (whereR (ws.length + 1) ws).getD c 0 = (ws.getD c 0 + d) % (ws.length + 1) := by rw [g]; unfold rnf; rw [hd]
  have nh : ∀ j, j ≤ d → (ws.getD c 0 + j) % (ws.length + 1) ≠ e := fun j hj q => by
    by_cases c2 : j < d
    · have := sp.1 j c2
      rw [q] at this
      exact hne (List.mem_of_mem_take this)
    · have : j = d := by omega
      subst this
      rw [← g2] at q
      exact hne (q ▸ hLm)
  have key : ∀ j, j ≤ d → rot ws.length e ((ws.getD c 0 + j) % (ws.length + 1)) = rot ws.length e (ws.getD c 0) + j := by
    intro j
    induction j with
    | zero => intro _; rw [Nat.add_zero, Nat.mod_eq_of_lt hwc]; rfl
    | succ j ih =>
      intro hj
      have h1 := rot_succ he (Nat.mod_lt (ws.getD c 0 + j) (Nat.succ_pos ws.length)) (nh j (by omega))
      rw [Nat.mod_add_mod] at h1
      rw [show ws.getD c 0 + (j + 1) = ws.getD c 0 + j + 1 by omega, h1, ih (by omega)]
      omega
  have h0 := nh 0 (Nat.zero_le _)
  rw [Nat.add_zero, Nat.mod_eq_of_lt hwc] at h0
  refine ⟨h0, ?_⟩
  rw [g2, key d (Nat.le_refl _)]
  omega
theorem getD_map {A : List Nat} {f : Nat → Nat} {c : Nat} (h : c < A.length) : (A.map f).getD c 0 = f (A.getD c 0) := by
  rw [List.getD_eq_getElem?_getD, List.getElem?_map, getD_of h]
  rfl
theorem ring_full {ws : List Nat} {e : Nat} (hw : ∀ x ∈ ws, x < ws.length + 1) (he : e ≤ ws.length) (hne : e ∉ whereR (ws.length + 1) ws) : Full (ws.map (rot ws.length e)) := by
  have hl := whereR_len (ws.length + 1) ws
  have hlt := whereR_lt (Nat.succ_pos ws.length) ws
  have hnd := whereR_nd hw (by omega)
  have S : IsSt ((whereR (ws.length + 1) ws).map (rot ws.length e)) := by
    refine ⟨fun x hx => ?_, ?_⟩
    · obtain ⟨y, hy, rfl⟩ := List.mem_map.mp hx
      rw [List.length_map, hl]
      exact rot_lt he (hlt y hy) fun q => hne (q ▸ hy)
    · refine List.Pairwise.map (R := fun a b => a ≠ b ∧ a < ws.length + 1 ∧ b < ws.length + 1) _ (fun a b hab e2 => hab.1 (rot_inj he hab.2.1 hab.2.2 e2)) ?_
      exact List.Pairwise.imp_of_mem (fun {a b} ha hb hab => ⟨hab, hlt a ha, hlt b hb⟩) hnd
  refine ⟨fun x hx => ?_, fun i hi => ?_⟩
  · obtain ⟨y, hy, rfl⟩ := List.mem_map.mp hx
    obtain ⟨c, hc, e2⟩ := List.mem_iff_getElem.mp hy
    have h := (ring_rot hw he hne hc).1
    rw [List.getD_eq_getElem?_getD, List.getElem?_eq_getElem hc] at h
    have h2 : ws[c] ≠ e := h
    rw [List.length_map]
    exact rot_lt he (hw y hy) (by rw [← e2]; exact h2)
  · rw [List.length_map] at hi
    have h1 := lt_perm_ge S (i := i) (by rw [List.length_map, hl]; exact hi)
    have h2 := lt_mono2 (A := ws.map (rot ws.length e)) (B := (whereR (ws.length + 1) ws).map (rot ws.length e)) (by rw [List.length_map, List.length_map, hl]) (fun c hc => ?_) i
    · omega
    · rw [List.length_map] at hc
      rw [getD_map hc, getD_map (by omega)]
      exact (ring_rot hw he hne hc).2
theorem empty_of_full {ws : List Nat} {e : Nat} (hw : ∀ x ∈ ws, x < ws.length + 1) (he : e ≤ ws.length) (F : Full (ws.map (rot ws.length e))) : EmptyIs ws e := by
  have key : ∀ i, i ≤ ws.length → i + lt ws (e + 1) ≤ lt ws (e + 1 + i) + lt ws (i + e - ws.length) := fun i hi => by
    have h1 := lt_turn hw he i hi
    have h2 := F.up i (by rw [List.length_map]; exact hi)
    have h3 : lt (ws.map (rot ws.length e)) i = lt (ws.map fun w => (w + ws.length - e) % (ws.length + 1)) i := rfl
    omega
  have hall : ∀ j, ws.length + 1 ≤ j → lt ws j = ws.length := fun j hj => lt_all fun x hx => by have := hw x hx; omega
  have up : ∀ j, j ≤ e → hgt ws (e + 1) < hgt ws j := fun j hj => by
    have h1 := key (j + ws.length - e) (by omega)
    rw [hall (e + 1 + (j + ws.length - e)) (by omega), show j + ws.length - e + e - ws.length = j by omega] at h1
    unfold hgt
    omega
  refine ⟨he, ?_, up, fun j hj => ?_⟩
  · have := up 0 (Nat.zero_le _)
    have e0 : hgt ws 0 = 0 := by unfold hgt; rw [lt_zero]; rfl
    omega
  · by_cases c : j ≤ e
    · exact Int.le_of_lt (up j c)
    · have h1 := key (j - (e + 1)) (by omega)
      rw [show e + 1 + (j - (e + 1)) = j by omega, show j - (e + 1) + e - ws.length = 0 by omega, lt_zero] at h1
      unfold hgt
      omega
theorem empty_uniq {ws : List Nat} {e e' : Nat} (E : EmptyIs ws e) (E' : EmptyIs ws e') : e = e' := by
  rcases Nat.lt_trichotomy e e' with c | c | c
  · have h1 := E'.up (e + 1) (by omega)
    have h2 := E.lo (e' + 1) (by have := E'.lt; omega)
    omega
  · exact c
  · have h1 := E.up (e' + 1) (by omega)
    have h2 := E'.lo (e + 1) (by have := E.lt; omega)
    omega
/-- the place that is left -/
theorem ring_empty {ws : List Nat} (hw : ∀ x ∈ ws, x < ws.length + 1) : ∃ e, e ≤ ws.length ∧ e ∉ whereR (ws.length + 1) ws ∧ e = emptyOf ws := by
  obtain ⟨e, he, hne⟩ := has_free (occ := whereR (ws.length + 1) ws) (p := ws.length + 1) (by rw [whereR_len]; omega)
  exact ⟨e, by omega, hne, empty_uniq (empty_of_full hw (by omega) (ring_full hw (by omega) hne)) (emptyOf_is hw)⟩
theorem ring_sum {ws : List Nat} (hw : ∀ x ∈ ws, x < ws.length + 1) : ((((ws.length + 1 : Nat)) : Int) * ((((ws.length + 1 : Nat)) : Int) - 1)) / 2 - (((whereR (ws.length + 1) ws).sum : Nat) : Int) = ((emptyOf ws : Nat) : Int) := by
  obtain ⟨e, he, hne, rfl⟩ := ring_empty hw
  have hl := whereR_len (ws.length + 1) ws
  have hnd : (emptyOf ws :: whereR (ws.length + 1) ws).Nodup := List.nodup_cons.mpr ⟨hne, whereR_nd hw (by omega)⟩
  have S : IsSt (emptyOf ws :: whereR (ws.length + 1) ws) := ⟨fun x hx => by
    rw [List.length_cons, hl]
    rcases List.mem_cons.mp hx with q | hx
    · omega
    · exact whereR_lt (Nat.succ_pos _) ws x hx, hnd⟩
  have hp : (emptyOf ws :: whereR (ws.length + 1) ws).Perm (List.range (ws.length + 1)) := by
    refine (List.perm_ext_iff_of_nodup hnd List.nodup_range).mpr fun x => ?_
    rw [List.mem_range]
    have hS : (emptyOf ws :: whereR (ws.length + 1) ws).length = ws.length + 1 := by rw [List.length_cons, hl]
    constructor
    · intro hx
      have := S.lo x hx
      omega
    · intro hx
      obtain ⟨p, hp, e⟩ := st_has S (c := x) (by omega)
      rw [← e]
      exact List.mem_of_getElem? (getD_of hp)
  have hs := hp.sum_nat
  rw [List.sum_cons] at hs
  rw [← sum_range0, ← hs]
  omega
/-! ### turned by any number -/
def turnI (ws : List Nat) (by_ : Int) : List Nat := ws.map fun (w : Nat) => (((w : Int) + by_) % ((ws.length : Int) + 1)).toNat
theorem turnI_len (ws : List Nat) (b : Int) : (turnI ws b).length = ws.length := by unfold turnI; rw [List.length_map]
theorem turnI_lt (ws : List Nat) (b : Int) : ∀ x ∈ turnI ws b, x < ws.length + 1 := fun x hx => by
  unfold turnI at hx
  obtain ⟨w, _, rfl⟩ := List.mem_map.mp hx
  have h1 := Int.emod_nonneg ((w : Int) + b) (show ((ws.length : Int) + 1) ≠ 0 by omega)
  have h2 := Int.emod_lt_of_pos ((w : Int) + b) (show (0 : Int) < (ws.length : Int) + 1 by omega)
  omega
/-- which place it turns to the last -/
def lastOf (n : Nat) (b : Int) : Nat := (((n : Int) - b) % ((n : Int) + 1)).toNat
theorem lastOf_le (n : Nat) (b : Int) : lastOf n b ≤ n := by
  have h1 := Int.emod_nonneg ((n : Int) - b) (show ((n : Int) + 1) ≠ 0 by omega)
  have h2 := Int.emod_lt_of_pos ((n : Int) - b) (show (0 : Int) < (n : Int) + 1 by omega)
  unfold lastOf
  omega
theorem lastOf_is (n : Nat) (b : Int) : ∃ k : Int, (n : Int) - b = (lastOf n b : Int) + k * ((n : Int) + 1) := by
  have h1 := Int.emod_nonneg ((n : Int) - b) (show ((n : Int) + 1) ≠ 0 by omega)
  refine ⟨((n : Int) - b) / ((n : Int) + 1), ?_⟩
  have h3 := Int.emod_add_mul_ediv ((n : Int) - b) ((n : Int) + 1)
  unfold lastOf
  rw [Int.toNat_of_nonneg h1]
  rw [Int.mul_comm] at h3
  omega
theorem turnI_rot (ws : List Nat) (b : Int) : turnI ws b = ws.map (rot ws.length (lastOf ws.length b)) := by
  unfold turnI
  refine List.map_congr_left fun w _ => ?_
  obtain ⟨k, hk⟩ := lastOf_is ws.length b
  have hle := lastOf_le ws.length b
  unfold rot
  have e1 : ((w : Int) + b) % ((ws.length : Int) + 1) = (((w + ws.length - lastOf ws.length b : Nat) : Int)) % ((ws.length : Int) + 1) := by
    have e2 : ((w + ws.length - lastOf ws.length b : Nat) : Int) = (w : Int) + b + k * ((ws.length : Int) + 1) := by omega
    rw [e2, Int.add_mul_emod_self_right]
  rw [e1]
  rw [show ((ws.length : Int) + 1) = ((ws.length + 1 : Nat) : Int) by omega, ← Int.natCast_emod, Int.toNat_natCast]
theorem turnI_full {ws : List Nat} (hw : ∀ x ∈ ws, x < ws.length + 1) (b : Int) : Full (turnI ws b) ↔ lastOf ws.length b = emptyOf ws := by
  rw [turnI_rot]
  constructor
  · intro F
    exact empty_uniq (empty_of_full hw (lastOf_le _ _) F) (emptyOf_is hw)
  · intro e
    rw [e]
    exact full_of_empty hw (emptyOf_is hw)
theorem lastOf_iff {n e : Nat} (he : e ≤ n) (b : Int) : lastOf n b = e ↔ (b - ((n : Int) - (e : Int))) % ((n : Int) + 1) = 0 := by
  obtain ⟨k, hk⟩ := lastOf_is n b
  have hle := lastOf_le n b
  constructor
  · intro h
    rw [h] at hk
    have : b - ((n : Int) - (e : Int)) = -k * ((n : Int) + 1) := by
      rw [Int.neg_mul]
      omega
    rw [this, Int.mul_emod_left]
  · intro h
    obtain ⟨m, hm⟩ := Int.dvd_of_emod_eq_zero h
    have h1 : (lastOf n b : Int) - (e : Int) = (-(k + m)) * ((n : Int) + 1) := by
      rw [Int.neg_mul, Int.add_mul]
      rw [Int.mul_comm m]
      omega
    by_cases z : k + m = 0
    · rw [z] at h1
      simp at h1
      omega
    · exfalso
      rcases Int.lt_or_gt_of_ne z with c | c
      · have : ((n : Int) + 1) ≤ (-(k + m)) * ((n : Int) + 1) := by
          have := Int.mul_le_mul_of_nonneg_right (show (1 : Int) ≤ -(k + m) by omega) (show (0 : Int) ≤ (n : Int) + 1 by omega)
          rw [Int.one_mul] at this
          exact this
        omega
      · have : (-(k + m)) * ((n : Int) + 1) ≤ -((n : Int) + 1) := by
          have := Int.mul_le_mul_of_nonneg_right (show -(k + m) ≤ (-1 : Int) by omega) (show (0 : Int) ≤ (n : Int) + 1 by omega)
          have e1 : (-1 : Int) * ((n : Int) + 1) = -((n : Int) + 1) := by omega
          rw [e1] at this
          exact this
        omega
theorem full_empty {ws : List Nat} (F : Full ws) : emptyOf ws = ws.length := by
  have hw : ∀ x ∈ ws, x < ws.length + 1 := fun x hx => Nat.lt_succ_of_lt (F.lo x hx)
  refine empty_uniq (emptyOf_is hw) (empty_of_full hw (Nat.le_refl _) ?_)
  have e : ws.map (rot ws.length ws.length) = ws := by
    have : ws.map (rot ws.length ws.length) = ws.map id := List.map_congr_left fun x hx => by
      unfold rot
      rw [show x + ws.length - ws.length = x by omega, Nat.mod_eq_of_lt (hw x hx)]
      rfl
    rw [this, List.map_id]
  rw [e]
  exact F
end Pk
namespace Pk
open PySem PySem.Spec PyProof.Rows L2 Evl He
open SX (S)
section
variable {P : Program} {w : World} {K : PySem.W.Frag} {σ : L2.St} {H : Hp} {te ta tb tl : TE} {v : V} {D : Ends} {tz : TS}
/-! ### lists of lists -/
structure LL (H0 H : Hp) (lc : Addr) (as : List Addr) (f : Nat → List Nat) : Prop where
  top : H lc = some (.lst (as.map V.ref))
  row : ∀ i b, as[i]? = some b → H b = some (.lst (vn (f i)))
  nd : as.Nodup
  out : lc ∉ as
  newT : H0 lc = none
  new : ∀ b ∈ as, H0 b = none
theorem LL.ex {H0 H H' : Hp} {lc : Addr} {as : List Addr} {f : Nat → List Nat} (L : LL H0 H lc as f) (e : Ex H H') : LL H0 H' lc as f := ⟨e _ _ L.top, fun i b h => e _ _ (L.row i b h), L.nd, L.out, L.newT, L.new⟩
theorem LL.upd {H0 H : Hp} {lc p : Addr} {as : List Addr} {o : HO} {f : Nat → List Nat} (L : LL H0 H lc as f) (h1 : p ≠ lc) (h2 : p ∉ as) : LL H0 (upd H p o) lc as f :=
  ⟨by rw [upd_ne h1.symm]; exact L.top, fun i b h => by rw [upd_ne (fun e : b = p => h2 (by rw [← e]; exact List.mem_of_getElem? h))]; exact L.row i b h, L.nd, L.out, L.newT, L.new⟩
theorem LL.ne_none {H0 H : Hp} {lc p : Addr} {as : List Addr} {f : Nat → List Nat} (L : LL H0 H lc as f) (h : H p = none) : p ≠ lc ∧ p ∉ as := by
  refine ⟨fun e => ?_, fun hm => ?_⟩
  · rw [e, L.top] at h
    cases h
  · obtain ⟨i, hi, e⟩ := List.mem_iff_getElem.mp hm
    have := L.row i p (by rw [List.getElem?_eq_getElem hi, e])
    rw [h] at this
    cases this
theorem LL.push {H0 H : Hp} {lc b : Addr} {as : List Addr} {f : Nat → List Nat} {t x : Nat} (L : LL H0 H lc as f) (hb : as[t]? = some b) : LL H0 (L2.upd H b (.lst (vn (f t) ++ [nat x]))) lc as (fun i => if i = t then f t ++ [x] else f i) := by
  have hm := List.mem_of_getElem? hb
  refine ⟨by rw [upd_ne (fun e => L.out (by rw [e]; exact hm))]; exact L.top, fun i c h => ?_, L.nd, L.out, L.newT, L.new⟩
  by_cases e : i = t
  · subst e
    rw [hb] at h
    cases h
    rw [upd_same, if_pos rfl]
    unfold vn
    rw [List.map_append]
    rfl
  · rw [if_neg e]
    have hne : c ≠ b := fun q => by
      subst q
      obtain ⟨h1, e1⟩ := List.getElem?_eq_some_iff.mp h
      obtain ⟨h2, e2⟩ := List.getElem?_eq_some_iff.mp hb
      exact e ((List.getElem_inj L.nd).mp (e1.trans e2.symm))
    rw [upd_ne hne]
    exact L.row i c h
theorem LL.congr {H0 H : Hp} {lc : Addr} {as : List Addr} {f g : Nat → List Nat} (L : LL H0 H lc as f) (h : ∀ i, i < as.length → f i = g i) : LL H0 H lc as g :=
  ⟨L.top, fun i b hb => by rw [← h i (List.getElem?_eq_some_iff.mp hb).1]; exact L.row i b hb, L.nd, L.out, L.newT, L.new⟩
theorem LL.back {H0 H1 H : Hp} {lc : Addr} {as : List Addr} {f : Nat → List Nat} (L : LL H1 H lc as f) (e : Ex H0 H1) : LL H0 H lc as f := ⟨L.top, L.row, L.nd, L.out, fresh_back e L.newT, fun b hb => fresh_back e (L.new b hb)⟩
/-- as many new empty lists -/
def LLw (H : Hp) (Dl : Addr) (i : Nat) (H' : Hp) : Prop := Ex H H' ∧ ∃ as : List Addr, as.length = i ∧ LL H H' Dl as fun _ => []
theorem llw_zero {H : Hp} {Dl : Addr} (h : H Dl = none) : LLw H Dl 0 (upd H Dl (.lst [])) := ⟨Ex.new h, [], rfl, ⟨upd_same, (fun i b hb => by cases hb), List.nodup_nil, List.not_mem_nil, h, (fun b hb => by cases hb)⟩⟩
theorem llw_turn {H H' : Hp} {Dl : Addr} {i : Nat} {σ2 : L2.St} (p : LLw H Dl i H') (hi : i < 50000) :
    tYes σ2 H' fun b H3 => if b = true then tLst tNil σ2 H3 fun y H4 => ∃ acc, H4 Dl = some (.lst acc) ∧ acc.length < sizeLine ∧ LLw H Dl (i + 1) (upd H4 Dl (.lst (acc ++ [y]))) else LLw H Dl (i + 1) H3 := by
  obtain ⟨e, as, hl, L⟩ := p
  show tLst tNil σ2 H' fun y H4 => ∃ acc, H4 Dl = some (.lst acc) ∧ acc.length < sizeLine ∧ LLw H Dl (i + 1) (upd H4 Dl (.lst (acc ++ [y])))
  refine (el_lst (vs := []) ea_nil (Nat.zero_le _) : EvL _ σ2 H' []) H' (Ex.refl H') _ fun q H4 hq e4 h4 => ?_
  obtain ⟨n1, n2⟩ := L.ne_none hq
  refine ⟨as.map V.ref, e4 _ _ L.top, sz_lt (by rw [List.length_map]; omega), Ex.mut (e.trans e4) L.newT, as ++ [q], by rw [List.length_append, List.length_singleton, hl], ?_⟩
  refine ⟨by rw [upd_same, List.map_append]; rfl, fun j b hb => ?_, ?_, ?_, L.newT, fun b hb => ?_⟩
  · have hbD : b ≠ Dl := fun q2 => by
      rcases List.mem_append.mp (List.mem_of_getElem? hb) with hm | hm
      · exact L.out (q2 ▸ hm)
      · exact n1 ((List.mem_singleton.mp hm).symm.trans q2)
    rw [upd_ne hbD]
    by_cases c : j < as.length
    · rw [List.getElem?_append_left c] at hb
      exact e4 _ _ (L.row j b hb)
    · rw [List.getElem?_append_right (by omega)] at hb
      have : b = q := by
        rcases hj : j - as.length with _ | m
        · rw [hj] at hb
          simpa using hb.symm
        · rw [hj] at hb
          simp at hb
      subst this
      exact h4
  · refine List.nodup_append.mpr ⟨L.nd, by simp, fun x hx y hy hxy => ?_⟩
    rw [List.mem_singleton.mp hy] at hxy
    exact n2 (hxy ▸ hx)
  · intro hm
    rcases List.mem_append.mp hm with hm | hm
    · exact L.out hm
    · exact n1 (List.mem_singleton.mp hm).symm
  · rcases List.mem_append.mp hb with hb | hb
    · exact L.new b hb
    · rw [List.mem_singleton.mp hb]
      exact fresh_back e hq
theorem ep_listsR {ta : TA} {j : Nat} {vs : List Nat} {n : Nat} (h : EvA ta σ H [nat n]) (hn : n ≤ 40000) (hw : ∀ x, wipe ((wipe σ vs).set j (some x)) vs = wipe σ vs) :
    EvP (tLc (iRng1 ta) (gName j) tYes (tLst tNil) vs) σ H (fun v H2 => ∃ lc as, v = .ref lc ∧ as.length = n ∧ LL H H2 lc as fun _ => []) := fun H0 e Q q => h H0 e _ fun H1 e1 => ⟨(n : Int), rfl, by omega, by omega, fun Dl hD =>
  lc_range (lo := 0) (n := (n : Int).toNat) (LLw H1 Dl) (llw_zero hD) (fun i H' hi p => ⟨hw _, llw_turn p (by omega)⟩) (fun H' p => by
    obtain ⟨e2, as, hl, L⟩ := p
    exact q _ H' (e1.trans e2) ⟨Dl, as, rfl, by omega, L.back (e.trans e1)⟩)⟩
theorem ep_listsL {a : Addr} {xs : List V} {j : Nat} {vs : List Nat} (h : Ev tl σ H (.ref a)) (hx : SqL K H a xs) (hz : xs.length ≤ 40000) (hw : ∀ x, wipe ((wipe σ vs).set j (some x)) vs = wipe σ vs) :
    EvP (tLc (iList K tl) (gName j) tYes (tLst tNil) vs) σ H (fun v H2 => ∃ lc as, v = .ref lc ∧ as.length = xs.length ∧ LL H H2 lc as fun _ => []) := fun H0 e Q q => h H0 e _ fun H1 e1 => ⟨a, rfl, ⟨xs, ex_l (e.trans e1) hx⟩, fun Dl hD =>
  lc_list (xs := xs) (LLw H1 Dl) (llw_zero hD) (fun i H' _ p => ex_l ((e.trans e1).trans p.1) hx) (fun i x H' hi p => ⟨hw x, llw_turn p (by have := (List.getElem?_eq_some_iff.mp hi).1; omega)⟩) (fun H' p => by
    obtain ⟨e2, as, hl, L⟩ := p
    exact q _ H' (e1.trans e2) ⟨Dl, as, rfl, hl, L.back (e.trans e1)⟩)⟩
theorem s_asgP {i : Nat} {Φ : V → Hp → Prop} (h : EvP te σ H Φ) (k : ∀ v H1, Ex H H1 → Φ v H1 → D.nx (σ.set i (some v)) H1) : tAsg te (gName i) D σ H := h H (Ex.refl H) _ fun v H1 e hv => k v H1 e hv
theorem q_asgP {i : Nat} {Φ : V → Hp → Prop} (h : EvP te σ H Φ) (k : ∀ v H1, Ex H H1 → Φ v H1 → tz D (σ.set i (some v)) H1) : tSeq (tAsg te (gName i)) tz D σ H := s_asgP (D := { D with nx := tz D }) h k
/-- xs.extend(zs) -/
theorem s_ext {l b : Addr} {xs zs : List V} (hl : H l = some (.lst xs)) (hb : H b = some (.lst zs)) (ha : Ev ta σ H (.ref l)) (h : Ev te σ H (.ref b)) (hz : xs.length + zs.length ≤ 100000) (k : ∀ H1, Ex H H1 → D.nx σ (upd H1 l (.lst (xs ++ zs)))) :
    tDrop (tBM K "list" rExtend ta (tCons te tNil)) D σ H := ha H (Ex.refl H) _ fun H1 e1 => ⟨Or.inl ⟨rfl, _, sq_of (e1 l _ hl)⟩, h H1 e1 _ fun H2 e2 => ⟨l, b, xs, zs, rfl, rfl, (e1.trans e2) l _ hl, (e1.trans e2) b _ hb, sz_of hz, k H2 (e1.trans e2)⟩⟩
theorem q_ext {l b : Addr} {xs zs : List V} (hl : H l = some (.lst xs)) (hb : H b = some (.lst zs)) (ha : Ev ta σ H (.ref l)) (h : Ev te σ H (.ref b)) (hz : xs.length + zs.length ≤ 100000) (k : ∀ H1, Ex H H1 → tz D σ (upd H1 l (.lst (xs ++ zs)))) :
    tSeq (tDrop (tBM K "list" rExtend ta (tCons te tNil))) tz D σ H := s_ext (D := { D with nx := tz D }) hl hb ha h hz k
/-- xs[::-1] -/
theorem el_rev {a : Addr} {xs : List V} (ha : Ev te σ H (.ref a)) (h : SqL K H a xs) : EvL (tRevL K te) σ H xs.reverse := fun H1 e Q q => ha H1 e _ fun H2 e2 => ⟨a, xs, rfl, ex_l (e.trans e2) h, fun p hp => q p _ (fresh_back e2 hp) (e2.trans (Ex.new hp)) upd_same⟩
/-- children, car by car -/
theorem q_chl {H0 : Hp} {a lc : Addr} {as : List Addr} {ws : List Nat} {m : Nat} {v2 v3 : Option V} {rest : L2.St} (hS : SqL K H0 a (vn ws)) (hw : ∀ x ∈ ws, x < m) (L : LL H0 H lc as fun _ => []) (has : as.length = m) (e0 : Ex H0 H) (hl : ws.length ≤ 40000)
    (k : ∀ v2 v3 H1, Ex H0 H1 → LL H0 H1 lc as (chl ws) → tz D (some (.ref a) :: some (.ref lc) :: v2 :: v3 :: rest) H1) :
    tSeq (tFor (iEnum K (tCons (tVar 0) tNil)) (gPair K 2 3) (tDrop (tBM K "list" rAppend (tOp (rIxL K) (tVar 1) (tVar 3)) (tCons (tOp (rI0 fun i j => .int (i + j)) (tVar 2) (tC (.int 1))) tNil)))) tz D (some (.ref a) :: some (.ref lc) :: v2 :: v3 :: rest) H := by
  refine q_forE nat (ev_var rfl) (ex_l e0 hS) (fun i σ' H' => i ≤ ws.length ∧ ∃ v2 v3, σ' = some (.ref a) :: some (.ref lc) :: v2 :: v3 :: rest ∧ Ex H0 H' ∧ LL H0 H' lc as (chlK ws i)) (fun H1 e1 => ?_) (fun i σ' H' hI => ?_) (fun i y σ' H' hy hI H5 e5 => ?_) (fun σ' H' hI => ?_)
  · exact ⟨Nat.zero_le _, _, _, rfl, e0.trans e1, L.ex e1⟩
  · obtain ⟨_, v2, v3, rfl, e, _⟩ := hI
    exact ex_l e hS
  · obtain ⟨_, v2, v3, rfl, e, L1⟩ := hI
    have hi : i < ws.length := (List.getElem?_eq_some_iff.mp hy).1
    have hyd : ws.getD i 0 = y := by rw [List.getD_eq_getElem?_getD, hy]; rfl
    have hym : y < as.length := by rw [has]; exact hw y (List.mem_of_getElem? hy)
    have L2 := L1.ex e5
    have hb : as[y]? = some as[y] := List.getElem?_eq_getElem hym
    have hcl : (chlK ws i y).length ≤ i := by
      unfold chlK
      rw [List.length_map]
      have := List.length_filter_le (fun c => decide (ws.getD c 0 = y)) (List.range i)
      rw [List.length_range] at this
      exact this
    refine s_app (l := as[y]) (xs := vn (chlK ws i y)) (v := nat (i + 1)) (L2.row y _ hb) (ev_ixN (i := y) (ev_var rfl) (ev_var rfl) (sq_of L2.top) (by rw [List.getElem?_map, hb]; rfl)) (ev_add (ev_var rfl) ev_c (by omega)) (by rw [List.length_map]; omega) fun H6 e6 => ?_
    refine ⟨hi, _, _, rfl, Ex.mut (e.trans (e5.trans e6)) (L2.new _ (List.mem_of_getElem? hb)), ((L2.ex e6).push (x := i + 1) hb).congr fun t _ => ?_⟩
    show (if t = y then chlK ws i y ++ [i + 1] else chlK ws i t) = chlK ws (i + 1) t
    rw [chlK_succ, hyd]
    by_cases c : t = y
    · rw [if_pos c, if_pos c.symm, c]
    · rw [if_neg c, if_neg (fun q => c q.symm)]
  · obtain ⟨_, v2, v3, rfl, e, L1⟩ := hI
    exact k v2 v3 H' e L1
end
end Pk
namespace Pk
open PySem PySem.Spec PyProof.Rows L2 Evl He
open SX (S)
section
variable {P : Program} {w : World} {K : PySem.W.Frag} {σ : L2.St} {H : Hp} {te ta tb tl : TE} {v : V} {D : Ends} {tz tu : TS}
/-! ### what is known of a value, and where it goes -/
theorem s_forLP {j : Nat} {Φ : V → Hp → Prop} (h : EvP tl σ H Φ) (k : ∀ v H1, Ex H H1 → Φ v H1 → ∃ l xs, v = .ref l ∧ SqL K H1 l xs ∧ ∃ Pv : Nat → L2.St → Hp → Prop, Pv 0 σ H1 ∧ (∀ i σ' H', i ≤ xs.length → Pv i σ' H' → SqL K H' l xs) ∧
    (∀ i x σ' H', xs[i]? = some x → Pv i σ' H' → tu { D with nx := Pv (i + 1), ct := Pv (i + 1), bk := D.nx } (σ'.set j (some x)) H') ∧ ∀ σ' H', Pv xs.length σ' H' → D.nx σ' H') : tFor (iList K tl) (gName j) tu D σ H :=
  h H (Ex.refl H) _ fun v H1 e hv => by
    obtain ⟨l, xs, rfl, hS, Pv, h0, hl, hs, hd⟩ := k v H1 e hv
    exact ⟨l, rfl, ⟨xs, hS⟩, for_list Pv h0 hl hs hd⟩
theorem q_forLP {j : Nat} {Φ : V → Hp → Prop} (h : EvP tl σ H Φ) (k : ∀ v H1, Ex H H1 → Φ v H1 → ∃ l xs, v = .ref l ∧ SqL K H1 l xs ∧ ∃ Pv : Nat → L2.St → Hp → Prop, Pv 0 σ H1 ∧ (∀ i σ' H', i ≤ xs.length → Pv i σ' H' → SqL K H' l xs) ∧
    (∀ i x σ' H', xs[i]? = some x → Pv i σ' H' → tu { D with nx := Pv (i + 1), ct := Pv (i + 1), bk := tz D } (σ'.set j (some x)) H') ∧ ∀ σ' H', Pv xs.length σ' H' → tz D σ' H') : tSeq (tFor (iList K tl) (gName j) tu) tz D σ H := s_forLP (D := { D with nx := tz D }) h k
theorem s_retP {Φ : V → Hp → Prop} (h : EvP te σ H Φ) (k : ∀ v H1, Ex H H1 → Φ v H1 → D.rt v H1) : tRet te D σ H := h H (Ex.refl H) _ fun v H1 e hv => k v H1 e hv
def SpP (sp : Sp) (vs : List V) (H : Hp) (Φ : V → Hp → Prop) : Prop := ∀ H1, Ex H H1 → ∀ Q : VK, (∀ v H2, Ex H1 H2 → Φ v H2 → Q v H2) → ∀ E : XK, sp vs H1 Q E
theorem ep_call {sp : Sp} {dvs vs : List V} {E : XK} {ta : TA} {Φ : V → Hp → Prop} (h : EvA ta σ H vs) (hs : SpP sp (vs ++ dvs) H Φ) : EvP (tCall sp dvs E ta) σ H Φ := fun H1 e Q q =>
  h H1 e _ fun H2 e2 => hs H2 (e.trans e2) _ (fun v H3 e3 hv => q v H3 (e2.trans e3) hv) E
theorem ep_tup {ta : TA} {Φ : List V → Hp → Prop} (h : EvAP ta σ H Φ) (hl : ∀ vs H1, Φ vs H1 → vs.length ≤ 100000) (hm : ∀ vs H1 H2, Ex H1 H2 → Φ vs H1 → Φ vs H2) : EvP (tTup ta) σ H (fun v H2 => ∃ p vs, v = .ref p ∧ H p = none ∧ H2 p = some (.tup vs) ∧ Φ vs H2) := fun H1 e _ q =>
  h H1 e _ fun vs H2 e2 hv => ⟨sz_of (hl vs H2 hv), fun p hp => q _ _ (e2.trans (Ex.new hp)) ⟨p, vs, rfl, fresh_back (e.trans e2) hp, upd_same, hm vs _ _ (Ex.new hp) hv⟩⟩
theorem ep_lst {ta : TA} {Φ : List V → Hp → Prop} (h : EvAP ta σ H Φ) (hl : ∀ vs H1, Φ vs H1 → vs.length ≤ 100000) (hm : ∀ vs H1 H2, Ex H1 H2 → Φ vs H1 → Φ vs H2) : EvP (tLst ta) σ H (fun v H2 => ∃ p vs, v = .ref p ∧ H p = none ∧ H2 p = some (.lst vs) ∧ Φ vs H2) := fun H1 e _ q =>
  h H1 e _ fun vs H2 e2 hv => ⟨sz_of (hl vs H2 hv), fun p hp => q _ _ (e2.trans (Ex.new hp)) ⟨p, vs, rfl, fresh_back (e.trans e2) hp, upd_same, hm vs _ _ (Ex.new hp) hv⟩⟩
theorem q_un2 {i j : Nat} {Φ : V → Hp → Prop} (h : EvP te σ H Φ) (hk : ∀ x H1, Ex H H1 → Φ x H1 → ∃ a v1 v2, x = .ref a ∧ SqT K H1 a [v1, v2] ∧ tz D ((σ.set i (some v1)).set j (some v2)) H1) :
    tSeq (tAsg te (gTup K 2 (gCons (gName i) (gCons (gName j) gNil)))) tz D σ H := h H (Ex.refl H) _ fun x H1 e hx => by
  obtain ⟨a, v1, v2, rfl, hS, q⟩ := hk x H1 e hx
  exact ⟨a, _, rfl, hS, rfl, v1, [v2], rfl, v2, [], rfl, rfl, q⟩
/-- xs[::-1] -/
theorem el_rev2 {a : Addr} {xs : List V} (ha : Ev te σ H (.ref a)) (h : SqL K H a xs) : EvL (tRevL K te) σ H xs.reverse := fun H1 e Q q => ha H1 e _ fun H2 e2 => ⟨a, xs, rfl, ex_l (e.trans e2) h, fun p hp => q p _ (fresh_back e2 hp) (e2.trans (Ex.new hp)) upd_same⟩
/-- sorted of a new list -/
theorem el_sortedN {ns : List Int} (ha : EvL ta σ H (vi ns)) : EvL (tCB (rSortedI K) (tCons ta tNil)) σ H (vi (isort ns)) := fun H1 e Q q =>
  ha H1 e _ fun a H2 ha2 e2 h2 => ⟨a, ns, rfl, sq_of h2, fun ns' p hp hr hn => by
    have z := isort_is hp hr
    subst z
    exact q p _ (fresh_back e2 hn) (e2.trans (Ex.new hn)) upd_same⟩
theorem ev_cb_sumL {ws : List Nat} (ha : EvL ta σ H (vn ws)) : Ev (tCB (rSum K) (tCons ta tNil)) σ H (nat ws.sum) := fun H1 e Q q =>
  ha H1 e _ fun a H2 ha2 e2 h2 => (rc_sumN (K := K) (sq_of h2)) H2 (Ex.refl H2) Q fun H3 e3 => q H3 (e2.trans e3)
/-! ### whether a number is in a list -/
theorem flat_vn (ws : List Nat) : (vn ws).all flatV = true := by
  rw [List.all_eq_true]
  intro x hx
  obtain ⟨n, _, rfl⟩ := List.mem_map.mp hx
  rfl
theorem inV_nat (n : Nat) (ws : List Nat) : inV (nat n) (vn ws) = decide (n ∈ ws) := by
  unfold inV
  rw [Bool.eq_iff_iff, List.any_eq_true, decide_eq_true_eq]
  constructor
  · rintro ⟨y, hy, e⟩
    obtain ⟨m, hm, rfl⟩ := List.mem_map.mp hy
    have e2 : decide ((m : Int) = (n : Int)) = true := by simpa [eqV, nat] using e
    have := of_decide_eq_true e2
    have e3 : m = n := by omega
    rw [← e3]
    exact hm
  · intro h
    exact ⟨nat n, List.mem_map.mpr ⟨n, h, rfl⟩, by simp [eqV, nat]⟩
theorem ev_inN {n : Nat} {b : Addr} {ws : List Nat} (ha : Ev ta σ H (nat n)) (hb : Ev tb σ H (.ref b)) (h : SqL K H b (vn ws)) : Ev (tOp (rIn K false) ta tb) σ H (.bl (decide (n ∈ ws))) := by
  have k := ev_op ha hb (rv_isL h (x := nat n) rfl (flat_vn ws))
  rw [inV_nat] at k
  exact k
end
end Pk
namespace Pk
open PySem PySem.Spec PyProof.Rows L2 Evl He
open SX (S)
/-! ### classes of one's own: made, asked -/
def clsBody : Stmt → List Stmt
  | .ClassDef _ _ _ body _ _ _ _ _ _ _ => body
  | _ => []
/-- an __init__ -/
abbrev MeP (K : PySem.W.Frag) (C qual : Str) (st : Stmt) (fd : FuncData) : Prop := FunD K "__init__" qual (defArgs st) (defBody st) (defScope st) [] [] (ma K (ga K C) "__init__") fd
theorem MeP.ok {P : Program} {w : World} {K : PySem.W.Frag} {mg : Str → Option Value} {base : Heap} {C qual : Str} {st : Stmt} {fd : FuncData} {N ps : List Str} {k : Nat} {sp : Sp} (F : MeP K C qual st fd) (S : FnScope N ps (defScope st)) (len : ∀ vs H Q E, sp vs H Q E → vs.length = ps.length)
    (hbody : ∀ (cdv : Value) (A : Around) (outer : List Env) (s : Shared) (H : Hp) (vs : List V) (Q : VK) (E : XK), Room k (A.deeper (envOfC qual (defScope st) s.heap.objs.size (ma K (ga K C) "__init__") cdv)) → sp vs H Q E →
      ∃ t : {t : TS // PSs (cxOf CX0 P w K mg base N qual (defScope st) (ma K (ga K C) "__init__") cdv A outer s H E).nox (defBody st) t}, t.1 { nx := fun _ H' => Q .non H', rt := Q } (start N vs) H) : FnOk P w K mg base CX0 (k + 1) (ma K (ga K C) "__init__") fd ps sp :=
  FunD.ok F S len fun cdv A outer s H vs Q E hr hsp => by
    obtain ⟨t, q⟩ := hbody cdv A outer s H vs Q E hr hsp
    exact ⟨t.1, t.2.nox, q⟩
/-- a field, the written part told (within a comprehension) -/
theorem pe_fldK {X : Cx} {K : PySem.W.Frag} {e : Expr} {f : Str} {pos : Pos} {ta : TE} (hK : X.K = K) (he : PE X e ta) (hb : attributeBase e f X.env (eval e X.env) = eval e X.env) : PE X (.Attribute e f pos) (tFld K ta f) := by
  subst hK
  exact pe_fld he hb
structure MkF (P : Program) (w : World) (K : PySem.W.Frag) (mg : Str → Option Value) (base : Heap) (x : Str) (k : Nat) (ps : List Str) (sp : Sp) (fd : FuncData) : Prop where
  of ::
  mk : Mk K (ga K x) (ma K (ga K x) "__init__")
  ok : FnOk P w K mg base CX0 k (ma K (ga K x) "__init__") fd ps sp
  gl : mg x = some (.ref (ga K x))
  bd : Binds K fd ps []
/-- what isinstance asks of the class x: of it and ys the answers bs -/
structure InsX (K : PySem.W.Frag) (x : Str) (ys : List (Str × Bool)) : Prop where
  cl : Cls K (ga K x)
  ha : PySem.W.findIn K (.ref (ga K x)) "__class__" = some (some (.builtin "object.__class__"))
  hn : PySem.W.specialIn K (.builtin "object.__class__") "__get__" = some (some (.builtin "getset_descriptor.__get__"))
  htk : PySem.W.takesIn K (.builtin "object.__class__") = some true
  hm : PySem.W.mroIn K (ga K x) (.type "object") = some true
  kit : ∀ y ∈ ys, PySem.W.kitOne K (.ref (ga K x)) (.ref (ga K y.1)) = some y.2
def insB (K : PySem.W.Frag) (x : Str) (ys : List (Str × Bool)) : Bool :=
  eqO (PySem.W.findIn K (.ref (ga K x)) "__class__") (some (some (.builtin "object.__class__"))) && (eqO (PySem.W.specialIn K (.builtin "object.__class__") "__get__") (some (some (.builtin "getset_descriptor.__get__"))) &&
  (decide (PySem.W.takesIn K (.builtin "object.__class__") = some true) && (decide (PySem.W.mroIn K (ga K x) (.type "object") = some true) && (ys.all fun y => decide (PySem.W.kitOne K (.ref (ga K x)) (.ref (ga K y.1)) = some y.2)))))
theorem insX_of {K : PySem.W.Frag} {x : Str} {ys : List (Str × Bool)} (c : Cls K (ga K x)) (h : insB K x ys = true) : InsX K x ys := by
  obtain ⟨a1, h⟩ := ba h
  obtain ⟨a2, h⟩ := ba h
  obtain ⟨a3, h⟩ := ba h
  obtain ⟨a4, a5⟩ := ba h
  exact ⟨c, eqO_ok a1, eqO_ok a2, of_decide_eq_true a3, of_decide_eq_true a4, fun y hy => of_decide_eq_true (List.all_eq_true.mp a5 y hy)⟩
def rIsI (K : PySem.W.Frag) : List V → Hp → VK → Prop := fun xs H Q => ∃ a x ys dx fs y b, xs = [.ref a, .ref (ga K y)] ∧ H a = some (.ins (ga K x) dx fs) ∧ InsX K x ys ∧ (y, b) ∈ ys ∧ Q (.bl b) H
theorem call_isI {X : Cx} : CallR X (.builtin "isinstance") (rIsI X.K) := by
  intro pins s σ H xs us Q I r h
  obtain ⟨a, x, ys, dx, fs, y, b, rfl, ha, c, hy, q⟩ := h
  obtain ⟨u, w', rfl, ru, rw'⟩ := vals2 r
  cases rw'
  exact isinst_ok I ru (TyOf.ins ha c.cl c.ha c.hn c.htk c.hm) (c.kit _ hy) fun tk => ⟨.bl b, H, I.tok _, rfl, q⟩
section
variable {P : Program} {w : World} {K : PySem.W.Frag} {σ : L2.St} {H : Hp} {te ta tb tl : TE} {v : V} {D : Ends} {tz tu : TS}
theorem ev_isI {x y : Str} {ys : List (Str × Bool)} {a dx : Addr} {fs : List (Str × V)} {b : Bool} (I : InsX K x ys) (hy : (y, b) ∈ ys) (ha : Ev ta σ H (.ref a)) (h : H a = some (.ins (ga K x) dx fs)) : Ev (tCB (rIsI K) (tCons ta (tCons (tC (.ref (ga K y))) tNil))) σ H (.bl b) := fun H1 e Q q =>
  ha H1 e _ fun H2 e2 => ⟨a, x, ys, dx, fs, y, b, rfl, e2 a _ (e a _ h), I, hy, q H2 e2⟩
/-- a field -/
theorem ev_fld {f : Str} {a C dx : Addr} {fs : List (Str × V)} (ha : Ev ta σ H (.ref a)) (h : H a = some (.ins C dx fs)) (c : Cls K C) (n : NoAttr K C f) (hl : fs.lookup f = some v) : Ev (tFld K ta f) σ H v := fun H1 e Q q =>
  ha H1 e _ fun H2 e2 => ⟨a, C, dx, fs, v, rfl, e2 a _ (e a _ h), c, n, hl, q H2 e2⟩
end
end Pk
namespace Pk
open PySem PySem.Spec PyProof.Rows L2 Evl He
def topS (i : Nat) : Stmt := PySem.Challenge.pw_parkrow_k04_whole_turning.main.body.getD i (.Pass ⟨0, 0, 0, 0⟩)
abbrev s_Parked_init : Stmt := (clsBody (topS 11)).getD 0 (.Pass ⟨0, 0, 0, 0⟩)
abbrev N_Parked_init : List Str := ["self", "where"]
abbrev P_Parked_init : List Str := ["self", "where"]
theorem sc_Parked_init : FnScope N_Parked_init P_Parked_init (defScope s_Parked_init) := ⟨rfl, rfl, rfl, by decide +kernel, rfl, by decide +kernel, by decide +kernel⟩
abbrev s_Crowd_init : Stmt := (clsBody (topS 12)).getD 0 (.Pass ⟨0, 0, 0, 0⟩)
abbrev N_Crowd_init : List Str := ["self", "place"]
abbrev P_Crowd_init : List Str := ["self", "place"]
theorem sc_Crowd_init : FnScope N_Crowd_init P_Crowd_init (defScope s_Crowd_init) := ⟨rfl, rfl, rfl, by decide +kernel, rfl, by decide +kernel, by decide +kernel⟩
abbrev s_is_number : Stmt := topS 6
abbrev N_is_number : List Str := ["thing", "least", "most"]
abbrev P_is_number : List Str := ["thing", "least", "most"]
theorem sc_is_number : FnScope N_is_number P_is_number (defScope s_is_number) := ⟨rfl, rfl, rfl, by decide +kernel, rfl, by decide +kernel, by decide +kernel⟩
abbrev s_asked_wishes : Stmt := topS 7
abbrev N_asked_wishes : List Str := ["places", "wishes", "wish"]
abbrev P_asked_wishes : List Str := ["places", "wishes"]
theorem sc_asked_wishes : FnScope N_asked_wishes P_asked_wishes (defScope s_asked_wishes) := ⟨rfl, rfl, rfl, by decide +kernel, rfl, by decide +kernel, by decide +kernel⟩
abbrev s_free_from : Stmt := topS 8
abbrev N_free_from : List Str := ["ahead", "place", "found", "later"]
abbrev P_free_from : List Str := ["ahead", "place"]
theorem sc_free_from : FnScope N_free_from P_free_from (defScope s_free_from) := ⟨rfl, rfl, rfl, by decide +kernel, rfl, by decide +kernel, by decide +kernel⟩
abbrev s_stood : Stmt := topS 9
abbrev N_stood : List Str := ["places", "wishes", "ahead", "where", "wish", "place"]
abbrev P_stood : List Str := ["places", "wishes"]
theorem sc_stood : FnScope N_stood P_stood (defScope s_stood) := ⟨rfl, rfl, rfl, by decide +kernel, rfl, by decide +kernel, by decide +kernel⟩
abbrev s_crowd_of : Stmt := topS 13
abbrev N_crowd_of : List Str := ["places", "wishes", "counts", "many", "found", "place"]
abbrev P_crowd_of : List Str := ["places", "wishes"]
theorem sc_crowd_of : FnScope N_crowd_of P_crowd_of (defScope s_crowd_of) := ⟨rfl, rfl, rfl, by decide +kernel, rfl, by decide +kernel, by decide +kernel⟩
abbrev s_counted : Stmt := topS 14
abbrev N_counted : List Str := ["places", "wishes", "counts", "wish", "place"]
abbrev P_counted : List Str := ["places", "wishes"]
theorem sc_counted : FnScope N_counted P_counted (defScope s_counted) := ⟨rfl, rfl, rfl, by decide +kernel, rfl, by decide +kernel, by decide +kernel⟩
abbrev s_parked : Stmt := topS 15
abbrev N_parked : List Str := ["places", "wishes", "place"]
abbrev P_parked : List Str := ["places", "wishes"]
theorem sc_parked : FnScope N_parked P_parked (defScope s_parked) := ⟨rfl, rfl, rfl, by decide +kernel, rfl, by decide +kernel, by decide +kernel⟩
abbrev s_as_list : Stmt := topS 16
abbrev N_as_list : List Str := ["wishes"]
abbrev P_as_list : List Str := ["wishes"]
theorem sc_as_list : FnScope N_as_list P_as_list (defScope s_as_list) := ⟨rfl, rfl, rfl, by decide +kernel, rfl, by decide +kernel, by decide +kernel⟩
abbrev s_ring : Stmt := topS 18
abbrev N_ring : List Str := ["places", "wishes", "ahead", "left", "where", "wish", "place"]
abbrev P_ring : List Str := ["places", "wishes"]
theorem sc_ring : FnScope N_ring P_ring (defScope s_ring) := ⟨rfl, rfl, rfl, by decide +kernel, rfl, by decide +kernel, by decide +kernel⟩
abbrev s_turning : Stmt := topS 19
abbrev N_turning : List Str := ["wishes", "places", "where", "empty"]
abbrev P_turning : List Str := ["wishes"]
theorem sc_turning : FnScope N_turning P_turning (defScope s_turning) := ⟨rfl, rfl, rfl, by decide +kernel, rfl, by decide +kernel, by decide +kernel⟩
abbrev s_turned : Stmt := topS 20
abbrev N_turned : List Str := ["wishes", "by", "places", "wish"]
abbrev P_turned : List Str := ["wishes", "by"]
theorem sc_turned : FnScope N_turned P_turned (defScope s_turned) := ⟨rfl, rfl, rfl, by decide +kernel, rfl, by decide +kernel, by decide +kernel⟩
abbrev s_law_empty : Stmt := topS 22
abbrev N_law_empty : List Str := ["places", "wishes", "counts", "wish", "height", "least", "empty", "place"]
abbrev P_law_empty : List Str := ["places", "wishes"]
theorem sc_law_empty : FnScope N_law_empty P_law_empty (defScope s_law_empty) := ⟨rfl, rfl, rfl, by decide +kernel, rfl, by decide +kernel, by decide +kernel⟩
abbrev s_law_numbers : Stmt := topS 23
abbrev N_law_numbers : List Str := ["found", "one"]
abbrev P_law_numbers : List Str := ["found"]
theorem sc_law_numbers : FnScope N_law_numbers P_law_numbers (defScope s_law_numbers) := ⟨rfl, rfl, rfl, by decide +kernel, rfl, by decide +kernel, by decide +kernel⟩
abbrev s_law_full : Stmt := topS 24
abbrev N_law_full : List Str := ["many", "wishes"]
abbrev P_law_full : List Str := ["many", "wishes"]
theorem sc_law_full : FnScope N_law_full P_law_full (defScope s_law_full) := ⟨rfl, rfl, rfl, by decide +kernel, rfl, by decide +kernel, by decide +kernel⟩
abbrev s_law : Stmt := topS 25
abbrev N_law : List Str := ["script", "many", "wishes", "handed", "found", "by", "some", "cell", "wish"]
abbrev P_law : List Str := ["script"]
theorem sc_law : FnScope N_law P_law (defScope s_law) := ⟨rfl, rfl, rfl, by decide +kernel, rfl, by decide +kernel, by decide +kernel⟩
def der_Parked_init {P : Program} {w : World} {K : PySem.W.Frag} {mg : Str → Option Value} {base : Heap} (B : Bi mg) {f : Addr} {cdv : Value} {A : Around} {outer : List Env} {s : Shared} {H : Hp} {E : XK}
    (hr : Room 0 (A.deeper (envOfC "Parked.__init__" (defScope s_Parked_init) s.heap.objs.size f cdv))) :
    {t : TS // PSs (cxOf CX0 P w K mg base N_Parked_init "Parked.__init__" (defScope s_Parked_init) f cdv A outer s H E).nox (defBody s_Parked_init) t} := ⟨_, (pss_one (ps_fld (pv 0) (pe_callTy (T := "list") (r := rListS K) call_list_of (by rfl) B.list (by decide +kernel) (pa_cons (pv 1) pa_nil)) rfl))⟩

def der_Crowd_init {P : Program} {w : World} {K : PySem.W.Frag} {mg : Str → Option Value} {base : Heap} {f : Addr} {cdv : Value} {A : Around} {outer : List Env} {s : Shared} {H : Hp} {E : XK}
    (hr : Room 0 (A.deeper (envOfC "Crowd.__init__" (defScope s_Crowd_init) s.heap.objs.size f cdv))) :
    {t : TS // PSs (cxOf CX0 P w K mg base N_Crowd_init "Crowd.__init__" (defScope s_Crowd_init) f cdv A outer s H E).nox (defBody s_Crowd_init) t} := ⟨_, (pss_one (ps_fld (pv 0) (pv 1) rfl))⟩

def der_is_number {P : Program} {w : World} {K : PySem.W.Frag} {mg : Str → Option Value} {base : Heap} (B : Bi mg) {f : Addr} {cdv : Value} {A : Around} {outer : List Env} {s : Shared} {H : Hp} {E : XK}
    (hr : Room 0 (A.deeper (envOfC "is_number" (defScope s_is_number) s.heap.objs.size f cdv))) :
    {t : TS // PSs (cxOf CX0 P w K mg base N_is_number "is_number" (defScope s_is_number) f cdv A outer s H E).nox (defBody s_is_number) t} := ⟨_, (pss_one (ps_ret (pe_and (pe_callB (id := "isinstance") (r := rIsi K) call_isi (by rfl) B.isinstance (by decide +kernel) (pa_cons (pv 0) (pa_cons (pe_bltn (v := .ty "int") (by rfl) B.int (by decide +kernel) rfl) pa_nil))) (pe_and (pe_not (pe_callB (id := "isinstance") (r := rIsi K) call_isi (by rfl) B.isinstance (by decide +kernel) (pa_cons (pv 0) (pa_cons (pe_bltn (v := .ty "bool") (by rfl) B.bool (by decide +kernel) rfl) pa_nil)))) (pe_one (pe_chain op_le op_le (pv 1) (pv 0) (pv 2)))))))⟩

def der_asked_wishes {P : Program} {w : World} {K : PySem.W.Frag} {mg : Str → Option Value} {base : Heap} (B : Bi mg) {fd_is_number : FuncData} {sp_is_number : Sp} (C_is_number : Cal P w K mg base CX0 1 "is_number" P_is_number sp_is_number fd_is_number) {tk_PLACES : Tok} (gc_PLACES : mg "PLACES" = some (.int 1000000 tk_PLACES)) {f : Addr} {cdv : Value} {A : Around} {outer : List Env} {s : Shared} {H : Hp} {E : XK}
    (hr : Room 1 (A.deeper (envOfC "asked_wishes" (defScope s_asked_wishes) s.heap.objs.size f cdv))) :
    {t : TS // PSs (cxOf CX0 P w K mg base N_asked_wishes "asked_wishes" (defScope s_asked_wishes) f cdv A outer s H E).nox (defBody s_asked_wishes) t} := ⟨_, (pss_cons (ps_if (pt_not (pt_val (pe_call C_is_number.ok (hr.mono (by decide)) (by rfl) C_is_number.gl C_is_number.kp C_is_number.bd .nil pass0 (pa_cons (pv 0) (pa_cons pe_int (pa_cons (pe_glob (v := .int 1000000) rfl gc_PLACES ⟨_, rfl⟩) pa_nil))))))
 (pss_one ps_never)
 pss_nil)
 (pss_one (ps_if (PW.pt (pw_or (pt_not (pt_val (pe_callB (id := "isinstance") (r := rIsi K) call_isi (by rfl) B.isinstance (by decide +kernel) (pa_cons (pv 1) (pa_cons (pe_bltn (v := .ty "list") (by rfl) B.list (by decide +kernel) rfl) pa_nil))))) (pw_or1 (pt_not (pt_val (pe_callB (id := "all") (r := rAll K) (cr_all rfl) (by rfl) B.all (by decide +kernel) (pa_cons (pe_lc (own := [("wish", 2)]) (g := (gName 2)) (tt := tYes) rfl sc_asked_wishes.nd (pi_list (pv 1)) (blkOk_by (own := [("wish", 2)]) (N := N_asked_wishes) (sc := defScope s_asked_wishes) (by decide +kernel)) (fun _ _ _ _ _ => (pg_name (i := 2) sc_asked_wishes.nd rfl (Or.inl rfl) (Or.inr rfl))) (fun _ _ _ _ _ => pts_nil) (fun _ _ _ _ _ => (pe_call C_is_number.ok (hr.mono (by decide)) (by rfl) C_is_number.gl C_is_number.kp C_is_number.bd .nil pass0 (pa_cons (pv 2) (pa_cons pe_int (pa_cons (pe_op op_sub (pv 0) pe_int) pa_nil)))))) pa_nil)))))))
 (pss_one ps_never)
 pss_nil)))⟩

def der_free_from {P : Program} {w : World} {K : PySem.W.Frag} {mg : Str → Option Value} {base : Heap} {f : Addr} {cdv : Value} {A : Around} {outer : List Env} {s : Shared} {H : Hp} {E : XK}
    (hr : Room 0 (A.deeper (envOfC "free_from" (defScope s_free_from) s.heap.objs.size f cdv))) :
    {t : TS // PSs (cxOf CX0 P w K mg base N_free_from "free_from" (defScope s_free_from) f cdv A outer s H E).nox (defBody s_free_from) t} := ⟨_, (pss_cons (ps_set (i := 2) sc_free_from.nd rfl (Or.inl rfl) (pv 1))
 (pss_cons (ps_while PassesOwn.never (pt_cmpR op_ne (pe_ix (r := rIxL K) ix_list (pv 0) (pv 2) (fun _ _ => rfl)) (pv 2) (nomark _))
 (pss_one (ps_set (i := 2) sc_free_from.nd rfl (Or.inl rfl) (pe_ix (r := rIxL K) ix_list (pv 0) (pv 2) (fun _ _ => rfl)))))
 (pss_cons (ps_while PassesOwn.never (pt_cmpR op_ne (pe_ix (r := rIxL K) ix_list (pv 0) (pv 1) (fun _ _ => rfl)) (pv 2) (nomark _))
 (pss_cons (ps_set (i := 3) sc_free_from.nd rfl (Or.inl rfl) (pe_ix (r := rIxL K) ix_list (pv 0) (pv 1) (fun _ _ => rfl)))
 (pss_cons (ps_asg (pv 2) (pg_sub (pv 0) (pv 1) set_list))
 (pss_one (ps_set (i := 1) sc_free_from.nd rfl (Or.inl rfl) (pv 3))))))
 (pss_one (ps_ret (pv 2))))))⟩

def der_stood {P : Program} {w : World} {K : PySem.W.Frag} {mg : Str → Option Value} {base : Heap} (B : Bi mg) {fd_free_from : FuncData} {sp_free_from : Sp} (C_free_from : Cal P w K mg base CX0 1 "free_from" P_free_from sp_free_from fd_free_from) {f : Addr} {cdv : Value} {A : Around} {outer : List Env} {s : Shared} {H : Hp} {E : XK}
    (hr : Room 1 (A.deeper (envOfC "stood" (defScope s_stood) s.heap.objs.size f cdv))) :
    {t : TS // PSs (cxOf CX0 P w K mg base N_stood "stood" (defScope s_stood) f cdv A outer s H E).nox (defBody s_stood) t} := ⟨_, (pss_cons (ps_setLc (i := 2) (own := [("place", 5)]) (g := (gName 5)) (tt := tYes) rfl sc_stood.nd rfl rfl (sw_true rfl rfl rfl (by decide +kernel))   (pi_range1 (by rfl) B.range (pa_cons (pe_op op_add (pv 0) pe_int) pa_nil)) (blkOk_by (own := [("place", 5)]) (N := N_stood) (sc := defScope s_stood) (by decide +kernel)) (fun _ _ _ _ _ => (pg_name (i := 5) sc_stood.nd rfl (Or.inl rfl) (Or.inr rfl))) (fun _ _ _ _ _ => pts_nil) (fun _ _ _ _ _ => (pv 5)))
 (pss_cons (ps_set (i := 3) sc_stood.nd rfl (Or.inl rfl) (pe_lst pa_nil))
 (pss_cons (ps_for PassesOwn.never rfl (pi_list (pv 1)) (pg_name (i := 4) sc_stood.nd rfl (Or.inl rfl))
 (pss_cons (ps_set (i := 5) sc_stood.nd rfl (Or.inl rfl) (pe_call C_free_from.ok (hr.mono (by decide)) (by rfl) C_free_from.gl C_free_from.kp C_free_from.bd .nil pass0 (pa_cons (pv 2) (pa_cons (pv 4) pa_nil))))
 (pss_cons (ps_expr (pe_bm PySem.F.plainAttrs_list PySem.F.slot_list_append PySem.F.type_list_append mt_append (pv 3) (pa_cons (pv 5) pa_nil)))
 (pss_one (ps_if (pt_cmpR op_lt (pv 5) (pv 0) (nomark _))
 (pss_one (ps_asg (pe_op op_add (pv 5) pe_int) (pg_sub (pv 2) (pv 5) set_list)))
 pss_nil)))))
 (pss_one (ps_ret (pv 3))))))⟩

def der_crowd_of {P : Program} {w : World} {K : PySem.W.Frag} {mg : Str → Option Value} {base : Heap} (B : Bi mg) {fd_counted : FuncData} {sp_counted : Sp} (C_counted : Cal P w K mg base CX0 1 "counted" P_counted sp_counted fd_counted) {f : Addr} {cdv : Value} {A : Around} {outer : List Env} {s : Shared} {H : Hp} {E : XK}
    (hr : Room 1 (A.deeper (envOfC "crowd_of" (defScope s_crowd_of) s.heap.objs.size f cdv))) :
    {t : TS // PSs (cxOf CX0 P w K mg base N_crowd_of "crowd_of" (defScope s_crowd_of) f cdv A outer s H E).nox (defBody s_crowd_of) t} := ⟨_, (pss_cons (ps_set (i := 2) sc_crowd_of.nd rfl (Or.inl rfl) (pe_call C_counted.ok (hr.mono (by decide)) (by rfl) C_counted.gl C_counted.kp C_counted.bd .nil pass0 (pa_cons (pv 0) (pa_cons (pv 1) pa_nil))))
 (pss_cons (ps_set (i := 3) sc_crowd_of.nd rfl (Or.inl rfl) pe_int)
 (pss_cons (ps_set (i := 4) sc_crowd_of.nd rfl (Or.inl rfl) (pe_un un_neg pe_int))
 (pss_cons (ps_for PassesOwn.never rfl (pi_revR (by rfl) B.reversed (prg_1 (by rfl) B.range (pv 0))) (pg_name (i := 5) sc_crowd_of.nd rfl (Or.inl rfl))
 (pss_cons (ps_set (i := 3) sc_crowd_of.nd rfl (Or.inl rfl) (pe_op op_add (pv 3) (pe_ix (r := rIxL K) ix_list (pv 2) (pv 5) (fun _ _ => rfl))))
 (pss_one (ps_if (pt_cmpR op_gt (pv 3) (pe_op op_sub (pv 0) (pv 5)) (nomark _))
 (pss_one (ps_set (i := 4) sc_crowd_of.nd rfl (Or.inl rfl) (pv 5)))
 pss_nil))))
 (pss_one (ps_ret (pv 4)))))))⟩

def der_counted {P : Program} {w : World} {K : PySem.W.Frag} {mg : Str → Option Value} {base : Heap} (B : Bi mg) {f : Addr} {cdv : Value} {A : Around} {outer : List Env} {s : Shared} {H : Hp} {E : XK}
    (hr : Room 0 (A.deeper (envOfC "counted" (defScope s_counted) s.heap.objs.size f cdv))) :
    {t : TS // PSs (cxOf CX0 P w K mg base N_counted "counted" (defScope s_counted) f cdv A outer s H E).nox (defBody s_counted) t} := ⟨_, (pss_cons (ps_setLc (i := 2) (own := [("place", 4)]) (g := (gName 4)) (tt := tYes) rfl sc_counted.nd rfl rfl (sw_true rfl rfl rfl (by decide +kernel))   (pi_range1 (by rfl) B.range (pa_cons (pv 0) pa_nil)) (blkOk_by (own := [("place", 4)]) (N := N_counted) (sc := defScope s_counted) (by decide +kernel)) (fun _ _ _ _ _ => (pg_name (i := 4) sc_counted.nd rfl (Or.inl rfl) (Or.inr rfl))) (fun _ _ _ _ _ => pts_nil) (fun _ _ _ _ _ => pe_int))
 (pss_cons (ps_for PassesOwn.never rfl (pi_list (pv 1)) (pg_name (i := 3) sc_counted.nd rfl (Or.inl rfl))
 (pss_one (ps_asg (pe_op op_add (pe_ix (r := rIxL K) ix_list (pv 2) (pv 3) (fun _ _ => rfl)) pe_int) (pg_sub (pv 2) (pv 3) set_list))))
 (pss_one (ps_ret (pv 2)))))⟩

def der_parked {P : Program} {w : World} {K : PySem.W.Frag} {mg : Str → Option Value} {base : Heap} {fd_asked_wishes : FuncData} {sp_asked_wishes : Sp} (C_asked_wishes : Cal P w K mg base CX0 2 "asked_wishes" P_asked_wishes sp_asked_wishes fd_asked_wishes) {fd_crowd_of : FuncData} {sp_crowd_of : Sp} (C_crowd_of : Cal P w K mg base CX0 2 "crowd_of" P_crowd_of sp_crowd_of fd_crowd_of) {fd_stood : FuncData} {sp_stood : Sp} (C_stood : Cal P w K mg base CX0 2 "stood" P_stood sp_stood fd_stood) {fdm_Crowd : FuncData} {spm_Crowd : Sp} (M_Crowd : MkF P w K mg base "Crowd" 1 P_Crowd_init spm_Crowd fdm_Crowd) {fdm_Parked : FuncData} {spm_Parked : Sp} (M_Parked : MkF P w K mg base "Parked" 1 P_Parked_init spm_Parked fdm_Parked) {f : Addr} {cdv : Value} {A : Around} {outer : List Env} {s : Shared} {H : Hp} {E : XK}
    (hr : Room 2 (A.deeper (envOfC "parked" (defScope s_parked) s.heap.objs.size f cdv))) :
    {t : TS // PSs (cxOf CX0 P w K mg base N_parked "parked" (defScope s_parked) f cdv A outer s H E).nox (defBody s_parked) t} := ⟨_, (pss_cons (ps_expr (pe_call C_asked_wishes.ok (hr.mono (by decide)) (by rfl) C_asked_wishes.gl C_asked_wishes.kp C_asked_wishes.bd .nil pass0 (pa_cons (pv 0) (pa_cons (pv 1) pa_nil))))
 (pss_cons (ps_set (i := 2) sc_parked.nd rfl (Or.inl rfl) (pe_call C_crowd_of.ok (hr.mono (by decide)) (by rfl) C_crowd_of.gl C_crowd_of.kp C_crowd_of.bd .nil pass0 (pa_cons (pv 0) (pa_cons (pv 1) pa_nil))))
 (pss_cons (ps_if (pt_cmpR op_ge (pv 2) pe_int (nomark _))
 (pss_one (ps_ret (pe_make M_Crowd.mk M_Crowd.ok (hr.mono (by decide)) (by rfl) M_Crowd.gl M_Crowd.bd .nil pass0 (pa_cons (pv 2) pa_nil))))
 pss_nil)
 (pss_one (ps_ret (pe_make M_Parked.mk M_Parked.ok (hr.mono (by decide)) (by rfl) M_Parked.gl M_Parked.bd .nil pass0 (pa_cons (pe_call C_stood.ok (hr.mono (by decide)) (by rfl) C_stood.gl C_stood.kp C_stood.bd .nil pass0 (pa_cons (pv 0) (pa_cons (pv 1) pa_nil))) pa_nil)))))))⟩

def der_as_list {P : Program} {w : World} {K : PySem.W.Frag} {mg : Str → Option Value} {base : Heap} (B : Bi mg) {f : Addr} {cdv : Value} {A : Around} {outer : List Env} {s : Shared} {H : Hp} {E : XK}
    (hr : Room 0 (A.deeper (envOfC "as_list" (defScope s_as_list) s.heap.objs.size f cdv))) :
    {t : TS // PSs (cxOf CX0 P w K mg base N_as_list "as_list" (defScope s_as_list) f cdv A outer s H E).nox (defBody s_as_list) t} := ⟨_, (pss_cons (ps_if (pt_not (pt_val (pe_callB (id := "isinstance") (r := rIsi K) call_isi (by rfl) B.isinstance (by decide +kernel) (pa_cons (pv 0) (pa_cons (pe_bltn (v := .ty "list") (by rfl) B.list (by decide +kernel) rfl) pa_nil)))))
 (pss_one ps_never)
 pss_nil)
 (pss_one (ps_ret (pv 0))))⟩

def der_ring {P : Program} {w : World} {K : PySem.W.Frag} {mg : Str → Option Value} {base : Heap} (B : Bi mg) {fd_asked_wishes : FuncData} {sp_asked_wishes : Sp} (C_asked_wishes : Cal P w K mg base CX0 2 "asked_wishes" P_asked_wishes sp_asked_wishes fd_asked_wishes) {fd_free_from : FuncData} {sp_free_from : Sp} (C_free_from : Cal P w K mg base CX0 1 "free_from" P_free_from sp_free_from fd_free_from) (X_TooMany : ExcF K mg "TooMany") {f : Addr} {cdv : Value} {A : Around} {outer : List Env} {s : Shared} {H : Hp} {E : XK}
    (hr : Room 2 (A.deeper (envOfC "ring" (defScope s_ring) s.heap.objs.size f cdv))) :
    {t : TS // PSs (cxOf (L2N.CX P w) P w K mg base N_ring "ring" (defScope s_ring) f cdv A outer s H E) (defBody s_ring) t} := ⟨_, (pss_cons (ps_expr (pe_call C_asked_wishes.ok (hr.mono (by decide)) (by rfl) C_asked_wishes.gl C_asked_wishes.kp C_asked_wishes.bd .nil pass0 (pa_cons (pv 0) (pa_cons (pv 1) pa_nil))))
 (pss_cons (ps_if (pt_cmpR op_gt (pe_callB (id := "len") (r := rLenS K) call_len_seq (by rfl) B.len (by decide +kernel) (pa_cons (pv 1) pa_nil)) (pv 0) (nomark _))
 (pss_one (L2N.ps_raise rfl (L2N.takes_of rfl rfl rfl rfl) (L2N.pmk_own PySem.F.excBase_ValueError X_TooMany.ex X_TooMany.gl X_TooMany.kp (raises_own X_TooMany.be X_TooMany.ty) rfl)))
 pss_nil)
 (pss_cons (ps_setLc (i := 2) (own := [("place", 6)]) (g := (gName 6)) (tt := tYes) rfl sc_ring.nd rfl rfl (sw_true rfl rfl rfl (by decide +kernel))   (pi_range1 (by rfl) B.range (pa_cons (pv 0) pa_nil)) (blkOk_by (own := [("place", 6)]) (N := N_ring) (sc := defScope s_ring) (by decide +kernel)) (fun _ _ _ _ _ => (pg_name (i := 6) sc_ring.nd rfl (Or.inl rfl) (Or.inr rfl))) (fun _ _ _ _ _ => pts_nil) (fun _ _ _ _ _ => (pv 6)))
 (pss_cons (ps_set (i := 3) sc_ring.nd rfl (Or.inl rfl) (pv 0))
 (pss_cons (ps_set (i := 4) sc_ring.nd rfl (Or.inl rfl) (pe_lst pa_nil))
 (pss_cons (ps_for (passes_of rfl) rfl (pi_list (pv 1)) (pg_name (i := 5) sc_ring.nd rfl (Or.inl rfl))
 (pss_cons (ps_set (i := 6) sc_ring.nd rfl (Or.inl rfl) (pe_call C_free_from.ok (hr.mono (by decide)) (by rfl) C_free_from.gl C_free_from.kp C_free_from.bd .nil pass0 (pa_cons (pv 2) (pa_cons (pv 5) pa_nil))))
 (pss_cons (ps_expr (pe_bm PySem.F.plainAttrs_list PySem.F.slot_list_append PySem.F.type_list_append mt_append (pv 4) (pa_cons (pv 6) pa_nil)))
 (pss_cons (ps_set (i := 3) sc_ring.nd rfl (Or.inl rfl) (pe_op op_sub (pv 3) pe_int))
 (pss_one (ps_if (pt_cmpR op_gt (pv 3) pe_int (nomark _))
 (pss_one (ps_asg (pe_op op_mod (pe_op op_add (pv 6) pe_int) (pv 0)) (pg_sub (pv 2) (pv 6) set_list)))
 pss_nil))))))
 (pss_one (ps_ret (pv 4)))))))))⟩

def der_turning {P : Program} {w : World} {K : PySem.W.Frag} {mg : Str → Option Value} {base : Heap} (B : Bi mg) {fd_as_list : FuncData} {sp_as_list : Sp} (C_as_list : Cal P w K mg base CX0 1 "as_list" P_as_list sp_as_list fd_as_list) {fd_ring : FuncData} {sp_ring : Sp} (C_ring : Cal P w K mg base (L2N.CX P w) 3 "ring" P_ring sp_ring fd_ring) {f : Addr} {cdv : Value} {A : Around} {outer : List Env} {s : Shared} {H : Hp} {E : XK}
    (hr : Room 3 (A.deeper (envOfC "turning" (defScope s_turning) s.heap.objs.size f cdv))) :
    {t : TS // PSs (cxOf CX0 P w K mg base N_turning "turning" (defScope s_turning) f cdv A outer s H E).nox (defBody s_turning) t} := ⟨_, (pss_cons (ps_set (i := 1) sc_turning.nd rfl (Or.inl rfl) (pe_op op_add (pe_callB (id := "len") (r := rLenS K) call_len_seq (by rfl) B.len (by decide +kernel) (pa_cons (pe_call C_as_list.ok (hr.mono (by decide)) (by rfl) C_as_list.gl C_as_list.kp C_as_list.bd .nil pass0 (pa_cons (pv 0) pa_nil)) pa_nil)) pe_int))
 (pss_cons (ps_set (i := 2) sc_turning.nd rfl (Or.inl rfl) (pe_call C_ring.ok (hr.mono (by decide)) (by rfl) C_ring.gl C_ring.kp C_ring.bd .nil passN (pa_cons (pv 1) (pa_cons (pv 0) pa_nil))))
 (pss_cons (ps_set (i := 3) sc_turning.nd rfl (Or.inl rfl) (pe_op op_sub (pe_op op_fdiv (pe_op op_mul (pv 1) (pe_op op_sub (pv 1) pe_int)) pe_int) (pe_callB (id := "sum") (r := rSum K) (cr_sum rfl) (by rfl) B.sum (by decide +kernel) (pa_cons (pv 2) pa_nil))))
 (pss_one (ps_ret (pe_op op_mod (pe_op op_sub (pe_op op_sub (pv 1) pe_int) (pv 3)) (pv 1)))))))⟩

def der_turned {P : Program} {w : World} {K : PySem.W.Frag} {mg : Str → Option Value} {base : Heap} (B : Bi mg) {fd_as_list : FuncData} {sp_as_list : Sp} (C_as_list : Cal P w K mg base CX0 1 "as_list" P_as_list sp_as_list fd_as_list) {fd_asked_wishes : FuncData} {sp_asked_wishes : Sp} (C_asked_wishes : Cal P w K mg base CX0 2 "asked_wishes" P_asked_wishes sp_asked_wishes fd_asked_wishes) {f : Addr} {cdv : Value} {A : Around} {outer : List Env} {s : Shared} {H : Hp} {E : XK}
    (hr : Room 2 (A.deeper (envOfC "turned" (defScope s_turned) s.heap.objs.size f cdv))) :
    {t : TS // PSs (cxOf CX0 P w K mg base N_turned "turned" (defScope s_turned) f cdv A outer s H E).nox (defBody s_turned) t} := ⟨_, (pss_cons (ps_set (i := 2) sc_turned.nd rfl (Or.inr rfl) (pe_op op_add (pe_callB (id := "len") (r := rLenS K) call_len_seq (by rfl) B.len (by decide +kernel) (pa_cons (pe_call C_as_list.ok (hr.mono (by decide)) (by rfl) C_as_list.gl C_as_list.kp C_as_list.bd .nil pass0 (pa_cons (pv 0) pa_nil)) pa_nil)) pe_int))
 (pss_cons (ps_expr (pe_call C_asked_wishes.ok (hr.mono (by decide)) (by rfl) C_asked_wishes.gl C_asked_wishes.kp C_asked_wishes.bd .nil pass0 (pa_cons (pv 2) (pa_cons (pv 0) pa_nil))))
 (pss_cons (ps_if (PW.pt (pw_or (pt_not (pt_val (pe_callB (id := "isinstance") (r := rIsi K) call_isi (by rfl) B.isinstance (by decide +kernel) (pa_cons (pv 1) (pa_cons (pe_bltn (v := .ty "int") (by rfl) B.int (by decide +kernel) rfl) pa_nil))))) (pw_or1 (pt_val (pe_callB (id := "isinstance") (r := rIsi K) call_isi (by rfl) B.isinstance (by decide +kernel) (pa_cons (pv 1) (pa_cons (pe_bltn (v := .ty "bool") (by rfl) B.bool (by decide +kernel) rfl) pa_nil)))))))
 (pss_one ps_never)
 pss_nil)
 (pss_one (ps_ret (pe_lc (own := [("wish", 3)]) (g := (gName 3)) (tt := tYes) rfl sc_turned.nd (pi_list (pv 0)) (blkOk_by (own := [("wish", 3)]) (N := N_turned) (sc := defScope s_turned) (by decide +kernel)) (fun _ _ _ _ _ => (pg_name (i := 3) sc_turned.nd rfl (Or.inl rfl) (Or.inr rfl))) (fun _ _ _ _ _ => pts_nil) (fun _ _ _ _ _ => (pe_op op_mod (pe_op op_add (pv 3) (pv 1)) (pv 2)))))))))⟩

def der_law_empty {P : Program} {w : World} {K : PySem.W.Frag} {mg : Str → Option Value} {base : Heap} (B : Bi mg) {f : Addr} {cdv : Value} {A : Around} {outer : List Env} {s : Shared} {H : Hp} {E : XK}
    (hr : Room 0 (A.deeper (envOfC "_law_empty" (defScope s_law_empty) s.heap.objs.size f cdv))) :
    {t : TS // PSs (cxOf CX0 P w K mg base N_law_empty "_law_empty" (defScope s_law_empty) f cdv A outer s H E).nox (defBody s_law_empty) t} := ⟨_, (pss_cons (ps_setLc (i := 2) (own := [("place", 7)]) (g := (gName 7)) (tt := tYes) rfl sc_law_empty.nd rfl rfl (sw_true rfl rfl rfl (by decide +kernel))   (pi_range1 (by rfl) B.range (pa_cons (pv 0) pa_nil)) (blkOk_by (own := [("place", 7)]) (N := N_law_empty) (sc := defScope s_law_empty) (by decide +kernel)) (fun _ _ _ _ _ => (pg_name (i := 7) sc_law_empty.nd rfl (Or.inl rfl) (Or.inr rfl))) (fun _ _ _ _ _ => pts_nil) (fun _ _ _ _ _ => pe_int))
 (pss_cons (ps_for PassesOwn.never rfl (pi_list (pv 1)) (pg_name (i := 3) sc_law_empty.nd rfl (Or.inl rfl))
 (pss_one (ps_asg (pe_op op_add (pe_ix (r := rIxL K) ix_list (pv 2) (pv 3) (fun _ _ => rfl)) pe_int) (pg_sub (pv 2) (pv 3) set_list))))
 (pss_cons (ps_set (i := 4) sc_law_empty.nd rfl (Or.inl rfl) pe_int)
 (pss_cons (ps_set (i := 5) sc_law_empty.nd rfl (Or.inl rfl) pe_int)
 (pss_cons (ps_set (i := 6) sc_law_empty.nd rfl (Or.inl rfl) pe_int)
 (pss_cons (ps_for PassesOwn.never rfl (pi_range1 (by rfl) B.range (pa_cons (pv 0) pa_nil)) (pg_name (i := 7) sc_law_empty.nd rfl (Or.inl rfl))
 (pss_cons (ps_set (i := 4) sc_law_empty.nd rfl (Or.inl rfl) (pe_op op_sub (pe_op op_add (pv 4) (pe_ix (r := rIxL K) ix_list (pv 2) (pv 7) (fun _ _ => rfl))) pe_int))
 (pss_one (ps_if (pt_cmpR op_lt (pv 4) (pv 5) (nomark _))
 (pss_cons (ps_set (i := 5) sc_law_empty.nd rfl (Or.inl rfl) (pv 4))
 (pss_one (ps_set (i := 6) sc_law_empty.nd rfl (Or.inl rfl) (pv 7))))
 pss_nil))))
 (pss_one (ps_ret (pv 6)))))))))⟩

def der_law_numbers {P : Program} {w : World} {K : PySem.W.Frag} {mg : Str → Option Value} {base : Heap} (B : Bi mg) {f : Addr} {cdv : Value} {A : Around} {outer : List Env} {s : Shared} {H : Hp} {E : XK}
    (hr : Room 0 (A.deeper (envOfC "_law_numbers" (defScope s_law_numbers) s.heap.objs.size f cdv))) :
    {t : TS // PSs (cxOf CX0 P w K mg base N_law_numbers "_law_numbers" (defScope s_law_numbers) f cdv A outer s H E).nox (defBody s_law_numbers) t} := ⟨_, (pss_cons (ps_if (pt_not (pt_val (pe_callB (id := "isinstance") (r := rIsi K) call_isi (by rfl) B.isinstance (by decide +kernel) (pa_cons (pv 0) (pa_cons (pe_bltn (v := .ty "list") (by rfl) B.list (by decide +kernel) rfl) pa_nil)))))
 (pss_one (ps_ret pe_bl))
 pss_nil)
 (pss_one (ps_ret (pe_callB (id := "all") (r := rAll K) (cr_all rfl) (by rfl) B.all (by decide +kernel) (pa_cons (pe_lc (own := [("one", 1)]) (g := (gName 1)) (tt := tYes) rfl sc_law_numbers.nd (pi_list (pv 0)) (blkOk_by (own := [("one", 1)]) (N := N_law_numbers) (sc := defScope s_law_numbers) (by decide +kernel)) (fun _ _ _ _ _ => (pg_name (i := 1) sc_law_numbers.nd rfl (Or.inl rfl) (Or.inr rfl))) (fun _ _ _ _ _ => pts_nil) (fun _ _ _ _ _ => (pe_and (pe_callB (id := "isinstance") (r := rIsi K) call_isi (by rfl) B.isinstance (by decide +kernel) (pa_cons (pv 1) (pa_cons (pe_bltn (v := .ty "int") (by rfl) B.int (by decide +kernel) rfl) pa_nil))) (pe_one (pe_not (pe_callB (id := "isinstance") (r := rIsi K) call_isi (by rfl) B.isinstance (by decide +kernel) (pa_cons (pv 1) (pa_cons (pe_bltn (v := .ty "bool") (by rfl) B.bool (by decide +kernel) rfl) pa_nil)))))))) pa_nil)))))⟩

def der_law_full {P : Program} {w : World} {K : PySem.W.Frag} {mg : Str → Option Value} {base : Heap} (B : Bi mg) {fd_parked : FuncData} {sp_parked : Sp} (C_parked : Cal P w K mg base CX0 3 "parked" P_parked sp_parked fd_parked) (G_Parked : mg "Parked" = some (.ref (ga K "Parked"))) {f : Addr} {cdv : Value} {A : Around} {outer : List Env} {s : Shared} {H : Hp} {E : XK}
    (hr : Room 3 (A.deeper (envOfC "_law_full" (defScope s_law_full) s.heap.objs.size f cdv))) :
    {t : TS // PSs (cxOf CX0 P w K mg base N_law_full "_law_full" (defScope s_law_full) f cdv A outer s H E).nox (defBody s_law_full) t} := ⟨_, (pss_cons (ps_if (pt_cmpR (r := rIn K false) op_in_seq (pv 0) (pv 1) rfl)
 (pss_one (ps_ret pe_bl))
 pss_nil)
 (pss_one (ps_ret (pe_or (pe_cmpR op_eq (pv 0) pe_int (nomark _)) (pe_one (pe_callB (id := "isinstance") (r := rIsI K) call_isI (by rfl) B.isinstance (by decide +kernel) (pa_cons (pe_call C_parked.ok (hr.mono (by decide)) (by rfl) C_parked.gl C_parked.kp C_parked.bd .nil pass0 (pa_cons (pv 0) (pa_cons (pv 1) pa_nil))) (pa_cons (pe_glob (v := .ref (ga K "Parked")) rfl G_Parked rfl) pa_nil))))))))⟩

def der_law {P : Program} {w : World} {K : PySem.W.Frag} {mg : Str → Option Value} {base : Heap} (B : Bi mg) {fd_law_empty : FuncData} {sp_law_empty : Sp} (C_law_empty : Cal P w K mg base CX0 1 "_law_empty" P_law_empty sp_law_empty fd_law_empty) {fd_law_full : FuncData} {sp_law_full : Sp} (C_law_full : Cal P w K mg base CX0 4 "_law_full" P_law_full sp_law_full fd_law_full) {fd_law_numbers : FuncData} {sp_law_numbers : Sp} (C_law_numbers : Cal P w K mg base CX0 1 "_law_numbers" P_law_numbers sp_law_numbers fd_law_numbers) {fd_parked : FuncData} {sp_parked : Sp} (C_parked : Cal P w K mg base CX0 3 "parked" P_parked sp_parked fd_parked) {fd_turned : FuncData} {sp_turned : Sp} (C_turned : Cal P w K mg base CX0 3 "turned" P_turned sp_turned fd_turned) {fd_turning : FuncData} {sp_turning : Sp} (C_turning : Cal P w K mg base CX0 4 "turning" P_turning sp_turning fd_turning) (G_Crowd : mg "Crowd" = some (.ref (ga K "Crowd"))) {f : Addr} {cdv : Value} {A : Around} {outer : List Env} {s : Shared} {H : Hp} {E : XK}
    (hr : Room 4 (A.deeper (envOfC "law" (defScope s_law) s.heap.objs.size f cdv))) :
    {t : TS // PSs (cxOf CX0 P w K mg base N_law "law" (defScope s_law) f cdv A outer s H E).nox (defBody s_law) t} := ⟨_, (pss_cons (ps_set (i := 1) sc_law.nd rfl (Or.inr rfl) (pe_callB (id := "len") (r := rLenS K) call_len_seq (by rfl) B.len (by decide +kernel) (pa_cons (pe_slice (r := rSlL K) sl_list (pv 0) po_none (po_some pe_int)) pa_nil)))
 (pss_cons (ps_setLc (i := 2) (own := [("cell", 7)]) (g := (gName 7)) (tt := tYes) rfl sc_law.nd rfl rfl (sw_true rfl rfl rfl (by decide +kernel))   (pi_list (pe_slice (r := rSlL K) sl_list (pv 0) po_none (po_some pe_int))) (blkOk_by (own := [("cell", 7)]) (N := N_law) (sc := defScope s_law) (by decide +kernel)) (fun _ _ _ _ _ => (pg_name (i := 7) sc_law.nd rfl (Or.inl rfl) (Or.inr rfl))) (fun _ _ _ _ _ => pts_nil) (fun _ _ _ _ _ => (pe_op op_mod (pv 7) (pe_op op_add (pv 1) pe_int))))
 (pss_cons (ps_set (i := 3) sc_law.nd rfl (Or.inl rfl) (pe_callTy (T := "list") (r := rListS K) call_list_of (by rfl) B.list (by decide +kernel) (pa_cons (pv 2) pa_nil)))
 (pss_cons (ps_set (i := 4) sc_law.nd rfl (Or.inl rfl) (pe_call C_turning.ok (hr.mono (by decide)) (by rfl) C_turning.gl C_turning.kp C_turning.bd .nil pass0 (pa_cons (pv 3) pa_nil)))
 (pss_cons (ps_if (PW.pt (pw_or (pt_not (pt_val (pe_call C_law_numbers.ok (hr.mono (by decide)) (by rfl) C_law_numbers.gl C_law_numbers.kp C_law_numbers.bd .nil pass0 (pa_cons (pe_lst (pa_cons (pv 4) pa_nil)) pa_nil)))) (pw_or (pt_cmpR op_ne (pv 4) (pe_op op_sub (pv 1) (pe_call C_law_empty.ok (hr.mono (by decide)) (by rfl) C_law_empty.gl C_law_empty.kp C_law_empty.bd .nil pass0 (pa_cons (pe_op op_add (pv 1) pe_int) (pa_cons (pv 2) pa_nil)))) (nomark _)) (pw_or1 (pt_cmpR (r := rNeD K) (op_neD hr.units) (pv 3) (pv 2) (nomark _))))))
 (pss_one (ps_ret pe_bl))
 pss_nil)
 (pss_cons (ps_for PassesOwn.never rfl (pi_list (pe_lst (pa_cons (pv 4) (pa_cons (pe_op op_add (pe_op op_add (pv 4) (pv 1)) pe_int) (pa_cons (pe_op op_sub (pe_op op_sub (pv 4) (pv 1)) pe_int) pa_nil))))) (pg_name (i := 5) sc_law.nd rfl (Or.inr rfl))
 (pss_cons (ps_set (i := 6) sc_law.nd rfl (Or.inl rfl) (pe_call C_turned.ok (hr.mono (by decide)) (by rfl) C_turned.gl C_turned.kp C_turned.bd .nil pass0 (pa_cons (pv 3) (pa_cons (pv 5) pa_nil))))
 (pss_cons (ps_if (PW.pt (pw_or (pt_not (pt_val (pe_call C_law_numbers.ok (hr.mono (by decide)) (by rfl) C_law_numbers.gl C_law_numbers.kp C_law_numbers.bd .nil pass0 (pa_cons (pv 6) pa_nil)))) (pw_or (pt_cmpR (r := rNeD K) (op_neD hr.units) (pv 6) (pe_lc (own := [("wish", 8)]) (g := (gName 8)) (tt := tYes) rfl sc_law.nd (pi_list (pv 2)) (blkOk_by (own := [("wish", 8)]) (N := N_law) (sc := defScope s_law) (by decide +kernel)) (fun _ _ _ _ _ => (pg_name (i := 8) sc_law.nd rfl (Or.inl rfl) (Or.inr rfl))) (fun _ _ _ _ _ => pts_nil) (fun _ _ _ _ _ => (pe_op op_mod (pe_op op_add (pv 8) (pv 5)) (pe_op op_add (pv 1) pe_int)))) (nomark _)) (pw_or1 (pt_cmpR (r := rNeD K) (op_neD hr.units) (pv 3) (pv 2) (nomark _))))))
 (pss_one (ps_ret pe_bl))
 pss_nil)
 (pss_cons (ps_if (PW.pt (pw_or (pt_not (pt_val (pe_call C_law_full.ok (hr.mono (by decide)) (by rfl) C_law_full.gl C_law_full.kp C_law_full.bd .nil pass0 (pa_cons (pv 1) (pa_cons (pv 6) pa_nil))))) (pw_or1 (pt_cmpR op_ne (pe_call C_turning.ok (hr.mono (by decide)) (by rfl) C_turning.gl C_turning.kp C_turning.bd .nil pass0 (pa_cons (pv 6) pa_nil)) pe_int (nomark _)))))
 (pss_one (ps_ret pe_bl))
 pss_nil)
 (pss_one (ps_expr (pe_bm PySem.F.plainAttrs_list PySem.F.slot_list_append PySem.F.type_list_append mt_append (pv 6) (pa_cons pe_int pa_nil))))))))
 (pss_cons (ps_for PassesOwn.never rfl (pi_list (pe_lst (pa_cons (pe_callB (id := "sum") (r := rSum K) (cr_sum rfl) (by rfl) B.sum (by decide +kernel) (pa_cons (pv 0) pa_nil)) (pa_cons pe_int (pa_cons (pe_un un_neg pe_int) pa_nil))))) (pg_name (i := 5) sc_law.nd rfl (Or.inr rfl))
 (pss_cons (ps_set (i := 6) sc_law.nd rfl (Or.inl rfl) (pe_call C_turned.ok (hr.mono (by decide)) (by rfl) C_turned.gl C_turned.kp C_turned.bd .nil pass0 (pa_cons (pv 3) (pa_cons (pv 5) pa_nil))))
 (pss_cons (ps_if (pt_cmpR (r := rNeD K) (op_neD hr.units) (pv 6) (pe_lc (own := [("wish", 8)]) (g := (gName 8)) (tt := tYes) rfl sc_law.nd (pi_list (pv 2)) (blkOk_by (own := [("wish", 8)]) (N := N_law) (sc := defScope s_law) (by decide +kernel)) (fun _ _ _ _ _ => (pg_name (i := 8) sc_law.nd rfl (Or.inl rfl) (Or.inr rfl))) (fun _ _ _ _ _ => pts_nil) (fun _ _ _ _ _ => (pe_op op_mod (pe_op op_add (pv 8) (pv 5)) (pe_op op_add (pv 1) pe_int)))) (nomark _))
 (pss_one (ps_ret pe_bl))
 pss_nil)
 (pss_cons (ps_if (pt_cmpR op_ne (pe_call C_law_full.ok (hr.mono (by decide)) (by rfl) C_law_full.gl C_law_full.kp C_law_full.bd .nil pass0 (pa_cons (pv 1) (pa_cons (pv 6) pa_nil))) (pe_cmpR op_eq (pe_op op_mod (pe_op op_sub (pv 5) (pv 4)) (pe_op op_add (pv 1) pe_int)) pe_int (nomark _)) (nomark _))
 (pss_one (ps_ret pe_bl))
 pss_nil)
 (pss_one (ps_if (PW.pt (pw_and (pt_cmpR op_gt (pv 1) pe_int (nomark _)) (pw_and (pt_cmpR (r := rIn K true) op_notIn_seq (pv 1) (pv 6) rfl) (pw_and1 (pt_cmpR op_ne (pe_callB (id := "isinstance") (r := rIsI K) call_isI (by rfl) B.isinstance (by decide +kernel) (pa_cons (pe_call C_parked.ok (hr.mono (by decide)) (by rfl) C_parked.gl C_parked.kp C_parked.bd .nil pass0 (pa_cons (pv 1) (pa_cons (pv 6) pa_nil))) (pa_cons (pe_glob (v := .ref (ga K "Crowd")) rfl G_Crowd rfl) pa_nil))) (pe_cmpR op_gt (pe_op op_mod (pe_op op_sub (pv 5) (pv 4)) (pe_op op_add (pv 1) pe_int)) pe_int (nomark _)) (nomark _))))))
 (pss_one (ps_ret pe_bl))
 pss_nil))))))
 (pss_one (ps_ret (pe_cmpR op_eq (pe_call C_turning.ok (hr.mono (by decide)) (by rfl) C_turning.gl C_turning.kp C_turning.bd .nil pass0 (pa_cons (pv 3) pa_nil)) (pv 4) (nomark _)))))))))))⟩

end Pk
namespace Pk
open PySem PySem.Spec PyProof.Rows L2 Evl He
abbrev FnP (K : PySem.W.Frag) (x : Str) (st : Stmt) (fd : FuncData) : Prop := FunD K x x (defArgs st) (defBody st) (defScope st) [] [] (ga K x) fd
/-- a def that lets nothing out -/
theorem FnP.ok {P : Program} {w : World} {K : PySem.W.Frag} {mg : Str → Option Value} {base : Heap} {x : Str} {st : Stmt} {fd : FuncData} {N ps : List Str} {k : Nat} {sp : Sp} (F : FnP K x st fd) (S : FnScope N ps (defScope st)) (len : ∀ vs H Q E, sp vs H Q E → vs.length = ps.length)
    (hbody : ∀ (cdv : Value) (A : Around) (outer : List Env) (s : Shared) (H : Hp) (vs : List V) (Q : VK) (E : XK), Room k (A.deeper (envOfC x (defScope st) s.heap.objs.size (ga K x) cdv)) → sp vs H Q E →
      ∃ t : {t : TS // PSs (cxOf CX0 P w K mg base N x (defScope st) (ga K x) cdv A outer s H E).nox (defBody st) t}, t.1 { nx := fun _ H' => Q .non H', rt := Q } (start N vs) H) : FnOk P w K mg base CX0 (k + 1) (ga K x) fd ps sp :=
  FunD.ok F S len fun cdv A outer s H vs Q E hr hsp => by
    obtain ⟨t, q⟩ := hbody cdv A outer s H vs Q E hr hsp
    exact ⟨t.1, t.2.nox, q⟩
theorem FnP.okX {P : Program} {w : World} {K : PySem.W.Frag} {mg : Str → Option Value} {base : Heap} {x : Str} {st : Stmt} {fd : FuncData} {N ps : List Str} {k : Nat} {sp : Sp} (F : FnP K x st fd) (S : FnScope N ps (defScope st)) (len : ∀ vs H Q E, sp vs H Q E → vs.length = ps.length)
    (hbody : ∀ (cdv : Value) (A : Around) (outer : List Env) (s : Shared) (H : Hp) (vs : List V) (Q : VK) (E : XK), Room k (A.deeper (envOfC x (defScope st) s.heap.objs.size (ga K x) cdv)) → sp vs H Q E →
      ∃ t : {t : TS // PSs (cxOf (L2N.CX P w) P w K mg base N x (defScope st) (ga K x) cdv A outer s H E) (defBody st) t}, t.1 { nx := fun _ H' => Q .non H', rt := Q } (start N vs) H) : FnOk P w K mg base (L2N.CX P w) (k + 1) (ga K x) fd ps sp :=
  FunD.ok F S len fun cdv A outer s H vs Q E hr hsp => by
    obtain ⟨t, q⟩ := hbody cdv A outer s H vs Q E hr hsp
    exact ⟨t.1, t.2, q⟩
section
variable {P : Program} {w : World} {K : PySem.W.Frag} {mg : Str → Option Value} {base : Heap}
open SX (S)
/-- an error of the class x, alone -/
abbrev RetT (K : PySem.W.Frag) (x : Str) (H : Hp) (E : XK) : Prop := ∀ H2, Ex H H2 → E (.ref (ga K x)) none H2
/-! ### is_number, of whole numbers -/
def spIsNumber : Sp := fun vs H Q _ => ∃ i lo hi : Int, vs = [.int i, .int lo, .int hi] ∧ RetV (.bl (decide (lo ≤ i ∧ i ≤ hi))) H Q
theorem ok_is_number {fd : FuncData} (F : FnP K "is_number" s_is_number fd) (B : Bi mg) : FnOk P w K mg base CX0 1 (ga K "is_number") fd P_is_number spIsNumber := by
  refine F.ok sc_is_number (fun vs H Q E h => ?_) (fun cdv A outer s H vs Q E hr h => ⟨der_is_number B hr, ?_⟩)
  · obtain ⟨i, lo, hi, rfl, _⟩ := h; rfl
  obtain ⟨i, lo, hi, rfl, q⟩ := h
  unfold der_is_number; dsimp only
  refine s_ret (v := .bl (true && (!false && decide (lo ≤ i ∧ i ≤ hi)))) ?_ ?_
  rotate_left
  · exact fun H1 e => q H1 e
  refine ev_andV (ev_cb (ea_cons (ev_var rfl) (ea_cons ev_c ea_nil)) (isi_int "int" (by decide +kernel))) fun _ => ?_
  refine ev_andV (ev_notV (ev_cb (ea_cons (ev_var rfl) (ea_cons ev_c ea_nil)) (isi_int "bool" (by decide +kernel)))) fun _ => ?_
  exact ev_chain (ev_var rfl) (ev_var rfl) (ev_var rfl) (by simp [Bool.decide_and])
theorem sv_num {H : Hp} {i lo hi : Int} : SpV spIsNumber [.int i, .int lo, .int hi] H (.bl (decide (lo ≤ i ∧ i ≤ hi))) := fun H1 e Q q E => ⟨i, lo, hi, rfl, q⟩
/-! ### asked_wishes, of wishes that are some -/
def spAsked (K : PySem.W.Frag) : Sp := fun vs H Q _ => ∃ (p : Nat) (a : Addr) (ws : List Nat), vs = [nat p, .ref a] ∧ 1 ≤ p ∧ p ≤ 1000000 ∧ SqL K H a (vn ws) ∧ ws.length ≤ 40000 ∧ (∀ x ∈ ws, x < p) ∧ RetV .non H Q
theorem ok_asked_wishes {fd fd1 : FuncData} {tk : Tok} (F : FnP K "asked_wishes" s_asked_wishes fd) (B : Bi mg) (C1 : Cal P w K mg base CX0 1 "is_number" P_is_number spIsNumber fd1) (gc : mg "PLACES" = some (.int 1000000 tk)) : FnOk P w K mg base CX0 2 (ga K "asked_wishes") fd P_asked_wishes (spAsked K) := by
  refine F.ok sc_asked_wishes (fun vs H Q E h => ?_) (fun cdv A outer s H vs Q E hr h => ⟨der_asked_wishes B C1 gc hr, ?_⟩)
  · obtain ⟨p, a, ws, rfl, _⟩ := h; rfl
  obtain ⟨p, a, ws, rfl, hp1, hp2, hS, hl, hw, q⟩ := h
  unfold der_asked_wishes; dsimp only
  have t1 : Ev (tCall spIsNumber [] E0 (tCons (tVar 0) (tCons (tC (.int 1)) (tCons (tC (.int 1000000)) tNil)))) (L2.start N_asked_wishes [nat p, .ref a]) H (.bl true) := by
    refine ev_is (ev_call (ea_cons (ev_var rfl) (ea_cons ev_c (ea_cons ev_c ea_nil))) sv_num) ?_
    congr 1
    exact decide_eq_true ⟨by omega, by omega⟩
  refine q_when (et_not (et_B t1)) (fun h => by cases h) fun _ H1 e1 => ?_
  have t2 : EvL (tLc (iList K (tVar 1)) (gName 2) tYes (tCall spIsNumber [] E0 (tCons (tVar 2) (tCons (tC (.int 0)) (tCons (tOp (rI0 fun i j => .int (i - j)) (tVar 0) (tC (.int 1))) tNil)))) [2]) (L2.start N_asked_wishes [nat p, .ref a]) H1 ((ws.map fun _ => true).map V.bl) := by
    rw [List.map_map]
    refine el_ls nat (V.bl ∘ fun _ => true) (ev_var rfl) (ex_l e1 hS) hl (fun _ => rfl) fun i y H2 e2 hy => ?_
    have hyp := hw y (List.mem_of_getElem? hy)
    refine ev_is (ev_call (ea_cons (ev_var rfl) (ea_cons ev_c (ea_cons (ev_sub (k := (p : Int) - 1) (ev_var rfl) ev_c rfl) ea_nil))) sv_num) ?_
    show V.bl (decide _) = V.bl true
    congr 1
    exact decide_eq_true ⟨by omega, by omega⟩
  have t3 : ((ws.map fun _ => true).all id) = true := by
    rw [List.all_map, List.all_eq_true]
    intro x _
    rfl
  refine s_when (et_or (et_not (et_B (ev_cb (ea_cons (ev_var rfl) (ea_cons ev_c ea_nil)) (isi_list (k := true) (ex_l e1 hS) "list" (by decide +kernel))))) fun _ => et_not (et_B (ev_allN t2))) (fun h => ?_) fun _ H2 e2 => q H2 (e1.trans e2)
  rw [t3] at h
  cases h
theorem sv_asked {H : Hp} {a : Addr} {p : Nat} {ws : List Nat} (h1 : 1 ≤ p) (hp : p ≤ 1000000) (h : SqL K H a (vn ws)) (hl : ws.length ≤ 40000) (hw : ∀ x ∈ ws, x < p) : SpV (spAsked K) [nat p, .ref a] H .non := fun H1 e Q q E => ⟨p, a, ws, rfl, h1, hp, ex_l e h, hl, hw, q⟩
/-! ### counted -/
def spCounted (K : PySem.W.Frag) : Sp := fun vs H Q _ => ∃ (p : Nat) (a : Addr) (ws : List Nat), vs = [nat p, .ref a] ∧ SqL K H a (vn ws) ∧ p ≤ 40000 ∧ (∀ x ∈ ws, x < p) ∧ RetL (vn (cnts p ws)) H Q
theorem ok_counted {fd : FuncData} (F : FnP K "counted" s_counted fd) (B : Bi mg) : FnOk P w K mg base CX0 1 (ga K "counted") fd P_counted (spCounted K) := by
  refine F.ok sc_counted (fun vs H Q E h => ?_) (fun cdv A outer s H vs Q E hr h => ⟨der_counted B hr, ?_⟩)
  · obtain ⟨p, a, ws, rfl, _⟩ := h; rfl
  obtain ⟨p, a, ws, rfl, hS, hp, hw, q⟩ := h
  unfold der_counted; dsimp only
  refine q_asgL (el_rng (n := p) (fun _ => nat 0) (ea_cons (ev_var rfl) ea_nil) hp (fun _ => rfl) (fun i H1 e hi => ev_c)) fun l H1 hl e1 h1 => ?_
  refine q_forP nat (ev_var rfl) (ex_l e1 hS) (fun pre σ' H' => ∃ v, σ' = [some (nat p), some (.ref a), some (.ref l), v, none] ∧ Ex H H' ∧ H' l = some (.lst (vn (cnts p pre)))) (fun H2 e2 => ?_) (fun pre σ' H' hI => ?_) (fun pre y post σ' H' hy hI => ?_) (fun σ' H' hI => ?_)
  · refine ⟨none, rfl, e1.trans e2, ?_⟩
    rw [e2 l _ h1, cnts_nil]
    unfold vn
    rw [List.map_map]
    rfl
  · obtain ⟨v, rfl, e, _⟩ := hI
    exact ex_l e hS
  · obtain ⟨v, rfl, e, h2⟩ := hI
    have hyp : y < p := hw y (by rw [hy]; simp)
    have g := vn_get (cnts_get (ws := pre) hyp)
    refine s_setL (j := y) h2 (v := nat (pre.count y + 1)) ?_ (ev_var rfl) (ev_var rfl) (by rw [List.length_map, cnts_len]; exact hyp) fun H3 e3 => ?_
    · exact ev_add (ev_ixN (ev_var rfl) (ev_var rfl) (sq_of h2) g) ev_c (by omega)
    · refine ⟨_, rfl, Ex.mut (e.trans e3) hl, ?_⟩
      rw [upd_same, ← cnts_add hyp]
      unfold vn
      rw [List.map_set]
  · obtain ⟨v, rfl, e, h2⟩ := hI
    exact s_ret (ev_var rfl) fun H3 e3 => q l H3 hl (e.trans e3) (e3 l _ h2)
theorem sl_counted {H : Hp} {a : Addr} {p : Nat} {ws : List Nat} (h : SqL K H a (vn ws)) (hp : p ≤ 40000) (hw : ∀ x ∈ ws, x < p) : SpL (spCounted K) [nat p, .ref a] H (vn (cnts p ws)) := fun H1 e Q q E => ⟨p, a, ws, rfl, ex_l e h, hp, hw, q⟩
/-! ### crowd_of -/
def spCrowd (K : PySem.W.Frag) : Sp := fun vs H Q _ => ∃ (p : Nat) (a : Addr) (ws : List Nat), vs = [nat p, .ref a] ∧ SqL K H a (vn ws) ∧ p ≤ 40000 ∧ (∀ x ∈ ws, x < p) ∧ RetV (.int (crowd p ws)) H Q
theorem ok_crowd_of {fd fd1 : FuncData} (F : FnP K "crowd_of" s_crowd_of fd) (B : Bi mg) (C1 : Cal P w K mg base CX0 1 "counted" P_counted (spCounted K) fd1) : FnOk P w K mg base CX0 2 (ga K "crowd_of") fd P_crowd_of (spCrowd K) := by
  refine F.ok sc_crowd_of (fun vs H Q E h => ?_) (fun cdv A outer s H vs Q E hr h => ⟨der_crowd_of B C1 hr, ?_⟩)
  · obtain ⟨p, a, ws, rfl, _⟩ := h; rfl
  obtain ⟨p, a, ws, rfl, hS, hp, hw, q⟩ := h
  unfold der_crowd_of; dsimp only
  refine q_asgL (el_call (ea_cons (ev_var rfl) (ea_cons (ev_var rfl) ea_nil)) (sl_counted hS hp hw)) fun l H1 hl e1 h1 => ?_
  refine q_asg ev_c fun H2 e2 => ?_
  refine q_asg (ev_un ev_c ru_neg) fun H3 e3 => ?_
  refine q_forRev (n := p) (ev_var rfl) (by omega) (fun k σ' H' => k ≤ p ∧ ∃ v, σ' = [some (nat p), some (.ref a), some (.ref l), some (nat (ge ws k)), some (.int (crow p ws (p - k))), v] ∧ Ex H1 H') (fun H4 e4 => ?_) (fun i σ' H' hi hI => ?_) (fun σ' H' hI => ?_)
  · refine ⟨Nat.le_refl _, none, ?_, (e2.trans e3).trans e4⟩
    rw [ge_top hw, Nat.sub_self]
    rfl
  · obtain ⟨_, v, rfl, e⟩ := hI
    have g := vn_get (cnts_get (ws := ws) hi)
    refine q_asg (ev_add (k := (ge ws i : Int)) (ev_var rfl) (ev_ixN (ev_var rfl) (ev_var rfl) (sq_of (e l _ h1)) g) (by rw [ge_succ ws i]; omega)) fun H5 e5 => ?_
    have ec : crow p ws (p - i) = if p - i < ge ws i then (i : Int) else crow p ws (p - (i + 1)) := by
      have e6 : p - i = (p - (i + 1)) + 1 := by omega
      rw [e6]
      show (if p - (p - ((p - (i + 1)) + 1)) < ge ws (p - ((p - (i + 1)) + 1)) then ((p - ((p - (i + 1)) + 1) : Nat) : Int) else _) = _
      have e7 : p - ((p - (i + 1)) + 1) = i := by omega
      rw [e7]
      have e8 : p - i = p - (i + 1) + 1 := by omega
      rw [e8]
    refine s_ifAsg (v := .int (crow p ws (p - i))) (et_test (ev_cmp (b := decide (p - i < ge ws i)) (ev_var rfl) (ev_sub (ev_var rfl) (ev_var rfl) rfl) ?_)) (fun hb => ?_) (fun hb => ?_) fun H6 e6 => ?_
    · rw [decide_eq_decide]
      omega
    · rw [ec, if_pos (of_decide_eq_true hb)]
      exact ev_var rfl
    · rw [ec, if_neg (of_decide_eq_false hb)]
      rfl
    · exact ⟨by omega, _, rfl, (e.trans e5).trans e6⟩
  · obtain ⟨_, v, rfl, e⟩ := hI
    exact s_ret (ev_var rfl) fun H5 e5 => q H5 ((e1.trans e).trans e5)
theorem sv_crowd {H : Hp} {a : Addr} {p : Nat} {ws : List Nat} (h : SqL K H a (vn ws)) (hp : p ≤ 40000) (hw : ∀ x ∈ ws, x < p) : SpV (spCrowd K) [nat p, .ref a] H (.int (crowd p ws)) := fun H1 e Q q E => ⟨p, a, ws, rfl, ex_l e h, hp, hw, q⟩
/-! ### as_list -/
def spAsList (K : PySem.W.Frag) : Sp := fun vs H Q _ => ∃ (a : Addr) (xs : List V), vs = [.ref a] ∧ SqL K H a xs ∧ RetV (.ref a) H Q
theorem ok_as_list {fd : FuncData} (F : FnP K "as_list" s_as_list fd) (B : Bi mg) : FnOk P w K mg base CX0 1 (ga K "as_list") fd P_as_list (spAsList K) := by
  refine F.ok sc_as_list (fun vs H Q E h => ?_) (fun cdv A outer s H vs Q E hr h => ⟨der_as_list B hr, ?_⟩)
  · obtain ⟨a, xs, rfl, _⟩ := h; rfl
  obtain ⟨a, xs, rfl, hS, q⟩ := h
  unfold der_as_list; dsimp only
  refine q_when (et_not (et_B (ev_cb (ea_cons (ev_var rfl) (ea_cons ev_c ea_nil)) (isi_list (k := true) hS "list" (by decide +kernel))))) (fun h => by cases h) fun _ H1 e1 => ?_
  exact s_ret (ev_var rfl) fun H2 e2 => q H2 (e1.trans e2)
theorem sv_asList {H : Hp} {a : Addr} {xs : List V} (h : SqL K H a xs) : SpV (spAsList K) [.ref a] H (.ref a) := fun H1 e Q q E => ⟨a, xs, rfl, ex_l e h, q⟩
/-! ### free_from, by any measure of the places ahead -/
theorem getD_get {st : List Nat} {i : Nat} (hi : i < st.length) : st[i]? = some (st.getD i 0) := by
  rw [List.getD_eq_getElem?_getD, List.getElem?_eq_getElem hi]
  rfl
/-- all but l as it was -/
def Ot (l : Addr) (H H' : Hp) : Prop := ∀ b o, b ≠ l → H b = some o → H' b = some o
theorem Ot.ex {l : Addr} {H H1 H2 : Hp} (f : Ot l H H1) (e : Ex H1 H2) : Ot l H H2 := fun b o hb ho => e b o (f b o hb ho)
theorem Ot.mut {l : Addr} {H H1 : Hp} {o : HO} (f : Ot l H H1) : Ot l H (upd H1 l o) := fun b u hb hu => by
  rw [upd_ne hb]
  exact f b u hb hu
theorem ot_of {l : Addr} {H H1 : Hp} (e : Ex H H1) : Ot l H H1 := fun b o _ h => e b o h
def spFree (K : PySem.W.Frag) : Sp := fun vs H Q _ => ∃ (l : Addr) (x n : Nat) (nf d : Nat → Nat) (ah : List Nat), vs = [.ref l, nat x] ∧ H l = some (.lst (vn ah)) ∧ Fr n nf d ah ∧ x < n ∧
  ∀ ah' H2, Fr n nf d ah' → Ot l H H2 → H2 l = some (.lst (vn ah')) → Q (nat (nf x)) H2
theorem ok_free_from {fd : FuncData} (F : FnP K "free_from" s_free_from fd) : FnOk P w K mg base CX0 1 (ga K "free_from") fd P_free_from (spFree K) := by
  refine F.ok sc_free_from (fun vs H Q E h => ?_) (fun cdv A outer s H vs Q E hr h => ⟨der_free_from hr, ?_⟩)
  · obtain ⟨l, x, n, nf, d, ah, rfl, _⟩ := h; rfl
  obtain ⟨l, x, n, nf, d, ah, rfl, hl, R, hx, q⟩ := h
  unfold der_free_from; dsimp only
  have hlen := R.len
  refine q_asg (ev_var rfl) fun H1 e1 => ?_
  refine q_while (fun m σ' H' => ∃ y, m = d y ∧ y < n ∧ nf y = nf x ∧ σ' = [some (.ref l), some (nat x), some (nat y), none] ∧ Ex H H') (d x) ⟨x, rfl, hx, rfl, rfl, e1⟩ fun m σ' H' hW => ?_
  obtain ⟨y, rfl, hy, hny, rfl, e2⟩ := hW
  have hya : (vn ah)[y]? = some (nat (ah.getD y 0)) := vn_get (getD_get (by omega))
  refine ⟨!decide (((ah.getD y 0 : Nat) : Int) = (y : Int)), et_test (ev_neInt (ev_ixN (ev_var rfl) (ev_var rfl) (sq_of (e2 l _ hl)) hya) (ev_var rfl)), (fun hb H3 e3 => ?_), fun hb H3 e3 => ?_⟩
  · have hne : ah.getD y 0 ≠ y := by
      intro e
      rw [e] at hb
      simp at hb
    refine ⟨fun σ2 H2 => σ2 = [some (.ref l), some (nat x), some (nat (ah.getD y 0)), none] ∧ Ex H H2, fun σ2 H2 hN => ?_, ?_⟩
    · obtain ⟨rfl, e4⟩ := hN
      exact ⟨_, R.ds y hy hne, _, rfl, R.lt y hy, by rw [R.on y hy, hny], rfl, e4⟩
    · exact s_asg (ev_ixN (ev_var rfl) (ev_var rfl) (sq_of (e3 l _ (e2 l _ hl))) hya) fun H4 e4 => ⟨rfl, e2.trans (e3.trans e4)⟩
  · have heq : ah.getD y 0 = y := by
      have h1 : decide (((ah.getD y 0 : Nat) : Int) = (y : Int)) = true := by simpa using hb
      have := of_decide_eq_true h1
      omega
    have hyf : nf y = y := (R.eq y hy).mp heq
    rw [hyf] at hny
    subst hny
    have N := R.nn x hx
    generalize hf : nf x = f at hy hyf N q heq hya hb
    refine q_while (fun m σ' H' => ∃ z ah' v3, m = d z ∧ z < n ∧ nf z = f ∧ Fr n nf d ah' ∧ σ' = [some (.ref l), some (nat z), some (nat f), v3] ∧ Ot l H H' ∧ H' l = some (.lst (vn ah'))) (d x) ⟨x, ah, none, rfl, hx, hf, R, rfl, ot_of (e2.trans e3), e3 l _ (e2 l _ hl)⟩ fun m σ' H' hW => ?_
    obtain ⟨z, ah', v3, rfl, hz, hzf, R', rfl, o4, h4⟩ := hW
    have hlen' := R'.len
    have hza : (vn ah')[z]? = some (nat (ah'.getD z 0)) := vn_get (getD_get (by omega))
    refine ⟨!decide (((ah'.getD z 0 : Nat) : Int) = (f : Int)), et_test (ev_neInt (ev_ixN (ev_var rfl) (ev_var rfl) (sq_of h4) hza) (ev_var rfl)), (fun hb H5 e5 => ?_), fun hb H5 e5 => ?_⟩
    · have hne : ah'.getD z 0 ≠ f := by
        intro e
        rw [e] at hb
        simp at hb
      have hzne : nf z ≠ z := by
        intro e
        have h1 := (R'.eq z hz).mpr e
        rw [hzf] at e
        exact hne (by rw [h1]; exact e.symm)
      have haz : ah'.getD z 0 ≠ z := fun e => hzne ((R'.eq z hz).mp e)
      refine ⟨fun σ2 H2 => σ2 = [some (.ref l), some (nat (ah'.getD z 0)), some (nat f), some (nat (ah'.getD z 0))] ∧ Ot l H H2 ∧ H2 l = some (.lst (vn (ah'.set z f))), fun σ2 H2 hN => ?_, ?_⟩
      · obtain ⟨rfl, o6, h6⟩ := hN
        have C := R'.cut hz hzne
        rw [hzf] at C
        exact ⟨_, R'.ds z hz haz, _, _, _, rfl, R'.lt z hz, by rw [R'.on z hz, hzf], C, rfl, o6, h6⟩
      · refine q_asg (ev_ixN (ev_var rfl) (ev_var rfl) (sq_of (e5 l _ h4)) hza) fun H6 e6 => ?_
        refine q_setL (j := z) (v := nat f) (e6 l _ (e5 l _ h4)) (ev_var rfl) (ev_var rfl) (ev_var rfl) (by rw [List.length_map]; omega) fun H7 e7 => ?_
        refine s_asg (ev_var rfl) fun H8 e8 => ⟨rfl, ((o4.ex (e5.trans (e6.trans e7))).mut).ex e8, ?_⟩
        rw [e8 l _ upd_same]
        unfold vn
        rw [List.map_set]
    · exact s_ret (ev_var rfl) fun H6 e6 => q ah' H6 R' (o4.ex (e5.trans e6)) (e6 l _ (e5 l _ h4))
theorem ot_fresh {l : Addr} {H0 H H' : Hp} (e : Ex H0 H) (hl : H0 l = none) (o : Ot l H H') : Ex H0 H' := fun b u hb => o b u (ne_of_none hb hl) (e b u hb)
theorem vn_app (ws : List Nat) (x : Nat) : vn (ws ++ [x]) = vn ws ++ [nat x] := by
  unfold vn
  rw [List.map_append]
  rfl
/-! ### stood -/
def spStood (K : PySem.W.Frag) : Sp := fun vs H Q _ => ∃ (p : Nat) (a : Addr) (ws : List Nat), vs = [nat p, .ref a] ∧ SqL K H a (vn ws) ∧ p ≤ 30000 ∧ ws.length ≤ 40000 ∧ (∀ x ∈ ws, x < p) ∧ RetL (vn (whereL p ws)) H Q
theorem ok_stood {fd fd1 : FuncData} (F : FnP K "stood" s_stood fd) (B : Bi mg) (C1 : Cal P w K mg base CX0 1 "free_from" P_free_from (spFree K) fd1) : FnOk P w K mg base CX0 2 (ga K "stood") fd P_stood (spStood K) := by
  refine F.ok sc_stood (fun vs H Q E h => ?_) (fun cdv A outer s H vs Q E hr h => ⟨der_stood B C1 hr, ?_⟩)
  · obtain ⟨p, a, ws, rfl, _⟩ := h; rfl
  obtain ⟨p, a, ws, rfl, hS, hp, hl, hw, q⟩ := h
  unfold der_stood; dsimp only
  refine q_asgL (xs := vn (List.range (p + 1))) (el_rng (n := p + 1) nat (ea_cons (ev_add (i := (p : Int)) (j := 1) (ev_var rfl) ev_c (by omega)) ea_nil) (by omega) (fun _ => rfl) (fun i H3 e3 hi => ev_var rfl)) fun la H3 hla e3 h3 => ?_
  refine q_asgL (el_lst (vs := vn []) ea_nil (Nat.zero_le _)) fun lo H5 hlo e5 h5 => ?_
  have hon : H lo = none := fresh_back e3 hlo
  have hne : la ≠ lo := ne_of_none h3 hlo
  refine q_forP nat (ev_var rfl) (ex_l (e3.trans e5) hS) (fun pre σ' H' => ∃ v4 v5 ah, σ' = [some (nat p), some (.ref a), some (.ref la), some (.ref lo), v4, v5] ∧ Ex H H' ∧ H' la = some (.lst (vn ah)) ∧ H' lo = some (.lst (vn (whereL p pre))) ∧ Frs p (whereL p pre) ah) (fun H6 e6 => ?_) (fun pre σ' H' hI => ?_) (fun pre y post σ' H' hy hI => ?_) (fun σ' H' hI => ?_)
  · exact ⟨none, none, List.range (p + 1), rfl, e3.trans (e5.trans e6), e6 la _ (e5 la _ h3), e6 lo _ h5, frs_start⟩
  · obtain ⟨v5, v6, ah, rfl, e, _⟩ := hI
    exact ex_l e hS
  · obtain ⟨v5, v6, ah, rfl, e, h6, h7, R⟩ := hI
    have hyp : y < p := hw y (by rw [hy]; simp)
    have hpl : pre.length < 40000 := by
      have : ws.length = pre.length + (post.length + 1) := by rw [hy, List.length_append, List.length_cons]
      omega
    have hwl := whereL_len p pre
    have hsn := whereL_snoc p pre y
    rw [hsn]
    generalize whereL p pre = occ at h7 R hwl
    have hfs := stand_sst (p := p) (x := y) occ (by omega)
    refine q_asgX (ea_cons (ev_var rfl) (ea_cons (ev_var rfl) ea_nil)) fun H8 e8 => ?_
    refine ⟨la, y, p + 1, _, _, ah, rfl, e8 la _ h6, R.fr, by omega, fun ah' H9 R' o9 h9 => ?_⟩
    have R2 := fr_frs R'
    have e09 : Ex H H9 := ot_fresh (e.trans e8) hla o9
    have h79 : H9 lo = some (.lst (vn occ)) := o9 lo _ hne.symm (e8 lo _ h7)
    generalize hfe : stand p occ y = f at hfs
    refine q_app (xs := vn occ) h79 (ev_var rfl) (ev_var rfl) (by rw [List.length_map]; omega) fun H10 e10 => ?_
    have h9' : upd H10 lo (.lst (vn occ ++ [nat f])) la = some (.lst (vn ah')) := by rw [upd_ne hne]; exact e10 la _ h9
    have e010 : Ex H (upd H10 lo (.lst (vn occ ++ [nat f]))) := Ex.mut (e09.trans e10) hon
    have hlo10 : upd H10 lo (.lst (vn occ ++ [nat f])) lo = some (.lst (vn (occ ++ [f]))) := by rw [upd_same, vn_app]
    generalize upd H10 lo (.lst (vn occ ++ [nat f])) = G at h9' e010 hlo10
    refine s_when (b := decide (f < p)) (et_test (ev_cmp (i := (f : Int)) (j := (p : Int)) (ev_var rfl) (ev_var rfl) (by rw [decide_eq_decide]; omega))) (fun hb H12 e12 => ?_) fun hb H12 e12 => ?_
    · have hlt := of_decide_eq_true hb
      refine s_setL (j := f) (v := nat (f + 1)) (e12 la _ h9') (ev_add (ev_var rfl) ev_c (by omega)) (ev_var rfl) (ev_var rfl) (by rw [List.length_map, R2.len]; omega) fun H13 e13 => ?_
      refine ⟨_, _, ah'.set f (f + 1), rfl, Ex.mut (e010.trans (e12.trans e13)) hla, ?_, ?_, frs_more R2 hlt (hfs.no hlt)⟩
      · rw [upd_same]
        unfold vn
        rw [List.map_set]
      · rw [upd_ne hne.symm]
        exact e13 lo _ (e12 lo _ hlo10)
    · have hfp : f = p := by have := of_decide_eq_false hb; have := hfs.hi; omega
      subst hfp
      exact ⟨_, _, ah', rfl, e010.trans e12, e12 la _ h9', e12 lo _ hlo10, frs_off R2⟩
  · obtain ⟨v5, v6, ah, rfl, e, h6, h7, _⟩ := hI
    exact s_ret (ev_var rfl) fun H8 e8 => q lo H8 hon (e.trans e8) (e8 lo _ h7)
theorem sl_stood {H : Hp} {a : Addr} {p : Nat} {ws : List Nat} (h : SqL K H a (vn ws)) (hp : p ≤ 30000) (hl : ws.length ≤ 40000) (hw : ∀ x ∈ ws, x < p) : SpL (spStood K) [nat p, .ref a] H (vn (whereL p ws)) := fun H1 e Q q E => ⟨p, a, ws, rfl, ex_l e h, hp, hl, hw, q⟩
/-! ### ring -/
def spRing (K : PySem.W.Frag) : Sp := fun vs H Q E => ∃ (p : Nat) (a : Addr) (ws : List Nat), vs = [nat p, .ref a] ∧ SqL K H a (vn ws) ∧ 1 ≤ p ∧ p ≤ 40000 ∧ ws.length ≤ 40000 ∧ (∀ x ∈ ws, x < p) ∧ (ws.length ≤ p → RetL (vn (whereR p ws)) H Q) ∧ (p < ws.length → RetT K "TooMany" H E)
theorem ok_ring {fd fd1 fd2 : FuncData} (F : FnP K "ring" s_ring fd) (B : Bi mg) (C1 : Cal P w K mg base CX0 2 "asked_wishes" P_asked_wishes (spAsked K) fd1) (C2 : Cal P w K mg base CX0 1 "free_from" P_free_from (spFree K) fd2) (X1 : ExcF K mg "TooMany") : FnOk P w K mg base (L2N.CX P w) 3 (ga K "ring") fd P_ring (spRing K) := by
  refine F.okX sc_ring (fun vs H Q E h => ?_) (fun cdv A outer s H vs Q E hr h => ⟨der_ring B C1 C2 X1 hr, ?_⟩)
  · obtain ⟨p, a, ws, rfl, _⟩ := h; rfl
  obtain ⟨p, a, ws, rfl, hS, hp1, hp, hl, hw, q, qE⟩ := h
  unfold der_ring; dsimp only
  refine q_drop (ev_call (ea_cons (ev_var rfl) (ea_cons (ev_var rfl) ea_nil)) (sv_asked hp1 (by omega) hS hl hw)) fun H1 e1 => ?_
  refine q_when (b := decide (p < ws.length)) (et_test (ev_cmp (i := (ws.length : Int)) (j := (p : Int)) (ev_lenS (ev_var rfl) (ex_l e1 hS) (by rw [List.length_map])) (ev_var rfl) (by rw [decide_eq_decide]; omega))) (fun hb H2 e2 => qE (of_decide_eq_true hb) H2 (e1.trans e2)) fun hb H2 e2 => ?_
  have hle : ws.length ≤ p := by have := of_decide_eq_false hb; omega
  refine q_asgL (xs := vn (List.range p)) (el_rng (n := p) nat (ea_cons (ev_var rfl) ea_nil) hp (fun _ => rfl) (fun i H3 e3 hi => ev_var rfl)) fun la H3 hla e3 h3 => ?_
  refine q_asg (ev_var rfl) fun H4 e4 => ?_
  refine q_asgL (el_lst (vs := vn []) ea_nil (Nat.zero_le _)) fun lo H5 hlo e5 h5 => ?_
  have han : H la = none := fresh_back (e1.trans e2) hla
  have e14 : Ex H H4 := e1.trans (e2.trans (e3.trans e4))
  have hon : H lo = none := fresh_back e14 hlo
  have hne : la ≠ lo := ne_of_none (e4 la _ h3) hlo
  refine q_forP nat (ev_var rfl) (ex_l (e14.trans e5) hS) (fun pre σ' H' => ∃ v5 v6 ah, σ' = [some (nat p), some (.ref a), some (.ref la), some (.int ((p : Int) - (pre.length : Int))), some (.ref lo), v5, v6] ∧ Ex H H' ∧ H' la = some (.lst (vn ah)) ∧ H' lo = some (.lst (vn (whereR p pre))) ∧ (pre.length < p → Fr p (rnf (whereR p pre) p) (rdist (whereR p pre) p) ah)) (fun H6 e6 => ?_) (fun pre σ' H' hI => ?_) (fun pre y post σ' H' hy hI => ?_) (fun σ' H' hI => ?_)
  · refine ⟨none, none, List.range p, ?_, e14.trans (e5.trans e6), e6 la _ (e5 la _ (e4 la _ h3)), e6 lo _ h5, fun _ => fr_start⟩
    show _ = [_, _, _, some (V.int ((p : Int) - ((0 : Nat) : Int))), _, _, _]
    rw [show (p : Int) - ((0 : Nat) : Int) = (p : Int) by omega]
    rfl
  · obtain ⟨v5, v6, ah, rfl, e, _⟩ := hI
    exact ex_l e hS
  · obtain ⟨v5, v6, ah, rfl, e, h6, h7, hF⟩ := hI
    have hyp : y < p := hw y (by rw [hy]; simp)
    have hpl : pre.length < p := by
      have : ws.length = pre.length + (post.length + 1) := by rw [hy, List.length_append, List.length_cons]
      omega
    have R := hF hpl
    have hwl := whereR_len p pre
    have hsn := whereR_snoc p pre y
    rw [hsn]
    have hfree : HasFree (whereR p pre) p := has_free (by omega)
    generalize whereR p pre = occ at h7 R hwl hfree
    have hfl := rnf_lt (occ := occ) (x := y) (show 0 < p by omega)
    have hff := rnf_free hfree hyp
    refine q_asgX (ea_cons (ev_var rfl) (ea_cons (ev_var rfl) ea_nil)) fun H8 e8 => ?_
    refine ⟨la, y, p, _, _, ah, rfl, e8 la _ h6, R, hyp, fun ah' H9 R' o9 h9 => ?_⟩
    have e09 : Ex H H9 := ot_fresh (e.trans e8) han o9
    have h79 : H9 lo = some (.lst (vn occ)) := o9 lo _ hne.symm (e8 lo _ h7)
    generalize hfe : rnf occ p y = f at hfl hff
    refine q_app (xs := vn occ) h79 (ev_var rfl) (ev_var rfl) (by rw [List.length_map]; omega) fun H10 e10 => ?_
    have h9' : upd H10 lo (.lst (vn occ ++ [nat f])) la = some (.lst (vn ah')) := by rw [upd_ne hne]; exact e10 la _ h9
    have e010 : Ex H (upd H10 lo (.lst (vn occ ++ [nat f]))) := Ex.mut (e09.trans e10) hon
    have hlo10 : upd H10 lo (.lst (vn occ ++ [nat f])) lo = some (.lst (vn (occ ++ [f]))) := by rw [upd_same, vn_app]
    generalize upd H10 lo (.lst (vn occ ++ [nat f])) = G at h9' e010 hlo10
    refine q_asg (v := .int ((p : Int) - ((pre ++ [y]).length : Int))) (ev_sub (ev_var rfl) ev_c (by rw [List.length_append, List.length_singleton]; omega)) fun H11 e11 => ?_
    refine s_when (b := decide ((pre ++ [y]).length < p)) (et_test (ev_cmp (i := (p : Int) - ((pre ++ [y]).length : Int)) (j := 0) (ev_var rfl) ev_c (by rw [decide_eq_decide]; omega))) (fun hb H12 e12 => ?_) fun hb H12 e12 => ?_
    · have hlt := of_decide_eq_true hb
      rw [List.length_append, List.length_singleton] at hlt
      have F2 : HasFree (occ ++ [f]) p := has_free (by rw [List.length_append, List.length_singleton]; omega)
      refine s_setL (j := f) (v := nat ((f + 1) % p)) (e12 la _ (e11 la _ h9')) (ev_mod (j := (p : Int)) (ev_add (ev_var rfl) ev_c rfl) (ev_var rfl) (by omega) (by push_cast; rfl)) (ev_var rfl) (ev_var rfl) (by rw [List.length_map, R'.len]; exact hfl) fun H13 e13 => ?_
      refine ⟨_, _, ah'.set f ((f + 1) % p), rfl, Ex.mut (e010.trans (e11.trans (e12.trans e13))) han, ?_, ?_, fun _ => fr_more R' F2 hfl hff⟩
      · rw [upd_same]
        unfold vn
        rw [List.map_set]
      · rw [upd_ne hne.symm]
        exact e13 lo _ (e12 lo _ (e11 lo _ hlo10))
    · exact ⟨_, _, ah', rfl, e010.trans (e11.trans e12), e12 la _ (e11 la _ h9'), e12 lo _ (e11 lo _ hlo10), fun h => absurd (decide_eq_true h) (by rw [hb]; decide)⟩
  · obtain ⟨v5, v6, ah, rfl, e, h6, h7, _⟩ := hI
    exact s_ret (ev_var rfl) fun H8 e8 => q hle lo H8 hon (e.trans e8) (e8 lo _ h7)
theorem sl_ring {H : Hp} {a : Addr} {p : Nat} {ws : List Nat} (h : SqL K H a (vn ws)) (hp1 : 1 ≤ p) (hp : p ≤ 40000) (hl : ws.length ≤ p) (hw : ∀ x ∈ ws, x < p) : SpL (spRing K) [nat p, .ref a] H (vn (whereR p ws)) := fun H1 e Q q E => ⟨p, a, ws, rfl, ex_l e h, hp1, hp, by omega, hw, fun _ => q, fun z => absurd hl (Nat.not_le.mpr z)⟩
end
end Pk
namespace Pk
open PySem PySem.Spec PyProof.Rows L2 Evl He
section
variable {P : Program} {w : World} {K : PySem.W.Frag} {mg : Str → Option Value} {base : Heap}
open SX (S)
/-! ### Parked, Crowd, parked -/
abbrev insP : List (Str × Bool) := [("Answer", true), ("Parked", true), ("Crowd", false)]
abbrev insC : List (Str × Bool) := [("Answer", true), ("Parked", false), ("Crowd", true)]
/-- what is known of the two classes -/
structure Two (K : PySem.W.Frag) : Prop where
  cP : Cls K (ga K "Parked")
  nP : NoAttr K (ga K "Parked") "where"
  cC : Cls K (ga K "Crowd")
  nC : NoAttr K (ga K "Crowd") "place"
  iP : InsX K "Parked" insP
  iC : InsX K "Crowd" insC
def spParkedI (K : PySem.W.Frag) : Sp := fun vs H Q _ => ∃ (x a dx : Addr) (xs : List V), vs = [.ref x, .ref a] ∧ H x = some (.ins (ga K "Parked") dx []) ∧ SqL K H a xs ∧ ∀ l H1, H l = none → Ex H H1 → H1 l = some (.lst xs) → Q .non (upd H1 x (.ins (ga K "Parked") dx [("where", .ref l)]))
theorem ok_Parked_init {fd : FuncData} (F : MeP K "Parked" "Parked.__init__" s_Parked_init fd) (B : Bi mg) (T : Two K) : FnOk P w K mg base CX0 1 (ma K (ga K "Parked") "__init__") fd P_Parked_init (spParkedI K) := by
  refine F.ok sc_Parked_init (fun vs H Q E h => ?_) (fun cdv A outer s H vs Q E hr h => ⟨der_Parked_init B hr, ?_⟩)
  · obtain ⟨x, a, dx, xs, rfl, _⟩ := h; rfl
  obtain ⟨x, a, dx, xs, rfl, hx, hS, q⟩ := h
  unfold der_Parked_init; dsimp only
  exact (el_list (K := K) (ta := tVar 1) (σ := [some (.ref x), some (.ref a)]) (ev_var rfl) hS) H (Ex.refl H) _ fun l H1 hl e1 h1 =>
    (ev_var (i := 0) (v := .ref x) (σ := [some (.ref x), some (.ref a)]) (H := H1) rfl) H1 (Ex.refl H1) _ fun H2 e2 => ⟨x, ga K "Parked", dx, [], rfl, e2 x _ (e1 x _ hx), T.cP, T.nP, by decide, q l H2 hl (e1.trans e2) (e2 l _ h1)⟩
def spCrowdI (K : PySem.W.Frag) : Sp := fun vs H Q _ => ∃ (x dx : Addr) (i : Int), vs = [.ref x, .int i] ∧ H x = some (.ins (ga K "Crowd") dx []) ∧ ∀ H1, Ex H H1 → Q .non (upd H1 x (.ins (ga K "Crowd") dx [("place", .int i)]))
theorem ok_Crowd_init {fd : FuncData} (F : MeP K "Crowd" "Crowd.__init__" s_Crowd_init fd) (T : Two K) : FnOk P w K mg base CX0 1 (ma K (ga K "Crowd") "__init__") fd P_Crowd_init (spCrowdI K) := by
  refine F.ok sc_Crowd_init (fun vs H Q E h => ?_) (fun cdv A outer s H vs Q E hr h => ⟨der_Crowd_init hr, ?_⟩)
  · obtain ⟨x, dx, i, rfl, _⟩ := h; rfl
  obtain ⟨x, dx, i, rfl, hx, q⟩ := h
  unfold der_Crowd_init; dsimp only
  exact (ev_var (i := 1) (v := .int i) (σ := [some (.ref x), some (.int i)]) (H := H) rfl) H (Ex.refl H) _ fun H1 e1 =>
    (ev_var (i := 0) (v := .ref x) (σ := [some (.ref x), some (.int i)]) (H := H1) rfl) H1 (Ex.refl H1) _ fun H2 e2 => ⟨x, ga K "Crowd", dx, [], rfl, e2 x _ (e1 x _ hx), T.cC, T.nC, by decide, q H2 (e1.trans e2)⟩
def IsParked (K : PySem.W.Frag) (H : Hp) (v : V) (x l : Addr) (xs : List V) : Prop := v = .ref x ∧ ∃ dx, H x = some (.ins (ga K "Parked") dx [("where", .ref l)]) ∧ H l = some (.lst xs)
def IsCrowd (K : PySem.W.Frag) (H : Hp) (v : V) (i : Int) : Prop := ∃ x dx, v = .ref x ∧ H x = some (.ins (ga K "Crowd") dx [("place", .int i)])
theorem IsParked.ex {H H1 : Hp} {v : V} {x l : Addr} {xs : List V} (h : IsParked K H v x l xs) (e : Ex H H1) : IsParked K H1 v x l xs := by
  obtain ⟨h1, dx, h2, h3⟩ := h
  exact ⟨h1, dx, e _ _ h2, e _ _ h3⟩
theorem IsCrowd.ex {H H1 : Hp} {v : V} {i : Int} (h : IsCrowd K H v i) (e : Ex H H1) : IsCrowd K H1 v i := by
  obtain ⟨x, dx, h1, h2⟩ := h
  exact ⟨x, dx, h1, e _ _ h2⟩
theorem ep_makeP {σ : L2.St} {H : Hp} {ta : TA} {E : XK} {xs : List V} (h : EvAP ta σ H (fun vs H2 => ∃ a, vs = [.ref a] ∧ SqL K H2 a xs)) : EvP (tMake (ga K "Parked") (spParkedI K) [] E ta) σ H (fun v H2 => ∃ x l, H x = none ∧ H l = none ∧ IsParked K H2 v x l xs) := fun H1 e Q q =>
  h H1 e _ fun vs H2 e2 hv x dx hx hdx hne => by
    obtain ⟨a, rfl, hS⟩ := hv
    have e3 : Ex H2 (upd (upd H2 dx (.own x)) x (.ins (ga K "Parked") dx [])) := Ex.mut (Ex.new hdx) hx
    refine ⟨x, a, dx, xs, rfl, upd_same, ex_l e3 hS, fun l H4 hl e4 h4 => ⟨rfl, ?_⟩⟩
    have hlx : l ≠ x := fun z => by rw [z, upd_same] at hl; cases hl
    have hl2 : H2 l = none := fresh_back e3 hl
    refine q _ _ (e2.trans (Ex.mut (e3.trans e4) hx)) ⟨x, l, fresh_back (e.trans e2) hx, fresh_back (e.trans e2) hl2, rfl, dx, upd_same, ?_⟩
    rw [upd_ne hlx]
    exact h4
theorem ep_makeC {σ : L2.St} {H : Hp} {ta : TA} {E : XK} {i : Int} (h : EvA ta σ H [.int i]) : EvP (tMake (ga K "Crowd") (spCrowdI K) [] E ta) σ H (fun v H2 => IsCrowd K H2 v i) := fun H1 e Q q =>
  h H1 e _ fun H2 e2 x dx hx hdx hne => by
    have e3 : Ex H2 (upd (upd H2 dx (.own x)) x (.ins (ga K "Crowd") dx [])) := Ex.mut (Ex.new hdx) hx
    exact ⟨x, dx, i, rfl, upd_same, fun H4 e4 => ⟨rfl, q _ _ (e2.trans (Ex.mut (e3.trans e4) hx)) ⟨x, dx, rfl, upd_same⟩⟩⟩
def spParked (K : PySem.W.Frag) : Sp := fun vs H Q _ => ∃ (p : Nat) (a : Addr) (ws : List Nat), vs = [nat p, .ref a] ∧ SqL K H a (vn ws) ∧ 1 ≤ p ∧ p ≤ 30000 ∧ ws.length ≤ 40000 ∧ (∀ x ∈ ws, x < p) ∧
  (crowd p ws < 0 → ∀ x l v H2, Ex H H2 → H x = none → H l = none → IsParked K H2 v x l (vn (whereL p ws)) → Q v H2) ∧ (0 ≤ crowd p ws → ∀ v H2, Ex H H2 → IsCrowd K H2 v (crowd p ws) → Q v H2)
theorem ok_parked {fd fd1 fd2 fd3 fd4 fd5 : FuncData} (F : FnP K "parked" s_parked fd) (C1 : Cal P w K mg base CX0 2 "asked_wishes" P_asked_wishes (spAsked K) fd1) (C2 : Cal P w K mg base CX0 2 "crowd_of" P_crowd_of (spCrowd K) fd2) (C3 : Cal P w K mg base CX0 2 "stood" P_stood (spStood K) fd3)
    (M1 : MkF P w K mg base "Crowd" 1 P_Crowd_init (spCrowdI K) fd4) (M2 : MkF P w K mg base "Parked" 1 P_Parked_init (spParkedI K) fd5) : FnOk P w K mg base CX0 3 (ga K "parked") fd P_parked (spParked K) := by
  refine F.ok sc_parked (fun vs H Q E h => ?_) (fun cdv A outer s H vs Q E hr h => ⟨der_parked C1 C2 C3 M1 M2 hr, ?_⟩)
  · obtain ⟨p, a, ws, rfl, _⟩ := h; rfl
  obtain ⟨p, a, ws, rfl, hS, hp1, hp, hl, hw, qP, qC⟩ := h
  unfold der_parked; dsimp only
  refine q_drop (ev_call (ea_cons (ev_var rfl) (ea_cons (ev_var rfl) ea_nil)) (sv_asked hp1 (by omega) hS hl hw)) fun H1 e1 => ?_
  refine q_asg (ev_call (ea_cons (ev_var rfl) (ea_cons (ev_var rfl) ea_nil)) (sv_crowd (ex_l e1 hS) (by omega) hw)) fun H2 e2 => ?_
  have e12 := e1.trans e2
  refine q_when (b := decide (0 ≤ crowd p ws)) (et_test (ev_cmp (ev_var rfl) ev_c rfl)) (fun hb H3 e3 => ?_) fun hb H3 e3 => ?_
  · exact s_retP (ep_makeC (i := crowd p ws) (ea_cons (ev_var rfl) ea_nil)) fun v H4 e4 hv => qC (of_decide_eq_true hb) v H4 (e12.trans (e3.trans e4)) hv
  · have hneg : crowd p ws < 0 := by have := of_decide_eq_false hb; omega
    have e13 := e12.trans e3
    refine s_retP (ep_makeP (xs := vn (whereL p ws)) ?_) fun v H4 e4 hv => ?_
    · intro H4 e4 Q' q'
      exact (eap_consL (el_call (vs := [nat p, .ref a]) (ea_cons (ev_var rfl) (ea_cons (ev_var rfl) ea_nil)) (sl_stood (ex_l e13 hS) hp hl hw)) eap_nil) H4 e4 Q' fun vs H5 e5 hv => by
        obtain ⟨l, _, rfl, _, h5, rfl⟩ := hv
        exact q' _ H5 e5 ⟨l, rfl, sq_of h5⟩
    · obtain ⟨x, l, hx, hl2, hP⟩ := hv
      exact qP hneg x l v H4 (e13.trans e4) (fresh_back e13 hx) (fresh_back e13 hl2) hP
/-! ### _law_numbers -/
def spNumbers (K : PySem.W.Frag) : Sp := fun vs H Q _ => ∃ (a : Addr) (ns : List Int), vs = [.ref a] ∧ SqL K H a (vi ns) ∧ ns.length ≤ 40000 ∧ RetV (.bl true) H Q
theorem ok_law_numbers {fd : FuncData} (F : FnP K "_law_numbers" s_law_numbers fd) (B : Bi mg) : FnOk P w K mg base CX0 1 (ga K "_law_numbers") fd P_law_numbers (spNumbers K) := by
  refine F.ok sc_law_numbers (fun vs H Q E h => ?_) (fun cdv A outer s H vs Q E hr h => ⟨der_law_numbers B hr, ?_⟩)
  · obtain ⟨a, ns, rfl, _⟩ := h; rfl
  obtain ⟨a, ns, rfl, hS, hl, q⟩ := h
  unfold der_law_numbers; dsimp only
  refine q_when (et_not (et_B (ev_cb (ea_cons (ev_var rfl) (ea_cons ev_c ea_nil)) (isi_list (k := true) hS "list" (by decide +kernel))))) (fun h => by cases h) fun _ H1 e1 => ?_
  have t3 : ((ns.map fun _ => true).all id) = true := by
    rw [List.all_map, List.all_eq_true]
    intro x _
    rfl
  refine s_ret (v := .bl ((ns.map fun _ => true).all id)) (ev_allN ?_) fun H2 e2 => by
    rw [t3]
    exact q H2 (e1.trans e2)
  rw [List.map_map]
  refine el_ls V.int _ (ev_var rfl) (ex_l e1 hS) hl (fun _ => rfl) fun i y H2 e2 hy => ?_
  show Ev _ _ _ (.bl (true && !false))
  exact ev_andV (ev_cb (ea_cons (ev_var rfl) (ea_cons ev_c ea_nil)) (isi_int "int" (by decide +kernel))) fun _ => ev_notV (ev_cb (ea_cons (ev_var rfl) (ea_cons ev_c ea_nil)) (isi_int "bool" (by decide +kernel)))
theorem sv_numbers {H : Hp} {a : Addr} {ns : List Int} (h : SqL K H a (vi ns)) (hl : ns.length ≤ 40000) : SpV (spNumbers K) [.ref a] H (.bl true) := fun H1 e Q q E => ⟨a, ns, rfl, ex_l e h, hl, q⟩
theorem sv_numbersN {H : Hp} {a : Addr} {ws : List Nat} (h : SqL K H a (vn ws)) (hl : ws.length ≤ 40000) : SpV (spNumbers K) [.ref a] H (.bl true) := sv_numbers (by rw [← vn_vi]; exact h) (by rw [List.length_map]; exact hl)
theorem cut_hi {xs : List V} {n : Nat} (h : xs.length ≤ n) : cutV xs none (some (n : Int)) = xs := by
  unfold cutV
  rw [HT.sIx_none, show HT.sIx xs.length xs.length (some (n : Int)) = min n xs.length from HT.sIx_nat xs.length xs.length n]
  rw [show min n xs.length - 0 = xs.length by omega]
  show (xs.drop 0).take xs.length = xs
  rw [List.drop_zero, List.take_length]
/-- script[:1000] -/
theorem el_cut {σ : L2.St} {H : Hp} {te : TE} {a : Addr} {xs : List V} (ha : Ev te σ H (.ref a)) (h : SqL K H a xs) (hl : xs.length ≤ 1000) : EvL (tSl (rSlL K) te tNoPart (tPart (tC (.int 1000)))) σ H xs := by
  have k := el_sl ha eo_none (eo_some (i := 1000) (te := tC (.int 1000)) ev_c) h
  rw [show ((1000 : Int)) = ((1000 : Nat) : Int) from rfl, cut_hi hl] at k
  exact k
theorem vn_cells (ns : List Int) {m : Nat} (hm : 0 < m) : (ns.map fun c => V.int (c % (m : Int))) = vn (cells ns m) := by
  unfold vn cells
  rw [List.map_map]
  refine List.map_congr_left fun c _ => ?_
  show V.int _ = V.int (((c % (m : Int)).toNat : Nat) : Int)
  have := Int.emod_nonneg c (show (m : Int) ≠ 0 from by omega)
  congr 1
  omega
/-! ### turning, turned -/
def spTurning (K : PySem.W.Frag) : Sp := fun vs H Q _ => ∃ (a : Addr) (ws : List Nat), vs = [.ref a] ∧ SqL K H a (vn ws) ∧ ws.length ≤ 20000 ∧ (∀ x ∈ ws, x < ws.length + 1) ∧ RetV (nat (ws.length - emptyOf ws)) H Q
theorem ok_turning {fd fd1 fd2 : FuncData} (F : FnP K "turning" s_turning fd) (B : Bi mg) (C1 : Cal P w K mg base CX0 1 "as_list" P_as_list (spAsList K) fd1) (C2 : Cal P w K mg base (L2N.CX P w) 3 "ring" P_ring (spRing K) fd2) : FnOk P w K mg base CX0 4 (ga K "turning") fd P_turning (spTurning K) := by
  refine F.ok sc_turning (fun vs H Q E h => ?_) (fun cdv A outer s H vs Q E hr h => ⟨der_turning B C1 C2 hr, ?_⟩)
  · obtain ⟨a, ws, rfl, _⟩ := h; rfl
  obtain ⟨a, ws, rfl, hS, hl, hw, q⟩ := h
  unfold der_turning; dsimp only
  have he := (emptyOf_is hw).lt
  have hs := ring_sum hw
  refine q_asg (v := nat (ws.length + 1)) (ev_add (i := (ws.length : Int)) (j := 1) (ev_lenS (ev_call (ea_cons (ev_var rfl) ea_nil) (sv_asList hS)) hS (by rw [List.length_map])) ev_c (by omega)) fun H1 e1 => ?_
  refine q_asgL (el_call (vs := [nat (ws.length + 1), .ref a]) (ea_cons (ev_var rfl) (ea_cons (ev_var rfl) ea_nil)) (sl_ring (ex_l e1 hS) (by omega) (by omega) (by omega) hw)) fun lo H2 hlo e2 h2 => ?_
  refine q_asg (v := nat (emptyOf ws)) (ev_sub (ev_div (ev_mul (ev_var rfl) (ev_sub (i := ((ws.length + 1 : Nat) : Int)) (j := 1) (ev_var rfl) ev_c rfl) (.inl ⟨by omega, by omega⟩) rfl) ev_c ⟨by decide, by decide⟩ rfl) (ev_sumN (ev_var rfl) (sq_of h2)) hs.symm) fun H3 e3 => ?_
  refine s_ret (v := nat (ws.length - emptyOf ws)) (ev_mod (i := ((ws.length + 1 : Nat) : Int) - 1 - (emptyOf ws : Int)) (j := ((ws.length + 1 : Nat) : Int)) (ev_sub (ev_sub (ev_var rfl) ev_c rfl) (ev_var rfl) rfl) (ev_var rfl) (by omega) ?_) fun H4 e4 => q H4 (e1.trans (e2.trans (e3.trans e4)))
  rw [Int.emod_eq_of_lt (by omega) (by omega)]
  omega
theorem sv_turning {H : Hp} {a : Addr} {ws : List Nat} (h : SqL K H a (vn ws)) (hl : ws.length ≤ 20000) (hw : ∀ x ∈ ws, x < ws.length + 1) : SpV (spTurning K) [.ref a] H (nat (ws.length - emptyOf ws)) := fun H1 e Q q E => ⟨a, ws, rfl, ex_l e h, hl, hw, q⟩
def spTurnedW (K : PySem.W.Frag) : Sp := fun vs H Q _ => ∃ (a : Addr) (b : Int) (ws : List Nat), vs = [.ref a, .int b] ∧ SqL K H a (vn ws) ∧ ws.length ≤ 20000 ∧ (∀ x ∈ ws, x < ws.length + 1) ∧ RetL (vn (turnI ws b)) H Q
theorem turnI_val (ws : List Nat) (b : Int) : vn (turnI ws b) = ws.map fun (w : Nat) => V.int (((w : Int) + b) % ((ws.length : Int) + 1)) := by
  unfold vn turnI
  rw [List.map_map]
  refine List.map_congr_left fun w _ => ?_
  have h1 := Int.emod_nonneg ((w : Int) + b) (show ((ws.length : Int) + 1) ≠ 0 by omega)
  show V.int _ = V.int _
  congr 1
  exact Int.toNat_of_nonneg h1
theorem ok_turned {fd fd1 fd2 : FuncData} (F : FnP K "turned" s_turned fd) (B : Bi mg) (C1 : Cal P w K mg base CX0 1 "as_list" P_as_list (spAsList K) fd1) (C2 : Cal P w K mg base CX0 2 "asked_wishes" P_asked_wishes (spAsked K) fd2) : FnOk P w K mg base CX0 3 (ga K "turned") fd P_turned (spTurnedW K) := by
  refine F.ok sc_turned (fun vs H Q E h => ?_) (fun cdv A outer s H vs Q E hr h => ⟨der_turned B C1 C2 hr, ?_⟩)
  · obtain ⟨a, b, ws, rfl, _⟩ := h; rfl
  obtain ⟨a, b, ws, rfl, hS, hl, hw, q⟩ := h
  unfold der_turned; dsimp only
  refine q_asg (v := nat (ws.length + 1)) (ev_add (i := (ws.length : Int)) (j := 1) (ev_lenS (ev_call (ea_cons (ev_var rfl) ea_nil) (sv_asList hS)) hS (by rw [List.length_map])) ev_c (by omega)) fun H1 e1 => ?_
  refine q_drop (ev_call (vs := [nat (ws.length + 1), .ref a]) (ea_cons (ev_var rfl) (ea_cons (ev_var rfl) ea_nil)) (sv_asked (by omega) (by omega) (ex_l e1 hS) (by omega) hw)) fun H2 e2 => ?_
  refine q_when (b := (!true) || false) (et_or (et_not (et_B (ev_cb (ea_cons (ev_var rfl) (ea_cons ev_c ea_nil)) (isi_int "int" (by decide +kernel))))) fun _ => et_B (ev_cb (ea_cons (ev_var rfl) (ea_cons ev_c ea_nil)) (isi_int "bool" (by decide +kernel)))) (fun z => by cases z) fun _ H3 e3 => ?_
  have e13 := e1.trans (e2.trans e3)
  refine s_retL (xs := vn (turnI ws b)) ?_ fun l H4 hl4 e4 h4 => q l H4 (fresh_back e13 hl4) (e13.trans e4) h4
  rw [turnI_val]
  exact el_ls nat _ (ev_var rfl) (ex_l e13 hS) (by omega) (fun _ => rfl) fun i y H4 e4 hy => ev_mod (j := (ws.length : Int) + 1) (ev_add (ev_var rfl) (ev_var rfl) rfl) (ev_is (ev_var rfl) (by show V.int ((ws.length + 1 : Nat) : Int) = _; congr 1)) (by omega) rfl
theorem sl_turned {H : Hp} {a : Addr} {b : Int} {ws : List Nat} (h : SqL K H a (vn ws)) (hl : ws.length ≤ 20000) (hw : ∀ x ∈ ws, x < ws.length + 1) : SpL (spTurnedW K) [.ref a, .int b] H (vn (turnI ws b)) := fun H1 e Q q E => ⟨a, b, ws, rfl, ex_l e h, hl, hw, q⟩
/-! ### _law_empty -/
def spEmpty (K : PySem.W.Frag) : Sp := fun vs H Q _ => ∃ (p : Nat) (a : Addr) (ws : List Nat), vs = [nat p, .ref a] ∧ p = ws.length + 1 ∧ SqL K H a (vn ws) ∧ ws.length ≤ 20000 ∧ (∀ x ∈ ws, x < p) ∧ RetV (nat (emptyOf ws)) H Q
theorem ok_law_empty {fd : FuncData} (F : FnP K "_law_empty" s_law_empty fd) (B : Bi mg) : FnOk P w K mg base CX0 1 (ga K "_law_empty") fd P_law_empty (spEmpty K) := by
  refine F.ok sc_law_empty (fun vs H Q E h => ?_) (fun cdv A outer s H vs Q E hr h => ⟨der_law_empty B hr, ?_⟩)
  · obtain ⟨p, a, ws, rfl, _⟩ := h; rfl
  obtain ⟨p, a, ws, rfl, hpl, hS, hl, hcb, q⟩ := h
  unfold der_law_empty; dsimp only
  refine q_asgL (el_rng (n := p) (fun _ => nat 0) (ea_cons (ev_var rfl) ea_nil) (by omega) (fun _ => rfl) (fun i H1 e hi => ev_c)) fun l H3 hl3 e3 h3 => ?_
  have hln : H l = none := hl3
  refine q_forP nat (ev_var rfl) (ex_l e3 hS) (fun pre σ' H' => ∃ v, σ' = [some (nat p), some (.ref a), some (.ref l), v, none, none, none, none] ∧ Ex H H' ∧ H' l = some (.lst (vn (cnts p pre)))) (fun H4 e4 => ?_) (fun pre σ' H' hI => ?_) (fun pre y post σ' H' hy hI => ?_) (fun σ' H' hI => ?_)
  · refine ⟨none, rfl, e3.trans e4, ?_⟩
    rw [e4 l _ h3, cnts_nil]
    unfold vn
    rw [List.map_map]
    rfl
  · obtain ⟨v, rfl, e, _⟩ := hI
    exact ex_l e hS
  · obtain ⟨v, rfl, e, h2⟩ := hI
    have hyp : y < p := hcb y (by rw [hy]; simp)
    have g := vn_get (cnts_get (ws := pre) hyp)
    refine s_setL (j := y) h2 (v := nat (pre.count y + 1)) ?_ (ev_var rfl) (ev_var rfl) (by rw [List.length_map, cnts_len]; exact hyp) fun H3 e3 => ?_
    · exact ev_add (ev_ixN (ev_var rfl) (ev_var rfl) (sq_of h2) g) ev_c (by omega)
    · refine ⟨_, rfl, Ex.mut (e.trans e3) hln, ?_⟩
      rw [upd_same, ← cnts_add hyp]
      unfold vn
      rw [List.map_set]
  obtain ⟨v, rfl, e, h5⟩ := hI
  refine q_asg ev_c fun H6 e6 => ?_
  refine q_asg ev_c fun H7 e7 => ?_
  refine q_asg ev_c fun H8 e8 => ?_
  have h8 : H8 l = some (.lst (vn (cnts p ws))) := e8 l _ (e7 l _ (e6 l _ h5))
  have e28 := e.trans ((e6.trans e7).trans e8)
  refine q_forR (n := p) (ea_cons (ev_var rfl) ea_nil) (by omega) (fun k σ' H' => ∃ v2, σ' = [some (nat p), some (.ref a), some (.ref l), v, some (.int (fwalk ws k).1), some (.int (fwalk ws k).2.1), some (nat (fwalk ws k).2.2), v2] ∧ Ex H8 H') (fun H9 e9 => ?_) (fun i σ' H' hi hI => ?_) (fun σ' H' hI => ?_)
  · exact ⟨none, rfl, e9⟩
  · obtain ⟨v2, rfl, e9⟩ := hI
    have g := vn_get (cnts_get (ws := ws) hi)
    refine q_asg (v := .int ((fwalk ws i).1 + (ws.count i : Int) - 1)) (ev_sub (ev_add (ev_var rfl) (ev_ixN (ev_var rfl) (ev_var rfl) (sq_of (e9 l _ h8)) g) rfl) ev_c rfl) fun H10 e10 => ?_
    refine s_when (b := decide ((fwalk ws i).1 + (ws.count i : Int) - 1 < (fwalk ws i).2.1)) (et_test (ev_cmp (ev_var rfl) (ev_var rfl) rfl)) (fun hb H11 e11 => ?_) (fun hb H11 e11 => ?_)
    · refine q_asg (ev_var rfl) fun H12 e12 => s_asg (ev_var rfl) fun H13 e13 => ?_
      have ef : fwalk ws (i + 1) = ((fwalk ws i).1 + (ws.count i : Int) - 1, (fwalk ws i).1 + (ws.count i : Int) - 1, i) := if_pos (of_decide_eq_true hb)
      exact ⟨some (nat i), by rw [ef]; rfl, (e9.trans e10).trans ((e11.trans e12).trans e13)⟩
    · have ef : fwalk ws (i + 1) = ((fwalk ws i).1 + (ws.count i : Int) - 1, (fwalk ws i).2.1, (fwalk ws i).2.2) := if_neg (of_decide_eq_false hb)
      exact ⟨some (nat i), by rw [ef]; rfl, (e9.trans e10).trans e11⟩
  · obtain ⟨v2, rfl, e9⟩ := hI
    have hE : (fwalk ws p).2.2 = emptyOf ws := by
      unfold emptyOf
      rw [hpl]
    rw [hE]
    exact s_ret (ev_var rfl) fun H10 e10 => q H10 (e28.trans (e9.trans e10))
theorem sv_empty {H : Hp} {a : Addr} {ws : List Nat} (h : SqL K H a (vn ws)) (hl : ws.length ≤ 20000) (hw : ∀ x ∈ ws, x < ws.length + 1) : SpV (spEmpty K) [nat (ws.length + 1), .ref a] H (nat (emptyOf ws)) := fun H1 e Q q E => ⟨_, a, ws, rfl, rfl, ex_l e h, hl, hw, q⟩
/-! ### _law_full: whether all stand -/
def GotF (K : PySem.W.Frag) (H0 H : Hp) (v : V) (p : Nat) (ws : List Nat) : Prop := (crowd p ws < 0 ∧ ∃ x l, H0 x = none ∧ H0 l = none ∧ IsParked K H v x l (vn (whereL p ws))) ∨ (0 ≤ crowd p ws ∧ IsCrowd K H v (crowd p ws))
theorem ep_parked {σ : L2.St} {H : Hp} {E : XK} {ta : TA} {p : Nat} {a : Addr} {ws : List Nat} (ha : EvA ta σ H [nat p, .ref a]) (h : SqL K H a (vn ws)) (hp1 : 1 ≤ p) (hp : p ≤ 30000) (hl : ws.length ≤ 40000) (hw : ∀ x ∈ ws, x < p) : EvP (tCall (spParked K) [] E ta) σ H (fun v H2 => GotF K H H2 v p ws) :=
  ep_call ha fun H1 e Q q E => ⟨p, a, ws, rfl, ex_l e h, hp1, hp, hl, hw, fun hc x l v H2 e2 hx hl2 hP => q v H2 e2 (.inl ⟨hc, x, l, fresh_back e hx, fresh_back e hl2, hP⟩), fun hc v H2 e2 hC => q v H2 e2 (.inr ⟨hc, hC⟩)⟩
theorem ev_isIP {σ : L2.St} {H : Hp} {ta : TE} {y : Str} {b : Bool} {Φ : V → Hp → Prop} (ha : EvP ta σ H Φ) (hf : ∀ v H1, Ex H H1 → Φ v H1 → ∃ a x ys dx fs, v = .ref a ∧ H1 a = some (.ins (ga K x) dx fs) ∧ InsX K x ys ∧ (y, b) ∈ ys) : Ev (tCB (rIsI K) (tCons ta (tCons (tC (.ref (ga K y))) tNil))) σ H (.bl b) := fun H1 e Q q =>
  ha H1 e _ fun v H2 e2 hv => by
    obtain ⟨a, x, ys, dx, fs, rfl, h1, h2, h3⟩ := hf v H2 (e.trans e2) hv
    exact ⟨a, x, ys, dx, fs, y, b, rfl, h1, h2, h3, q H2 e2⟩
theorem ev_isParked {σ : L2.St} {H : Hp} {E : XK} {ta : TA} {p : Nat} {a : Addr} {ws : List Nat} (T : Two K) (ha : EvA ta σ H [nat p, .ref a]) (h : SqL K H a (vn ws)) (hp1 : 1 ≤ p) (hp : p ≤ 30000) (hl : ws.length ≤ 40000) (hw : ∀ x ∈ ws, x < p) : Ev (tCB (rIsI K) (tCons (tCall (spParked K) [] E ta) (tCons (tC (.ref (ga K "Parked"))) tNil))) σ H (.bl (decide (crowd p ws < 0))) := by
  refine ev_isIP (ep_parked ha h hp1 hp hl hw) fun v H1 e hv => ?_
  rcases hv with ⟨c, x, l, _, _, rfl, dx, hx, _⟩ | ⟨c, x, dx, rfl, hx⟩
  · rw [decide_eq_true c]
    exact ⟨x, "Parked", insP, dx, _, rfl, hx, T.iP, by decide⟩
  · rw [decide_eq_false (by omega)]
    exact ⟨x, "Crowd", insC, dx, _, rfl, hx, T.iC, by decide⟩
theorem ev_isCrowd {σ : L2.St} {H : Hp} {E : XK} {ta : TA} {p : Nat} {a : Addr} {ws : List Nat} (T : Two K) (ha : EvA ta σ H [nat p, .ref a]) (h : SqL K H a (vn ws)) (hp1 : 1 ≤ p) (hp : p ≤ 30000) (hl : ws.length ≤ 40000) (hw : ∀ x ∈ ws, x < p) : Ev (tCB (rIsI K) (tCons (tCall (spParked K) [] E ta) (tCons (tC (.ref (ga K "Crowd"))) tNil))) σ H (.bl (!decide (crowd p ws < 0))) := by
  refine ev_isIP (ep_parked ha h hp1 hp hl hw) fun v H1 e hv => ?_
  rcases hv with ⟨c, x, l, _, _, rfl, dx, hx, _⟩ | ⟨c, x, dx, rfl, hx⟩
  · rw [decide_eq_true c]
    exact ⟨x, "Parked", insP, dx, _, rfl, hx, T.iP, by decide⟩
  · rw [decide_eq_false (by omega)]
    exact ⟨x, "Crowd", insC, dx, _, rfl, hx, T.iC, by decide⟩
theorem full_iff {n : Nat} {ws : List Nat} (hl : ws.length = n) (hn : n ∉ ws) (hw : ∀ x ∈ ws, x < n + 1) : (∀ x ∈ ws, x < n) ∧ (crowd n ws < 0 ↔ Full ws) := by
  have hlt : ∀ x ∈ ws, x < n := fun x hx => by
    have h1 := hw x hx
    have h2 : x ≠ n := fun e => hn (e ▸ hx)
    omega
  refine ⟨hlt, ?_⟩
  rw [crowd_neg]
  constructor
  · intro h
    refine Full.of (fun x hx => by rw [hl]; exact hlt x hx) fun i hi => ?_
    rw [hl] at hi ⊢
    exact h i hi
  · intro F i hi
    have := F.no i (by omega)
    rw [hl] at this
    exact this
def spFullB (K : PySem.W.Frag) : Sp := fun vs H Q _ => ∃ (n : Nat) (a : Addr) (ws : List Nat), vs = [nat n, .ref a] ∧ SqL K H a (vn ws) ∧ ws.length = n ∧ n ≤ 20000 ∧ (∀ x ∈ ws, x < n + 1) ∧ (Full ws → RetV (.bl true) H Q) ∧ (¬ Full ws → RetV (.bl false) H Q)
theorem ok_law_full {fd fd1 : FuncData} (F : FnP K "_law_full" s_law_full fd) (B : Bi mg) (C1 : Cal P w K mg base CX0 3 "parked" P_parked (spParked K) fd1) (g1 : mg "Parked" = some (.ref (ga K "Parked"))) (T : Two K) : FnOk P w K mg base CX0 4 (ga K "_law_full") fd P_law_full (spFullB K) := by
  refine F.ok sc_law_full (fun vs H Q E h => ?_) (fun cdv A outer s H vs Q E hr h => ⟨der_law_full B C1 g1 hr, ?_⟩)
  · obtain ⟨n, a, ws, rfl, _⟩ := h; rfl
  obtain ⟨n, a, ws, rfl, hS, hl, hn, hw, q1, q2⟩ := h
  unfold der_law_full; dsimp only
  refine q_when (b := decide (n ∈ ws)) (et_test (ev_inN (ev_var rfl) (ev_var rfl) hS)) (fun hb H1 e1 => ?_) fun hb H1 e1 => ?_
  · refine s_ret ev_c fun H2 e2 => q2 (fun Fu => ?_) H2 (e1.trans e2)
    have := Fu.lo n (of_decide_eq_true hb)
    omega
  · obtain ⟨hlt, hiff⟩ := full_iff hl (of_decide_eq_false hb) hw
    refine s_ret (v := .bl (decide ((n : Int) = 0) || decide (crowd n ws < 0))) (ev_orV (ev_eqInt (i := (n : Int)) (j := 0) (ev_var rfl) ev_c) fun h0 => ev_isParked T (ea_cons (ev_var rfl) (ea_cons (ev_var rfl) ea_nil)) (ex_l e1 hS) (by have := of_decide_eq_false h0; omega) (by omega) (by omega) hlt) fun H2 e2 => ?_
    by_cases Fu : Full ws
    · rw [decide_eq_true (hiff.mpr Fu), Bool.or_true]
      exact q1 Fu H2 (e1.trans e2)
    · have h0 : ¬ (n : Int) = 0 := fun z => Fu (by
        have : ws = [] := List.length_eq_zero_iff.mp (by omega)
        subst this
        exact ⟨(fun x hx => by cases hx), (fun i hi => by
          have : i = 0 := Nat.le_zero.mp hi
          omega)⟩)
      rw [decide_eq_false h0, decide_eq_false (fun z => Fu (hiff.mp z))]
      exact q2 Fu H2 (e1.trans e2)
theorem sv_fullY {H : Hp} {a : Addr} {n : Nat} {ws : List Nat} (h : SqL K H a (vn ws)) (hl : ws.length = n) (hn : n ≤ 20000) (hw : ∀ x ∈ ws, x < n + 1) (Fu : Full ws) : SpV (spFullB K) [nat n, .ref a] H (.bl true) := fun H1 e Q q E => ⟨n, a, ws, rfl, ex_l e h, hl, hn, hw, fun _ => q, fun z => absurd Fu z⟩
theorem sv_fullN {H : Hp} {a : Addr} {n : Nat} {ws : List Nat} (h : SqL K H a (vn ws)) (hl : ws.length = n) (hn : n ≤ 20000) (hw : ∀ x ∈ ws, x < n + 1) (Fu : ¬ Full ws) : SpV (spFullB K) [nat n, .ref a] H (.bl false) := fun H1 e Q q E => ⟨n, a, ws, rfl, ex_l e h, hl, hn, hw, fun z => absurd z Fu, fun _ => q⟩
end
end Pk
namespace Pk
open PySem PySem.Spec PyProof.Rows L2 Evl He
section
variable {P : Program} {w : World} {K : PySem.W.Frag} {mg : Str → Option Value} {base : Heap}
open SX (S)
/-! ### the law -/
theorem ev_neBl {σ : L2.St} {H : Hp} {ta tb : TE} {a b : Bool} (ha : Ev ta σ H (.bl a)) (hb : Ev tb σ H (.bl b)) : Ev (tOp rNe ta tb) σ H (.bl (!decide (a = b))) := by
  refine ev_is (ev_op ha hb (rv_ne (by rfl))) ?_
  congr 2
  rw [decide_eq_decide]
  exact ⟨fun h => by cases h; rfl, fun h => by rw [h]⟩
def spLaw (K : PySem.W.Frag) : Sp := fun vs H Q _ => ∃ (a : Addr) (ns : List Int), vs = [.ref a] ∧ SqL K H a (vi ns) ∧ ns.length ≤ 63 ∧ ∀ H', Q (.bl true) H'
theorem ok_law {fd fd1 fd2 fd3 fd4 fd5 fd6 : FuncData} (F : FnP K "law" s_law fd) (B : Bi mg) (C1 : Cal P w K mg base CX0 1 "_law_empty" P_law_empty (spEmpty K) fd1) (C2 : Cal P w K mg base CX0 4 "_law_full" P_law_full (spFullB K) fd2) (C3 : Cal P w K mg base CX0 1 "_law_numbers" P_law_numbers (spNumbers K) fd3) (C4 : Cal P w K mg base CX0 3 "parked" P_parked (spParked K) fd4) (C5 : Cal P w K mg base CX0 3 "turned" P_turned (spTurnedW K) fd5) (C6 : Cal P w K mg base CX0 4 "turning" P_turning (spTurning K) fd6)
    (g1 : mg "Crowd" = some (.ref (ga K "Crowd"))) (T : Two K) : FnOk P w K mg base CX0 5 (ga K "law") fd P_law (spLaw K) := by
  refine F.ok sc_law (fun vs H Q E h => ?_) (fun cdv A outer s H vs Q E hr h => ⟨der_law B C1 C2 C3 C4 C5 C6 g1 hr, ?_⟩)
  · obtain ⟨a, ns, rfl, _⟩ := h; rfl
  obtain ⟨a, ns, rfl, hS, hl, q⟩ := h
  have hlv : (vi ns).length ≤ 1000 := by rw [List.length_map]; omega
  unfold der_law; dsimp only
  refine q_asg (v := nat ns.length) (ev_is (ev_lenN (el_cut (ev_var rfl) hS hlv)) (by rw [List.length_map]; rfl)) fun H1 e1 => ?_
  refine q_asgL (xs := vn (cells ns (ns.length + 1))) ?_ fun lw H2 hlw e2 h2 => ?_
  · rw [← vn_cells ns (m := ns.length + 1) (by omega)]
    exact el_nl V.int _ (el_cut (ev_var rfl) (ex_l e1 hS) hlv) (by omega) (fun _ => rfl) fun i y H2 e2 hy => ev_mod (j := ((ns.length + 1 : Nat) : Int)) (ev_var rfl) (ev_add (i := (ns.length : Int)) (j := 1) (ev_var rfl) ev_c (by omega)) (by omega) rfl
  have hwl := cells_length ns (ns.length + 1)
  have hw := cells_lt (ns := ns) (m := ns.length + 1) (Nat.succ_pos _)
  have eS := e1.trans e2
  have hS2 := ex_l eS hS
  generalize hnn : ns.length = n at hl hwl hw h2 ⊢
  generalize cells ns (n + 1) = ws at h2 hwl hw
  have hw' : ∀ x ∈ ws, x < ws.length + 1 := fun x hx => by rw [hwl]; exact hw x hx
  have he := (emptyOf_is hw').lt
  have hti := turnI_full hw'
  have hiff := fun b => lastOf_iff he b
  rw [hwl] at hti hiff he
  refine q_asgL (el_list (ev_var rfl) (sq_of h2)) fun lh H3 hlh e3 h3 => ?_
  have h23 := e3 lw _ h2
  refine q_asg (v := nat (n - emptyOf ws)) (ev_is (ev_call (ea_cons (ev_var rfl) ea_nil) (sv_turning (sq_of h3) (by omega) hw')) (by rw [hwl])) fun H4 e4 => ?_
  have h24 := e4 lw _ h23
  have h34 := e4 lh _ h3
  refine q_when (b := (!true) || ((!decide (((n - emptyOf ws : Nat) : Int) = ((n - emptyOf ws : Nat) : Int))) || !decide (ws = ws))) (et_or (et_not (et_B (ev_callL1 (el_lst (ea_cons (ev_var rfl) ea_nil) (show 1 ≤ 100000 by decide)) fun q2 H5 e5 h5 => sv_numbers (ns := [((n - emptyOf ws : Nat) : Int)]) (sq_of h5) (show 1 ≤ 40000 by decide)))) fun _ => et_or (et_test (ev_neInt (ev_var rfl) (ev_sub (i := (n : Int)) (j := ((emptyOf ws : Nat) : Int)) (ev_var rfl) (ev_call (vs := [nat (ws.length + 1), .ref lw]) (ea_cons (ev_add (i := (n : Int)) (j := 1) (ev_var rfl) ev_c (by omega)) (ea_cons (ev_var rfl) ea_nil)) (sv_empty (sq_of h24) (by omega) hw')) (by omega)))) fun _ => et_test (ev_neN (ev_var rfl) (ev_var rfl) (sq_of h34) (sq_of h24))) (fun hb => by simp at hb) fun _ H5 e5 => ?_
  have w5 := e5 lw _ h24
  have m5 := e5 lh _ h34
  have tlc : ∀ {b : Int} {v5 v6 : Option V} {H6 : Hp}, v5 = some (.int b) → H6 lw = some (.lst (vn ws)) → EvL (tLc (iList K (tVar 2)) (gName 8) tYes (tOp (rI (fun _ j => 0 < j) fun i j => .int (i % j)) (tOp (rI0 fun i j => .int (i + j)) (tVar 8) (tVar 5)) (tOp (rI0 fun i j => .int (i + j)) (tVar 1) (tC (.int 1)))) [8]) [some (.ref a), some (nat n), some (.ref lw), some (.ref lh), some (nat (n - emptyOf ws)), v5, v6, none, none] H6 (vn (turnI ws b)) := fun {b v5 v6 H6} hv h6 => by
    subst hv
    rw [turnI_val]
    exact el_ls nat _ (ev_var rfl) (sq_of h6) (by omega) (fun _ => rfl) fun i y H7 e7 hy => ev_mod (j := (ws.length : Int) + 1) (ev_add (ev_var rfl) (ev_var rfl) rfl) (ev_add (ev_var rfl) ev_c (by rw [hwl])) (by omega) rfl
  -- by just so much
  refine q_forNP V.int (ys := [((n - emptyOf ws : Nat) : Int), ((n - emptyOf ws : Nat) : Int) + (n : Int) + 1, ((n - emptyOf ws : Nat) : Int) - (n : Int) - 1]) (el_lst (ea_cons (ev_var rfl) (ea_cons (ev_add (ev_add (ev_var rfl) (ev_var rfl) rfl) ev_c rfl) (ea_cons (ev_sub (ev_sub (ev_var rfl) (ev_var rfl) rfl) ev_c rfl) ea_nil))) (show 3 ≤ 100000 by decide)) (fun lb pre σ' H' => ∃ v5 v6, σ' = [some (.ref a), some (nat n), some (.ref lw), some (.ref lh), some (nat (n - emptyOf ws)), v5, v6, none, none] ∧ Ex H5 H' ∧ ∃ H6, Ex H5 H6 ∧ Ex H6 H' ∧ H6 lb = some (.lst (([((n - emptyOf ws : Nat) : Int), ((n - emptyOf ws : Nat) : Int) + (n : Int) + 1, ((n - emptyOf ws : Nat) : Int) - (n : Int) - 1]).map V.int))) (fun lb H6 hlb e6 h6 => ⟨none, none, rfl, e6, H6, e6, Ex.refl _, h6⟩) (fun lb pre σ' H' hI => ?_) (fun lb pre b post σ' H' hy hI => ?_) (fun lb σ' H' hI => ?_)
  · obtain ⟨v5, v6, rfl, _, H6, _, e7, h6⟩ := hI
    exact sq_of (e7 lb _ h6)
  · obtain ⟨v5, v6, rfl, e7, H6, e56, e67, hlb⟩ := hI
    have hbm : b ∈ [((n - emptyOf ws : Nat) : Int), ((n - emptyOf ws : Nat) : Int) + (n : Int) + 1, ((n - emptyOf ws : Nat) : Int) - (n : Int) - 1] := by rw [hy]; simp
    have hbz : (b - ((n : Int) - (emptyOf ws : Int))) % ((n : Int) + 1) = 0 := by
      simp only [List.mem_cons, List.not_mem_nil, or_false] at hbm
      rcases hbm with rfl | rfl | rfl
      · rw [show ((n - emptyOf ws : Nat) : Int) - ((n : Int) - (emptyOf ws : Int)) = 0 by omega, Int.zero_emod]
      · rw [show ((n - emptyOf ws : Nat) : Int) + (n : Int) + 1 - ((n : Int) - (emptyOf ws : Int)) = (n : Int) + 1 by omega, Int.emod_self]
      · rw [show ((n - emptyOf ws : Nat) : Int) - (n : Int) - 1 - ((n : Int) - (emptyOf ws : Int)) = -((n : Int) + 1) by omega, Int.neg_emod_self]
    have Fu : Full (turnI ws b) := (hti b).mpr ((hiff b).mpr hbz)
    have htl := turnI_len ws b
    have htw := turnI_lt ws b
    have hte := full_empty Fu
    have w7 := e7 lw _ w5
    have m7 := e7 lh _ m5
    refine q_asgL (el_call (vs := [.ref lh, .int b]) (ea_cons (ev_var rfl) (ea_cons (ev_var rfl) ea_nil)) (sl_turned (sq_of m7) (by omega) hw')) fun ls H8 hls e8 h8 => ?_
    refine q_when (b := (!true) || ((!decide (turnI ws b = turnI ws b)) || !decide (ws = ws))) (et_or (et_not (et_B (ev_call (ea_cons (ev_var rfl) ea_nil) (sv_numbersN (sq_of h8) (by omega))))) fun _ => et_or (et_test (ev_neLN (ev_var rfl) (sq_of h8) (tlc rfl (e8 lw _ w7)))) fun _ => et_test (ev_neN (ev_var rfl) (ev_var rfl) (sq_of (e8 lh _ m7)) (sq_of (e8 lw _ w7)))) (fun hb => by simp at hb) fun _ H9 e9 => ?_
    have h9 := e9 ls _ h8
    refine q_when (b := (!true) || !decide ((0 : Int) = 0)) (et_or (et_not (et_B (ev_call (ea_cons (ev_var rfl) (ea_cons (ev_var rfl) ea_nil)) (sv_fullY (sq_of h9) (by omega) (by omega) (fun x hx => by have := htw x hx; omega) Fu)))) fun _ => et_test (ev_neInt (ev_is (ev_call (ea_cons (ev_var rfl) ea_nil) (sv_turning (sq_of h9) (by omega) (fun x hx => by have := htw x hx; omega))) (by rw [hte, Nat.sub_self]; rfl)) ev_c)) (fun hb => by simp at hb) fun _ H10 e10 => ?_
    refine s_app (xs := vn (turnI ws b)) (e10 ls _ h9) (ev_var rfl) (v := .int 0) ev_c (by rw [List.length_map]; omega) fun H11 e11 => ?_
    have e811 := e8.trans (e9.trans (e10.trans e11))
    exact ⟨_, _, rfl, Ex.mut (e7.trans e811) (fresh_back e7 hls), H6, e56, Ex.mut (e67.trans e811) (fresh_back e67 hls), hlb⟩
  obtain ⟨v5, v6, rfl, e6, _⟩ := hI
  have eA : Ex H2 H' := e3.trans (e4.trans (e5.trans e6))
  -- by others
  refine q_forNP V.int (ys := [ns.sum, 1, -1]) (el_lst (ea_cons (ev_sum (ev_var rfl) (ex_l eA hS2)) (ea_cons ev_c (ea_cons (ev_un ev_c ru_neg) ea_nil))) (show 3 ≤ 100000 by decide)) (fun lb pre σ' H'' => ∃ v5 v6, σ' = [some (.ref a), some (nat n), some (.ref lw), some (.ref lh), some (nat (n - emptyOf ws)), v5, v6, none, none] ∧ Ex H' H'' ∧ ∃ H6, Ex H' H6 ∧ Ex H6 H'' ∧ H6 lb = some (.lst (([ns.sum, 1, -1]).map V.int))) (fun lb H6 hlb e6 h6 => ⟨_, _, rfl, e6, H6, e6, Ex.refl _, h6⟩) (fun lb pre σ' H'' hI => ?_) (fun lb pre b post σ' H'' hy hI => ?_) (fun lb σ' H'' hI => ?_)
  · obtain ⟨v5, v6, rfl, _, H6, _, e7, h6⟩ := hI
    exact sq_of (e7 lb _ h6)
  · obtain ⟨v5, v6, rfl, e7, H6, e56, e67, hlb⟩ := hI
    have htl := turnI_len ws b
    have htw := turnI_lt ws b
    have hF : Full (turnI ws b) ↔ (b - ((n - emptyOf ws : Nat) : Int)) % ((n : Int) + 1) = 0 := by
      rw [hti b, hiff b, show ((n - emptyOf ws : Nat) : Int) = (n : Int) - (emptyOf ws : Int) by omega]
    have w7 := e7 lw _ (e6 lw _ w5)
    have m7 := e7 lh _ (e6 lh _ m5)
    have htw2 : ∀ x ∈ turnI ws b, x < n + 1 := fun x hx => by have := htw x hx; omega
    refine q_asgL (el_call (vs := [.ref lh, .int b]) (ea_cons (ev_var rfl) (ea_cons (ev_var rfl) ea_nil)) (sl_turned (sq_of m7) (by omega) hw')) fun ls H8 hls e8 h8 => ?_
    refine q_when (b := !decide (turnI ws b = turnI ws b)) (et_test (ev_neLN (ev_var rfl) (sq_of h8) (tlc rfl (e8 lw _ w7)))) (fun hb => by simp at hb) fun _ H9 e9 => ?_
    have h9 := e9 ls _ h8
    generalize turnI ws b = some_ at htl htw htw2 hF h8 h9
    generalize hz : (b - ((n - emptyOf ws : Nat) : Int)) % ((n : Int) + 1) = z at hF
    have hz0 : 0 ≤ z := by rw [← hz]; exact Int.emod_nonneg _ (by omega)
    have tz : ∀ {H10 : Hp}, Ev (tOp (rI (fun _ j => 0 < j) fun i j => .int (i % j)) (tOp (rI0 fun i j => .int (i - j)) (tVar 5) (tVar 4)) (tOp (rI0 fun i j => .int (i + j)) (tVar 1) (tC (.int 1)))) [some (.ref a), some (nat n), some (.ref lw), some (.ref lh), some (nat (n - emptyOf ws)), some (.int b), some (.ref ls), none, none] H10 (.int z) := fun {H10} => ev_mod (ev_sub (ev_var rfl) (ev_var rfl) rfl) (ev_add (ev_var rfl) ev_c rfl) (by omega) hz.symm
    refine q_when (b := false) ?_ (fun y => by cases y) fun _ H10 e10 => ?_
    · by_cases Fu : Full some_
      · exact et_is (et_test (ev_neBl (ev_call (ea_cons (ev_var rfl) (ea_cons (ev_var rfl) ea_nil)) (sv_fullY (sq_of h9) (by omega) (by omega) htw2 Fu)) (ev_is (ev_eqInt tz ev_c) (by rw [decide_eq_true (hF.mp Fu)])))) rfl
      · exact et_is (et_test (ev_neBl (ev_call (ea_cons (ev_var rfl) (ea_cons (ev_var rfl) ea_nil)) (sv_fullN (sq_of h9) (by omega) (by omega) htw2 Fu)) (ev_is (ev_eqInt tz ev_c) (by rw [decide_eq_false fun y => Fu (hF.mpr y)])))) rfl
    have h10 := e10 ls _ h9
    refine s_when (b := false) (et_is (et_and (a := decide (0 < n)) (b := decide (n ∉ some_) && false) (et_test (ev_cmp (i := (n : Int)) (j := 0) (ev_var rfl) ev_c (by rw [decide_eq_decide]; omega))) fun hn => et_and (a := decide (n ∉ some_)) (b := false) (et_test (ev_is (ev_op (ev_var rfl) (ev_var rfl) (rv_niL (sq_of h10) (x := nat n) rfl (flat_vn _))) ?_)) fun hm => ?_) (by simp)) (fun y => by cases y) fun _ H11 e11 => ?_
    · rw [inV_nat]
      simp
    · have hnm : n ∉ some_ := of_decide_eq_true hm
      obtain ⟨hlt, hcr⟩ := full_iff (n := n) (by omega) hnm htw2
      refine et_is (et_test (ev_neBl (ev_isCrowd T (ea_cons (ev_var rfl) (ea_cons (ev_var rfl) ea_nil)) (sq_of h10) (by have := of_decide_eq_true hn; omega) (by omega) (by omega) hlt) (ev_cmp (i := z) (j := 0) (b := decide (0 < z)) tz ev_c (by rw [decide_eq_decide])))) ?_
      by_cases Fu : Full some_
      · rw [decide_eq_true (hcr.mpr Fu), decide_eq_false (show ¬ 0 < z by have := hF.mp Fu; omega)]
        rfl
      · rw [decide_eq_false (fun y => Fu (hcr.mp y)), decide_eq_true (show 0 < z by
          have : z ≠ 0 := fun y => Fu (hF.mpr y)
          omega)]
        rfl
    have e811 := e8.trans (e9.trans (e10.trans e11))
    exact ⟨_, _, rfl, e7.trans e811, H6, e56, e67.trans e811, hlb⟩
  obtain ⟨v5, v6, rfl, e7, _⟩ := hI
  have m7 := e7 lh _ (e6 lh _ m5)
  exact s_ret (v := .bl true) (ev_is (ev_eqInt (i := ((n - emptyOf ws : Nat) : Int)) (j := ((n - emptyOf ws : Nat) : Int)) (ev_is (ev_call (ea_cons (ev_var rfl) ea_nil) (sv_turning (sq_of m7) (by omega) hw')) (by rw [hwl]; rfl)) (ev_var rfl)) (by simp)) fun H8 _ => q H8
end
end Pk
namespace Pk
open PySem PySem.Spec PyProof.Rows L2 Evl He
/-! ### the end: what the top has left, by names -/
def d_is_number : DefD := ⟨("is_number", none), "is_number", "is_number", defArgs s_is_number, defBody s_is_number, defScope s_is_number, [], []⟩
def d_free_from : DefD := ⟨("free_from", none), "free_from", "free_from", defArgs s_free_from, defBody s_free_from, defScope s_free_from, [], []⟩
def d_counted : DefD := ⟨("counted", none), "counted", "counted", defArgs s_counted, defBody s_counted, defScope s_counted, [], []⟩
def d_as_list : DefD := ⟨("as_list", none), "as_list", "as_list", defArgs s_as_list, defBody s_as_list, defScope s_as_list, [], []⟩
def d_law_empty : DefD := ⟨("_law_empty", none), "_law_empty", "_law_empty", defArgs s_law_empty, defBody s_law_empty, defScope s_law_empty, [], []⟩
def d_law_numbers : DefD := ⟨("_law_numbers", none), "_law_numbers", "_law_numbers", defArgs s_law_numbers, defBody s_law_numbers, defScope s_law_numbers, [], []⟩
def d_asked_wishes : DefD := ⟨("asked_wishes", none), "asked_wishes", "asked_wishes", defArgs s_asked_wishes, defBody s_asked_wishes, defScope s_asked_wishes, [], []⟩
def d_stood : DefD := ⟨("stood", none), "stood", "stood", defArgs s_stood, defBody s_stood, defScope s_stood, [], []⟩
def d_crowd_of : DefD := ⟨("crowd_of", none), "crowd_of", "crowd_of", defArgs s_crowd_of, defBody s_crowd_of, defScope s_crowd_of, [], []⟩
def d_parked : DefD := ⟨("parked", none), "parked", "parked", defArgs s_parked, defBody s_parked, defScope s_parked, [], []⟩
def d_ring : DefD := ⟨("ring", none), "ring", "ring", defArgs s_ring, defBody s_ring, defScope s_ring, [], []⟩
def d_turned : DefD := ⟨("turned", none), "turned", "turned", defArgs s_turned, defBody s_turned, defScope s_turned, [], []⟩
def d_turning : DefD := ⟨("turning", none), "turning", "turning", defArgs s_turning, defBody s_turning, defScope s_turning, [], []⟩
def d_law_full : DefD := ⟨("_law_full", none), "_law_full", "_law_full", defArgs s_law_full, defBody s_law_full, defScope s_law_full, [], []⟩
def d_law : DefD := ⟨("law", none), "law", "law", defArgs s_law, defBody s_law, defScope s_law, [], []⟩
def d_Parked_init : DefD := ⟨("Parked", some "__init__"), "__init__", "Parked.__init__", defArgs s_Parked_init, defBody s_Parked_init, defScope s_Parked_init, [], []⟩
def d_Crowd_init : DefD := ⟨("Crowd", some "__init__"), "__init__", "Crowd.__init__", defArgs s_Crowd_init, defBody s_Crowd_init, defScope s_Crowd_init, [], []⟩
def fnL : List DefD := [d_is_number, d_free_from, d_counted, d_as_list, d_law_empty, d_law_numbers, d_asked_wishes, d_stood, d_crowd_of, d_parked, d_ring, d_turned, d_turning, d_law_full, d_law, d_Parked_init, d_Crowd_init]
def faL : List Fa := [.glo "is_number", .glo "free_from", .glo "counted", .glo "as_list", .glo "_law_empty", .glo "_law_numbers", .glo "asked_wishes", .glo "stood", .glo "crowd_of", .glo "parked", .glo "ring", .glo "turned", .glo "turning", .glo "_law_full", .glo "law", .free "len", .free "range", .free "max", .free "min", .free "sum", .free "all", .free "any", .free "list", .free "sorted", .free "isinstance", .free "enumerate", .free "reversed", .free "set", .free "str", .free "int", .free "bool", .free "tuple", .free "ValueError", .int "PLACES" 1000000, .glo "TooMany", .exc "TooMany", .glo "Answer", .glo "Parked", .glo "Crowd", .cls "Parked", .mkr "Parked", .noat "Parked" "where", .cls "Crowd", .mkr "Crowd", .noat "Crowd" "place"]
abbrev RowL : PySem.W.OpenRow := PySem.W.OpenLaw.row PySem.Challenge.rw_parkrow_k04_whole_turning
def exL (K : PySem.W.Frag) : Bool := ([] : List Str).all (errB K) && (insB K "Parked" insP && insB K "Crowd" insC)
abbrev hkL : PySem.W.Hook := hookX 5 faL fnL [] [] exL
def obL (s : PySem.W.SharedT) : AlX := obsX 5 faL fnL [] [] exL (HandSHeadRun.getT s)
theorem obL_eq (s : PySem.W.SharedT) : obL s = hkL.obs s.abs := obsX_eq (HandSHeadRun.getT_eq s)
def looseL : List Str := ["StreetError", "BadWishes", "TooMany", "PLACES", "is_number", "asked_wishes", "free_from", "stood", "Answer", "Parked", "Crowd", "crowd_of", "counted", "parked", "as_list", "ring", "turning", "turned", "_law_empty", "_law_numbers", "_law_full"]
theorem runL (w : World) : HandSHeadRun.RunEq RowL (PySem.W.view RowL.prog [25]) hkL obL 6000 looseL w := by
  intro os
  kernel_rfl
theorem factsL {P : Program} {w : World} {K : PySem.W.Frag} {h : Heap} {mg : Str → Option Value} {f : Addr} (X : K.In h) (G : h.Ns mainGlobals mg) (hfa : mg ("law" : Str) = some (.ref f)) (c : SaysD faL fnL K) (hx : exL K = true) :
    ∃ fd : FuncData, (∀ (s : Shared) (v : Value), BindsTo s fd ⟨[v], []⟩ [("script", v)]) ∧ ∀ base : Heap, K.In base → base.Ns mainGlobals mg → FnOk P w K mg base CX0 5 f fd ["script"] (spLaw K) := by
  obtain ⟨fd_is_number, F_is_number⟩ := c.def_ 0 (d := d_is_number) rfl
  have F_is_number : FnP K "is_number" s_is_number fd_is_number := F_is_number
  obtain ⟨fd_free_from, F_free_from⟩ := c.def_ 1 (d := d_free_from) rfl
  have F_free_from : FnP K "free_from" s_free_from fd_free_from := F_free_from
  obtain ⟨fd_counted, F_counted⟩ := c.def_ 2 (d := d_counted) rfl
  have F_counted : FnP K "counted" s_counted fd_counted := F_counted
  obtain ⟨fd_as_list, F_as_list⟩ := c.def_ 3 (d := d_as_list) rfl
  have F_as_list : FnP K "as_list" s_as_list fd_as_list := F_as_list
  obtain ⟨fd_law_empty, F_law_empty⟩ := c.def_ 4 (d := d_law_empty) rfl
  have F_law_empty : FnP K "_law_empty" s_law_empty fd_law_empty := F_law_empty
  obtain ⟨fd_law_numbers, F_law_numbers⟩ := c.def_ 5 (d := d_law_numbers) rfl
  have F_law_numbers : FnP K "_law_numbers" s_law_numbers fd_law_numbers := F_law_numbers
  obtain ⟨fd_asked_wishes, F_asked_wishes⟩ := c.def_ 6 (d := d_asked_wishes) rfl
  have F_asked_wishes : FnP K "asked_wishes" s_asked_wishes fd_asked_wishes := F_asked_wishes
  obtain ⟨fd_stood, F_stood⟩ := c.def_ 7 (d := d_stood) rfl
  have F_stood : FnP K "stood" s_stood fd_stood := F_stood
  obtain ⟨fd_crowd_of, F_crowd_of⟩ := c.def_ 8 (d := d_crowd_of) rfl
  have F_crowd_of : FnP K "crowd_of" s_crowd_of fd_crowd_of := F_crowd_of
  obtain ⟨fd_parked, F_parked⟩ := c.def_ 9 (d := d_parked) rfl
  have F_parked : FnP K "parked" s_parked fd_parked := F_parked
  obtain ⟨fd_ring, F_ring⟩ := c.def_ 10 (d := d_ring) rfl
  have F_ring : FnP K "ring" s_ring fd_ring := F_ring
  obtain ⟨fd_turned, F_turned⟩ := c.def_ 11 (d := d_turned) rfl
  have F_turned : FnP K "turned" s_turned fd_turned := F_turned
  obtain ⟨fd_turning, F_turning⟩ := c.def_ 12 (d := d_turning) rfl
  have F_turning : FnP K "turning" s_turning fd_turning := F_turning
  obtain ⟨fd_law_full, F_law_full⟩ := c.def_ 13 (d := d_law_full) rfl
  have F_law_full : FnP K "_law_full" s_law_full fd_law_full := F_law_full
  obtain ⟨fd_law, F_law⟩ := c.def_ 14 (d := d_law) rfl
  have F_law : FnP K "law" s_law fd_law := F_law
  have B : Bi mg := ⟨free_ok X G (c.fact 15 (f := .free "len") rfl), free_ok X G (c.fact 16 (f := .free "range") rfl), free_ok X G (c.fact 17 (f := .free "max") rfl), free_ok X G (c.fact 18 (f := .free "min") rfl), free_ok X G (c.fact 19 (f := .free "sum") rfl), free_ok X G (c.fact 20 (f := .free "all") rfl), free_ok X G (c.fact 21 (f := .free "any") rfl), free_ok X G (c.fact 22 (f := .free "list") rfl), free_ok X G (c.fact 23 (f := .free "sorted") rfl), free_ok X G (c.fact 24 (f := .free "isinstance") rfl), free_ok X G (c.fact 25 (f := .free "enumerate") rfl), free_ok X G (c.fact 26 (f := .free "reversed") rfl), free_ok X G (c.fact 27 (f := .free "set") rfl), free_ok X G (c.fact 28 (f := .free "str") rfl), free_ok X G (c.fact 29 (f := .free "int") rfl), free_ok X G (c.fact 30 (f := .free "bool") rfl), free_ok X G (c.fact 31 (f := .free "tuple") rfl), free_ok X G (c.fact 32 (f := .free "ValueError") rfl)⟩
  obtain ⟨tk_PLACES, gc_PLACES⟩ := int_ok X G (c.fact 33 (f := .int "PLACES" 1000000) rfl)
  have X_TooMany : ExcF K mg "TooMany" := by
    obtain ⟨a1, a2, a3, a4⟩ := exc_ok (c.fact 35 (f := .exc "TooMany") rfl)
    exact ⟨a1, glo_ok X G (c.fact 34 (f := .glo "TooMany") rfl), a2, a3, a4⟩
  obtain ⟨hxe, hxm⟩ := ba hx
  have G_Answer := glo_ok X G (c.fact 36 (f := .glo "Answer") rfl)
  have G_Parked := glo_ok X G (c.fact 37 (f := .glo "Parked") rfl)
  have G_Crowd := glo_ok X G (c.fact 38 (f := .glo "Crowd") rfl)
  obtain ⟨fd_Parked_init, F_Parked_init⟩ := c.def_ 15 (d := d_Parked_init) rfl
  have F_Parked_init : MeP K "Parked" "Parked.__init__" s_Parked_init fd_Parked_init := F_Parked_init
  have cls_Parked := cls_ok (c.fact 39 (f := .cls "Parked") rfl)
  have mk_Parked := mkr_ok (c.fact 40 (f := .mkr "Parked") rfl)
  have no_Parked_where := noat_ok (c.fact 41 (f := .noat "Parked" "where") rfl)
  obtain ⟨fd_Crowd_init, F_Crowd_init⟩ := c.def_ 16 (d := d_Crowd_init) rfl
  have F_Crowd_init : MeP K "Crowd" "Crowd.__init__" s_Crowd_init fd_Crowd_init := F_Crowd_init
  have cls_Crowd := cls_ok (c.fact 42 (f := .cls "Crowd") rfl)
  have mk_Crowd := mkr_ok (c.fact 43 (f := .mkr "Crowd") rfl)
  have no_Crowd_place := noat_ok (c.fact 44 (f := .noat "Crowd" "place") rfl)
  obtain ⟨hx1, hx2⟩ := ba hxm
  have T : Two K := ⟨cls_Parked, no_Parked_where, cls_Crowd, no_Crowd_place, insX_of cls_Parked hx1, insX_of cls_Crowd hx2⟩
  have e := hfa.symm.trans (glo_ok X G (c.fact 14 (f := .glo "law") rfl))
  cases e
  have b := FunD.bindsA (ps := ["script"]) F_law fun _ _ _ _ _ _ us hl => match us, hl with | [_], _ => rfl
  refine ⟨fd_law, fun s v => b s [v] rfl, fun base _ _ => ?_⟩
  have M_Parked := MkF.of (P := P) (w := w) (base := base) (ps := P_Parked_init) mk_Parked (ok_Parked_init F_Parked_init B T) G_Parked (FunD.bindsN F_Parked_init fun _ _ _ _ _ _ us hl => match us, hl with | [_, _], _ => rfl)
  have M_Crowd := MkF.of (P := P) (w := w) (base := base) (ps := P_Crowd_init) mk_Crowd (ok_Crowd_init F_Crowd_init T) G_Crowd (FunD.bindsN F_Crowd_init fun _ _ _ _ _ _ us hl => match us, hl with | [_, _], _ => rfl)
  have C_is_number := Cal.mk (P := P) (w := w) (base := base) (x := "is_number") (ps := P_is_number) (ok_is_number F_is_number B ) (glo_ok X G (c.fact 0 (f := .glo "is_number") rfl)) F_is_number.kp (FunD.bindsN F_is_number fun _ _ _ _ _ _ us hl => match us, hl with | [_, _, _], _ => rfl)
  have C_free_from := Cal.mk (P := P) (w := w) (base := base) (x := "free_from") (ps := P_free_from) (ok_free_from F_free_from ) (glo_ok X G (c.fact 1 (f := .glo "free_from") rfl)) F_free_from.kp (FunD.bindsN F_free_from fun _ _ _ _ _ _ us hl => match us, hl with | [_, _], _ => rfl)
  have C_counted := Cal.mk (P := P) (w := w) (base := base) (x := "counted") (ps := P_counted) (ok_counted F_counted B ) (glo_ok X G (c.fact 2 (f := .glo "counted") rfl)) F_counted.kp (FunD.bindsN F_counted fun _ _ _ _ _ _ us hl => match us, hl with | [_, _], _ => rfl)
  have C_as_list := Cal.mk (P := P) (w := w) (base := base) (x := "as_list") (ps := P_as_list) (ok_as_list F_as_list B ) (glo_ok X G (c.fact 3 (f := .glo "as_list") rfl)) F_as_list.kp (FunD.bindsN F_as_list fun _ _ _ _ _ _ us hl => match us, hl with | [_], _ => rfl)
  have C_law_empty := Cal.mk (P := P) (w := w) (base := base) (x := "_law_empty") (ps := P_law_empty) (ok_law_empty F_law_empty B ) (glo_ok X G (c.fact 4 (f := .glo "_law_empty") rfl)) F_law_empty.kp (FunD.bindsN F_law_empty fun _ _ _ _ _ _ us hl => match us, hl with | [_, _], _ => rfl)
  have C_law_numbers := Cal.mk (P := P) (w := w) (base := base) (x := "_law_numbers") (ps := P_law_numbers) (ok_law_numbers F_law_numbers B ) (glo_ok X G (c.fact 5 (f := .glo "_law_numbers") rfl)) F_law_numbers.kp (FunD.bindsN F_law_numbers fun _ _ _ _ _ _ us hl => match us, hl with | [_], _ => rfl)
  have C_asked_wishes := Cal.mk (P := P) (w := w) (base := base) (x := "asked_wishes") (ps := P_asked_wishes) (ok_asked_wishes F_asked_wishes B C_is_number gc_PLACES ) (glo_ok X G (c.fact 6 (f := .glo "asked_wishes") rfl)) F_asked_wishes.kp (FunD.bindsN F_asked_wishes fun _ _ _ _ _ _ us hl => match us, hl with | [_, _], _ => rfl)
  have C_stood := Cal.mk (P := P) (w := w) (base := base) (x := "stood") (ps := P_stood) (ok_stood F_stood B C_free_from ) (glo_ok X G (c.fact 7 (f := .glo "stood") rfl)) F_stood.kp (FunD.bindsN F_stood fun _ _ _ _ _ _ us hl => match us, hl with | [_, _], _ => rfl)
  have C_crowd_of := Cal.mk (P := P) (w := w) (base := base) (x := "crowd_of") (ps := P_crowd_of) (ok_crowd_of F_crowd_of B C_counted ) (glo_ok X G (c.fact 8 (f := .glo "crowd_of") rfl)) F_crowd_of.kp (FunD.bindsN F_crowd_of fun _ _ _ _ _ _ us hl => match us, hl with | [_, _], _ => rfl)
  have C_parked := Cal.mk (P := P) (w := w) (base := base) (x := "parked") (ps := P_parked) (ok_parked F_parked C_asked_wishes C_crowd_of C_stood M_Crowd M_Parked ) (glo_ok X G (c.fact 9 (f := .glo "parked") rfl)) F_parked.kp (FunD.bindsN F_parked fun _ _ _ _ _ _ us hl => match us, hl with | [_, _], _ => rfl)
  have C_ring := Cal.mk (P := P) (w := w) (base := base) (x := "ring") (ps := P_ring) (ok_ring F_ring B C_asked_wishes C_free_from X_TooMany ) (glo_ok X G (c.fact 10 (f := .glo "ring") rfl)) F_ring.kp (FunD.bindsN F_ring fun _ _ _ _ _ _ us hl => match us, hl with | [_, _], _ => rfl)
  have C_turned := Cal.mk (P := P) (w := w) (base := base) (x := "turned") (ps := P_turned) (ok_turned F_turned B C_as_list C_asked_wishes ) (glo_ok X G (c.fact 11 (f := .glo "turned") rfl)) F_turned.kp (FunD.bindsN F_turned fun _ _ _ _ _ _ us hl => match us, hl with | [_, _], _ => rfl)
  have C_turning := Cal.mk (P := P) (w := w) (base := base) (x := "turning") (ps := P_turning) (ok_turning F_turning B C_as_list C_ring ) (glo_ok X G (c.fact 12 (f := .glo "turning") rfl)) F_turning.kp (FunD.bindsN F_turning fun _ _ _ _ _ _ us hl => match us, hl with | [_], _ => rfl)
  have C_law_full := Cal.mk (P := P) (w := w) (base := base) (x := "_law_full") (ps := P_law_full) (ok_law_full F_law_full B C_parked G_Parked T) (glo_ok X G (c.fact 13 (f := .glo "_law_full") rfl)) F_law_full.kp (FunD.bindsN F_law_full fun _ _ _ _ _ _ us hl => match us, hl with | [_, _], _ => rfl)
  exact ok_law F_law B C_law_empty C_law_full C_law_numbers C_parked C_turned C_turning G_Crowd T
end Pk
open PySem PySem.W PySem.Calls PyProof.Rows
set_option maxHeartbeats 0 in
theorem PySem.Challenge.cw_parkrow_k04_whole_turning_holds : PySem.Challenge.rw_parkrow_k04_whole_turning.Holds := by
  w_on; o_law
  refine HandSHeadRun.head_any (r := OpenLaw.row PySem.Challenge.rw_parkrow_k04_whole_turning) (q := view (OpenLaw.row PySem.Challenge.rw_parkrow_k04_whole_turning).prog [25]) (H := Pk.hkL) (ob := Pk.obL) (M := 6000) (loose := Pk.looseL) (d := HandSHeadRun.topDef (OpenLaw.row PySem.Challenge.rw_parkrow_k04_whole_turning).prog 25) (kwd := []) Pk.obL_eq
    (by kernel_rfl) (fun s => by kernel_rfl) Pk.runL (by kernel_rfl) (by kernel_rfl) (by kernel_rfl) (by rfl) (by first | assumption | decide +kernel) (by decide +kernel) ⟨rfl, rfl, rfl, rfl, rfl, by decide +kernel⟩ ?hw ?hc
  case hw => w_witness2
  case hc =>
    refine L2.walk_ofE (l := PySem.Challenge.rw_parkrow_k04_whole_turning) (n := 63) (k := 5) (x := "script") (CX := L2.CX0) rfl (by decide) (by kernel_rfl) ⟨rfl, by decide, by decide⟩ ?F (fun _ _ _ _ z => z)
    intro w mg fa h Y G hmg0
    obtain ⟨K, KX, c⟩ := Y
    have hmg : mg ("law" : PySem.Str) = some (.ref fa) := by
      have e : (HandSHeadRun.topDef (OpenLaw.row PySem.Challenge.rw_parkrow_k04_whole_turning).prog 25).name = ("law" : PySem.Str) := by kernel_rfl
      rw [← e]
      exact hmg0
    obtain ⟨fd, hb, hF⟩ := Pk.factsL (P := (PySem.Challenge.rw_parkrow_k04_whole_turning).prog) (w := w) KX G hmg c.t.d c.more
    exact ⟨K, fd, Pk.spLaw K, KX, hb, fun H a ns hl _ hS => ⟨a, ns, rfl, hS, hl, fun _ => rfl⟩, hF⟩
