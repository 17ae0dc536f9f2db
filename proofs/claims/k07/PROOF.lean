import PyProof.Rows.All
import Wide.All
import OpenK.AllK
import Wide.FinOn
import KE.KStateDown
import Lean
import HandS.ForMost
import HandS.Exc
import HandS.TryOnly
import HandS.ExcOwn
import HandS.WordsExc
import HandS.IsInst
import HandS.Style
import HandS.RevRange
import HandS.StrMore
import HandS.Zip
import HandS.SortInts
import HandS.Evl
import HandS.CallLocal
import HandS.CallSlots
import HandS.ExcIs
import HandS.Codes
import HandS.Defaults
import HandS.Head0
import HandS.Head1
import HandS.Head2
import HandS.HeadEnd
import HandS.HeadHook1
import HandS.HeadHook2
import HandS.HeadHook3
import HandS.HeadHook4
import PySem.Challenge.RW_parkrow_k07_whole_path
set_option Elab.async false
set_option linter.all false
set_option maxRecDepth 100000
set_option maxHeartbeats 0
namespace Pk
open PySem PySem.Spec PyProof.Rows L2 Evl He
/-- what the module's names of built-ins hold: nothing of its own -/
structure Bi (mg : Str → Option Value) : Prop where
  len : mg "len" = none
  range : mg "range" = none
  max : mg "max" = none
  min : mg "min" = none
  sum : mg "sum" = none
  all : mg "all" = none
  any : mg "any" = none
  list : mg "list" = none
  sorted : mg "sorted" = none
  isinstance : mg "isinstance" = none
  enumerate : mg "enumerate" = none
  reversed : mg "reversed" = none
  set : mg "set" = none
  str : mg "str" = none
  int : mg "int" = none
  bool : mg "bool" = none
  tuple : mg "tuple" = none
  valueError : mg "ValueError" = none
/-- a def of the text that keeps its promise, to be called -/
structure Cal (P : Program) (w : World) (K : PySem.W.Frag) (mg : Str → Option Value) (base : Heap) (CX : CXT) (k : Nat) (x : Str) (ps : List Str) (sp : Sp) (fd : FuncData) : Prop where
  ok : FnOk P w K mg base CX k (ga K x) fd ps sp
  gl : mg x = some (.ref (ga K x))
  kp : PySem.W.keepIn K (.ref (ga K x)) = true
  bd : Binds K fd ps []
abbrev veB : List Value := [.type "ValueError", .type "Exception", .type "BaseException", .type "object"]
/-- an own class of errors -/
structure ExcF (K : PySem.W.Frag) (mg : Str → Option Value) (x : Str) : Prop where
  ex : PySem.W.excIn K (ga K x) veB "ValueError.__new__" = true
  gl : mg x = some (.ref (ga K x))
  kp : PySem.W.keepIn K (.ref (ga K x)) = true
  be : PySem.W.subIn K (.ref (ga K x)) (.type "BaseException") = some true
  ty : PySem.W.typeIn K (.ref (ga K x)) = some (.type "type")
def rMulS : R2 := fun x y H Q => ∃ (a : Str) (n : Int), x = .str a ∧ y = .int n ∧ MulOk a n ∧ Q (.str (Txt.mul a n)) H
theorem op_mul_str {X : Cx} : OpR X (binaryOp .Mult) rMulS := by
  intro pins s σ H x y v u Q I rx ry h
  obtain ⟨a, n, rfl, rfl, hz, q⟩ := h
  obtain ⟨t, rfl⟩ := rx
  obtain ⟨t', rfl⟩ := ry
  exact PySem.SB.mul hz (fun t' tk => ⟨.str (Txt.mul a n), H, I.tok _, ⟨_, rfl⟩, q⟩)
def rMin2 : List V → Hp → VK → Prop := fun xs H Q => ∃ i j, xs = [.int i, .int j] ∧ Q (.int (if j < i then j else i)) H
def rLenT : List V → Hp → VK → Prop := fun xs H Q => ∃ z, xs = [.str z] ∧ z.length ≤ sizeLine ∧ Q (.int z.length) H
end Pk
namespace Pk
open PySem PySem.Spec PyProof.Rows L2 Evl He
/-! ### lists of numbers as values -/
def nat (n : Nat) : V := .int (n : Int)
abbrev vn (ws : List Nat) : List V := ws.map nat
abbrev vi (ns : List Int) : List V := ns.map V.int
theorem vn_vi (ws : List Nat) : vn ws = vi (ws.map fun (n : Nat) => (n : Int)) := by
  unfold vn vi
  rw [List.map_map]
  rfl
theorem vn_get {ws : List Nat} {i : Nat} {n : Nat} (h : ws[i]? = some n) : (vn ws)[i]? = some (nat n) := by
  rw [List.getElem?_map, h]
  rfl
theorem vmap_get {α : Type} {c : α → V} {ys : List α} {i : Nat} {x : V} (h : (ys.map c)[i]? = some x) : ∃ y, ys[i]? = some y ∧ x = c y := by
  rw [List.getElem?_map] at h
  cases e : ys[i]? with
  | none => rw [e] at h; cases h
  | some y => rw [e] at h; exact ⟨y, rfl, (Option.some.inj h).symm⟩
theorem at_nat {xs : List V} {i : Nat} {v : V} (h : xs[i]? = some v) : atI xs ((i : Nat) : Int) = some v := atI_nat h
/-- heaps -/
theorem Ex.of_new {H H1 H2 : Hp} {p : Addr} (n : H p = none) (e : Ex H H1) (h : ∀ b o, b ≠ p → H1 b = some o → H2 b = some o) : Ex H H2 := fun a o ha => h a o (ne_of_none ha n) (e a o ha)
theorem et_yes {σ : L2.St} {H : Hp} : EvT tYes σ H true := fun H1 _ _ q => q H1 (Ex.refl H1)
theorem given_all {n : Nat} {v : Nat → V} : given n (fun _ => true) v = (List.range n).map v := by
  unfold given
  rw [List.filter_eq_self.mpr (fun _ _ => rfl)]
section
variable {K : PySem.W.Frag} {σ : L2.St} {H H' : Hp} {ta tb te tx : TE} {t u : TT} {x y z v : V} {r : R2}
/-- [e for i in range(n)] -/
theorem el_rng {ta : TA} {j : Nat} {vs : List Nat} {n : Nat} (v : Nat → V) (h : EvA ta σ H [nat n]) (hn : n ≤ 40000) (hw : ∀ x, wipe ((wipe σ vs).set j (some x)) vs = wipe σ vs)
    (he : ∀ (i : Nat) H1, Ex H H1 → i < n → Ev te ((wipe σ vs).set j (some (nat i))) H1 (v i)) : EvL (tLc (iRng1 ta) (gName j) tYes te vs) σ H ((List.range n).map v) := by
  have g := el_lcR1 (te := te) (fun _ => true) v h ⟨by omega, by omega⟩ hw (fun i H1 e hi => et_yes) (fun i H1 e hi _ => he i H1 e (by omega))
  rw [given_all] at g
  exact g
theorem given_list {α : Type} (f : α → Bool) (g : α → V) (d : α) : ∀ (ys : List α), given ys.length (fun i => f (ys.getD i d)) (fun i => g (ys.getD i d)) = (ys.filter f).map g := by
  intro ys
  have key : ∀ n, n ≤ ys.length → given n (fun i => f (ys.getD i d)) (fun i => g (ys.getD i d)) = ((ys.take n).filter f).map g := by
    intro n
    induction n with
    | zero => intro _; rfl
    | succ n ih =>
      intro hn
      have hlt : n < ys.length := hn
      have e : ys[n]? = some (ys.getD n d) := by
        rw [List.getD_eq_getElem?_getD, List.getElem?_eq_getElem hlt]; rfl
      rw [List.take_add_one, e]
      cases hf : f (ys.getD n d) with
      | true =>
        rw [given_yes (f := fun i => f (ys.getD i d)) hf, ih (by omega)]
        generalize ys.getD n d = z at hf
        simp [hf]
      | false =>
        rw [given_no (f := fun i => f (ys.getD i d)) hf, ih (by omega)]
        generalize ys.getD n d = z at hf
        simp [hf]
  rw [key ys.length (Nat.le_refl _), List.take_length]
/-- [e for y in list if t] over items that are c y -/
theorem el_lsF {α : Type} {a : Addr} {ys : List α} (c : α → V) {tl : TE} {j : Nat} {vs : List Nat} (f : α → Bool) (g : α → V) (h : Ev tl σ H (.ref a)) (hx : SqL K H a (ys.map c)) (hz : ys.length ≤ 40000) (hw : ∀ x, wipe ((wipe σ vs).set j (some x)) vs = wipe σ vs)
    (ht : ∀ (i : Nat) (y : α) H1, Ex H H1 → ys[i]? = some y → EvT t ((wipe σ vs).set j (some (c y))) H1 (f y)) (he : ∀ (i : Nat) (y : α) H1, Ex H H1 → ys[i]? = some y → f y = true → Ev te ((wipe σ vs).set j (some (c y))) H1 (g y)) :
    EvL (tLc (iList K tl) (gName j) t te vs) σ H ((ys.filter f).map g) := by
  cases ys with
  | nil => exact el_lcL (te := te) (t := t) (fun _ => true) (fun _ => .non) h hx hz hw (fun i x H1 e hi => by simp at hi) (fun i x H1 e hi _ => by simp at hi)
  | cons d r =>
    have hd : ∀ i y, (d :: r)[i]? = some y → (d :: r).getD i d = y := fun i y hi => by
      rw [List.getD_eq_getElem?_getD, hi]; rfl
    have k := el_lcL (te := te) (t := t) (fun i => f ((d :: r).getD i d)) (fun i => g ((d :: r).getD i d)) h hx (by rw [List.length_map]; exact hz) hw (fun i x H1 e hi => by
      obtain ⟨y, hy, rfl⟩ := vmap_get hi
      show EvT _ _ _ (f ((d :: r).getD i d))
      rw [hd i y hy]
      exact ht i y H1 e hy) (fun i x H1 e hi hf => by
      obtain ⟨y, hy, rfl⟩ := vmap_get hi
      have hf' : f ((d :: r).getD i d) = true := hf
      rw [hd i y hy] at hf'
      show Ev _ _ _ (g ((d :: r).getD i d))
      rw [hd i y hy]
      exact he i y H1 e hy hf')
    rw [List.length_map, given_list] at k
    exact k
theorem el_ls {α : Type} {a : Addr} {ys : List α} (c : α → V) {tl : TE} {j : Nat} {vs : List Nat} (g : α → V) (h : Ev tl σ H (.ref a)) (hx : SqL K H a (ys.map c)) (hz : ys.length ≤ 40000) (hw : ∀ x, wipe ((wipe σ vs).set j (some x)) vs = wipe σ vs)
    (he : ∀ (i : Nat) (y : α) H1, Ex H H1 → ys[i]? = some y → Ev te ((wipe σ vs).set j (some (c y))) H1 (g y)) :
    EvL (tLc (iList K tl) (gName j) tYes te vs) σ H (ys.map g) := by
  have k := el_lsF (te := te) (t := tYes) c (fun _ => true) g h hx hz hw (fun _ _ _ _ _ => et_yes) (fun i y H1 e hi _ => he i y H1 e hi)
  rw [List.filter_eq_self.mpr (fun _ _ => rfl)] at k
  exact k
/-- over a new list -/
theorem el_nlF {α : Type} {ys : List α} (c : α → V) {tl : TE} {j : Nat} {vs : List Nat} (f : α → Bool) (g : α → V) (h : EvL tl σ H (ys.map c)) (hz : ys.length ≤ 40000) (hw : ∀ x, wipe ((wipe σ vs).set j (some x)) vs = wipe σ vs)
    (ht : ∀ (i : Nat) (y : α) H1, Ex H H1 → ys[i]? = some y → EvT t ((wipe σ vs).set j (some (c y))) H1 (f y)) (he : ∀ (i : Nat) (y : α) H1, Ex H H1 → ys[i]? = some y → f y = true → Ev te ((wipe σ vs).set j (some (c y))) H1 (g y)) :
    EvL (tLc (iList K tl) (gName j) t te vs) σ H ((ys.filter f).map g) := by
  cases ys with
  | nil => exact el_lcNL (te := te) (t := t) (fun _ => true) (fun _ => .non) h hz hw (fun i x H1 e hi => by simp at hi) (fun i x H1 e hi _ => by simp at hi)
  | cons d r =>
    have hd : ∀ i y, (d :: r)[i]? = some y → (d :: r).getD i d = y := fun i y hi => by
      rw [List.getD_eq_getElem?_getD, hi]; rfl
    have k := el_lcNL (te := te) (t := t) (K := K) (fun i => f ((d :: r).getD i d)) (fun i => g ((d :: r).getD i d)) h (by rw [List.length_map]; exact hz) hw (fun i x H1 e hi => by
      obtain ⟨y, hy, rfl⟩ := vmap_get hi
      show EvT _ _ _ (f ((d :: r).getD i d))
      rw [hd i y hy]
      exact ht i y H1 e hy) (fun i x H1 e hi hf => by
      obtain ⟨y, hy, rfl⟩ := vmap_get hi
      have hf' : f ((d :: r).getD i d) = true := hf
      rw [hd i y hy] at hf'
      show Ev _ _ _ (g ((d :: r).getD i d))
      rw [hd i y hy]
      exact he i y H1 e hy hf')
    rw [List.length_map, given_list] at k
    exact k
theorem el_nl {α : Type} {ys : List α} (c : α → V) {tl : TE} {j : Nat} {vs : List Nat} (g : α → V) (h : EvL tl σ H (ys.map c)) (hz : ys.length ≤ 40000) (hw : ∀ x, wipe ((wipe σ vs).set j (some x)) vs = wipe σ vs)
    (he : ∀ (i : Nat) (y : α) H1, Ex H H1 → ys[i]? = some y → Ev te ((wipe σ vs).set j (some (c y))) H1 (g y)) :
    EvL (tLc (iList K tl) (gName j) tYes te vs) σ H (ys.map g) := by
  have k := el_nlF (te := te) (t := tYes) (K := K) c (fun _ => true) g h hz hw (fun _ _ _ _ _ => et_yes) (fun i y H1 e hi _ => he i y H1 e hi)
  rw [List.filter_eq_self.mpr (fun _ _ => rfl)] at k
  exact k

/-! ### loops over prefixes -/
theorem take_pre {α : Type} {ys : List α} {i : Nat} {y : α} (h : ys[i]? = some y) : ys = ys.take i ++ y :: ys.drop (i + 1) ∧ ys.take (i + 1) = ys.take i ++ [y] := by
  obtain ⟨hi, rfl⟩ := List.getElem?_eq_some_iff.mp h
  refine ⟨?_, ?_⟩
  · rw [← List.drop_eq_getElem_cons hi, List.take_append_drop]
  · rw [List.take_add_one, List.getElem?_eq_getElem hi]; rfl
variable {D : Ends} {tu tw tz : TS} {g : TG}
/-- for y in list: rest; I: by the prefix gone -/
theorem q_forP {α : Type} {a : Addr} {ys : List α} (c : α → V) {tl : TE} {j : Nat} (h : Ev tl σ H (.ref a)) (hx : SqL K H a (ys.map c)) (I : List α → L2.St → Hp → Prop) (h0 : ∀ H1, Ex H H1 → I [] σ H1)
    (hl : ∀ pre σ' H', I pre σ' H' → SqL K H' a (ys.map c))
    (hs : ∀ pre y post σ' H', ys = pre ++ y :: post → I pre σ' H' → tu { D with nx := I (pre ++ [y]), ct := I (pre ++ [y]), bk := tz D } (σ'.set j (some (c y))) H')
    (hd : ∀ σ' H', I ys σ' H' → tz D σ' H') : tSeq (tFor (iList K tl) (gName j) tu) tz D σ H :=
  q_forLn h hx (fun i => I (ys.take i)) (fun H1 e => h0 H1 e) (fun i σ' H' _ q => hl _ σ' H' q) (fun i x σ' H' hi q => by
    obtain ⟨y, hy, rfl⟩ := vmap_get hi
    obtain ⟨e1, e2⟩ := take_pre hy
    have := hs (ys.take i) y (ys.drop (i + 1)) σ' H' e1 q
    rw [e2]
    exact this) (fun σ' H' q => hd σ' H' (by rw [List.length_map, List.take_length] at q; exact q))
theorem s_forP {α : Type} {a : Addr} {ys : List α} (c : α → V) {tl : TE} {j : Nat} (h : Ev tl σ H (.ref a)) (hx : SqL K H a (ys.map c)) (I : List α → L2.St → Hp → Prop) (h0 : ∀ H1, Ex H H1 → I [] σ H1)
    (hl : ∀ pre σ' H', I pre σ' H' → SqL K H' a (ys.map c))
    (hs : ∀ pre y post σ' H', ys = pre ++ y :: post → I pre σ' H' → tu { D with nx := I (pre ++ [y]), ct := I (pre ++ [y]), bk := D.nx } (σ'.set j (some (c y))) H')
    (hd : ∀ σ' H', I ys σ' H' → D.nx σ' H') : tFor (iList K tl) (gName j) tu D σ H :=
  s_forLn h hx (fun i => I (ys.take i)) (fun H1 e => h0 H1 e) (fun i σ' H' _ q => hl _ σ' H' q) (fun i x σ' H' hi q => by
    obtain ⟨y, hy, rfl⟩ := vmap_get hi
    obtain ⟨e1, e2⟩ := take_pre hy
    have := hs (ys.take i) y (ys.drop (i + 1)) σ' H' e1 q
    rw [e2]
    exact this) (fun σ' H' q => hd σ' H' (by rw [List.length_map, List.take_length] at q; exact q))
/-- for i in range(n) -/
theorem q_forR {ta : TA} {j : Nat} {n : Nat} (h : EvA ta σ H [nat n]) (hn : n ≤ 100000) (Pv : Nat → L2.St → Hp → Prop) (h0 : ∀ H1, Ex H H1 → Pv 0 σ H1)
    (hs : ∀ (i : Nat) σ' H', i < n → Pv i σ' H' → tu { D with nx := Pv (i + 1), ct := Pv (i + 1), bk := tz D } (σ'.set j (some (nat i))) H') (hd : ∀ σ' H', Pv n σ' H' → tz D σ' H') : tSeq (tFor (iRng1 ta) (gName j) tu) tz D σ H :=
  q_forR1 h ⟨by omega, by omega⟩ Pv h0 (fun i σ' H' hi q => hs i σ' H' (by omega) q) (fun σ' H' q => hd σ' H' (by rw [Int.toNat_natCast] at q; exact q))
/-- for i in reversed(range(n)): I k: k turns are left -/
theorem q_forRev {te : TE} {j : Nat} {n : Nat} (h : Ev te σ H (nat n)) (hn : n ≤ 100000) (Pv : Nat → L2.St → Hp → Prop) (h0 : ∀ H1, Ex H H1 → Pv n σ H1)
    (hs : ∀ (i : Nat) σ' H', i < n → Pv (i + 1) σ' H' → tu { D with nx := Pv i, ct := Pv i, bk := tz D } (σ'.set j (some (nat i))) H') (hd : ∀ σ' H', Pv 0 σ' H' → tz D σ' H') : tSeq (tFor (iRevR (tRg1 te)) (gName j) tu) tz D σ H := by
  refine h H (Ex.refl H) _ fun H1 e => ⟨n, rfl, ?_⟩
  refine ⟨by omega, by omega, by omega, by omega, ?_⟩
  have en : (((n : Int) - 0).toNat) = n := by omega
  rw [en]
  refine for_rangeC (lo := (0 : Int) + (n : Int) - 1) (c := -1) (n := n) (fun i => Pv (n - i)) (h0 H1 e) (fun i σ' H' hi q => ?_) (fun σ' H' q => hd σ' H' (by rw [Nat.sub_self] at q; exact q))
  have e1 : ((0 : Int) + (n : Int) - 1 + (i : Int) * -1) = ((n - (i + 1) : Nat) : Int) := by omega
  show tu { D with nx := Pv (n - (i + 1)), ct := Pv (n - (i + 1)), bk := tz D } (σ'.set j (some (.int ((0 : Int) + (n : Int) - 1 + (i : Int) * -1)))) H'
  rw [e1]
  have e2 : n - (i + 1) + 1 = n - i := by omega
  exact hs (n - (i + 1)) σ' H' (by omega) (by rw [e2]; exact q)
end
end Pk
namespace Pk
open PySem PySem.Spec PyProof.Rows L2 Evl He
/-! ### equality of lists of numbers -/
def pdi (ns : List Int) : PyData := .list (ns.map PyData.int)
theorem dpAll_ints {K : PySem.W.Frag} {H : Hp} : ∀ ns : List Int, DpAll K H (vi ns) (ns.map PyData.int)
  | [] => .nil
  | n :: r => .cons (.int n) (dpAll_ints r)
theorem dp_ints {K : PySem.W.Frag} {H : Hp} {a : Addr} {ns : List Int} (h : SqL K H a (vi ns)) : Dp K H (.ref a) (pdi ns) := .lst h (dpAll_ints ns)
theorem canLay_ints : ∀ ns : List Int, PyData.canLayAll0 (ns.map PyData.int) = true
  | [] => by simp [PyData.canLayAll0]
  | n :: r => by simp [PyData.canLayAll0, PyData.canLay0, canLay_ints r]
theorem depth_ints : ∀ ns : List Int, PyData.depthAll (ns.map PyData.int) ≤ 1
  | [] => by simp [PyData.depthAll]
  | n :: r => by
    have h := depth_ints r
    simp only [List.map_cons, PyData.depthAll, PyData.depth]
    omega
theorem shaped_ints (ns : List Int) : SeqAt.shaped (pdi ns) = true := by
  have h := depth_ints ns
  unfold SeqAt.shaped pdi
  rw [Bool.and_eq_true_iff]
  refine ⟨by simp [PyData.canLay0, canLay_ints ns], decide_eq_true ?_⟩
  simp only [PyData.depth]
  omega
theorem eqvAll_ints : ∀ ns ms : List Int, PyData.eqvAll (ns.map PyData.int) (ms.map PyData.int) = decide (ns = ms)
  | [], [] => rfl
  | [], m :: s => rfl
  | n :: r, [] => rfl
  | n :: r, m :: s => by
    show (PyData.eqv (.int n) (.int m) && PyData.eqvAll (r.map PyData.int) (s.map PyData.int)) = _
    rw [eqvAll_ints r s]
    show ((n == m) && decide (r = s)) = _
    by_cases h1 : n = m
    · by_cases h2 : r = s
      · simp [h1, h2]
      · simp [h1, h2]
    · simp [h1]
theorem eqv_ints (ns ms : List Int) : PyData.eqv (pdi ns) (pdi ms) = decide (ns = ms) := eqvAll_ints ns ms
section
variable {K : PySem.W.Frag} {σ : L2.St} {H H' : Hp} {ta tb te tx : TE} {t u : TT} {x y z v : V} {r : R2}
theorem rv_eqI {a b : Addr} {ns ms : List Int} (h1 : SqL K H a (vi ns)) (h2 : SqL K H b (vi ms)) : RV (rEqD K) (.ref a) (.ref b) H (.bl (decide (ns = ms))) := fun H1 e Q q =>
  ⟨_, _, dp_ints (ex_l e h1), dp_ints (ex_l e h2), shaped_ints ns, shaped_ints ms, by rw [eqv_ints]; exact q H1 (Ex.refl H1)⟩
theorem rv_neI {a b : Addr} {ns ms : List Int} (h1 : SqL K H a (vi ns)) (h2 : SqL K H b (vi ms)) : RV (rNeD K) (.ref a) (.ref b) H (.bl (!decide (ns = ms))) := fun H1 e Q q =>
  ⟨_, _, dp_ints (ex_l e h1), dp_ints (ex_l e h2), shaped_ints ns, shaped_ints ms, by rw [eqv_ints]; exact q H1 (Ex.refl H1)⟩
theorem rv_eqN {a b : Addr} {ns ms : List Nat} (h1 : SqL K H a (vn ns)) (h2 : SqL K H b (vn ms)) : RV (rEqD K) (.ref a) (.ref b) H (.bl (decide (ns = ms))) := by
  rw [vn_vi] at h1 h2
  have k := rv_eqI h1 h2
  have e : (ns.map (fun (n : Nat) => (n : Int)) = ms.map (fun (n : Nat) => (n : Int))) = (ns = ms) := by
    refine propext ⟨fun h => ?_, fun h => by rw [h]⟩
    exact List.map_inj_right (fun a b hab => Int.ofNat.inj hab) |>.mp h
  rw [show decide (ns.map (fun (n : Nat) => (n : Int)) = ms.map (fun (n : Nat) => (n : Int))) = decide (ns = ms) from by simp only [e]] at k
  exact k
theorem rv_neN {a b : Addr} {ns ms : List Nat} (h1 : SqL K H a (vn ns)) (h2 : SqL K H b (vn ms)) : RV (rNeD K) (.ref a) (.ref b) H (.bl (!decide (ns = ms))) := by
  rw [vn_vi] at h1 h2
  have k := rv_neI h1 h2
  have e : (ns.map (fun (n : Nat) => (n : Int)) = ms.map (fun (n : Nat) => (n : Int))) = (ns = ms) := by
    refine propext ⟨fun h => ?_, fun h => by rw [h]⟩
    exact List.map_inj_right (fun a b hab => Int.ofNat.inj hab) |>.mp h
  rw [show decide (ns.map (fun (n : Nat) => (n : Int)) = ms.map (fun (n : Nat) => (n : Int))) = decide (ns = ms) from by simp only [e]] at k
  exact k
/-! ### calls of built-ins -/
theorem rc_sum {a : Addr} {ns : List Int} (h : SqL K H a (vi ns)) : RC (rSum K) [.ref a] H (.int ns.sum) := fun H1 e Q q => ⟨a, ns, rfl, ex_l e h, q H1 (Ex.refl H1)⟩
theorem sum_nat : ∀ ws : List Nat, (ws.map fun (n : Nat) => (n : Int)).sum = ((ws.sum : Nat) : Int)
  | [] => rfl
  | w :: r => by
    rw [List.map_cons, List.sum_cons, List.sum_cons, sum_nat r]
    omega
theorem rc_sumN {a : Addr} {ws : List Nat} (h : SqL K H a (vn ws)) : RC (rSum K) [.ref a] H (nat ws.sum) := by
  rw [vn_vi] at h
  have k := rc_sum h
  rw [sum_nat] at k
  exact k
theorem rc_all {a : Addr} {bs : List Bool} (h : SqL K H a (bs.map V.bl)) : RC (rAll K) [.ref a] H (.bl (bs.all id)) := fun H1 e Q q => ⟨a, bs, rfl, ex_l e h, q H1 (Ex.refl H1)⟩
/-- all([..]), the list made on the way -/
theorem ev_allN {bs : List Bool} (h : EvL ta σ H (bs.map V.bl)) : Ev (tCB (rAll K) (tCons ta tNil)) σ H (.bl (bs.all id)) := fun H1 e Q q =>
  h H1 e _ fun p H2 _ e2 h2 => ⟨p, bs, rfl, sq_of h2, q H2 e2⟩
theorem ev_all {a : Addr} {bs : List Bool} (ha : Ev ta σ H (.ref a)) (h : SqL K H a (bs.map V.bl)) : Ev (tCB (rAll K) (tCons ta tNil)) σ H (.bl (bs.all id)) := ev_cb (ea_cons ha ea_nil) (rc_all h)
theorem ev_sumN {a : Addr} {ws : List Nat} (ha : Ev ta σ H (.ref a)) (h : SqL K H a (vn ws)) : Ev (tCB (rSum K) (tCons ta tNil)) σ H (nat ws.sum) := ev_cb (ea_cons ha ea_nil) (rc_sumN h)
theorem ev_sum {a : Addr} {ns : List Int} (ha : Ev ta σ H (.ref a)) (h : SqL K H a (vi ns)) : Ev (tCB (rSum K) (tCons ta tNil)) σ H (.int ns.sum) := ev_cb (ea_cons ha ea_nil) (rc_sum h)
/-- isinstance of a built-in class -/
theorem rc_isi {t b : String} {k : Bool} (ty : ∀ H1, Ex H H1 → TyX K H1 x (.type t)) (hk : kitB t b = some k) : RC (rIsi K) [x, .ty b] H (.bl k) := fun H1 e Q q =>
  ⟨x, .ty b, .type t, .type b, k, rfl, .ty b, ty H1 e, kit_ty hk, q H1 (Ex.refl H1)⟩
theorem ty_list {a : Addr} {xs : List V} (h : SqL K H a xs) : TyX K H (.ref a) (.type "list") := by
  rcases h with (h | ⟨o, h⟩) | ⟨o, its, n, hk, hc, hd, hs, hz, r⟩
  · exact .base (.lst h)
  · exact .base (.frz h)
  · exact .kList hk hc
theorem isi_int {i : Int} (b : String) {k : Bool} (hk : kitB "int" b = some k) : RC (rIsi K) [.int i, .ty b] H (.bl k) := rc_isi (fun _ _ => .base (.int i)) hk
theorem isi_list {a : Addr} {xs : List V} (h : SqL K H a xs) (b : String) {k : Bool} (hk : kitB "list" b = some k) : RC (rIsi K) [.ref a, .ty b] H (.bl k) := rc_isi (fun H1 e => ty_list (ex_l e h)) hk
theorem isi_str {s : Str} (b : String) {k : Bool} (hk : kitB "str" b = some k) : RC (rIsi K) [.str s, .ty b] H (.bl k) := rc_isi (fun _ _ => .base (.str s)) hk
theorem isi_bl {s : Bool} (b : String) {k : Bool} (hk : kitB "bool" b = some k) : RC (rIsi K) [.bl s, .ty b] H (.bl k) := rc_isi (fun _ _ => .base (.bl s)) hk
/-! ### sorted -/
def isort (ns : List Int) : List Int := ns.mergeSort (fun a b => decide (a ≤ b))
theorem isort_perm (ns : List Int) : (isort ns).Perm ns := List.mergeSort_perm ns _
theorem isort_rise (ns : List Int) : (isort ns).Pairwise (· ≤ ·) := by
  have h := List.pairwise_mergeSort (le := fun (a b : Int) => decide (a ≤ b)) (fun a b c h1 h2 => by simp only [decide_eq_true_eq] at *; omega) (fun a b => by simp only [Bool.or_eq_true, decide_eq_true_eq]; omega) ns
  exact h.imp (fun q => of_decide_eq_true q)
theorem isort_is {ns ms : List Int} (p : ms.Perm ns) (r : ms.Pairwise (· ≤ ·)) : isort ns = ms :=
  List.Perm.eq_of_pairwise (fun a b _ _ h1 h2 => Int.le_antisymm h1 h2) (isort_rise ns) r ((isort_perm ns).trans p.symm)
theorem el_sorted {a : Addr} {ns : List Int} (ha : Ev ta σ H (.ref a)) (h : SqL K H a (vi ns)) : EvL (tCB (rSortedI K) (tCons ta tNil)) σ H (vi (isort ns)) := fun H1 e Q q =>
  ha H1 e _ fun H2 e2 => ⟨a, ns, rfl, ex_l (e.trans e2) h, fun ns' p hp hr hn => by
    have z := isort_is hp hr
    subst z
    exact q p _ (fresh_back e2 hn) (e2.trans (Ex.new hn)) upd_same⟩
/-- operators on numbers -/
theorem ev_add {i j k : Int} (ha : Ev ta σ H (.int i)) (hb : Ev tb σ H (.int j)) (e : k = i + j) : Ev (tOp (rI0 fun i j => .int (i + j)) ta tb) σ H (.int k) := by
  rw [e]; exact ev_op ha hb rv_I0
theorem ev_sub {i j k : Int} (ha : Ev ta σ H (.int i)) (hb : Ev tb σ H (.int j)) (e : k = i - j) : Ev (tOp (rI0 fun i j => .int (i - j)) ta tb) σ H (.int k) := by
  rw [e]; exact ev_op ha hb rv_I0
theorem ev_mod {i j k : Int} (ha : Ev ta σ H (.int i)) (hb : Ev tb σ H (.int j)) (hj : 0 < j) (e : k = i % j) : Ev (tOp (rI (fun _ j => 0 < j) fun i j => .int (i % j)) ta tb) σ H (.int k) := by
  rw [e]; exact ev_op ha hb (rv_I hj)
theorem ev_div {i j k : Int} (ha : Ev ta σ H (.int i)) (hb : Ev tb σ H (.int j)) (hj : 0 < j ∧ j < 1073741824) (e : k = i / j) : Ev (tOp (rI CDiv fun i j => .int (i / j)) ta tb) σ H (.int k) := by
  rw [e]; exact ev_op ha hb (rv_I hj)
theorem ev_mul {i j k : Int} (ha : Ev ta σ H (.int i)) (hb : Ev tb σ H (.int j)) (hj : CMul i j) (e : k = i * j) : Ev (tOp (rI CMul fun i j => .int (i * j)) ta tb) σ H (.int k) := by
  rw [e]; exact ev_op ha hb (rv_I hj)
theorem ev_cmp {p : Int → Int → Bool} {i j : Int} {b : Bool} (ha : Ev ta σ H (.int i)) (hb : Ev tb σ H (.int j)) (e : b = p i j) : Ev (tOp (rI0 fun i j => .bl (p i j)) ta tb) σ H (.bl b) := by
  rw [e]; exact ev_op ha hb rv_I0
theorem ev_eqInt {i j : Int} (ha : Ev ta σ H (.int i)) (hb : Ev tb σ H (.int j)) : Ev (tOp rEq ta tb) σ H (.bl (decide (i = j))) := by
  have k := ev_op (r := rEq) ha hb (rv_eq rfl)
  rw [show decide (V.int i = V.int j) = decide (i = j) from by simp] at k
  exact k
theorem ev_neInt {i j : Int} (ha : Ev ta σ H (.int i)) (hb : Ev tb σ H (.int j)) : Ev (tOp rNe ta tb) σ H (.bl (!decide (i = j))) := by
  have k := ev_op (r := rNe) ha hb (rv_ne rfl)
  rw [show decide (V.int i = V.int j) = decide (i = j) from by simp] at k
  exact k
/-- ws[i] -/
theorem ev_ixN {p : Addr} {xs : List V} {i : Nat} (ha : Ev ta σ H (.ref p)) (hb : Ev tb σ H (nat i)) (h : SqL K H p xs) (hi : xs[i]? = some v) : Ev (tOp (rIxL K) ta tb) σ H v := ev_op ha hb (rv_ixL h (at_nat hi))
theorem ev_chain {p q : Int → Int → Bool} {i j k : Int} {b : Bool} (ha : Ev ta σ H (.int i)) (hb : Ev tb σ H (.int j)) (hc : Ev te σ H (.int k)) (e : b = (p i j && q j k)) :
    Ev (tChain (rI0 fun i j => .bl (p i j)) (rI0 fun i j => .bl (q i j)) ta tb te) σ H (.bl b) := fun H1 e1 Q Qk => by
  rw [e] at Qk
  refine ha H1 e1 _ fun H2 e2 => hb H2 (e1.trans e2) _ fun H3 e3 => ⟨i, j, rfl, rfl, p i j, rfl, ?_⟩
  cases hp : p i j with
  | true =>
    rw [hp] at Qk
    exact hc H3 ((e1.trans e2).trans e3) _ fun H4 e4 => ⟨j, k, rfl, rfl, Qk H4 ((e2.trans e3).trans e4)⟩
  | false =>
    rw [hp] at Qk
    exact Qk H3 (e2.trans e3)
end
end Pk
namespace Pk
open PySem PySem.Spec PyProof.Rows L2 Evl He
section
variable {K : PySem.W.Frag} {σ : L2.St} {H H' : Hp} {ta tb te tx : TE} {t u : TT} {x y z v : V} {r : R2} {D : Ends} {tu tw tz : TS} {g : TG}
/-! ### calls that may raise -/
theorem s_callX {sp : Sp} {dvs vs : List V} {E : XK} {ta : TA} (h : EvA ta σ H vs) (k : ∀ H1, Ex H H1 → sp (vs ++ dvs) H1 (fun _ H' => D.nx σ H') E) : tDrop (tCall sp dvs E ta) D σ H :=
  h H (Ex.refl H) _ fun H1 e => k H1 e
theorem q_callX {sp : Sp} {dvs vs : List V} {E : XK} {ta : TA} (h : EvA ta σ H vs) (k : ∀ H1, Ex H H1 → sp (vs ++ dvs) H1 (fun _ H' => tz D σ H') E) : tSeq (tDrop (tCall sp dvs E ta)) tz D σ H := s_callX (D := { D with nx := tz D }) h k
theorem s_asgX {sp : Sp} {dvs vs : List V} {E : XK} {ta : TA} {i : Nat} (h : EvA ta σ H vs) (k : ∀ H1, Ex H H1 → sp (vs ++ dvs) H1 (fun v H' => D.nx (σ.set i (some v)) H') E) : tAsg (tCall sp dvs E ta) (gName i) D σ H :=
  h H (Ex.refl H) _ fun H1 e => k H1 e
theorem q_asgX {sp : Sp} {dvs vs : List V} {E : XK} {ta : TA} {i : Nat} (h : EvA ta σ H vs) (k : ∀ H1, Ex H H1 → sp (vs ++ dvs) H1 (fun v H' => tz D (σ.set i (some v)) H') E) : tSeq (tAsg (tCall sp dvs E ta) (gName i)) tz D σ H := s_asgX (D := { D with nx := tz D }) h k
theorem s_retX {sp : Sp} {dvs vs : List V} {E : XK} {ta : TA} (h : EvA ta σ H vs) (k : ∀ H1, Ex H H1 → sp (vs ++ dvs) H1 D.rt E) : tRet (tCall sp dvs E ta) D σ H :=
  h H (Ex.refl H) _ fun H1 e => k H1 e
/-! ### comparisons with a list made on the way -/
theorem ev_neLN {a : Addr} {ns ms : List Nat} (ha : Ev ta σ H (.ref a)) (h1 : SqL K H a (vn ns)) (hb : EvL tb σ H (vn ms)) : Ev (tOp (rNeD K) ta tb) σ H (.bl (!decide (ns = ms))) :=
  ev_opL ha hb fun p H1 hp e => rv_neN (ex_l e h1) (sq_of hp)
theorem ev_eqLN {a : Addr} {ns ms : List Nat} (ha : Ev ta σ H (.ref a)) (h1 : SqL K H a (vn ns)) (hb : EvL tb σ H (vn ms)) : Ev (tOp (rEqD K) ta tb) σ H (.bl (decide (ns = ms))) :=
  ev_opL ha hb fun p H1 hp e => rv_eqN (ex_l e h1) (sq_of hp)
theorem ev_neLI {a : Addr} {ns ms : List Int} (ha : Ev ta σ H (.ref a)) (h1 : SqL K H a (vi ns)) (hb : EvL tb σ H (vi ms)) : Ev (tOp (rNeD K) ta tb) σ H (.bl (!decide (ns = ms))) :=
  ev_opL ha hb fun p H1 hp e => rv_neI (ex_l e h1) (sq_of hp)
theorem ev_eqLI {a : Addr} {ns ms : List Int} (ha : Ev ta σ H (.ref a)) (h1 : SqL K H a (vi ns)) (hb : EvL tb σ H (vi ms)) : Ev (tOp (rEqD K) ta tb) σ H (.bl (decide (ns = ms))) :=
  ev_opL ha hb fun p H1 hp e => rv_eqI (ex_l e h1) (sq_of hp)
theorem ev_neN {a b : Addr} {ns ms : List Nat} (ha : Ev ta σ H (.ref a)) (hb : Ev tb σ H (.ref b)) (h1 : SqL K H a (vn ns)) (h2 : SqL K H b (vn ms)) : Ev (tOp (rNeD K) ta tb) σ H (.bl (!decide (ns = ms))) := ev_op ha hb (rv_neN h1 h2)
theorem ev_eqN {a b : Addr} {ns ms : List Nat} (ha : Ev ta σ H (.ref a)) (hb : Ev tb σ H (.ref b)) (h1 : SqL K H a (vn ns)) (h2 : SqL K H b (vn ms)) : Ev (tOp (rEqD K) ta tb) σ H (.bl (decide (ns = ms))) := ev_op ha hb (rv_eqN h1 h2)
theorem ev_lenS {p : Addr} {xs : List V} {n : Nat} (ha : Ev ta σ H (.ref p)) (h : SqL K H p xs) (hn : xs.length = n) : Ev (tCB (rLenS K) (tCons ta tNil)) σ H (nat n) := by
  have k := ev_len ha h
  rw [hn] at k
  exact k
theorem ev_maxN {i j k : Nat} (ha : Ev ta σ H (nat i)) (hb : Ev tb σ H (nat j)) (e : k = Nat.max i j) : Ev (tCB rMax2 (tCons ta (tCons tb tNil))) σ H (nat k) := by
  have q := ev_max2 ha hb
  refine ev_is q ?_
  unfold nat
  rw [e]
  congr 1
  have h2 : Nat.max i j = if i < j then j else i := by
    show max i j = _
    split <;> omega
  rw [h2]
  split
  · rw [if_pos (by omega)]
  · rw [if_neg (by omega)]
/-! ### texts -/
open SX (S)
theorem q_forS {ts : TE} {j : Nat} {cs : List Nat} (h : Ev ts σ H (.str (S cs))) (I : List Nat → L2.St → Hp → Prop) (h0 : ∀ H1, Ex H H1 → I [] σ H1)
    (hs : ∀ pre c post σ' H', cs = pre ++ c :: post → I pre σ' H' → tu { D with nx := I (pre ++ [c]), ct := I (pre ++ [c]), bk := tz D } (σ'.set j (some (.str (S [c])))) H')
    (hd : ∀ σ' H', I cs σ' H' → tz D σ' H') : tSeq (tFor (iStr ts) (gName j) tu) tz D σ H := by
  refine h H (Ex.refl H) _ fun H1 e => ⟨S cs, rfl, ?_⟩
  refine ⟨fun i m σ H => m = cs.length - i ∧ i ≤ cs.length ∧ I (cs.take i) σ H, ⟨cs.length, by simp, Nat.zero_le _, h0 H1 e⟩, ?_⟩
  rintro i m σ H ⟨rfl, hi, p⟩
  have sz : (S cs).cps.size = cs.length := by simp [S]
  by_cases hlt : i < cs.length
  · refine .inr ⟨by show i < (S cs).cps.size; rw [sz]; exact hlt, I (cs.take (i + 1)), fun σ' H' p' => ⟨cs.length - (i + 1), by omega, rfl, hlt, p'⟩, fun x H' y => ?_⟩
    obtain ⟨rfl, c, hc, rfl⟩ := y
    have hc' : cs[i]? = some c := by simpa [S] using hc
    obtain ⟨e1, e2⟩ := take_pre hc'
    have := hs (cs.take i) c (cs.drop (i + 1)) σ _ e1 p
    rw [e2]
    exact this
  · have e : i = cs.length := by omega
    subst e
    refine .inl ⟨by show (S cs).cps.size ≤ cs.length; rw [sz]; exact Nat.le_refl _, hd σ H ?_⟩
    rw [List.take_length] at p
    exact p
theorem ev_catS {a b : List Nat} (ha : Ev ta σ H (.str (S a))) (hb : Ev tb σ H (.str (S b))) (hz : a.length + b.length ≤ 100000) : Ev (tOp (fun x y H Q => ∃ i j, x = .str i ∧ y = .str j ∧ i.length + j.length ≤ sizeLine ∧ Q (.str (i ++ j)) H) ta tb) σ H (.str (S (a ++ b))) :=
  ev_op ha hb fun H1 e Q q => ⟨S a, S b, rfl, rfl, by rw [SX.S_len, SX.S_len]; exact sz_of hz, by rw [SX.S_cat]; exact q H1 (Ex.refl H1)⟩
theorem mul_S (c : Nat) (n : Nat) : Txt.mul (S [c]) (n : Int) = S (List.replicate n c) := by
  unfold Txt.mul
  cases n with
  | zero => rfl
  | succ n =>
    rw [if_neg (by omega)]
    by_cases h1 : n = 0
    · subst h1
      rfl
    · have e1 : (((n + 1 : Nat) : Int) == 1) = false := by simp; omega
      have e2 : ((S [c]).length == 0) = false := rfl
      rw [e1, e2]
      show (if false = true then S [c] else _) = _
      rw [if_neg Bool.false_ne_true, Int.toNat_natCast]
      have key : ∀ (k : Nat) (acc : Array Nat), ((List.replicate k (S [c]).cps).foldl (· ++ ·) acc).toList = acc.toList ++ List.replicate k c := by
        intro k
        induction k with
        | zero => intro acc; simp
        | succ k ih =>
          intro acc
          rw [List.replicate_succ, List.foldl_cons, ih, Array.toList_append, List.replicate_succ, List.append_assoc]
          rfl
      refine TL.ext_tl ?_
      exact (key (n + 1) #[]).trans (by simp [TL.tl, S])
theorem mulOk_S (c : Nat) {n : Nat} (h : n ≤ 100000) : MulOk (S [c]) (n : Int) := by
  have h1 : (S [c]).length = 1 := rfl
  refine ⟨?_, fun h2 _ => ?_, fun _ _ => ?_⟩
  · rw [Bool.or_eq_false_iff]
    exact ⟨decide_eq_false (by omega), decide_eq_false (by omega)⟩
  · rw [h1]
    have h3 : (1 : Int) ≤ (2 ^ 63 - 1) / (n : Int) := by
      refine (Int.le_ediv_iff_mul_le (by omega)).mpr ?_
      omega
    show ¬ (((1 : Nat) : Int) > (2 ^ 63 - 1) / (n : Int))
    omega
  · rw [h1, Int.toNat_natCast]
    unfold Builtin.Str.tooLong
    have h4 : 1 * n ≤ sizeLine := by rw [Nat.one_mul]; exact sz_of h
    exact decide_eq_false (by omega)
theorem ev_mulS {c n : Nat} (ha : Ev ta σ H (.str (S [c]))) (hb : Ev tb σ H (nat n)) (hz : n ≤ 100000) : Ev (tOp rMulS ta tb) σ H (.str (S (List.replicate n c))) :=
  ev_op ha hb fun H1 e Q q => ⟨S [c], (n : Int), rfl, rfl, mulOk_S c hz, by rw [mul_S]; exact q H1 (Ex.refl H1)⟩
/-- "".join(new list of texts) -/
def rJoin (K : PySem.W.Frag) : V → List V → Hp → VK → Prop := fun x xs H Q => ∃ a p, ∃ ys : List Str, x = .str a ∧ xs = [.ref p] ∧ (SqL K H p (ys.map V.str) ∨ SqT K H p (ys.map V.str)) ∧
      (ys.map (·.length)).sum + ys.length * a.length ≤ 16777216 ∧ Q (.str (Txt.join a ys)) H
theorem ev_joinL {a : List Nat} {ys : List (List Nat)} (ha : Ev ta σ H (.str (S a))) (hb : EvL tb σ H (ys.map fun y => V.str (S y))) (hz : (ys.map (·.length)).sum + ys.length * a.length ≤ 16777216) :
    Ev (tM1 (rJoin K) ta tb) σ H (.str (S (TL.joinL a ys))) := fun H1 e Q q =>
  ha H1 e _ fun H2 e2 => ⟨⟨_, rfl⟩, hb H2 (e.trans e2) _ fun p H3 _ e3 hp => ⟨S a, p, ys.map S, rfl, rfl, .inl (sq_of (by rw [List.map_map]; exact hp)), by
    rw [List.map_map, List.length_map, SX.S_len]
    have e4 : ((fun y : Str => y.length) ∘ S) = fun y : List Nat => y.length := funext fun y => SX.S_len y
    rw [e4]
    exact hz, by rw [SX.join_S]; exact q H3 (e2.trans e3)⟩⟩
end
end Pk
namespace Pk
/-! ### how many wish a place below i; full wishes -/
def lt (ws : List Nat) (i : Nat) : Nat := ws.countP fun w => decide (w < i)
def ge (ws : List Nat) (i : Nat) : Nat := ws.countP fun w => decide (i ≤ w)
theorem lt_ge (ws : List Nat) (i : Nat) : lt ws i + ge ws i = ws.length := by
  unfold lt ge
  induction ws with
  | nil => rfl
  | cons w r ih =>
    rw [List.countP_cons, List.countP_cons, List.length_cons]
    by_cases h : w < i
    · simp only [h, decide_true, if_true, show ¬ i ≤ w from by omega, decide_false]
      simp only [Bool.false_eq_true, if_false]
      omega
    · simp only [h, decide_false, show i ≤ w from by omega, decide_true, if_true]
      simp only [Bool.false_eq_true, if_false]
      omega
theorem lt_zero (ws : List Nat) : lt ws 0 = 0 := by
  unfold lt
  rw [List.countP_eq_zero]
  intro a _
  simp
theorem lt_succ (ws : List Nat) (i : Nat) : lt ws (i + 1) = lt ws i + ws.count i := by
  unfold lt
  induction ws with
  | nil => rfl
  | cons w r ih =>
    rw [List.countP_cons, List.countP_cons, List.count_cons, ih]
    by_cases h : w < i
    · have h2 : (w == i) = false := by simp; omega
      simp [h, h2, show w < i + 1 from by omega]
      omega
    · by_cases h3 : w = i
      · subst h3
        simp
        omega
      · have h2 : (w == i) = false := by simp; omega
        simp [h, h2, show ¬ w < i + 1 from by omega]
theorem lt_all {ws : List Nat} {p : Nat} (h : ∀ x ∈ ws, x < p) : lt ws p = ws.length := by
  unfold lt
  rw [List.countP_eq_length]
  intro a ha
  simpa using h a ha
theorem lt_le (ws : List Nat) (i : Nat) : lt ws i ≤ ws.length := List.countP_le_length
theorem lt_mono (ws : List Nat) {i j : Nat} (h : i ≤ j) : lt ws i ≤ lt ws j := by
  unfold lt
  refine List.countP_mono_left fun x _ hx => ?_
  simp only [decide_eq_true_eq] at *
  omega
theorem ge_top {ws : List Nat} {p : Nat} (h : ∀ x ∈ ws, x < p) : ge ws p = 0 := by
  have := lt_ge ws p
  rw [lt_all h] at this
  omega
theorem ge_succ (ws : List Nat) (i : Nat) : ge ws i = ge ws (i + 1) + ws.count i := by
  have h1 := lt_ge ws i
  have h2 := lt_ge ws (i + 1)
  have h3 := lt_succ ws i
  omega
/-- full wishes: places of as many, none driving off -/
structure Full (ws : List Nat) : Prop where
  lo : ∀ x ∈ ws, x < ws.length
  up : ∀ i, i ≤ ws.length → i ≤ lt ws i
theorem Full.no {ws : List Nat} (h : Full ws) : ∀ i, i < ws.length → ge ws i ≤ ws.length - i := fun i hi => by
  have h1 := lt_ge ws i
  have h2 := h.up i (by omega)
  omega
theorem Full.of {ws : List Nat} (lo : ∀ x ∈ ws, x < ws.length) (h : ∀ i, i < ws.length → ge ws i ≤ ws.length - i) : Full ws := by
  refine ⟨lo, fun i hi => ?_⟩
  by_cases e : i = ws.length
  · subst e
    rw [lt_all lo]
    exact Nat.le_refl _
  · have h1 := lt_ge ws i
    have h2 := h i (by omega)
    omega
/-! ### a crowd: the least place such that more wish it or beyond than there are places; -1 -/
def crow (p : Nat) (ws : List Nat) : Nat → Int
  | 0 => -1
  | d + 1 => if p - (p - (d + 1)) < ge ws (p - (d + 1)) then ((p - (d + 1) : Nat) : Int) else crow p ws d
def crowd (p : Nat) (ws : List Nat) : Int := crow p ws p
theorem crow_no {p : Nat} {ws : List Nat} : ∀ d, d ≤ p → (∀ i, p - d ≤ i → i < p → ge ws i ≤ p - i) → crow p ws d = -1
  | 0, _, _ => rfl
  | d + 1, hd, h => by
    unfold crow
    rw [if_neg (by have := h (p - (d + 1)) (by omega) (by omega); omega)]
    exact crow_no d (by omega) fun i h1 h2 => h i (by omega) h2
theorem crow_yes {p : Nat} {ws : List Nat} : ∀ d, d ≤ p → (∃ i, p - d ≤ i ∧ i < p ∧ p - i < ge ws i) → ∃ i : Nat, crow p ws d = (i : Int) ∧ i < p ∧ p - i < ge ws i
  | 0, _, h => by
    obtain ⟨i, h1, h2, _⟩ := h
    omega
  | d + 1, hd, h => by
    unfold crow
    by_cases hc : p - (p - (d + 1)) < ge ws (p - (d + 1))
    · rw [if_pos hc]
      exact ⟨p - (d + 1), rfl, by omega, hc⟩
    · rw [if_neg hc]
      refine crow_yes d (by omega) ?_
      obtain ⟨i, h1, h2, h3⟩ := h
      by_cases e : i = p - (d + 1)
      · subst e
        exact absurd h3 hc
      · exact ⟨i, by omega, h2, h3⟩
theorem crowd_no {p : Nat} {ws : List Nat} (h : ∀ i, i < p → ge ws i ≤ p - i) : crowd p ws = -1 := crow_no p (Nat.le_refl _) fun i _ h2 => h i h2
theorem crowd_yes {p : Nat} {ws : List Nat} (h : ¬ ∀ i, i < p → ge ws i ≤ p - i) : ∃ i : Nat, crowd p ws = (i : Int) ∧ i < p ∧ p - i < ge ws i := by
  refine crow_yes p (Nat.le_refl _) ?_
  refine Classical.byContradiction fun k => h fun i hi => ?_
  refine Classical.byContradiction fun q => k ⟨i, by omega, hi, by omega⟩
theorem crowd_neg {p : Nat} {ws : List Nat} : crowd p ws < 0 ↔ ∀ i, i < p → ge ws i ≤ p - i := by
  constructor
  · intro h
    refine Classical.byContradiction fun k => ?_
    obtain ⟨i, e, _⟩ := crowd_yes k
    omega
  · intro h
    rw [crowd_no h]
    omega
/-! ### the law's own full wishes -/
/-- the walk of ups and downs: the height, the least one, the first place where it is so low -/
def fwalk (ws : List Nat) : Nat → Int × Int × Nat
  | 0 => (0, 0, 0)
  | k + 1 => if (fwalk ws k).1 + (ws.count k : Int) - 1 < (fwalk ws k).2.1 then ((fwalk ws k).1 + (ws.count k : Int) - 1, (fwalk ws k).1 + (ws.count k : Int) - 1, k)
    else ((fwalk ws k).1 + (ws.count k : Int) - 1, (fwalk ws k).2.1, (fwalk ws k).2.2)
def hgt (ws : List Nat) (j : Nat) : Int := (lt ws j : Int) - (j : Int)
theorem hgt_succ (ws : List Nat) (j : Nat) : hgt ws (j + 1) = hgt ws j + (ws.count j : Int) - 1 := by
  unfold hgt
  rw [lt_succ]
  omega
structure FW (ws : List Nat) (k : Nat) (h l : Int) (e : Nat) : Prop where
  hh : h = hgt ws k
  ll : (l = 0 ∧ e = 0) ∨ (l < 0 ∧ e < k ∧ l = hgt ws (e + 1) ∧ ∀ j, j ≤ e → l < hgt ws j)
  lo : ∀ j, j ≤ k → l ≤ hgt ws j
theorem fwalk_fw (ws : List Nat) : ∀ k, FW ws k (fwalk ws k).1 (fwalk ws k).2.1 (fwalk ws k).2.2
  | 0 => by
    have e0 : hgt ws 0 = 0 := by
      unfold hgt
      rw [lt_zero]
      rfl
    refine ⟨e0.symm, .inl ⟨rfl, rfl⟩, fun j hj => ?_⟩
    have : j = 0 := by omega
    subst this
    show (0 : Int) ≤ _
    omega
  | k + 1 => by
    obtain ⟨hh, ll, lo⟩ := fwalk_fw ws k
    have es := hgt_succ ws k
    rw [← hh] at es
    unfold fwalk
    by_cases c : (fwalk ws k).1 + (ws.count k : Int) - 1 < (fwalk ws k).2.1
    · rw [if_pos c]
      refine ⟨es.symm, .inr ⟨?_, Nat.lt_succ_self k, es.symm, fun j hj => ?_⟩, fun j hj => ?_⟩
      · show (fwalk ws k).1 + (ws.count k : Int) - 1 < 0
        rcases ll with ⟨q, _⟩ | ⟨q, _⟩ <;> omega
      · have := lo j hj
        show (fwalk ws k).1 + (ws.count k : Int) - 1 < _
        omega
      · show (fwalk ws k).1 + (ws.count k : Int) - 1 ≤ _
        by_cases e : j = k + 1
        · subst e
          omega
        · have := lo j (by omega)
          omega
    · rw [if_neg c]
      refine ⟨es.symm, ?_, fun j hj => ?_⟩
      · rcases ll with q | ⟨q1, q2, q3, q4⟩
        · exact .inl q
        · exact .inr ⟨q1, Nat.lt_succ_of_lt q2, q3, q4⟩
      · show (fwalk ws k).2.1 ≤ _
        by_cases e : j = k + 1
        · subst e
          omega
        · exact lo j (by omega)
/-- turned by so much that the empty place is the last one -/
def turnN (m by_ : Nat) (ws : List Nat) : List Nat := ws.map fun w => (w + by_) % m
def emptyOf (ws : List Nat) : Nat := (fwalk ws (ws.length + 1)).2.2
def fullN (ws : List Nat) : List Nat := ws.map fun w => (w + ws.length - emptyOf ws) % (ws.length + 1)
theorem fullN_length (ws : List Nat) : (fullN ws).length = ws.length := by
  unfold fullN
  rw [List.length_map]
structure EmptyIs (ws : List Nat) (e : Nat) : Prop where
  lt : e ≤ ws.length
  neg : hgt ws (e + 1) < 0
  up : ∀ j, j ≤ e → hgt ws (e + 1) < hgt ws j
  lo : ∀ j, j ≤ ws.length + 1 → hgt ws (e + 1) ≤ hgt ws j
theorem emptyOf_is {ws : List Nat} (hw : ∀ x ∈ ws, x < ws.length + 1) : EmptyIs ws (emptyOf ws) := by
  obtain ⟨hh, ll, lo⟩ := fwalk_fw ws (ws.length + 1)
  have e1 : hgt ws (ws.length + 1) = -1 := by
    unfold hgt
    rw [lt_all hw]
    omega
  have h2 := lo (ws.length + 1) (Nat.le_refl _)
  rcases ll with ⟨q, _⟩ | ⟨q1, q2, q3, q4⟩
  · omega
  · unfold emptyOf
    exact ⟨by omega, by omega, fun j hj => by have := q4 j hj; omega, fun j hj => by have := lo j hj; omega⟩
theorem countP4 {α : Type} {f g f' g' : α → Bool} : ∀ {l : List α}, (∀ x ∈ l, (f x).toNat + (g x).toNat = (f' x).toNat + (g' x).toNat) → l.countP f + l.countP g = l.countP f' + l.countP g'
  | [], _ => rfl
  | x :: r, h => by
    have ih := countP4 (l := r) fun y hy => h y (List.mem_cons_of_mem _ hy)
    have hx := h x List.mem_cons_self
    simp only [List.countP_cons]
    cases h1 : f x <;> cases h2 : g x <;> cases h3 : f' x <;> cases h4 : g' x <;> simp [h1, h2, h3, h4] at hx ⊢ <;> omega
theorem turn_val {w n e : Nat} (hw : w < n + 1) (he : e ≤ n) : (w + n - e) % (n + 1) = if w ≤ e then w + n - e else w - e - 1 := by
  by_cases h : w ≤ e
  · rw [if_pos h, Nat.mod_eq_of_lt (by omega)]
  · rw [if_neg h]
    have : w + n - e = (w - e - 1) + (n + 1) := by omega
    rw [this, Nat.add_mod_right, Nat.mod_eq_of_lt (by omega)]
/-- the counts of the turned ones -/
theorem lt_turn {ws : List Nat} {e : Nat} (hw : ∀ x ∈ ws, x < ws.length + 1) (he : e ≤ ws.length) (i : Nat) (hi : i ≤ ws.length) :
    lt (ws.map fun w => (w + ws.length - e) % (ws.length + 1)) i + lt ws (e + 1) = lt ws (e + 1 + i) + lt ws (i + e - ws.length) := by
  unfold lt
  rw [List.countP_map]
  refine countP4 fun x hx => ?_
  have h1 := hw x hx
  show (decide ((x + ws.length - e) % (ws.length + 1) < i)).toNat + (decide (x < e + 1)).toNat = (decide (x < e + 1 + i)).toNat + (decide (x < i + e - ws.length)).toNat
  have hv := turn_val (w := x) h1 he
  generalize (x + ws.length - e) % (ws.length + 1) = v at hv ⊢
  by_cases h : x ≤ e
  · rw [if_pos h] at hv
    subst hv
    simp only [show x < e + 1 from by omega, show x < e + 1 + i from by omega, decide_true]
    by_cases h2 : x + ws.length - e < i
    · simp [h2, show x < i + e - ws.length from by omega]
    · simp [h2, show ¬ x < i + e - ws.length from by omega]
  · rw [if_neg h] at hv
    subst hv
    simp only [show ¬ x < e + 1 from by omega, show ¬ x < i + e - ws.length from by omega, decide_false]
    by_cases h2 : x - e - 1 < i
    · simp [h2, show x < e + 1 + i from by omega]
    · simp [h2, show ¬ x < e + 1 + i from by omega]
theorem full_of_empty {ws : List Nat} {e : Nat} (hw : ∀ x ∈ ws, x < ws.length + 1) (E : EmptyIs ws e) : Full (ws.map fun w => (w + ws.length - e) % (ws.length + 1)) := by
  have key : ∀ i, i ≤ ws.length → i ≤ lt (ws.map fun w => (w + ws.length - e) % (ws.length + 1)) i := fun i hi => by
    have h := lt_turn hw E.lt i hi
    have h1 := E.lt
    by_cases c : e + 1 + i ≤ ws.length + 1
    · have h2 := E.lo (e + 1 + i) c
      unfold hgt at h2
      omega
    · have h2 := E.up (i + e - ws.length) (by omega)
      have h3 : lt ws (e + 1 + i) = ws.length := lt_all fun x hx => by have := hw x hx; omega
      unfold hgt at h2
      omega
  have hlen : (ws.map fun w => (w + ws.length - e) % (ws.length + 1)).length = ws.length := List.length_map ..
  have hn := key ws.length (Nat.le_refl _)
  have hl : ∀ x ∈ (ws.map fun w => (w + ws.length - e) % (ws.length + 1)), x < ws.length := by
    have h2 : lt (ws.map fun w => (w + ws.length - e) % (ws.length + 1)) ws.length = (ws.map fun w => (w + ws.length - e) % (ws.length + 1)).length := by
      have := lt_le (ws.map fun w => (w + ws.length - e) % (ws.length + 1)) ws.length
      omega
    unfold lt at h2
    rw [List.countP_eq_length] at h2
    intro x hx
    simpa using h2 x hx
  exact ⟨fun x hx => by rw [hlen]; exact hl x hx, fun i hi => key i (by rw [hlen] at hi; exact hi)⟩
theorem fullN_full {ws : List Nat} (hw : ∀ x ∈ ws, x < ws.length + 1) : Full (fullN ws) := full_of_empty hw (emptyOf_is hw)
/-- the script's cells on a ring -/
def cells (ns : List Int) (m : Nat) : List Nat := ns.map fun c => (c % (m : Int)).toNat
theorem cells_length (ns : List Int) (m : Nat) : (cells ns m).length = ns.length := by
  unfold cells
  rw [List.length_map]
theorem cells_lt {ns : List Int} {m : Nat} (hm : 0 < m) : ∀ x ∈ cells ns m, x < m := fun x hx => by
  unfold cells at hx
  obtain ⟨c, _, rfl⟩ := List.mem_map.mp hx
  have h1 := Int.emod_lt_of_pos c (show (0 : Int) < m from by omega)
  have h2 := Int.emod_nonneg c (show (m : Int) ≠ 0 from by omega)
  omega
def lawFull (ns : List Int) : List Nat := fullN (cells ns (ns.length + 1))
theorem lawFull_length (ns : List Int) : (lawFull ns).length = ns.length := by
  unfold lawFull
  rw [fullN_length, cells_length]
theorem lawFull_full (ns : List Int) : Full (lawFull ns) := by
  refine fullN_full fun x hx => ?_
  rw [cells_length]
  exact cells_lt (Nat.succ_pos _) x hx
end Pk
namespace Pk
/-! ### paths as lists of codes: u is 117, d is 100 -/
def step1 (c : Nat) : List Nat := List.replicate c 117 ++ [100]
def pathL (cs : List Nat) : List Nat := (cs.map step1).flatten
theorem pathL_cons (c : Nat) (r : List Nat) : pathL (c :: r) = List.replicate c 117 ++ 100 :: pathL r := by
  unfold pathL step1
  rw [List.map_cons, List.flatten_cons, List.append_assoc]
  rfl
/-- the heights behind each down, or none where it is no path -/
def hgo : List Nat → Nat → Option (List Nat)
  | [], h => if h = 0 then some [] else none
  | c :: r, h => if c = 117 then hgo r (h + 1) else if c = 100 ∧ 0 < h then (hgo r (h - 1)).map ((h - 1) :: ·) else none
def ris : List Nat → Nat → List Nat
  | [], _ => []
  | c :: r, p => if c = 117 then p :: ris r p else ris r (p + 1)
theorem hgo_up (c : Nat) (r : List Nat) (h : Nat) : hgo (List.replicate c 117 ++ r) h = hgo r (h + c) := by
  induction c generalizing h with
  | zero => rfl
  | succ c ih =>
    rw [List.replicate_succ, List.cons_append]
    show (if (117 : Nat) = 117 then hgo (List.replicate c 117 ++ r) (h + 1) else _) = _
    rw [if_pos rfl, ih]
    congr 1
    omega
theorem ris_up (c : Nat) (r : List Nat) (p : Nat) : ris (List.replicate c 117 ++ r) p = List.replicate c p ++ ris r p := by
  induction c with
  | zero => rfl
  | succ c ih =>
    rw [List.replicate_succ, List.cons_append]
    show (if (117 : Nat) = 117 then p :: ris (List.replicate c 117 ++ r) p else _) = _
    rw [if_pos rfl, ih]
    rfl
def hl : List Nat → Nat → List Nat
  | [], _ => []
  | c :: r, h => (h + c - 1) :: hl r (h + c - 1)
def POk : List Nat → Nat → Prop
  | [], h => h = 0
  | c :: r, h => 0 < h + c ∧ POk r (h + c - 1)
theorem hgo_path : ∀ (cs : List Nat) (h : Nat), POk cs h → hgo (pathL cs) h = some (hl cs h)
  | [], h, e => by
    have e : h = 0 := e
    subst e
    rfl
  | c :: r, h, e => by
    obtain ⟨e1, e2⟩ := e
    rw [pathL_cons, hgo_up]
    show (if (100 : Nat) = 117 then _ else if (100 : Nat) = 100 ∧ 0 < h + c then (hgo (pathL r) (h + c - 1)).map ((h + c - 1) :: ·) else none) = _
    rw [if_neg (by decide), if_pos ⟨rfl, e1⟩, hgo_path r _ e2]
    rfl
theorem ris_path : ∀ (cs : List Nat) (p : Nat), ris (pathL cs) p = (cs.zipIdx p).flatMap fun q => List.replicate q.1 q.2
  | [], p => rfl
  | c :: r, p => by
    rw [pathL_cons, ris_up, List.zipIdx_cons, List.flatMap_cons]
    show List.replicate c p ++ (if (100 : Nat) = 117 then _ else ris (pathL r) (p + 1)) = _
    rw [if_neg (by decide), ris_path r (p + 1)]
/-! ### of full wishes -/
def cnts (p : Nat) (ws : List Nat) : List Nat := (List.range p).map fun i => ws.count i
theorem cnts_nil (p : Nat) : cnts p [] = (List.range p).map fun _ => 0 := by
  unfold cnts
  simp
theorem cnts_len (p : Nat) (ws : List Nat) : (cnts p ws).length = p := by
  unfold cnts
  rw [List.length_map, List.length_range]
theorem cnts_get {p : Nat} {ws : List Nat} {i : Nat} (hi : i < p) : (cnts p ws)[i]? = some (ws.count i) := by
  unfold cnts
  rw [List.getElem?_map, List.getElem?_range hi]
  rfl
theorem cnts_add {p : Nat} {ws : List Nat} {x : Nat} (hx : x < p) : (cnts p ws).set x (ws.count x + 1) = cnts p (ws ++ [x]) := by
  refine List.ext_getElem? fun i => ?_
  by_cases hi : i < p
  · rw [cnts_get hi]
    by_cases e : x = i
    · subst e
      rw [List.getElem?_set_self (by rw [cnts_len]; exact hx), List.count_append, List.count_singleton]
      simp
    · rw [List.getElem?_set_ne e, cnts_get hi, List.count_append, List.count_singleton]
      simp [e]
  · rw [List.getElem?_eq_none (by rw [List.length_set, cnts_len]; omega), List.getElem?_eq_none (by rw [cnts_len]; omega)]
theorem cnts_perm {p : Nat} {ws vs : List Nat} (h : ws.Perm vs) : cnts p ws = cnts p vs := by
  unfold cnts
  refine List.map_congr_left fun i _ => ?_
  exact h.count_eq i
theorem lt_perm {ws vs : List Nat} (h : ws.Perm vs) (i : Nat) : lt ws i = lt vs i := h.countP_eq _
theorem Full.perm {ws vs : List Nat} (h : ws.Perm vs) (F : Full ws) : Full vs := by
  refine ⟨fun x hx => ?_, fun i hi => ?_⟩
  · rw [← h.length_eq]
    exact F.lo x (h.mem_iff.mpr hx)
  · rw [← lt_perm h]
    exact F.up i (by rw [h.length_eq]; exact hi)
theorem pok_full {ws : List Nat} (F : Full ws) : ∀ k i, i + k = ws.length → POk ((List.range' i k).map fun j => ws.count j) (lt ws i - i)
  | 0, i, h => by
    have e : i = ws.length := by omega
    have h2 : lt ws i = ws.length := by rw [e]; exact lt_all F.lo
    show lt ws i - i = 0
    omega
  | k + 1, i, h => by
    have h1 := F.up i (by omega)
    have h2 := F.up (i + 1) (by omega)
    have h3 := lt_succ ws i
    rw [List.range'_succ, List.map_cons]
    refine ⟨by omega, ?_⟩
    have ih := pok_full F k (i + 1) (by omega)
    have e : lt ws i - i + ws.count i - 1 = lt ws (i + 1) - (i + 1) := by omega
    rw [e]
    exact ih
theorem hl_full {ws : List Nat} (F : Full ws) : ∀ k i, i + k = ws.length → hl ((List.range' i k).map fun j => ws.count j) (lt ws i - i) = (List.range' i k).map fun j => lt ws (j + 1) - (j + 1)
  | 0, i, h => rfl
  | k + 1, i, h => by
    have h1 := F.up i (by omega)
    have h3 := lt_succ ws i
    rw [List.range'_succ, List.map_cons, List.map_cons]
    have ih := hl_full F k (i + 1) (by omega)
    have e : lt ws i - i + ws.count i - 1 = lt ws (i + 1) - (i + 1) := by omega
    show (lt ws i - i + ws.count i - 1) :: hl _ (lt ws i - i + ws.count i - 1) = _
    rw [e, ih]
def hts (ws : List Nat) : List Nat := (List.range ws.length).map fun j => lt ws (j + 1) - (j + 1)
theorem hgo_full {ws : List Nat} (F : Full ws) : hgo (pathL (cnts ws.length ws)) 0 = some (hts ws) := by
  have h1 := pok_full F ws.length 0 (by omega)
  have h2 := hl_full F ws.length 0 (by omega)
  rw [← List.range_eq_range'] at h1 h2
  rw [show lt ws 0 - 0 = 0 from by rw [lt_zero]] at h1 h2
  have h3 := hgo_path _ 0 h1
  rw [h2] at h3
  exact h3
/-! ### the rising wishes of a path -/
def rr (ws : List Nat) (i k : Nat) : List Nat := (List.range' i k).flatMap fun j => List.replicate (ws.count j) j
theorem zip_rr (ws : List Nat) : ∀ k i, (((List.range' i k).map fun j => ws.count j).zipIdx i).flatMap (fun q => List.replicate q.1 q.2) = rr ws i k
  | 0, i => rfl
  | k + 1, i => by
    unfold rr
    rw [List.range'_succ, List.map_cons, List.zipIdx_cons, List.flatMap_cons, List.flatMap_cons]
    congr 1
    exact zip_rr ws k (i + 1)
theorem rr_ge (ws : List Nat) : ∀ k i, ∀ x ∈ rr ws i k, i ≤ x ∧ x < i + k := fun k i x hx => by
  unfold rr at hx
  obtain ⟨j, hj, h2⟩ := List.mem_flatMap.mp hx
  obtain ⟨_, rfl⟩ := List.mem_replicate.mp h2
  have := List.mem_range'_1.mp hj
  omega
theorem rr_rise (ws : List Nat) : ∀ k i, (rr ws i k).Pairwise (· ≤ ·)
  | 0, i => List.Pairwise.nil
  | k + 1, i => by
    unfold rr
    rw [List.range'_succ, List.flatMap_cons]
    refine List.pairwise_append.mpr ⟨?_, rr_rise ws k (i + 1), fun a ha b hb => ?_⟩
    · refine List.pairwise_replicate.mpr ?_
      exact Or.inr (Nat.le_refl _)
    · obtain ⟨_, rfl⟩ := List.mem_replicate.mp ha
      have := rr_ge ws k (a + 1) b hb
      omega
theorem rr_count (ws : List Nat) (x : Nat) : ∀ k i, (rr ws i k).count x = if i ≤ x ∧ x < i + k then ws.count x else 0
  | 0, i => by
    rw [if_neg (by omega)]
    rfl
  | k + 1, i => by
    have ih := rr_count ws x k (i + 1)
    unfold rr at ih ⊢
    rw [List.range'_succ, List.flatMap_cons, List.count_append, ih, List.count_replicate]
    by_cases e : i = x
    · subst e
      have h1 : ¬ (i + 1 ≤ i ∧ i < i + 1 + k) := by omega
      have h2 : i ≤ i ∧ i < i + (k + 1) := by omega
      rw [if_neg h1, if_pos h2]
      simp
    · have h0 : ¬ ((i == x) = true) := by simpa using e
      rw [if_neg h0]
      by_cases h : i + 1 ≤ x ∧ x < i + 1 + k
      · have h2 : i ≤ x ∧ x < i + (k + 1) := by omega
        rw [if_pos h, if_pos h2, Nat.zero_add]
      · have h2 : ¬ (i ≤ x ∧ x < i + (k + 1)) := by omega
        rw [if_neg h, if_neg h2]
theorem rr_perm {ws : List Nat} {p : Nat} (h : ∀ x ∈ ws, x < p) : (rr ws 0 p).Perm ws := by
  refine List.perm_iff_count.mpr fun x => ?_
  rw [rr_count]
  by_cases c : 0 ≤ x ∧ x < 0 + p
  · rw [if_pos c]
  · rw [if_neg c]
    symm
    refine List.count_eq_zero.mpr fun hx => c ?_
    have := h x hx
    omega
def rise (ws : List Nat) : List Nat := rr ws 0 ws.length
theorem ris_full (ws : List Nat) : ris (pathL (cnts ws.length ws)) 0 = rise ws := by
  rw [ris_path]
  unfold cnts
  rw [List.range_eq_range', zip_rr]
  rfl
/-! ### what lies beneath: the drives -/
theorem sum_lt (ws : List Nat) : ∀ n, ((List.range n).map fun j => lt ws (j + 1)).sum = (ws.map fun w => n - w).sum := by
  intro n
  induction n with
  | zero =>
    simp only [List.range_zero, List.map_nil, List.sum_nil]
    induction ws with
    | nil => rfl
    | cons w r ih =>
      rw [List.map_cons, List.sum_cons, ← ih]
      omega
  | succ n ih =>
    rw [List.range_succ, List.map_append, List.sum_append, ih, List.map_singleton]
    show _ + (lt ws (n + 1) + 0) = _
    unfold lt
    clear ih
    induction ws with
    | nil => rfl
    | cons w r ih2 =>
      rw [List.map_cons, List.sum_cons, List.map_cons, List.sum_cons, List.countP_cons, ← ih2]
      by_cases h : w < n + 1
      · simp only [h, decide_true, if_true]
        omega
      · simp only [h, decide_false, Bool.false_eq_true, if_false]
        omega
theorem sum_sub {n : Nat} : ∀ {ws : List Nat}, (∀ x ∈ ws, x < n) → (ws.map fun w => n - w).sum + ws.sum = n * ws.length
  | [], _ => rfl
  | w :: r, h => by
    have ih := sum_sub (ws := r) fun x hx => h x (List.mem_cons_of_mem _ hx)
    have hw := h w List.mem_cons_self
    rw [List.map_cons, List.sum_cons, List.sum_cons, List.length_cons, Nat.mul_succ]
    omega
theorem sum_range (n : Nat) : 2 * ((List.range n).map fun j => j + 1).sum = n * (n + 1) := by
  induction n with
  | zero => rfl
  | succ n ih =>
    rw [List.range_succ, List.map_append, List.sum_append, List.map_singleton, Nat.mul_add, ih]
    show n * (n + 1) + 2 * (n + 1 + 0) = (n + 1) * (n + 1 + 1)
    have e : (n + 1) * (n + 1 + 1) = n * (n + 1) + 2 * (n + 1) := by rw [← Nat.add_mul, Nat.mul_comm]
    omega
theorem sum_diff {f g : Nat → Nat} : ∀ n, (∀ j, j < n → g j ≤ f j) → ((List.range n).map fun j => f j - g j).sum + ((List.range n).map g).sum = ((List.range n).map f).sum := by
  intro n
  induction n with
  | zero => intro _; rfl
  | succ n ih =>
    intro h
    have h1 := ih fun j hj => h j (by omega)
    have h2 := h n (Nat.lt_succ_self n)
    rw [List.range_succ, List.map_append, List.map_append, List.map_append, List.sum_append, List.sum_append, List.sum_append]
    simp only [List.map_singleton, List.sum_singleton]
    omega
/-- how far all drive -/
def drv (ws : List Nat) : Int := ((ws.length : Int) * ((ws.length : Int) - 1)) / 2 - ((ws.sum : Nat) : Int)
theorem drv_hts {ws : List Nat} (F : Full ws) : drv ws = (((hts ws).sum : Nat) : Int) := by
  have h1 := sum_lt ws ws.length
  have h2 := sum_sub F.lo
  have h3 := sum_range ws.length
  have h4 := sum_diff (f := fun j => lt ws (j + 1)) (g := fun j => j + 1) ws.length fun j hj => F.up (j + 1) (by omega)
  have h5 : (hts ws).sum + ((List.range ws.length).map fun j => j + 1).sum + ws.sum = ws.length * ws.length := by
    unfold hts
    omega
  unfold drv
  have e : ((ws.length : Int) * ((ws.length : Int) - 1)) = 2 * ((((hts ws).sum + ws.sum : Nat)) : Int) := by
    have h6 : ws.length * (ws.length + 1) + 2 * ((hts ws).sum + ws.sum) = 2 * (ws.length * ws.length) := by omega
    have h7 : ((ws.length * (ws.length + 1) + 2 * ((hts ws).sum + ws.sum) : Nat) : Int) = ((2 * (ws.length * ws.length) : Nat) : Int) := by rw [h6]
    push_cast at h7 ⊢
    rw [Int.mul_sub]
    rw [Int.mul_add] at h7
    omega
  rw [e, Int.mul_ediv_cancel_left _ (by decide)]
  push_cast
  omega
end Pk
namespace Pk
open PySem PySem.Spec PyProof.Rows L2 Evl He
def topS (i : Nat) : Stmt := PySem.Challenge.pw_parkrow_k07_whole_path.main.body.getD i (.Pass ⟨0, 0, 0, 0⟩)
abbrev s_is_number : Stmt := topS 7
abbrev N_is_number : List Str := ["thing", "least", "most"]
abbrev P_is_number : List Str := ["thing", "least", "most"]
theorem sc_is_number : FnScope N_is_number P_is_number (defScope s_is_number) := ⟨rfl, rfl, rfl, by decide +kernel, rfl, by decide +kernel, by decide +kernel⟩
abbrev s_asked_wishes : Stmt := topS 8
abbrev N_asked_wishes : List Str := ["places", "wishes", "wish"]
abbrev P_asked_wishes : List Str := ["places", "wishes"]
theorem sc_asked_wishes : FnScope N_asked_wishes P_asked_wishes (defScope s_asked_wishes) := ⟨rfl, rfl, rfl, by decide +kernel, rfl, by decide +kernel, by decide +kernel⟩
abbrev s_crowd_of : Stmt := topS 9
abbrev N_crowd_of : List Str := ["places", "wishes", "counts", "many", "found", "place"]
abbrev P_crowd_of : List Str := ["places", "wishes"]
theorem sc_crowd_of : FnScope N_crowd_of P_crowd_of (defScope s_crowd_of) := ⟨rfl, rfl, rfl, by decide +kernel, rfl, by decide +kernel, by decide +kernel⟩
abbrev s_counted : Stmt := topS 10
abbrev N_counted : List Str := ["places", "wishes", "counts", "wish", "place"]
abbrev P_counted : List Str := ["places", "wishes"]
theorem sc_counted : FnScope N_counted P_counted (defScope s_counted) := ⟨rfl, rfl, rfl, by decide +kernel, rfl, by decide +kernel, by decide +kernel⟩
abbrev s_all_parked : Stmt := topS 11
abbrev N_all_parked : List Str := ["wishes"]
abbrev P_all_parked : List Str := ["wishes"]
theorem sc_all_parked : FnScope N_all_parked P_all_parked (defScope s_all_parked) := ⟨rfl, rfl, rfl, by decide +kernel, rfl, by decide +kernel, by decide +kernel⟩
abbrev s_drives : Stmt := topS 12
abbrev N_drives : List Str := ["wishes"]
abbrev P_drives : List Str := ["wishes"]
theorem sc_drives : FnScope N_drives P_drives (defScope s_drives) := ⟨rfl, rfl, rfl, by decide +kernel, rfl, by decide +kernel, by decide +kernel⟩
abbrev s_as_list : Stmt := topS 13
abbrev N_as_list : List Str := ["wishes"]
abbrev P_as_list : List Str := ["wishes"]
theorem sc_as_list : FnScope N_as_list P_as_list (defScope s_as_list) := ⟨rfl, rfl, rfl, by decide +kernel, rfl, by decide +kernel, by decide +kernel⟩
abbrev s_path : Stmt := topS 15
abbrev N_path : List Str := ["wishes", "many"]
abbrev P_path : List Str := ["wishes"]
theorem sc_path : FnScope N_path P_path (defScope s_path) := ⟨rfl, rfl, rfl, by decide +kernel, rfl, by decide +kernel, by decide +kernel⟩
abbrev s_heights : Stmt := topS 16
abbrev N_heights : List Str := ["text", "height", "found", "sign"]
abbrev P_heights : List Str := ["text"]
theorem sc_heights : FnScope N_heights P_heights (defScope s_heights) := ⟨rfl, rfl, rfl, by decide +kernel, rfl, by decide +kernel, by decide +kernel⟩
abbrev s_beneath : Stmt := topS 17
abbrev N_beneath : List Str := ["text"]
abbrev P_beneath : List Str := ["text"]
theorem sc_beneath : FnScope N_beneath P_beneath (defScope s_beneath) := ⟨rfl, rfl, rfl, by decide +kernel, rfl, by decide +kernel, by decide +kernel⟩
abbrev s_rising : Stmt := topS 18
abbrev N_rising : List Str := ["text", "found", "place", "sign"]
abbrev P_rising : List Str := ["text"]
theorem sc_rising : FnScope N_rising P_rising (defScope s_rising) := ⟨rfl, rfl, rfl, by decide +kernel, rfl, by decide +kernel, by decide +kernel⟩
abbrev s_law_full : Stmt := topS 20
abbrev N_law_full : List Str := ["script", "many", "wishes", "counts", "wish", "height", "least", "empty", "place", "cell"]
abbrev P_law_full : List Str := ["script"]
theorem sc_law_full : FnScope N_law_full P_law_full (defScope s_law_full) := ⟨rfl, rfl, rfl, by decide +kernel, rfl, by decide +kernel, by decide +kernel⟩
abbrev s_law_numbers : Stmt := topS 21
abbrev N_law_numbers : List Str := ["found", "one"]
abbrev P_law_numbers : List Str := ["found"]
theorem sc_law_numbers : FnScope N_law_numbers P_law_numbers (defScope s_law_numbers) := ⟨rfl, rfl, rfl, by decide +kernel, rfl, by decide +kernel, by decide +kernel⟩
abbrev s_law : Stmt := topS 22
abbrev N_law : List Str := ["script", "wishes", "handed", "counts", "wish", "text", "height", "below", "many", "found", "again", "place"]
abbrev P_law : List Str := ["script"]
theorem sc_law : FnScope N_law P_law (defScope s_law) := ⟨rfl, rfl, rfl, by decide +kernel, rfl, by decide +kernel, by decide +kernel⟩
def der_is_number {P : Program} {w : World} {K : PySem.W.Frag} {mg : Str → Option Value} {base : Heap} (B : Bi mg) {f : Addr} {cdv : Value} {A : Around} {outer : List Env} {s : Shared} {H : Hp} {E : XK}
    (hr : Room 0 (A.deeper (envOfC "is_number" (defScope s_is_number) s.heap.objs.size f cdv))) :
    {t : TS // PSs (cxOf CX0 P w K mg base N_is_number "is_number" (defScope s_is_number) f cdv A outer s H E).nox (defBody s_is_number) t} := ⟨_, (pss_one (ps_ret (pe_and (pe_callB (id := "isinstance") (r := rIsi K) call_isi (by rfl) B.isinstance (by decide +kernel) (pa_cons (pv 0) (pa_cons (pe_bltn (v := .ty "int") (by rfl) B.int (by decide +kernel) rfl) pa_nil))) (pe_and (pe_not (pe_callB (id := "isinstance") (r := rIsi K) call_isi (by rfl) B.isinstance (by decide +kernel) (pa_cons (pv 0) (pa_cons (pe_bltn (v := .ty "bool") (by rfl) B.bool (by decide +kernel) rfl) pa_nil)))) (pe_one (pe_chain op_le op_le (pv 1) (pv 0) (pv 2)))))))⟩

def der_asked_wishes {P : Program} {w : World} {K : PySem.W.Frag} {mg : Str → Option Value} {base : Heap} (B : Bi mg) {fd_is_number : FuncData} {sp_is_number : Sp} (C_is_number : Cal P w K mg base CX0 1 "is_number" P_is_number sp_is_number fd_is_number) {tk_PLACES : Tok} (gc_PLACES : mg "PLACES" = some (.int 1000000 tk_PLACES)) {f : Addr} {cdv : Value} {A : Around} {outer : List Env} {s : Shared} {H : Hp} {E : XK}
    (hr : Room 1 (A.deeper (envOfC "asked_wishes" (defScope s_asked_wishes) s.heap.objs.size f cdv))) :
    {t : TS // PSs (cxOf CX0 P w K mg base N_asked_wishes "asked_wishes" (defScope s_asked_wishes) f cdv A outer s H E).nox (defBody s_asked_wishes) t} := ⟨_, (pss_cons (ps_if (pt_not (pt_val (pe_call C_is_number.ok (hr.mono (by decide)) (by rfl) C_is_number.gl C_is_number.kp C_is_number.bd .nil pass0 (pa_cons (pv 0) (pa_cons pe_int (pa_cons (pe_glob (v := .int 1000000) rfl gc_PLACES ⟨_, rfl⟩) pa_nil))))))
 (pss_one ps_never)
 pss_nil)
 (pss_one (ps_if (PW.pt (pw_or (pt_not (pt_val (pe_callB (id := "isinstance") (r := rIsi K) call_isi (by rfl) B.isinstance (by decide +kernel) (pa_cons (pv 1) (pa_cons (pe_bltn (v := .ty "list") (by rfl) B.list (by decide +kernel) rfl) pa_nil))))) (pw_or1 (pt_not (pt_val (pe_callB (id := "all") (r := rAll K) (cr_all rfl) (by rfl) B.all (by decide +kernel) (pa_cons (pe_lc (own := [("wish", 2)]) (g := (gName 2)) (tt := tYes) rfl sc_asked_wishes.nd (pi_list (pv 1)) (blkOk_by (own := [("wish", 2)]) (N := N_asked_wishes) (sc := defScope s_asked_wishes) (by decide +kernel)) (fun _ _ _ _ _ => (pg_name (i := 2) sc_asked_wishes.nd rfl (Or.inl rfl) (Or.inr rfl))) (fun _ _ _ _ _ => pts_nil) (fun _ _ _ _ _ => (pe_call C_is_number.ok (hr.mono (by decide)) (by rfl) C_is_number.gl C_is_number.kp C_is_number.bd .nil pass0 (pa_cons (pv 2) (pa_cons pe_int (pa_cons (pe_op op_sub (pv 0) pe_int) pa_nil)))))) pa_nil)))))))
 (pss_one ps_never)
 pss_nil)))⟩

def der_crowd_of {P : Program} {w : World} {K : PySem.W.Frag} {mg : Str → Option Value} {base : Heap} (B : Bi mg) {fd_counted : FuncData} {sp_counted : Sp} (C_counted : Cal P w K mg base CX0 1 "counted" P_counted sp_counted fd_counted) {f : Addr} {cdv : Value} {A : Around} {outer : List Env} {s : Shared} {H : Hp} {E : XK}
    (hr : Room 1 (A.deeper (envOfC "crowd_of" (defScope s_crowd_of) s.heap.objs.size f cdv))) :
    {t : TS // PSs (cxOf CX0 P w K mg base N_crowd_of "crowd_of" (defScope s_crowd_of) f cdv A outer s H E).nox (defBody s_crowd_of) t} := ⟨_, (pss_cons (ps_set (i := 2) sc_crowd_of.nd rfl (Or.inl rfl) (pe_call C_counted.ok (hr.mono (by decide)) (by rfl) C_counted.gl C_counted.kp C_counted.bd .nil pass0 (pa_cons (pv 0) (pa_cons (pv 1) pa_nil))))
 (pss_cons (ps_set (i := 3) sc_crowd_of.nd rfl (Or.inl rfl) pe_int)
 (pss_cons (ps_set (i := 4) sc_crowd_of.nd rfl (Or.inl rfl) (pe_un un_neg pe_int))
 (pss_cons (ps_for PassesOwn.never rfl (pi_revR (by rfl) B.reversed (prg_1 (by rfl) B.range (pv 0))) (pg_name (i := 5) sc_crowd_of.nd rfl (Or.inl rfl))
 (pss_cons (ps_set (i := 3) sc_crowd_of.nd rfl (Or.inl rfl) (pe_op op_add (pv 3) (pe_ix (r := rIxL K) ix_list (pv 2) (pv 5) (fun _ _ => rfl))))
 (pss_one (ps_if (pt_cmpR op_gt (pv 3) (pe_op op_sub (pv 0) (pv 5)) (nomark _))
 (pss_one (ps_set (i := 4) sc_crowd_of.nd rfl (Or.inl rfl) (pv 5)))
 pss_nil))))
 (pss_one (ps_ret (pv 4)))))))⟩

def der_counted {P : Program} {w : World} {K : PySem.W.Frag} {mg : Str → Option Value} {base : Heap} (B : Bi mg) {f : Addr} {cdv : Value} {A : Around} {outer : List Env} {s : Shared} {H : Hp} {E : XK}
    (hr : Room 0 (A.deeper (envOfC "counted" (defScope s_counted) s.heap.objs.size f cdv))) :
    {t : TS // PSs (cxOf CX0 P w K mg base N_counted "counted" (defScope s_counted) f cdv A outer s H E).nox (defBody s_counted) t} := ⟨_, (pss_cons (ps_setLc (i := 2) (own := [("place", 4)]) (g := (gName 4)) (tt := tYes) rfl sc_counted.nd rfl rfl (sw_true rfl rfl rfl (by decide +kernel))   (pi_range1 (by rfl) B.range (pa_cons (pv 0) pa_nil)) (blkOk_by (own := [("place", 4)]) (N := N_counted) (sc := defScope s_counted) (by decide +kernel)) (fun _ _ _ _ _ => (pg_name (i := 4) sc_counted.nd rfl (Or.inl rfl) (Or.inr rfl))) (fun _ _ _ _ _ => pts_nil) (fun _ _ _ _ _ => pe_int))
 (pss_cons (ps_for PassesOwn.never rfl (pi_list (pv 1)) (pg_name (i := 3) sc_counted.nd rfl (Or.inl rfl))
 (pss_one (ps_asg (pe_op op_add (pe_ix (r := rIxL K) ix_list (pv 2) (pv 3) (fun _ _ => rfl)) pe_int) (pg_sub (pv 2) (pv 3) set_list))))
 (pss_one (ps_ret (pv 2)))))⟩

def der_all_parked {P : Program} {w : World} {K : PySem.W.Frag} {mg : Str → Option Value} {base : Heap} (B : Bi mg) {fd_asked_wishes : FuncData} {sp_asked_wishes : Sp} (C_asked_wishes : Cal P w K mg base CX0 2 "asked_wishes" P_asked_wishes sp_asked_wishes fd_asked_wishes) {fd_crowd_of : FuncData} {sp_crowd_of : Sp} (C_crowd_of : Cal P w K mg base CX0 2 "crowd_of" P_crowd_of sp_crowd_of fd_crowd_of) (X_TooMany : ExcF K mg "TooMany") {f : Addr} {cdv : Value} {A : Around} {outer : List Env} {s : Shared} {H : Hp} {E : XK}
    (hr : Room 2 (A.deeper (envOfC "all_parked" (defScope s_all_parked) s.heap.objs.size f cdv))) :
    {t : TS // PSs (cxOf (L2.CX P w) P w K mg base N_all_parked "all_parked" (defScope s_all_parked) f cdv A outer s H E) (defBody s_all_parked) t} := ⟨_, (pss_cons (ps_expr (pe_call C_asked_wishes.ok (hr.mono (by decide)) (by rfl) C_asked_wishes.gl C_asked_wishes.kp C_asked_wishes.bd .nil pass0 (pa_cons (pe_callB (id := "max") (r := rMax2) (call_max2 rfl) (by rfl) B.max (by decide +kernel) (pa_cons (pe_callB (id := "len") (r := rLenS K) call_len_seq (by rfl) B.len (by decide +kernel) (pa_cons (pv 0) pa_nil)) (pa_cons pe_int pa_nil))) (pa_cons (pv 0) pa_nil))))
 (pss_one (ps_if (PW.pt (pw_and (pt_cmpR (r := rNeD K) (op_neD hr.units) (pv 0) (pe_lst pa_nil) (nomark _)) (pw_and1 (pt_cmpR op_ge (pe_call C_crowd_of.ok (hr.mono (by decide)) (by rfl) C_crowd_of.gl C_crowd_of.kp C_crowd_of.bd .nil pass0 (pa_cons (pe_callB (id := "len") (r := rLenS K) call_len_seq (by rfl) B.len (by decide +kernel) (pa_cons (pv 0) pa_nil)) (pa_cons (pv 0) pa_nil))) pe_int (nomark _)))))
 (pss_one (ps_raise rfl (takes_of rfl rfl rfl rfl) (pmk_own PySem.F.excBase_ValueError X_TooMany.ex X_TooMany.gl X_TooMany.kp (raises_own X_TooMany.be X_TooMany.ty) rfl)))
 pss_nil)))⟩

def der_drives {P : Program} {w : World} {K : PySem.W.Frag} {mg : Str → Option Value} {base : Heap} (B : Bi mg) {fd_all_parked : FuncData} {sp_all_parked : Sp} (C_all_parked : Cal P w K mg base (L2.CX P w) 3 "all_parked" P_all_parked sp_all_parked fd_all_parked) {fd_as_list : FuncData} {sp_as_list : Sp} (C_as_list : Cal P w K mg base CX0 1 "as_list" P_as_list sp_as_list fd_as_list) {f : Addr} {cdv : Value} {A : Around} {outer : List Env} {s : Shared} {H : Hp} {E : XK}
    (hr : Room 3 (A.deeper (envOfC "drives" (defScope s_drives) s.heap.objs.size f cdv))) :
    {t : TS // PSs (cxOf (L2.CX P w) P w K mg base N_drives "drives" (defScope s_drives) f cdv A outer s H E) (defBody s_drives) t} := ⟨_, (pss_cons (ps_expr (pe_call C_all_parked.ok (hr.mono (by decide)) (by rfl) C_all_parked.gl C_all_parked.kp C_all_parked.bd .nil (passes_call (W := fun cls d _ H => E cls d H) (takes_of rfl rfl rfl rfl) (fun _ _ _ _ h => h)) (pa_cons (pe_call C_as_list.ok (hr.mono (by decide)) (by rfl) C_as_list.gl C_as_list.kp C_as_list.bd .nil pass0 (pa_cons (pv 0) pa_nil)) pa_nil)))
 (pss_one (ps_ret (pe_op op_sub (pe_op op_fdiv (pe_op op_mul (pe_callB (id := "len") (r := rLenS K) call_len_seq (by rfl) B.len (by decide +kernel) (pa_cons (pv 0) pa_nil)) (pe_op op_sub (pe_callB (id := "len") (r := rLenS K) call_len_seq (by rfl) B.len (by decide +kernel) (pa_cons (pv 0) pa_nil)) pe_int)) pe_int) (pe_callB (id := "sum") (r := rSum K) (cr_sum rfl) (by rfl) B.sum (by decide +kernel) (pa_cons (pv 0) pa_nil))))))⟩

def der_as_list {P : Program} {w : World} {K : PySem.W.Frag} {mg : Str → Option Value} {base : Heap} (B : Bi mg) {f : Addr} {cdv : Value} {A : Around} {outer : List Env} {s : Shared} {H : Hp} {E : XK}
    (hr : Room 0 (A.deeper (envOfC "as_list" (defScope s_as_list) s.heap.objs.size f cdv))) :
    {t : TS // PSs (cxOf CX0 P w K mg base N_as_list "as_list" (defScope s_as_list) f cdv A outer s H E).nox (defBody s_as_list) t} := ⟨_, (pss_cons (ps_if (pt_not (pt_val (pe_callB (id := "isinstance") (r := rIsi K) call_isi (by rfl) B.isinstance (by decide +kernel) (pa_cons (pv 0) (pa_cons (pe_bltn (v := .ty "list") (by rfl) B.list (by decide +kernel) rfl) pa_nil)))))
 (pss_one ps_never)
 pss_nil)
 (pss_one (ps_ret (pv 0))))⟩

def der_path {P : Program} {w : World} {K : PySem.W.Frag} {mg : Str → Option Value} {base : Heap} (B : Bi mg) {fd_all_parked : FuncData} {sp_all_parked : Sp} (C_all_parked : Cal P w K mg base (L2.CX P w) 3 "all_parked" P_all_parked sp_all_parked fd_all_parked) {fd_as_list : FuncData} {sp_as_list : Sp} (C_as_list : Cal P w K mg base CX0 1 "as_list" P_as_list sp_as_list fd_as_list) {fd_counted : FuncData} {sp_counted : Sp} (C_counted : Cal P w K mg base CX0 1 "counted" P_counted sp_counted fd_counted) {f : Addr} {cdv : Value} {A : Around} {outer : List Env} {s : Shared} {H : Hp} {E : XK}
    (hr : Room 3 (A.deeper (envOfC "path" (defScope s_path) s.heap.objs.size f cdv))) :
    {t : TS // PSs (cxOf (L2.CX P w) P w K mg base N_path "path" (defScope s_path) f cdv A outer s H E) (defBody s_path) t} := ⟨_, (pss_cons (ps_expr (pe_call C_all_parked.ok (hr.mono (by decide)) (by rfl) C_all_parked.gl C_all_parked.kp C_all_parked.bd .nil (passes_call (W := fun cls d _ H => E cls d H) (takes_of rfl rfl rfl rfl) (fun _ _ _ _ h => h)) (pa_cons (pe_call C_as_list.ok (hr.mono (by decide)) (by rfl) C_as_list.gl C_as_list.kp C_as_list.bd .nil pass0 (pa_cons (pv 0) pa_nil)) pa_nil)))
 (pss_cons (ps_if (pt_cmpR (r := rEqD K) (op_eqD hr.units) (pv 0) (pe_lst pa_nil) (nomark _))
 (pss_one (ps_ret pe_str))
 pss_nil)
 (pss_one (ps_ret (pe_join pe_str (pe_lc (own := [("many", 1)]) (g := (gName 1)) (tt := tYes) rfl sc_path.nd (pi_list (pe_call C_counted.ok (hr.mono (by decide)) (by rfl) C_counted.gl C_counted.kp C_counted.bd .nil pass0 (pa_cons (pe_callB (id := "len") (r := rLenS K) call_len_seq (by rfl) B.len (by decide +kernel) (pa_cons (pv 0) pa_nil)) (pa_cons (pv 0) pa_nil)))) (blkOk_by (own := [("many", 1)]) (N := N_path) (sc := defScope s_path) (by decide +kernel)) (fun _ _ _ _ _ => (pg_name (i := 1) sc_path.nd rfl (Or.inl rfl) (Or.inr rfl))) (fun _ _ _ _ _ => pts_nil) (fun _ _ _ _ _ => (pe_op op_add_str (pe_op op_mul_str pe_str (pv 1)) pe_str))))))))⟩

def der_heights {P : Program} {w : World} {K : PySem.W.Frag} {mg : Str → Option Value} {base : Heap} (B : Bi mg) (X_BadPath : ExcF K mg "BadPath") {f : Addr} {cdv : Value} {A : Around} {outer : List Env} {s : Shared} {H : Hp} {E : XK}
    (hr : Room 0 (A.deeper (envOfC "heights" (defScope s_heights) s.heap.objs.size f cdv))) :
    {t : TS // PSs (cxOf (L2.CX P w) P w K mg base N_heights "heights" (defScope s_heights) f cdv A outer s H E) (defBody s_heights) t} := ⟨_, (pss_cons (ps_if (pt_not (pt_val (pe_callB (id := "isinstance") (r := rIsi K) call_isi (by rfl) B.isinstance (by decide +kernel) (pa_cons (pv 0) (pa_cons (pe_bltn (v := .ty "str") (by rfl) B.str (by decide +kernel) rfl) pa_nil)))))
 (pss_one (ps_raise rfl (takes_of rfl rfl rfl rfl) (pmk_own PySem.F.excBase_ValueError X_BadPath.ex X_BadPath.gl X_BadPath.kp (raises_own X_BadPath.be X_BadPath.ty) rfl)))
 pss_nil)
 (pss_cons (ps_set (i := 1) sc_heights.nd rfl (Or.inl rfl) pe_int)
 (pss_cons (ps_set (i := 2) sc_heights.nd rfl (Or.inl rfl) (pe_lst pa_nil))
 (pss_cons (ps_for (passes_of rfl) rfl (pi_str (pv 0)) (pg_name (i := 3) sc_heights.nd rfl (Or.inl rfl))
 (pss_one (ps_if (pt_cmpR op_eq (pv 3) pe_str (nomark _))
 (pss_one (ps_set (i := 1) sc_heights.nd rfl (Or.inl rfl) (pe_op op_add (pv 1) pe_int)))
 (pss_one (ps_if (PW.pt (pw_and (pt_cmpR op_eq (pv 3) pe_str (nomark _)) (pw_and1 (pt_cmpR op_gt (pv 1) pe_int (nomark _)))))
 (pss_cons (ps_set (i := 1) sc_heights.nd rfl (Or.inl rfl) (pe_op op_sub (pv 1) pe_int))
 (pss_one (ps_expr (pe_bm PySem.F.plainAttrs_list PySem.F.slot_list_append PySem.F.type_list_append mt_append (pv 2) (pa_cons (pv 1) pa_nil)))))
 (pss_one (ps_raise rfl (takes_of rfl rfl rfl rfl) (pmk_own PySem.F.excBase_ValueError X_BadPath.ex X_BadPath.gl X_BadPath.kp (raises_own X_BadPath.be X_BadPath.ty) rfl))))))))
 (pss_cons (ps_if (pt_cmpR op_ne (pv 1) pe_int (nomark _))
 (pss_one (ps_raise rfl (takes_of rfl rfl rfl rfl) (pmk_own PySem.F.excBase_ValueError X_BadPath.ex X_BadPath.gl X_BadPath.kp (raises_own X_BadPath.be X_BadPath.ty) rfl)))
 pss_nil)
 (pss_one (ps_ret (pv 2))))))))⟩

def der_beneath {P : Program} {w : World} {K : PySem.W.Frag} {mg : Str → Option Value} {base : Heap} (B : Bi mg) {fd_heights : FuncData} {sp_heights : Sp} (C_heights : Cal P w K mg base (L2.CX P w) 1 "heights" P_heights sp_heights fd_heights) {f : Addr} {cdv : Value} {A : Around} {outer : List Env} {s : Shared} {H : Hp} {E : XK}
    (hr : Room 1 (A.deeper (envOfC "beneath" (defScope s_beneath) s.heap.objs.size f cdv))) :
    {t : TS // PSs (cxOf (L2.CX P w) P w K mg base N_beneath "beneath" (defScope s_beneath) f cdv A outer s H E) (defBody s_beneath) t} := ⟨_, (pss_one (ps_ret (pe_callB (id := "sum") (r := rSum K) (cr_sum rfl) (by rfl) B.sum (by decide +kernel) (pa_cons (pe_call C_heights.ok (hr.mono (by decide)) (by rfl) C_heights.gl C_heights.kp C_heights.bd .nil (passes_call (W := fun cls d _ H => E cls d H) (takes_of rfl rfl rfl rfl) (fun _ _ _ _ h => h)) (pa_cons (pv 0) pa_nil)) pa_nil))))⟩

def der_rising {P : Program} {w : World} {K : PySem.W.Frag} {mg : Str → Option Value} {base : Heap} {fd_heights : FuncData} {sp_heights : Sp} (C_heights : Cal P w K mg base (L2.CX P w) 1 "heights" P_heights sp_heights fd_heights) {f : Addr} {cdv : Value} {A : Around} {outer : List Env} {s : Shared} {H : Hp} {E : XK}
    (hr : Room 1 (A.deeper (envOfC "rising" (defScope s_rising) s.heap.objs.size f cdv))) :
    {t : TS // PSs (cxOf (L2.CX P w) P w K mg base N_rising "rising" (defScope s_rising) f cdv A outer s H E) (defBody s_rising) t} := ⟨_, (pss_cons (ps_expr (pe_call C_heights.ok (hr.mono (by decide)) (by rfl) C_heights.gl C_heights.kp C_heights.bd .nil (passes_call (W := fun cls d _ H => E cls d H) (takes_of rfl rfl rfl rfl) (fun _ _ _ _ h => h)) (pa_cons (pv 0) pa_nil)))
 (pss_cons (ps_set (i := 1) sc_rising.nd rfl (Or.inl rfl) (pe_lst pa_nil))
 (pss_cons (ps_set (i := 2) sc_rising.nd rfl (Or.inl rfl) pe_int)
 (pss_cons (ps_for (passes_of rfl) rfl (pi_str (pv 0)) (pg_name (i := 3) sc_rising.nd rfl (Or.inl rfl))
 (pss_one (ps_if (pt_cmpR op_eq (pv 3) pe_str (nomark _))
 (pss_one (ps_expr (pe_bm PySem.F.plainAttrs_list PySem.F.slot_list_append PySem.F.type_list_append mt_append (pv 1) (pa_cons (pv 2) pa_nil))))
 (pss_one (ps_set (i := 2) sc_rising.nd rfl (Or.inl rfl) (pe_op op_add (pv 2) pe_int))))))
 (pss_one (ps_ret (pv 1)))))))⟩

def der_law_full {P : Program} {w : World} {K : PySem.W.Frag} {mg : Str → Option Value} {base : Heap} (B : Bi mg) {f : Addr} {cdv : Value} {A : Around} {outer : List Env} {s : Shared} {H : Hp} {E : XK}
    (hr : Room 0 (A.deeper (envOfC "_law_full" (defScope s_law_full) s.heap.objs.size f cdv))) :
    {t : TS // PSs (cxOf CX0 P w K mg base N_law_full "_law_full" (defScope s_law_full) f cdv A outer s H E).nox (defBody s_law_full) t} := ⟨_, (pss_cons (ps_set (i := 1) sc_law_full.nd rfl (Or.inr rfl) (pe_callB (id := "len") (r := rLenS K) call_len_seq (by rfl) B.len (by decide +kernel) (pa_cons (pe_slice (r := rSlL K) sl_list (pv 0) po_none (po_some pe_int)) pa_nil)))
 (pss_cons (ps_setLc (i := 2) (own := [("cell", 9)]) (g := (gName 9)) (tt := tYes) rfl sc_law_full.nd rfl rfl (sw_true rfl rfl rfl (by decide +kernel))   (pi_list (pe_slice (r := rSlL K) sl_list (pv 0) po_none (po_some pe_int))) (blkOk_by (own := [("cell", 9)]) (N := N_law_full) (sc := defScope s_law_full) (by decide +kernel)) (fun _ _ _ _ _ => (pg_name (i := 9) sc_law_full.nd rfl (Or.inl rfl) (Or.inr rfl))) (fun _ _ _ _ _ => pts_nil) (fun _ _ _ _ _ => (pe_op op_mod (pv 9) (pe_op op_add (pv 1) pe_int))))
 (pss_cons (ps_setLc (i := 3) (own := [("place", 8)]) (g := (gName 8)) (tt := tYes) rfl sc_law_full.nd rfl rfl (sw_true rfl rfl rfl (by decide +kernel))   (pi_range1 (by rfl) B.range (pa_cons (pe_op op_add (pv 1) pe_int) pa_nil)) (blkOk_by (own := [("place", 8)]) (N := N_law_full) (sc := defScope s_law_full) (by decide +kernel)) (fun _ _ _ _ _ => (pg_name (i := 8) sc_law_full.nd rfl (Or.inl rfl) (Or.inr rfl))) (fun _ _ _ _ _ => pts_nil) (fun _ _ _ _ _ => pe_int))
 (pss_cons (ps_for PassesOwn.never rfl (pi_list (pv 2)) (pg_name (i := 4) sc_law_full.nd rfl (Or.inl rfl))
 (pss_one (ps_asg (pe_op op_add (pe_ix (r := rIxL K) ix_list (pv 3) (pv 4) (fun _ _ => rfl)) pe_int) (pg_sub (pv 3) (pv 4) set_list))))
 (pss_cons (ps_set (i := 5) sc_law_full.nd rfl (Or.inl rfl) pe_int)
 (pss_cons (ps_set (i := 6) sc_law_full.nd rfl (Or.inl rfl) pe_int)
 (pss_cons (ps_set (i := 7) sc_law_full.nd rfl (Or.inr rfl) pe_int)
 (pss_cons (ps_for PassesOwn.never rfl (pi_range1 (by rfl) B.range (pa_cons (pe_op op_add (pv 1) pe_int) pa_nil)) (pg_name (i := 8) sc_law_full.nd rfl (Or.inl rfl))
 (pss_cons (ps_set (i := 5) sc_law_full.nd rfl (Or.inl rfl) (pe_op op_sub (pe_op op_add (pv 5) (pe_ix (r := rIxL K) ix_list (pv 3) (pv 8) (fun _ _ => rfl))) pe_int))
 (pss_one (ps_if (pt_cmpR op_lt (pv 5) (pv 6) (nomark _))
 (pss_cons (ps_set (i := 6) sc_law_full.nd rfl (Or.inl rfl) (pv 5))
 (pss_one (ps_set (i := 7) sc_law_full.nd rfl (Or.inr rfl) (pv 8))))
 pss_nil))))
 (pss_one (ps_ret (pe_lc (own := [("wish", 4)]) (g := (gName 4)) (tt := tYes) rfl sc_law_full.nd (pi_list (pv 2)) (blkOk_by (own := [("wish", 4)]) (N := N_law_full) (sc := defScope s_law_full) (by decide +kernel)) (fun _ _ _ _ _ => (pg_name (i := 4) sc_law_full.nd rfl (Or.inl rfl) (Or.inr rfl))) (fun _ _ _ _ _ => pts_nil) (fun _ _ _ _ _ => (pe_op op_mod (pe_op op_sub (pe_op op_add (pv 4) (pv 1)) (pv 7)) (pe_op op_add (pv 1) pe_int))))))))))))))⟩

def der_law_numbers {P : Program} {w : World} {K : PySem.W.Frag} {mg : Str → Option Value} {base : Heap} (B : Bi mg) {f : Addr} {cdv : Value} {A : Around} {outer : List Env} {s : Shared} {H : Hp} {E : XK}
    (hr : Room 0 (A.deeper (envOfC "_law_numbers" (defScope s_law_numbers) s.heap.objs.size f cdv))) :
    {t : TS // PSs (cxOf CX0 P w K mg base N_law_numbers "_law_numbers" (defScope s_law_numbers) f cdv A outer s H E).nox (defBody s_law_numbers) t} := ⟨_, (pss_cons (ps_if (pt_not (pt_val (pe_callB (id := "isinstance") (r := rIsi K) call_isi (by rfl) B.isinstance (by decide +kernel) (pa_cons (pv 0) (pa_cons (pe_bltn (v := .ty "list") (by rfl) B.list (by decide +kernel) rfl) pa_nil)))))
 (pss_one (ps_ret pe_bl))
 pss_nil)
 (pss_one (ps_ret (pe_callB (id := "all") (r := rAll K) (cr_all rfl) (by rfl) B.all (by decide +kernel) (pa_cons (pe_lc (own := [("one", 1)]) (g := (gName 1)) (tt := tYes) rfl sc_law_numbers.nd (pi_list (pv 0)) (blkOk_by (own := [("one", 1)]) (N := N_law_numbers) (sc := defScope s_law_numbers) (by decide +kernel)) (fun _ _ _ _ _ => (pg_name (i := 1) sc_law_numbers.nd rfl (Or.inl rfl) (Or.inr rfl))) (fun _ _ _ _ _ => pts_nil) (fun _ _ _ _ _ => (pe_and (pe_callB (id := "isinstance") (r := rIsi K) call_isi (by rfl) B.isinstance (by decide +kernel) (pa_cons (pv 1) (pa_cons (pe_bltn (v := .ty "int") (by rfl) B.int (by decide +kernel) rfl) pa_nil))) (pe_one (pe_not (pe_callB (id := "isinstance") (r := rIsi K) call_isi (by rfl) B.isinstance (by decide +kernel) (pa_cons (pv 1) (pa_cons (pe_bltn (v := .ty "bool") (by rfl) B.bool (by decide +kernel) rfl) pa_nil)))))))) pa_nil)))))⟩

def der_law {P : Program} {w : World} {K : PySem.W.Frag} {mg : Str → Option Value} {base : Heap} (B : Bi mg) {fd_law_full : FuncData} {sp_law_full : Sp} (C_law_full : Cal P w K mg base CX0 1 "_law_full" P_law_full sp_law_full fd_law_full) {fd_law_numbers : FuncData} {sp_law_numbers : Sp} (C_law_numbers : Cal P w K mg base CX0 1 "_law_numbers" P_law_numbers sp_law_numbers fd_law_numbers) {fd_beneath : FuncData} {sp_beneath : Sp} (C_beneath : Cal P w K mg base (L2.CX P w) 2 "beneath" P_beneath sp_beneath fd_beneath) {fd_drives : FuncData} {sp_drives : Sp} (C_drives : Cal P w K mg base (L2.CX P w) 4 "drives" P_drives sp_drives fd_drives) {fd_path : FuncData} {sp_path : Sp} (C_path : Cal P w K mg base (L2.CX P w) 4 "path" P_path sp_path fd_path) {fd_rising : FuncData} {sp_rising : Sp} (C_rising : Cal P w K mg base (L2.CX P w) 2 "rising" P_rising sp_rising fd_rising) {f : Addr} {cdv : Value} {A : Around} {outer : List Env} {s : Shared} {H : Hp} {E : XK}
    (hr : Room 4 (A.deeper (envOfC "law" (defScope s_law) s.heap.objs.size f cdv))) :
    {t : TS // PSs (cxOf CX0 P w K mg base N_law "law" (defScope s_law) f cdv A outer s H E).nox (defBody s_law) t} := ⟨_, (pss_cons (ps_set (i := 1) sc_law.nd rfl (Or.inl rfl) (pe_call C_law_full.ok (hr.mono (by decide)) (by rfl) C_law_full.gl C_law_full.kp C_law_full.bd .nil pass0 (pa_cons (pv 0) pa_nil)))
 (pss_cons (ps_set (i := 2) sc_law.nd rfl (Or.inl rfl) (pe_callTy (T := "list") (r := rListS K) call_list_of (by rfl) B.list (by decide +kernel) (pa_cons (pv 1) pa_nil)))
 (pss_cons (ps_setLc (i := 3) (own := [("place", 11)]) (g := (gName 11)) (tt := tYes) rfl sc_law.nd rfl rfl (sw_true rfl rfl rfl (by decide +kernel))   (pi_list (pv 1)) (blkOk_by (own := [("place", 11)]) (N := N_law) (sc := defScope s_law) (by decide +kernel)) (fun _ _ _ _ _ => (pg_name (i := 11) sc_law.nd rfl (Or.inl rfl) (Or.inr rfl))) (fun _ _ _ _ _ => pts_nil) (fun _ _ _ _ _ => pe_int))
 (pss_cons (ps_for PassesOwn.never rfl (pi_list (pv 1)) (pg_name (i := 4) sc_law.nd rfl (Or.inl rfl))
 (pss_one (ps_asg (pe_op op_add (pe_ix (r := rIxL K) ix_list (pv 3) (pv 4) (fun _ _ => rfl)) pe_int) (pg_sub (pv 3) (pv 4) set_list))))
 (pss_cons (ps_set (i := 5) sc_law.nd rfl (Or.inl rfl) (pe_join pe_str (pe_lc (own := [("many", 8)]) (g := (gName 8)) (tt := tYes) rfl sc_law.nd (pi_list (pv 3)) (blkOk_by (own := [("many", 8)]) (N := N_law) (sc := defScope s_law) (by decide +kernel)) (fun _ _ _ _ _ => (pg_name (i := 8) sc_law.nd rfl (Or.inl rfl) (Or.inr rfl))) (fun _ _ _ _ _ => pts_nil) (fun _ _ _ _ _ => (pe_op op_add_str (pe_op op_mul_str pe_str (pv 8)) pe_str)))))
 (pss_cons (ps_set (i := 6) sc_law.nd rfl (Or.inl rfl) pe_int)
 (pss_cons (ps_set (i := 7) sc_law.nd rfl (Or.inl rfl) pe_int)
 (pss_cons (ps_for PassesOwn.never rfl (pi_list (pv 3)) (pg_name (i := 8) sc_law.nd rfl (Or.inl rfl))
 (pss_cons (ps_set (i := 6) sc_law.nd rfl (Or.inl rfl) (pe_op op_sub (pe_op op_add (pv 6) (pv 8)) pe_int))
 (pss_one (ps_set (i := 7) sc_law.nd rfl (Or.inl rfl) (pe_op op_add (pv 7) (pv 6))))))
 (pss_cons (ps_if (PW.pt (pw_or (pt_cmpR op_ne (pe_call C_path.ok (hr.mono (by decide)) (by rfl) C_path.gl C_path.kp C_path.bd .nil passL (pa_cons (pv 2) pa_nil)) (pv 5) (nomark _)) (pw_or1 (pt_cmpR (r := rNeD K) (op_neD hr.units) (pv 2) (pv 1) (nomark _)))))
 (pss_one (ps_ret pe_bl))
 pss_nil)
 (pss_cons (ps_set (i := 9) sc_law.nd rfl (Or.inl rfl) (pe_call C_beneath.ok (hr.mono (by decide)) (by rfl) C_beneath.gl C_beneath.kp C_beneath.bd .nil passL (pa_cons (pv 5) pa_nil)))
 (pss_cons (ps_if (PW.pt (pw_or (pt_val (pe_callB (id := "isinstance") (r := rIsi K) call_isi (by rfl) B.isinstance (by decide +kernel) (pa_cons (pv 9) (pa_cons (pe_bltn (v := .ty "bool") (by rfl) B.bool (by decide +kernel) rfl) pa_nil)))) (pw_or (pt_cmpR op_ne (pv 9) (pv 7) (nomark _)) (pw_or1 (pt_cmpR op_ne (pe_call C_drives.ok (hr.mono (by decide)) (by rfl) C_drives.gl C_drives.kp C_drives.bd .nil passL (pa_cons (pv 2) pa_nil)) (pv 7) (nomark _))))))
 (pss_one (ps_ret pe_bl))
 pss_nil)
 (pss_cons (ps_for PassesOwn.never rfl (pi_range1 (by rfl) B.range (pa_cons pe_int pa_nil)) (pg_name (i := 10) sc_law.nd rfl (Or.inl rfl))
 (pss_cons (ps_set (i := 9) sc_law.nd rfl (Or.inl rfl) (pe_call C_rising.ok (hr.mono (by decide)) (by rfl) C_rising.gl C_rising.kp C_rising.bd .nil passL (pa_cons (pv 5) pa_nil)))
 (pss_cons (ps_if (PW.pt (pw_or (pt_not (pt_val (pe_call C_law_numbers.ok (hr.mono (by decide)) (by rfl) C_law_numbers.gl C_law_numbers.kp C_law_numbers.bd .nil pass0 (pa_cons (pv 9) pa_nil)))) (pw_or (pt_cmpR (r := rNeD K) (op_neD hr.units) (pv 9) (pe_callB (id := "sorted") (r := rSortedI K) cr_sortedI (by rfl) B.sorted (by decide +kernel) (pa_cons (pv 1) pa_nil)) (nomark _)) (pw_or1 (pt_cmpR op_ne (pe_call C_path.ok (hr.mono (by decide)) (by rfl) C_path.gl C_path.kp C_path.bd .nil passL (pa_cons (pv 9) pa_nil)) (pv 5) (nomark _))))))
 (pss_one (ps_ret pe_bl))
 pss_nil)
 (pss_one (ps_expr (pe_bm PySem.F.plainAttrs_list PySem.F.slot_list_append PySem.F.type_list_append mt_append (pv 9) (pa_cons pe_int pa_nil)))))))
 (pss_one (ps_ret pe_bl))))))))))))))⟩

end Pk
namespace Pk
open PySem PySem.Spec PyProof.Rows L2 Evl He
abbrev FnP (K : PySem.W.Frag) (x : Str) (st : Stmt) (fd : FuncData) : Prop := FunD K x x (defArgs st) (defBody st) (defScope st) [] [] (ga K x) fd
/-- a def that lets nothing out -/
theorem FnP.ok {P : Program} {w : World} {K : PySem.W.Frag} {mg : Str → Option Value} {base : Heap} {x : Str} {st : Stmt} {fd : FuncData} {N ps : List Str} {k : Nat} {sp : Sp} (F : FnP K x st fd) (S : FnScope N ps (defScope st)) (len : ∀ vs H Q E, sp vs H Q E → vs.length = ps.length)
    (hbody : ∀ (cdv : Value) (A : Around) (outer : List Env) (s : Shared) (H : Hp) (vs : List V) (Q : VK) (E : XK), Room k (A.deeper (envOfC x (defScope st) s.heap.objs.size (ga K x) cdv)) → sp vs H Q E →
      ∃ t : {t : TS // PSs (cxOf CX0 P w K mg base N x (defScope st) (ga K x) cdv A outer s H E).nox (defBody st) t}, t.1 { nx := fun _ H' => Q .non H', rt := Q } (start N vs) H) : FnOk P w K mg base CX0 (k + 1) (ga K x) fd ps sp :=
  FunD.ok F S len fun cdv A outer s H vs Q E hr hsp => by
    obtain ⟨t, q⟩ := hbody cdv A outer s H vs Q E hr hsp
    exact ⟨t.1, t.2.nox, q⟩
theorem FnP.okX {P : Program} {w : World} {K : PySem.W.Frag} {mg : Str → Option Value} {base : Heap} {x : Str} {st : Stmt} {fd : FuncData} {N ps : List Str} {k : Nat} {sp : Sp} (F : FnP K x st fd) (S : FnScope N ps (defScope st)) (len : ∀ vs H Q E, sp vs H Q E → vs.length = ps.length)
    (hbody : ∀ (cdv : Value) (A : Around) (outer : List Env) (s : Shared) (H : Hp) (vs : List V) (Q : VK) (E : XK), Room k (A.deeper (envOfC x (defScope st) s.heap.objs.size (ga K x) cdv)) → sp vs H Q E →
      ∃ t : {t : TS // PSs (cxOf (L2.CX P w) P w K mg base N x (defScope st) (ga K x) cdv A outer s H E) (defBody st) t}, t.1 { nx := fun _ H' => Q .non H', rt := Q } (start N vs) H) : FnOk P w K mg base (L2.CX P w) (k + 1) (ga K x) fd ps sp :=
  FunD.ok F S len fun cdv A outer s H vs Q E hr hsp => by
    obtain ⟨t, q⟩ := hbody cdv A outer s H vs Q E hr hsp
    exact ⟨t.1, t.2, q⟩
section
variable {P : Program} {w : World} {K : PySem.W.Frag} {mg : Str → Option Value} {base : Heap}
/-! ### is_number, of whole numbers -/
def spIsNumber : Sp := fun vs H Q _ => ∃ i lo hi : Int, vs = [.int i, .int lo, .int hi] ∧ RetV (.bl (decide (lo ≤ i ∧ i ≤ hi))) H Q
theorem ok_is_number {fd : FuncData} (F : FnP K "is_number" s_is_number fd) (B : Bi mg) : FnOk P w K mg base CX0 1 (ga K "is_number") fd P_is_number spIsNumber := by
  refine F.ok sc_is_number (fun vs H Q E h => ?_) (fun cdv A outer s H vs Q E hr h => ⟨der_is_number B hr, ?_⟩)
  · obtain ⟨i, lo, hi, rfl, _⟩ := h; rfl
  obtain ⟨i, lo, hi, rfl, q⟩ := h
  unfold der_is_number; dsimp only
  refine s_ret (v := .bl (true && (!false && decide (lo ≤ i ∧ i ≤ hi)))) ?_ ?_
  rotate_left
  · exact fun H1 e => q H1 e
  refine ev_andV (ev_cb (ea_cons (ev_var rfl) (ea_cons ev_c ea_nil)) (isi_int "int" (by decide +kernel))) fun _ => ?_
  refine ev_andV (ev_notV (ev_cb (ea_cons (ev_var rfl) (ea_cons ev_c ea_nil)) (isi_int "bool" (by decide +kernel)))) fun _ => ?_
  exact ev_chain (ev_var rfl) (ev_var rfl) (ev_var rfl) (by simp [Bool.decide_and])
/-! ### counted -/
def spCounted (K : PySem.W.Frag) : Sp := fun vs H Q _ => ∃ (p : Nat) (a : Addr) (ws : List Nat), vs = [nat p, .ref a] ∧ SqL K H a (vn ws) ∧ p ≤ 40000 ∧ (∀ x ∈ ws, x < p) ∧ RetL (vn (cnts p ws)) H Q
theorem ok_counted {fd : FuncData} (F : FnP K "counted" s_counted fd) (B : Bi mg) : FnOk P w K mg base CX0 1 (ga K "counted") fd P_counted (spCounted K) := by
  refine F.ok sc_counted (fun vs H Q E h => ?_) (fun cdv A outer s H vs Q E hr h => ⟨der_counted B hr, ?_⟩)
  · obtain ⟨p, a, ws, rfl, _⟩ := h; rfl
  obtain ⟨p, a, ws, rfl, hS, hp, hw, q⟩ := h
  unfold der_counted; dsimp only
  refine q_asgL (el_rng (n := p) (fun _ => nat 0) (ea_cons (ev_var rfl) ea_nil) hp (fun _ => rfl) (fun i H1 e hi => ev_c)) fun l H1 hl e1 h1 => ?_
  refine q_forP nat (ev_var rfl) (ex_l e1 hS) (fun pre σ' H' => ∃ v, σ' = [some (nat p), some (.ref a), some (.ref l), v, none] ∧ Ex H H' ∧ H' l = some (.lst (vn (cnts p pre)))) (fun H2 e2 => ?_) (fun pre σ' H' hI => ?_) (fun pre y post σ' H' hy hI => ?_) (fun σ' H' hI => ?_)
  · refine ⟨none, rfl, e1.trans e2, ?_⟩
    rw [e2 l _ h1, cnts_nil]
    unfold vn
    rw [List.map_map]
    rfl
  · obtain ⟨v, rfl, e, _⟩ := hI
    exact ex_l e hS
  · obtain ⟨v, rfl, e, h2⟩ := hI
    have hyp : y < p := hw y (by rw [hy]; simp)
    have g := vn_get (cnts_get (ws := pre) hyp)
    refine s_setL (j := y) h2 (v := nat (pre.count y + 1)) ?_ (ev_var rfl) (ev_var rfl) (by rw [List.length_map, cnts_len]; exact hyp) fun H3 e3 => ?_
    · exact ev_add (ev_ixN (ev_var rfl) (ev_var rfl) (sq_of h2) g) ev_c (by omega)
    · refine ⟨_, rfl, Ex.mut (e.trans e3) hl, ?_⟩
      rw [upd_same, ← cnts_add hyp]
      unfold vn
      rw [List.map_set]
  · obtain ⟨v, rfl, e, h2⟩ := hI
    exact s_ret (ev_var rfl) fun H3 e3 => q l H3 hl (e.trans e3) (e3 l _ h2)
/-! ### asked_wishes, of wishes that are some -/
def spAsked (K : PySem.W.Frag) : Sp := fun vs H Q _ => ∃ (p : Nat) (a : Addr) (ws : List Nat), vs = [nat p, .ref a] ∧ 1 ≤ p ∧ p ≤ 1000000 ∧ SqL K H a (vn ws) ∧ ws.length ≤ 40000 ∧ (∀ x ∈ ws, x < p) ∧ RetV .non H Q
theorem sv_num {H : Hp} {i lo hi : Int} : SpV spIsNumber [.int i, .int lo, .int hi] H (.bl (decide (lo ≤ i ∧ i ≤ hi))) := fun H1 e Q q E => ⟨i, lo, hi, rfl, q⟩
theorem ok_asked_wishes {fd fd1 : FuncData} {tk : Tok} (F : FnP K "asked_wishes" s_asked_wishes fd) (B : Bi mg) (C1 : Cal P w K mg base CX0 1 "is_number" P_is_number spIsNumber fd1) (gc : mg "PLACES" = some (.int 1000000 tk)) : FnOk P w K mg base CX0 2 (ga K "asked_wishes") fd P_asked_wishes (spAsked K) := by
  refine F.ok sc_asked_wishes (fun vs H Q E h => ?_) (fun cdv A outer s H vs Q E hr h => ⟨der_asked_wishes B C1 gc hr, ?_⟩)
  · obtain ⟨p, a, ws, rfl, _⟩ := h; rfl
  obtain ⟨p, a, ws, rfl, hp1, hp2, hS, hl, hw, q⟩ := h
  unfold der_asked_wishes; dsimp only
  have t1 : Ev (tCall spIsNumber [] E0 (tCons (tVar 0) (tCons (tC (.int 1)) (tCons (tC (.int 1000000)) tNil)))) (L2.start N_asked_wishes [nat p, .ref a]) H (.bl true) := by
    refine ev_is (ev_call (ea_cons (ev_var rfl) (ea_cons ev_c (ea_cons ev_c ea_nil))) sv_num) ?_
    congr 1
    exact decide_eq_true ⟨by omega, by omega⟩
  refine q_when (et_not (et_B t1)) (fun h => by cases h) fun _ H1 e1 => ?_
  have t2 : EvL (tLc (iList K (tVar 1)) (gName 2) tYes (tCall spIsNumber [] E0 (tCons (tVar 2) (tCons (tC (.int 0)) (tCons (tOp (rI0 fun i j => .int (i - j)) (tVar 0) (tC (.int 1))) tNil)))) [2]) (L2.start N_asked_wishes [nat p, .ref a]) H1 ((ws.map fun _ => true).map V.bl) := by
    rw [List.map_map]
    refine el_ls nat (V.bl ∘ fun _ => true) (ev_var rfl) (ex_l e1 hS) hl (fun _ => rfl) fun i y H2 e2 hy => ?_
    have hyp := hw y (List.mem_of_getElem? hy)
    refine ev_is (ev_call (ea_cons (ev_var rfl) (ea_cons ev_c (ea_cons (ev_sub (k := (p : Int) - 1) (ev_var rfl) ev_c rfl) ea_nil))) sv_num) ?_
    show V.bl (decide _) = V.bl true
    congr 1
    exact decide_eq_true ⟨by omega, by omega⟩
  have t3 : ((ws.map fun _ => true).all id) = true := by
    rw [List.all_map, List.all_eq_true]
    intro x _
    rfl
  refine s_when (et_or (et_not (et_B (ev_cb (ea_cons (ev_var rfl) (ea_cons ev_c ea_nil)) (isi_list (k := true) (ex_l e1 hS) "list" (by decide +kernel))))) fun _ => et_not (et_B (ev_allN t2))) (fun h => ?_) fun _ H2 e2 => q H2 (e1.trans e2)
  rw [t3] at h
  cases h
/-! ### as_list -/
def spAsList (K : PySem.W.Frag) : Sp := fun vs H Q _ => ∃ (a : Addr) (xs : List V), vs = [.ref a] ∧ SqL K H a xs ∧ RetV (.ref a) H Q
theorem ok_as_list {fd : FuncData} (F : FnP K "as_list" s_as_list fd) (B : Bi mg) : FnOk P w K mg base CX0 1 (ga K "as_list") fd P_as_list (spAsList K) := by
  refine F.ok sc_as_list (fun vs H Q E h => ?_) (fun cdv A outer s H vs Q E hr h => ⟨der_as_list B hr, ?_⟩)
  · obtain ⟨a, xs, rfl, _⟩ := h; rfl
  obtain ⟨a, xs, rfl, hS, q⟩ := h
  unfold der_as_list; dsimp only
  refine q_when (et_not (et_B (ev_cb (ea_cons (ev_var rfl) (ea_cons ev_c ea_nil)) (isi_list (k := true) hS "list" (by decide +kernel))))) (fun h => by cases h) fun _ H1 e1 => ?_
  exact s_ret (ev_var rfl) fun H2 e2 => q H2 (e1.trans e2)
theorem sv_asList {H : Hp} {a : Addr} {xs : List V} (h : SqL K H a xs) : SpV (spAsList K) [.ref a] H (.ref a) := fun H1 e Q q E => ⟨a, xs, rfl, ex_l e h, q⟩
/-! ### crowd_of -/
def spCrowd (K : PySem.W.Frag) : Sp := fun vs H Q _ => ∃ (p : Nat) (a : Addr) (ws : List Nat), vs = [nat p, .ref a] ∧ SqL K H a (vn ws) ∧ p ≤ 40000 ∧ (∀ x ∈ ws, x < p) ∧ RetV (.int (crowd p ws)) H Q
theorem sl_counted {H : Hp} {a : Addr} {p : Nat} {ws : List Nat} (h : SqL K H a (vn ws)) (hp : p ≤ 40000) (hw : ∀ x ∈ ws, x < p) : SpL (spCounted K) [nat p, .ref a] H (vn (cnts p ws)) := fun H1 e Q q E => ⟨p, a, ws, rfl, ex_l e h, hp, hw, q⟩
theorem ok_crowd_of {fd fd1 : FuncData} (F : FnP K "crowd_of" s_crowd_of fd) (B : Bi mg) (C1 : Cal P w K mg base CX0 1 "counted" P_counted (spCounted K) fd1) : FnOk P w K mg base CX0 2 (ga K "crowd_of") fd P_crowd_of (spCrowd K) := by
  refine F.ok sc_crowd_of (fun vs H Q E h => ?_) (fun cdv A outer s H vs Q E hr h => ⟨der_crowd_of B C1 hr, ?_⟩)
  · obtain ⟨p, a, ws, rfl, _⟩ := h; rfl
  obtain ⟨p, a, ws, rfl, hS, hp, hw, q⟩ := h
  unfold der_crowd_of; dsimp only
  refine q_asgL (el_call (ea_cons (ev_var rfl) (ea_cons (ev_var rfl) ea_nil)) (sl_counted hS hp hw)) fun l H1 hl e1 h1 => ?_
  refine q_asg ev_c fun H2 e2 => ?_
  refine q_asg (ev_un ev_c ru_neg) fun H3 e3 => ?_
  refine q_forRev (n := p) (ev_var rfl) (by omega) (fun k σ' H' => k ≤ p ∧ ∃ v, σ' = [some (nat p), some (.ref a), some (.ref l), some (nat (ge ws k)), some (.int (crow p ws (p - k))), v] ∧ Ex H1 H') (fun H4 e4 => ?_) (fun i σ' H' hi hI => ?_) (fun σ' H' hI => ?_)
  · refine ⟨Nat.le_refl _, none, ?_, (e2.trans e3).trans e4⟩
    rw [ge_top hw, Nat.sub_self]
    rfl
  · obtain ⟨_, v, rfl, e⟩ := hI
    have g := vn_get (cnts_get (ws := ws) hi)
    refine q_asg (ev_add (k := (ge ws i : Int)) (ev_var rfl) (ev_ixN (ev_var rfl) (ev_var rfl) (sq_of (e l _ h1)) g) (by rw [ge_succ ws i]; omega)) fun H5 e5 => ?_
    have ec : crow p ws (p - i) = if p - i < ge ws i then (i : Int) else crow p ws (p - (i + 1)) := by
      have e6 : p - i = (p - (i + 1)) + 1 := by omega
      rw [e6]
      show (if p - (p - ((p - (i + 1)) + 1)) < ge ws (p - ((p - (i + 1)) + 1)) then ((p - ((p - (i + 1)) + 1) : Nat) : Int) else _) = _
      have e7 : p - ((p - (i + 1)) + 1) = i := by omega
      rw [e7]
      have e8 : p - i = p - (i + 1) + 1 := by omega
      rw [e8]
    refine s_ifAsg (v := .int (crow p ws (p - i))) (et_test (ev_cmp (b := decide (p - i < ge ws i)) (ev_var rfl) (ev_sub (ev_var rfl) (ev_var rfl) rfl) ?_)) (fun hb => ?_) (fun hb => ?_) fun H6 e6 => ?_
    · rw [decide_eq_decide]
      omega
    · rw [ec, if_pos (of_decide_eq_true hb)]
      exact ev_var rfl
    · rw [ec, if_neg (of_decide_eq_false hb)]
      rfl
    · exact ⟨by omega, _, rfl, (e.trans e5).trans e6⟩
  · obtain ⟨_, v, rfl, e⟩ := hI
    exact s_ret (ev_var rfl) fun H5 e5 => q H5 ((e1.trans e).trans e5)
theorem sv_crowd {H : Hp} {a : Addr} {p : Nat} {ws : List Nat} (h : SqL K H a (vn ws)) (hp : p ≤ 40000) (hw : ∀ x ∈ ws, x < p) : SpV (spCrowd K) [nat p, .ref a] H (.int (crowd p ws)) := fun H1 e Q q E => ⟨p, a, ws, rfl, ex_l e h, hp, hw, q⟩
theorem sv_asked {H : Hp} {a : Addr} {p : Nat} {ws : List Nat} (h1 : 1 ≤ p) (hp : p ≤ 1000000) (h : SqL K H a (vn ws)) (hl : ws.length ≤ 40000) (hw : ∀ x ∈ ws, x < p) : SpV (spAsked K) [nat p, .ref a] H .non := fun H1 e Q q E => ⟨p, a, ws, rfl, h1, hp, ex_l e h, hl, hw, q⟩
/-! ### all_parked, drives -/
/-- TooMany where they are not full -/
abbrev RetT (K : PySem.W.Frag) (x : Str) (H : Hp) (E : XK) : Prop := ∀ H2, Ex H H2 → E (.ref (ga K x)) none H2
def spAllParked (K : PySem.W.Frag) : Sp := fun vs H Q E => ∃ (a : Addr) (ws : List Nat), vs = [.ref a] ∧ SqL K H a (vn ws) ∧ ws.length ≤ 40000 ∧ (∀ x ∈ ws, x < ws.length) ∧ (Full ws → RetV .non H Q) ∧ (¬ Full ws → RetT K "TooMany" H E)
theorem ok_all_parked {fd fd1 fd2 : FuncData} (F : FnP K "all_parked" s_all_parked fd) (B : Bi mg) (C1 : Cal P w K mg base CX0 2 "asked_wishes" P_asked_wishes (spAsked K) fd1) (C2 : Cal P w K mg base CX0 2 "crowd_of" P_crowd_of (spCrowd K) fd2) (X1 : ExcF K mg "TooMany") :
    FnOk P w K mg base (L2.CX P w) 3 (ga K "all_parked") fd P_all_parked (spAllParked K) := by
  refine F.okX sc_all_parked (fun vs H Q E h => ?_) (fun cdv A outer s H vs Q E hr h => ⟨der_all_parked B C1 C2 X1 hr, ?_⟩)
  · obtain ⟨a, ws, rfl, _⟩ := h; rfl
  obtain ⟨a, ws, rfl, hS, hl, hw, q, qE⟩ := h
  unfold der_all_parked; dsimp only
  have hm : ∀ x ∈ ws, x < Nat.max ws.length 1 := fun x hx => Nat.lt_of_lt_of_le (hw x hx) (Nat.le_max_left _ _)
  have hm1 : 1 ≤ Nat.max ws.length 1 := Nat.le_max_right _ _
  have hm2 : Nat.max ws.length 1 ≤ 1000000 := Nat.max_le.mpr ⟨by omega, by omega⟩
  refine q_drop (ev_call (vs := [nat (Nat.max ws.length 1), .ref a]) (ea_cons (ev_maxN (ev_lenS (ev_var rfl) hS (by rw [List.length_map])) (ev_c (v := nat 1)) rfl) (ea_cons (ev_var rfl) ea_nil)) (sv_asked hm1 hm2 hS hl hm)) fun H1 e1 => ?_
  have t1 : Ev (tOp (rNeD K) (tVar 0) (tLst tNil)) (L2.start N_all_parked [.ref a]) H1 (.bl (!decide (ws = []))) := ev_neLN (ms := []) (ev_var rfl) (ex_l e1 hS) (el_lst ea_nil (Nat.zero_le _))
  refine s_when (et_and (et_test t1) fun _ => et_test (ev_cmp (b := decide (0 ≤ crowd ws.length ws)) (ev_call (vs := [nat ws.length, .ref a]) (ea_cons (ev_lenS (ev_var rfl) (ex_l e1 hS) (by rw [List.length_map])) (ea_cons (ev_var rfl) ea_nil)) (sv_crowd (ex_l e1 hS) hl hw)) ev_c rfl)) (fun h H2 e2 => ?_) fun h H2 e2 => ?_
  · rw [Bool.and_eq_true, decide_eq_true_eq] at h
    refine qE (fun F => ?_) H2 (e1.trans e2)
    have := crowd_no F.no
    omega
  · refine q ?_ H2 (e1.trans e2)
    by_cases he : ws = []
    · subst he
      exact ⟨hw, fun i hi => by have : i = 0 := Nat.le_zero.mp hi
                                omega⟩
    · have h2 : decide (0 ≤ crowd ws.length ws) = false := by simpa [he] using h
      exact Full.of hw (crowd_neg.mp (by have := of_decide_eq_false h2; omega))
theorem sp_allParked {H : Hp} {a : Addr} {ws : List Nat} {Q : VK} {E : XK} (h : SqL K H a (vn ws)) (hl : ws.length ≤ 40000) (hw : ∀ x ∈ ws, x < ws.length) (q : Full ws → RetV .non H Q) (qE : ¬ Full ws → RetT K "TooMany" H E) : spAllParked K [.ref a] H Q E := ⟨a, ws, rfl, h, hl, hw, q, qE⟩
def spDrives (K : PySem.W.Frag) : Sp := fun vs H Q E => ∃ (a : Addr) (ws : List Nat), vs = [.ref a] ∧ SqL K H a (vn ws) ∧ ws.length ≤ 40000 ∧ (∀ x ∈ ws, x < ws.length) ∧ (Full ws → RetV (.int (drv ws)) H Q) ∧ (¬ Full ws → RetT K "TooMany" H E)
theorem ok_drives {fd fd1 fd2 : FuncData} (F : FnP K "drives" s_drives fd) (B : Bi mg) (C1 : Cal P w K mg base (L2.CX P w) 3 "all_parked" P_all_parked (spAllParked K) fd1) (C2 : Cal P w K mg base CX0 1 "as_list" P_as_list (spAsList K) fd2) :
    FnOk P w K mg base (L2.CX P w) 4 (ga K "drives") fd P_drives (spDrives K) := by
  refine F.okX sc_drives (fun vs H Q E h => ?_) (fun cdv A outer s H vs Q E hr h => ⟨der_drives B C1 C2 hr, ?_⟩)
  · obtain ⟨a, ws, rfl, _⟩ := h; rfl
  obtain ⟨a, ws, rfl, hS, hl, hw, q, qE⟩ := h
  unfold der_drives; dsimp only
  refine q_callX (ea_cons (ev_call (ea_cons (ev_var rfl) ea_nil) (sv_asList hS)) ea_nil) fun H1 e1 => ?_
  refine sp_allParked (ex_l e1 hS) hl hw (fun hF H2 e2 => ?_) fun hF H2 e2 => qE hF H2 (e1.trans e2)
  have e3 := e1.trans e2
  have tl : Ev (tCB (rLenS K) (tCons (tVar 0) tNil)) (L2.start N_drives [.ref a]) H2 (.int (ws.length : Int)) := ev_lenS (ev_var rfl) (ex_l e3 hS) (by rw [List.length_map])
  refine s_ret (v := .int (drv ws)) ?_ fun H4 e4 => q hF H4 (e3.trans e4)
  exact ev_sub (ev_div (ev_mul tl (ev_sub tl ev_c rfl) (.inl ⟨by omega, by omega⟩) rfl) ev_c ⟨by decide, by decide⟩ rfl) (ev_sumN (ev_var rfl) (ex_l e3 hS)) rfl
end
end Pk
namespace Pk
open PySem PySem.Spec PyProof.Rows L2 Evl He
open SX (S)
section
variable {P : Program} {w : World} {K : PySem.W.Frag} {mg : Str → Option Value} {base : Heap}
theorem lit_u : (Str.ofString "u") = S [117] := by rfl
theorem lit_d : (Str.ofString "d") = S [100] := by rfl
theorem lit_nil : (Str.ofString "") = S [] := by rfl
theorem ev_lit {σ : L2.St} {H : Hp} {z : Str} {cs : List Nat} (h : z = S cs) : Ev (tC (.str z)) σ H (.str (S cs)) := ev_is ev_c (by rw [h])
theorem joinL_nil : ∀ ys : List (List Nat), TL.joinL [] ys = ys.flatten
  | [] => rfl
  | [p] => by simp [TL.joinL]
  | p :: q :: r => by
    show p ++ ([] ++ TL.joinL [] (q :: r)) = _
    rw [joinL_nil (q :: r)]
    rfl
theorem pathL_len : ∀ cs : List Nat, (pathL cs).length = cs.sum + cs.length
  | [] => rfl
  | c :: r => by
    rw [pathL_cons, List.length_append, List.length_replicate, List.length_cons, pathL_len r, List.sum_cons, List.length_cons]
    omega
theorem cnts_sum {ws : List Nat} {p : Nat} (h : ∀ x ∈ ws, x < p) : (cnts p ws).sum = ws.length := by
  have key : ∀ k, ((List.range k).map fun i => ws.count i).sum = lt ws k := by
    intro k
    induction k with
    | zero => rw [lt_zero]; rfl
    | succ k ih =>
      rw [List.range_succ, List.map_append, List.sum_append, ih, lt_succ]
      simp
  unfold cnts
  rw [key, lt_all h]
theorem steps_len (cs : List Nat) : ((cs.map step1).map (·.length)).sum = cs.sum + cs.length := by
  induction cs with
  | nil => rfl
  | cons c r ih =>
    rw [List.map_cons, List.map_cons, List.sum_cons, ih, List.sum_cons, List.length_cons]
    unfold step1
    rw [List.length_append, List.length_replicate]
    simp only [List.length_singleton]
    omega
theorem mem_le_sum : ∀ {l : List Nat} {x : Nat}, x ∈ l → x ≤ l.sum
  | y :: r, x, h => by
    rw [List.sum_cons]
    rcases List.mem_cons.mp h with e | h
    · omega
    · have := mem_le_sum h
      omega
/-! ### path -/
def spPath (K : PySem.W.Frag) : Sp := fun vs H Q E => ∃ (a : Addr) (ws : List Nat), vs = [.ref a] ∧ SqL K H a (vn ws) ∧ ws.length ≤ 20000 ∧ (∀ x ∈ ws, x < ws.length) ∧ (Full ws → RetV (.str (S (pathL (cnts ws.length ws)))) H Q) ∧ (¬ Full ws → RetT K "TooMany" H E)
theorem ok_path {fd fd1 fd2 fd3 : FuncData} (F : FnP K "path" s_path fd) (B : Bi mg) (C1 : Cal P w K mg base (L2.CX P w) 3 "all_parked" P_all_parked (spAllParked K) fd1) (C2 : Cal P w K mg base CX0 1 "as_list" P_as_list (spAsList K) fd2) (C3 : Cal P w K mg base CX0 1 "counted" P_counted (spCounted K) fd3) :
    FnOk P w K mg base (L2.CX P w) 4 (ga K "path") fd P_path (spPath K) := by
  refine F.okX sc_path (fun vs H Q E h => ?_) (fun cdv A outer s H vs Q E hr h => ⟨der_path B C1 C2 C3 hr, ?_⟩)
  · obtain ⟨a, ws, rfl, _⟩ := h; rfl
  obtain ⟨a, ws, rfl, hS, hl, hw, q, qE⟩ := h
  unfold der_path; dsimp only
  refine q_callX (ea_cons (ev_call (ea_cons (ev_var rfl) ea_nil) (sv_asList hS)) ea_nil) fun H1 e1 => ?_
  refine sp_allParked (ex_l e1 hS) (by omega) hw (fun hF H2 e2 => ?_) fun hF H2 e2 => qE hF H2 (e1.trans e2)
  have e3 := e1.trans e2
  refine q_when (et_test (ev_eqLN (ms := []) (ev_var rfl) (ex_l e3 hS) (el_lst ea_nil (Nat.zero_le _)))) (fun h H4 e4 => ?_) fun h H4 e4 => ?_
  · have hn := of_decide_eq_true h
    subst hn
    exact s_ret (ev_lit lit_nil) fun H5 e5 => q hF H5 ((e3.trans e4).trans e5)
  · have e5 := e3.trans e4
    have hz : ((cnts ws.length ws).map step1).length ≤ 40000 := by rw [List.length_map, cnts_len]; omega
    have hs := cnts_sum hw
    have tl : EvL (tLc (iList K (tCall (spCounted K) [] E0 (tCons (tCB (rLenS K) (tCons (tVar 0) tNil)) (tCons (tVar 0) tNil)))) (gName 1) tYes (tOp (fun x y H Q => ∃ i j, x = .str i ∧ y = .str j ∧ i.length + j.length ≤ sizeLine ∧ Q (.str (i ++ j)) H) (tOp rMulS (tC (.str (Str.ofString "u"))) (tVar 1)) (tC (.str (Str.ofString "d")))) [1]) (L2.start N_path [.ref a]) H4 (((cnts ws.length ws).map step1).map fun y => V.str (S y)) := by
      rw [List.map_map]
      refine el_nl nat _ (el_call (vs := [nat ws.length, .ref a]) (ea_cons (ev_lenS (ev_var rfl) (ex_l e5 hS) (by rw [List.length_map])) (ea_cons (ev_var rfl) ea_nil)) (sl_counted (ex_l e5 hS) (by omega) hw)) (by rw [cnts_len]; omega) (fun _ => rfl) fun i y H6 e6 hy => ?_
      have hy2 : y ≤ ws.length := by
        have h1 : y ≤ (cnts ws.length ws).sum := mem_le_sum (List.mem_of_getElem? hy)
        omega
      exact ev_catS (a := List.replicate y 117) (b := [100]) (ev_mulS (ev_lit lit_u) (ev_var rfl) (by omega)) (ev_lit lit_d) (by rw [List.length_replicate]; simp only [List.length_singleton]; omega)
    have tj := ev_joinL (K := K) (ev_lit (σ := L2.start N_path [.ref a]) (H := H4) lit_nil) tl (by rw [steps_len, hs, cnts_len]; simp only [List.length_nil, Nat.mul_zero]; omega)
    rw [joinL_nil] at tj
    exact s_ret tj fun H7 e7 => q hF H7 (e5.trans e7)
/-! ### heights -/
def spHeights (K : PySem.W.Frag) : Sp := fun vs H Q E => ∃ cs : List Nat, vs = [.str (S cs)] ∧ cs.length ≤ 90000 ∧ (∀ hs, hgo cs 0 = some hs → RetL (vn hs) H Q) ∧ (hgo cs 0 = none → RetT K "BadPath" H E)
theorem S_eq {a b : List Nat} : decide (V.str (S a) = V.str (S b)) = decide (a = b) := by
  rw [decide_eq_decide]
  exact ⟨fun h => SX.S_inj (V.str.inj h), fun h => by rw [h]⟩
theorem ev_eqS {σ : L2.St} {H : Hp} {ta tb : TE} {a b : List Nat} (ha : Ev ta σ H (.str (S a))) (hb : Ev tb σ H (.str (S b))) : Ev (tOp rEq ta tb) σ H (.bl (decide (a = b))) := by
  have k := ev_op (r := rEq) ha hb (rv_eq rfl)
  rw [S_eq] at k
  exact k
theorem ev_neS {σ : L2.St} {H : Hp} {ta tb : TE} {a b : List Nat} (ha : Ev ta σ H (.str (S a))) (hb : Ev tb σ H (.str (S b))) : Ev (tOp rNe ta tb) σ H (.bl (!decide (a = b))) := by
  have k := ev_op (r := rNe) ha hb (rv_ne rfl)
  rw [S_eq] at k
  exact k
theorem one_eq {a b : Nat} : decide ([a] = [b]) = decide (a = b) := by
  rw [decide_eq_decide]
  exact ⟨fun h => by injection h, fun h => by rw [h]⟩
theorem hgo_len : ∀ (cs : List Nat) (h : Nat) (hs : List Nat), hgo cs h = some hs → hs.length ≤ cs.length
  | [], h, hs, e => by
    unfold hgo at e
    split at e
    · cases e; exact Nat.le_refl _
    · cases e
  | c :: r, h, hs, e => by
    unfold hgo at e
    split at e
    · have := hgo_len r _ hs e
      rw [List.length_cons]; omega
    · split at e
      · cases e2 : hgo r (h - 1) with
        | none => rw [e2] at e; cases e
        | some gs =>
          rw [e2] at e
          have e3 : (h - 1) :: gs = hs := Option.some.inj e
          have := hgo_len r _ gs e2
          rw [← e3, List.length_cons, List.length_cons]; omega
      · cases e
theorem ok_heights {fd : FuncData} (F : FnP K "heights" s_heights fd) (B : Bi mg) (X1 : ExcF K mg "BadPath") : FnOk P w K mg base (L2.CX P w) 1 (ga K "heights") fd P_heights (spHeights K) := by
  refine F.okX sc_heights (fun vs H Q E h => ?_) (fun cdv A outer s H vs Q E hr h => ⟨der_heights B X1 hr, ?_⟩)
  · obtain ⟨cs, rfl, _⟩ := h; rfl
  obtain ⟨cs, rfl, hl, q, qE⟩ := h
  unfold der_heights; dsimp only
  refine q_when (et_not (et_B (ev_cb (ea_cons (ev_var rfl) (ea_cons ev_c ea_nil)) (isi_str (k := true) "str" (by decide +kernel))))) (fun h => by cases h) fun _ H1 e1 => ?_
  refine q_asg ev_c fun H2 e2 => ?_
  refine q_asgL (el_lst (vs := vn []) ea_nil (Nat.zero_le _)) fun l H3 hl3 e3 h3 => ?_
  have hln : H l = none := fresh_back (e1.trans e2) hl3
  refine q_forS (ev_var rfl) (fun pre σ' H' => ∃ (h : Nat) (f : List Nat) (v : Option V), σ' = [some (.str (S cs)), some (nat h), some (.ref l), v] ∧ f.length ≤ pre.length ∧ Ex H H' ∧ H' l = some (.lst (vn f)) ∧ ∀ post, cs = pre ++ post → hgo cs 0 = (hgo post h).map (f ++ ·)) (fun H4 e4 => ?_) (fun pre c post σ' H' hcs hI => ?_) (fun σ' H' hI => ?_)
  · refine ⟨0, [], none, rfl, Nat.le_refl _, ((e1.trans e2).trans e3).trans e4, e4 l _ h3, fun post hp => ?_⟩
    rw [hp]
    show hgo post 0 = _
    cases hgo post 0 <;> rfl
  · obtain ⟨h, f, v, rfl, hfl, e, h4, inv⟩ := hI
    have hinv := inv (c :: post) hcs
    have hpl : pre.length < 90000 := by
      have : cs.length = pre.length + (post.length + 1) := by rw [hcs, List.length_append, List.length_cons]
      omega
    refine s_if (b := decide (c = 117)) (et_test (ev_is (ev_eqS (a := [c]) (b := [117]) (ev_var rfl) (ev_lit lit_u)) (by rw [one_eq]))) (fun hb H5 e5 => ?_) (fun hb H5 e5 => ?_)
    · have hc := of_decide_eq_true hb
      refine s_asg (v := nat (h + 1)) (ev_add (ev_var rfl) ev_c (by omega)) fun H6 e6 => ?_
      refine ⟨h + 1, f, _, rfl, by rw [List.length_append]; omega, (e.trans e5).trans e6, e6 l _ (e5 l _ h4), fun p2 hp2 => ?_⟩
      rw [List.append_assoc, List.singleton_append] at hp2
      have e7 : c :: post = c :: p2 := List.append_cancel_left (hcs.symm.trans hp2)
      have e8 : post = p2 := by injection e7
      rw [hinv, e8]
      show (if c = 117 then hgo p2 (h + 1) else _).map (f ++ ·) = _
      rw [if_pos hc]
    · have hc := of_decide_eq_false hb
      refine s_if (b := decide (c = 100 ∧ 0 < h)) (et_is (et_and (et_test (ev_eqS (a := [c]) (b := [100]) (ev_var rfl) (ev_lit lit_d))) (fun _ => et_test (ev_cmp (b := decide (0 < h)) (i := (h : Int)) (j := 0) (ev_var rfl) ev_c (by rw [decide_eq_decide]; omega)))) (by rw [one_eq, Bool.decide_and])) (fun hb2 H6 e6 => ?_) (fun hb2 H6 e6 => ?_)
      · have hd := of_decide_eq_true hb2
        refine q_asg (v := nat (h - 1)) (ev_sub (i := (h : Int)) (j := 1) (ev_var rfl) ev_c (by omega)) fun H7 e7 => ?_
        refine s_app (xs := vn f) ((e5.trans (e6.trans e7)) l _ h4) (ev_var rfl) (ev_var rfl) (by rw [List.length_map]; omega) fun H8 e8 => ?_
        have e9 := ((e.trans e5).trans (e6.trans e7)).trans e8
        refine ⟨h - 1, f ++ [h - 1], _, rfl, by rw [List.length_append, List.length_append]; simp only [List.length_singleton]; omega, Ex.mut e9 hln, by rw [upd_same]; unfold vn; rw [List.map_append]; rfl, fun p2 hp2 => ?_⟩
        rw [List.append_assoc, List.singleton_append] at hp2
        have e10 : c :: post = c :: p2 := List.append_cancel_left (hcs.symm.trans hp2)
        have e11 : post = p2 := by injection e10
        rw [hinv, e11]
        show (if c = 117 then _ else if c = 100 ∧ 0 < h then (hgo p2 (h - 1)).map ((h - 1) :: ·) else none).map (f ++ ·) = _
        rw [if_neg hc, if_pos hd, Option.map_map]
        congr 1
        funext x
        simp
      · have hd := of_decide_eq_false hb2
        refine qE ?_ H6 ((e.trans e5).trans e6)
        rw [hinv]
        show (if c = 117 then _ else if c = 100 ∧ 0 < h then (hgo post (h - 1)).map ((h - 1) :: ·) else none).map (f ++ ·) = _
        rw [if_neg hc, if_neg hd]
        rfl
  · obtain ⟨h, f, v, rfl, hfl, e, h4, inv⟩ := hI
    have hinv := inv [] (List.append_nil _).symm
    refine q_when (b := !decide (h = 0)) (et_test (ev_is (ev_neInt (i := (h : Int)) (j := 0) (ev_var rfl) ev_c) (by congr 2; rw [decide_eq_decide]; omega))) (fun hb H5 e5 => ?_) (fun hb H5 e5 => ?_)
    · refine qE ?_ H5 (e.trans e5)
      have hne : ¬ h = 0 := by simpa using hb
      rw [hinv]
      unfold hgo
      rw [if_neg hne]
      rfl
    · have he : h = 0 := by simpa using hb
      refine s_ret (ev_var rfl) fun H6 e6 => q f ?_ l H6 hln ((e.trans e5).trans e6) (e6 l _ (e5 l _ h4))
      rw [hinv]
      unfold hgo
      rw [if_pos he]
      simp
theorem sp_heights {H : Hp} {cs : List Nat} {Q : VK} {E : XK} (hl : cs.length ≤ 90000) (q : ∀ hs, hgo cs 0 = some hs → RetL (vn hs) H Q) (qE : hgo cs 0 = none → RetT K "BadPath" H E) : spHeights K [.str (S cs)] H Q E := ⟨cs, rfl, hl, q, qE⟩
/-! ### beneath, rising -/
theorem s_retCB {r : List V → Hp → VK → Prop} {D : Ends} {σ : L2.St} {H : Hp} {sp : Sp} {dvs vs : List V} {E : XK} {ta : TA} (h : EvA ta σ H vs) (k : ∀ H1, Ex H H1 → sp (vs ++ dvs) H1 (fun x H2 => r [x] H2 D.rt) E) : tRet (tCB r (tCons (tCall sp dvs E ta) tNil)) D σ H := h H (Ex.refl H) _ fun H1 e => k H1 e
def spBeneath (K : PySem.W.Frag) : Sp := fun vs H Q E => ∃ cs : List Nat, vs = [.str (S cs)] ∧ cs.length ≤ 90000 ∧ (∀ hs, hgo cs 0 = some hs → RetV (nat hs.sum) H Q) ∧ (hgo cs 0 = none → RetT K "BadPath" H E)
theorem ok_beneath {fd fd1 : FuncData} (F : FnP K "beneath" s_beneath fd) (B : Bi mg) (C1 : Cal P w K mg base (L2.CX P w) 1 "heights" P_heights (spHeights K) fd1) : FnOk P w K mg base (L2.CX P w) 2 (ga K "beneath") fd P_beneath (spBeneath K) := by
  refine F.okX sc_beneath (fun vs H Q E h => ?_) (fun cdv A outer s H vs Q E hr h => ⟨der_beneath B C1 hr, ?_⟩)
  · obtain ⟨cs, rfl, _⟩ := h; rfl
  obtain ⟨cs, rfl, hl, q, qE⟩ := h
  unfold der_beneath; dsimp only
  refine s_retCB (vs := [.str (S cs)]) (ea_cons (ev_var rfl) ea_nil) fun H1 e1 => ?_
  refine sp_heights hl (fun hs hh p H2 hp e2 h2 => ?_) fun hn H2 e2 => qE hn H2 (e1.trans e2)
  refine ⟨p, hs.map fun (n : Nat) => (n : Int), rfl, sq_of (by rw [h2, vn_vi]), ?_⟩
  rw [sum_nat]
  exact q hs hh H2 (e1.trans e2)
def spRising (K : PySem.W.Frag) : Sp := fun vs H Q E => ∃ cs : List Nat, vs = [.str (S cs)] ∧ cs.length ≤ 90000 ∧ ((∃ hs, hgo cs 0 = some hs) → RetL (vn (ris cs 0)) H Q) ∧ (hgo cs 0 = none → RetT K "BadPath" H E)
theorem ok_rising {fd fd1 : FuncData} (F : FnP K "rising" s_rising fd) (C1 : Cal P w K mg base (L2.CX P w) 1 "heights" P_heights (spHeights K) fd1) : FnOk P w K mg base (L2.CX P w) 2 (ga K "rising") fd P_rising (spRising K) := by
  refine F.okX sc_rising (fun vs H Q E h => ?_) (fun cdv A outer s H vs Q E hr h => ⟨der_rising C1 hr, ?_⟩)
  · obtain ⟨cs, rfl, _⟩ := h; rfl
  obtain ⟨cs, rfl, hl, q, qE⟩ := h
  unfold der_rising; dsimp only
  refine q_callX (vs := [.str (S cs)]) (ea_cons (ev_var rfl) ea_nil) fun H1 e1 => ?_
  refine sp_heights hl (fun hs hh p H2 hp e2 h2 => ?_) fun hn H2 e2 => qE hn H2 (e1.trans e2)
  have e12 := e1.trans e2
  refine q_asgL (el_lst (vs := vn []) ea_nil (Nat.zero_le _)) fun l H3 hl3 e3 h3 => ?_
  have hln : H l = none := fresh_back e12 hl3
  refine q_asg ev_c fun H4 e4 => ?_
  refine q_forS (ev_var rfl) (fun pre σ' H' => ∃ (pl : Nat) (f : List Nat) (v : Option V), σ' = [some (.str (S cs)), some (.ref l), some (nat pl), v] ∧ f.length ≤ pre.length ∧ Ex H H' ∧ H' l = some (.lst (vn f)) ∧ ∀ post, cs = pre ++ post → ris cs 0 = f ++ ris post pl) (fun H5 e5 => ?_) (fun pre c post σ' H' hcs hI => ?_) (fun σ' H' hI => ?_)
  · refine ⟨0, [], none, rfl, Nat.le_refl _, ((e12.trans e3).trans e4).trans e5, e5 l _ (e4 l _ h3), fun post hp => ?_⟩
    rw [hp]
    rfl
  · obtain ⟨pl, f, v, rfl, hfl, e, h4, inv⟩ := hI
    have hinv := inv (c :: post) hcs
    have hpl : pre.length < 90000 := by
      have : cs.length = pre.length + (post.length + 1) := by rw [hcs, List.length_append, List.length_cons]
      omega
    have step : ∀ p2, cs = pre ++ [c] ++ p2 → post = p2 := fun p2 hp2 => by
      rw [List.append_assoc, List.singleton_append] at hp2
      have e7 : c :: post = c :: p2 := List.append_cancel_left (hcs.symm.trans hp2)
      injection e7
    refine s_if (b := decide (c = 117)) (et_test (ev_is (ev_eqS (a := [c]) (b := [117]) (ev_var rfl) (ev_lit lit_u)) (by rw [one_eq]))) (fun hb H5 e5 => ?_) (fun hb H5 e5 => ?_)
    · have hc := of_decide_eq_true hb
      refine s_app (xs := vn f) (e5 l _ h4) (ev_var rfl) (ev_var rfl) (by rw [List.length_map]; omega) fun H8 e8 => ?_
      refine ⟨pl, f ++ [pl], _, rfl, by rw [List.length_append, List.length_append]; simp only [List.length_singleton]; omega, Ex.mut ((e.trans e5).trans e8) hln, by rw [upd_same]; unfold vn; rw [List.map_append]; rfl, fun p2 hp2 => ?_⟩
      rw [hinv, step p2 hp2]
      show f ++ (if c = 117 then pl :: ris p2 pl else _) = _
      rw [if_pos hc, List.append_assoc]
      rfl
    · have hc := of_decide_eq_false hb
      refine s_asg (v := nat (pl + 1)) (ev_add (ev_var rfl) ev_c (by omega)) fun H6 e6 => ?_
      refine ⟨pl + 1, f, _, rfl, by rw [List.length_append]; omega, (e.trans e5).trans e6, e6 l _ (e5 l _ h4), fun p2 hp2 => ?_⟩
      rw [hinv, step p2 hp2]
      show f ++ (if c = 117 then _ else ris p2 (pl + 1)) = _
      rw [if_neg hc]
  · obtain ⟨pl, f, v, rfl, hfl, e, h4, inv⟩ := hI
    have hinv := inv [] (List.append_nil _).symm
    refine s_ret (ev_var rfl) fun H6 e6 => q ⟨hs, hh⟩ l H6 hln (e.trans e6) ?_
    rw [hinv]
    show H6 l = some (.lst (vn (f ++ [])))
    rw [List.append_nil]
    exact e6 l _ h4
end
end Pk
namespace Pk
open PySem PySem.Spec PyProof.Rows L2 Evl He
section
variable {P : Program} {w : World} {K : PySem.W.Frag} {mg : Str → Option Value} {base : Heap}
theorem cut_hi {xs : List V} {n : Nat} (h : xs.length ≤ n) : cutV xs none (some (n : Int)) = xs := by
  unfold cutV
  rw [HT.sIx_none, show HT.sIx xs.length xs.length (some (n : Int)) = min n xs.length from HT.sIx_nat xs.length xs.length n]
  rw [show min n xs.length - 0 = xs.length by omega]
  show (xs.drop 0).take xs.length = xs
  rw [List.drop_zero, List.take_length]
/-- script[:1000] -/
theorem el_cut {σ : L2.St} {H : Hp} {te : TE} {a : Addr} {xs : List V} (ha : Ev te σ H (.ref a)) (h : SqL K H a xs) (hl : xs.length ≤ 1000) : EvL (tSl (rSlL K) te tNoPart (tPart (tC (.int 1000)))) σ H xs := by
  have k := el_sl ha eo_none (eo_some (i := 1000) (te := tC (.int 1000)) ev_c) h
  rw [show ((1000 : Int)) = ((1000 : Nat) : Int) from rfl, cut_hi hl] at k
  exact k
theorem vn_cells (ns : List Int) {m : Nat} (hm : 0 < m) : (ns.map fun c => V.int (c % (m : Int))) = vn (cells ns m) := by
  unfold vn cells
  rw [List.map_map]
  refine List.map_congr_left fun c _ => ?_
  show V.int _ = V.int (((c % (m : Int)).toNat : Nat) : Int)
  have := Int.emod_nonneg c (show (m : Int) ≠ 0 from by omega)
  congr 1
  omega
def spFull (K : PySem.W.Frag) : Sp := fun vs H Q _ => ∃ (a : Addr) (ns : List Int), vs = [.ref a] ∧ SqL K H a (vi ns) ∧ ns.length ≤ 1000 ∧ RetL (vn (lawFull ns)) H Q
theorem ok_law_full {fd : FuncData} (F : FnP K "_law_full" s_law_full fd) (B : Bi mg) : FnOk P w K mg base CX0 1 (ga K "_law_full") fd P_law_full (spFull K) := by
  refine F.ok sc_law_full (fun vs H Q E h => ?_) (fun cdv A outer s H vs Q E hr h => ⟨der_law_full B hr, ?_⟩)
  · obtain ⟨a, ns, rfl, _⟩ := h; rfl
  obtain ⟨a, ns, rfl, hS, hl, q⟩ := h
  have hlv : (vi ns).length ≤ 1000 := by rw [List.length_map]; exact hl
  unfold der_law_full; dsimp only
  refine q_asg (v := nat ns.length) (ev_is (ev_lenN (el_cut (ev_var rfl) hS hlv)) (by rw [List.length_map]; rfl)) fun H1 e1 => ?_
  refine q_asgL (xs := vn (cells ns (ns.length + 1))) ?_ fun lw H2 hlw e2 hw2 => ?_
  · rw [← vn_cells ns (m := ns.length + 1) (by omega)]
    exact el_nl V.int _ (el_cut (ev_var rfl) (ex_l e1 hS) hlv) (by omega) (fun _ => rfl) fun i y H2 e2 hy => ev_mod (ev_var rfl) (ev_add (ev_var rfl) ev_c rfl) (by omega) (by push_cast; rfl)
  have hcl := cells_length ns (ns.length + 1)
  have hcb : ∀ x ∈ cells ns (ns.length + 1), x < ns.length + 1 := cells_lt (Nat.succ_pos _)
  generalize hws : cells ns (ns.length + 1) = ws at hw2 hcl hcb
  have e12 := e1.trans e2
  refine q_asgL (el_rng (n := ns.length + 1) (fun _ => nat 0) (ea_cons (ev_add (k := ((ns.length + 1 : Nat) : Int)) (ev_var rfl) ev_c (by omega)) ea_nil) (by omega) (fun _ => rfl) (fun i H1 e hi => ev_c)) fun l H3 hl3 e3 h3 => ?_
  have hne : lw ≠ l := ne_of_none hw2 hl3
  have hln := fresh_back e12 hl3
  have hw3 : SqL K H3 lw (vn ws) := sq_of (e3 lw _ hw2)
  refine q_forP nat (ev_var rfl) hw3 (fun pre σ' H' => ∃ v, σ' = [some (.ref a), some (nat ns.length), some (.ref lw), some (.ref l), v, none, none, none, none, none] ∧ Ex H2 H' ∧ H' l = some (.lst (vn (cnts (ns.length + 1) pre)))) (fun H4 e4 => ?_) (fun pre σ' H' hI => ?_) (fun pre y post σ' H' hy hI => ?_) (fun σ' H' hI => ?_)
  · refine ⟨none, rfl, e3.trans e4, ?_⟩
    rw [e4 l _ h3, cnts_nil]
    unfold vn
    rw [List.map_map]
    rfl
  · obtain ⟨v, rfl, e, _⟩ := hI
    exact sq_of (e lw _ hw2)
  · obtain ⟨v, rfl, e, h2⟩ := hI
    have hyp : y < ns.length + 1 := hcb y (by rw [hy]; simp)
    have g := vn_get (cnts_get (ws := pre) hyp)
    refine s_setL (j := y) h2 (v := nat (pre.count y + 1)) ?_ (ev_var rfl) (ev_var rfl) (by rw [List.length_map, cnts_len]; exact hyp) fun H3 e3 => ?_
    · exact ev_add (ev_ixN (ev_var rfl) (ev_var rfl) (sq_of h2) g) ev_c (by omega)
    · refine ⟨_, rfl, Ex.mut (e.trans e3) hl3, ?_⟩
      rw [upd_same, ← cnts_add hyp]
      unfold vn
      rw [List.map_set]
  obtain ⟨v, rfl, e, h5⟩ := hI
  refine q_asg ev_c fun H6 e6 => ?_
  refine q_asg ev_c fun H7 e7 => ?_
  refine q_asg ev_c fun H8 e8 => ?_
  have h8 : H8 l = some (.lst (vn (cnts (ns.length + 1) ws))) := e8 l _ (e7 l _ (e6 l _ h5))
  have e28 := e.trans ((e6.trans e7).trans e8)
  refine q_forR (n := ns.length + 1) (ea_cons (ev_add (k := ((ns.length + 1 : Nat) : Int)) (ev_var rfl) ev_c (by omega)) ea_nil) (by omega) (fun k σ' H' => ∃ v2, σ' = [some (.ref a), some (nat ns.length), some (.ref lw), some (.ref l), v, some (.int (fwalk ws k).1), some (.int (fwalk ws k).2.1), some (nat (fwalk ws k).2.2), v2, none] ∧ Ex H8 H') (fun H9 e9 => ?_) (fun i σ' H' hi hI => ?_) (fun σ' H' hI => ?_)
  · exact ⟨none, rfl, e9⟩
  · obtain ⟨v2, rfl, e9⟩ := hI
    have g := vn_get (cnts_get (ws := ws) hi)
    refine q_asg (v := .int ((fwalk ws i).1 + (ws.count i : Int) - 1)) (ev_sub (ev_add (ev_var rfl) (ev_ixN (ev_var rfl) (ev_var rfl) (sq_of (e9 l _ h8)) g) rfl) ev_c rfl) fun H10 e10 => ?_
    refine s_when (b := decide ((fwalk ws i).1 + (ws.count i : Int) - 1 < (fwalk ws i).2.1)) (et_test (ev_cmp (ev_var rfl) (ev_var rfl) rfl)) (fun hb H11 e11 => ?_) (fun hb H11 e11 => ?_)
    · refine q_asg (ev_var rfl) fun H12 e12 => s_asg (ev_var rfl) fun H13 e13 => ?_
      have ef : fwalk ws (i + 1) = ((fwalk ws i).1 + (ws.count i : Int) - 1, (fwalk ws i).1 + (ws.count i : Int) - 1, i) := if_pos (of_decide_eq_true hb)
      exact ⟨some (nat i), by rw [ef]; rfl, (e9.trans e10).trans ((e11.trans e12).trans e13)⟩
    · have ef : fwalk ws (i + 1) = ((fwalk ws i).1 + (ws.count i : Int) - 1, (fwalk ws i).2.1, (fwalk ws i).2.2) := if_neg (of_decide_eq_false hb)
      exact ⟨some (nat i), by rw [ef]; rfl, (e9.trans e10).trans e11⟩
  · obtain ⟨v2, rfl, e9⟩ := hI
    have he := (emptyOf_is (ws := ws) (by rw [hcl]; exact hcb)).lt
    have hE : (fwalk ws (ns.length + 1)).2.2 = emptyOf ws := by
      unfold emptyOf
      rw [hcl]
    rw [hE]
    have hlf : lawFull ns = ws.map fun w => (w + ns.length - emptyOf ws) % (ns.length + 1) := by
      unfold lawFull fullN
      rw [hws, hcl]
    refine s_retL (xs := vn (lawFull ns)) ?_ fun p H14 hp e14 h14 => q p H14 (fresh_back (e12.trans (e28.trans e9)) hp) ((e12.trans (e28.trans e9)).trans e14) h14
    rw [hlf]
    unfold vn
    rw [List.map_map]
    refine el_ls nat _ (ev_var rfl) (sq_of (e9 lw _ (e28 lw _ hw2))) (by rw [hcl]; omega) (fun _ => rfl) fun i y H15 e15 hy => ?_
    show Ev _ _ _ (.int (((y + ns.length - emptyOf ws) % (ns.length + 1) : Nat) : Int))
    refine ev_mod (i := ((y + ns.length - emptyOf ws : Nat) : Int)) (j := ((ns.length + 1 : Nat) : Int)) (ev_sub (i := ((y : Int) + (ns.length : Int))) (j := (emptyOf ws : Int)) (ev_add (ev_var rfl) (ev_var rfl) rfl) (ev_var rfl) (by omega)) (ev_add (ev_var rfl) ev_c (by omega)) (by omega) (by omega)
/-! ### _law_numbers -/
def spNumbers (K : PySem.W.Frag) : Sp := fun vs H Q _ => ∃ (a : Addr) (ns : List Int), vs = [.ref a] ∧ SqL K H a (vi ns) ∧ ns.length ≤ 40000 ∧ RetV (.bl true) H Q
theorem ok_law_numbers {fd : FuncData} (F : FnP K "_law_numbers" s_law_numbers fd) (B : Bi mg) : FnOk P w K mg base CX0 1 (ga K "_law_numbers") fd P_law_numbers (spNumbers K) := by
  refine F.ok sc_law_numbers (fun vs H Q E h => ?_) (fun cdv A outer s H vs Q E hr h => ⟨der_law_numbers B hr, ?_⟩)
  · obtain ⟨a, ns, rfl, _⟩ := h; rfl
  obtain ⟨a, ns, rfl, hS, hl, q⟩ := h
  unfold der_law_numbers; dsimp only
  refine q_when (et_not (et_B (ev_cb (ea_cons (ev_var rfl) (ea_cons ev_c ea_nil)) (isi_list (k := true) hS "list" (by decide +kernel))))) (fun h => by cases h) fun _ H1 e1 => ?_
  have t3 : ((ns.map fun _ => true).all id) = true := by
    rw [List.all_map, List.all_eq_true]
    intro x _
    rfl
  refine s_ret (v := .bl ((ns.map fun _ => true).all id)) (ev_allN ?_) fun H2 e2 => by
    rw [t3]
    exact q H2 (e1.trans e2)
  rw [List.map_map]
  refine el_ls V.int _ (ev_var rfl) (ex_l e1 hS) hl (fun _ => rfl) fun i y H2 e2 hy => ?_
  show Ev _ _ _ (.bl (true && !false))
  exact ev_andV (ev_cb (ea_cons (ev_var rfl) (ea_cons ev_c ea_nil)) (isi_int "int" (by decide +kernel))) fun _ => ev_notV (ev_cb (ea_cons (ev_var rfl) (ea_cons ev_c ea_nil)) (isi_int "bool" (by decide +kernel)))
theorem sv_numbers {H : Hp} {a : Addr} {ns : List Int} (h : SqL K H a (vi ns)) (hl : ns.length ≤ 40000) : SpV (spNumbers K) [.ref a] H (.bl true) := fun H1 e Q q E => ⟨a, ns, rfl, ex_l e h, hl, q⟩
theorem sv_numbersN {H : Hp} {a : Addr} {ws : List Nat} (h : SqL K H a (vn ws)) (hl : ws.length ≤ 40000) : SpV (spNumbers K) [.ref a] H (.bl true) := sv_numbers (by rw [← vn_vi]; exact h) (by rw [List.length_map]; exact hl)
theorem sl_full {H : Hp} {a : Addr} {ns : List Int} (h : SqL K H a (vi ns)) (hl : ns.length ≤ 1000) : SpL (spFull K) [.ref a] H (vn (lawFull ns)) := fun H1 e Q q E => ⟨a, ns, rfl, ex_l e h, hl, q⟩
end
end Pk
namespace Pk
open PySem PySem.Spec PyProof.Rows L2 Evl He
open SX (S)
section
variable {P : Program} {w : World} {K : PySem.W.Frag} {mg : Str → Option Value} {base : Heap}
def spLaw (K : PySem.W.Frag) : Sp := fun vs H Q _ => ∃ (a : Addr) (ns : List Int), vs = [.ref a] ∧ SqL K H a (vi ns) ∧ ns.length ≤ 63 ∧ ∀ H', Q (.bl true) H'
theorem sv_path {H : Hp} {a : Addr} {ws : List Nat} (h : SqL K H a (vn ws)) (hl : ws.length ≤ 20000) (F : Full ws) : SpV (spPath K) [.ref a] H (.str (S (pathL (cnts ws.length ws)))) := fun H1 e Q q E => ⟨a, ws, rfl, ex_l e h, hl, F.lo, fun _ => q, fun n => absurd F n⟩
theorem sv_drives {H : Hp} {a : Addr} {ws : List Nat} (h : SqL K H a (vn ws)) (hl : ws.length ≤ 40000) (F : Full ws) : SpV (spDrives K) [.ref a] H (.int (drv ws)) := fun H1 e Q q E => ⟨a, ws, rfl, ex_l e h, hl, F.lo, fun _ => q, fun n => absurd F n⟩
theorem sv_beneath {H : Hp} {cs hs : List Nat} (hl : cs.length ≤ 90000) (h : hgo cs 0 = some hs) : SpV (spBeneath K) [.str (S cs)] H (nat hs.sum) := fun H1 e Q q E => ⟨cs, rfl, hl, fun hs' h' => by rw [h] at h'; cases h'; exact q, fun n => by rw [h] at n; cases n⟩
theorem sl_rising {H : Hp} {cs hs : List Nat} (hl : cs.length ≤ 90000) (h : hgo cs 0 = some hs) : SpL (spRising K) [.str (S cs)] H (vn (ris cs 0)) := fun H1 e Q q E => ⟨cs, rfl, hl, fun _ => q, fun n => by rw [h] at n; cases n⟩
theorem hts_take (ws : List Nat) (F : Full ws) : ∀ i, i ≤ ws.length → ((lt ws i : Int) - (i : Int) = hgt ws i) := fun i _ => rfl
/-- the heights so far, together -/
def blw (ws : List Nat) (i : Nat) : Int := (((List.range i).map fun j => lt ws (j + 1) - (j + 1)).sum : Nat)
theorem blw_succ {ws : List Nat} (F : Full ws) {i : Nat} (hi : i < ws.length) : blw ws (i + 1) = blw ws i + hgt ws (i + 1) := by
  have h := F.up (i + 1) hi
  unfold blw hgt
  rw [List.range_succ, List.map_append, List.sum_append, List.map_singleton, List.sum_singleton]
  push_cast
  omega
theorem rise_isort (ws : List Nat) (h : ∀ x ∈ ws, x < ws.length) : isort (ws.map fun (n : Nat) => (n : Int)) = (rise ws).map fun (n : Nat) => (n : Int) := by
  refine isort_is ((rr_perm h).map _) ?_
  rw [List.pairwise_map]
  exact (rr_rise ws ws.length 0).imp fun h => by omega
theorem ok_law {fd fd1 fd2 fd3 fd4 fd5 fd6 : FuncData} (F : FnP K "law" s_law fd) (B : Bi mg) (C1 : Cal P w K mg base CX0 1 "_law_full" P_law_full (spFull K) fd1) (C2 : Cal P w K mg base CX0 1 "_law_numbers" P_law_numbers (spNumbers K) fd2)
    (C3 : Cal P w K mg base (L2.CX P w) 2 "beneath" P_beneath (spBeneath K) fd3) (C4 : Cal P w K mg base (L2.CX P w) 4 "drives" P_drives (spDrives K) fd4) (C5 : Cal P w K mg base (L2.CX P w) 4 "path" P_path (spPath K) fd5) (C6 : Cal P w K mg base (L2.CX P w) 2 "rising" P_rising (spRising K) fd6) :
    FnOk P w K mg base CX0 5 (ga K "law") fd P_law (spLaw K) := by
  refine F.ok sc_law (fun vs H Q E h => ?_) (fun cdv A outer s H vs Q E hr h => ⟨der_law B C1 C2 C3 C4 C5 C6 hr, ?_⟩)
  · obtain ⟨a, ns, rfl, _⟩ := h; rfl
  obtain ⟨a, ns, rfl, hS, hl, q⟩ := h
  unfold der_law; dsimp only
  have FW := lawFull_full ns
  have hwl := lawFull_length ns
  refine q_asgL (el_call (ea_cons (ev_var rfl) ea_nil) (sl_full hS (by omega))) fun lw H1 hlw e1 h1 => ?_
  generalize lawFull ns = ws at FW hwl h1
  have hw63 : ws.length ≤ 63 := by omega
  refine q_asgL (el_list (ev_var rfl) (sq_of h1)) fun lh H2 hlh e2 h2 => ?_
  refine q_asgL (el_ls nat (fun _ => nat 0) (ev_var rfl) (sq_of (e2 lw _ h1)) (by omega) (fun _ => rfl) fun i y H1 e hi => ev_c) fun l H3 hl3 e3 h3 => ?_
  have hw3 : SqL K H3 lw (vn ws) := sq_of (e3 lw _ (e2 lw _ h1))
  have hh3 : SqL K H3 lh (vn ws) := sq_of (e3 lh _ h2)
  refine q_forP nat (ev_var rfl) hw3 (fun pre σ' H' => ∃ v, σ' = [some (.ref a), some (.ref lw), some (.ref lh), some (.ref l), v, none, none, none, none, none, none, none] ∧ Ex H2 H' ∧ H' l = some (.lst (vn (cnts ws.length pre)))) (fun H4 e4 => ?_) (fun pre σ' H' hI => ?_) (fun pre y post σ' H' hy hI => ?_) (fun σ' H' hI => ?_)
  · refine ⟨none, rfl, e3.trans e4, ?_⟩
    rw [e4 l _ h3, cnts_nil]
    unfold vn
    rw [List.map_map]
    congr 2
    refine List.ext_getElem? fun i => ?_
    rw [List.getElem?_map, List.getElem?_map]
    by_cases hi : i < ws.length
    · rw [List.getElem?_range hi, List.getElem?_eq_getElem hi]
      rfl
    · rw [List.getElem?_eq_none (by omega), List.getElem?_eq_none (by rw [List.length_range]; omega)]
      rfl
  · obtain ⟨v, rfl, e, _⟩ := hI
    exact sq_of (e lw _ (e2 lw _ h1))
  · obtain ⟨v, rfl, e, h2⟩ := hI
    have hyp : y < ws.length := FW.lo y (by rw [hy]; simp)
    have g := vn_get (cnts_get (ws := pre) hyp)
    refine s_setL (j := y) h2 (v := nat (pre.count y + 1)) ?_ (ev_var rfl) (ev_var rfl) (by rw [List.length_map, cnts_len]; exact hyp) fun H3 e3 => ?_
    · exact ev_add (ev_ixN (ev_var rfl) (ev_var rfl) (sq_of h2) g) ev_c (by omega)
    · refine ⟨_, rfl, Ex.mut (e.trans e3) hl3, ?_⟩
      rw [upd_same, ← cnts_add hyp]
      unfold vn
      rw [List.map_set]
  obtain ⟨v, rfl, e4, h4⟩ := hI
  have hs := cnts_sum FW.lo
  -- the text
  have hz : ((cnts ws.length ws).map step1).length ≤ 40000 := by rw [List.length_map, cnts_len]; omega
  refine q_asg (v := .str (S (pathL (cnts ws.length ws)))) ?_ fun H5 e5 => ?_
  · have tl : EvL (tLc (iList K (tVar 3)) (gName 8) tYes (tOp (fun x y H Q => ∃ i j, x = .str i ∧ y = .str j ∧ i.length + j.length ≤ sizeLine ∧ Q (.str (i ++ j)) H) (tOp rMulS (tC (.str (Str.ofString "u"))) (tVar 8)) (tC (.str (Str.ofString "d")))) [8]) [some (.ref a), some (.ref lw), some (.ref lh), some (.ref l), v, none, none, none, none, none, none, none] H' (((cnts ws.length ws).map step1).map fun y => V.str (S y)) := by
      rw [List.map_map]
      refine el_ls nat _ (ev_var rfl) (sq_of h4) (by rw [cnts_len]; omega) (fun _ => rfl) fun i y H6 e6 hy => ?_
      have hy2 : y ≤ ws.length := by
        have h1 : y ≤ (cnts ws.length ws).sum := mem_le_sum (List.mem_of_getElem? hy)
        omega
      exact ev_catS (a := List.replicate y 117) (b := [100]) (ev_mulS (ev_lit lit_u) (ev_var rfl) (by omega)) (ev_lit lit_d) (by rw [List.length_replicate]; simp only [List.length_singleton]; omega)
    have tj := ev_joinL (K := K) (ev_lit (σ := [some (.ref a), some (.ref lw), some (.ref lh), some (.ref l), v, none, none, none, none, none, none, none]) (H := H') lit_nil) tl (by rw [steps_len, hs, cnts_len]; simp only [List.length_nil, Nat.mul_zero]; omega)
    rw [joinL_nil] at tj
    exact tj
  refine q_asg ev_c fun H6 e6 => ?_
  refine q_asg ev_c fun H7 e7 => ?_
  have e47 : Ex H2 H7 := e4.trans (e5.trans (e6.trans e7))
  have h7 : H7 l = some (.lst (vn (cnts ws.length ws))) := e7 l _ (e6 l _ (e5 l _ h4))
  refine q_forP nat (ev_var rfl) (sq_of h7) (fun pre σ' H' => ∃ v2, σ' = [some (.ref a), some (.ref lw), some (.ref lh), some (.ref l), v, some (.str (S (pathL (cnts ws.length ws)))), some (.int (hgt ws pre.length)), some (.int (blw ws pre.length)), v2, none, none, none] ∧ Ex H7 H') (fun H8 e8 => ?_) (fun pre σ' H' hI => ?_) (fun pre y post σ' H' hy hI => ?_) (fun σ' H' hI => ?_)
  · refine ⟨none, ?_, e8⟩
    rw [show hgt ws ([] : List Nat).length = 0 from by unfold hgt; rw [List.length_nil, lt_zero]; rfl]
    rfl
  · obtain ⟨v2, rfl, e⟩ := hI
    exact sq_of (e l _ h7)
  · obtain ⟨v2, rfl, e⟩ := hI
    have hpl : pre.length < ws.length := by
      have h9 := congrArg List.length hy
      rw [cnts_len, List.length_append, List.length_cons] at h9
      omega
    have hyc : y = ws.count pre.length := by
      have h9 := cnts_get (ws := ws) hpl
      rw [hy, List.getElem?_append_right (Nat.le_refl _), Nat.sub_self] at h9
      exact Option.some.inj h9
    have hsucc := hgt_succ ws pre.length
    refine q_asg (v := .int (hgt ws (pre.length + 1))) (ev_sub (ev_add (ev_var rfl) (ev_var rfl) rfl) ev_c (by rw [hsucc, hyc])) fun H8 e8 => ?_
    refine s_asg (v := .int (blw ws (pre.length + 1))) (ev_add (ev_var rfl) (ev_var rfl) (blw_succ FW hpl)) fun H9 e9 => ?_
    exact ⟨_, by rw [List.length_append]; rfl, (e.trans e8).trans e9⟩
  obtain ⟨v2, rfl, e8⟩ := hI
  have e28 : Ex H2 _ := e47.trans e8
  have hb : blw ws (cnts ws.length ws).length = drv ws := by
    rw [cnts_len, drv_hts FW]
    rfl
  rw [hb]
  have hg := hgo_full FW
  have hpl : (pathL (cnts ws.length ws)).length ≤ 90000 := by
    rw [pathL_len, hs, cnts_len]
    omega
  generalize htx : pathL (cnts ws.length ws) = tx at hg hpl ⊢
  have svp : ∀ {H3 : Hp} {b : Addr}, SqL K H3 b (vn ws) → SpV (spPath K) [.ref b] H3 (.str (S tx)) := fun h => by
    rw [← htx]
    exact sv_path h (by omega) FW
  refine q_when (b := (!decide (tx = tx)) || !decide (ws = ws)) (et_or (et_test (ev_neS (ev_call (ea_cons (ev_var rfl) ea_nil) (svp (sq_of (e28 lh _ h2)))) (ev_var rfl))) fun _ => et_test (ev_neN (ev_var rfl) (ev_var rfl) (sq_of (e28 lh _ h2)) (sq_of (e28 lw _ (e2 lw _ h1))))) (fun hb2 => by simp at hb2) fun _ H10 e10 => ?_
  refine q_asg (ev_call (ea_cons (ev_var rfl) ea_nil) (sv_beneath hpl hg)) fun H11 e11 => ?_
  have e211 := e28.trans (e10.trans e11)
  have hd := drv_hts FW
  refine q_when (b := false || ((!decide (((hts ws).sum : Int) = drv ws)) || !decide (drv ws = drv ws))) (et_or (et_B (ev_cb (ea_cons (ev_var rfl) (ea_cons ev_c ea_nil)) (isi_int "bool" (by decide +kernel)))) fun _ => et_or (et_test (ev_neInt (ev_var rfl) (ev_var rfl))) fun _ => et_test (ev_neInt (ev_call (ea_cons (ev_var rfl) ea_nil) (sv_drives (sq_of (e211 lh _ h2)) (by omega) FW)) (ev_var rfl))) (fun hb2 => by rw [hd] at hb2; simp at hb2) fun _ H12 e12 => ?_
  have hR : rise ws = ris tx 0 := by rw [← htx, ris_full]
  have hPm : (rise ws).Perm ws := rr_perm FW.lo
  have hRF : Full (rise ws) := FW.perm hPm.symm
  have hRl : (rise ws).length = ws.length := hPm.length_eq
  have hRt : pathL (cnts (rise ws).length (rise ws)) = tx := by rw [hRl, cnts_perm hPm, htx]
  have e212 := e211.trans e12
  refine q_forR (n := 2) (ea_cons ev_c ea_nil) (by omega) (fun k σ' H' => ∃ v3 v4, σ' = [some (.ref a), some (.ref lw), some (.ref lh), some (.ref l), v, some (.str (S tx)), some (.int (hgt ws (cnts ws.length ws).length)), some (.int (drv ws)), v2, v3, v4, none] ∧ Ex H2 H') (fun H13 e13 => ?_) (fun i σ' H' hi hI => ?_) (fun σ' H' hI => ?_)
  · exact ⟨_, none, rfl, e212.trans e13⟩
  · obtain ⟨v3, v4, rfl, e13⟩ := hI
    refine q_asgL (el_call (ea_cons (ev_var rfl) ea_nil) (sl_rising hpl hg)) fun lf H14 hlf e14 h14 => ?_
    rw [← hR] at h14
    have e214 := e13.trans e14
    have svr := sv_path (K := K) (H := H14) (sq_of h14) (by omega) hRF
    rw [hRt] at svr
    have h14i : SqL K H14 lf (vi ((rise ws).map fun (n : Nat) => (n : Int))) := by rw [← vn_vi]; exact sq_of h14
    have hwi : SqL K H14 lw (vi (ws.map fun (n : Nat) => (n : Int))) := by rw [← vn_vi]; exact sq_of (e214 lw _ (e2 lw _ h1))
    refine q_when (b := (!true) || ((!decide ((rise ws).map (fun (n : Nat) => (n : Int)) = isort (ws.map fun (n : Nat) => (n : Int)))) || !decide (tx = tx))) (et_or (et_not (et_B (ev_call (ea_cons (ev_var rfl) ea_nil) (sv_numbersN (sq_of h14) (by omega))))) fun _ => et_or (et_test (ev_neLI (ev_var rfl) h14i (el_sorted (ev_var rfl) hwi))) fun _ => et_test (ev_neS (ev_call (ea_cons (ev_var rfl) ea_nil) svr) (ev_var rfl))) (fun hb2 => by rw [rise_isort ws FW.lo] at hb2; simp at hb2) fun _ H15 e15 => ?_
    refine s_app (xs := vn (rise ws)) (e15 lf _ h14) (ev_var rfl) (v := .int 0) ev_c (by rw [List.length_map]; omega) fun H16 e16 => ?_
    exact ⟨_, _, rfl, Ex.mut ((e214.trans e15).trans e16) (fresh_back e13 hlf)⟩
  · exact s_ret ev_c fun H17 e17 => q H17
end
end Pk
namespace Pk
open PySem PySem.Spec PyProof.Rows L2 Evl He
/-! ### the end: what the top has left, by names -/
def d_is_number : DefD := ⟨("is_number", none), "is_number", "is_number", defArgs s_is_number, defBody s_is_number, defScope s_is_number, [], []⟩
def d_counted : DefD := ⟨("counted", none), "counted", "counted", defArgs s_counted, defBody s_counted, defScope s_counted, [], []⟩
def d_as_list : DefD := ⟨("as_list", none), "as_list", "as_list", defArgs s_as_list, defBody s_as_list, defScope s_as_list, [], []⟩
def d_heights : DefD := ⟨("heights", none), "heights", "heights", defArgs s_heights, defBody s_heights, defScope s_heights, [], []⟩
def d_law_full : DefD := ⟨("_law_full", none), "_law_full", "_law_full", defArgs s_law_full, defBody s_law_full, defScope s_law_full, [], []⟩
def d_law_numbers : DefD := ⟨("_law_numbers", none), "_law_numbers", "_law_numbers", defArgs s_law_numbers, defBody s_law_numbers, defScope s_law_numbers, [], []⟩
def d_asked_wishes : DefD := ⟨("asked_wishes", none), "asked_wishes", "asked_wishes", defArgs s_asked_wishes, defBody s_asked_wishes, defScope s_asked_wishes, [], []⟩
def d_crowd_of : DefD := ⟨("crowd_of", none), "crowd_of", "crowd_of", defArgs s_crowd_of, defBody s_crowd_of, defScope s_crowd_of, [], []⟩
def d_beneath : DefD := ⟨("beneath", none), "beneath", "beneath", defArgs s_beneath, defBody s_beneath, defScope s_beneath, [], []⟩
def d_rising : DefD := ⟨("rising", none), "rising", "rising", defArgs s_rising, defBody s_rising, defScope s_rising, [], []⟩
def d_all_parked : DefD := ⟨("all_parked", none), "all_parked", "all_parked", defArgs s_all_parked, defBody s_all_parked, defScope s_all_parked, [], []⟩
def d_drives : DefD := ⟨("drives", none), "drives", "drives", defArgs s_drives, defBody s_drives, defScope s_drives, [], []⟩
def d_path : DefD := ⟨("path", none), "path", "path", defArgs s_path, defBody s_path, defScope s_path, [], []⟩
def d_law : DefD := ⟨("law", none), "law", "law", defArgs s_law, defBody s_law, defScope s_law, [], []⟩
def fnL : List DefD := [d_is_number, d_counted, d_as_list, d_heights, d_law_full, d_law_numbers, d_asked_wishes, d_crowd_of, d_beneath, d_rising, d_all_parked, d_drives, d_path, d_law]
def faL : List Fa := [.glo "is_number", .glo "counted", .glo "as_list", .glo "heights", .glo "_law_full", .glo "_law_numbers", .glo "asked_wishes", .glo "crowd_of", .glo "beneath", .glo "rising", .glo "all_parked", .glo "drives", .glo "path", .glo "law", .free "len", .free "range", .free "max", .free "min", .free "sum", .free "all", .free "any", .free "list", .free "sorted", .free "isinstance", .free "enumerate", .free "reversed", .free "set", .free "str", .free "int", .free "bool", .free "tuple", .free "ValueError", .int "PLACES" 1000000, .glo "BadPath", .exc "BadPath", .glo "TooMany", .exc "TooMany"]
abbrev RowL : PySem.W.OpenRow := PySem.W.OpenLaw.row PySem.Challenge.rw_parkrow_k07_whole_path
abbrev hkL : PySem.W.Hook := hookD 4 faL fnL
def obL (s : PySem.W.SharedT) : AlD := obsDG 4 faL fnL (HandSHeadRun.getT s)
theorem obL_eq (s : PySem.W.SharedT) : obL s = hkL.obs s.abs := obsDG_eq (HandSHeadRun.getT_eq s)
def looseL : List Str := ["StreetError", "BadWishes", "TooMany", "BadPath", "PLACES", "is_number", "asked_wishes", "crowd_of", "counted", "all_parked", "drives", "as_list", "path", "heights", "beneath", "rising", "_law_full", "_law_numbers"]
theorem runL (w : World) : HandSHeadRun.RunEq RowL (PySem.W.view RowL.prog [22]) hkL obL 4000 looseL w := by
  intro os
  kernel_rfl
theorem factsL {P : Program} {w : World} {K : PySem.W.Frag} {h : Heap} {mg : Str → Option Value} {f : Addr} (X : K.In h) (G : h.Ns mainGlobals mg) (hfa : mg ("law" : Str) = some (.ref f)) (c : SaysD faL fnL K) :
    ∃ fd : FuncData, (∀ (s : Shared) (v : Value), BindsTo s fd ⟨[v], []⟩ [("script", v)]) ∧ ∀ base : Heap, K.In base → base.Ns mainGlobals mg → FnOk P w K mg base CX0 5 f fd ["script"] (spLaw K) := by
  obtain ⟨fd_is_number, F_is_number⟩ := c.def_ 0 (d := d_is_number) rfl
  have F_is_number : FnP K "is_number" s_is_number fd_is_number := F_is_number
  obtain ⟨fd_counted, F_counted⟩ := c.def_ 1 (d := d_counted) rfl
  have F_counted : FnP K "counted" s_counted fd_counted := F_counted
  obtain ⟨fd_as_list, F_as_list⟩ := c.def_ 2 (d := d_as_list) rfl
  have F_as_list : FnP K "as_list" s_as_list fd_as_list := F_as_list
  obtain ⟨fd_heights, F_heights⟩ := c.def_ 3 (d := d_heights) rfl
  have F_heights : FnP K "heights" s_heights fd_heights := F_heights
  obtain ⟨fd_law_full, F_law_full⟩ := c.def_ 4 (d := d_law_full) rfl
  have F_law_full : FnP K "_law_full" s_law_full fd_law_full := F_law_full
  obtain ⟨fd_law_numbers, F_law_numbers⟩ := c.def_ 5 (d := d_law_numbers) rfl
  have F_law_numbers : FnP K "_law_numbers" s_law_numbers fd_law_numbers := F_law_numbers
  obtain ⟨fd_asked_wishes, F_asked_wishes⟩ := c.def_ 6 (d := d_asked_wishes) rfl
  have F_asked_wishes : FnP K "asked_wishes" s_asked_wishes fd_asked_wishes := F_asked_wishes
  obtain ⟨fd_crowd_of, F_crowd_of⟩ := c.def_ 7 (d := d_crowd_of) rfl
  have F_crowd_of : FnP K "crowd_of" s_crowd_of fd_crowd_of := F_crowd_of
  obtain ⟨fd_beneath, F_beneath⟩ := c.def_ 8 (d := d_beneath) rfl
  have F_beneath : FnP K "beneath" s_beneath fd_beneath := F_beneath
  obtain ⟨fd_rising, F_rising⟩ := c.def_ 9 (d := d_rising) rfl
  have F_rising : FnP K "rising" s_rising fd_rising := F_rising
  obtain ⟨fd_all_parked, F_all_parked⟩ := c.def_ 10 (d := d_all_parked) rfl
  have F_all_parked : FnP K "all_parked" s_all_parked fd_all_parked := F_all_parked
  obtain ⟨fd_drives, F_drives⟩ := c.def_ 11 (d := d_drives) rfl
  have F_drives : FnP K "drives" s_drives fd_drives := F_drives
  obtain ⟨fd_path, F_path⟩ := c.def_ 12 (d := d_path) rfl
  have F_path : FnP K "path" s_path fd_path := F_path
  obtain ⟨fd_law, F_law⟩ := c.def_ 13 (d := d_law) rfl
  have F_law : FnP K "law" s_law fd_law := F_law
  have B : Bi mg := ⟨free_ok X G (c.fact 14 (f := .free "len") rfl), free_ok X G (c.fact 15 (f := .free "range") rfl), free_ok X G (c.fact 16 (f := .free "max") rfl), free_ok X G (c.fact 17 (f := .free "min") rfl), free_ok X G (c.fact 18 (f := .free "sum") rfl), free_ok X G (c.fact 19 (f := .free "all") rfl), free_ok X G (c.fact 20 (f := .free "any") rfl), free_ok X G (c.fact 21 (f := .free "list") rfl), free_ok X G (c.fact 22 (f := .free "sorted") rfl), free_ok X G (c.fact 23 (f := .free "isinstance") rfl), free_ok X G (c.fact 24 (f := .free "enumerate") rfl), free_ok X G (c.fact 25 (f := .free "reversed") rfl), free_ok X G (c.fact 26 (f := .free "set") rfl), free_ok X G (c.fact 27 (f := .free "str") rfl), free_ok X G (c.fact 28 (f := .free "int") rfl), free_ok X G (c.fact 29 (f := .free "bool") rfl), free_ok X G (c.fact 30 (f := .free "tuple") rfl), free_ok X G (c.fact 31 (f := .free "ValueError") rfl)⟩
  obtain ⟨tk_PLACES, gc_PLACES⟩ := int_ok X G (c.fact 32 (f := .int "PLACES" 1000000) rfl)
  have X_BadPath : ExcF K mg "BadPath" := by
    obtain ⟨a1, a2, a3, a4⟩ := exc_ok (c.fact 34 (f := .exc "BadPath") rfl)
    exact ⟨a1, glo_ok X G (c.fact 33 (f := .glo "BadPath") rfl), a2, a3, a4⟩
  have X_TooMany : ExcF K mg "TooMany" := by
    obtain ⟨a1, a2, a3, a4⟩ := exc_ok (c.fact 36 (f := .exc "TooMany") rfl)
    exact ⟨a1, glo_ok X G (c.fact 35 (f := .glo "TooMany") rfl), a2, a3, a4⟩
  have e := hfa.symm.trans (glo_ok X G (c.fact 13 (f := .glo "law") rfl))
  cases e
  have b := FunD.bindsA (ps := ["script"]) F_law fun _ _ _ _ _ _ us hl => match us, hl with | [_], _ => rfl
  refine ⟨fd_law, fun s v => b s [v] rfl, fun base _ _ => ?_⟩
  have C_is_number := Cal.mk (P := P) (w := w) (base := base) (x := "is_number") (ps := P_is_number) (ok_is_number F_is_number B) (glo_ok X G (c.fact 0 (f := .glo "is_number") rfl)) F_is_number.kp (FunD.bindsN F_is_number fun _ _ _ _ _ _ us hl => match us, hl with | [_, _, _], _ => rfl)
  have C_counted := Cal.mk (P := P) (w := w) (base := base) (x := "counted") (ps := P_counted) (ok_counted F_counted B) (glo_ok X G (c.fact 1 (f := .glo "counted") rfl)) F_counted.kp (FunD.bindsN F_counted fun _ _ _ _ _ _ us hl => match us, hl with | [_, _], _ => rfl)
  have C_as_list := Cal.mk (P := P) (w := w) (base := base) (x := "as_list") (ps := P_as_list) (ok_as_list F_as_list B) (glo_ok X G (c.fact 2 (f := .glo "as_list") rfl)) F_as_list.kp (FunD.bindsN F_as_list fun _ _ _ _ _ _ us hl => match us, hl with | [_], _ => rfl)
  have C_heights := Cal.mk (P := P) (w := w) (base := base) (x := "heights") (ps := P_heights) (ok_heights F_heights B X_BadPath) (glo_ok X G (c.fact 3 (f := .glo "heights") rfl)) F_heights.kp (FunD.bindsN F_heights fun _ _ _ _ _ _ us hl => match us, hl with | [_], _ => rfl)
  have C_law_full := Cal.mk (P := P) (w := w) (base := base) (x := "_law_full") (ps := P_law_full) (ok_law_full F_law_full B) (glo_ok X G (c.fact 4 (f := .glo "_law_full") rfl)) F_law_full.kp (FunD.bindsN F_law_full fun _ _ _ _ _ _ us hl => match us, hl with | [_], _ => rfl)
  have C_law_numbers := Cal.mk (P := P) (w := w) (base := base) (x := "_law_numbers") (ps := P_law_numbers) (ok_law_numbers F_law_numbers B) (glo_ok X G (c.fact 5 (f := .glo "_law_numbers") rfl)) F_law_numbers.kp (FunD.bindsN F_law_numbers fun _ _ _ _ _ _ us hl => match us, hl with | [_], _ => rfl)
  have C_asked_wishes := Cal.mk (P := P) (w := w) (base := base) (x := "asked_wishes") (ps := P_asked_wishes) (ok_asked_wishes F_asked_wishes B C_is_number gc_PLACES) (glo_ok X G (c.fact 6 (f := .glo "asked_wishes") rfl)) F_asked_wishes.kp (FunD.bindsN F_asked_wishes fun _ _ _ _ _ _ us hl => match us, hl with | [_, _], _ => rfl)
  have C_crowd_of := Cal.mk (P := P) (w := w) (base := base) (x := "crowd_of") (ps := P_crowd_of) (ok_crowd_of F_crowd_of B C_counted) (glo_ok X G (c.fact 7 (f := .glo "crowd_of") rfl)) F_crowd_of.kp (FunD.bindsN F_crowd_of fun _ _ _ _ _ _ us hl => match us, hl with | [_, _], _ => rfl)
  have C_beneath := Cal.mk (P := P) (w := w) (base := base) (x := "beneath") (ps := P_beneath) (ok_beneath F_beneath B C_heights) (glo_ok X G (c.fact 8 (f := .glo "beneath") rfl)) F_beneath.kp (FunD.bindsN F_beneath fun _ _ _ _ _ _ us hl => match us, hl with | [_], _ => rfl)
  have C_rising := Cal.mk (P := P) (w := w) (base := base) (x := "rising") (ps := P_rising) (ok_rising F_rising C_heights) (glo_ok X G (c.fact 9 (f := .glo "rising") rfl)) F_rising.kp (FunD.bindsN F_rising fun _ _ _ _ _ _ us hl => match us, hl with | [_], _ => rfl)
  have C_all_parked := Cal.mk (P := P) (w := w) (base := base) (x := "all_parked") (ps := P_all_parked) (ok_all_parked F_all_parked B C_asked_wishes C_crowd_of X_TooMany) (glo_ok X G (c.fact 10 (f := .glo "all_parked") rfl)) F_all_parked.kp (FunD.bindsN F_all_parked fun _ _ _ _ _ _ us hl => match us, hl with | [_], _ => rfl)
  have C_drives := Cal.mk (P := P) (w := w) (base := base) (x := "drives") (ps := P_drives) (ok_drives F_drives B C_all_parked C_as_list) (glo_ok X G (c.fact 11 (f := .glo "drives") rfl)) F_drives.kp (FunD.bindsN F_drives fun _ _ _ _ _ _ us hl => match us, hl with | [_], _ => rfl)
  have C_path := Cal.mk (P := P) (w := w) (base := base) (x := "path") (ps := P_path) (ok_path F_path B C_all_parked C_as_list C_counted) (glo_ok X G (c.fact 12 (f := .glo "path") rfl)) F_path.kp (FunD.bindsN F_path fun _ _ _ _ _ _ us hl => match us, hl with | [_], _ => rfl)
  exact ok_law F_law B C_law_full C_law_numbers C_beneath C_drives C_path C_rising
end Pk
open PySem PySem.W PySem.Calls PyProof.Rows
set_option maxHeartbeats 0 in
theorem PySem.Challenge.cw_parkrow_k07_whole_path_holds : PySem.Challenge.rw_parkrow_k07_whole_path.Holds := by
  w_on; o_law
  refine HandSHeadRun.head_any (r := OpenLaw.row PySem.Challenge.rw_parkrow_k07_whole_path) (q := view (OpenLaw.row PySem.Challenge.rw_parkrow_k07_whole_path).prog [22]) (H := Pk.hkL) (ob := Pk.obL) (M := 4000) (loose := Pk.looseL) (d := HandSHeadRun.topDef (OpenLaw.row PySem.Challenge.rw_parkrow_k07_whole_path).prog 22) (kwd := []) Pk.obL_eq
    (by kernel_rfl) (fun s => by kernel_rfl) Pk.runL (by kernel_rfl) (by kernel_rfl) (by kernel_rfl) (by rfl) (by first | assumption | decide +kernel) (by decide +kernel) ⟨rfl, rfl, rfl, rfl, rfl, by decide +kernel⟩ ?hw ?hc
  case hw => w_witness2
  case hc =>
    refine L2.walk_ofE (l := PySem.Challenge.rw_parkrow_k07_whole_path) (n := 63) (k := 5) (x := "script") (CX := L2.CX0) rfl (by decide) (by kernel_rfl) ⟨rfl, by decide, by decide⟩ ?F (fun _ _ _ _ z => z)
    intro w mg fa h Y G hmg0
    obtain ⟨K, KX, c⟩ := Y
    have hmg : mg ("law" : PySem.Str) = some (.ref fa) := by
      have e : (HandSHeadRun.topDef (OpenLaw.row PySem.Challenge.rw_parkrow_k07_whole_path).prog 22).name = ("law" : PySem.Str) := by kernel_rfl
      rw [← e]
      exact hmg0
    obtain ⟨fd, hb, hF⟩ := Pk.factsL (P := (PySem.Challenge.rw_parkrow_k07_whole_path).prog) (w := w) KX G hmg c
    exact ⟨K, fd, Pk.spLaw K, KX, hb, fun H a ns hl _ hS => ⟨a, ns, rfl, hS, hl, fun _ => rfl⟩, hF⟩
