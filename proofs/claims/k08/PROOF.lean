import PyProof.Rows.All
import Wide.All
import OpenK.AllK
import Wide.FinOn
import KE.KStateDown
import Lean
import HandS.ForMost
import HandS.Exc
import HandS.TryOnly
import HandS.ExcOwn
import HandS.WordsExc
import HandS.IsInst
import HandS.Style
import HandS.RevRange
import HandS.StrMore
import HandS.Zip
import HandS.SortInts
import HandS.Evl
import HandS.CallLocal
import HandS.CallSlots
import HandS.ExcIs
import HandS.Codes
import HandS.ExcCtx
import HandS.Hot
import HandS.HotCalls
import HandS.Defaults
import HandS.Head0
import HandS.Head1
import HandS.Head2
import HandS.HeadEnd
import HandS.HeadHook1
import HandS.HeadHook2
import HandS.HeadHook3
import HandS.HeadHook4
import PySem.Challenge.RW_parkrow_k08_whole_path_back
set_option Elab.async false
set_option linter.all false
set_option maxRecDepth 100000
set_option maxHeartbeats 0
namespace Pk
open PySem PySem.Spec PyProof.Rows L2 Evl He
/-- what the module's names of built-ins hold: nothing of its own -/
structure Bi (mg : Str → Option Value) : Prop where
  len : mg "len" = none
  range : mg "range" = none
  max : mg "max" = none
  min : mg "min" = none
  sum : mg "sum" = none
  all : mg "all" = none
  any : mg "any" = none
  list : mg "list" = none
  sorted : mg "sorted" = none
  isinstance : mg "isinstance" = none
  enumerate : mg "enumerate" = none
  reversed : mg "reversed" = none
  set : mg "set" = none
  str : mg "str" = none
  int : mg "int" = none
  bool : mg "bool" = none
  tuple : mg "tuple" = none
  valueError : mg "ValueError" = none
/-- a def of the text that keeps its promise, to be called -/
structure Cal (P : Program) (w : World) (K : PySem.W.Frag) (mg : Str → Option Value) (base : Heap) (CX : CXT) (k : Nat) (x : Str) (ps : List Str) (sp : Sp) (fd : FuncData) : Prop where
  ok : FnOk P w K mg base CX k (ga K x) fd ps sp
  gl : mg x = some (.ref (ga K x))
  kp : PySem.W.keepIn K (.ref (ga K x)) = true
  bd : Binds K fd ps []
abbrev veB : List Value := [.type "ValueError", .type "Exception", .type "BaseException", .type "object"]
/-- an own class of errors -/
structure ExcF (K : PySem.W.Frag) (mg : Str → Option Value) (x : Str) : Prop where
  ex : PySem.W.excIn K (ga K x) veB "ValueError.__new__" = true
  gl : mg x = some (.ref (ga K x))
  kp : PySem.W.keepIn K (.ref (ga K x)) = true
  be : PySem.W.subIn K (.ref (ga K x)) (.type "BaseException") = some true
  ty : PySem.W.typeIn K (.ref (ga K x)) = some (.type "type")
def rMulS : R2 := fun x y H Q => ∃ (a : Str) (n : Int), x = .str a ∧ y = .int n ∧ MulOk a n ∧ Q (.str (Txt.mul a n)) H
theorem op_mul_str {X : Cx} : OpR X (binaryOp .Mult) rMulS := by
  intro pins s σ H x y v u Q I rx ry h
  obtain ⟨a, n, rfl, rfl, hz, q⟩ := h
  obtain ⟨t, rfl⟩ := rx
  obtain ⟨t', rfl⟩ := ry
  exact PySem.SB.mul hz (fun t' tk => ⟨.str (Txt.mul a n), H, I.tok _, ⟨_, rfl⟩, q⟩)
def rMin2 : List V → Hp → VK → Prop := fun xs H Q => ∃ i j, xs = [.int i, .int j] ∧ Q (.int (if j < i then j else i)) H
def rLenT : List V → Hp → VK → Prop := fun xs H Q => ∃ z, xs = [.str z] ∧ z.length ≤ sizeLine ∧ Q (.int z.length) H
end Pk
namespace Pk
open PySem PySem.Spec PyProof.Rows L2 Evl He
/-! ### lists of numbers as values -/
def nat (n : Nat) : V := .int (n : Int)
abbrev vn (ws : List Nat) : List V := ws.map nat
abbrev vi (ns : List Int) : List V := ns.map V.int
theorem vn_vi (ws : List Nat) : vn ws = vi (ws.map fun (n : Nat) => (n : Int)) := by
  unfold vn vi
  rw [List.map_map]
  rfl
theorem vn_get {ws : List Nat} {i : Nat} {n : Nat} (h : ws[i]? = some n) : (vn ws)[i]? = some (nat n) := by
  rw [List.getElem?_map, h]
  rfl
theorem vmap_get {α : Type} {c : α → V} {ys : List α} {i : Nat} {x : V} (h : (ys.map c)[i]? = some x) : ∃ y, ys[i]? = some y ∧ x = c y := by
  rw [List.getElem?_map] at h
  cases e : ys[i]? with
  | none => rw [e] at h; cases h
  | some y => rw [e] at h; exact ⟨y, rfl, (Option.some.inj h).symm⟩
theorem at_nat {xs : List V} {i : Nat} {v : V} (h : xs[i]? = some v) : atI xs ((i : Nat) : Int) = some v := atI_nat h
/-- heaps -/
theorem Ex.of_new {H H1 H2 : Hp} {p : Addr} (n : H p = none) (e : Ex H H1) (h : ∀ b o, b ≠ p → H1 b = some o → H2 b = some o) : Ex H H2 := fun a o ha => h a o (ne_of_none ha n) (e a o ha)
theorem et_yes {σ : L2.St} {H : Hp} : EvT tYes σ H true := fun H1 _ _ q => q H1 (Ex.refl H1)
theorem given_all {n : Nat} {v : Nat → V} : given n (fun _ => true) v = (List.range n).map v := by
  unfold given
  rw [List.filter_eq_self.mpr (fun _ _ => rfl)]
section
variable {K : PySem.W.Frag} {σ : L2.St} {H H' : Hp} {ta tb te tx : TE} {t u : TT} {x y z v : V} {r : R2}
/-- [e for i in range(n)] -/
theorem el_rng {ta : TA} {j : Nat} {vs : List Nat} {n : Nat} (v : Nat → V) (h : EvA ta σ H [nat n]) (hn : n ≤ 40000) (hw : ∀ x, wipe ((wipe σ vs).set j (some x)) vs = wipe σ vs)
    (he : ∀ (i : Nat) H1, Ex H H1 → i < n → Ev te ((wipe σ vs).set j (some (nat i))) H1 (v i)) : EvL (tLc (iRng1 ta) (gName j) tYes te vs) σ H ((List.range n).map v) := by
  have g := el_lcR1 (te := te) (fun _ => true) v h ⟨by omega, by omega⟩ hw (fun i H1 e hi => et_yes) (fun i H1 e hi _ => he i H1 e (by omega))
  rw [given_all] at g
  exact g
theorem given_list {α : Type} (f : α → Bool) (g : α → V) (d : α) : ∀ (ys : List α), given ys.length (fun i => f (ys.getD i d)) (fun i => g (ys.getD i d)) = (ys.filter f).map g := by
  intro ys
  have key : ∀ n, n ≤ ys.length → given n (fun i => f (ys.getD i d)) (fun i => g (ys.getD i d)) = ((ys.take n).filter f).map g := by
    intro n
    induction n with
    | zero => intro _; rfl
    | succ n ih =>
      intro hn
      have hlt : n < ys.length := hn
      have e : ys[n]? = some (ys.getD n d) := by
        rw [List.getD_eq_getElem?_getD, List.getElem?_eq_getElem hlt]; rfl
      rw [List.take_add_one, e]
      cases hf : f (ys.getD n d) with
      | true =>
        rw [given_yes (f := fun i => f (ys.getD i d)) hf, ih (by omega)]
        generalize ys.getD n d = z at hf
        simp [hf]
      | false =>
        rw [given_no (f := fun i => f (ys.getD i d)) hf, ih (by omega)]
        generalize ys.getD n d = z at hf
        simp [hf]
  rw [key ys.length (Nat.le_refl _), List.take_length]
/-- [e for y in list if t] over items that are c y -/
theorem el_lsF {α : Type} {a : Addr} {ys : List α} (c : α → V) {tl : TE} {j : Nat} {vs : List Nat} (f : α → Bool) (g : α → V) (h : Ev tl σ H (.ref a)) (hx : SqL K H a (ys.map c)) (hz : ys.length ≤ 40000) (hw : ∀ x, wipe ((wipe σ vs).set j (some x)) vs = wipe σ vs)
    (ht : ∀ (i : Nat) (y : α) H1, Ex H H1 → ys[i]? = some y → EvT t ((wipe σ vs).set j (some (c y))) H1 (f y)) (he : ∀ (i : Nat) (y : α) H1, Ex H H1 → ys[i]? = some y → f y = true → Ev te ((wipe σ vs).set j (some (c y))) H1 (g y)) :
    EvL (tLc (iList K tl) (gName j) t te vs) σ H ((ys.filter f).map g) := by
  cases ys with
  | nil => exact el_lcL (te := te) (t := t) (fun _ => true) (fun _ => .non) h hx hz hw (fun i x H1 e hi => by simp at hi) (fun i x H1 e hi _ => by simp at hi)
  | cons d r =>
    have hd : ∀ i y, (d :: r)[i]? = some y → (d :: r).getD i d = y := fun i y hi => by
      rw [List.getD_eq_getElem?_getD, hi]; rfl
    have k := el_lcL (te := te) (t := t) (fun i => f ((d :: r).getD i d)) (fun i => g ((d :: r).getD i d)) h hx (by rw [List.length_map]; exact hz) hw (fun i x H1 e hi => by
      obtain ⟨y, hy, rfl⟩ := vmap_get hi
      show EvT _ _ _ (f ((d :: r).getD i d))
      rw [hd i y hy]
      exact ht i y H1 e hy) (fun i x H1 e hi hf => by
      obtain ⟨y, hy, rfl⟩ := vmap_get hi
      have hf' : f ((d :: r).getD i d) = true := hf
      rw [hd i y hy] at hf'
      show Ev _ _ _ (g ((d :: r).getD i d))
      rw [hd i y hy]
      exact he i y H1 e hy hf')
    rw [List.length_map, given_list] at k
    exact k
theorem el_ls {α : Type} {a : Addr} {ys : List α} (c : α → V) {tl : TE} {j : Nat} {vs : List Nat} (g : α → V) (h : Ev tl σ H (.ref a)) (hx : SqL K H a (ys.map c)) (hz : ys.length ≤ 40000) (hw : ∀ x, wipe ((wipe σ vs).set j (some x)) vs = wipe σ vs)
    (he : ∀ (i : Nat) (y : α) H1, Ex H H1 → ys[i]? = some y → Ev te ((wipe σ vs).set j (some (c y))) H1 (g y)) :
    EvL (tLc (iList K tl) (gName j) tYes te vs) σ H (ys.map g) := by
  have k := el_lsF (te := te) (t := tYes) c (fun _ => true) g h hx hz hw (fun _ _ _ _ _ => et_yes) (fun i y H1 e hi _ => he i y H1 e hi)
  rw [List.filter_eq_self.mpr (fun _ _ => rfl)] at k
  exact k
/-- over a new list -/
theorem el_nlF {α : Type} {ys : List α} (c : α → V) {tl : TE} {j : Nat} {vs : List Nat} (f : α → Bool) (g : α → V) (h : EvL tl σ H (ys.map c)) (hz : ys.length ≤ 40000) (hw : ∀ x, wipe ((wipe σ vs).set j (some x)) vs = wipe σ vs)
    (ht : ∀ (i : Nat) (y : α) H1, Ex H H1 → ys[i]? = some y → EvT t ((wipe σ vs).set j (some (c y))) H1 (f y)) (he : ∀ (i : Nat) (y : α) H1, Ex H H1 → ys[i]? = some y → f y = true → Ev te ((wipe σ vs).set j (some (c y))) H1 (g y)) :
    EvL (tLc (iList K tl) (gName j) t te vs) σ H ((ys.filter f).map g) := by
  cases ys with
  | nil => exact el_lcNL (te := te) (t := t) (fun _ => true) (fun _ => .non) h hz hw (fun i x H1 e hi => by simp at hi) (fun i x H1 e hi _ => by simp at hi)
  | cons d r =>
    have hd : ∀ i y, (d :: r)[i]? = some y → (d :: r).getD i d = y := fun i y hi => by
      rw [List.getD_eq_getElem?_getD, hi]; rfl
    have k := el_lcNL (te := te) (t := t) (K := K) (fun i => f ((d :: r).getD i d)) (fun i => g ((d :: r).getD i d)) h (by rw [List.length_map]; exact hz) hw (fun i x H1 e hi => by
      obtain ⟨y, hy, rfl⟩ := vmap_get hi
      show EvT _ _ _ (f ((d :: r).getD i d))
      rw [hd i y hy]
      exact ht i y H1 e hy) (fun i x H1 e hi hf => by
      obtain ⟨y, hy, rfl⟩ := vmap_get hi
      have hf' : f ((d :: r).getD i d) = true := hf
      rw [hd i y hy] at hf'
      show Ev _ _ _ (g ((d :: r).getD i d))
      rw [hd i y hy]
      exact he i y H1 e hy hf')
    rw [List.length_map, given_list] at k
    exact k
theorem el_nl {α : Type} {ys : List α} (c : α → V) {tl : TE} {j : Nat} {vs : List Nat} (g : α → V) (h : EvL tl σ H (ys.map c)) (hz : ys.length ≤ 40000) (hw : ∀ x, wipe ((wipe σ vs).set j (some x)) vs = wipe σ vs)
    (he : ∀ (i : Nat) (y : α) H1, Ex H H1 → ys[i]? = some y → Ev te ((wipe σ vs).set j (some (c y))) H1 (g y)) :
    EvL (tLc (iList K tl) (gName j) tYes te vs) σ H (ys.map g) := by
  have k := el_nlF (te := te) (t := tYes) (K := K) c (fun _ => true) g h hz hw (fun _ _ _ _ _ => et_yes) (fun i y H1 e hi _ => he i y H1 e hi)
  rw [List.filter_eq_self.mpr (fun _ _ => rfl)] at k
  exact k

/-! ### loops over prefixes -/
theorem take_pre {α : Type} {ys : List α} {i : Nat} {y : α} (h : ys[i]? = some y) : ys = ys.take i ++ y :: ys.drop (i + 1) ∧ ys.take (i + 1) = ys.take i ++ [y] := by
  obtain ⟨hi, rfl⟩ := List.getElem?_eq_some_iff.mp h
  refine ⟨?_, ?_⟩
  · rw [← List.drop_eq_getElem_cons hi, List.take_append_drop]
  · rw [List.take_add_one, List.getElem?_eq_getElem hi]; rfl
variable {D : Ends} {tu tw tz : TS} {g : TG}
/-- for y in list: rest; I: by the prefix gone -/
theorem q_forP {α : Type} {a : Addr} {ys : List α} (c : α → V) {tl : TE} {j : Nat} (h : Ev tl σ H (.ref a)) (hx : SqL K H a (ys.map c)) (I : List α → L2.St → Hp → Prop) (h0 : ∀ H1, Ex H H1 → I [] σ H1)
    (hl : ∀ pre σ' H', I pre σ' H' → SqL K H' a (ys.map c))
    (hs : ∀ pre y post σ' H', ys = pre ++ y :: post → I pre σ' H' → tu { D with nx := I (pre ++ [y]), ct := I (pre ++ [y]), bk := tz D } (σ'.set j (some (c y))) H')
    (hd : ∀ σ' H', I ys σ' H' → tz D σ' H') : tSeq (tFor (iList K tl) (gName j) tu) tz D σ H :=
  q_forLn h hx (fun i => I (ys.take i)) (fun H1 e => h0 H1 e) (fun i σ' H' _ q => hl _ σ' H' q) (fun i x σ' H' hi q => by
    obtain ⟨y, hy, rfl⟩ := vmap_get hi
    obtain ⟨e1, e2⟩ := take_pre hy
    have := hs (ys.take i) y (ys.drop (i + 1)) σ' H' e1 q
    rw [e2]
    exact this) (fun σ' H' q => hd σ' H' (by rw [List.length_map, List.take_length] at q; exact q))
theorem s_forP {α : Type} {a : Addr} {ys : List α} (c : α → V) {tl : TE} {j : Nat} (h : Ev tl σ H (.ref a)) (hx : SqL K H a (ys.map c)) (I : List α → L2.St → Hp → Prop) (h0 : ∀ H1, Ex H H1 → I [] σ H1)
    (hl : ∀ pre σ' H', I pre σ' H' → SqL K H' a (ys.map c))
    (hs : ∀ pre y post σ' H', ys = pre ++ y :: post → I pre σ' H' → tu { D with nx := I (pre ++ [y]), ct := I (pre ++ [y]), bk := D.nx } (σ'.set j (some (c y))) H')
    (hd : ∀ σ' H', I ys σ' H' → D.nx σ' H') : tFor (iList K tl) (gName j) tu D σ H :=
  s_forLn h hx (fun i => I (ys.take i)) (fun H1 e => h0 H1 e) (fun i σ' H' _ q => hl _ σ' H' q) (fun i x σ' H' hi q => by
    obtain ⟨y, hy, rfl⟩ := vmap_get hi
    obtain ⟨e1, e2⟩ := take_pre hy
    have := hs (ys.take i) y (ys.drop (i + 1)) σ' H' e1 q
    rw [e2]
    exact this) (fun σ' H' q => hd σ' H' (by rw [List.length_map, List.take_length] at q; exact q))
/-- for i in range(n) -/
theorem q_forR {ta : TA} {j : Nat} {n : Nat} (h : EvA ta σ H [nat n]) (hn : n ≤ 100000) (Pv : Nat → L2.St → Hp → Prop) (h0 : ∀ H1, Ex H H1 → Pv 0 σ H1)
    (hs : ∀ (i : Nat) σ' H', i < n → Pv i σ' H' → tu { D with nx := Pv (i + 1), ct := Pv (i + 1), bk := tz D } (σ'.set j (some (nat i))) H') (hd : ∀ σ' H', Pv n σ' H' → tz D σ' H') : tSeq (tFor (iRng1 ta) (gName j) tu) tz D σ H :=
  q_forR1 h ⟨by omega, by omega⟩ Pv h0 (fun i σ' H' hi q => hs i σ' H' (by omega) q) (fun σ' H' q => hd σ' H' (by rw [Int.toNat_natCast] at q; exact q))
/-- for i in reversed(range(n)): I k: k turns are left -/
theorem q_forRev {te : TE} {j : Nat} {n : Nat} (h : Ev te σ H (nat n)) (hn : n ≤ 100000) (Pv : Nat → L2.St → Hp → Prop) (h0 : ∀ H1, Ex H H1 → Pv n σ H1)
    (hs : ∀ (i : Nat) σ' H', i < n → Pv (i + 1) σ' H' → tu { D with nx := Pv i, ct := Pv i, bk := tz D } (σ'.set j (some (nat i))) H') (hd : ∀ σ' H', Pv 0 σ' H' → tz D σ' H') : tSeq (tFor (iRevR (tRg1 te)) (gName j) tu) tz D σ H := by
  refine h H (Ex.refl H) _ fun H1 e => ⟨n, rfl, ?_⟩
  refine ⟨by omega, by omega, by omega, by omega, ?_⟩
  have en : (((n : Int) - 0).toNat) = n := by omega
  rw [en]
  refine for_rangeC (lo := (0 : Int) + (n : Int) - 1) (c := -1) (n := n) (fun i => Pv (n - i)) (h0 H1 e) (fun i σ' H' hi q => ?_) (fun σ' H' q => hd σ' H' (by rw [Nat.sub_self] at q; exact q))
  have e1 : ((0 : Int) + (n : Int) - 1 + (i : Int) * -1) = ((n - (i + 1) : Nat) : Int) := by omega
  show tu { D with nx := Pv (n - (i + 1)), ct := Pv (n - (i + 1)), bk := tz D } (σ'.set j (some (.int ((0 : Int) + (n : Int) - 1 + (i : Int) * -1)))) H'
  rw [e1]
  have e2 : n - (i + 1) + 1 = n - i := by omega
  exact hs (n - (i + 1)) σ' H' (by omega) (by rw [e2]; exact q)
end
end Pk
namespace Pk
open PySem PySem.Spec PyProof.Rows L2 Evl He
/-! ### equality of lists of numbers -/
def pdi (ns : List Int) : PyData := .list (ns.map PyData.int)
theorem dpAll_ints {K : PySem.W.Frag} {H : Hp} : ∀ ns : List Int, DpAll K H (vi ns) (ns.map PyData.int)
  | [] => .nil
  | n :: r => .cons (.int n) (dpAll_ints r)
theorem dp_ints {K : PySem.W.Frag} {H : Hp} {a : Addr} {ns : List Int} (h : SqL K H a (vi ns)) : Dp K H (.ref a) (pdi ns) := .lst h (dpAll_ints ns)
theorem canLay_ints : ∀ ns : List Int, PyData.canLayAll0 (ns.map PyData.int) = true
  | [] => by simp [PyData.canLayAll0]
  | n :: r => by simp [PyData.canLayAll0, PyData.canLay0, canLay_ints r]
theorem depth_ints : ∀ ns : List Int, PyData.depthAll (ns.map PyData.int) ≤ 1
  | [] => by simp [PyData.depthAll]
  | n :: r => by
    have h := depth_ints r
    simp only [List.map_cons, PyData.depthAll, PyData.depth]
    omega
theorem shaped_ints (ns : List Int) : SeqAt.shaped (pdi ns) = true := by
  have h := depth_ints ns
  unfold SeqAt.shaped pdi
  rw [Bool.and_eq_true_iff]
  refine ⟨by simp [PyData.canLay0, canLay_ints ns], decide_eq_true ?_⟩
  simp only [PyData.depth]
  omega
theorem eqvAll_ints : ∀ ns ms : List Int, PyData.eqvAll (ns.map PyData.int) (ms.map PyData.int) = decide (ns = ms)
  | [], [] => rfl
  | [], m :: s => rfl
  | n :: r, [] => rfl
  | n :: r, m :: s => by
    show (PyData.eqv (.int n) (.int m) && PyData.eqvAll (r.map PyData.int) (s.map PyData.int)) = _
    rw [eqvAll_ints r s]
    show ((n == m) && decide (r = s)) = _
    by_cases h1 : n = m
    · by_cases h2 : r = s
      · simp [h1, h2]
      · simp [h1, h2]
    · simp [h1]
theorem eqv_ints (ns ms : List Int) : PyData.eqv (pdi ns) (pdi ms) = decide (ns = ms) := eqvAll_ints ns ms
section
variable {K : PySem.W.Frag} {σ : L2.St} {H H' : Hp} {ta tb te tx : TE} {t u : TT} {x y z v : V} {r : R2}
theorem rv_eqI {a b : Addr} {ns ms : List Int} (h1 : SqL K H a (vi ns)) (h2 : SqL K H b (vi ms)) : RV (rEqD K) (.ref a) (.ref b) H (.bl (decide (ns = ms))) := fun H1 e Q q =>
  ⟨_, _, dp_ints (ex_l e h1), dp_ints (ex_l e h2), shaped_ints ns, shaped_ints ms, by rw [eqv_ints]; exact q H1 (Ex.refl H1)⟩
theorem rv_neI {a b : Addr} {ns ms : List Int} (h1 : SqL K H a (vi ns)) (h2 : SqL K H b (vi ms)) : RV (rNeD K) (.ref a) (.ref b) H (.bl (!decide (ns = ms))) := fun H1 e Q q =>
  ⟨_, _, dp_ints (ex_l e h1), dp_ints (ex_l e h2), shaped_ints ns, shaped_ints ms, by rw [eqv_ints]; exact q H1 (Ex.refl H1)⟩
theorem rv_eqN {a b : Addr} {ns ms : List Nat} (h1 : SqL K H a (vn ns)) (h2 : SqL K H b (vn ms)) : RV (rEqD K) (.ref a) (.ref b) H (.bl (decide (ns = ms))) := by
  rw [vn_vi] at h1 h2
  have k := rv_eqI h1 h2
  have e : (ns.map (fun (n : Nat) => (n : Int)) = ms.map (fun (n : Nat) => (n : Int))) = (ns = ms) := by
    refine propext ⟨fun h => ?_, fun h => by rw [h]⟩
    exact List.map_inj_right (fun a b hab => Int.ofNat.inj hab) |>.mp h
  rw [show decide (ns.map (fun (n : Nat) => (n : Int)) = ms.map (fun (n : Nat) => (n : Int))) = decide (ns = ms) from by simp only [e]] at k
  exact k
theorem rv_neN {a b : Addr} {ns ms : List Nat} (h1 : SqL K H a (vn ns)) (h2 : SqL K H b (vn ms)) : RV (rNeD K) (.ref a) (.ref b) H (.bl (!decide (ns = ms))) := by
  rw [vn_vi] at h1 h2
  have k := rv_neI h1 h2
  have e : (ns.map (fun (n : Nat) => (n : Int)) = ms.map (fun (n : Nat) => (n : Int))) = (ns = ms) := by
    refine propext ⟨fun h => ?_, fun h => by rw [h]⟩
    exact List.map_inj_right (fun a b hab => Int.ofNat.inj hab) |>.mp h
  rw [show decide (ns.map (fun (n : Nat) => (n : Int)) = ms.map (fun (n : Nat) => (n : Int))) = decide (ns = ms) from by simp only [e]] at k
  exact k
/-! ### calls of built-ins -/
theorem rc_sum {a : Addr} {ns : List Int} (h : SqL K H a (vi ns)) : RC (rSum K) [.ref a] H (.int ns.sum) := fun H1 e Q q => ⟨a, ns, rfl, ex_l e h, q H1 (Ex.refl H1)⟩
theorem sum_nat : ∀ ws : List Nat, (ws.map fun (n : Nat) => (n : Int)).sum = ((ws.sum : Nat) : Int)
  | [] => rfl
  | w :: r => by
    rw [List.map_cons, List.sum_cons, List.sum_cons, sum_nat r]
    omega
theorem rc_sumN {a : Addr} {ws : List Nat} (h : SqL K H a (vn ws)) : RC (rSum K) [.ref a] H (nat ws.sum) := by
  rw [vn_vi] at h
  have k := rc_sum h
  rw [sum_nat] at k
  exact k
theorem rc_all {a : Addr} {bs : List Bool} (h : SqL K H a (bs.map V.bl)) : RC (rAll K) [.ref a] H (.bl (bs.all id)) := fun H1 e Q q => ⟨a, bs, rfl, ex_l e h, q H1 (Ex.refl H1)⟩
/-- all([..]), the list made on the way -/
theorem ev_allN {bs : List Bool} (h : EvL ta σ H (bs.map V.bl)) : Ev (tCB (rAll K) (tCons ta tNil)) σ H (.bl (bs.all id)) := fun H1 e Q q =>
  h H1 e _ fun p H2 _ e2 h2 => ⟨p, bs, rfl, sq_of h2, q H2 e2⟩
theorem ev_all {a : Addr} {bs : List Bool} (ha : Ev ta σ H (.ref a)) (h : SqL K H a (bs.map V.bl)) : Ev (tCB (rAll K) (tCons ta tNil)) σ H (.bl (bs.all id)) := ev_cb (ea_cons ha ea_nil) (rc_all h)
theorem ev_sumN {a : Addr} {ws : List Nat} (ha : Ev ta σ H (.ref a)) (h : SqL K H a (vn ws)) : Ev (tCB (rSum K) (tCons ta tNil)) σ H (nat ws.sum) := ev_cb (ea_cons ha ea_nil) (rc_sumN h)
theorem ev_sum {a : Addr} {ns : List Int} (ha : Ev ta σ H (.ref a)) (h : SqL K H a (vi ns)) : Ev (tCB (rSum K) (tCons ta tNil)) σ H (.int ns.sum) := ev_cb (ea_cons ha ea_nil) (rc_sum h)
/-- isinstance of a built-in class -/
theorem rc_isi {t b : String} {k : Bool} (ty : ∀ H1, Ex H H1 → TyX K H1 x (.type t)) (hk : kitB t b = some k) : RC (rIsi K) [x, .ty b] H (.bl k) := fun H1 e Q q =>
  ⟨x, .ty b, .type t, .type b, k, rfl, .ty b, ty H1 e, kit_ty hk, q H1 (Ex.refl H1)⟩
theorem ty_list {a : Addr} {xs : List V} (h : SqL K H a xs) : TyX K H (.ref a) (.type "list") := by
  rcases h with (h | ⟨o, h⟩) | ⟨o, its, n, hk, hc, hd, hs, hz, r⟩
  · exact .base (.lst h)
  · exact .base (.frz h)
  · exact .kList hk hc
theorem isi_int {i : Int} (b : String) {k : Bool} (hk : kitB "int" b = some k) : RC (rIsi K) [.int i, .ty b] H (.bl k) := rc_isi (fun _ _ => .base (.int i)) hk
theorem isi_list {a : Addr} {xs : List V} (h : SqL K H a xs) (b : String) {k : Bool} (hk : kitB "list" b = some k) : RC (rIsi K) [.ref a, .ty b] H (.bl k) := rc_isi (fun H1 e => ty_list (ex_l e h)) hk
theorem isi_str {s : Str} (b : String) {k : Bool} (hk : kitB "str" b = some k) : RC (rIsi K) [.str s, .ty b] H (.bl k) := rc_isi (fun _ _ => .base (.str s)) hk
theorem isi_bl {s : Bool} (b : String) {k : Bool} (hk : kitB "bool" b = some k) : RC (rIsi K) [.bl s, .ty b] H (.bl k) := rc_isi (fun _ _ => .base (.bl s)) hk
/-! ### sorted -/
def isort (ns : List Int) : List Int := ns.mergeSort (fun a b => decide (a ≤ b))
theorem isort_perm (ns : List Int) : (isort ns).Perm ns := List.mergeSort_perm ns _
theorem isort_rise (ns : List Int) : (isort ns).Pairwise (· ≤ ·) := by
  have h := List.pairwise_mergeSort (le := fun (a b : Int) => decide (a ≤ b)) (fun a b c h1 h2 => by simp only [decide_eq_true_eq] at *; omega) (fun a b => by simp only [Bool.or_eq_true, decide_eq_true_eq]; omega) ns
  exact h.imp (fun q => of_decide_eq_true q)
theorem isort_is {ns ms : List Int} (p : ms.Perm ns) (r : ms.Pairwise (· ≤ ·)) : isort ns = ms :=
  List.Perm.eq_of_pairwise (fun a b _ _ h1 h2 => Int.le_antisymm h1 h2) (isort_rise ns) r ((isort_perm ns).trans p.symm)
theorem el_sorted {a : Addr} {ns : List Int} (ha : Ev ta σ H (.ref a)) (h : SqL K H a (vi ns)) : EvL (tCB (rSortedI K) (tCons ta tNil)) σ H (vi (isort ns)) := fun H1 e Q q =>
  ha H1 e _ fun H2 e2 => ⟨a, ns, rfl, ex_l (e.trans e2) h, fun ns' p hp hr hn => by
    have z := isort_is hp hr
    subst z
    exact q p _ (fresh_back e2 hn) (e2.trans (Ex.new hn)) upd_same⟩
/-- operators on numbers -/
theorem ev_add {i j k : Int} (ha : Ev ta σ H (.int i)) (hb : Ev tb σ H (.int j)) (e : k = i + j) : Ev (tOp (rI0 fun i j => .int (i + j)) ta tb) σ H (.int k) := by
  rw [e]; exact ev_op ha hb rv_I0
theorem ev_sub {i j k : Int} (ha : Ev ta σ H (.int i)) (hb : Ev tb σ H (.int j)) (e : k = i - j) : Ev (tOp (rI0 fun i j => .int (i - j)) ta tb) σ H (.int k) := by
  rw [e]; exact ev_op ha hb rv_I0
theorem ev_mod {i j k : Int} (ha : Ev ta σ H (.int i)) (hb : Ev tb σ H (.int j)) (hj : 0 < j) (e : k = i % j) : Ev (tOp (rI (fun _ j => 0 < j) fun i j => .int (i % j)) ta tb) σ H (.int k) := by
  rw [e]; exact ev_op ha hb (rv_I hj)
theorem ev_div {i j k : Int} (ha : Ev ta σ H (.int i)) (hb : Ev tb σ H (.int j)) (hj : 0 < j ∧ j < 1073741824) (e : k = i / j) : Ev (tOp (rI CDiv fun i j => .int (i / j)) ta tb) σ H (.int k) := by
  rw [e]; exact ev_op ha hb (rv_I hj)
theorem ev_mul {i j k : Int} (ha : Ev ta σ H (.int i)) (hb : Ev tb σ H (.int j)) (hj : CMul i j) (e : k = i * j) : Ev (tOp (rI CMul fun i j => .int (i * j)) ta tb) σ H (.int k) := by
  rw [e]; exact ev_op ha hb (rv_I hj)
theorem ev_cmp {p : Int → Int → Bool} {i j : Int} {b : Bool} (ha : Ev ta σ H (.int i)) (hb : Ev tb σ H (.int j)) (e : b = p i j) : Ev (tOp (rI0 fun i j => .bl (p i j)) ta tb) σ H (.bl b) := by
  rw [e]; exact ev_op ha hb rv_I0
theorem ev_eqInt {i j : Int} (ha : Ev ta σ H (.int i)) (hb : Ev tb σ H (.int j)) : Ev (tOp rEq ta tb) σ H (.bl (decide (i = j))) := by
  have k := ev_op (r := rEq) ha hb (rv_eq rfl)
  rw [show decide (V.int i = V.int j) = decide (i = j) from by simp] at k
  exact k
theorem ev_neInt {i j : Int} (ha : Ev ta σ H (.int i)) (hb : Ev tb σ H (.int j)) : Ev (tOp rNe ta tb) σ H (.bl (!decide (i = j))) := by
  have k := ev_op (r := rNe) ha hb (rv_ne rfl)
  rw [show decide (V.int i = V.int j) = decide (i = j) from by simp] at k
  exact k
/-- ws[i] -/
theorem ev_ixN {p : Addr} {xs : List V} {i : Nat} (ha : Ev ta σ H (.ref p)) (hb : Ev tb σ H (nat i)) (h : SqL K H p xs) (hi : xs[i]? = some v) : Ev (tOp (rIxL K) ta tb) σ H v := ev_op ha hb (rv_ixL h (at_nat hi))
theorem ev_chain {p q : Int → Int → Bool} {i j k : Int} {b : Bool} (ha : Ev ta σ H (.int i)) (hb : Ev tb σ H (.int j)) (hc : Ev te σ H (.int k)) (e : b = (p i j && q j k)) :
    Ev (tChain (rI0 fun i j => .bl (p i j)) (rI0 fun i j => .bl (q i j)) ta tb te) σ H (.bl b) := fun H1 e1 Q Qk => by
  rw [e] at Qk
  refine ha H1 e1 _ fun H2 e2 => hb H2 (e1.trans e2) _ fun H3 e3 => ⟨i, j, rfl, rfl, p i j, rfl, ?_⟩
  cases hp : p i j with
  | true =>
    rw [hp] at Qk
    exact hc H3 ((e1.trans e2).trans e3) _ fun H4 e4 => ⟨j, k, rfl, rfl, Qk H4 ((e2.trans e3).trans e4)⟩
  | false =>
    rw [hp] at Qk
    exact Qk H3 (e2.trans e3)
end
end Pk
namespace Pk
open PySem PySem.Spec PyProof.Rows L2 Evl He
section
variable {K : PySem.W.Frag} {σ : L2.St} {H H' : Hp} {ta tb te tx : TE} {t u : TT} {x y z v : V} {r : R2} {D : Ends} {tu tw tz : TS} {g : TG}
/-! ### calls that may raise -/
theorem s_callX {sp : Sp} {dvs vs : List V} {E : XK} {ta : TA} (h : EvA ta σ H vs) (k : ∀ H1, Ex H H1 → sp (vs ++ dvs) H1 (fun _ H' => D.nx σ H') E) : tDrop (tCall sp dvs E ta) D σ H :=
  h H (Ex.refl H) _ fun H1 e => k H1 e
theorem q_callX {sp : Sp} {dvs vs : List V} {E : XK} {ta : TA} (h : EvA ta σ H vs) (k : ∀ H1, Ex H H1 → sp (vs ++ dvs) H1 (fun _ H' => tz D σ H') E) : tSeq (tDrop (tCall sp dvs E ta)) tz D σ H := s_callX (D := { D with nx := tz D }) h k
theorem s_asgX {sp : Sp} {dvs vs : List V} {E : XK} {ta : TA} {i : Nat} (h : EvA ta σ H vs) (k : ∀ H1, Ex H H1 → sp (vs ++ dvs) H1 (fun v H' => D.nx (σ.set i (some v)) H') E) : tAsg (tCall sp dvs E ta) (gName i) D σ H :=
  h H (Ex.refl H) _ fun H1 e => k H1 e
theorem q_asgX {sp : Sp} {dvs vs : List V} {E : XK} {ta : TA} {i : Nat} (h : EvA ta σ H vs) (k : ∀ H1, Ex H H1 → sp (vs ++ dvs) H1 (fun v H' => tz D (σ.set i (some v)) H') E) : tSeq (tAsg (tCall sp dvs E ta) (gName i)) tz D σ H := s_asgX (D := { D with nx := tz D }) h k
theorem s_retX {sp : Sp} {dvs vs : List V} {E : XK} {ta : TA} (h : EvA ta σ H vs) (k : ∀ H1, Ex H H1 → sp (vs ++ dvs) H1 D.rt E) : tRet (tCall sp dvs E ta) D σ H :=
  h H (Ex.refl H) _ fun H1 e => k H1 e
/-! ### comparisons with a list made on the way -/
theorem ev_neLN {a : Addr} {ns ms : List Nat} (ha : Ev ta σ H (.ref a)) (h1 : SqL K H a (vn ns)) (hb : EvL tb σ H (vn ms)) : Ev (tOp (rNeD K) ta tb) σ H (.bl (!decide (ns = ms))) :=
  ev_opL ha hb fun p H1 hp e => rv_neN (ex_l e h1) (sq_of hp)
theorem ev_eqLN {a : Addr} {ns ms : List Nat} (ha : Ev ta σ H (.ref a)) (h1 : SqL K H a (vn ns)) (hb : EvL tb σ H (vn ms)) : Ev (tOp (rEqD K) ta tb) σ H (.bl (decide (ns = ms))) :=
  ev_opL ha hb fun p H1 hp e => rv_eqN (ex_l e h1) (sq_of hp)
theorem ev_neLI {a : Addr} {ns ms : List Int} (ha : Ev ta σ H (.ref a)) (h1 : SqL K H a (vi ns)) (hb : EvL tb σ H (vi ms)) : Ev (tOp (rNeD K) ta tb) σ H (.bl (!decide (ns = ms))) :=
  ev_opL ha hb fun p H1 hp e => rv_neI (ex_l e h1) (sq_of hp)
theorem ev_eqLI {a : Addr} {ns ms : List Int} (ha : Ev ta σ H (.ref a)) (h1 : SqL K H a (vi ns)) (hb : EvL tb σ H (vi ms)) : Ev (tOp (rEqD K) ta tb) σ H (.bl (decide (ns = ms))) :=
  ev_opL ha hb fun p H1 hp e => rv_eqI (ex_l e h1) (sq_of hp)
theorem ev_neN {a b : Addr} {ns ms : List Nat} (ha : Ev ta σ H (.ref a)) (hb : Ev tb σ H (.ref b)) (h1 : SqL K H a (vn ns)) (h2 : SqL K H b (vn ms)) : Ev (tOp (rNeD K) ta tb) σ H (.bl (!decide (ns = ms))) := ev_op ha hb (rv_neN h1 h2)
theorem ev_eqN {a b : Addr} {ns ms : List Nat} (ha : Ev ta σ H (.ref a)) (hb : Ev tb σ H (.ref b)) (h1 : SqL K H a (vn ns)) (h2 : SqL K H b (vn ms)) : Ev (tOp (rEqD K) ta tb) σ H (.bl (decide (ns = ms))) := ev_op ha hb (rv_eqN h1 h2)
theorem ev_lenS {p : Addr} {xs : List V} {n : Nat} (ha : Ev ta σ H (.ref p)) (h : SqL K H p xs) (hn : xs.length = n) : Ev (tCB (rLenS K) (tCons ta tNil)) σ H (nat n) := by
  have k := ev_len ha h
  rw [hn] at k
  exact k
theorem ev_maxN {i j k : Nat} (ha : Ev ta σ H (nat i)) (hb : Ev tb σ H (nat j)) (e : k = Nat.max i j) : Ev (tCB rMax2 (tCons ta (tCons tb tNil))) σ H (nat k) := by
  have q := ev_max2 ha hb
  refine ev_is q ?_
  unfold nat
  rw [e]
  congr 1
  have h2 : Nat.max i j = if i < j then j else i := by
    show max i j = _
    split <;> omega
  rw [h2]
  split
  · rw [if_pos (by omega)]
  · rw [if_neg (by omega)]
/-! ### texts -/
open SX (S)
theorem q_forS {ts : TE} {j : Nat} {cs : List Nat} (h : Ev ts σ H (.str (S cs))) (I : List Nat → L2.St → Hp → Prop) (h0 : ∀ H1, Ex H H1 → I [] σ H1)
    (hs : ∀ pre c post σ' H', cs = pre ++ c :: post → I pre σ' H' → tu { D with nx := I (pre ++ [c]), ct := I (pre ++ [c]), bk := tz D } (σ'.set j (some (.str (S [c])))) H')
    (hd : ∀ σ' H', I cs σ' H' → tz D σ' H') : tSeq (tFor (iStr ts) (gName j) tu) tz D σ H := by
  refine h H (Ex.refl H) _ fun H1 e => ⟨S cs, rfl, ?_⟩
  refine ⟨fun i m σ H => m = cs.length - i ∧ i ≤ cs.length ∧ I (cs.take i) σ H, ⟨cs.length, by simp, Nat.zero_le _, h0 H1 e⟩, ?_⟩
  rintro i m σ H ⟨rfl, hi, p⟩
  have sz : (S cs).cps.size = cs.length := by simp [S]
  by_cases hlt : i < cs.length
  · refine .inr ⟨by show i < (S cs).cps.size; rw [sz]; exact hlt, I (cs.take (i + 1)), fun σ' H' p' => ⟨cs.length - (i + 1), by omega, rfl, hlt, p'⟩, fun x H' y => ?_⟩
    obtain ⟨rfl, c, hc, rfl⟩ := y
    have hc' : cs[i]? = some c := by simpa [S] using hc
    obtain ⟨e1, e2⟩ := take_pre hc'
    have := hs (cs.take i) c (cs.drop (i + 1)) σ _ e1 p
    rw [e2]
    exact this
  · have e : i = cs.length := by omega
    subst e
    refine .inl ⟨by show (S cs).cps.size ≤ cs.length; rw [sz]; exact Nat.le_refl _, hd σ H ?_⟩
    rw [List.take_length] at p
    exact p
theorem ev_catS {a b : List Nat} (ha : Ev ta σ H (.str (S a))) (hb : Ev tb σ H (.str (S b))) (hz : a.length + b.length ≤ 100000) : Ev (tOp (fun x y H Q => ∃ i j, x = .str i ∧ y = .str j ∧ i.length + j.length ≤ sizeLine ∧ Q (.str (i ++ j)) H) ta tb) σ H (.str (S (a ++ b))) :=
  ev_op ha hb fun H1 e Q q => ⟨S a, S b, rfl, rfl, by rw [SX.S_len, SX.S_len]; exact sz_of hz, by rw [SX.S_cat]; exact q H1 (Ex.refl H1)⟩
theorem mul_S (c : Nat) (n : Nat) : Txt.mul (S [c]) (n : Int) = S (List.replicate n c) := by
  unfold Txt.mul
  cases n with
  | zero => rfl
  | succ n =>
    rw [if_neg (by omega)]
    by_cases h1 : n = 0
    · subst h1
      rfl
    · have e1 : (((n + 1 : Nat) : Int) == 1) = false := by simp; omega
      have e2 : ((S [c]).length == 0) = false := rfl
      rw [e1, e2]
      show (if false = true then S [c] else _) = _
      rw [if_neg Bool.false_ne_true, Int.toNat_natCast]
      have key : ∀ (k : Nat) (acc : Array Nat), ((List.replicate k (S [c]).cps).foldl (· ++ ·) acc).toList = acc.toList ++ List.replicate k c := by
        intro k
        induction k with
        | zero => intro acc; simp
        | succ k ih =>
          intro acc
          rw [List.replicate_succ, List.foldl_cons, ih, Array.toList_append, List.replicate_succ, List.append_assoc]
          rfl
      refine TL.ext_tl ?_
      exact (key (n + 1) #[]).trans (by simp [TL.tl, S])
theorem mulOk_S (c : Nat) {n : Nat} (h : n ≤ 100000) : MulOk (S [c]) (n : Int) := by
  have h1 : (S [c]).length = 1 := rfl
  refine ⟨?_, fun h2 _ => ?_, fun _ _ => ?_⟩
  · rw [Bool.or_eq_false_iff]
    exact ⟨decide_eq_false (by omega), decide_eq_false (by omega)⟩
  · rw [h1]
    have h3 : (1 : Int) ≤ (2 ^ 63 - 1) / (n : Int) := by
      refine (Int.le_ediv_iff_mul_le (by omega)).mpr ?_
      omega
    show ¬ (((1 : Nat) : Int) > (2 ^ 63 - 1) / (n : Int))
    omega
  · rw [h1, Int.toNat_natCast]
    unfold Builtin.Str.tooLong
    have h4 : 1 * n ≤ sizeLine := by rw [Nat.one_mul]; exact sz_of h
    exact decide_eq_false (by omega)
theorem ev_mulS {c n : Nat} (ha : Ev ta σ H (.str (S [c]))) (hb : Ev tb σ H (nat n)) (hz : n ≤ 100000) : Ev (tOp rMulS ta tb) σ H (.str (S (List.replicate n c))) :=
  ev_op ha hb fun H1 e Q q => ⟨S [c], (n : Int), rfl, rfl, mulOk_S c hz, by rw [mul_S]; exact q H1 (Ex.refl H1)⟩
/-- "".join(new list of texts) -/
def rJoin (K : PySem.W.Frag) : V → List V → Hp → VK → Prop := fun x xs H Q => ∃ a p, ∃ ys : List Str, x = .str a ∧ xs = [.ref p] ∧ (SqL K H p (ys.map V.str) ∨ SqT K H p (ys.map V.str)) ∧
      (ys.map (·.length)).sum + ys.length * a.length ≤ 16777216 ∧ Q (.str (Txt.join a ys)) H
theorem ev_joinL {a : List Nat} {ys : List (List Nat)} (ha : Ev ta σ H (.str (S a))) (hb : EvL tb σ H (ys.map fun y => V.str (S y))) (hz : (ys.map (·.length)).sum + ys.length * a.length ≤ 16777216) :
    Ev (tM1 (rJoin K) ta tb) σ H (.str (S (TL.joinL a ys))) := fun H1 e Q q =>
  ha H1 e _ fun H2 e2 => ⟨⟨_, rfl⟩, hb H2 (e.trans e2) _ fun p H3 _ e3 hp => ⟨S a, p, ys.map S, rfl, rfl, .inl (sq_of (by rw [List.map_map]; exact hp)), by
    rw [List.map_map, List.length_map, SX.S_len]
    have e4 : ((fun y : Str => y.length) ∘ S) = fun y : List Nat => y.length := funext fun y => SX.S_len y
    rw [e4]
    exact hz, by rw [SX.join_S]; exact q H3 (e2.trans e3)⟩⟩
end
end Pk
namespace Pk
open PySem PySem.Spec PyProof.Rows L2 Evl He
/-! ### errors: what leaves a def, what is caught -/
theorem passN {X : Cx} : Passes (L2N.CX X.prog X.w) X E0 := fun _ _ _ _ _ _ _ h => by
  obtain ⟨_, _, _, _, _, _, _, _, _, _, _, _, z⟩ := h
  exact z.elim
theorem takesN {X : Cx} : L2N.Takes X (fun _ _ _ _ => False) := fun _ _ x => by
  obtain ⟨_, _, _, _, _, _, _, _, _, _, _, _, _, _, _, _, z⟩ := x
  exact z.elim
/-- the end of a list's walk while an exception is handled -/
theorem list_end_hot {prog : Program} {w : World} {A : Around} {E : Value → Shared → Prop} {s : Shared} {it l x1 : Addr} {i : Nat} {items : Array Value} {Q : Option Value → Shared → Prop} (hot : HotX.HotAt A x1 s.heap) (hne : x1 ≠ it)
    (hit : s.heap.IsListIter it l i) (hl : s.heap.IsList l items) (hx : items[i]? = none)
    (hQ : ∀ h', Heap.ExtBut it s.heap h' → Q none { s with heap := h' }) : wpAny (model prog w) A (pyNext (.ref it)) Q E s := by
  obtain ⟨o, ho, hc, hd⟩ := id hit
  obtain ⟨ol, hol, _, nl, hdl⟩ := hl
  obtain ⟨hh, o1, vs1, h1, d1, c1⟩ := hot
  unfold pyNext
  refine wpAny_bind (wpAny_attempt (wpAny_callSpecial?_slot (name := Str.ofString "__next__") hit.typeIs slot_listiter_next
    (wpAny_call_entry slot_listiter_next hit.typeIs entry_listiter_next ?_ (args_listiter_next _))))
  show wpAny _ _ (field (.ref it) 0 >>= _) _ _ s
  refine wpAny_bind (wpAny_field ho hd (x := .ref l) rfl ?_)
  show wpAny _ _ (if (Value.ref l == Value.none) = true then _ else _) _ _ s
  rw [if_neg (show ¬ ((Value.ref l == Value.none) = true) from Bool.false_ne_true)]
  show wpAny _ _ (field (.ref it) 1 >>= _) _ _ s
  refine wpAny_bind (wpAny_field ho hd (x := .int i 0) rfl ?_)
  show wpAny _ _ (seqItems? (.ref l) >>= _) _ _ s
  refine wpAny_bind (wpAny_seqItems hol hdl ?_)
  simp only [Int.toNat_natCast, hx]
  refine wpAny_bind (wpAny_rule (wpAny_bind (wpAny_setField ho hd (by simp) ?_)))
  show wpAny _ _ (newExc (.type "StopIteration") [] >>= _) _ _ _
  refine wpAny_bind ?_
  simp only [newExc, newTuple]
  refine wpAny_bind (wpAny_newObj_type ?_ (by size_fits))
  refine wpAny_bind (m := firstArgMember _ _) (wpAny_of_eq (a := Value.none) (by first | rfl | (simp only [firstArgMember]; rfl)) ?_)
  refine wpAny_newObj_type ?_ (by size_fits)
  refine HotX.raiseNew_hot (x1 := x1) ⟨hh, o1, vs1, ?_, d1, c1⟩ ?_ (Heap.get?_push_size _ rfl) rfl (by first | (simp; done) | (simp; omega) | (simp only [Array.size_append]; simp; omega)) ?_
  · exact Heap.get?_push_of_some _ (Heap.get?_push_of_some _ ((Heap.get?_update_other _ _ (Ne.symm hne)).trans h1))
  · exact Nat.ne_of_lt (Heap.lt_size (Heap.get?_push_of_some _ ((Heap.get?_update_other _ _ (Ne.symm hne)).trans h1)))
  refine wpAny_bind (wpAny_isInstance (T := "StopIteration") (b := true) ⟨_, Heap.get?_update_self _ (Heap.get?_push_size _ rfl) rfl, rfl⟩ isSubtype_stop ?_)
  refine wpAny_pure (hQ _ fun b ob hb e => ?_)
  have e1 := (Heap.get?_update_other s.heap (Obj.mapFields fun x => x.setIfInBounds 0 Value.none) (Ne.symm hb)).trans e
  rw [Heap.get?_update_other _ _ (Nat.ne_of_gt (Heap.lt_size (Heap.get?_push_of_some _ e1)))]
  exact Heap.get?_push_of_some _ (Heap.get?_push_of_some _ e1)
/-- x1 is an exception whose context is None -/
def CtxAt (h : Heap) (x1 : Addr) : Prop := ∃ (o : Obj) (vs : Array Value), h.get? x1 = some o ∧ o.data = .fields vs ∧ vs[2]? = some .none
theorem walks_hot {prog : Program} {w : World} {A : Around} {x1 : Addr} (hh : A.handled = some (.ref x1)) (I ax : Addr) (hne : ax ≠ I) (hx : x1 ≠ I) (items : Array Value) :
    Walks prog w A I [I, ax, x1] [I] items.size (fun i v => items[i]? = some v) (fun i h => h.IsListIter I ax i ∧ h.IsList ax items ∧ CtxAt h x1) where
  sub := fun b hb => by simp at hb; simp [hb]
  frame := fun _ _ _ st hk => ⟨st.1.at fun o e => hk I (by simp) o e, st.2.1.at fun o e => hk ax (by simp) o e, by
    obtain ⟨o, vs, e, r⟩ := st.2.2
    exact ⟨o, vs, hk x1 (by simp) o e, r⟩⟩
  item := fun i s Q E hi st hQ => by
    refine wpAny_pyNext_list_item st.1 st.2.1 (x := items[i]) (by simp [hi]) fun h' hit' hs' => ?_
    refine hQ _ h' s.toks (by simp [hi]) ⟨hit', st.2.1.extBut hs'.extBut hne, ?_⟩ fun b o hb e => hs'.extBut b o (fun h => hb (by simp [h])) e
    obtain ⟨o, vs, e, r⟩ := st.2.2
    exact ⟨o, vs, hs'.extBut x1 o hx e, r⟩
  done := fun s Q E st hQ => by
    obtain ⟨o, vs, e, r⟩ := st.2.2
    exact list_end_hot ⟨hh, o, vs, e, r⟩ hx st.1 st.2.1 (by simp) fun h' he' => hQ h' s.toks fun b o hb e => he' b o (fun h => hb (by simp [h])) e
  self := fun _ _ _ _ st hQ => wpAny_pyIter_listiter st.1 hQ
/-- any(xs) while an exception is handled -/
theorem cr_anyH {X : Cx} (hc : L2H.HotC X) : CallR X (.builtin "any") (rAny X.K) := by
  intro pins s σ H vs us Q I r h
  obtain ⟨a, bs, rfl, hs, q⟩ := h
  obtain ⟨its, rv, hl, _⟩ := I.list hs
  rw [Vals.ref1 r]
  have hb := rv.bls
  obtain ⟨x1, hh, o1, vs1, h1, d1, c1⟩ := hc.at I
  have hlt1 := Heap.lt_size h1
  refine call_any_walk (iter_any hl.isList fun s₂ e2 st hne => ?_)
  subst e2
  refine ⟨_, _, _, _, _, _, _, rfl, walks_hot (A := X.A.in1) hh _ a hne (Nat.ne_of_lt hlt1) its.toArray, ⟨st.1, st.2, o1, vs1, Heap.get?_push_of_some _ h1, d1, c1⟩, truth_bools hb, fun h' tk hk => ?_⟩
  refine ⟨.bl _, H, I.kept fun b o eo => hk b o (fun hmem => ?_) (Heap.get?_push_of_some _ eo), ?_, q⟩
  · rcases List.mem_cons.mp hmem with e1 | hmem
    · exact absurd (e1 ▸ Heap.lt_size eo) (Nat.lt_irrefl _)
    · cases hmem
  · show Value.bool _ = Value.bool _
    rw [← L2.any_range, hb, List.size_toArray, List.length_map]
theorem hot_suite {X : Cx} {a : Addr} {oe : Obj} {cls : Value} {d : Option Addr} {pn : List (Addr × Obj)} (hz : L2N.Zn cls d oe) (hf : ∃ vs, oe.data = .fields vs) : L2H.HotC (X.suite a ((a, oe) :: pn)) := by
  obtain ⟨vs, e⟩ := hf
  exact ⟨(a, oe), ⟨rfl, vs, e, hz.2.2 vs e⟩, List.mem_cons_self⟩
/-- isinstance(e, c) in the suite, whatever own class e is of -/
def rIsE2 (K : PySem.W.Frag) (cls : Value) (d : Option Addr) (a : Addr) : List V → Hp → VK → Prop := fun xs H Q => ∃ D, cls = .ref D ∧ d = none ∧ ExcC K D ∧ rIsE K D a xs H Q
theorem call_isE2 {X : Cx} {a : Addr} {oe : Obj} {cls : Value} {d : Option Addr} {pn : List (Addr × Obj)} (hz : L2N.Zn cls d oe) (hf : ∃ vs, oe.data = .fields vs) : CallR (X.suite a ((a, oe) :: pn)) (.builtin "isinstance") (rIsE2 X.K cls d a) := by
  intro pins s σ H xs us Q I r h
  obtain ⟨D, rfl, rfl, C, h⟩ := h
  exact call_isE C hz.zc hf pins s σ H xs us Q I r h
/-- of several defs that a slot may hold, that may raise -/
structure HeldX (P : Program) (w : World) (K : PySem.W.Frag) (mg : Str → Option Value) (base : Heap) (k : Nat) (f : Addr) (sp : Sp) : Prop where
  ex : ∃ (fd : FuncData) (ps : List Str), FnOk P w K mg base (L2N.CX P w) k f fd ps sp ∧ PySem.W.keepIn K (.ref f) = true ∧ Binds K fd ps []
def tCallX (i : Nat) (SP : Addr → Sp → Prop) (E : L2.St → XK) (t : TA) : TE := fun σ H Q => ∃ f sp, σ[i]? = some (some (.ref f)) ∧ SP f sp ∧ t σ H fun vs H1 => sp vs H1 Q (E σ)
theorem pe_callX {X : Cx} {k i : Nat} {SP : Addr → Sp → Prop} {E : L2.St → XK} {x : Str} {p pos : Pos} {e : Expr} {es : List Expr} {t : TA} (L : ∀ f sp, SP f sp → HeldX X.prog X.w X.K X.mg X.base k f sp) (hr : Room k X.A) (hN : X.N[i]? = some x) (hv : Vis X.env.scope x)
    (hx : ∀ σ, PassesAt (L2N.CX X.prog X.w) X σ (E σ)) (ha : PA X (e :: es) t)
    (hdb : (x == ("__debug__" : Str)) = false := by decide) (hcd : (x == ("__classdict__" : Str)) = false := by decide)
    (he : starEach (e :: es) X.env = (false, eval e X.env) :: starEach es X.env := by rfl) (hpl : (backTo pos (starEach es X.env)).any (·.1) = false := by rfl) : PE X (.Call (.Name x p) (e :: es) [] pos) (tCallX i SP E t) := by
  refine ⟨fun pins s σ H Q I h => ?_⟩
  obtain ⟨f, sp, hs, hS, ht⟩ := h
  obtain ⟨fd, ps, F, hk, hb⟩ := (L f sp hS).ex
  refine wpAny_Call_Name_kw (thn ((pe_var (pos := p) hN hv hdb hcd).run pins s σ H (fun v H1 => v = .ref f ∧ H1 = H) I ⟨.ref f, hs, rfl, rfl⟩) fun u s1 ⟨v, H1, I1, r1, q1⟩ => ?_)
  obtain ⟨rfl, rfl⟩ := q1
  cases r1
  refine PySem.W.callWith_K (h₀ := X.base) I.ok.mod.kin hk (thn (ha.run pos pins s1 σ _ _ I1 ht) fun us s2 ⟨vs, H2, I2, r, q⟩ => ⟨I2.kIn, ?_⟩) he hpl
  exact run_fnS F hr hb (hx σ) I2 r q
end Pk
namespace Pk
open PySem PySem.Spec PyProof.Rows L2 Evl He
open SX (S)
/-- z[::-1] of a text -/
def tRevS (te : TE) : TE := fun σ H Q => te σ H fun x H1 => ∃ z : List Nat, x = .str (S z) ∧ z.length ≤ sizeLine ∧ Q (.str (S z.reverse)) H1
theorem revS_idx (z : List Nat) : (Builtin.Str.strSliceIndices none none (-1) z.length).filterMap ((S z).cps[·]?) = z.reverse := by
  have e1 : Builtin.Str.strSliceIndices none none (-1) z.length = (List.range z.length).reverse := by
    have e0 : Builtin.Str.strSliceIndices none none (-1) z.length = sliceRange ((z.length : Int) - 1) (-1) (-1) := rfl
    rw [e0, PySem.W.krv_sliceRange, PySem.W.krv_range]
  have e2 := PySem.W.krv_all (S z).cps
  rw [e1, List.filterMap_reverse]
  have e3 : (S z).cps.size = z.length := by simp [S]
  rw [e3] at e2
  rw [e2]
theorem pe_revS {X : Cx} {pos : Pos} {e : Expr} {te : TE} {k : Nat} {p1 p2 p3 : Pos} (he : PE X e te) : PE X (.Subscript e (.Slice none none (some (.UnaryOp .USub (.Constant (.int 1) k p1) p2)) p3) pos) (tRevS te) := by
  refine ⟨fun pins s σ H Q I h => ?_⟩
  refine Subscript_ (thn (he.run pins s σ H _ I h) fun v s1 ⟨x, H1, I1, r1, q1⟩ => ?_)
  obtain ⟨z, ex, hz, q⟩ := q1
  subst ex
  obtain ⟨t, rfl⟩ := r1
  have hst : PO X (some (.UnaryOp .USub (.Constant (.int 1) k p1) p2)) (tPart (tUn (rU fun i => .int (-i)) (tC (.int 1)))) := po_some (pe_un un_neg pe_int)
  refine wpAny_Slice (thn (po_none.run pins s1 σ H1 (fun o H2 => o = none ∧ H2 = H1) I1 ⟨rfl, rfl⟩) fun vl s2 ⟨l, H2, I2, pl, el, e2⟩ => ?_)
  subst el e2
  refine thn (po_none.run pins s2 σ H2 (fun o H3 => o = none ∧ H3 = H2) I2 ⟨rfl, rfl⟩) fun vu s3 ⟨u, H3, I3, pu, eu, e3⟩ => ?_
  subst eu e3
  refine thn (hst.run pins s3 σ H3 (fun o H4 => o = some (-1) ∧ H4 = H3) I3 ⟨1, rfl, -1, rfl, rfl, rfl⟩) fun vs s4 ⟨o, H4, I4, ps, eo, e4⟩ => ?_
  subst eo e4
  have I5 : Inv X pins σ H4 { s4 with heap := s4.heap.push { cls := .type "slice", data := .fields #[vl, vu, vs] } } := I4.kept (t' := s4.toks) fun b ob q => Heap.get?_push_of_some _ q
  obtain ⟨l, hl1, hl2⟩ := IsPart.raw pl
  obtain ⟨u, hu1, hu2⟩ := IsPart.raw pu
  obtain ⟨st, hs1, hs2⟩ := IsPart.raw ps
  have hlN : l = none := by cases l with
    | none => rfl
    | some y => cases hl2
  have huN : u = none := by cases u with
    | none => rfl
    | some y => cases hu2
  subst hlN huN
  show wpAny (model X.prog X.w) X.A (subscriptTail e (.Slice none none (some (.UnaryOp .USub (.Constant (.int 1) k p1) p2)) p3) (.str (S z) t) (.ref s4.heap.objs.size)) (EP X pins σ Q) X.xe { s4 with heap := s4.heap.push { cls := .type "slice", data := .fields #[vl, vu, vs] } }
  refine tail_any (ops := [.ref s4.heap.objs.size, .str (S z) t]) (typeIs_str _ _ _) F.slot_str_getitem.lookup ?_ (by with_unfolding_all rfl)
  have hst2 : (st.map (·.1)).getD 1 = -1 := by rw [hs2]; rfl
  refine wpAny_getItem_str_slice (l := none) (u := none) (st := st) ⟨_, Heap.get?_push_size _ rfl, rfl, by rw [hl1, hu1, hs1]⟩ (by rw [hst2]; rfl) ?_
  show Made.post (if ((st.map (·.1)).getD 1 == 1 && (slicePicked (S z) none none st).length == (S z).length) = true then Made.val (.str (S z) t) else Made.str ⟨((slicePicked (S z) none none st).filterMap ((S z).cps[·]?)).toArray⟩) _ _
  have hp : slicePicked (S z) none none st = Builtin.Str.strSliceIndices none none (-1) z.length := by
    unfold slicePicked
    rw [hst2, SX.S_len]
    rfl
  rw [hst2, if_neg (by simp), hp, revS_idx]
  exact ⟨by show (S z.reverse).length ≤ sizeLine; rw [SX.S_len, List.length_reverse]; exact hz, .str (S z.reverse), H4, I5.tok _, ⟨_, rfl⟩, q⟩
end Pk
namespace Pk
open PySem PySem.Spec PyProof.Rows L2 Evl He
open SX (S)
section
variable {K : PySem.W.Frag} {σ : L2.St} {H H' : Hp} {ta tb te tx : TE} {t u : TT} {x y z v : V} {r : R2} {D : Ends} {tu tw tz : TS} {g : TG}
/-! ### what is told by a relation -/
def EvP (te : TE) (σ : L2.St) (H : Hp) (Φ : V → Hp → Prop) : Prop := ∀ H1, Ex H H1 → ∀ Q : VK, (∀ v H2, Ex H1 H2 → Φ v H2 → Q v H2) → te σ H1 Q
theorem ev_opP {Φ : V → Hp → Prop} (ha : EvP ta σ H Φ) (hk : ∀ x H1, Ex H H1 → Φ x H1 → ∀ Q : VK, (∀ H2, Ex H1 H2 → Q z H2) → tb σ H1 fun y H2 => r x y H2 Q) : Ev (tOp r ta tb) σ H z := fun H1 e Q q =>
  ha H1 e _ fun x H2 e2 hx => hk x H2 (e.trans e2) hx Q fun H3 e3 => q H3 (e2.trans e3)
/-- the first operand a new tuple -/
theorem ev_opU1 {xs : List V} (ha : EvU ta σ H xs) (hb : ∀ H1, Ex H H1 → Ev tb σ H1 y) (hr : ∀ p H1, H1 p = some (.tup xs) → Ex H H1 → RV r (.ref p) y H1 z) : Ev (tOp r ta tb) σ H z := fun H1 e Q q =>
  ha H1 e _ fun p H2 _ e2 hp => hb H2 (e.trans e2) H2 (Ex.refl H2) _ fun H3 e3 => hr p H3 (e3 p _ hp) ((e.trans e2).trans e3) H3 (Ex.refl H3) Q fun H4 e4 => q H4 ((e2.trans e3).trans e4)
/-- (a, b, ..)[i] -/
theorem ev_ixU {xs : List V} {i : Nat} (ha : EvU ta σ H xs) (hb : ∀ H1, Ex H H1 → Ev tb σ H1 (nat i)) (hi : xs[i]? = some v) : Ev (tOp (rIxT K) ta tb) σ H v := ev_opU1 ha hb fun p H1 hp _ => rv_ixT (st_of hp) (at_nat hi)
/-- [a, b, ..][i] -/
theorem ev_ixL {xs : List V} {i : Nat} (ha : EvL ta σ H xs) (hb : ∀ H1, Ex H H1 → Ev tb σ H1 (nat i)) (hi : xs[i]? = some v) : Ev (tOp (rIxL K) ta tb) σ H v := ev_opL1 ha hb fun p H1 hp _ => rv_ixL (sq_of hp) (at_nat hi)
/-- xs + ys -/
theorem el_cat {p : Addr} {xs ys : List V} (ha : Ev ta σ H (.ref p)) (hp : H p = some (.lst xs)) (hb : EvL tb σ H ys) (hz : xs.length + ys.length ≤ 100000) : EvL (tOp rCat ta tb) σ H (xs ++ ys) := fun H1 e Q q =>
  ha H1 e _ fun H2 e2 => hb H2 (e.trans e2) _ fun b H3 _ e3 h3 => ⟨p, b, xs, ys, rfl, rfl, e3 p _ (e2 p _ (e p _ hp)), h3, sz_of hz, fun d hd => q d _ (fresh_back (e2.trans e3) hd) ((e2.trans e3).trans (Ex.new hd)) upd_same⟩
theorem rc_any {a : Addr} {bs : List Bool} (h : SqL K H a (bs.map V.bl)) : RC (rAny K) [.ref a] H (.bl (bs.any id)) := fun H1 e Q q => ⟨a, bs, rfl, ex_l e h, q H1 (Ex.refl H1)⟩
/-- a, b, c = t -/
theorem q_un3 {i j k : Nat} {Φ : V → Hp → Prop} (h : EvP te σ H Φ) (hk : ∀ x H1, Ex H H1 → Φ x H1 → ∃ a v1 v2 v3, x = .ref a ∧ SqT K H1 a [v1, v2, v3] ∧ tz D (((σ.set i (some v1)).set j (some v2)).set k (some v3)) H1) :
    tSeq (tAsg te (gTup K 3 (gCons (gName i) (gCons (gName j) (gCons (gName k) gNil))))) tz D σ H := h H (Ex.refl H) _ fun x H1 e hx => by
  obtain ⟨a, v1, v2, v3, rfl, hS, q⟩ := hk x H1 e hx
  exact ⟨a, _, rfl, hS, rfl, v1, [v2, v3], rfl, v2, [v3], rfl, v3, [], rfl, rfl, q⟩
theorem q_try {tb2 : WX → TS} {c : Value} {i : Nat} {ts : Addr → Value → Option Addr → TS} {Wout : WX} (h : tb2 (wAs K c i ts Wout { D with nx := tz D }) { D with nx := tz D } σ H) : tSeq (fun D σ H => tb2 (wAs K c i ts Wout D) D σ H) tz D σ H := h
end
/-! ### errors: what the classes tell -/
def errNames : List Str := ["BadWishes", "TooMany", "BadTree", "BadPath", "BadStanding", "BadText"]
structure ErrX (K : PySem.W.Frag) (x : Str) : Prop where
  exm : PySem.W.exmOne K (.ref (ga K x)) (.ref (ga K "StreetError")) = some true
  cc : ExcC K (ga K x)
  kit : ∀ y ∈ errNames, PySem.W.kitOne K (.ref (ga K x)) (.ref (ga K y)) = some (decide (x = y))
  ve : PySem.W.kitOne K (.ref (ga K x)) (.type "ValueError") = some true
def errB (K : PySem.W.Frag) (x : Str) : Bool :=
  decide (PySem.W.exmOne K (.ref (ga K x)) (.ref (ga K "StreetError")) = some true) && (eqO (PySem.W.findIn K (.ref (ga K x)) "__getattribute__") (some (some (.builtin "BaseException.__getattribute__"))) && (eqO (PySem.W.findIn K (.ref (ga K x)) "__getattr__") (some none) &&
  (decide (PySem.W.subIn K (.ref (ga K x)) (.type "BaseException") = some true) && (PySem.W.hasDictIn K (ga K x) && (eqO (PySem.W.findIn K (.ref (ga K x)) "__class__") (some (some (.builtin "object.__class__"))) && (eqO (PySem.W.specialIn K (.builtin "object.__class__") "__get__") (some (some (.builtin "getset_descriptor.__get__"))) &&
  (decide (PySem.W.takesIn K (.builtin "object.__class__") = some true) && (decide (PySem.W.mroIn K (ga K x) (.type "object") = some true) && ((errNames.all fun y => decide (PySem.W.kitOne K (.ref (ga K x)) (.ref (ga K y)) = some (decide (x = y)))) && decide (PySem.W.kitOne K (.ref (ga K x)) (.type "ValueError") = some true))))))))))
theorem errX_of {K : PySem.W.Frag} {x : Str} (h : errB K x = true) : ErrX K x := by
  obtain ⟨a1, h⟩ := ba h
  obtain ⟨a2, h⟩ := ba h
  obtain ⟨a3, h⟩ := ba h
  obtain ⟨a4, h⟩ := ba h
  obtain ⟨a5, h⟩ := ba h
  obtain ⟨a6, h⟩ := ba h
  obtain ⟨a7, h⟩ := ba h
  obtain ⟨a8, h⟩ := ba h
  obtain ⟨a9, h⟩ := ba h
  obtain ⟨b1, b2⟩ := ba h
  exact ⟨of_decide_eq_true a1, ⟨eqO_ok a2, eqO_ok a3, of_decide_eq_true a4, a5, eqO_ok a6, eqO_ok a7, of_decide_eq_true a8, of_decide_eq_true a9⟩, fun y hy => of_decide_eq_true (List.all_eq_true.mp b1 y hy), of_decide_eq_true b2⟩
section
variable {K : PySem.W.Frag} {H : Hp} {a : Addr} {x y : Str}
theorem rc_isE (E : ErrX K x) (hy : y ∈ errNames) {b : Bool} (hb : decide (x = y) = b) : RC (rIsE2 K (.ref (ga K x)) none a) [.ref a, .ref (ga K y)] H (.bl b) := fun H1 e Q q =>
  ⟨ga K x, rfl, rfl, E.cc, .ref (ga K y), .ref (ga K y), b, rfl, fun u r => r, by rw [E.kit y hy, hb], q H1 (Ex.refl H1)⟩
theorem rc_isVE (E : ErrX K x) : RC (rIsE2 K (.ref (ga K x)) none a) [.ref a, .ty "ValueError"] H (.bl true) := fun H1 e Q q =>
  ⟨ga K x, rfl, rfl, E.cc, .ty "ValueError", .type "ValueError", true, rfl, fun u r => r, E.ve, q H1 (Ex.refl H1)⟩
end
end Pk
namespace Pk
open PySem PySem.Spec PyProof.Rows L2 Evl He
open SX (S)
section
variable {K : PySem.W.Frag} {σ : L2.St} {H H' : Hp} {ta tb te tx : TE} {t u : TT} {x y z v : V} {r : R2} {D : Ends} {tu tw tz : TS} {g : TG}
/-- for y in a new list: I: by the list's address and the prefix gone -/
theorem q_forNP {α : Type} {ys : List α} (c : α → V) {tl : TE} {j : Nat} (h : EvL tl σ H (ys.map c)) (I : Addr → List α → L2.St → Hp → Prop) (h0 : ∀ p H1, H p = none → Ex H H1 → H1 p = some (.lst (ys.map c)) → I p [] σ H1)
    (hl : ∀ p pre σ' H', I p pre σ' H' → SqL K H' p (ys.map c))
    (hs : ∀ p pre y post σ' H', ys = pre ++ y :: post → I p pre σ' H' → tu { D with nx := I p (pre ++ [y]), ct := I p (pre ++ [y]), bk := tz D } (σ'.set j (some (c y))) H')
    (hd : ∀ p σ' H', I p ys σ' H' → tz D σ' H') : tSeq (tFor (iList K tl) (gName j) tu) tz D σ H :=
  q_forNLn h (fun p i => I p (ys.take i)) (fun p H1 hp e h1 => h0 p H1 hp e h1) (fun p i σ' H' _ q => hl p _ σ' H' q) (fun p i x σ' H' hi q => by
    obtain ⟨y, hy, rfl⟩ := vmap_get hi
    obtain ⟨e1, e2⟩ := take_pre hy
    have := hs p (ys.take i) y (ys.drop (i + 1)) σ' H' e1 q
    rw [e2]
    exact this) (fun p σ' H' q => hd p σ' H' (by rw [List.length_map, List.take_length] at q; exact q))
end
end Pk
namespace Pk
/-! ### how many wish a place below i; full wishes -/
def lt (ws : List Nat) (i : Nat) : Nat := ws.countP fun w => decide (w < i)
def ge (ws : List Nat) (i : Nat) : Nat := ws.countP fun w => decide (i ≤ w)
theorem lt_ge (ws : List Nat) (i : Nat) : lt ws i + ge ws i = ws.length := by
  unfold lt ge
  induction ws with
  | nil => rfl
  | cons w r ih =>
    rw [List.countP_cons, List.countP_cons, List.length_cons]
    by_cases h : w < i
    · simp only [h, decide_true, if_true, show ¬ i ≤ w from by omega, decide_false]
      simp only [Bool.false_eq_true, if_false]
      omega
    · simp only [h, decide_false, show i ≤ w from by omega, decide_true, if_true]
      simp only [Bool.false_eq_true, if_false]
      omega
theorem lt_zero (ws : List Nat) : lt ws 0 = 0 := by
  unfold lt
  rw [List.countP_eq_zero]
  intro a _
  simp
theorem lt_succ (ws : List Nat) (i : Nat) : lt ws (i + 1) = lt ws i + ws.count i := by
  unfold lt
  induction ws with
  | nil => rfl
  | cons w r ih =>
    rw [List.countP_cons, List.countP_cons, List.count_cons, ih]
    by_cases h : w < i
    · have h2 : (w == i) = false := by simp; omega
      simp [h, h2, show w < i + 1 from by omega]
      omega
    · by_cases h3 : w = i
      · subst h3
        simp
        omega
      · have h2 : (w == i) = false := by simp; omega
        simp [h, h2, show ¬ w < i + 1 from by omega]
theorem lt_all {ws : List Nat} {p : Nat} (h : ∀ x ∈ ws, x < p) : lt ws p = ws.length := by
  unfold lt
  rw [List.countP_eq_length]
  intro a ha
  simpa using h a ha
theorem lt_le (ws : List Nat) (i : Nat) : lt ws i ≤ ws.length := List.countP_le_length
theorem lt_mono (ws : List Nat) {i j : Nat} (h : i ≤ j) : lt ws i ≤ lt ws j := by
  unfold lt
  refine List.countP_mono_left fun x _ hx => ?_
  simp only [decide_eq_true_eq] at *
  omega
theorem ge_top {ws : List Nat} {p : Nat} (h : ∀ x ∈ ws, x < p) : ge ws p = 0 := by
  have := lt_ge ws p
  rw [lt_all h] at this
  omega
theorem ge_succ (ws : List Nat) (i : Nat) : ge ws i = ge ws (i + 1) + ws.count i := by
  have h1 := lt_ge ws i
  have h2 := lt_ge ws (i + 1)
  have h3 := lt_succ ws i
  omega
/-- full wishes: places of as many, none driving off -/
structure Full (ws : List Nat) : Prop where
  lo : ∀ x ∈ ws, x < ws.length
  up : ∀ i, i ≤ ws.length → i ≤ lt ws i
theorem Full.no {ws : List Nat} (h : Full ws) : ∀ i, i < ws.length → ge ws i ≤ ws.length - i := fun i hi => by
  have h1 := lt_ge ws i
  have h2 := h.up i (by omega)
  omega
theorem Full.of {ws : List Nat} (lo : ∀ x ∈ ws, x < ws.length) (h : ∀ i, i < ws.length → ge ws i ≤ ws.length - i) : Full ws := by
  refine ⟨lo, fun i hi => ?_⟩
  by_cases e : i = ws.length
  · subst e
    rw [lt_all lo]
    exact Nat.le_refl _
  · have h1 := lt_ge ws i
    have h2 := h i (by omega)
    omega
/-! ### a crowd: the least place such that more wish it or beyond than there are places; -1 -/
def crow (p : Nat) (ws : List Nat) : Nat → Int
  | 0 => -1
  | d + 1 => if p - (p - (d + 1)) < ge ws (p - (d + 1)) then ((p - (d + 1) : Nat) : Int) else crow p ws d
def crowd (p : Nat) (ws : List Nat) : Int := crow p ws p
theorem crow_no {p : Nat} {ws : List Nat} : ∀ d, d ≤ p → (∀ i, p - d ≤ i → i < p → ge ws i ≤ p - i) → crow p ws d = -1
  | 0, _, _ => rfl
  | d + 1, hd, h => by
    unfold crow
    rw [if_neg (by have := h (p - (d + 1)) (by omega) (by omega); omega)]
    exact crow_no d (by omega) fun i h1 h2 => h i (by omega) h2
theorem crow_yes {p : Nat} {ws : List Nat} : ∀ d, d ≤ p → (∃ i, p - d ≤ i ∧ i < p ∧ p - i < ge ws i) → ∃ i : Nat, crow p ws d = (i : Int) ∧ i < p ∧ p - i < ge ws i
  | 0, _, h => by
    obtain ⟨i, h1, h2, _⟩ := h
    omega
  | d + 1, hd, h => by
    unfold crow
    by_cases hc : p - (p - (d + 1)) < ge ws (p - (d + 1))
    · rw [if_pos hc]
      exact ⟨p - (d + 1), rfl, by omega, hc⟩
    · rw [if_neg hc]
      refine crow_yes d (by omega) ?_
      obtain ⟨i, h1, h2, h3⟩ := h
      by_cases e : i = p - (d + 1)
      · subst e
        exact absurd h3 hc
      · exact ⟨i, by omega, h2, h3⟩
theorem crowd_no {p : Nat} {ws : List Nat} (h : ∀ i, i < p → ge ws i ≤ p - i) : crowd p ws = -1 := crow_no p (Nat.le_refl _) fun i _ h2 => h i h2
theorem crowd_yes {p : Nat} {ws : List Nat} (h : ¬ ∀ i, i < p → ge ws i ≤ p - i) : ∃ i : Nat, crowd p ws = (i : Int) ∧ i < p ∧ p - i < ge ws i := by
  refine crow_yes p (Nat.le_refl _) ?_
  refine Classical.byContradiction fun k => h fun i hi => ?_
  refine Classical.byContradiction fun q => k ⟨i, by omega, hi, by omega⟩
theorem crowd_neg {p : Nat} {ws : List Nat} : crowd p ws < 0 ↔ ∀ i, i < p → ge ws i ≤ p - i := by
  constructor
  · intro h
    refine Classical.byContradiction fun k => ?_
    obtain ⟨i, e, _⟩ := crowd_yes k
    omega
  · intro h
    rw [crowd_no h]
    omega
/-! ### the law's own full wishes -/
/-- the walk of ups and downs: the height, the least one, the first place where it is so low -/
def fwalk (ws : List Nat) : Nat → Int × Int × Nat
  | 0 => (0, 0, 0)
  | k + 1 => if (fwalk ws k).1 + (ws.count k : Int) - 1 < (fwalk ws k).2.1 then ((fwalk ws k).1 + (ws.count k : Int) - 1, (fwalk ws k).1 + (ws.count k : Int) - 1, k)
    else ((fwalk ws k).1 + (ws.count k : Int) - 1, (fwalk ws k).2.1, (fwalk ws k).2.2)
def hgt (ws : List Nat) (j : Nat) : Int := (lt ws j : Int) - (j : Int)
theorem hgt_succ (ws : List Nat) (j : Nat) : hgt ws (j + 1) = hgt ws j + (ws.count j : Int) - 1 := by
  unfold hgt
  rw [lt_succ]
  omega
structure FW (ws : List Nat) (k : Nat) (h l : Int) (e : Nat) : Prop where
  hh : h = hgt ws k
  ll : (l = 0 ∧ e = 0) ∨ (l < 0 ∧ e < k ∧ l = hgt ws (e + 1) ∧ ∀ j, j ≤ e → l < hgt ws j)
  lo : ∀ j, j ≤ k → l ≤ hgt ws j
theorem fwalk_fw (ws : List Nat) : ∀ k, FW ws k (fwalk ws k).1 (fwalk ws k).2.1 (fwalk ws k).2.2
  | 0 => by
    have e0 : hgt ws 0 = 0 := by
      unfold hgt
      rw [lt_zero]
      rfl
    refine ⟨e0.symm, .inl ⟨rfl, rfl⟩, fun j hj => ?_⟩
    have : j = 0 := by omega
    subst this
    show (0 : Int) ≤ _
    omega
  | k + 1 => by
    obtain ⟨hh, ll, lo⟩ := fwalk_fw ws k
    have es := hgt_succ ws k
    rw [← hh] at es
    unfold fwalk
    by_cases c : (fwalk ws k).1 + (ws.count k : Int) - 1 < (fwalk ws k).2.1
    · rw [if_pos c]
      refine ⟨es.symm, .inr ⟨?_, Nat.lt_succ_self k, es.symm, fun j hj => ?_⟩, fun j hj => ?_⟩
      · show (fwalk ws k).1 + (ws.count k : Int) - 1 < 0
        rcases ll with ⟨q, _⟩ | ⟨q, _⟩ <;> omega
      · have := lo j hj
        show (fwalk ws k).1 + (ws.count k : Int) - 1 < _
        omega
      · show (fwalk ws k).1 + (ws.count k : Int) - 1 ≤ _
        by_cases e : j = k + 1
        · subst e
          omega
        · have := lo j (by omega)
          omega
    · rw [if_neg c]
      refine ⟨es.symm, ?_, fun j hj => ?_⟩
      · rcases ll with q | ⟨q1, q2, q3, q4⟩
        · exact .inl q
        · exact .inr ⟨q1, Nat.lt_succ_of_lt q2, q3, q4⟩
      · show (fwalk ws k).2.1 ≤ _
        by_cases e : j = k + 1
        · subst e
          omega
        · exact lo j (by omega)
/-- turned by so much that the empty place is the last one -/
def turnN (m by_ : Nat) (ws : List Nat) : List Nat := ws.map fun w => (w + by_) % m
def emptyOf (ws : List Nat) : Nat := (fwalk ws (ws.length + 1)).2.2
def fullN (ws : List Nat) : List Nat := ws.map fun w => (w + ws.length - emptyOf ws) % (ws.length + 1)
theorem fullN_length (ws : List Nat) : (fullN ws).length = ws.length := by
  unfold fullN
  rw [List.length_map]
structure EmptyIs (ws : List Nat) (e : Nat) : Prop where
  lt : e ≤ ws.length
  neg : hgt ws (e + 1) < 0
  up : ∀ j, j ≤ e → hgt ws (e + 1) < hgt ws j
  lo : ∀ j, j ≤ ws.length + 1 → hgt ws (e + 1) ≤ hgt ws j
theorem emptyOf_is {ws : List Nat} (hw : ∀ x ∈ ws, x < ws.length + 1) : EmptyIs ws (emptyOf ws) := by
  obtain ⟨hh, ll, lo⟩ := fwalk_fw ws (ws.length + 1)
  have e1 : hgt ws (ws.length + 1) = -1 := by
    unfold hgt
    rw [lt_all hw]
    omega
  have h2 := lo (ws.length + 1) (Nat.le_refl _)
  rcases ll with ⟨q, _⟩ | ⟨q1, q2, q3, q4⟩
  · omega
  · unfold emptyOf
    exact ⟨by omega, by omega, fun j hj => by have := q4 j hj; omega, fun j hj => by have := lo j hj; omega⟩
theorem countP4 {α : Type} {f g f' g' : α → Bool} : ∀ {l : List α}, (∀ x ∈ l, (f x).toNat + (g x).toNat = (f' x).toNat + (g' x).toNat) → l.countP f + l.countP g = l.countP f' + l.countP g'
  | [], _ => rfl
  | x :: r, h => by
    have ih := countP4 (l := r) fun y hy => h y (List.mem_cons_of_mem _ hy)
    have hx := h x List.mem_cons_self
    simp only [List.countP_cons]
    cases h1 : f x <;> cases h2 : g x <;> cases h3 : f' x <;> cases h4 : g' x <;> simp [h1, h2, h3, h4] at hx ⊢ <;> omega
theorem turn_val {w n e : Nat} (hw : w < n + 1) (he : e ≤ n) : (w + n - e) % (n + 1) = if w ≤ e then w + n - e else w - e - 1 := by
  by_cases h : w ≤ e
  · rw [if_pos h, Nat.mod_eq_of_lt (by omega)]
  · rw [if_neg h]
    have : w + n - e = (w - e - 1) + (n + 1) := by omega
    rw [this, Nat.add_mod_right, Nat.mod_eq_of_lt (by omega)]
/-- the counts of the turned ones -/
theorem lt_turn {ws : List Nat} {e : Nat} (hw : ∀ x ∈ ws, x < ws.length + 1) (he : e ≤ ws.length) (i : Nat) (hi : i ≤ ws.length) :
    lt (ws.map fun w => (w + ws.length - e) % (ws.length + 1)) i + lt ws (e + 1) = lt ws (e + 1 + i) + lt ws (i + e - ws.length) := by
  unfold lt
  rw [List.countP_map]
  refine countP4 fun x hx => ?_
  have h1 := hw x hx
  show (decide ((x + ws.length - e) % (ws.length + 1) < i)).toNat + (decide (x < e + 1)).toNat = (decide (x < e + 1 + i)).toNat + (decide (x < i + e - ws.length)).toNat
  have hv := turn_val (w := x) h1 he
  generalize (x + ws.length - e) % (ws.length + 1) = v at hv ⊢
  by_cases h : x ≤ e
  · rw [if_pos h] at hv
    subst hv
    simp only [show x < e + 1 from by omega, show x < e + 1 + i from by omega, decide_true]
    by_cases h2 : x + ws.length - e < i
    · simp [h2, show x < i + e - ws.length from by omega]
    · simp [h2, show ¬ x < i + e - ws.length from by omega]
  · rw [if_neg h] at hv
    subst hv
    simp only [show ¬ x < e + 1 from by omega, show ¬ x < i + e - ws.length from by omega, decide_false]
    by_cases h2 : x - e - 1 < i
    · simp [h2, show x < e + 1 + i from by omega]
    · simp [h2, show ¬ x < e + 1 + i from by omega]
theorem full_of_empty {ws : List Nat} {e : Nat} (hw : ∀ x ∈ ws, x < ws.length + 1) (E : EmptyIs ws e) : Full (ws.map fun w => (w + ws.length - e) % (ws.length + 1)) := by
  have key : ∀ i, i ≤ ws.length → i ≤ lt (ws.map fun w => (w + ws.length - e) % (ws.length + 1)) i := fun i hi => by
    have h := lt_turn hw E.lt i hi
    have h1 := E.lt
    by_cases c : e + 1 + i ≤ ws.length + 1
    · have h2 := E.lo (e + 1 + i) c
      unfold hgt at h2
      omega
    · have h2 := E.up (i + e - ws.length) (by omega)
      have h3 : lt ws (e + 1 + i) = ws.length := lt_all fun x hx => by have := hw x hx; omega
      unfold hgt at h2
      omega
  have hlen : (ws.map fun w => (w + ws.length - e) % (ws.length + 1)).length = ws.length := List.length_map ..
  have hn := key ws.length (Nat.le_refl _)
  have hl : ∀ x ∈ (ws.map fun w => (w + ws.length - e) % (ws.length + 1)), x < ws.length := by
    have h2 : lt (ws.map fun w => (w + ws.length - e) % (ws.length + 1)) ws.length = (ws.map fun w => (w + ws.length - e) % (ws.length + 1)).length := by
      have := lt_le (ws.map fun w => (w + ws.length - e) % (ws.length + 1)) ws.length
      omega
    unfold lt at h2
    rw [List.countP_eq_length] at h2
    intro x hx
    simpa using h2 x hx
  exact ⟨fun x hx => by rw [hlen]; exact hl x hx, fun i hi => key i (by rw [hlen] at hi; exact hi)⟩
theorem fullN_full {ws : List Nat} (hw : ∀ x ∈ ws, x < ws.length + 1) : Full (fullN ws) := full_of_empty hw (emptyOf_is hw)
/-- the script's cells on a ring -/
def cells (ns : List Int) (m : Nat) : List Nat := ns.map fun c => (c % (m : Int)).toNat
theorem cells_length (ns : List Int) (m : Nat) : (cells ns m).length = ns.length := by
  unfold cells
  rw [List.length_map]
theorem cells_lt {ns : List Int} {m : Nat} (hm : 0 < m) : ∀ x ∈ cells ns m, x < m := fun x hx => by
  unfold cells at hx
  obtain ⟨c, _, rfl⟩ := List.mem_map.mp hx
  have h1 := Int.emod_lt_of_pos c (show (0 : Int) < m from by omega)
  have h2 := Int.emod_nonneg c (show (m : Int) ≠ 0 from by omega)
  omega
def lawFull (ns : List Int) : List Nat := fullN (cells ns (ns.length + 1))
theorem lawFull_length (ns : List Int) : (lawFull ns).length = ns.length := by
  unfold lawFull
  rw [fullN_length, cells_length]
theorem lawFull_full (ns : List Int) : Full (lawFull ns) := by
  refine fullN_full fun x hx => ?_
  rw [cells_length]
  exact cells_lt (Nat.succ_pos _) x hx
end Pk
namespace Pk
/-! ### paths as lists of codes: u is 117, d is 100 -/
def step1 (c : Nat) : List Nat := List.replicate c 117 ++ [100]
def pathL (cs : List Nat) : List Nat := (cs.map step1).flatten
theorem pathL_cons (c : Nat) (r : List Nat) : pathL (c :: r) = List.replicate c 117 ++ 100 :: pathL r := by
  unfold pathL step1
  rw [List.map_cons, List.flatten_cons, List.append_assoc]
  rfl
/-- the heights behind each down, or none where it is no path -/
def hgo : List Nat → Nat → Option (List Nat)
  | [], h => if h = 0 then some [] else none
  | c :: r, h => if c = 117 then hgo r (h + 1) else if c = 100 ∧ 0 < h then (hgo r (h - 1)).map ((h - 1) :: ·) else none
def ris : List Nat → Nat → List Nat
  | [], _ => []
  | c :: r, p => if c = 117 then p :: ris r p else ris r (p + 1)
theorem hgo_up (c : Nat) (r : List Nat) (h : Nat) : hgo (List.replicate c 117 ++ r) h = hgo r (h + c) := by
  induction c generalizing h with
  | zero => rfl
  | succ c ih =>
    rw [List.replicate_succ, List.cons_append]
    show (if (117 : Nat) = 117 then hgo (List.replicate c 117 ++ r) (h + 1) else _) = _
    rw [if_pos rfl, ih]
    congr 1
    omega
theorem ris_up (c : Nat) (r : List Nat) (p : Nat) : ris (List.replicate c 117 ++ r) p = List.replicate c p ++ ris r p := by
  induction c with
  | zero => rfl
  | succ c ih =>
    rw [List.replicate_succ, List.cons_append]
    show (if (117 : Nat) = 117 then p :: ris (List.replicate c 117 ++ r) p else _) = _
    rw [if_pos rfl, ih]
    rfl
def hl : List Nat → Nat → List Nat
  | [], _ => []
  | c :: r, h => (h + c - 1) :: hl r (h + c - 1)
def POk : List Nat → Nat → Prop
  | [], h => h = 0
  | c :: r, h => 0 < h + c ∧ POk r (h + c - 1)
theorem hgo_path : ∀ (cs : List Nat) (h : Nat), POk cs h → hgo (pathL cs) h = some (hl cs h)
  | [], h, e => by
    have e : h = 0 := e
    subst e
    rfl
  | c :: r, h, e => by
    obtain ⟨e1, e2⟩ := e
    rw [pathL_cons, hgo_up]
    show (if (100 : Nat) = 117 then _ else if (100 : Nat) = 100 ∧ 0 < h + c then (hgo (pathL r) (h + c - 1)).map ((h + c - 1) :: ·) else none) = _
    rw [if_neg (by decide), if_pos ⟨rfl, e1⟩, hgo_path r _ e2]
    rfl
theorem ris_path : ∀ (cs : List Nat) (p : Nat), ris (pathL cs) p = (cs.zipIdx p).flatMap fun q => List.replicate q.1 q.2
  | [], p => rfl
  | c :: r, p => by
    rw [pathL_cons, ris_up, List.zipIdx_cons, List.flatMap_cons]
    show List.replicate c p ++ (if (100 : Nat) = 117 then _ else ris (pathL r) (p + 1)) = _
    rw [if_neg (by decide), ris_path r (p + 1)]
/-! ### of full wishes -/
def cnts (p : Nat) (ws : List Nat) : List Nat := (List.range p).map fun i => ws.count i
theorem cnts_nil (p : Nat) : cnts p [] = (List.range p).map fun _ => 0 := by
  unfold cnts
  simp
theorem cnts_len (p : Nat) (ws : List Nat) : (cnts p ws).length = p := by
  unfold cnts
  rw [List.length_map, List.length_range]
theorem cnts_get {p : Nat} {ws : List Nat} {i : Nat} (hi : i < p) : (cnts p ws)[i]? = some (ws.count i) := by
  unfold cnts
  rw [List.getElem?_map, List.getElem?_range hi]
  rfl
theorem cnts_add {p : Nat} {ws : List Nat} {x : Nat} (hx : x < p) : (cnts p ws).set x (ws.count x + 1) = cnts p (ws ++ [x]) := by
  refine List.ext_getElem? fun i => ?_
  by_cases hi : i < p
  · rw [cnts_get hi]
    by_cases e : x = i
    · subst e
      rw [List.getElem?_set_self (by rw [cnts_len]; exact hx), List.count_append, List.count_singleton]
      simp
    · rw [List.getElem?_set_ne e, cnts_get hi, List.count_append, List.count_singleton]
      simp [e]
  · rw [List.getElem?_eq_none (by rw [List.length_set, cnts_len]; omega), List.getElem?_eq_none (by rw [cnts_len]; omega)]
theorem cnts_perm {p : Nat} {ws vs : List Nat} (h : ws.Perm vs) : cnts p ws = cnts p vs := by
  unfold cnts
  refine List.map_congr_left fun i _ => ?_
  exact h.count_eq i
theorem lt_perm {ws vs : List Nat} (h : ws.Perm vs) (i : Nat) : lt ws i = lt vs i := h.countP_eq _
theorem Full.perm {ws vs : List Nat} (h : ws.Perm vs) (F : Full ws) : Full vs := by
  refine ⟨fun x hx => ?_, fun i hi => ?_⟩
  · rw [← h.length_eq]
    exact F.lo x (h.mem_iff.mpr hx)
  · rw [← lt_perm h]
    exact F.up i (by rw [h.length_eq]; exact hi)
theorem pok_full {ws : List Nat} (F : Full ws) : ∀ k i, i + k = ws.length → POk ((List.range' i k).map fun j => ws.count j) (lt ws i - i)
  | 0, i, h => by
    have e : i = ws.length := by omega
    have h2 : lt ws i = ws.length := by rw [e]; exact lt_all F.lo
    show lt ws i - i = 0
    omega
  | k + 1, i, h => by
    have h1 := F.up i (by omega)
    have h2 := F.up (i + 1) (by omega)
    have h3 := lt_succ ws i
    rw [List.range'_succ, List.map_cons]
    refine ⟨by omega, ?_⟩
    have ih := pok_full F k (i + 1) (by omega)
    have e : lt ws i - i + ws.count i - 1 = lt ws (i + 1) - (i + 1) := by omega
    rw [e]
    exact ih
theorem hl_full {ws : List Nat} (F : Full ws) : ∀ k i, i + k = ws.length → hl ((List.range' i k).map fun j => ws.count j) (lt ws i - i) = (List.range' i k).map fun j => lt ws (j + 1) - (j + 1)
  | 0, i, h => rfl
  | k + 1, i, h => by
    have h1 := F.up i (by omega)
    have h3 := lt_succ ws i
    rw [List.range'_succ, List.map_cons, List.map_cons]
    have ih := hl_full F k (i + 1) (by omega)
    have e : lt ws i - i + ws.count i - 1 = lt ws (i + 1) - (i + 1) := by omega
    show (lt ws i - i + ws.count i - 1) :: hl _ (lt ws i - i + ws.count i - 1) = _
    rw [e, ih]
def hts (ws : List Nat) : List Nat := (List.range ws.length).map fun j => lt ws (j + 1) - (j + 1)
theorem hgo_full {ws : List Nat} (F : Full ws) : hgo (pathL (cnts ws.length ws)) 0 = some (hts ws) := by
  have h1 := pok_full F ws.length 0 (by omega)
  have h2 := hl_full F ws.length 0 (by omega)
  rw [← List.range_eq_range'] at h1 h2
  rw [show lt ws 0 - 0 = 0 from by rw [lt_zero]] at h1 h2
  have h3 := hgo_path _ 0 h1
  rw [h2] at h3
  exact h3
/-! ### the rising wishes of a path -/
def rr (ws : List Nat) (i k : Nat) : List Nat := (List.range' i k).flatMap fun j => List.replicate (ws.count j) j
theorem zip_rr (ws : List Nat) : ∀ k i, (((List.range' i k).map fun j => ws.count j).zipIdx i).flatMap (fun q => List.replicate q.1 q.2) = rr ws i k
  | 0, i => rfl
  | k + 1, i => by
    unfold rr
    rw [List.range'_succ, List.map_cons, List.zipIdx_cons, List.flatMap_cons, List.flatMap_cons]
    congr 1
    exact zip_rr ws k (i + 1)
theorem rr_ge (ws : List Nat) : ∀ k i, ∀ x ∈ rr ws i k, i ≤ x ∧ x < i + k := fun k i x hx => by
  unfold rr at hx
  obtain ⟨j, hj, h2⟩ := List.mem_flatMap.mp hx
  obtain ⟨_, rfl⟩ := List.mem_replicate.mp h2
  have := List.mem_range'_1.mp hj
  omega
theorem rr_rise (ws : List Nat) : ∀ k i, (rr ws i k).Pairwise (· ≤ ·)
  | 0, i => List.Pairwise.nil
  | k + 1, i => by
    unfold rr
    rw [List.range'_succ, List.flatMap_cons]
    refine List.pairwise_append.mpr ⟨?_, rr_rise ws k (i + 1), fun a ha b hb => ?_⟩
    · refine List.pairwise_replicate.mpr ?_
      exact Or.inr (Nat.le_refl _)
    · obtain ⟨_, rfl⟩ := List.mem_replicate.mp ha
      have := rr_ge ws k (a + 1) b hb
      omega
theorem rr_count (ws : List Nat) (x : Nat) : ∀ k i, (rr ws i k).count x = if i ≤ x ∧ x < i + k then ws.count x else 0
  | 0, i => by
    rw [if_neg (by omega)]
    rfl
  | k + 1, i => by
    have ih := rr_count ws x k (i + 1)
    unfold rr at ih ⊢
    rw [List.range'_succ, List.flatMap_cons, List.count_append, ih, List.count_replicate]
    by_cases e : i = x
    · subst e
      have h1 : ¬ (i + 1 ≤ i ∧ i < i + 1 + k) := by omega
      have h2 : i ≤ i ∧ i < i + (k + 1) := by omega
      rw [if_neg h1, if_pos h2]
      simp
    · have h0 : ¬ ((i == x) = true) := by simpa using e
      rw [if_neg h0]
      by_cases h : i + 1 ≤ x ∧ x < i + 1 + k
      · have h2 : i ≤ x ∧ x < i + (k + 1) := by omega
        rw [if_pos h, if_pos h2, Nat.zero_add]
      · have h2 : ¬ (i ≤ x ∧ x < i + (k + 1)) := by omega
        rw [if_neg h, if_neg h2]
theorem rr_perm {ws : List Nat} {p : Nat} (h : ∀ x ∈ ws, x < p) : (rr ws 0 p).Perm ws := by
  refine List.perm_iff_count.mpr fun x => ?_
  rw [rr_count]
  by_cases c : 0 ≤ x ∧ x < 0 + p
  · rw [if_pos c]
  · rw [if_neg c]
    symm
    refine List.count_eq_zero.mpr fun hx => c ?_
    have := h x hx
    omega
def rise (ws : List Nat) : List Nat := rr ws 0 ws.length
theorem ris_full (ws : List Nat) : ris (pathL (cnts ws.length ws)) 0 = rise ws := by
  rw [ris_path]
  unfold cnts
  rw [List.range_eq_range', zip_rr]
  rfl
/-! ### what lies beneath: the drives -/
theorem sum_lt (ws : List Nat) : ∀ n, ((List.range n).map fun j => lt ws (j + 1)).sum = (ws.map fun w => n - w).sum := by
  intro n
  induction n with
  | zero =>
    simp only [List.range_zero, List.map_nil, List.sum_nil]
    induction ws with
    | nil => rfl
    | cons w r ih =>
      rw [List.map_cons, List.sum_cons, ← ih]
      omega
  | succ n ih =>
    rw [List.range_succ, List.map_append, List.sum_append, ih, List.map_singleton]
    show _ + (lt ws (n + 1) + 0) = _
    unfold lt
    clear ih
    induction ws with
    | nil => rfl
    | cons w r ih2 =>
      rw [List.map_cons, List.sum_cons, List.map_cons, List.sum_cons, List.countP_cons, ← ih2]
      by_cases h : w < n + 1
      · simp only [h, decide_true, if_true]
        omega
      · simp only [h, decide_false, Bool.false_eq_true, if_false]
        omega
theorem sum_sub {n : Nat} : ∀ {ws : List Nat}, (∀ x ∈ ws, x < n) → (ws.map fun w => n - w).sum + ws.sum = n * ws.length
  | [], _ => rfl
  | w :: r, h => by
    have ih := sum_sub (ws := r) fun x hx => h x (List.mem_cons_of_mem _ hx)
    have hw := h w List.mem_cons_self
    rw [List.map_cons, List.sum_cons, List.sum_cons, List.length_cons, Nat.mul_succ]
    omega
theorem sum_range (n : Nat) : 2 * ((List.range n).map fun j => j + 1).sum = n * (n + 1) := by
  induction n with
  | zero => rfl
  | succ n ih =>
    rw [List.range_succ, List.map_append, List.sum_append, List.map_singleton, Nat.mul_add, ih]
    show n * (n + 1) + 2 * (n + 1 + 0) = (n + 1) * (n + 1 + 1)
    have e : (n + 1) * (n + 1 + 1) = n * (n + 1) + 2 * (n + 1) := by rw [← Nat.add_mul, Nat.mul_comm]
    omega
theorem sum_diff {f g : Nat → Nat} : ∀ n, (∀ j, j < n → g j ≤ f j) → ((List.range n).map fun j => f j - g j).sum + ((List.range n).map g).sum = ((List.range n).map f).sum := by
  intro n
  induction n with
  | zero => intro _; rfl
  | succ n ih =>
    intro h
    have h1 := ih fun j hj => h j (by omega)
    have h2 := h n (Nat.lt_succ_self n)
    rw [List.range_succ, List.map_append, List.map_append, List.map_append, List.sum_append, List.sum_append, List.sum_append]
    simp only [List.map_singleton, List.sum_singleton]
    omega
/-- how far all drive -/
def drv (ws : List Nat) : Int := ((ws.length : Int) * ((ws.length : Int) - 1)) / 2 - ((ws.sum : Nat) : Int)
theorem drv_hts {ws : List Nat} (F : Full ws) : drv ws = (((hts ws).sum : Nat) : Int) := by
  have h1 := sum_lt ws ws.length
  have h2 := sum_sub F.lo
  have h3 := sum_range ws.length
  have h4 := sum_diff (f := fun j => lt ws (j + 1)) (g := fun j => j + 1) ws.length fun j hj => F.up (j + 1) (by omega)
  have h5 : (hts ws).sum + ((List.range ws.length).map fun j => j + 1).sum + ws.sum = ws.length * ws.length := by
    unfold hts
    omega
  unfold drv
  have e : ((ws.length : Int) * ((ws.length : Int) - 1)) = 2 * ((((hts ws).sum + ws.sum : Nat)) : Int) := by
    have h6 : ws.length * (ws.length + 1) + 2 * ((hts ws).sum + ws.sum) = 2 * (ws.length * ws.length) := by omega
    have h7 : ((ws.length * (ws.length + 1) + 2 * ((hts ws).sum + ws.sum) : Nat) : Int) = ((2 * (ws.length * ws.length) : Nat) : Int) := by rw [h6]
    push_cast at h7 ⊢
    rw [Int.mul_sub]
    rw [Int.mul_add] at h7
    omega
  rw [e, Int.mul_ediv_cancel_left _ (by decide)]
  push_cast
  omega
end Pk
namespace Pk
/-! ### back from a path -/
theorem hgo_ks : ∀ (cs : List Nat) (h : Nat) (hs : List Nat), hgo cs h = some hs → ∃ ks, cs = pathL ks ∧ POk ks h
  | [], h, hs, e => by
    unfold hgo at e
    split at e
    · rename_i h0
      exact ⟨[], rfl, h0⟩
    · cases e
  | c :: r, h, hs, e => by
    unfold hgo at e
    split at e
    · rename_i hc
      obtain ⟨ks, e1, e2⟩ := hgo_ks r (h + 1) hs e
      cases ks with
      | nil => exact absurd (show h + 1 = 0 from e2) (by omega)
      | cons k ks =>
        obtain ⟨e3, e4⟩ := e2
        refine ⟨(k + 1) :: ks, ?_, by omega, ?_⟩
        · rw [hc, e1, pathL_cons, pathL_cons, List.replicate_succ]
          rfl
        · have : h + (k + 1) - 1 = h + 1 + k - 1 := by omega
          rw [this]
          exact e4
    · split at e
      · rename_i hc
        cases e2 : hgo r (h - 1) with
        | none => rw [e2] at e; cases e
        | some gs =>
          obtain ⟨ks, e3, e4⟩ := hgo_ks r (h - 1) gs e2
          refine ⟨0 :: ks, ?_, by omega, ?_⟩
          · rw [hc.1, e3, pathL_cons]
            rfl
          · exact e4
      · cases e
theorem pok_sum : ∀ (ks : List Nat) (h : Nat), POk ks h → ks.sum + h = ks.length
  | [], h, e => by
    have e : h = 0 := e
    subst e
    rfl
  | c :: r, h, e => by
    obtain ⟨e1, e2⟩ := e
    have := pok_sum r _ e2
    rw [List.sum_cons, List.length_cons]
    omega
theorem pok_take : ∀ (ks : List Nat) (h i : Nat), POk ks h → i ≤ ks.length → i ≤ h + (ks.take i).sum
  | [], h, i, e, hi => by
    have : i = 0 := Nat.le_zero.mp hi
    omega
  | c :: r, h, 0, e, hi => Nat.zero_le _
  | c :: r, h, i + 1, e, hi => by
    obtain ⟨e1, e2⟩ := e
    have := pok_take r _ i e2 (by rw [List.length_cons] at hi; omega)
    rw [List.take_succ_cons, List.sum_cons]
    omega
def unk (ks : List Nat) (p : Nat) : List Nat := (ks.zipIdx p).flatMap fun q => List.replicate q.1 q.2
theorem unk_cons (c : Nat) (r : List Nat) (p : Nat) : unk (c :: r) p = List.replicate c p ++ unk r (p + 1) := by
  unfold unk
  rw [List.zipIdx_cons, List.flatMap_cons]
theorem unk_count (x : Nat) : ∀ (ks : List Nat) (p : Nat), (unk ks p).count x = if p ≤ x ∧ x < p + ks.length then ks.getD (x - p) 0 else 0
  | [], p => by
    rw [if_neg (by rw [List.length_nil]; omega)]
    rfl
  | c :: r, p => by
    have ih := unk_count x r (p + 1)
    rw [unk_cons, List.count_append, ih, List.count_replicate, List.length_cons]
    by_cases e : p = x
    · subst e
      have h1 : ¬ (p + 1 ≤ p ∧ p < p + 1 + r.length) := by omega
      have h2 : p ≤ p ∧ p < p + (r.length + 1) := by omega
      rw [if_neg h1, if_pos h2, Nat.sub_self]
      simp
    · have h0 : ¬ ((p == x) = true) := by simpa using e
      rw [if_neg h0]
      by_cases h : p + 1 ≤ x ∧ x < p + 1 + r.length
      · have h2 : p ≤ x ∧ x < p + (r.length + 1) := by omega
        rw [if_pos h, if_pos h2, Nat.zero_add]
        obtain ⟨k, rfl⟩ : ∃ k, x = p + 1 + k := ⟨x - (p + 1), by omega⟩
        have e1 : p + 1 + k - (p + 1) = k := by omega
        have e2 : p + 1 + k - p = k + 1 := by omega
        rw [e1, e2]
        rfl
      · have h2 : ¬ (p ≤ x ∧ x < p + (r.length + 1)) := by omega
        rw [if_neg h, if_neg h2]
theorem unk_len : ∀ (ks : List Nat) (p : Nat), (unk ks p).length = ks.sum
  | [], p => rfl
  | c :: r, p => by rw [unk_cons, List.length_append, List.length_replicate, unk_len r, List.sum_cons]
theorem unk_lo : ∀ (ks : List Nat) (p x : Nat), x ∈ unk ks p → x < p + ks.length := fun ks p x hx => by
  have h := unk_count x ks p
  have h1 := List.count_pos_iff.mpr hx
  by_cases c : p ≤ x ∧ x < p + ks.length
  · exact c.2
  · rw [if_neg c] at h
    omega
theorem unk_lt (ks : List Nat) : ∀ i, i ≤ ks.length → lt (unk ks 0) i = (ks.take i).sum
  | 0, _ => by rw [lt_zero]; rfl
  | i + 1, hi => by
    have h1 : i < ks.length := hi
    rw [lt_succ, unk_lt ks i (by omega), unk_count, if_pos (by omega), List.take_add_one, List.getElem?_eq_getElem h1, List.sum_append]
    simp [List.getD_eq_getElem?_getD, h1]
theorem unk_cnts (ks : List Nat) : cnts ks.length (unk ks 0) = ks := by
  refine List.ext_getElem? fun i => ?_
  by_cases hi : i < ks.length
  · rw [cnts_get hi, unk_count, if_pos (by omega), List.getElem?_eq_getElem hi]
    simp [List.getD_eq_getElem?_getD, hi]
  · rw [List.getElem?_eq_none (by rw [cnts_len]; omega), List.getElem?_eq_none (by omega)]
theorem ris_back (cs hs : List Nat) (e : hgo cs 0 = some hs) : Full (ris cs 0) ∧ pathL (cnts (ris cs 0).length (ris cs 0)) = cs := by
  obtain ⟨ks, rfl, hk⟩ := hgo_ks cs 0 hs e
  have e1 : ris (pathL ks) 0 = unk ks 0 := ris_path ks 0
  have hs := pok_sum ks 0 hk
  have hl : (unk ks 0).length = ks.length := by rw [unk_len]; omega
  rw [e1]
  refine ⟨⟨fun x hx => ?_, fun i hi => ?_⟩, ?_⟩
  · have := unk_lo ks 0 x hx
    omega
  · rw [hl] at hi
    rw [unk_lt ks i hi]
    have := pok_take ks 0 i hk hi
    omega
  · rw [hl, unk_cnts]
end Pk
namespace Pk
open PySem PySem.Spec PyProof.Rows L2 Evl He
def topS (i : Nat) : Stmt := PySem.Challenge.pw_parkrow_k08_whole_path_back.main.body.getD i (.Pass ⟨0, 0, 0, 0⟩)
abbrev s_is_number : Stmt := topS 10
abbrev N_is_number : List Str := ["thing", "least", "most"]
abbrev P_is_number : List Str := ["thing", "least", "most"]
theorem sc_is_number : FnScope N_is_number P_is_number (defScope s_is_number) := ⟨rfl, rfl, rfl, by decide +kernel, rfl, by decide +kernel, by decide +kernel⟩
abbrev s_asked_wishes : Stmt := topS 11
abbrev N_asked_wishes : List Str := ["places", "wishes", "wish"]
abbrev P_asked_wishes : List Str := ["places", "wishes"]
theorem sc_asked_wishes : FnScope N_asked_wishes P_asked_wishes (defScope s_asked_wishes) := ⟨rfl, rfl, rfl, by decide +kernel, rfl, by decide +kernel, by decide +kernel⟩
abbrev s_crowd_of : Stmt := topS 12
abbrev N_crowd_of : List Str := ["places", "wishes", "counts", "many", "found", "place"]
abbrev P_crowd_of : List Str := ["places", "wishes"]
theorem sc_crowd_of : FnScope N_crowd_of P_crowd_of (defScope s_crowd_of) := ⟨rfl, rfl, rfl, by decide +kernel, rfl, by decide +kernel, by decide +kernel⟩
abbrev s_counted : Stmt := topS 13
abbrev N_counted : List Str := ["places", "wishes", "counts", "wish", "place"]
abbrev P_counted : List Str := ["places", "wishes"]
theorem sc_counted : FnScope N_counted P_counted (defScope s_counted) := ⟨rfl, rfl, rfl, by decide +kernel, rfl, by decide +kernel, by decide +kernel⟩
abbrev s_all_parked : Stmt := topS 14
abbrev N_all_parked : List Str := ["wishes"]
abbrev P_all_parked : List Str := ["wishes"]
theorem sc_all_parked : FnScope N_all_parked P_all_parked (defScope s_all_parked) := ⟨rfl, rfl, rfl, by decide +kernel, rfl, by decide +kernel, by decide +kernel⟩
abbrev s_as_list : Stmt := topS 15
abbrev N_as_list : List Str := ["wishes"]
abbrev P_as_list : List Str := ["wishes"]
theorem sc_as_list : FnScope N_as_list P_as_list (defScope s_as_list) := ⟨rfl, rfl, rfl, by decide +kernel, rfl, by decide +kernel, by decide +kernel⟩
abbrev s_path : Stmt := topS 17
abbrev N_path : List Str := ["wishes", "many"]
abbrev P_path : List Str := ["wishes"]
theorem sc_path : FnScope N_path P_path (defScope s_path) := ⟨rfl, rfl, rfl, by decide +kernel, rfl, by decide +kernel, by decide +kernel⟩
abbrev s_heights : Stmt := topS 18
abbrev N_heights : List Str := ["text", "height", "found", "sign"]
abbrev P_heights : List Str := ["text"]
theorem sc_heights : FnScope N_heights P_heights (defScope s_heights) := ⟨rfl, rfl, rfl, by decide +kernel, rfl, by decide +kernel, by decide +kernel⟩
abbrev s_beneath : Stmt := topS 19
abbrev N_beneath : List Str := ["text"]
abbrev P_beneath : List Str := ["text"]
theorem sc_beneath : FnScope N_beneath P_beneath (defScope s_beneath) := ⟨rfl, rfl, rfl, by decide +kernel, rfl, by decide +kernel, by decide +kernel⟩
abbrev s_rising : Stmt := topS 20
abbrev N_rising : List Str := ["text", "found", "place", "sign"]
abbrev P_rising : List Str := ["text"]
theorem sc_rising : FnScope N_rising P_rising (defScope s_rising) := ⟨rfl, rfl, rfl, by decide +kernel, rfl, by decide +kernel, by decide +kernel⟩
abbrev s_law_drawn : Stmt := topS 22
abbrev N_law_drawn : List Str := ["script", "found", "height", "cell"]
abbrev P_law_drawn : List Str := ["script"]
theorem sc_law_drawn : FnScope N_law_drawn P_law_drawn (defScope s_law_drawn) := ⟨rfl, rfl, rfl, by decide +kernel, rfl, by decide +kernel, by decide +kernel⟩
abbrev s_law_walked : Stmt := topS 23
abbrev N_law_walked : List Str := ["text", "height", "below", "place", "wishes", "sign"]
abbrev P_law_walked : List Str := ["text"]
theorem sc_law_walked : FnScope N_law_walked P_law_walked (defScope s_law_walked) := ⟨rfl, rfl, rfl, by decide +kernel, rfl, by decide +kernel, by decide +kernel⟩
abbrev s_law_asked : Stmt := topS 24
abbrev N_law_asked : List Str := ["ask", "text", "error", "others"]
abbrev P_law_asked : List Str := ["ask", "text"]
theorem sc_law_asked : FnScope N_law_asked P_law_asked (defScope s_law_asked) := ⟨rfl, rfl, rfl, by decide +kernel, rfl, by decide +kernel, by decide +kernel⟩
abbrev s_law_right : Stmt := topS 25
abbrev N_law_right : List Str := ["text", "good", "below", "wishes"]
abbrev P_law_right : List Str := ["text"]
theorem sc_law_right : FnScope N_law_right P_law_right (defScope s_law_right) := ⟨rfl, rfl, rfl, by decide +kernel, rfl, by decide +kernel, by decide +kernel⟩
abbrev s_law : Stmt := topS 26
abbrev N_law : List Str := ["script", "text", "mixed", "at", "sign", "other"]
abbrev P_law : List Str := ["script"]
theorem sc_law : FnScope N_law P_law (defScope s_law) := ⟨rfl, rfl, rfl, by decide +kernel, rfl, by decide +kernel, by decide +kernel⟩
def der_is_number {P : Program} {w : World} {K : PySem.W.Frag} {mg : Str → Option Value} {base : Heap} (B : Bi mg) {f : Addr} {cdv : Value} {A : Around} {outer : List Env} {s : Shared} {H : Hp} {E : XK}
    (hr : Room 0 (A.deeper (envOfC "is_number" (defScope s_is_number) s.heap.objs.size f cdv))) :
    {t : TS // PSs (cxOf CX0 P w K mg base N_is_number "is_number" (defScope s_is_number) f cdv A outer s H E).nox (defBody s_is_number) t} := ⟨_, (pss_one (ps_ret (pe_and (pe_callB (id := "isinstance") (r := rIsi K) call_isi (by rfl) B.isinstance (by decide +kernel) (pa_cons (pv 0) (pa_cons (pe_bltn (v := .ty "int") (by rfl) B.int (by decide +kernel) rfl) pa_nil))) (pe_and (pe_not (pe_callB (id := "isinstance") (r := rIsi K) call_isi (by rfl) B.isinstance (by decide +kernel) (pa_cons (pv 0) (pa_cons (pe_bltn (v := .ty "bool") (by rfl) B.bool (by decide +kernel) rfl) pa_nil)))) (pe_one (pe_chain op_le op_le (pv 1) (pv 0) (pv 2)))))))⟩

def der_asked_wishes {P : Program} {w : World} {K : PySem.W.Frag} {mg : Str → Option Value} {base : Heap} (B : Bi mg) {fd_is_number : FuncData} {sp_is_number : Sp} (C_is_number : Cal P w K mg base CX0 1 "is_number" P_is_number sp_is_number fd_is_number) {tk_PLACES : Tok} (gc_PLACES : mg "PLACES" = some (.int 1000000 tk_PLACES)) {f : Addr} {cdv : Value} {A : Around} {outer : List Env} {s : Shared} {H : Hp} {E : XK}
    (hr : Room 1 (A.deeper (envOfC "asked_wishes" (defScope s_asked_wishes) s.heap.objs.size f cdv))) :
    {t : TS // PSs (cxOf CX0 P w K mg base N_asked_wishes "asked_wishes" (defScope s_asked_wishes) f cdv A outer s H E).nox (defBody s_asked_wishes) t} := ⟨_, (pss_cons (ps_if (pt_not (pt_val (pe_call C_is_number.ok (hr.mono (by decide)) (by rfl) C_is_number.gl C_is_number.kp C_is_number.bd .nil pass0 (pa_cons (pv 0) (pa_cons pe_int (pa_cons (pe_glob (v := .int 1000000) rfl gc_PLACES ⟨_, rfl⟩) pa_nil))))))
 (pss_one ps_never)
 pss_nil)
 (pss_one (ps_if (PW.pt (pw_or (pt_not (pt_val (pe_callB (id := "isinstance") (r := rIsi K) call_isi (by rfl) B.isinstance (by decide +kernel) (pa_cons (pv 1) (pa_cons (pe_bltn (v := .ty "list") (by rfl) B.list (by decide +kernel) rfl) pa_nil))))) (pw_or1 (pt_not (pt_val (pe_callB (id := "all") (r := rAll K) (cr_all rfl) (by rfl) B.all (by decide +kernel) (pa_cons (pe_lc (own := [("wish", 2)]) (g := (gName 2)) (tt := tYes) rfl sc_asked_wishes.nd (pi_list (pv 1)) (blkOk_by (own := [("wish", 2)]) (N := N_asked_wishes) (sc := defScope s_asked_wishes) (by decide +kernel)) (fun _ _ _ _ _ => (pg_name (i := 2) sc_asked_wishes.nd rfl (Or.inl rfl) (Or.inr rfl))) (fun _ _ _ _ _ => pts_nil) (fun _ _ _ _ _ => (pe_call C_is_number.ok (hr.mono (by decide)) (by rfl) C_is_number.gl C_is_number.kp C_is_number.bd .nil pass0 (pa_cons (pv 2) (pa_cons pe_int (pa_cons (pe_op op_sub (pv 0) pe_int) pa_nil)))))) pa_nil)))))))
 (pss_one ps_never)
 pss_nil)))⟩

def der_crowd_of {P : Program} {w : World} {K : PySem.W.Frag} {mg : Str → Option Value} {base : Heap} (B : Bi mg) {fd_counted : FuncData} {sp_counted : Sp} (C_counted : Cal P w K mg base CX0 1 "counted" P_counted sp_counted fd_counted) {f : Addr} {cdv : Value} {A : Around} {outer : List Env} {s : Shared} {H : Hp} {E : XK}
    (hr : Room 1 (A.deeper (envOfC "crowd_of" (defScope s_crowd_of) s.heap.objs.size f cdv))) :
    {t : TS // PSs (cxOf CX0 P w K mg base N_crowd_of "crowd_of" (defScope s_crowd_of) f cdv A outer s H E).nox (defBody s_crowd_of) t} := ⟨_, (pss_cons (ps_set (i := 2) sc_crowd_of.nd rfl (Or.inl rfl) (pe_call C_counted.ok (hr.mono (by decide)) (by rfl) C_counted.gl C_counted.kp C_counted.bd .nil pass0 (pa_cons (pv 0) (pa_cons (pv 1) pa_nil))))
 (pss_cons (ps_set (i := 3) sc_crowd_of.nd rfl (Or.inl rfl) pe_int)
 (pss_cons (ps_set (i := 4) sc_crowd_of.nd rfl (Or.inl rfl) (pe_un un_neg pe_int))
 (pss_cons (ps_for PassesOwn.never rfl (pi_revR (by rfl) B.reversed (prg_1 (by rfl) B.range (pv 0))) (pg_name (i := 5) sc_crowd_of.nd rfl (Or.inl rfl))
 (pss_cons (ps_set (i := 3) sc_crowd_of.nd rfl (Or.inl rfl) (pe_op op_add (pv 3) (pe_ix (r := rIxL K) ix_list (pv 2) (pv 5) (fun _ _ => rfl))))
 (pss_one (ps_if (pt_cmpR op_gt (pv 3) (pe_op op_sub (pv 0) (pv 5)) (nomark _))
 (pss_one (ps_set (i := 4) sc_crowd_of.nd rfl (Or.inl rfl) (pv 5)))
 pss_nil))))
 (pss_one (ps_ret (pv 4)))))))⟩

def der_counted {P : Program} {w : World} {K : PySem.W.Frag} {mg : Str → Option Value} {base : Heap} (B : Bi mg) {f : Addr} {cdv : Value} {A : Around} {outer : List Env} {s : Shared} {H : Hp} {E : XK}
    (hr : Room 0 (A.deeper (envOfC "counted" (defScope s_counted) s.heap.objs.size f cdv))) :
    {t : TS // PSs (cxOf CX0 P w K mg base N_counted "counted" (defScope s_counted) f cdv A outer s H E).nox (defBody s_counted) t} := ⟨_, (pss_cons (ps_setLc (i := 2) (own := [("place", 4)]) (g := (gName 4)) (tt := tYes) rfl sc_counted.nd rfl rfl (sw_true rfl rfl rfl (by decide +kernel))   (pi_range1 (by rfl) B.range (pa_cons (pv 0) pa_nil)) (blkOk_by (own := [("place", 4)]) (N := N_counted) (sc := defScope s_counted) (by decide +kernel)) (fun _ _ _ _ _ => (pg_name (i := 4) sc_counted.nd rfl (Or.inl rfl) (Or.inr rfl))) (fun _ _ _ _ _ => pts_nil) (fun _ _ _ _ _ => pe_int))
 (pss_cons (ps_for PassesOwn.never rfl (pi_list (pv 1)) (pg_name (i := 3) sc_counted.nd rfl (Or.inl rfl))
 (pss_one (ps_asg (pe_op op_add (pe_ix (r := rIxL K) ix_list (pv 2) (pv 3) (fun _ _ => rfl)) pe_int) (pg_sub (pv 2) (pv 3) set_list))))
 (pss_one (ps_ret (pv 2)))))⟩

def der_all_parked {P : Program} {w : World} {K : PySem.W.Frag} {mg : Str → Option Value} {base : Heap} (B : Bi mg) {fd_asked_wishes : FuncData} {sp_asked_wishes : Sp} (C_asked_wishes : Cal P w K mg base CX0 2 "asked_wishes" P_asked_wishes sp_asked_wishes fd_asked_wishes) {fd_crowd_of : FuncData} {sp_crowd_of : Sp} (C_crowd_of : Cal P w K mg base CX0 2 "crowd_of" P_crowd_of sp_crowd_of fd_crowd_of) (X_TooMany : ExcF K mg "TooMany") {f : Addr} {cdv : Value} {A : Around} {outer : List Env} {s : Shared} {H : Hp} {E : XK}
    (hr : Room 2 (A.deeper (envOfC "all_parked" (defScope s_all_parked) s.heap.objs.size f cdv))) :
    {t : TS // PSs (cxOf (L2N.CX P w) P w K mg base N_all_parked "all_parked" (defScope s_all_parked) f cdv A outer s H E) (defBody s_all_parked) t} := ⟨_, (pss_cons (ps_expr (pe_call C_asked_wishes.ok (hr.mono (by decide)) (by rfl) C_asked_wishes.gl C_asked_wishes.kp C_asked_wishes.bd .nil pass0 (pa_cons (pe_callB (id := "max") (r := rMax2) (call_max2 rfl) (by rfl) B.max (by decide +kernel) (pa_cons (pe_callB (id := "len") (r := rLenS K) call_len_seq (by rfl) B.len (by decide +kernel) (pa_cons (pv 0) pa_nil)) (pa_cons pe_int pa_nil))) (pa_cons (pv 0) pa_nil))))
 (pss_one (ps_if (PW.pt (pw_and (pt_cmpR (r := rNeD K) (op_neD hr.units) (pv 0) (pe_lst pa_nil) (nomark _)) (pw_and1 (pt_cmpR op_ge (pe_call C_crowd_of.ok (hr.mono (by decide)) (by rfl) C_crowd_of.gl C_crowd_of.kp C_crowd_of.bd .nil pass0 (pa_cons (pe_callB (id := "len") (r := rLenS K) call_len_seq (by rfl) B.len (by decide +kernel) (pa_cons (pv 0) pa_nil)) (pa_cons (pv 0) pa_nil))) pe_int (nomark _)))))
 (pss_one (L2N.ps_raise rfl (L2N.takes_of rfl rfl rfl rfl) (L2N.pmk_own PySem.F.excBase_ValueError X_TooMany.ex X_TooMany.gl X_TooMany.kp (raises_own X_TooMany.be X_TooMany.ty) rfl)))
 pss_nil)))⟩

def der_as_list {P : Program} {w : World} {K : PySem.W.Frag} {mg : Str → Option Value} {base : Heap} (B : Bi mg) {f : Addr} {cdv : Value} {A : Around} {outer : List Env} {s : Shared} {H : Hp} {E : XK}
    (hr : Room 0 (A.deeper (envOfC "as_list" (defScope s_as_list) s.heap.objs.size f cdv))) :
    {t : TS // PSs (cxOf CX0 P w K mg base N_as_list "as_list" (defScope s_as_list) f cdv A outer s H E).nox (defBody s_as_list) t} := ⟨_, (pss_cons (ps_if (pt_not (pt_val (pe_callB (id := "isinstance") (r := rIsi K) call_isi (by rfl) B.isinstance (by decide +kernel) (pa_cons (pv 0) (pa_cons (pe_bltn (v := .ty "list") (by rfl) B.list (by decide +kernel) rfl) pa_nil)))))
 (pss_one ps_never)
 pss_nil)
 (pss_one (ps_ret (pv 0))))⟩

def der_path {P : Program} {w : World} {K : PySem.W.Frag} {mg : Str → Option Value} {base : Heap} (B : Bi mg) {fd_all_parked : FuncData} {sp_all_parked : Sp} (C_all_parked : Cal P w K mg base (L2N.CX P w) 3 "all_parked" P_all_parked sp_all_parked fd_all_parked) {fd_as_list : FuncData} {sp_as_list : Sp} (C_as_list : Cal P w K mg base CX0 1 "as_list" P_as_list sp_as_list fd_as_list) {fd_counted : FuncData} {sp_counted : Sp} (C_counted : Cal P w K mg base CX0 1 "counted" P_counted sp_counted fd_counted) {f : Addr} {cdv : Value} {A : Around} {outer : List Env} {s : Shared} {H : Hp} {E : XK}
    (hr : Room 3 (A.deeper (envOfC "path" (defScope s_path) s.heap.objs.size f cdv))) :
    {t : TS // PSs (cxOf (L2N.CX P w) P w K mg base N_path "path" (defScope s_path) f cdv A outer s H E) (defBody s_path) t} := ⟨_, (pss_cons (ps_expr (pe_call C_all_parked.ok (hr.mono (by decide)) (by rfl) C_all_parked.gl C_all_parked.kp C_all_parked.bd .nil (L2N.passes_call (W := fun cls d _ H => E cls d H) (L2N.takes_of rfl rfl rfl rfl) (fun _ _ _ _ h => h)) (pa_cons (pe_call C_as_list.ok (hr.mono (by decide)) (by rfl) C_as_list.gl C_as_list.kp C_as_list.bd .nil pass0 (pa_cons (pv 0) pa_nil)) pa_nil)))
 (pss_cons (ps_if (pt_cmpR (r := rEqD K) (op_eqD hr.units) (pv 0) (pe_lst pa_nil) (nomark _))
 (pss_one (ps_ret pe_str))
 pss_nil)
 (pss_one (ps_ret (pe_join pe_str (pe_lc (own := [("many", 1)]) (g := (gName 1)) (tt := tYes) rfl sc_path.nd (pi_list (pe_call C_counted.ok (hr.mono (by decide)) (by rfl) C_counted.gl C_counted.kp C_counted.bd .nil pass0 (pa_cons (pe_callB (id := "len") (r := rLenS K) call_len_seq (by rfl) B.len (by decide +kernel) (pa_cons (pv 0) pa_nil)) (pa_cons (pv 0) pa_nil)))) (blkOk_by (own := [("many", 1)]) (N := N_path) (sc := defScope s_path) (by decide +kernel)) (fun _ _ _ _ _ => (pg_name (i := 1) sc_path.nd rfl (Or.inl rfl) (Or.inr rfl))) (fun _ _ _ _ _ => pts_nil) (fun _ _ _ _ _ => (pe_op op_add_str (pe_op op_mul_str pe_str (pv 1)) pe_str))))))))⟩

def der_heights {P : Program} {w : World} {K : PySem.W.Frag} {mg : Str → Option Value} {base : Heap} (B : Bi mg) (X_BadPath : ExcF K mg "BadPath") {f : Addr} {cdv : Value} {A : Around} {outer : List Env} {s : Shared} {H : Hp} {E : XK}
    (hr : Room 0 (A.deeper (envOfC "heights" (defScope s_heights) s.heap.objs.size f cdv))) :
    {t : TS // PSs (cxOf (L2N.CX P w) P w K mg base N_heights "heights" (defScope s_heights) f cdv A outer s H E) (defBody s_heights) t} := ⟨_, (pss_cons (ps_if (pt_not (pt_val (pe_callB (id := "isinstance") (r := rIsi K) call_isi (by rfl) B.isinstance (by decide +kernel) (pa_cons (pv 0) (pa_cons (pe_bltn (v := .ty "str") (by rfl) B.str (by decide +kernel) rfl) pa_nil)))))
 (pss_one (L2N.ps_raise rfl (L2N.takes_of rfl rfl rfl rfl) (L2N.pmk_own PySem.F.excBase_ValueError X_BadPath.ex X_BadPath.gl X_BadPath.kp (raises_own X_BadPath.be X_BadPath.ty) rfl)))
 pss_nil)
 (pss_cons (ps_set (i := 1) sc_heights.nd rfl (Or.inl rfl) pe_int)
 (pss_cons (ps_set (i := 2) sc_heights.nd rfl (Or.inl rfl) (pe_lst pa_nil))
 (pss_cons (ps_for (passes_of rfl) rfl (pi_str (pv 0)) (pg_name (i := 3) sc_heights.nd rfl (Or.inl rfl))
 (pss_one (ps_if (pt_cmpR op_eq (pv 3) pe_str (nomark _))
 (pss_one (ps_set (i := 1) sc_heights.nd rfl (Or.inl rfl) (pe_op op_add (pv 1) pe_int)))
 (pss_one (ps_if (PW.pt (pw_and (pt_cmpR op_eq (pv 3) pe_str (nomark _)) (pw_and1 (pt_cmpR op_gt (pv 1) pe_int (nomark _)))))
 (pss_cons (ps_set (i := 1) sc_heights.nd rfl (Or.inl rfl) (pe_op op_sub (pv 1) pe_int))
 (pss_one (ps_expr (pe_bm PySem.F.plainAttrs_list PySem.F.slot_list_append PySem.F.type_list_append mt_append (pv 2) (pa_cons (pv 1) pa_nil)))))
 (pss_one (L2N.ps_raise rfl (L2N.takes_of rfl rfl rfl rfl) (L2N.pmk_own PySem.F.excBase_ValueError X_BadPath.ex X_BadPath.gl X_BadPath.kp (raises_own X_BadPath.be X_BadPath.ty) rfl))))))))
 (pss_cons (ps_if (pt_cmpR op_ne (pv 1) pe_int (nomark _))
 (pss_one (L2N.ps_raise rfl (L2N.takes_of rfl rfl rfl rfl) (L2N.pmk_own PySem.F.excBase_ValueError X_BadPath.ex X_BadPath.gl X_BadPath.kp (raises_own X_BadPath.be X_BadPath.ty) rfl)))
 pss_nil)
 (pss_one (ps_ret (pv 2))))))))⟩

def der_beneath {P : Program} {w : World} {K : PySem.W.Frag} {mg : Str → Option Value} {base : Heap} (B : Bi mg) {fd_heights : FuncData} {sp_heights : Sp} (C_heights : Cal P w K mg base (L2N.CX P w) 1 "heights" P_heights sp_heights fd_heights) {f : Addr} {cdv : Value} {A : Around} {outer : List Env} {s : Shared} {H : Hp} {E : XK}
    (hr : Room 1 (A.deeper (envOfC "beneath" (defScope s_beneath) s.heap.objs.size f cdv))) :
    {t : TS // PSs (cxOf (L2N.CX P w) P w K mg base N_beneath "beneath" (defScope s_beneath) f cdv A outer s H E) (defBody s_beneath) t} := ⟨_, (pss_one (ps_ret (pe_callB (id := "sum") (r := rSum K) (cr_sum rfl) (by rfl) B.sum (by decide +kernel) (pa_cons (pe_call C_heights.ok (hr.mono (by decide)) (by rfl) C_heights.gl C_heights.kp C_heights.bd .nil (L2N.passes_call (W := fun cls d _ H => E cls d H) (L2N.takes_of rfl rfl rfl rfl) (fun _ _ _ _ h => h)) (pa_cons (pv 0) pa_nil)) pa_nil))))⟩

def der_rising {P : Program} {w : World} {K : PySem.W.Frag} {mg : Str → Option Value} {base : Heap} {fd_heights : FuncData} {sp_heights : Sp} (C_heights : Cal P w K mg base (L2N.CX P w) 1 "heights" P_heights sp_heights fd_heights) {f : Addr} {cdv : Value} {A : Around} {outer : List Env} {s : Shared} {H : Hp} {E : XK}
    (hr : Room 1 (A.deeper (envOfC "rising" (defScope s_rising) s.heap.objs.size f cdv))) :
    {t : TS // PSs (cxOf (L2N.CX P w) P w K mg base N_rising "rising" (defScope s_rising) f cdv A outer s H E) (defBody s_rising) t} := ⟨_, (pss_cons (ps_expr (pe_call C_heights.ok (hr.mono (by decide)) (by rfl) C_heights.gl C_heights.kp C_heights.bd .nil (L2N.passes_call (W := fun cls d _ H => E cls d H) (L2N.takes_of rfl rfl rfl rfl) (fun _ _ _ _ h => h)) (pa_cons (pv 0) pa_nil)))
 (pss_cons (ps_set (i := 1) sc_rising.nd rfl (Or.inl rfl) (pe_lst pa_nil))
 (pss_cons (ps_set (i := 2) sc_rising.nd rfl (Or.inl rfl) pe_int)
 (pss_cons (ps_for (passes_of rfl) rfl (pi_str (pv 0)) (pg_name (i := 3) sc_rising.nd rfl (Or.inl rfl))
 (pss_one (ps_if (pt_cmpR op_eq (pv 3) pe_str (nomark _))
 (pss_one (ps_expr (pe_bm PySem.F.plainAttrs_list PySem.F.slot_list_append PySem.F.type_list_append mt_append (pv 1) (pa_cons (pv 2) pa_nil))))
 (pss_one (ps_set (i := 2) sc_rising.nd rfl (Or.inl rfl) (pe_op op_add (pv 2) pe_int))))))
 (pss_one (ps_ret (pv 1)))))))⟩

def der_law_drawn {P : Program} {w : World} {K : PySem.W.Frag} {mg : Str → Option Value} {base : Heap} {f : Addr} {cdv : Value} {A : Around} {outer : List Env} {s : Shared} {H : Hp} {E : XK}
    (hr : Room 0 (A.deeper (envOfC "_law_drawn" (defScope s_law_drawn) s.heap.objs.size f cdv))) :
    {t : TS // PSs (cxOf CX0 P w K mg base N_law_drawn "_law_drawn" (defScope s_law_drawn) f cdv A outer s H E).nox (defBody s_law_drawn) t} := ⟨_, (pss_cons (ps_set (i := 1) sc_law_drawn.nd rfl (Or.inl rfl) (pe_lst pa_nil))
 (pss_cons (ps_set (i := 2) sc_law_drawn.nd rfl (Or.inl rfl) pe_int)
 (pss_cons (ps_for PassesOwn.never rfl (pi_list (pe_slice (r := rSlL K) sl_list (pv 0) po_none (po_some pe_int))) (pg_name (i := 3) sc_law_drawn.nd rfl (Or.inl rfl))
 (pss_one (ps_if (PW.pt (pw_or (pt_cmpR op_eq (pv 2) pe_int (nomark _)) (pw_or1 (pt_cmpR op_eq (pe_op op_mod (pv 3) pe_int) pe_int (nomark _)))))
 (pss_cons (ps_expr (pe_bm PySem.F.plainAttrs_list PySem.F.slot_list_append PySem.F.type_list_append mt_append (pv 1) (pa_cons pe_str pa_nil)))
 (pss_one (ps_set (i := 2) sc_law_drawn.nd rfl (Or.inl rfl) (pe_op op_add (pv 2) pe_int))))
 (pss_cons (ps_expr (pe_bm PySem.F.plainAttrs_list PySem.F.slot_list_append PySem.F.type_list_append mt_append (pv 1) (pa_cons pe_str pa_nil)))
 (pss_one (ps_set (i := 2) sc_law_drawn.nd rfl (Or.inl rfl) (pe_op op_sub (pv 2) pe_int)))))))
 (pss_one (ps_ret (pe_op op_add_str (pe_join pe_str (pv 1)) (pe_op op_mul_str pe_str (pv 2))))))))⟩

def der_law_walked {P : Program} {w : World} {K : PySem.W.Frag} {mg : Str → Option Value} {base : Heap} {f : Addr} {cdv : Value} {A : Around} {outer : List Env} {s : Shared} {H : Hp} {E : XK}
    (hr : Room 0 (A.deeper (envOfC "_law_walked" (defScope s_law_walked) s.heap.objs.size f cdv))) :
    {t : TS // PSs (cxOf CX0 P w K mg base N_law_walked "_law_walked" (defScope s_law_walked) f cdv A outer s H E).nox (defBody s_law_walked) t} := ⟨_, (pss_cons (ps_set (i := 1) sc_law_walked.nd rfl (Or.inl rfl) pe_int)
 (pss_cons (ps_set (i := 2) sc_law_walked.nd rfl (Or.inl rfl) pe_int)
 (pss_cons (ps_set (i := 3) sc_law_walked.nd rfl (Or.inl rfl) pe_int)
 (pss_cons (ps_set (i := 4) sc_law_walked.nd rfl (Or.inl rfl) (pe_lst pa_nil))
 (pss_cons (ps_for PassesOwn.never rfl (pi_str (pv 0)) (pg_name (i := 5) sc_law_walked.nd rfl (Or.inl rfl))
 (pss_one (ps_if (pt_cmpR op_eq (pv 5) pe_str (nomark _))
 (pss_cons (ps_set (i := 1) sc_law_walked.nd rfl (Or.inl rfl) (pe_op op_add (pv 1) pe_int))
 (pss_one (ps_expr (pe_bm PySem.F.plainAttrs_list PySem.F.slot_list_append PySem.F.type_list_append mt_append (pv 4) (pa_cons (pv 3) pa_nil)))))
 (pss_one (ps_if (PW.pt (pw_and (pt_cmpR op_eq (pv 5) pe_str (nomark _)) (pw_and1 (pt_cmpR op_gt (pv 1) pe_int (nomark _)))))
 (pss_cons (ps_set (i := 1) sc_law_walked.nd rfl (Or.inl rfl) (pe_op op_sub (pv 1) pe_int))
 (pss_cons (ps_set (i := 2) sc_law_walked.nd rfl (Or.inl rfl) (pe_op op_add (pv 2) (pv 1)))
 (pss_one (ps_set (i := 3) sc_law_walked.nd rfl (Or.inl rfl) (pe_op op_add (pv 3) pe_int)))))
 (pss_one (ps_ret (pe_tup (pa_cons pe_bl (pa_cons pe_int (pa_cons (pe_lst pa_nil) pa_nil)))))))))))
 (pss_one (ps_ret (pe_tup (pa_cons (pe_cmpR op_eq (pv 1) pe_int (nomark _)) (pa_cons (pv 2) (pa_cons (pv 4) pa_nil)))))))))))⟩

def der_law_asked {P : Program} {w : World} {K : PySem.W.Frag} {mg : Str → Option Value} {base : Heap} (B : Bi mg) (X_BadPath : ExcF K mg "BadPath") (X_BadStanding : ExcF K mg "BadStanding") (X_BadText : ExcF K mg "BadText") (X_BadTree : ExcF K mg "BadTree") (X_BadWishes : ExcF K mg "BadWishes") (X_TooMany : ExcF K mg "TooMany") (X_StreetError : ExcF K mg "StreetError") {SP_ask : Addr → Sp → Prop} (L_ask : ∀ f sp, SP_ask f sp → HeldX P w K mg base 2 f sp) {f : Addr} {cdv : Value} {A : Around} {outer : List Env} {s : Shared} {H : Hp} {E : XK}
    (hr : Room 2 (A.deeper (envOfC "_law_asked" (defScope s_law_asked) s.heap.objs.size f cdv))) :
    {t : TS // PSs (cxOf CX0 P w K mg base N_law_asked "_law_asked" (defScope s_law_asked) f cdv A outer s H E).nox (defBody s_law_asked) t} := ⟨_, (pss_cons (L2N.ps_try_as (i := 2) rfl rfl sc_law_asked.nd rfl rfl ⟨rfl, by decide, .inl X_StreetError.gl⟩ takesN
 (fun W pn xe tk _ => (pss_one (ps_ret (pe_tup (pa_cons pe_str (pa_cons (pe_callX (i := 0) L_ask (hr.mono (by decide)) rfl (by first | exact Or.inl rfl | exact Or.inr (Or.inl rfl)) (fun σ => L2N.passAt tk σ) (pa_cons (pv 1) pa_nil)) pa_nil))))))
 (fun a oe cls d pn hz hf => (pss_cons (ps_set (i := 3) sc_law_asked.nd rfl (Or.inl rfl) (pe_lst (pa_cons (pe_callB (id := "isinstance") (r := rIsE2 K cls d a) (call_isE2 hz hf) (by rfl) B.isinstance (by decide +kernel) (pa_cons (pv 2) (pa_cons (pe_glob (v := .ref (ga K "BadWishes")) rfl X_BadWishes.gl rfl) pa_nil))) (pa_cons (pe_callB (id := "isinstance") (r := rIsE2 K cls d a) (call_isE2 hz hf) (by rfl) B.isinstance (by decide +kernel) (pa_cons (pv 2) (pa_cons (pe_glob (v := .ref (ga K "TooMany")) rfl X_TooMany.gl rfl) pa_nil))) (pa_cons (pe_callB (id := "isinstance") (r := rIsE2 K cls d a) (call_isE2 hz hf) (by rfl) B.isinstance (by decide +kernel) (pa_cons (pv 2) (pa_cons (pe_glob (v := .ref (ga K "BadTree")) rfl X_BadTree.gl rfl) pa_nil))) pa_nil)))))
 (pss_cons (ps_set (i := 3) sc_law_asked.nd rfl (Or.inl rfl) (pe_op op_cat (pv 3) (pe_lst (pa_cons (pe_callB (id := "isinstance") (r := rIsE2 K cls d a) (call_isE2 hz hf) (by rfl) B.isinstance (by decide +kernel) (pa_cons (pv 2) (pa_cons (pe_glob (v := .ref (ga K "BadStanding")) rfl X_BadStanding.gl rfl) pa_nil))) (pa_cons (pe_callB (id := "isinstance") (r := rIsE2 K cls d a) (call_isE2 hz hf) (by rfl) B.isinstance (by decide +kernel) (pa_cons (pv 2) (pa_cons (pe_glob (v := .ref (ga K "BadText")) rfl X_BadText.gl rfl) pa_nil))) pa_nil)))))
 (pss_one (ps_if (PW.pt (pw_or (pt_val (pe_callB (id := "any") (r := rAny K) (cr_anyH (hot_suite hz hf)) (by rfl) B.any (by decide +kernel) (pa_cons (pv 3) pa_nil))) (pw_or1 (pt_not (pt_val (pe_callB (id := "isinstance") (r := rIsE2 K cls d a) (call_isE2 hz hf) (by rfl) B.isinstance (by decide +kernel) (pa_cons (pv 2) (pa_cons (pe_glob (v := .ref (ga K "BadPath")) rfl X_BadPath.gl rfl) pa_nil))))))))
 (pss_one (ps_ret (pe_tup (pa_cons pe_str (pa_cons pe_int pa_nil)))))
 pss_nil))))))
 (pss_one (ps_ret (pe_tup (pa_cons pe_str (pa_cons pe_int pa_nil))))))⟩

def der_law_right {P : Program} {w : World} {K : PySem.W.Frag} {mg : Str → Option Value} {base : Heap} {fd_law_asked : FuncData} {sp_law_asked : Sp} (C_law_asked : Cal P w K mg base CX0 3 "_law_asked" P_law_asked sp_law_asked fd_law_asked) {fd_law_walked : FuncData} {sp_law_walked : Sp} (C_law_walked : Cal P w K mg base CX0 1 "_law_walked" P_law_walked sp_law_walked fd_law_walked) {fd_path : FuncData} {sp_path : Sp} (C_path : Cal P w K mg base (L2N.CX P w) 4 "path" P_path sp_path fd_path) (gv_beneath : mg "beneath" = some (.ref (ga K "beneath"))) (gv_rising : mg "rising" = some (.ref (ga K "rising"))) {f : Addr} {cdv : Value} {A : Around} {outer : List Env} {s : Shared} {H : Hp} {E : XK}
    (hr : Room 4 (A.deeper (envOfC "_law_right" (defScope s_law_right) s.heap.objs.size f cdv))) :
    {t : TS // PSs (cxOf CX0 P w K mg base N_law_right "_law_right" (defScope s_law_right) f cdv A outer s H E).nox (defBody s_law_right) t} := ⟨_, (pss_cons (ps_asg (pe_call C_law_walked.ok (hr.mono (by decide)) (by rfl) C_law_walked.gl C_law_walked.kp C_law_walked.bd .nil pass0 (pa_cons (pv 0) pa_nil)) (pg_tup rfl (pgs_cons (pg_name (i := 1) sc_law_right.nd rfl (Or.inl rfl)) (pgs_cons (pg_name (i := 2) sc_law_right.nd rfl (Or.inl rfl)) (pgs_cons (pg_name (i := 3) sc_law_right.nd rfl (Or.inl rfl)) pgs_nil)))))
 (pss_cons (ps_if (pt_not (pt_val (pv 1)))
 (pss_one (ps_ret (pe_and (pe_cmpR op_eq (pe_ix (r := rIxT K) ix_tup (pe_call C_law_asked.ok (hr.mono (by decide)) (by rfl) C_law_asked.gl C_law_asked.kp C_law_asked.bd .nil pass0 (pa_cons (pe_glob (v := .ref (ga K "beneath")) rfl (gv_beneath) rfl) (pa_cons (pv 0) pa_nil))) pe_int (fun _ _ => rfl)) pe_str (nomark _)) (pe_one (pe_cmpR op_eq (pe_ix (r := rIxT K) ix_tup (pe_call C_law_asked.ok (hr.mono (by decide)) (by rfl) C_law_asked.gl C_law_asked.kp C_law_asked.bd .nil pass0 (pa_cons (pe_glob (v := .ref (ga K "rising")) rfl (gv_rising) rfl) (pa_cons (pv 0) pa_nil))) pe_int (fun _ _ => rfl)) pe_str (nomark _))))))
 pss_nil)
 (pss_cons (ps_if (PW.pt (pw_or (pt_cmpR (r := rNeD K) (op_neD hr.units) (pe_call C_law_asked.ok (hr.mono (by decide)) (by rfl) C_law_asked.gl C_law_asked.kp C_law_asked.bd .nil pass0 (pa_cons (pe_glob (v := .ref (ga K "beneath")) rfl (gv_beneath) rfl) (pa_cons (pv 0) pa_nil))) (pe_tup (pa_cons pe_str (pa_cons (pv 2) pa_nil))) (nomark _)) (pw_or1 (pt_cmpR (r := rNeD K) (op_neD hr.units) (pe_call C_law_asked.ok (hr.mono (by decide)) (by rfl) C_law_asked.gl C_law_asked.kp C_law_asked.bd .nil pass0 (pa_cons (pe_glob (v := .ref (ga K "rising")) rfl (gv_rising) rfl) (pa_cons (pv 0) pa_nil))) (pe_tup (pa_cons pe_str (pa_cons (pv 3) pa_nil))) (nomark _)))))
 (pss_one (ps_ret pe_bl))
 pss_nil)
 (pss_one (ps_ret (pe_cmpR op_eq (pe_call C_path.ok (hr.mono (by decide)) (by rfl) C_path.gl C_path.kp C_path.bd .nil passN (pa_cons (pv 3) pa_nil)) (pv 0) (nomark _)))))))⟩

def der_law {P : Program} {w : World} {K : PySem.W.Frag} {mg : Str → Option Value} {base : Heap} (B : Bi mg) {fd_law_drawn : FuncData} {sp_law_drawn : Sp} (C_law_drawn : Cal P w K mg base CX0 1 "_law_drawn" P_law_drawn sp_law_drawn fd_law_drawn) {fd_law_right : FuncData} {sp_law_right : Sp} (C_law_right : Cal P w K mg base CX0 5 "_law_right" P_law_right sp_law_right fd_law_right) {f : Addr} {cdv : Value} {A : Around} {outer : List Env} {s : Shared} {H : Hp} {E : XK}
    (hr : Room 5 (A.deeper (envOfC "law" (defScope s_law) s.heap.objs.size f cdv))) :
    {t : TS // PSs (cxOf CX0 P w K mg base N_law "law" (defScope s_law) f cdv A outer s H E).nox (defBody s_law) t} := ⟨_, (pss_cons (ps_set (i := 1) sc_law.nd rfl (Or.inl rfl) (pe_call C_law_drawn.ok (hr.mono (by decide)) (by rfl) C_law_drawn.gl C_law_drawn.kp C_law_drawn.bd .nil pass0 (pa_cons (pv 0) pa_nil)))
 (pss_cons (ps_if (pt_not (pt_val (pe_call C_law_right.ok (hr.mono (by decide)) (by rfl) C_law_right.gl C_law_right.kp C_law_right.bd .nil pass0 (pa_cons (pv 1) pa_nil))))
 (pss_one (ps_ret pe_bl))
 pss_nil)
 (pss_cons (ps_set (i := 2) sc_law.nd rfl (Or.inl rfl) (pe_callB (id := "sum") (r := rSum K) (cr_sum rfl) (by rfl) B.sum (by decide +kernel) (pa_cons (pv 0) pa_nil)))
 (pss_cons (ps_set (i := 3) sc_law.nd rfl (Or.inl rfl) (pe_op op_mod (pv 2) (pe_op op_add (pe_callB (id := "len") (r := rLenT) call_len_str (by rfl) B.len (by decide +kernel) (pa_cons (pv 1) pa_nil)) pe_int)))
 (pss_cons (ps_set (i := 4) sc_law.nd rfl (Or.inl rfl) (pe_ix (r := rIxL K) ix_list (pe_lst (pa_cons pe_str (pa_cons pe_str (pa_cons pe_str (pa_cons pe_str (pa_cons pe_str (pa_cons pe_str pa_nil))))))) (pe_op op_mod (pe_op op_fdiv (pv 2) pe_int) pe_int) (fun _ _ => rfl)))
 (pss_cons (ps_for PassesOwn.never rfl (pi_list (pe_lst (pa_cons (pe_op op_add_str (pe_slice sl_str (pv 1) po_none (po_some (pv 3))) (pe_slice sl_str (pv 1) (po_some (pe_op op_add (pv 3) pe_int)) po_none)) (pa_cons (pe_op op_add_str (pe_op op_add_str (pe_slice sl_str (pv 1) po_none (po_some (pv 3))) (pv 4)) (pe_slice sl_str (pv 1) (po_some (pv 3)) po_none)) (pa_cons (pe_op op_add_str (pe_op op_add_str (pe_slice sl_str (pv 1) po_none (po_some (pv 3))) (pv 4)) (pe_slice sl_str (pv 1) (po_some (pe_op op_add (pv 3) pe_int)) po_none)) pa_nil))))) (pg_name (i := 5) sc_law.nd rfl (Or.inl rfl))
 (pss_one (ps_if (pt_not (pt_val (pe_call C_law_right.ok (hr.mono (by decide)) (by rfl) C_law_right.gl C_law_right.kp C_law_right.bd .nil pass0 (pa_cons (pv 5) pa_nil))))
 (pss_one (ps_ret pe_bl))
 pss_nil)))
 (pss_one (ps_ret (pe_call C_law_right.ok (hr.mono (by decide)) (by rfl) C_law_right.gl C_law_right.kp C_law_right.bd .nil pass0 (pa_cons (pe_revS (pv 1)) pa_nil))))))))))⟩

end Pk
namespace Pk
open PySem PySem.Spec PyProof.Rows L2 Evl He
abbrev FnP (K : PySem.W.Frag) (x : Str) (st : Stmt) (fd : FuncData) : Prop := FunD K x x (defArgs st) (defBody st) (defScope st) [] [] (ga K x) fd
/-- a def that lets nothing out -/
theorem FnP.ok {P : Program} {w : World} {K : PySem.W.Frag} {mg : Str → Option Value} {base : Heap} {x : Str} {st : Stmt} {fd : FuncData} {N ps : List Str} {k : Nat} {sp : Sp} (F : FnP K x st fd) (S : FnScope N ps (defScope st)) (len : ∀ vs H Q E, sp vs H Q E → vs.length = ps.length)
    (hbody : ∀ (cdv : Value) (A : Around) (outer : List Env) (s : Shared) (H : Hp) (vs : List V) (Q : VK) (E : XK), Room k (A.deeper (envOfC x (defScope st) s.heap.objs.size (ga K x) cdv)) → sp vs H Q E →
      ∃ t : {t : TS // PSs (cxOf CX0 P w K mg base N x (defScope st) (ga K x) cdv A outer s H E).nox (defBody st) t}, t.1 { nx := fun _ H' => Q .non H', rt := Q } (start N vs) H) : FnOk P w K mg base CX0 (k + 1) (ga K x) fd ps sp :=
  FunD.ok F S len fun cdv A outer s H vs Q E hr hsp => by
    obtain ⟨t, q⟩ := hbody cdv A outer s H vs Q E hr hsp
    exact ⟨t.1, t.2.nox, q⟩
theorem FnP.okX {P : Program} {w : World} {K : PySem.W.Frag} {mg : Str → Option Value} {base : Heap} {x : Str} {st : Stmt} {fd : FuncData} {N ps : List Str} {k : Nat} {sp : Sp} (F : FnP K x st fd) (S : FnScope N ps (defScope st)) (len : ∀ vs H Q E, sp vs H Q E → vs.length = ps.length)
    (hbody : ∀ (cdv : Value) (A : Around) (outer : List Env) (s : Shared) (H : Hp) (vs : List V) (Q : VK) (E : XK), Room k (A.deeper (envOfC x (defScope st) s.heap.objs.size (ga K x) cdv)) → sp vs H Q E →
      ∃ t : {t : TS // PSs (cxOf (L2N.CX P w) P w K mg base N x (defScope st) (ga K x) cdv A outer s H E) (defBody st) t}, t.1 { nx := fun _ H' => Q .non H', rt := Q } (start N vs) H) : FnOk P w K mg base (L2N.CX P w) (k + 1) (ga K x) fd ps sp :=
  FunD.ok F S len fun cdv A outer s H vs Q E hr hsp => by
    obtain ⟨t, q⟩ := hbody cdv A outer s H vs Q E hr hsp
    exact ⟨t.1, t.2, q⟩
section
variable {P : Program} {w : World} {K : PySem.W.Frag} {mg : Str → Option Value} {base : Heap}
open SX (S)
/-! ### is_number, of whole numbers -/
def spIsNumber : Sp := fun vs H Q _ => ∃ i lo hi : Int, vs = [.int i, .int lo, .int hi] ∧ RetV (.bl (decide (lo ≤ i ∧ i ≤ hi))) H Q
theorem ok_is_number {fd : FuncData} (F : FnP K "is_number" s_is_number fd) (B : Bi mg) : FnOk P w K mg base CX0 1 (ga K "is_number") fd P_is_number spIsNumber := by
  refine F.ok sc_is_number (fun vs H Q E h => ?_) (fun cdv A outer s H vs Q E hr h => ⟨der_is_number B hr, ?_⟩)
  · obtain ⟨i, lo, hi, rfl, _⟩ := h; rfl
  obtain ⟨i, lo, hi, rfl, q⟩ := h
  unfold der_is_number; dsimp only
  refine s_ret (v := .bl (true && (!false && decide (lo ≤ i ∧ i ≤ hi)))) ?_ ?_
  rotate_left
  · exact fun H1 e => q H1 e
  refine ev_andV (ev_cb (ea_cons (ev_var rfl) (ea_cons ev_c ea_nil)) (isi_int "int" (by decide +kernel))) fun _ => ?_
  refine ev_andV (ev_notV (ev_cb (ea_cons (ev_var rfl) (ea_cons ev_c ea_nil)) (isi_int "bool" (by decide +kernel)))) fun _ => ?_
  exact ev_chain (ev_var rfl) (ev_var rfl) (ev_var rfl) (by simp [Bool.decide_and])
/-! ### counted -/
def spCounted (K : PySem.W.Frag) : Sp := fun vs H Q _ => ∃ (p : Nat) (a : Addr) (ws : List Nat), vs = [nat p, .ref a] ∧ SqL K H a (vn ws) ∧ p ≤ 40000 ∧ (∀ x ∈ ws, x < p) ∧ RetL (vn (cnts p ws)) H Q
theorem ok_counted {fd : FuncData} (F : FnP K "counted" s_counted fd) (B : Bi mg) : FnOk P w K mg base CX0 1 (ga K "counted") fd P_counted (spCounted K) := by
  refine F.ok sc_counted (fun vs H Q E h => ?_) (fun cdv A outer s H vs Q E hr h => ⟨der_counted B hr, ?_⟩)
  · obtain ⟨p, a, ws, rfl, _⟩ := h; rfl
  obtain ⟨p, a, ws, rfl, hS, hp, hw, q⟩ := h
  unfold der_counted; dsimp only
  refine q_asgL (el_rng (n := p) (fun _ => nat 0) (ea_cons (ev_var rfl) ea_nil) hp (fun _ => rfl) (fun i H1 e hi => ev_c)) fun l H1 hl e1 h1 => ?_
  refine q_forP nat (ev_var rfl) (ex_l e1 hS) (fun pre σ' H' => ∃ v, σ' = [some (nat p), some (.ref a), some (.ref l), v, none] ∧ Ex H H' ∧ H' l = some (.lst (vn (cnts p pre)))) (fun H2 e2 => ?_) (fun pre σ' H' hI => ?_) (fun pre y post σ' H' hy hI => ?_) (fun σ' H' hI => ?_)
  · refine ⟨none, rfl, e1.trans e2, ?_⟩
    rw [e2 l _ h1, cnts_nil]
    unfold vn
    rw [List.map_map]
    rfl
  · obtain ⟨v, rfl, e, _⟩ := hI
    exact ex_l e hS
  · obtain ⟨v, rfl, e, h2⟩ := hI
    have hyp : y < p := hw y (by rw [hy]; simp)
    have g := vn_get (cnts_get (ws := pre) hyp)
    refine s_setL (j := y) h2 (v := nat (pre.count y + 1)) ?_ (ev_var rfl) (ev_var rfl) (by rw [List.length_map, cnts_len]; exact hyp) fun H3 e3 => ?_
    · exact ev_add (ev_ixN (ev_var rfl) (ev_var rfl) (sq_of h2) g) ev_c (by omega)
    · refine ⟨_, rfl, Ex.mut (e.trans e3) hl, ?_⟩
      rw [upd_same, ← cnts_add hyp]
      unfold vn
      rw [List.map_set]
  · obtain ⟨v, rfl, e, h2⟩ := hI
    exact s_ret (ev_var rfl) fun H3 e3 => q l H3 hl (e.trans e3) (e3 l _ h2)
theorem sl_counted {H : Hp} {a : Addr} {p : Nat} {ws : List Nat} (h : SqL K H a (vn ws)) (hp : p ≤ 40000) (hw : ∀ x ∈ ws, x < p) : SpL (spCounted K) [nat p, .ref a] H (vn (cnts p ws)) := fun H1 e Q q E => ⟨p, a, ws, rfl, ex_l e h, hp, hw, q⟩
/-! ### asked_wishes, of wishes that are some -/
def spAsked (K : PySem.W.Frag) : Sp := fun vs H Q _ => ∃ (p : Nat) (a : Addr) (ws : List Nat), vs = [nat p, .ref a] ∧ 1 ≤ p ∧ p ≤ 1000000 ∧ SqL K H a (vn ws) ∧ ws.length ≤ 40000 ∧ (∀ x ∈ ws, x < p) ∧ RetV .non H Q
theorem sv_num {H : Hp} {i lo hi : Int} : SpV spIsNumber [.int i, .int lo, .int hi] H (.bl (decide (lo ≤ i ∧ i ≤ hi))) := fun H1 e Q q E => ⟨i, lo, hi, rfl, q⟩
theorem ok_asked_wishes {fd fd1 : FuncData} {tk : Tok} (F : FnP K "asked_wishes" s_asked_wishes fd) (B : Bi mg) (C1 : Cal P w K mg base CX0 1 "is_number" P_is_number spIsNumber fd1) (gc : mg "PLACES" = some (.int 1000000 tk)) : FnOk P w K mg base CX0 2 (ga K "asked_wishes") fd P_asked_wishes (spAsked K) := by
  refine F.ok sc_asked_wishes (fun vs H Q E h => ?_) (fun cdv A outer s H vs Q E hr h => ⟨der_asked_wishes B C1 gc hr, ?_⟩)
  · obtain ⟨p, a, ws, rfl, _⟩ := h; rfl
  obtain ⟨p, a, ws, rfl, hp1, hp2, hS, hl, hw, q⟩ := h
  unfold der_asked_wishes; dsimp only
  have t1 : Ev (tCall spIsNumber [] E0 (tCons (tVar 0) (tCons (tC (.int 1)) (tCons (tC (.int 1000000)) tNil)))) (L2.start N_asked_wishes [nat p, .ref a]) H (.bl true) := by
    refine ev_is (ev_call (ea_cons (ev_var rfl) (ea_cons ev_c (ea_cons ev_c ea_nil))) sv_num) ?_
    congr 1
    exact decide_eq_true ⟨by omega, by omega⟩
  refine q_when (et_not (et_B t1)) (fun h => by cases h) fun _ H1 e1 => ?_
  have t2 : EvL (tLc (iList K (tVar 1)) (gName 2) tYes (tCall spIsNumber [] E0 (tCons (tVar 2) (tCons (tC (.int 0)) (tCons (tOp (rI0 fun i j => .int (i - j)) (tVar 0) (tC (.int 1))) tNil)))) [2]) (L2.start N_asked_wishes [nat p, .ref a]) H1 ((ws.map fun _ => true).map V.bl) := by
    rw [List.map_map]
    refine el_ls nat (V.bl ∘ fun _ => true) (ev_var rfl) (ex_l e1 hS) hl (fun _ => rfl) fun i y H2 e2 hy => ?_
    have hyp := hw y (List.mem_of_getElem? hy)
    refine ev_is (ev_call (ea_cons (ev_var rfl) (ea_cons ev_c (ea_cons (ev_sub (k := (p : Int) - 1) (ev_var rfl) ev_c rfl) ea_nil))) sv_num) ?_
    show V.bl (decide _) = V.bl true
    congr 1
    exact decide_eq_true ⟨by omega, by omega⟩
  have t3 : ((ws.map fun _ => true).all id) = true := by
    rw [List.all_map, List.all_eq_true]
    intro x _
    rfl
  refine s_when (et_or (et_not (et_B (ev_cb (ea_cons (ev_var rfl) (ea_cons ev_c ea_nil)) (isi_list (k := true) (ex_l e1 hS) "list" (by decide +kernel))))) fun _ => et_not (et_B (ev_allN t2))) (fun h => ?_) fun _ H2 e2 => q H2 (e1.trans e2)
  rw [t3] at h
  cases h
theorem sv_asked {H : Hp} {a : Addr} {p : Nat} {ws : List Nat} (h1 : 1 ≤ p) (hp : p ≤ 1000000) (h : SqL K H a (vn ws)) (hl : ws.length ≤ 40000) (hw : ∀ x ∈ ws, x < p) : SpV (spAsked K) [nat p, .ref a] H .non := fun H1 e Q q E => ⟨p, a, ws, rfl, h1, hp, ex_l e h, hl, hw, q⟩
/-! ### as_list -/
def spAsList (K : PySem.W.Frag) : Sp := fun vs H Q _ => ∃ (a : Addr) (xs : List V), vs = [.ref a] ∧ SqL K H a xs ∧ RetV (.ref a) H Q
theorem ok_as_list {fd : FuncData} (F : FnP K "as_list" s_as_list fd) (B : Bi mg) : FnOk P w K mg base CX0 1 (ga K "as_list") fd P_as_list (spAsList K) := by
  refine F.ok sc_as_list (fun vs H Q E h => ?_) (fun cdv A outer s H vs Q E hr h => ⟨der_as_list B hr, ?_⟩)
  · obtain ⟨a, xs, rfl, _⟩ := h; rfl
  obtain ⟨a, xs, rfl, hS, q⟩ := h
  unfold der_as_list; dsimp only
  refine q_when (et_not (et_B (ev_cb (ea_cons (ev_var rfl) (ea_cons ev_c ea_nil)) (isi_list (k := true) hS "list" (by decide +kernel))))) (fun h => by cases h) fun _ H1 e1 => ?_
  exact s_ret (ev_var rfl) fun H2 e2 => q H2 (e1.trans e2)
theorem sv_asList {H : Hp} {a : Addr} {xs : List V} (h : SqL K H a xs) : SpV (spAsList K) [.ref a] H (.ref a) := fun H1 e Q q E => ⟨a, xs, rfl, ex_l e h, q⟩
/-! ### crowd_of -/
def spCrowd (K : PySem.W.Frag) : Sp := fun vs H Q _ => ∃ (p : Nat) (a : Addr) (ws : List Nat), vs = [nat p, .ref a] ∧ SqL K H a (vn ws) ∧ p ≤ 40000 ∧ (∀ x ∈ ws, x < p) ∧ RetV (.int (crowd p ws)) H Q
theorem ok_crowd_of {fd fd1 : FuncData} (F : FnP K "crowd_of" s_crowd_of fd) (B : Bi mg) (C1 : Cal P w K mg base CX0 1 "counted" P_counted (spCounted K) fd1) : FnOk P w K mg base CX0 2 (ga K "crowd_of") fd P_crowd_of (spCrowd K) := by
  refine F.ok sc_crowd_of (fun vs H Q E h => ?_) (fun cdv A outer s H vs Q E hr h => ⟨der_crowd_of B C1 hr, ?_⟩)
  · obtain ⟨p, a, ws, rfl, _⟩ := h; rfl
  obtain ⟨p, a, ws, rfl, hS, hp, hw, q⟩ := h
  unfold der_crowd_of; dsimp only
  refine q_asgL (el_call (ea_cons (ev_var rfl) (ea_cons (ev_var rfl) ea_nil)) (sl_counted hS hp hw)) fun l H1 hl e1 h1 => ?_
  refine q_asg ev_c fun H2 e2 => ?_
  refine q_asg (ev_un ev_c ru_neg) fun H3 e3 => ?_
  refine q_forRev (n := p) (ev_var rfl) (by omega) (fun k σ' H' => k ≤ p ∧ ∃ v, σ' = [some (nat p), some (.ref a), some (.ref l), some (nat (ge ws k)), some (.int (crow p ws (p - k))), v] ∧ Ex H1 H') (fun H4 e4 => ?_) (fun i σ' H' hi hI => ?_) (fun σ' H' hI => ?_)
  · refine ⟨Nat.le_refl _, none, ?_, (e2.trans e3).trans e4⟩
    rw [ge_top hw, Nat.sub_self]
    rfl
  · obtain ⟨_, v, rfl, e⟩ := hI
    have g := vn_get (cnts_get (ws := ws) hi)
    refine q_asg (ev_add (k := (ge ws i : Int)) (ev_var rfl) (ev_ixN (ev_var rfl) (ev_var rfl) (sq_of (e l _ h1)) g) (by rw [ge_succ ws i]; omega)) fun H5 e5 => ?_
    have ec : crow p ws (p - i) = if p - i < ge ws i then (i : Int) else crow p ws (p - (i + 1)) := by
      have e6 : p - i = (p - (i + 1)) + 1 := by omega
      rw [e6]
      show (if p - (p - ((p - (i + 1)) + 1)) < ge ws (p - ((p - (i + 1)) + 1)) then ((p - ((p - (i + 1)) + 1) : Nat) : Int) else _) = _
      have e7 : p - ((p - (i + 1)) + 1) = i := by omega
      rw [e7]
      have e8 : p - i = p - (i + 1) + 1 := by omega
      rw [e8]
    refine s_ifAsg (v := .int (crow p ws (p - i))) (et_test (ev_cmp (b := decide (p - i < ge ws i)) (ev_var rfl) (ev_sub (ev_var rfl) (ev_var rfl) rfl) ?_)) (fun hb => ?_) (fun hb => ?_) fun H6 e6 => ?_
    · rw [decide_eq_decide]
      omega
    · rw [ec, if_pos (of_decide_eq_true hb)]
      exact ev_var rfl
    · rw [ec, if_neg (of_decide_eq_false hb)]
      rfl
    · exact ⟨by omega, _, rfl, (e.trans e5).trans e6⟩
  · obtain ⟨_, v, rfl, e⟩ := hI
    exact s_ret (ev_var rfl) fun H5 e5 => q H5 ((e1.trans e).trans e5)
theorem sv_crowd {H : Hp} {a : Addr} {p : Nat} {ws : List Nat} (h : SqL K H a (vn ws)) (hp : p ≤ 40000) (hw : ∀ x ∈ ws, x < p) : SpV (spCrowd K) [nat p, .ref a] H (.int (crowd p ws)) := fun H1 e Q q E => ⟨p, a, ws, rfl, ex_l e h, hp, hw, q⟩
/-! ### all_parked, drives -/
/-- TooMany where they are not full -/
abbrev RetT (K : PySem.W.Frag) (x : Str) (H : Hp) (E : XK) : Prop := ∀ H2, Ex H H2 → E (.ref (ga K x)) none H2
def spAllParked (K : PySem.W.Frag) : Sp := fun vs H Q E => ∃ (a : Addr) (ws : List Nat), vs = [.ref a] ∧ SqL K H a (vn ws) ∧ ws.length ≤ 40000 ∧ (∀ x ∈ ws, x < ws.length) ∧ (Full ws → RetV .non H Q) ∧ (¬ Full ws → RetT K "TooMany" H E)
theorem ok_all_parked {fd fd1 fd2 : FuncData} (F : FnP K "all_parked" s_all_parked fd) (B : Bi mg) (C1 : Cal P w K mg base CX0 2 "asked_wishes" P_asked_wishes (spAsked K) fd1) (C2 : Cal P w K mg base CX0 2 "crowd_of" P_crowd_of (spCrowd K) fd2) (X1 : ExcF K mg "TooMany") :
    FnOk P w K mg base (L2N.CX P w) 3 (ga K "all_parked") fd P_all_parked (spAllParked K) := by
  refine F.okX sc_all_parked (fun vs H Q E h => ?_) (fun cdv A outer s H vs Q E hr h => ⟨der_all_parked B C1 C2 X1 hr, ?_⟩)
  · obtain ⟨a, ws, rfl, _⟩ := h; rfl
  obtain ⟨a, ws, rfl, hS, hl, hw, q, qE⟩ := h
  unfold der_all_parked; dsimp only
  have hm : ∀ x ∈ ws, x < Nat.max ws.length 1 := fun x hx => Nat.lt_of_lt_of_le (hw x hx) (Nat.le_max_left _ _)
  have hm1 : 1 ≤ Nat.max ws.length 1 := Nat.le_max_right _ _
  have hm2 : Nat.max ws.length 1 ≤ 1000000 := Nat.max_le.mpr ⟨by omega, by omega⟩
  refine q_drop (ev_call (vs := [nat (Nat.max ws.length 1), .ref a]) (ea_cons (ev_maxN (ev_lenS (ev_var rfl) hS (by rw [List.length_map])) (ev_c (v := nat 1)) rfl) (ea_cons (ev_var rfl) ea_nil)) (sv_asked hm1 hm2 hS hl hm)) fun H1 e1 => ?_
  have t1 : Ev (tOp (rNeD K) (tVar 0) (tLst tNil)) (L2.start N_all_parked [.ref a]) H1 (.bl (!decide (ws = []))) := ev_neLN (ms := []) (ev_var rfl) (ex_l e1 hS) (el_lst ea_nil (Nat.zero_le _))
  refine s_when (et_and (et_test t1) fun _ => et_test (ev_cmp (b := decide (0 ≤ crowd ws.length ws)) (ev_call (vs := [nat ws.length, .ref a]) (ea_cons (ev_lenS (ev_var rfl) (ex_l e1 hS) (by rw [List.length_map])) (ea_cons (ev_var rfl) ea_nil)) (sv_crowd (ex_l e1 hS) hl hw)) ev_c rfl)) (fun h H2 e2 => ?_) fun h H2 e2 => ?_
  · rw [Bool.and_eq_true, decide_eq_true_eq] at h
    refine qE (fun F => ?_) H2 (e1.trans e2)
    have := crowd_no F.no
    omega
  · refine q ?_ H2 (e1.trans e2)
    by_cases he : ws = []
    · subst he
      exact ⟨hw, fun i hi => by have : i = 0 := Nat.le_zero.mp hi
                                omega⟩
    · have h2 : decide (0 ≤ crowd ws.length ws) = false := by simpa [he] using h
      exact Full.of hw (crowd_neg.mp (by have := of_decide_eq_false h2; omega))
theorem sp_allParked {H : Hp} {a : Addr} {ws : List Nat} {Q : VK} {E : XK} (h : SqL K H a (vn ws)) (hl : ws.length ≤ 40000) (hw : ∀ x ∈ ws, x < ws.length) (q : Full ws → RetV .non H Q) (qE : ¬ Full ws → RetT K "TooMany" H E) : spAllParked K [.ref a] H Q E := ⟨a, ws, rfl, h, hl, hw, q, qE⟩
theorem lit_u : (Str.ofString "u") = S [117] := by rfl
theorem lit_d : (Str.ofString "d") = S [100] := by rfl
theorem lit_nil : (Str.ofString "") = S [] := by rfl
theorem ev_lit {σ : L2.St} {H : Hp} {z : Str} {cs : List Nat} (h : z = S cs) : Ev (tC (.str z)) σ H (.str (S cs)) := ev_is ev_c (by rw [h])
theorem joinL_nil : ∀ ys : List (List Nat), TL.joinL [] ys = ys.flatten
  | [] => rfl
  | [p] => by simp [TL.joinL]
  | p :: q :: r => by
    show p ++ ([] ++ TL.joinL [] (q :: r)) = _
    rw [joinL_nil (q :: r)]
    rfl
theorem pathL_len : ∀ cs : List Nat, (pathL cs).length = cs.sum + cs.length
  | [] => rfl
  | c :: r => by
    rw [pathL_cons, List.length_append, List.length_replicate, List.length_cons, pathL_len r, List.sum_cons, List.length_cons]
    omega
theorem cnts_sum {ws : List Nat} {p : Nat} (h : ∀ x ∈ ws, x < p) : (cnts p ws).sum = ws.length := by
  have key : ∀ k, ((List.range k).map fun i => ws.count i).sum = lt ws k := by
    intro k
    induction k with
    | zero => rw [lt_zero]; rfl
    | succ k ih =>
      rw [List.range_succ, List.map_append, List.sum_append, ih, lt_succ]
      simp
  unfold cnts
  rw [key, lt_all h]
theorem steps_len (cs : List Nat) : ((cs.map step1).map (·.length)).sum = cs.sum + cs.length := by
  induction cs with
  | nil => rfl
  | cons c r ih =>
    rw [List.map_cons, List.map_cons, List.sum_cons, ih, List.sum_cons, List.length_cons]
    unfold step1
    rw [List.length_append, List.length_replicate]
    simp only [List.length_singleton]
    omega
theorem mem_le_sum : ∀ {l : List Nat} {x : Nat}, x ∈ l → x ≤ l.sum
  | y :: r, x, h => by
    rw [List.sum_cons]
    rcases List.mem_cons.mp h with e | h
    · omega
    · have := mem_le_sum h
      omega
theorem S_eq {a b : List Nat} : decide (V.str (S a) = V.str (S b)) = decide (a = b) := by
  rw [decide_eq_decide]
  exact ⟨fun h => SX.S_inj (V.str.inj h), fun h => by rw [h]⟩
theorem ev_eqS {σ : L2.St} {H : Hp} {ta tb : TE} {a b : List Nat} (ha : Ev ta σ H (.str (S a))) (hb : Ev tb σ H (.str (S b))) : Ev (tOp rEq ta tb) σ H (.bl (decide (a = b))) := by
  have k := ev_op (r := rEq) ha hb (rv_eq rfl)
  rw [S_eq] at k
  exact k
theorem ev_neS {σ : L2.St} {H : Hp} {ta tb : TE} {a b : List Nat} (ha : Ev ta σ H (.str (S a))) (hb : Ev tb σ H (.str (S b))) : Ev (tOp rNe ta tb) σ H (.bl (!decide (a = b))) := by
  have k := ev_op (r := rNe) ha hb (rv_ne rfl)
  rw [S_eq] at k
  exact k
theorem one_eq {a b : Nat} : decide ([a] = [b]) = decide (a = b) := by
  rw [decide_eq_decide]
  exact ⟨fun h => by injection h, fun h => by rw [h]⟩
theorem cut_hi {xs : List V} {n : Nat} (h : xs.length ≤ n) : cutV xs none (some (n : Int)) = xs := by
  unfold cutV
  rw [HT.sIx_none, show HT.sIx xs.length xs.length (some (n : Int)) = min n xs.length from HT.sIx_nat xs.length xs.length n]
  rw [show min n xs.length - 0 = xs.length by omega]
  show (xs.drop 0).take xs.length = xs
  rw [List.drop_zero, List.take_length]
/-- script[:1000] -/
theorem el_cut {σ : L2.St} {H : Hp} {te : TE} {a : Addr} {xs : List V} (ha : Ev te σ H (.ref a)) (h : SqL K H a xs) (hl : xs.length ≤ 1000) : EvL (tSl (rSlL K) te tNoPart (tPart (tC (.int 1000)))) σ H xs := by
  have k := el_sl ha eo_none (eo_some (i := 1000) (te := tC (.int 1000)) ev_c) h
  rw [show ((1000 : Int)) = ((1000 : Nat) : Int) from rfl, cut_hi hl] at k
  exact k
theorem vn_cells (ns : List Int) {m : Nat} (hm : 0 < m) : (ns.map fun c => V.int (c % (m : Int))) = vn (cells ns m) := by
  unfold vn cells
  rw [List.map_map]
  refine List.map_congr_left fun c _ => ?_
  show V.int _ = V.int (((c % (m : Int)).toNat : Nat) : Int)
  have := Int.emod_nonneg c (show (m : Int) ≠ 0 from by omega)
  congr 1
  omega
/-! ### path -/
def spPath (K : PySem.W.Frag) : Sp := fun vs H Q E => ∃ (a : Addr) (ws : List Nat), vs = [.ref a] ∧ SqL K H a (vn ws) ∧ ws.length ≤ 20000 ∧ (∀ x ∈ ws, x < ws.length) ∧ (Full ws → RetV (.str (S (pathL (cnts ws.length ws)))) H Q) ∧ (¬ Full ws → RetT K "TooMany" H E)
theorem ok_path {fd fd1 fd2 fd3 : FuncData} (F : FnP K "path" s_path fd) (B : Bi mg) (C1 : Cal P w K mg base (L2N.CX P w) 3 "all_parked" P_all_parked (spAllParked K) fd1) (C2 : Cal P w K mg base CX0 1 "as_list" P_as_list (spAsList K) fd2) (C3 : Cal P w K mg base CX0 1 "counted" P_counted (spCounted K) fd3) :
    FnOk P w K mg base (L2N.CX P w) 4 (ga K "path") fd P_path (spPath K) := by
  refine F.okX sc_path (fun vs H Q E h => ?_) (fun cdv A outer s H vs Q E hr h => ⟨der_path B C1 C2 C3 hr, ?_⟩)
  · obtain ⟨a, ws, rfl, _⟩ := h; rfl
  obtain ⟨a, ws, rfl, hS, hl, hw, q, qE⟩ := h
  unfold der_path; dsimp only
  refine q_callX (ea_cons (ev_call (ea_cons (ev_var rfl) ea_nil) (sv_asList hS)) ea_nil) fun H1 e1 => ?_
  refine sp_allParked (ex_l e1 hS) (by omega) hw (fun hF H2 e2 => ?_) fun hF H2 e2 => qE hF H2 (e1.trans e2)
  have e3 := e1.trans e2
  refine q_when (et_test (ev_eqLN (ms := []) (ev_var rfl) (ex_l e3 hS) (el_lst ea_nil (Nat.zero_le _)))) (fun h H4 e4 => ?_) fun h H4 e4 => ?_
  · have hn := of_decide_eq_true h
    subst hn
    exact s_ret (ev_lit lit_nil) fun H5 e5 => q hF H5 ((e3.trans e4).trans e5)
  · have e5 := e3.trans e4
    have hz : ((cnts ws.length ws).map step1).length ≤ 40000 := by rw [List.length_map, cnts_len]; omega
    have hs := cnts_sum hw
    have tl : EvL (tLc (iList K (tCall (spCounted K) [] E0 (tCons (tCB (rLenS K) (tCons (tVar 0) tNil)) (tCons (tVar 0) tNil)))) (gName 1) tYes (tOp (fun x y H Q => ∃ i j, x = .str i ∧ y = .str j ∧ i.length + j.length ≤ sizeLine ∧ Q (.str (i ++ j)) H) (tOp rMulS (tC (.str (Str.ofString "u"))) (tVar 1)) (tC (.str (Str.ofString "d")))) [1]) (L2.start N_path [.ref a]) H4 (((cnts ws.length ws).map step1).map fun y => V.str (S y)) := by
      rw [List.map_map]
      refine el_nl nat _ (el_call (vs := [nat ws.length, .ref a]) (ea_cons (ev_lenS (ev_var rfl) (ex_l e5 hS) (by rw [List.length_map])) (ea_cons (ev_var rfl) ea_nil)) (sl_counted (ex_l e5 hS) (by omega) hw)) (by rw [cnts_len]; omega) (fun _ => rfl) fun i y H6 e6 hy => ?_
      have hy2 : y ≤ ws.length := by
        have h1 : y ≤ (cnts ws.length ws).sum := mem_le_sum (List.mem_of_getElem? hy)
        omega
      exact ev_catS (a := List.replicate y 117) (b := [100]) (ev_mulS (ev_lit lit_u) (ev_var rfl) (by omega)) (ev_lit lit_d) (by rw [List.length_replicate]; simp only [List.length_singleton]; omega)
    have tj := ev_joinL (K := K) (ev_lit (σ := L2.start N_path [.ref a]) (H := H4) lit_nil) tl (by rw [steps_len, hs, cnts_len]; simp only [List.length_nil, Nat.mul_zero]; omega)
    rw [joinL_nil] at tj
    exact s_ret tj fun H7 e7 => q hF H7 (e5.trans e7)
/-! ### heights -/
def spHeights (K : PySem.W.Frag) : Sp := fun vs H Q E => ∃ cs : List Nat, vs = [.str (S cs)] ∧ cs.length ≤ 90000 ∧ (∀ hs, hgo cs 0 = some hs → RetL (vn hs) H Q) ∧ (hgo cs 0 = none → RetT K "BadPath" H E)
theorem hgo_len : ∀ (cs : List Nat) (h : Nat) (hs : List Nat), hgo cs h = some hs → hs.length ≤ cs.length
  | [], h, hs, e => by
    unfold hgo at e
    split at e
    · cases e; exact Nat.le_refl _
    · cases e
  | c :: r, h, hs, e => by
    unfold hgo at e
    split at e
    · have := hgo_len r _ hs e
      rw [List.length_cons]; omega
    · split at e
      · cases e2 : hgo r (h - 1) with
        | none => rw [e2] at e; cases e
        | some gs =>
          rw [e2] at e
          have e3 : (h - 1) :: gs = hs := Option.some.inj e
          have := hgo_len r _ gs e2
          rw [← e3, List.length_cons, List.length_cons]; omega
      · cases e
theorem ok_heights {fd : FuncData} (F : FnP K "heights" s_heights fd) (B : Bi mg) (X1 : ExcF K mg "BadPath") : FnOk P w K mg base (L2N.CX P w) 1 (ga K "heights") fd P_heights (spHeights K) := by
  refine F.okX sc_heights (fun vs H Q E h => ?_) (fun cdv A outer s H vs Q E hr h => ⟨der_heights B X1 hr, ?_⟩)
  · obtain ⟨cs, rfl, _⟩ := h; rfl
  obtain ⟨cs, rfl, hl, q, qE⟩ := h
  unfold der_heights; dsimp only
  refine q_when (et_not (et_B (ev_cb (ea_cons (ev_var rfl) (ea_cons ev_c ea_nil)) (isi_str (k := true) "str" (by decide +kernel))))) (fun h => by cases h) fun _ H1 e1 => ?_
  refine q_asg ev_c fun H2 e2 => ?_
  refine q_asgL (el_lst (vs := vn []) ea_nil (Nat.zero_le _)) fun l H3 hl3 e3 h3 => ?_
  have hln : H l = none := fresh_back (e1.trans e2) hl3
  refine q_forS (ev_var rfl) (fun pre σ' H' => ∃ (h : Nat) (f : List Nat) (v : Option V), σ' = [some (.str (S cs)), some (nat h), some (.ref l), v] ∧ f.length ≤ pre.length ∧ Ex H H' ∧ H' l = some (.lst (vn f)) ∧ ∀ post, cs = pre ++ post → hgo cs 0 = (hgo post h).map (f ++ ·)) (fun H4 e4 => ?_) (fun pre c post σ' H' hcs hI => ?_) (fun σ' H' hI => ?_)
  · refine ⟨0, [], none, rfl, Nat.le_refl _, ((e1.trans e2).trans e3).trans e4, e4 l _ h3, fun post hp => ?_⟩
    rw [hp]
    show hgo post 0 = _
    cases hgo post 0 <;> rfl
  · obtain ⟨h, f, v, rfl, hfl, e, h4, inv⟩ := hI
    have hinv := inv (c :: post) hcs
    have hpl : pre.length < 90000 := by
      have : cs.length = pre.length + (post.length + 1) := by rw [hcs, List.length_append, List.length_cons]
      omega
    refine s_if (b := decide (c = 117)) (et_test (ev_is (ev_eqS (a := [c]) (b := [117]) (ev_var rfl) (ev_lit lit_u)) (by rw [one_eq]))) (fun hb H5 e5 => ?_) (fun hb H5 e5 => ?_)
    · have hc := of_decide_eq_true hb
      refine s_asg (v := nat (h + 1)) (ev_add (ev_var rfl) ev_c (by omega)) fun H6 e6 => ?_
      refine ⟨h + 1, f, _, rfl, by rw [List.length_append]; omega, (e.trans e5).trans e6, e6 l _ (e5 l _ h4), fun p2 hp2 => ?_⟩
      rw [List.append_assoc, List.singleton_append] at hp2
      have e7 : c :: post = c :: p2 := List.append_cancel_left (hcs.symm.trans hp2)
      have e8 : post = p2 := by injection e7
      rw [hinv, e8]
      show (if c = 117 then hgo p2 (h + 1) else _).map (f ++ ·) = _
      rw [if_pos hc]
    · have hc := of_decide_eq_false hb
      refine s_if (b := decide (c = 100 ∧ 0 < h)) (et_is (et_and (et_test (ev_eqS (a := [c]) (b := [100]) (ev_var rfl) (ev_lit lit_d))) (fun _ => et_test (ev_cmp (b := decide (0 < h)) (i := (h : Int)) (j := 0) (ev_var rfl) ev_c (by rw [decide_eq_decide]; omega)))) (by rw [one_eq, Bool.decide_and])) (fun hb2 H6 e6 => ?_) (fun hb2 H6 e6 => ?_)
      · have hd := of_decide_eq_true hb2
        refine q_asg (v := nat (h - 1)) (ev_sub (i := (h : Int)) (j := 1) (ev_var rfl) ev_c (by omega)) fun H7 e7 => ?_
        refine s_app (xs := vn f) ((e5.trans (e6.trans e7)) l _ h4) (ev_var rfl) (ev_var rfl) (by rw [List.length_map]; omega) fun H8 e8 => ?_
        have e9 := ((e.trans e5).trans (e6.trans e7)).trans e8
        refine ⟨h - 1, f ++ [h - 1], _, rfl, by rw [List.length_append, List.length_append]; simp only [List.length_singleton]; omega, Ex.mut e9 hln, by rw [upd_same]; unfold vn; rw [List.map_append]; rfl, fun p2 hp2 => ?_⟩
        rw [List.append_assoc, List.singleton_append] at hp2
        have e10 : c :: post = c :: p2 := List.append_cancel_left (hcs.symm.trans hp2)
        have e11 : post = p2 := by injection e10
        rw [hinv, e11]
        show (if c = 117 then _ else if c = 100 ∧ 0 < h then (hgo p2 (h - 1)).map ((h - 1) :: ·) else none).map (f ++ ·) = _
        rw [if_neg hc, if_pos hd, Option.map_map]
        congr 1
        funext x
        simp
      · have hd := of_decide_eq_false hb2
        refine qE ?_ H6 ((e.trans e5).trans e6)
        rw [hinv]
        show (if c = 117 then _ else if c = 100 ∧ 0 < h then (hgo post (h - 1)).map ((h - 1) :: ·) else none).map (f ++ ·) = _
        rw [if_neg hc, if_neg hd]
        rfl
  · obtain ⟨h, f, v, rfl, hfl, e, h4, inv⟩ := hI
    have hinv := inv [] (List.append_nil _).symm
    refine q_when (b := !decide (h = 0)) (et_test (ev_is (ev_neInt (i := (h : Int)) (j := 0) (ev_var rfl) ev_c) (by congr 2; rw [decide_eq_decide]; omega))) (fun hb H5 e5 => ?_) (fun hb H5 e5 => ?_)
    · refine qE ?_ H5 (e.trans e5)
      have hne : ¬ h = 0 := by simpa using hb
      rw [hinv]
      unfold hgo
      rw [if_neg hne]
      rfl
    · have he : h = 0 := by simpa using hb
      refine s_ret (ev_var rfl) fun H6 e6 => q f ?_ l H6 hln ((e.trans e5).trans e6) (e6 l _ (e5 l _ h4))
      rw [hinv]
      unfold hgo
      rw [if_pos he]
      simp
theorem sp_heights {H : Hp} {cs : List Nat} {Q : VK} {E : XK} (hl : cs.length ≤ 90000) (q : ∀ hs, hgo cs 0 = some hs → RetL (vn hs) H Q) (qE : hgo cs 0 = none → RetT K "BadPath" H E) : spHeights K [.str (S cs)] H Q E := ⟨cs, rfl, hl, q, qE⟩
/-! ### beneath, rising -/
theorem s_retCB {r : List V → Hp → VK → Prop} {D : Ends} {σ : L2.St} {H : Hp} {sp : Sp} {dvs vs : List V} {E : XK} {ta : TA} (h : EvA ta σ H vs) (k : ∀ H1, Ex H H1 → sp (vs ++ dvs) H1 (fun x H2 => r [x] H2 D.rt) E) : tRet (tCB r (tCons (tCall sp dvs E ta) tNil)) D σ H := h H (Ex.refl H) _ fun H1 e => k H1 e
def spBeneath (K : PySem.W.Frag) : Sp := fun vs H Q E => ∃ cs : List Nat, vs = [.str (S cs)] ∧ cs.length ≤ 90000 ∧ (∀ hs, hgo cs 0 = some hs → RetV (nat hs.sum) H Q) ∧ (hgo cs 0 = none → RetT K "BadPath" H E)
theorem ok_beneath {fd fd1 : FuncData} (F : FnP K "beneath" s_beneath fd) (B : Bi mg) (C1 : Cal P w K mg base (L2N.CX P w) 1 "heights" P_heights (spHeights K) fd1) : FnOk P w K mg base (L2N.CX P w) 2 (ga K "beneath") fd P_beneath (spBeneath K) := by
  refine F.okX sc_beneath (fun vs H Q E h => ?_) (fun cdv A outer s H vs Q E hr h => ⟨der_beneath B C1 hr, ?_⟩)
  · obtain ⟨cs, rfl, _⟩ := h; rfl
  obtain ⟨cs, rfl, hl, q, qE⟩ := h
  unfold der_beneath; dsimp only
  refine s_retCB (vs := [.str (S cs)]) (ea_cons (ev_var rfl) ea_nil) fun H1 e1 => ?_
  refine sp_heights hl (fun hs hh p H2 hp e2 h2 => ?_) fun hn H2 e2 => qE hn H2 (e1.trans e2)
  refine ⟨p, hs.map fun (n : Nat) => (n : Int), rfl, sq_of (by rw [h2, vn_vi]), ?_⟩
  rw [sum_nat]
  exact q hs hh H2 (e1.trans e2)
def spRising (K : PySem.W.Frag) : Sp := fun vs H Q E => ∃ cs : List Nat, vs = [.str (S cs)] ∧ cs.length ≤ 90000 ∧ ((∃ hs, hgo cs 0 = some hs) → RetL (vn (ris cs 0)) H Q) ∧ (hgo cs 0 = none → RetT K "BadPath" H E)
theorem ok_rising {fd fd1 : FuncData} (F : FnP K "rising" s_rising fd) (C1 : Cal P w K mg base (L2N.CX P w) 1 "heights" P_heights (spHeights K) fd1) : FnOk P w K mg base (L2N.CX P w) 2 (ga K "rising") fd P_rising (spRising K) := by
  refine F.okX sc_rising (fun vs H Q E h => ?_) (fun cdv A outer s H vs Q E hr h => ⟨der_rising C1 hr, ?_⟩)
  · obtain ⟨cs, rfl, _⟩ := h; rfl
  obtain ⟨cs, rfl, hl, q, qE⟩ := h
  unfold der_rising; dsimp only
  refine q_callX (vs := [.str (S cs)]) (ea_cons (ev_var rfl) ea_nil) fun H1 e1 => ?_
  refine sp_heights hl (fun hs hh p H2 hp e2 h2 => ?_) fun hn H2 e2 => qE hn H2 (e1.trans e2)
  have e12 := e1.trans e2
  refine q_asgL (el_lst (vs := vn []) ea_nil (Nat.zero_le _)) fun l H3 hl3 e3 h3 => ?_
  have hln : H l = none := fresh_back e12 hl3
  refine q_asg ev_c fun H4 e4 => ?_
  refine q_forS (ev_var rfl) (fun pre σ' H' => ∃ (pl : Nat) (f : List Nat) (v : Option V), σ' = [some (.str (S cs)), some (.ref l), some (nat pl), v] ∧ f.length ≤ pre.length ∧ Ex H H' ∧ H' l = some (.lst (vn f)) ∧ ∀ post, cs = pre ++ post → ris cs 0 = f ++ ris post pl) (fun H5 e5 => ?_) (fun pre c post σ' H' hcs hI => ?_) (fun σ' H' hI => ?_)
  · refine ⟨0, [], none, rfl, Nat.le_refl _, ((e12.trans e3).trans e4).trans e5, e5 l _ (e4 l _ h3), fun post hp => ?_⟩
    rw [hp]
    rfl
  · obtain ⟨pl, f, v, rfl, hfl, e, h4, inv⟩ := hI
    have hinv := inv (c :: post) hcs
    have hpl : pre.length < 90000 := by
      have : cs.length = pre.length + (post.length + 1) := by rw [hcs, List.length_append, List.length_cons]
      omega
    have step : ∀ p2, cs = pre ++ [c] ++ p2 → post = p2 := fun p2 hp2 => by
      rw [List.append_assoc, List.singleton_append] at hp2
      have e7 : c :: post = c :: p2 := List.append_cancel_left (hcs.symm.trans hp2)
      injection e7
    refine s_if (b := decide (c = 117)) (et_test (ev_is (ev_eqS (a := [c]) (b := [117]) (ev_var rfl) (ev_lit lit_u)) (by rw [one_eq]))) (fun hb H5 e5 => ?_) (fun hb H5 e5 => ?_)
    · have hc := of_decide_eq_true hb
      refine s_app (xs := vn f) (e5 l _ h4) (ev_var rfl) (ev_var rfl) (by rw [List.length_map]; omega) fun H8 e8 => ?_
      refine ⟨pl, f ++ [pl], _, rfl, by rw [List.length_append, List.length_append]; simp only [List.length_singleton]; omega, Ex.mut ((e.trans e5).trans e8) hln, by rw [upd_same]; unfold vn; rw [List.map_append]; rfl, fun p2 hp2 => ?_⟩
      rw [hinv, step p2 hp2]
      show f ++ (if c = 117 then pl :: ris p2 pl else _) = _
      rw [if_pos hc, List.append_assoc]
      rfl
    · have hc := of_decide_eq_false hb
      refine s_asg (v := nat (pl + 1)) (ev_add (ev_var rfl) ev_c (by omega)) fun H6 e6 => ?_
      refine ⟨pl + 1, f, _, rfl, by rw [List.length_append]; omega, (e.trans e5).trans e6, e6 l _ (e5 l _ h4), fun p2 hp2 => ?_⟩
      rw [hinv, step p2 hp2]
      show f ++ (if c = 117 then _ else ris p2 (pl + 1)) = _
      rw [if_neg hc]
  · obtain ⟨pl, f, v, rfl, hfl, e, h4, inv⟩ := hI
    have hinv := inv [] (List.append_nil _).symm
    refine s_ret (ev_var rfl) fun H6 e6 => q ⟨hs, hh⟩ l H6 hln (e.trans e6) ?_
    rw [hinv]
    show H6 l = some (.lst (vn (f ++ [])))
    rw [List.append_nil]
    exact e6 l _ h4
end
end Pk
namespace Pk
open PySem PySem.Spec PyProof.Rows L2 Evl He
section
variable {P : Program} {w : World} {K : PySem.W.Frag} {mg : Str → Option Value} {base : Heap}
open SX (S)
/-! ### a drawn path -/
theorem ev_joinE {σ : L2.St} {H : Hp} {ta tb : TE} {a : List Nat} {ys : List (List Nat)} {p : Addr} (ha : Ev ta σ H (.str (S a))) (hb : Ev tb σ H (.ref p)) (hp : SqL K H p (ys.map fun y => V.str (S y))) (hz : (ys.map (·.length)).sum + ys.length * a.length ≤ 16777216) :
    Ev (tM1 (rJoin K) ta tb) σ H (.str (S (TL.joinL a ys))) := fun H1 e Q q =>
  ha H1 e _ fun H2 e2 => ⟨⟨_, rfl⟩, hb H2 (e.trans e2) _ fun H3 e3 => ⟨S a, p, ys.map S, rfl, rfl, .inl (by rw [List.map_map]; exact ex_l ((e.trans e2).trans e3) hp), by
    rw [List.map_map, List.length_map, SX.S_len]
    have e4 : ((fun y : Str => y.length) ∘ S) = fun y : List Nat => y.length := funext fun y => SX.S_len y
    rw [e4]
    exact hz, by rw [SX.join_S]; exact q H3 (e2.trans e3)⟩⟩
def dgo : List Int → Nat → List Nat × Nat
  | [], h => ([], h)
  | c :: r, h => if h = 0 ∨ c % 2 = 0 then (117 :: (dgo r (h + 1)).1, (dgo r (h + 1)).2) else (100 :: (dgo r (h - 1)).1, (dgo r (h - 1)).2)
theorem dgo_len : ∀ (ns : List Int) (h : Nat), (dgo ns h).1.length = ns.length ∧ (dgo ns h).2 ≤ h + ns.length
  | [], h => ⟨rfl, Nat.le_refl _⟩
  | c :: r, h => by
    have h1 := dgo_len r (h + 1)
    have h2 := dgo_len r (h - 1)
    unfold dgo
    rw [List.length_cons]
    split
    · rw [List.length_cons]
      omega
    · rw [List.length_cons]
      omega
def drawnL (ns : List Int) : List Nat := (dgo ns 0).1 ++ List.replicate (dgo ns 0).2 100
theorem drawnL_len (ns : List Int) : (drawnL ns).length ≤ 2 * ns.length := by
  have h := dgo_len ns 0
  unfold drawnL
  rw [List.length_append, List.length_replicate]
  omega
def spDrawn (K : PySem.W.Frag) : Sp := fun vs H Q _ => ∃ (a : Addr) (ns : List Int), vs = [.ref a] ∧ SqL K H a (vi ns) ∧ ns.length ≤ 1000 ∧ RetV (.str (S (drawnL ns))) H Q
theorem flat_ones (f : List Nat) : (f.map fun c => [c]).flatten = f := by
  induction f with
  | nil => rfl
  | cons c r ih => rw [List.map_cons, List.flatten_cons, ih]; rfl
theorem len_ones (f : List Nat) : ((f.map fun c => [c]).map (·.length)).sum = f.length := by
  induction f with
  | nil => rfl
  | cons c r ih =>
    rw [List.map_cons, List.map_cons, List.sum_cons, ih, List.length_cons]
    show 1 + r.length = r.length + 1
    omega
theorem ok_law_drawn {fd : FuncData} (F : FnP K "_law_drawn" s_law_drawn fd) : FnOk P w K mg base CX0 1 (ga K "_law_drawn") fd P_law_drawn (spDrawn K) := by
  refine F.ok sc_law_drawn (fun vs H Q E h => ?_) (fun cdv A outer s H vs Q E hr h => ⟨der_law_drawn hr, ?_⟩)
  · obtain ⟨a, ns, rfl, _⟩ := h; rfl
  obtain ⟨a, ns, rfl, hS, hl, q⟩ := h
  have hlv : (vi ns).length ≤ 1000 := by rw [List.length_map]; exact hl
  unfold der_law_drawn; dsimp only
  refine q_asgL (el_lst (vs := ([] : List Nat).map fun c => V.str (S [c])) ea_nil (Nat.zero_le _)) fun l H1 hln e1 h1 => ?_
  refine q_asg ev_c fun H2 e2 => ?_
  refine q_forNP V.int (el_cut (ev_var rfl) (ex_l (e1.trans e2) hS) hlv) (fun p pre σ' H' => ∃ (h : Nat) (f : List Nat) (v : Option V), σ' = [some (.ref a), some (.ref l), some (nat h), v] ∧ f.length = pre.length ∧ Ex H H' ∧ H' p = some (.lst (vi ns)) ∧ p ≠ l ∧ H p = none ∧ H' l = some (.lst (f.map fun c => V.str (S [c]))) ∧ ∀ post, ns = pre ++ post → dgo ns 0 = (f ++ (dgo post h).1, (dgo post h).2)) (fun p H3 hp e3 h3 => ?_) (fun p pre σ' H' hI => ?_) (fun p pre c post σ' H' hcs hI => ?_) (fun p σ' H' hI => ?_)
  · refine ⟨0, [], none, rfl, rfl, (e1.trans e2).trans e3, h3, (ne_of_none (e2 l _ h1) hp).symm, fresh_back (e1.trans e2) hp, e3 l _ (e2 l _ h1), fun post hp => ?_⟩
    rw [hp]
    rfl
  · obtain ⟨h, f, v, rfl, _, _, h3, _⟩ := hI
    exact sq_of h3
  · obtain ⟨h, f, v, rfl, hfl, e, h3, hne, hpn, h4, inv⟩ := hI
    have hinv := inv (c :: post) hcs
    have hpl : pre.length < 1000 := by
      have : ns.length = pre.length + (post.length + 1) := by rw [hcs, List.length_append, List.length_cons]
      omega
    have step : ∀ p2, ns = pre ++ [c] ++ p2 → post = p2 := fun p2 hp2 => by
      rw [List.append_assoc, List.singleton_append] at hp2
      have e7 : c :: post = c :: p2 := List.append_cancel_left (hcs.symm.trans hp2)
      injection e7
    refine s_if (b := decide (h = 0 ∨ c % 2 = 0)) (et_is (et_or (et_test (ev_eqInt (i := (h : Int)) (j := 0) (ev_var rfl) ev_c)) (fun _ => et_test (ev_eqInt (ev_mod (ev_var rfl) ev_c (by decide) rfl) ev_c))) ?_) (fun hb H5 e5 => ?_) (fun hb H5 e5 => ?_)
    · rw [← Bool.decide_or, decide_eq_decide]
      omega
    · have hc := of_decide_eq_true hb
      refine q_app (xs := f.map fun c => V.str (S [c])) (v := .str (S [117])) (e5 l _ h4) (ev_var rfl) (ev_lit lit_u) (by rw [List.length_map]; omega) fun H6 e6 => ?_
      refine s_asg (v := nat (h + 1)) (ev_add (ev_var rfl) ev_c (by omega)) fun H7 e7 => ?_
      have ef : Ex H (upd H6 l (.lst (f.map (fun c => V.str (S [c])) ++ [.str (S [117])]))) := Ex.mut ((e.trans e5).trans e6) hln
      refine ⟨h + 1, f ++ [117], _, rfl, by rw [List.length_append, List.length_append, hfl]; rfl, ef.trans e7, e7 p _ (by rw [upd_ne hne]; exact e6 p _ (e5 p _ h3)), hne, hpn, e7 l _ (by rw [upd_same, List.map_append]; rfl), fun p2 hp2 => ?_⟩
      rw [hinv, step p2 hp2]
      show (f ++ (if h = 0 ∨ c % 2 = 0 then (117 :: (dgo p2 (h + 1)).1, (dgo p2 (h + 1)).2) else _).1, (if h = 0 ∨ c % 2 = 0 then (117 :: (dgo p2 (h + 1)).1, (dgo p2 (h + 1)).2) else _).2) = _
      rw [if_pos hc, List.append_assoc]
      rfl
    · have hc := of_decide_eq_false hb
      refine q_app (xs := f.map fun c => V.str (S [c])) (v := .str (S [100])) (e5 l _ h4) (ev_var rfl) (ev_lit lit_d) (by rw [List.length_map]; omega) fun H6 e6 => ?_
      refine s_asg (v := nat (h - 1)) (ev_sub (i := (h : Int)) (j := 1) (ev_var rfl) ev_c (by omega)) fun H7 e7 => ?_
      have ef : Ex H (upd H6 l (.lst (f.map (fun c => V.str (S [c])) ++ [.str (S [100])]))) := Ex.mut ((e.trans e5).trans e6) hln
      refine ⟨h - 1, f ++ [100], _, rfl, by rw [List.length_append, List.length_append, hfl]; rfl, ef.trans e7, e7 p _ (by rw [upd_ne hne]; exact e6 p _ (e5 p _ h3)), hne, hpn, e7 l _ (by rw [upd_same, List.map_append]; rfl), fun p2 hp2 => ?_⟩
      rw [hinv, step p2 hp2]
      show (f ++ (if h = 0 ∨ c % 2 = 0 then _ else (100 :: (dgo p2 (h - 1)).1, (dgo p2 (h - 1)).2)).1, (if h = 0 ∨ c % 2 = 0 then _ else (100 :: (dgo p2 (h - 1)).1, (dgo p2 (h - 1)).2)).2) = _
      rw [if_neg hc, List.append_assoc]
      rfl
  · obtain ⟨h, f, v, rfl, hfl, e, h3, hne, hpn, h4, inv⟩ := hI
    have hinv := inv [] (List.append_nil _).symm
    have e1 : (dgo ns 0).1 = f := by rw [hinv]; exact List.append_nil f
    have e2 : (dgo ns 0).2 = h := by rw [hinv]; rfl
    have hlen := dgo_len ns 0
    have tj := ev_joinE (K := K) (H := H') (σ := [some (.ref a), some (.ref l), some (nat h), v]) (tb := tVar 1) (ys := f.map fun c => [c]) (ev_lit lit_nil) (ev_var rfl) (sq_of (by rw [List.map_map]; exact h4)) (by rw [len_ones, List.length_map]; simp only [List.length_nil, Nat.mul_zero]; omega)
    rw [joinL_nil, flat_ones] at tj
    refine s_ret (v := .str (S (drawnL ns))) ?_ fun H6 e6 => q H6 (e.trans e6)
    unfold drawnL
    rw [e1, e2]
    exact ev_catS tj (ev_mulS (ev_lit lit_d) (ev_var rfl) (by omega)) (by rw [List.length_replicate]; omega)
theorem sv_drawn {H : Hp} {a : Addr} {ns : List Int} (h : SqL K H a (vi ns)) (hl : ns.length ≤ 1000) : SpV (spDrawn K) [.ref a] H (.str (S (drawnL ns))) := fun H1 e Q q E => ⟨a, ns, rfl, ex_l e h, hl, q⟩
end
end Pk
namespace Pk
open PySem PySem.Spec PyProof.Rows L2 Evl He
section
variable {P : Program} {w : World} {K : PySem.W.Frag} {mg : Str → Option Value} {base : Heap}
open SX (S)
theorem s_ret3L {σ : L2.St} {H : Hp} {ta tb tl : TE} {x y : V} {xs : List V} {D : Ends} (ha : Ev ta σ H x) (hb : Ev tb σ H y) (hl : EvL tl σ H xs) (k : ∀ p q H1, Ex H H1 → H1 p = some (.tup [x, y, .ref q]) → H1 q = some (.lst xs) → D.rt (.ref p) H1) : tRet (tTup (tCons ta (tCons tb (tCons tl tNil)))) D σ H :=
  ha H (Ex.refl H) _ fun H1 e1 => hb H1 e1 _ fun H2 e2 => hl H2 (e1.trans e2) _ fun q H3 hq e3 h3 => ⟨by show 3 ≤ sizeLine; decide, fun p hp => k p q _ (((e1.trans e2).trans e3).trans (Ex.new hp)) upd_same (by rw [upd_ne (ne_of_none h3 hp)]; exact h3)⟩
/-! ### the law's own walk -/
/-- what it tells of a text: a tuple of whether it is a path, what lies beneath, the wishes -/
def Walked (cs : List Nat) (v : V) (H : Hp) : Prop := ∃ (p l : Addr) (g : Bool) (b : Nat) (ws : List Nat), v = .ref p ∧ H p = some (.tup [.bl g, nat b, .ref l]) ∧ H l = some (.lst (vn ws)) ∧ (g = true → ∃ hs, hgo cs 0 = some hs ∧ b = hs.sum ∧ ws = ris cs 0) ∧ (g = false → hgo cs 0 = none)
def spWalked : Sp := fun vs H Q _ => ∃ cs : List Nat, vs = [.str (S cs)] ∧ cs.length ≤ 90000 ∧ ∀ v H2, Ex H H2 → Walked cs v H2 → Q v H2
theorem ok_law_walked {fd : FuncData} (F : FnP K "_law_walked" s_law_walked fd) : FnOk P w K mg base CX0 1 (ga K "_law_walked") fd P_law_walked spWalked := by
  refine F.ok sc_law_walked (fun vs H Q E h => ?_) (fun cdv A outer s H vs Q E hr h => ⟨der_law_walked hr, ?_⟩)
  · obtain ⟨cs, rfl, _⟩ := h; rfl
  obtain ⟨cs, rfl, hl, q⟩ := h
  unfold der_law_walked; dsimp only
  refine q_asg ev_c fun H1 e1 => ?_
  refine q_asg ev_c fun H2 e2 => ?_
  refine q_asg ev_c fun H3 e3 => ?_
  have e13 := (e1.trans e2).trans e3
  refine q_asgL (el_lst (vs := vn []) ea_nil (Nat.zero_le _)) fun l H4 hl4 e4 h4 => ?_
  have hln : H l = none := fresh_back e13 hl4
  refine q_forS (ev_var rfl) (fun pre σ' H' => ∃ (h b pl : Nat) (f : List Nat) (v : Option V), σ' = [some (.str (S cs)), some (nat h), some (nat b), some (nat pl), some (.ref l), v] ∧ f.length ≤ pre.length ∧ Ex H H' ∧ H' l = some (.lst (vn f)) ∧ ∀ post, cs = pre ++ post → (∃ gs, hgo cs 0 = (hgo post h).map (gs ++ ·) ∧ gs.sum = b) ∧ ris cs 0 = f ++ ris post pl) (fun H5 e5 => ?_) (fun pre c post σ' H' hcs hI => ?_) (fun σ' H' hI => ?_)
  · refine ⟨0, 0, 0, [], none, rfl, Nat.le_refl _, (e13.trans e4).trans e5, e5 l _ h4, fun post hp => ⟨⟨[], ?_, rfl⟩, ?_⟩⟩
    · rw [hp]
      show hgo post 0 = _
      cases hgo post 0 <;> rfl
    · rw [hp]
      rfl
  · obtain ⟨h, b, pl, f, v, rfl, hfl, e, h5, inv⟩ := hI
    obtain ⟨⟨gs, hg, hb⟩, hr2⟩ := inv (c :: post) hcs
    have hpl : pre.length < 90000 := by
      have : cs.length = pre.length + (post.length + 1) := by rw [hcs, List.length_append, List.length_cons]
      omega
    have step : ∀ p2, cs = pre ++ [c] ++ p2 → post = p2 := fun p2 hp2 => by
      rw [List.append_assoc, List.singleton_append] at hp2
      have e7 : c :: post = c :: p2 := List.append_cancel_left (hcs.symm.trans hp2)
      injection e7
    refine s_if (b := decide (c = 117)) (et_test (ev_is (ev_eqS (a := [c]) (b := [117]) (ev_var rfl) (ev_lit lit_u)) (by rw [one_eq]))) (fun hb2 H6 e6 => ?_) (fun hb2 H6 e6 => ?_)
    · have hc := of_decide_eq_true hb2
      refine q_asg (v := nat (h + 1)) (ev_add (ev_var rfl) ev_c (by omega)) fun H7 e7 => ?_
      refine s_app (xs := vn f) (e7 l _ (e6 l _ h5)) (ev_var rfl) (ev_var rfl) (by rw [List.length_map]; omega) fun H8 e8 => ?_
      refine ⟨h + 1, b, pl, f ++ [pl], _, rfl, by rw [List.length_append, List.length_append]; simp only [List.length_singleton]; omega, Ex.mut (((e.trans e6).trans e7).trans e8) hln, by rw [upd_same]; unfold vn; rw [List.map_append]; rfl, fun p2 hp2 => ⟨⟨gs, ?_, hb⟩, ?_⟩⟩
      · rw [hg, step p2 hp2]
        show (if c = 117 then hgo p2 (h + 1) else _).map (gs ++ ·) = _
        rw [if_pos hc]
      · rw [hr2, step p2 hp2]
        show f ++ (if c = 117 then pl :: ris p2 pl else _) = _
        rw [if_pos hc, List.append_assoc]
        rfl
    · have hc := of_decide_eq_false hb2
      refine s_if (b := decide (c = 100 ∧ 0 < h)) (et_is (et_and (et_test (ev_eqS (a := [c]) (b := [100]) (ev_var rfl) (ev_lit lit_d))) (fun _ => et_test (ev_cmp (b := decide (0 < h)) (i := (h : Int)) (j := 0) (ev_var rfl) ev_c (by rw [decide_eq_decide]; omega)))) (by rw [one_eq, Bool.decide_and])) (fun hb3 H7 e7 => ?_) (fun hb3 H7 e7 => ?_)
      · have hd := of_decide_eq_true hb3
        refine q_asg (v := nat (h - 1)) (ev_sub (i := (h : Int)) (j := 1) (ev_var rfl) ev_c (by omega)) fun H8 e8 => ?_
        refine q_asg (v := nat (b + (h - 1))) (ev_add (i := (b : Int)) (j := ((h - 1 : Nat) : Int)) (ev_var rfl) (ev_var rfl) (by omega)) fun H9 e9 => ?_
        refine s_asg (v := nat (pl + 1)) (ev_add (ev_var rfl) ev_c (by omega)) fun H10 e10 => ?_
        have e610 := e6.trans (e7.trans (e8.trans (e9.trans e10)))
        refine ⟨h - 1, b + (h - 1), pl + 1, f, _, rfl, by rw [List.length_append]; omega, e.trans e610, e610 l _ h5, fun p2 hp2 => ⟨⟨gs ++ [h - 1], ?_, ?_⟩, ?_⟩⟩
        · rw [hg, step p2 hp2]
          show (if c = 117 then _ else if c = 100 ∧ 0 < h then (hgo p2 (h - 1)).map ((h - 1) :: ·) else none).map (gs ++ ·) = _
          rw [if_neg hc, if_pos hd, Option.map_map]
          congr 1
          funext x
          simp
        · rw [List.sum_append, hb, List.sum_singleton]
        · rw [hr2, step p2 hp2]
          show f ++ (if c = 117 then _ else ris p2 (pl + 1)) = _
          rw [if_neg hc]
      · have hd := of_decide_eq_false hb3
        have e67 := e.trans (e6.trans e7)
        refine s_ret3L (xs := vn []) ev_c ev_c (el_lst ea_nil (Nat.zero_le _)) fun p l2 H8 e8 h8 h9 => ?_
        refine q _ _ (e67.trans e8) ⟨p, l2, false, 0, [], rfl, h8, h9, (fun z => by cases z), fun _ => ?_⟩
        rw [hg]
        show (if c = 117 then _ else if c = 100 ∧ 0 < h then (hgo post (h - 1)).map ((h - 1) :: ·) else none).map (gs ++ ·) = _
        rw [if_neg hc, if_neg hd]
        rfl
  · obtain ⟨h, b, pl, f, v, rfl, hfl, e, h5, inv⟩ := hI
    obtain ⟨⟨gs, hg, hb⟩, hr2⟩ := inv [] (List.append_nil _).symm
    refine s_retU (xs := [.bl (decide ((h : Int) = 0)), nat b, .ref l]) (eu_tup (ea_cons (ev_eqInt (ev_var rfl) ev_c) (ea_cons (ev_var rfl) (ea_cons (ev_var rfl) ea_nil))) (by show 3 ≤ 100000; decide)) fun p H6 hp e6 h6 => ?_
    refine q _ _ (e.trans e6) ⟨p, l, _, b, f, rfl, h6, e6 l _ h5, fun hz => ⟨gs, ?_, hb.symm, ?_⟩, fun hz => ?_⟩
    · have h0 : h = 0 := by have := of_decide_eq_true hz; omega
      rw [hg, h0]
      show (if (0 : Nat) = 0 then some [] else none).map (gs ++ ·) = _
      rw [if_pos rfl]
      simp
    · rw [hr2]
      exact (List.append_nil f).symm
    · have h0 : ¬ h = 0 := by have := of_decide_eq_false hz; omega
      rw [hg]
      show (if h = 0 then some [] else none).map (gs ++ ·) = _
      rw [if_neg h0]
      rfl
/-! ### _law_asked -/
def okTup (u : V) : List V := [.str (Str.ofString "made"), u]
def noTup : List V := [.str (Str.ofString "refused"), .int 0]
def spAskedP (K : PySem.W.Frag) (SP : Addr → Sp → Prop) (x : Str) : Sp := fun vs H Q _ => ∃ (f : Addr) (sp : Sp) (v : V), vs = [.ref f, v] ∧ SP f sp ∧
  ((∃ Mk : V → Hp → Prop, (∀ H1, Ex H H1 → ∀ Q' E', (∀ u H2, Ex H1 H2 → Mk u H2 → Q' u H2) → sp [v] H1 Q' E') ∧ (∀ u H2 H3 p, Mk u H2 → Ex H H2 → Ex H2 H3 → H2 p = none → H3 p = some (.tup (okTup u)) → Q (.ref p) H3)) ∨
   ((∀ H1, Ex H H1 → ∀ Q' E', RetT K x H1 E' → sp [v] H1 Q' E') ∧ (∀ p H3, H p = none → Ex H H3 → H3 p = some (.tup noTup) → Q (.ref p) H3)))
theorem others_false {σ : L2.St} {H : Hp} {a : Addr} {i : Nat} {x y1 y2 y3 : Str} (X : ErrX K x) (hσ : σ[i]? = some (some (.ref a))) (h1 : y1 ∈ errNames) (h2 : y2 ∈ errNames) (h3 : y3 ∈ errNames) (n1 : x ≠ y1) (n2 : x ≠ y2) (n3 : x ≠ y3) :
    EvL (tLst (tCons (tCB (rIsE2 K (.ref (ga K x)) none a) (tCons (tVar i) (tCons (tC (.ref (ga K y1))) tNil))) (tCons (tCB (rIsE2 K (.ref (ga K x)) none a) (tCons (tVar i) (tCons (tC (.ref (ga K y2))) tNil))) (tCons (tCB (rIsE2 K (.ref (ga K x)) none a) (tCons (tVar i) (tCons (tC (.ref (ga K y3))) tNil))) tNil)))) σ H ([false, false, false].map V.bl) :=
  el_lst (ea_cons (ev_cb (ea_cons (ev_var hσ) (ea_cons ev_c ea_nil)) (rc_isE X h1 (decide_eq_false n1))) (ea_cons (ev_cb (ea_cons (ev_var hσ) (ea_cons ev_c ea_nil)) (rc_isE X h2 (decide_eq_false n2))) (ea_cons (ev_cb (ea_cons (ev_var hσ) (ea_cons ev_c ea_nil)) (rc_isE X h3 (decide_eq_false n3))) ea_nil))) (by decide)
theorem others_false2 {σ : L2.St} {H : Hp} {a : Addr} {i : Nat} {x y1 y2 : Str} (X : ErrX K x) (hσ : σ[i]? = some (some (.ref a))) (h1 : y1 ∈ errNames) (h2 : y2 ∈ errNames) (n1 : x ≠ y1) (n2 : x ≠ y2) :
    EvL (tLst (tCons (tCB (rIsE2 K (.ref (ga K x)) none a) (tCons (tVar i) (tCons (tC (.ref (ga K y1))) tNil))) (tCons (tCB (rIsE2 K (.ref (ga K x)) none a) (tCons (tVar i) (tCons (tC (.ref (ga K y2))) tNil))) tNil))) σ H ([false, false].map V.bl) :=
  el_lst (ea_cons (ev_cb (ea_cons (ev_var hσ) (ea_cons ev_c ea_nil)) (rc_isE X h1 (decide_eq_false n1))) (ea_cons (ev_cb (ea_cons (ev_var hσ) (ea_cons ev_c ea_nil)) (rc_isE X h2 (decide_eq_false n2))) ea_nil)) (by decide)
theorem q_seq {D : Ends} {σ : L2.St} {H : Hp} {t u : TS} (h : t { D with nx := u D } σ H) : tSeq t u D σ H := h
theorem s_retX2 {D : Ends} {σ : L2.St} {H : Hp} {c : V} {i : Nat} {SP : Addr → Sp → Prop} {E : L2.St → XK} {ta : TA} {vs : List V} {f : Addr} {sp : Sp} (hi : σ[i]? = some (some (.ref f))) (hs : SP f sp) (ha : EvA ta σ H vs)
    (k : ∀ H1, Ex H H1 → sp vs H1 (fun u H2 => 2 ≤ sizeLine ∧ ∀ p, H2 p = none → D.rt (.ref p) (upd H2 p (.tup [c, u]))) (E σ)) : tRet (tTup (tCons (tC c) (tCons (tCallX i SP E ta) tNil))) D σ H := ⟨f, sp, hi, hs, ha H (Ex.refl H) _ fun H1 e => k H1 e⟩
theorem sp_bad : ("BadPath" : Str) ≠ "BadWishes" := by decide
theorem ok_law_asked {fd : FuncData} {SP : Addr → Sp → Prop} (F : FnP K "_law_asked" s_law_asked fd) (B : Bi mg) (X1 : ExcF K mg "BadPath") (X2 : ExcF K mg "BadStanding") (X3 : ExcF K mg "BadText") (X4 : ExcF K mg "BadTree") (X5 : ExcF K mg "BadWishes") (X6 : ExcF K mg "TooMany") (X7 : ExcF K mg "StreetError")
    (L : ∀ f sp, SP f sp → HeldX P w K mg base 2 f sp) (EX : ErrX K "BadPath") : FnOk P w K mg base CX0 3 (ga K "_law_asked") fd P_law_asked (spAskedP K SP "BadPath") := by
  refine F.ok sc_law_asked (fun vs H Q E h => ?_) (fun cdv A outer s H vs Q E hr h => ⟨der_law_asked B X1 X2 X3 X4 X5 X6 X7 L hr, ?_⟩)
  · obtain ⟨f, sp, v, rfl, _⟩ := h; rfl
  obtain ⟨f, sp, v, rfl, hsp, h⟩ := h
  unfold der_law_asked; dsimp only
  refine q_seq ?_
  dsimp only
  refine s_retX2 (f := f) (sp := sp) rfl hsp (ea_cons (ev_var rfl) ea_nil) fun H1 e1 => ?_
  rcases h with ⟨Mk, hm, hq⟩ | ⟨hm, hq⟩
  · refine hm H1 e1 _ _ fun u H2 e2 hu => ⟨by show 2 ≤ sizeLine; decide, fun p hp => ?_⟩
    exact hq u H2 _ p hu (e1.trans e2) (Ex.new hp) hp upd_same
  · refine hm H1 e1 _ _ fun H2 e2 => ⟨true, EX.exm, fun _ a ha => ?_, fun z => nomatch z⟩
    have e12 := e1.trans e2
    refine q_asgL (others_false EX rfl (by decide) (by decide) (by decide) (by decide) (by decide) (by decide)) fun l1 H3 hl1 e3 h3 => ?_
    refine q_asgL (el_cat (ev_var rfl) h3 (others_false2 EX rfl (by decide) (by decide) (by decide) (by decide)) (by decide)) fun l2 H4 hl2 e4 h4 => ?_
    refine s_when (b := [false, false, false, false, false].any id || !true) (et_or (et_B (ev_cb (ea_cons (ev_var rfl) ea_nil) (rc_any (bs := [false, false, false, false, false]) (sq_of h4)))) fun _ => et_not (et_B (ev_cb (ea_cons (ev_var rfl) (ea_cons ev_c ea_nil)) (rc_isE EX (by decide) (decide_eq_true rfl))))) (fun z => by cases z) fun _ H5 e5 => ?_
    dsimp only
    exact s_retU (xs := noTup) (eu_tup (ea_cons ev_c (ea_cons ev_c ea_nil)) (by decide)) fun p H6 hp e6 h6 => hq p H6 (fresh_back (e12.trans (e3.trans (e4.trans e5))) hp) ((e12.trans (e3.trans (e4.trans e5))).trans e6) h6
end
end Pk
namespace Pk
open PySem PySem.Spec PyProof.Rows L2 Evl He
section
variable {P : Program} {w : World} {K : PySem.W.Frag} {mg : Str → Option Value} {base : Heap}
open SX (S)
theorem sv_path {H : Hp} {a : Addr} {ws : List Nat} (h : SqL K H a (vn ws)) (hl : ws.length ≤ 20000) (F : Full ws) : SpV (spPath K) [.ref a] H (.str (S (pathL (cnts ws.length ws)))) := fun H1 e Q q E => ⟨a, ws, rfl, ex_l e h, hl, F.lo, fun _ => q, fun n => absurd F n⟩
theorem sv_beneath {H : Hp} {cs hs : List Nat} (hl : cs.length ≤ 90000) (h : hgo cs 0 = some hs) : SpV (spBeneath K) [.str (S cs)] H (nat hs.sum) := fun H1 e Q q E => ⟨cs, rfl, hl, fun hs' h' => by rw [h] at h'; cases h'; exact q, fun n => by rw [h] at n; cases n⟩
theorem sl_rising {H : Hp} {cs hs : List Nat} (hl : cs.length ≤ 90000) (h : hgo cs 0 = some hs) : SpL (spRising K) [.str (S cs)] H (vn (ris cs 0)) := fun H1 e Q q E => ⟨cs, rfl, hl, fun _ => q, fun n => by rw [h] at n; cases n⟩
theorem ris_len : ∀ (cs : List Nat) (p : Nat), (ris cs p).length ≤ cs.length
  | [], p => Nat.le_refl _
  | c :: r, p => by
    have h1 := ris_len r p
    have h2 := ris_len r (p + 1)
    unfold ris
    split
    · rw [List.length_cons, List.length_cons]; omega
    · rw [List.length_cons]; omega
/-! ### _law_right -/
theorem rv_neSame {x y : V} {H : Hp} {d : PyData} (h1 : ∀ H1, Ex H H1 → Dp K H1 x d) (h2 : ∀ H1, Ex H H1 → Dp K H1 y d) (hs : SeqAt.shaped d = true) : RV (rNeD K) x y H (.bl false) := fun H1 e Q q =>
  ⟨d, d, h1 H1 e, h2 H1 e, hs, hs, by rw [SeqAt.eqv_refl d (SeqAt.canLay_of_shaped hs)]; exact q H1 (Ex.refl H1)⟩
theorem ev_opPU {r : R2} {σ : L2.St} {H : Hp} {ta tb : TE} {z : V} {Φ : V → Hp → Prop} {xs : List V} (ha : EvP ta σ H Φ) (hk : ∀ x H1 H2, Ex H1 H2 → Φ x H1 → Φ x H2) (hb : ∀ H1, Ex H H1 → EvU tb σ H1 xs) (hr : ∀ x p H1, Ex H H1 → Φ x H1 → H1 p = some (.tup xs) → RV r x (.ref p) H1 z) : Ev (tOp r ta tb) σ H z :=
  ev_opP ha fun x H1 e hx Q q => hb H1 e H1 (Ex.refl H1) _ fun p H2 _ e2 hp => hr x p H2 (e.trans e2) (hk x H1 H2 e2 hx) hp H2 (Ex.refl H2) Q fun H3 e3 => q H3 (e2.trans e3)
def SPa (K : PySem.W.Frag) : Addr → Sp → Prop := fun f sp => (f = ga K "beneath" ∧ sp = spBeneath K) ∨ (f = ga K "rising" ∧ sp = spRising K)
theorem sh_okI (b : Int) : SeqAt.shaped (.tuple [.str (Str.ofString "made"), .int b]) = true := by
  unfold SeqAt.shaped
  rw [Bool.and_eq_true_iff]
  exact ⟨by simp [PyData.canLay0, PyData.canLayAll0, show PyData.strOk (Str.ofString "made") = true from by decide +kernel], decide_eq_true (by simp [PyData.depth, PyData.depthAll])⟩
theorem sh_okL (ns : List Int) : SeqAt.shaped (.tuple [.str (Str.ofString "made"), pdi ns]) = true := by
  have h := depth_ints ns
  unfold SeqAt.shaped
  rw [Bool.and_eq_true_iff]
  refine ⟨by simp [PyData.canLay0, PyData.canLayAll0, pdi, canLay_ints ns, show PyData.strOk (Str.ofString "made") = true from by decide +kernel], decide_eq_true ?_⟩
  simp only [PyData.depth, PyData.depthAll, pdi]
  omega
def spRight : Sp := fun vs H Q _ => ∃ cs : List Nat, vs = [.str (S cs)] ∧ cs.length ≤ 9000 ∧ RetV (.bl true) H Q
theorem eu_no {σ : L2.St} {H : Hp} {ta : TA} {cs : List Nat} {f : Addr} {sp : Sp} (ha : EvA ta σ H [.ref f, .str (S cs)]) (hsp : SPa K f sp) (hs : ∀ H1, Ex H H1 → ∀ Q' E', RetT K "BadPath" H1 E' → sp [.str (S cs)] H1 Q' E') : EvU (tCall (spAskedP K (SPa K) "BadPath") [] E0 ta) σ H noTup := fun H1 e Q q =>
  ha H1 e _ fun H2 e2 => ⟨f, sp, .str (S cs), rfl, hsp, .inr ⟨fun H3 e3 => hs H3 ((e.trans e2).trans e3), fun p H3 hp e3 h3 => q p H3 (fresh_back e2 hp) (e2.trans e3) h3⟩⟩
theorem ep_ok {σ : L2.St} {H : Hp} {ta : TA} {cs : List Nat} {f : Addr} {sp : Sp} {Mk : V → Hp → Prop} (ha : EvA ta σ H [.ref f, .str (S cs)]) (hsp : SPa K f sp) (hk : ∀ u H1 H2, Ex H1 H2 → Mk u H1 → Mk u H2) (hs : ∀ H1, Ex H H1 → ∀ Q' E', (∀ u H2, Ex H1 H2 → Mk u H2 → Q' u H2) → sp [.str (S cs)] H1 Q' E') :
    EvP (tCall (spAskedP K (SPa K) "BadPath") [] E0 ta) σ H (fun v H2 => ∃ p u, v = .ref p ∧ H2 p = some (.tup (okTup u)) ∧ Mk u H2) := fun H1 e Q q =>
  ha H1 e _ fun H2 e2 => ⟨f, sp, .str (S cs), rfl, hsp, .inl ⟨Mk, fun H3 e3 => hs H3 ((e.trans e2).trans e3), fun u H3 H4 p hu e3 e4 _ h4 => q (.ref p) H4 (e2.trans (e3.trans e4)) ⟨p, u, rfl, h4, hk u H3 H4 e4 hu⟩⟩⟩
theorem ok_law_right {fd fd1 fd2 fd3 : FuncData} (F : FnP K "_law_right" s_law_right fd) (C1 : Cal P w K mg base CX0 3 "_law_asked" P_law_asked (spAskedP K (SPa K) "BadPath") fd1) (C2 : Cal P w K mg base CX0 1 "_law_walked" P_law_walked spWalked fd2) (C3 : Cal P w K mg base (L2N.CX P w) 4 "path" P_path (spPath K) fd3)
    (g1 : mg "beneath" = some (.ref (ga K "beneath"))) (g2 : mg "rising" = some (.ref (ga K "rising"))) : FnOk P w K mg base CX0 5 (ga K "_law_right") fd P_law_right spRight := by
  refine F.ok sc_law_right (fun vs H Q E h => ?_) (fun cdv A outer s H vs Q E hr h => ⟨der_law_right C1 C2 C3 g1 g2 hr, ?_⟩)
  · obtain ⟨cs, rfl, _⟩ := h; rfl
  obtain ⟨cs, rfl, hl, q⟩ := h
  unfold der_law_right; dsimp only
  refine q_un3 (Φ := Walked cs) (fun H1 e Q1 q1 => (ea_cons (ev_var (v := .str (S cs)) rfl) ea_nil : EvA _ _ H [.str (S cs)]) H1 e _ fun H2 e2 => ⟨cs, rfl, by omega, fun v H3 e3 hv => q1 v H3 (e2.trans e3) hv⟩) fun x H1 e1 hx => ?_
  obtain ⟨p, l, g, b, ws, rfl, hp, hl1, hg1, hg0⟩ := hx
  refine ⟨p, _, _, _, rfl, st_of hp, ?_⟩
  cases g with
  | false =>
    have hn := hg0 rfl
    refine q_when (b := !false) (et_not (et_B (ev_var rfl))) (fun _ H2 e2 => ?_) (fun z => by cases z)
    have e12 := e1.trans e2
    refine s_ret (v := .bl (decide ([114, 101, 102, 117, 115, 101, 100] = [114, 101, 102, 117, 115, 101, 100]) && decide ([114, 101, 102, 117, 115, 101, 100] = [114, 101, 102, 117, 115, 101, 100]))) ?_ fun H3 e3 => by rw [decide_eq_true rfl]; exact q H3 (e12.trans e3)
    have lr : (Str.ofString "refused") = S [114, 101, 102, 117, 115, 101, 100] := by rfl
    refine ev_andV (ev_eqS (ev_ixU (v := .str (S [114, 101, 102, 117, 115, 101, 100])) (i := 0) (eu_no (cs := cs) (ea_cons ev_c (ea_cons (ev_var rfl) ea_nil)) (.inl ⟨rfl, rfl⟩) fun H4 e4 Q' E' hE => ⟨cs, rfl, by omega, (fun hs h => by rw [hn] at h; cases h), fun _ => hE⟩) (fun _ _ => ev_c) (by unfold noTup; rw [lr]; rfl)) (ev_lit lr)) fun _ => ?_
    exact ev_eqS (ev_ixU (v := .str (S [114, 101, 102, 117, 115, 101, 100])) (i := 0) (eu_no (cs := cs) (ea_cons ev_c (ea_cons (ev_var rfl) ea_nil)) (.inr ⟨rfl, rfl⟩) fun H4 e4 Q' E' hE => ⟨cs, rfl, by omega, fun ⟨hs, h⟩ => (by rw [hn] at h; cases h), fun _ => hE⟩) (fun _ _ => ev_c) (by unfold noTup; rw [lr]; rfl)) (ev_lit lr)
  | true =>
    obtain ⟨hs, hh, rfl, rfl⟩ := hg1 rfl
    refine q_when (b := !true) (et_not (et_B (ev_var rfl))) (fun z => by cases z) fun _ H2 e2 => ?_
    have e12 := e1.trans e2
    have hl2 := e2 l _ hl1
    -- what the two tell
    have di : ∀ (m : Addr) H6, H6 m = some (.lst (vn (ris cs 0))) → Dp K H6 (.ref m) (pdi ((ris cs 0).map fun (n : Nat) => (n : Int))) := fun m H6 h => dp_ints (by rw [← vn_vi]; exact sq_of h)
    have t1 := ep_ok (K := K) (H := H2) (ta := tCons (tC (.ref (ga K "beneath"))) (tCons (tVar 0) tNil)) (cs := cs) (σ := [some (.str (S cs)), some (.bl true), some (nat hs.sum), some (.ref l), none]) (Mk := fun u _ => u = nat hs.sum) (ea_cons ev_c (ea_cons (ev_var rfl) ea_nil)) (.inl ⟨rfl, rfl⟩) (fun _ _ _ _ h => h) fun H4 e4 Q' E' hq => ⟨cs, rfl, by omega, (fun hs' h' H5 e5 => hq _ H5 e5 (by rw [hh] at h'; cases h'; rfl)), fun h => by rw [hh] at h; cases h⟩
    have t2 := ep_ok (K := K) (H := H2) (ta := tCons (tC (.ref (ga K "rising"))) (tCons (tVar 0) tNil)) (cs := cs) (σ := [some (.str (S cs)), some (.bl true), some (nat hs.sum), some (.ref l), none]) (Mk := fun u H' => ∃ l', u = .ref l' ∧ H' l' = some (.lst (vn (ris cs 0)))) (ea_cons ev_c (ea_cons (ev_var rfl) ea_nil)) (.inr ⟨rfl, rfl⟩) (fun u Ha Hb eab ⟨l', e1, e2⟩ => ⟨l', e1, eab l' _ e2⟩) fun H4 e4 Q' E' hq => ⟨cs, rfl, by omega, (fun _ p2 H5 hp2 e5 h5 => hq _ H5 e5 ⟨p2, rfl, h5⟩), fun h => by rw [hh] at h; cases h⟩
    refine q_when (b := false || false) (et_or (et_test (ev_opPU (xs := [.str (Str.ofString "made"), nat hs.sum]) t1 (fun v Ha Hb eab ⟨p, u, e1, e2, e3⟩ => ⟨p, u, e1, eab _ _ e2, e3⟩) (fun H4 e4 => eu_tup (ea_cons ev_c (ea_cons (ev_var rfl) ea_nil)) (by show 2 ≤ 100000; decide)) fun x p6 H4 e4 hx h6 => ?_)) fun _ => et_test (ev_opPU (xs := [.str (Str.ofString "made"), .ref l]) t2 (fun v Ha Hb eab ⟨p, u, e1, e2, l', e3, e4⟩ => ⟨p, u, e1, eab _ _ e2, l', e3, eab _ _ e4⟩) (fun H4 e4 => eu_tup (ea_cons ev_c (ea_cons (ev_var rfl) ea_nil)) (by show 2 ≤ 100000; decide)) fun x p6 H4 e4 hx h6 => ?_)) (fun z => by cases z) fun _ H3 e3 => ?_
    · obtain ⟨p5, u, rfl, h5, rfl⟩ := hx
      exact rv_neSame (d := .tuple [.str (Str.ofString "made"), .int (hs.sum : Nat)]) (fun H6 e6 => .tup (st_of (e6 _ _ h5)) (.cons (.str _) (.cons (.int _) .nil))) (fun H6 e6 => .tup (st_of (e6 _ _ h6)) (.cons (.str _) (.cons (.int _) .nil))) (sh_okI _)
    · obtain ⟨p5, u, rfl, h5, l', rfl, hl'⟩ := hx
      have hl4 := e4 l _ hl2
      exact rv_neSame (d := .tuple [.str (Str.ofString "made"), pdi ((ris cs 0).map fun (n : Nat) => (n : Int))]) (fun H6 e6 => .tup (st_of (e6 _ _ h5)) (.cons (.str _) (.cons (di _ _ (e6 _ _ hl')) .nil))) (fun H6 e6 => .tup (st_of (e6 _ _ h6)) (.cons (.str _) (.cons (di _ _ (e6 _ _ hl4)) .nil))) (sh_okL _)
    · obtain ⟨hF, hT⟩ := ris_back cs hs hh
      have hlen : (ris cs 0).length ≤ 9000 := Nat.le_trans (ris_len cs 0) hl
      have svp := sv_path (K := K) (sq_of (e3 l _ hl2)) (by omega) hF
      rw [hT] at svp
      refine s_ret (v := .bl (decide (cs = cs))) (ev_eqS (ev_call (ea_cons (ev_var rfl) ea_nil) svp) (ev_var rfl)) fun H4 e4 => ?_
      rw [decide_eq_true rfl]
      exact q H4 (e12.trans (e3.trans e4))
end
end Pk
namespace Pk
open PySem PySem.Spec PyProof.Rows L2 Evl He
section
variable {P : Program} {w : World} {K : PySem.W.Frag} {mg : Str → Option Value} {base : Heap}
open SX (S)
/-! ### the law -/
def cutN (cs : List Nat) (lo hi : Option Int) : List Nat := (cs.drop (HT.sIx cs.length 0 lo)).take (HT.sIx cs.length cs.length hi - HT.sIx cs.length 0 lo)
theorem cutN_len (cs : List Nat) (lo hi : Option Int) : (cutN cs lo hi).length ≤ cs.length := by
  unfold cutN
  rw [List.length_take, List.length_drop]
  omega
theorem cutS_S (cs : List Nat) (lo hi : Option Int) : cutS (S cs) lo hi = S (cutN cs lo hi) := by
  unfold cutS cutN
  rw [SX.S_len]
theorem ev_slS {σ : L2.St} {H : Hp} {te : TE} {tl th : TO} {cs : List Nat} {lo hi : Option Int} (h : Ev te σ H (.str (S cs))) (h1 : EvO tl σ H lo) (h2 : EvO th σ H hi) (hz : cs.length ≤ 100000) : Ev (tSl rSlS te tl th) σ H (.str (S (cutN cs lo hi))) := fun H1 e Q q =>
  h H1 e _ fun H2 e2 => h1 H2 (e.trans e2) _ fun H3 e3 => h2 H3 ((e.trans e2).trans e3) _ fun H4 e4 => ⟨S cs, rfl, by rw [SX.S_len]; exact sz_of hz, by rw [cutS_S]; exact q H4 ((e2.trans e3).trans e4)⟩
theorem ev_lenT {σ : L2.St} {H : Hp} {ta : TE} {cs : List Nat} (h : Ev ta σ H (.str (S cs))) (hz : cs.length ≤ 100000) : Ev (tCB rLenT (tCons ta tNil)) σ H (nat cs.length) := ev_cb (ea_cons h ea_nil) fun H1 e Q q => ⟨S cs, rfl, by rw [SX.S_len]; exact sz_of hz, by rw [SX.S_len]; exact q H1 (Ex.refl H1)⟩
theorem sv_right {H : Hp} {cs : List Nat} (hl : cs.length ≤ 9000) : SpV spRight [.str (S cs)] H (.bl true) := fun H1 e Q q E => ⟨cs, rfl, hl, q⟩
def spLaw (K : PySem.W.Frag) : Sp := fun vs H Q _ => ∃ (a : Addr) (ns : List Int), vs = [.ref a] ∧ SqL K H a (vi ns) ∧ ns.length ≤ 63 ∧ ∀ H', Q (.bl true) H'
def sgns : List Nat := [117, 100, 85, 32, 120, 10]
theorem ok_law {fd fd1 fd2 : FuncData} (F : FnP K "law" s_law fd) (B : Bi mg) (C1 : Cal P w K mg base CX0 1 "_law_drawn" P_law_drawn (spDrawn K) fd1) (C2 : Cal P w K mg base CX0 5 "_law_right" P_law_right spRight fd2) : FnOk P w K mg base CX0 6 (ga K "law") fd P_law (spLaw K) := by
  refine F.ok sc_law (fun vs H Q E h => ?_) (fun cdv A outer s H vs Q E hr h => ⟨der_law B C1 C2 hr, ?_⟩)
  · obtain ⟨a, ns, rfl, _⟩ := h; rfl
  obtain ⟨a, ns, rfl, hS, hl, q⟩ := h
  unfold der_law; dsimp only
  refine q_asg (ev_call (ea_cons (ev_var rfl) ea_nil) (sv_drawn hS (by omega))) fun H1 e1 => ?_
  have hlen := drawnL_len ns
  generalize drawnL ns = cs at hlen
  refine q_when (b := !true) (et_not (et_B (ev_call (ea_cons (ev_var rfl) ea_nil) (sv_right (by omega))))) (fun z => by cases z) fun _ H2 e2 => ?_
  refine q_asg (ev_sum (ev_var rfl) (ex_l (e1.trans e2) hS)) fun H3 e3 => ?_
  have hm := Int.emod_nonneg ns.sum (show ((cs.length : Int) + 1) ≠ 0 from by omega)
  refine q_asg (v := .int (ns.sum % ((cs.length : Int) + 1))) (ev_mod (ev_var rfl) (ev_add (ev_lenT (ev_var rfl) (by omega)) ev_c rfl) (by omega) rfl) fun H4 e4 => ?_
  generalize hat : ns.sum % ((cs.length : Int) + 1) = at_ at hm
  have hj1 := Int.emod_nonneg (ns.sum / 7) (show (6 : Int) ≠ 0 from by decide)
  have hj2 := Int.emod_lt_of_pos (ns.sum / 7) (show (0 : Int) < 6 from by decide)
  obtain ⟨j, hj⟩ : ∃ j : Nat, ns.sum / 7 % 6 = (j : Int) := ⟨(ns.sum / 7 % 6).toNat, by omega⟩
  have hj6 : j < 6 := by omega
  obtain ⟨c, hc⟩ : ∃ c, sgns[j]? = some c := ⟨sgns[j], List.getElem?_eq_getElem hj6⟩
  refine q_asg (v := .str (S [c])) (ev_ixL (xs := sgns.map fun c => V.str (S [c])) (i := j) (el_lst (ea_cons (ev_lit rfl) (ea_cons (ev_lit rfl) (ea_cons (ev_lit rfl) (ea_cons (ev_lit rfl) (ea_cons (ev_lit rfl) (ea_cons (ev_lit rfl) ea_nil)))))) (by decide)) (fun _ _ => ev_mod (ev_div (ev_var rfl) ev_c ⟨by decide, by decide⟩ rfl) ev_c (by decide) hj.symm) (by rw [List.getElem?_map, hc]; rfl)) fun H5 e5 => ?_
  have c1 := cutN_len cs none (some at_)
  have c2 := cutN_len cs (some (at_ + 1)) none
  have c3 := cutN_len cs (some at_) none
  refine q_forNP (ys := [cutN cs none (some at_) ++ cutN cs (some (at_ + 1)) none, (cutN cs none (some at_) ++ [c]) ++ cutN cs (some at_) none, (cutN cs none (some at_) ++ [c]) ++ cutN cs (some (at_ + 1)) none]) (fun y => V.str (S y)) ?_ (fun p pre σ' H' => ∃ v, σ' = [some (.ref a), some (.str (S cs)), some (.int ns.sum), some (.int at_), some (.str (S [c])), v] ∧ H' p = some (.lst ([cutN cs none (some at_) ++ cutN cs (some (at_ + 1)) none, (cutN cs none (some at_) ++ [c]) ++ cutN cs (some at_) none, (cutN cs none (some at_) ++ [c]) ++ cutN cs (some (at_ + 1)) none].map fun y => V.str (S y)))) (fun p H6 hp e6 h6 => ?_) (fun p pre σ' H' hI => ?_) (fun p pre y post σ' H' hy hI => ?_) (fun p σ' H' hI => ?_)
  · refine el_lst (ea_cons (ev_catS (ev_slS (ev_var rfl) eo_none (eo_some (ev_var rfl)) (by omega)) (ev_slS (ev_var rfl) (eo_some (ev_add (ev_var rfl) ev_c rfl)) eo_none (by omega)) (by omega)) (ea_cons (ev_catS (ev_catS (ev_slS (ev_var rfl) eo_none (eo_some (ev_var rfl)) (by omega)) (ev_var rfl) (by simp only [List.length_singleton]; omega)) (ev_slS (ev_var rfl) (eo_some (ev_var rfl)) eo_none (by omega)) (by rw [List.length_append]; simp only [List.length_singleton]; omega)) (ea_cons (ev_catS (ev_catS (ev_slS (ev_var rfl) eo_none (eo_some (ev_var rfl)) (by omega)) (ev_var rfl) (by simp only [List.length_singleton]; omega)) (ev_slS (ev_var rfl) (eo_some (ev_add (ev_var rfl) ev_c rfl)) eo_none (by omega)) (by rw [List.length_append]; simp only [List.length_singleton]; omega)) ea_nil))) (by show 3 ≤ 100000; decide)
  · exact ⟨none, by rw [← hat]; rfl, h6⟩
  · obtain ⟨v, rfl, h6⟩ := hI
    exact sq_of h6
  · obtain ⟨v, rfl, h6⟩ := hI
    have hyl : y.length ≤ 9000 := by
      have hm : y ∈ [cutN cs none (some at_) ++ cutN cs (some (at_ + 1)) none, (cutN cs none (some at_) ++ [c]) ++ cutN cs (some at_) none, (cutN cs none (some at_) ++ [c]) ++ cutN cs (some (at_ + 1)) none] := by rw [hy]; simp
      simp only [List.mem_cons, List.not_mem_nil, or_false] at hm
      rcases hm with rfl | rfl | rfl <;> simp only [List.length_append, List.length_singleton] <;> omega
    refine s_when (b := !true) (et_not (et_B (ev_call (ea_cons (ev_var rfl) ea_nil) (sv_right hyl)))) (fun z => by cases z) fun _ H7 e7 => ?_
    exact ⟨_, rfl, e7 p _ h6⟩
  · obtain ⟨v, rfl, h6⟩ := hI
    refine s_ret (v := .bl true) (ev_call (vs := [.str (S cs.reverse)]) (fun H1 e Q1 q1 => ⟨.str (S cs), rfl, cs, rfl, sz_of (by omega), q1 H1 (Ex.refl H1)⟩) (sv_right (by rw [List.length_reverse]; omega))) fun H7 e7 => q H7
end
end Pk
namespace Pk
open PySem PySem.Spec PyProof.Rows L2 Evl He
/-! ### the end: what the top has left, by names -/
def d_is_number : DefD := ⟨("is_number", none), "is_number", "is_number", defArgs s_is_number, defBody s_is_number, defScope s_is_number, [], []⟩
def d_counted : DefD := ⟨("counted", none), "counted", "counted", defArgs s_counted, defBody s_counted, defScope s_counted, [], []⟩
def d_as_list : DefD := ⟨("as_list", none), "as_list", "as_list", defArgs s_as_list, defBody s_as_list, defScope s_as_list, [], []⟩
def d_heights : DefD := ⟨("heights", none), "heights", "heights", defArgs s_heights, defBody s_heights, defScope s_heights, [], []⟩
def d_law_drawn : DefD := ⟨("_law_drawn", none), "_law_drawn", "_law_drawn", defArgs s_law_drawn, defBody s_law_drawn, defScope s_law_drawn, [], []⟩
def d_law_walked : DefD := ⟨("_law_walked", none), "_law_walked", "_law_walked", defArgs s_law_walked, defBody s_law_walked, defScope s_law_walked, [], []⟩
def d_asked_wishes : DefD := ⟨("asked_wishes", none), "asked_wishes", "asked_wishes", defArgs s_asked_wishes, defBody s_asked_wishes, defScope s_asked_wishes, [], []⟩
def d_crowd_of : DefD := ⟨("crowd_of", none), "crowd_of", "crowd_of", defArgs s_crowd_of, defBody s_crowd_of, defScope s_crowd_of, [], []⟩
def d_beneath : DefD := ⟨("beneath", none), "beneath", "beneath", defArgs s_beneath, defBody s_beneath, defScope s_beneath, [], []⟩
def d_rising : DefD := ⟨("rising", none), "rising", "rising", defArgs s_rising, defBody s_rising, defScope s_rising, [], []⟩
def d_all_parked : DefD := ⟨("all_parked", none), "all_parked", "all_parked", defArgs s_all_parked, defBody s_all_parked, defScope s_all_parked, [], []⟩
def d_law_asked : DefD := ⟨("_law_asked", none), "_law_asked", "_law_asked", defArgs s_law_asked, defBody s_law_asked, defScope s_law_asked, [], []⟩
def d_path : DefD := ⟨("path", none), "path", "path", defArgs s_path, defBody s_path, defScope s_path, [], []⟩
def d_law_right : DefD := ⟨("_law_right", none), "_law_right", "_law_right", defArgs s_law_right, defBody s_law_right, defScope s_law_right, [], []⟩
def d_law : DefD := ⟨("law", none), "law", "law", defArgs s_law, defBody s_law, defScope s_law, [], []⟩
def fnL : List DefD := [d_is_number, d_counted, d_as_list, d_heights, d_law_drawn, d_law_walked, d_asked_wishes, d_crowd_of, d_beneath, d_rising, d_all_parked, d_law_asked, d_path, d_law_right, d_law]
def faL : List Fa := [.glo "is_number", .glo "counted", .glo "as_list", .glo "heights", .glo "_law_drawn", .glo "_law_walked", .glo "asked_wishes", .glo "crowd_of", .glo "beneath", .glo "rising", .glo "all_parked", .glo "_law_asked", .glo "path", .glo "_law_right", .glo "law", .free "len", .free "range", .free "max", .free "min", .free "sum", .free "all", .free "any", .free "list", .free "sorted", .free "isinstance", .free "enumerate", .free "reversed", .free "set", .free "str", .free "int", .free "bool", .free "tuple", .free "ValueError", .int "PLACES" 1000000, .glo "BadPath", .exc "BadPath", .glo "BadStanding", .exc "BadStanding", .glo "BadText", .exc "BadText", .glo "BadTree", .exc "BadTree", .glo "BadWishes", .exc "BadWishes", .glo "StreetError", .exc "StreetError", .glo "TooMany", .exc "TooMany"]
abbrev RowL : PySem.W.OpenRow := PySem.W.OpenLaw.row PySem.Challenge.rw_parkrow_k08_whole_path_back
def exL (K : PySem.W.Frag) : Bool := (["BadPath"] : List Str).all (errB K)
abbrev hkL : PySem.W.Hook := hookX 4 faL fnL [] [] exL
def obL (s : PySem.W.SharedT) : AlX := obsX 4 faL fnL [] [] exL (HandSHeadRun.getT s)
theorem obL_eq (s : PySem.W.SharedT) : obL s = hkL.obs s.abs := obsX_eq (HandSHeadRun.getT_eq s)
def looseL : List Str := ["StreetError", "BadWishes", "TooMany", "BadTree", "BadPath", "BadStanding", "BadText", "PLACES", "is_number", "asked_wishes", "crowd_of", "counted", "all_parked", "as_list", "path", "heights", "beneath", "rising", "_law_drawn", "_law_walked", "_law_asked", "_law_right"]
theorem runL (w : World) : HandSHeadRun.RunEq RowL (PySem.W.view RowL.prog [26]) hkL obL 6000 looseL w := by
  intro os
  kernel_rfl
theorem factsL {P : Program} {w : World} {K : PySem.W.Frag} {h : Heap} {mg : Str → Option Value} {f : Addr} (X : K.In h) (G : h.Ns mainGlobals mg) (hfa : mg ("law" : Str) = some (.ref f)) (c : SaysD faL fnL K) (hx : exL K = true) :
    ∃ fd : FuncData, (∀ (s : Shared) (v : Value), BindsTo s fd ⟨[v], []⟩ [("script", v)]) ∧ ∀ base : Heap, K.In base → base.Ns mainGlobals mg → FnOk P w K mg base CX0 6 f fd ["script"] (spLaw K) := by
  obtain ⟨fd_is_number, F_is_number⟩ := c.def_ 0 (d := d_is_number) rfl
  have F_is_number : FnP K "is_number" s_is_number fd_is_number := F_is_number
  obtain ⟨fd_counted, F_counted⟩ := c.def_ 1 (d := d_counted) rfl
  have F_counted : FnP K "counted" s_counted fd_counted := F_counted
  obtain ⟨fd_as_list, F_as_list⟩ := c.def_ 2 (d := d_as_list) rfl
  have F_as_list : FnP K "as_list" s_as_list fd_as_list := F_as_list
  obtain ⟨fd_heights, F_heights⟩ := c.def_ 3 (d := d_heights) rfl
  have F_heights : FnP K "heights" s_heights fd_heights := F_heights
  obtain ⟨fd_law_drawn, F_law_drawn⟩ := c.def_ 4 (d := d_law_drawn) rfl
  have F_law_drawn : FnP K "_law_drawn" s_law_drawn fd_law_drawn := F_law_drawn
  obtain ⟨fd_law_walked, F_law_walked⟩ := c.def_ 5 (d := d_law_walked) rfl
  have F_law_walked : FnP K "_law_walked" s_law_walked fd_law_walked := F_law_walked
  obtain ⟨fd_asked_wishes, F_asked_wishes⟩ := c.def_ 6 (d := d_asked_wishes) rfl
  have F_asked_wishes : FnP K "asked_wishes" s_asked_wishes fd_asked_wishes := F_asked_wishes
  obtain ⟨fd_crowd_of, F_crowd_of⟩ := c.def_ 7 (d := d_crowd_of) rfl
  have F_crowd_of : FnP K "crowd_of" s_crowd_of fd_crowd_of := F_crowd_of
  obtain ⟨fd_beneath, F_beneath⟩ := c.def_ 8 (d := d_beneath) rfl
  have F_beneath : FnP K "beneath" s_beneath fd_beneath := F_beneath
  obtain ⟨fd_rising, F_rising⟩ := c.def_ 9 (d := d_rising) rfl
  have F_rising : FnP K "rising" s_rising fd_rising := F_rising
  obtain ⟨fd_all_parked, F_all_parked⟩ := c.def_ 10 (d := d_all_parked) rfl
  have F_all_parked : FnP K "all_parked" s_all_parked fd_all_parked := F_all_parked
  obtain ⟨fd_law_asked, F_law_asked⟩ := c.def_ 11 (d := d_law_asked) rfl
  have F_law_asked : FnP K "_law_asked" s_law_asked fd_law_asked := F_law_asked
  obtain ⟨fd_path, F_path⟩ := c.def_ 12 (d := d_path) rfl
  have F_path : FnP K "path" s_path fd_path := F_path
  obtain ⟨fd_law_right, F_law_right⟩ := c.def_ 13 (d := d_law_right) rfl
  have F_law_right : FnP K "_law_right" s_law_right fd_law_right := F_law_right
  obtain ⟨fd_law, F_law⟩ := c.def_ 14 (d := d_law) rfl
  have F_law : FnP K "law" s_law fd_law := F_law
  have B : Bi mg := ⟨free_ok X G (c.fact 15 (f := .free "len") rfl), free_ok X G (c.fact 16 (f := .free "range") rfl), free_ok X G (c.fact 17 (f := .free "max") rfl), free_ok X G (c.fact 18 (f := .free "min") rfl), free_ok X G (c.fact 19 (f := .free "sum") rfl), free_ok X G (c.fact 20 (f := .free "all") rfl), free_ok X G (c.fact 21 (f := .free "any") rfl), free_ok X G (c.fact 22 (f := .free "list") rfl), free_ok X G (c.fact 23 (f := .free "sorted") rfl), free_ok X G (c.fact 24 (f := .free "isinstance") rfl), free_ok X G (c.fact 25 (f := .free "enumerate") rfl), free_ok X G (c.fact 26 (f := .free "reversed") rfl), free_ok X G (c.fact 27 (f := .free "set") rfl), free_ok X G (c.fact 28 (f := .free "str") rfl), free_ok X G (c.fact 29 (f := .free "int") rfl), free_ok X G (c.fact 30 (f := .free "bool") rfl), free_ok X G (c.fact 31 (f := .free "tuple") rfl), free_ok X G (c.fact 32 (f := .free "ValueError") rfl)⟩
  obtain ⟨tk_PLACES, gc_PLACES⟩ := int_ok X G (c.fact 33 (f := .int "PLACES" 1000000) rfl)
  have X_BadPath : ExcF K mg "BadPath" := by
    obtain ⟨a1, a2, a3, a4⟩ := exc_ok (c.fact 35 (f := .exc "BadPath") rfl)
    exact ⟨a1, glo_ok X G (c.fact 34 (f := .glo "BadPath") rfl), a2, a3, a4⟩
  have X_BadStanding : ExcF K mg "BadStanding" := by
    obtain ⟨a1, a2, a3, a4⟩ := exc_ok (c.fact 37 (f := .exc "BadStanding") rfl)
    exact ⟨a1, glo_ok X G (c.fact 36 (f := .glo "BadStanding") rfl), a2, a3, a4⟩
  have X_BadText : ExcF K mg "BadText" := by
    obtain ⟨a1, a2, a3, a4⟩ := exc_ok (c.fact 39 (f := .exc "BadText") rfl)
    exact ⟨a1, glo_ok X G (c.fact 38 (f := .glo "BadText") rfl), a2, a3, a4⟩
  have X_BadTree : ExcF K mg "BadTree" := by
    obtain ⟨a1, a2, a3, a4⟩ := exc_ok (c.fact 41 (f := .exc "BadTree") rfl)
    exact ⟨a1, glo_ok X G (c.fact 40 (f := .glo "BadTree") rfl), a2, a3, a4⟩
  have X_BadWishes : ExcF K mg "BadWishes" := by
    obtain ⟨a1, a2, a3, a4⟩ := exc_ok (c.fact 43 (f := .exc "BadWishes") rfl)
    exact ⟨a1, glo_ok X G (c.fact 42 (f := .glo "BadWishes") rfl), a2, a3, a4⟩
  have X_StreetError : ExcF K mg "StreetError" := by
    obtain ⟨a1, a2, a3, a4⟩ := exc_ok (c.fact 45 (f := .exc "StreetError") rfl)
    exact ⟨a1, glo_ok X G (c.fact 44 (f := .glo "StreetError") rfl), a2, a3, a4⟩
  have X_TooMany : ExcF K mg "TooMany" := by
    obtain ⟨a1, a2, a3, a4⟩ := exc_ok (c.fact 47 (f := .exc "TooMany") rfl)
    exact ⟨a1, glo_ok X G (c.fact 46 (f := .glo "TooMany") rfl), a2, a3, a4⟩
  have hxe : (["BadPath"] : List Str).all (errB K) = true := hx
  have EX_BadPath : ErrX K "BadPath" := errX_of (List.all_eq_true.mp hxe "BadPath" (by decide))
  have e := hfa.symm.trans (glo_ok X G (c.fact 14 (f := .glo "law") rfl))
  cases e
  have b := FunD.bindsA (ps := ["script"]) F_law fun _ _ _ _ _ _ us hl => match us, hl with | [_], _ => rfl
  refine ⟨fd_law, fun s v => b s [v] rfl, fun base _ _ => ?_⟩
  have C_is_number := Cal.mk (P := P) (w := w) (base := base) (x := "is_number") (ps := P_is_number) (ok_is_number F_is_number B ) (glo_ok X G (c.fact 0 (f := .glo "is_number") rfl)) F_is_number.kp (FunD.bindsN F_is_number fun _ _ _ _ _ _ us hl => match us, hl with | [_, _, _], _ => rfl)
  have C_counted := Cal.mk (P := P) (w := w) (base := base) (x := "counted") (ps := P_counted) (ok_counted F_counted B ) (glo_ok X G (c.fact 1 (f := .glo "counted") rfl)) F_counted.kp (FunD.bindsN F_counted fun _ _ _ _ _ _ us hl => match us, hl with | [_, _], _ => rfl)
  have C_as_list := Cal.mk (P := P) (w := w) (base := base) (x := "as_list") (ps := P_as_list) (ok_as_list F_as_list B ) (glo_ok X G (c.fact 2 (f := .glo "as_list") rfl)) F_as_list.kp (FunD.bindsN F_as_list fun _ _ _ _ _ _ us hl => match us, hl with | [_], _ => rfl)
  have C_heights := Cal.mk (P := P) (w := w) (base := base) (x := "heights") (ps := P_heights) (ok_heights F_heights B X_BadPath ) (glo_ok X G (c.fact 3 (f := .glo "heights") rfl)) F_heights.kp (FunD.bindsN F_heights fun _ _ _ _ _ _ us hl => match us, hl with | [_], _ => rfl)
  have C_law_drawn := Cal.mk (P := P) (w := w) (base := base) (x := "_law_drawn") (ps := P_law_drawn) (ok_law_drawn F_law_drawn ) (glo_ok X G (c.fact 4 (f := .glo "_law_drawn") rfl)) F_law_drawn.kp (FunD.bindsN F_law_drawn fun _ _ _ _ _ _ us hl => match us, hl with | [_], _ => rfl)
  have C_law_walked := Cal.mk (P := P) (w := w) (base := base) (x := "_law_walked") (ps := P_law_walked) (ok_law_walked F_law_walked ) (glo_ok X G (c.fact 5 (f := .glo "_law_walked") rfl)) F_law_walked.kp (FunD.bindsN F_law_walked fun _ _ _ _ _ _ us hl => match us, hl with | [_], _ => rfl)
  have C_asked_wishes := Cal.mk (P := P) (w := w) (base := base) (x := "asked_wishes") (ps := P_asked_wishes) (ok_asked_wishes F_asked_wishes B C_is_number gc_PLACES ) (glo_ok X G (c.fact 6 (f := .glo "asked_wishes") rfl)) F_asked_wishes.kp (FunD.bindsN F_asked_wishes fun _ _ _ _ _ _ us hl => match us, hl with | [_, _], _ => rfl)
  have C_crowd_of := Cal.mk (P := P) (w := w) (base := base) (x := "crowd_of") (ps := P_crowd_of) (ok_crowd_of F_crowd_of B C_counted ) (glo_ok X G (c.fact 7 (f := .glo "crowd_of") rfl)) F_crowd_of.kp (FunD.bindsN F_crowd_of fun _ _ _ _ _ _ us hl => match us, hl with | [_, _], _ => rfl)
  have C_beneath := Cal.mk (P := P) (w := w) (base := base) (x := "beneath") (ps := P_beneath) (ok_beneath F_beneath B C_heights ) (glo_ok X G (c.fact 8 (f := .glo "beneath") rfl)) F_beneath.kp (FunD.bindsN F_beneath fun _ _ _ _ _ _ us hl => match us, hl with | [_], _ => rfl)
  have C_rising := Cal.mk (P := P) (w := w) (base := base) (x := "rising") (ps := P_rising) (ok_rising F_rising C_heights ) (glo_ok X G (c.fact 9 (f := .glo "rising") rfl)) F_rising.kp (FunD.bindsN F_rising fun _ _ _ _ _ _ us hl => match us, hl with | [_], _ => rfl)
  have C_all_parked := Cal.mk (P := P) (w := w) (base := base) (x := "all_parked") (ps := P_all_parked) (ok_all_parked F_all_parked B C_asked_wishes C_crowd_of X_TooMany ) (glo_ok X G (c.fact 10 (f := .glo "all_parked") rfl)) F_all_parked.kp (FunD.bindsN F_all_parked fun _ _ _ _ _ _ us hl => match us, hl with | [_], _ => rfl)
  have C_law_asked := Cal.mk (P := P) (w := w) (base := base) (x := "_law_asked") (ps := P_law_asked) (ok_law_asked F_law_asked B X_BadPath X_BadStanding X_BadText X_BadTree X_BadWishes X_TooMany X_StreetError ((fun f sp h => by
    rcases h with ⟨rfl, rfl⟩ | ⟨rfl, rfl⟩
    · exact ⟨_, _, C_beneath.ok, C_beneath.kp, C_beneath.bd⟩
    · exact ⟨_, _, C_rising.ok, C_rising.kp, C_rising.bd⟩) : ∀ f sp, SPa K f sp → HeldX P w K mg base 2 f sp) EX_BadPath) (glo_ok X G (c.fact 11 (f := .glo "_law_asked") rfl)) F_law_asked.kp (FunD.bindsN F_law_asked fun _ _ _ _ _ _ us hl => match us, hl with | [_, _], _ => rfl)
  have C_path := Cal.mk (P := P) (w := w) (base := base) (x := "path") (ps := P_path) (ok_path F_path B C_all_parked C_as_list C_counted ) (glo_ok X G (c.fact 12 (f := .glo "path") rfl)) F_path.kp (FunD.bindsN F_path fun _ _ _ _ _ _ us hl => match us, hl with | [_], _ => rfl)
  have C_law_right := Cal.mk (P := P) (w := w) (base := base) (x := "_law_right") (ps := P_law_right) (ok_law_right F_law_right C_law_asked C_law_walked C_path C_beneath.gl C_rising.gl ) (glo_ok X G (c.fact 13 (f := .glo "_law_right") rfl)) F_law_right.kp (FunD.bindsN F_law_right fun _ _ _ _ _ _ us hl => match us, hl with | [_], _ => rfl)
  exact ok_law F_law B C_law_drawn C_law_right 
end Pk
open PySem PySem.W PySem.Calls PyProof.Rows
set_option maxHeartbeats 0 in
theorem PySem.Challenge.cw_parkrow_k08_whole_path_back_holds : PySem.Challenge.rw_parkrow_k08_whole_path_back.Holds := by
  w_on; o_law
  refine HandSHeadRun.head_any (r := OpenLaw.row PySem.Challenge.rw_parkrow_k08_whole_path_back) (q := view (OpenLaw.row PySem.Challenge.rw_parkrow_k08_whole_path_back).prog [26]) (H := Pk.hkL) (ob := Pk.obL) (M := 6000) (loose := Pk.looseL) (d := HandSHeadRun.topDef (OpenLaw.row PySem.Challenge.rw_parkrow_k08_whole_path_back).prog 26) (kwd := []) Pk.obL_eq
    (by kernel_rfl) (fun s => by kernel_rfl) Pk.runL (by kernel_rfl) (by kernel_rfl) (by kernel_rfl) (by rfl) (by first | assumption | decide +kernel) (by decide +kernel) ⟨rfl, rfl, rfl, rfl, rfl, by decide +kernel⟩ ?hw ?hc
  case hw => w_witness2
  case hc =>
    refine L2.walk_ofE (l := PySem.Challenge.rw_parkrow_k08_whole_path_back) (n := 63) (k := 6) (x := "script") (CX := L2.CX0) rfl (by decide) (by kernel_rfl) ⟨rfl, by decide, by decide⟩ ?F (fun _ _ _ _ z => z)
    intro w mg fa h Y G hmg0
    obtain ⟨K, KX, c⟩ := Y
    have hmg : mg ("law" : PySem.Str) = some (.ref fa) := by
      have e : (HandSHeadRun.topDef (OpenLaw.row PySem.Challenge.rw_parkrow_k08_whole_path_back).prog 26).name = ("law" : PySem.Str) := by kernel_rfl
      rw [← e]
      exact hmg0
    obtain ⟨fd, hb, hF⟩ := Pk.factsL (P := (PySem.Challenge.rw_parkrow_k08_whole_path_back).prog) (w := w) KX G hmg c.t.d c.more
    exact ⟨K, fd, Pk.spLaw K, KX, hb, fun H a ns hl _ hS => ⟨a, ns, rfl, hS, hl, fun _ => rfl⟩, hF⟩
