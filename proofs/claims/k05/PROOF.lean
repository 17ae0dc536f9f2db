import PyProof.Rows.All
import Wide.All
import OpenK.AllK
import Wide.FinOn
import KE.KStateDown
import Lean
import HandS.ForMost
import HandS.Exc
import HandS.TryOnly
import HandS.ExcOwn
import HandS.WordsExc
import HandS.IsInst
import HandS.Style
import HandS.RevRange
import HandS.StrMore
import HandS.Zip
import HandS.SortInts
import HandS.Evl
import HandS.CallLocal
import HandS.CallSlots
import HandS.ExcIs
import HandS.Codes
import HandS.ExcCtx
import HandS.Hot
import HandS.HotCalls
import HandS.Defaults
import HandS.Head0
import HandS.Head1
import HandS.Head2
import HandS.HeadEnd
import HandS.HeadHook1
import HandS.HeadHook2
import HandS.HeadHook3
import HandS.HeadHook4
import KE.GoesRaise
import HandS.RaiseFrom
import HandS.SuiteRaise
import HandS.Lambda
import HandS.EndTab
import HandS.HeadWalk
import PySem.Challenge.RW_parkrow_k05_whole_tree
set_option Elab.async false
set_option linter.all false
set_option maxRecDepth 100000
set_option maxHeartbeats 0
namespace Pk
open PySem PySem.Spec PyProof.Rows L2 Evl He
/-- what the module's names of built-ins hold: nothing of its own -/
structure Bi (mg : Str → Option Value) : Prop where
  len : mg "len" = none
  range : mg "range" = none
  max : mg "max" = none
  min : mg "min" = none
  sum : mg "sum" = none
  all : mg "all" = none
  any : mg "any" = none
  list : mg "list" = none
  sorted : mg "sorted" = none
  isinstance : mg "isinstance" = none
  enumerate : mg "enumerate" = none
  reversed : mg "reversed" = none
  set : mg "set" = none
  str : mg "str" = none
  int : mg "int" = none
  bool : mg "bool" = none
  tuple : mg "tuple" = none
  valueError : mg "ValueError" = none
/-- a def of the text that keeps its promise, to be called -/
structure Cal (P : Program) (w : World) (K : PySem.W.Frag) (mg : Str → Option Value) (base : Heap) (CX : CXT) (k : Nat) (x : Str) (ps : List Str) (sp : Sp) (fd : FuncData) : Prop where
  ok : FnOk P w K mg base CX k (ga K x) fd ps sp
  gl : mg x = some (.ref (ga K x))
  kp : PySem.W.keepIn K (.ref (ga K x)) = true
  bd : Binds K fd ps []
abbrev veB : List Value := [.type "ValueError", .type "Exception", .type "BaseException", .type "object"]
/-- an own class of errors -/
structure ExcF (K : PySem.W.Frag) (mg : Str → Option Value) (x : Str) : Prop where
  ex : PySem.W.excIn K (ga K x) veB "ValueError.__new__" = true
  gl : mg x = some (.ref (ga K x))
  kp : PySem.W.keepIn K (.ref (ga K x)) = true
  be : PySem.W.subIn K (.ref (ga K x)) (.type "BaseException") = some true
  ty : PySem.W.typeIn K (.ref (ga K x)) = some (.type "type")
def rMulS : R2 := fun x y H Q => ∃ (a : Str) (n : Int), x = .str a ∧ y = .int n ∧ MulOk a n ∧ Q (.str (Txt.mul a n)) H
theorem op_mul_str {X : Cx} : OpR X (binaryOp .Mult) rMulS := by
  intro pins s σ H x y v u Q I rx ry h
  obtain ⟨a, n, rfl, rfl, hz, q⟩ := h
  obtain ⟨t, rfl⟩ := rx
  obtain ⟨t', rfl⟩ := ry
  exact PySem.SB.mul hz (fun t' tk => ⟨.str (Txt.mul a n), H, I.tok _, ⟨_, rfl⟩, q⟩)
def rMin2 : List V → Hp → VK → Prop := fun xs H Q => ∃ i j, xs = [.int i, .int j] ∧ Q (.int (if j < i then j else i)) H
def rLenT : List V → Hp → VK → Prop := fun xs H Q => ∃ z, xs = [.str z] ∧ z.length ≤ sizeLine ∧ Q (.int z.length) H
end Pk
namespace Pk
open PySem PySem.Spec PyProof.Rows L2 Evl He
/-! ### lists of numbers as values -/
def nat (n : Nat) : V := .int (n : Int)
abbrev vn (ws : List Nat) : List V := ws.map nat
abbrev vi (ns : List Int) : List V := ns.map V.int
theorem vn_vi (ws : List Nat) : vn ws = vi (ws.map fun (n : Nat) => (n : Int)) := by
  unfold vn vi
  rw [List.map_map]
  rfl
theorem vn_get {ws : List Nat} {i : Nat} {n : Nat} (h : ws[i]? = some n) : (vn ws)[i]? = some (nat n) := by
  rw [List.getElem?_map, h]
  rfl
theorem vmap_get {α : Type} {c : α → V} {ys : List α} {i : Nat} {x : V} (h : (ys.map c)[i]? = some x) : ∃ y, ys[i]? = some y ∧ x = c y := by
  rw [List.getElem?_map] at h
  cases e : ys[i]? with
  | none => rw [e] at h; cases h
  | some y => rw [e] at h; exact ⟨y, rfl, (Option.some.inj h).symm⟩
theorem at_nat {xs : List V} {i : Nat} {v : V} (h : xs[i]? = some v) : atI xs ((i : Nat) : Int) = some v := atI_nat h
/-- heaps -/
theorem Ex.of_new {H H1 H2 : Hp} {p : Addr} (n : H p = none) (e : Ex H H1) (h : ∀ b o, b ≠ p → H1 b = some o → H2 b = some o) : Ex H H2 := fun a o ha => h a o (ne_of_none ha n) (e a o ha)
theorem et_yes {σ : L2.St} {H : Hp} : EvT tYes σ H true := fun H1 _ _ q => q H1 (Ex.refl H1)
theorem given_all {n : Nat} {v : Nat → V} : given n (fun _ => true) v = (List.range n).map v := by
  unfold given
  rw [List.filter_eq_self.mpr (fun _ _ => rfl)]
section
variable {K : PySem.W.Frag} {σ : L2.St} {H H' : Hp} {ta tb te tx : TE} {t u : TT} {x y z v : V} {r : R2}
/-- [e for i in range(n)] -/
theorem el_rng {ta : TA} {j : Nat} {vs : List Nat} {n : Nat} (v : Nat → V) (h : EvA ta σ H [nat n]) (hn : n ≤ 40000) (hw : ∀ x, wipe ((wipe σ vs).set j (some x)) vs = wipe σ vs)
    (he : ∀ (i : Nat) H1, Ex H H1 → i < n → Ev te ((wipe σ vs).set j (some (nat i))) H1 (v i)) : EvL (tLc (iRng1 ta) (gName j) tYes te vs) σ H ((List.range n).map v) := by
  have g := el_lcR1 (te := te) (fun _ => true) v h ⟨by omega, by omega⟩ hw (fun i H1 e hi => et_yes) (fun i H1 e hi _ => he i H1 e (by omega))
  rw [given_all] at g
  exact g
theorem given_list {α : Type} (f : α → Bool) (g : α → V) (d : α) : ∀ (ys : List α), given ys.length (fun i => f (ys.getD i d)) (fun i => g (ys.getD i d)) = (ys.filter f).map g := by
  intro ys
  have key : ∀ n, n ≤ ys.length → given n (fun i => f (ys.getD i d)) (fun i => g (ys.getD i d)) = ((ys.take n).filter f).map g := by
    intro n
    induction n with
    | zero => intro _; rfl
    | succ n ih =>
      intro hn
      have hlt : n < ys.length := hn
      have e : ys[n]? = some (ys.getD n d) := by
        rw [List.getD_eq_getElem?_getD, List.getElem?_eq_getElem hlt]; rfl
      rw [List.take_add_one, e]
      cases hf : f (ys.getD n d) with
      | true =>
        rw [given_yes (f := fun i => f (ys.getD i d)) hf, ih (by omega)]
        generalize ys.getD n d = z at hf
        simp [hf]
      | false =>
        rw [given_no (f := fun i => f (ys.getD i d)) hf, ih (by omega)]
        generalize ys.getD n d = z at hf
        simp [hf]
  rw [key ys.length (Nat.le_refl _), List.take_length]
/-- [e for y in list if t] over items that are c y -/
theorem el_lsF {α : Type} {a : Addr} {ys : List α} (c : α → V) {tl : TE} {j : Nat} {vs : List Nat} (f : α → Bool) (g : α → V) (h : Ev tl σ H (.ref a)) (hx : SqL K H a (ys.map c)) (hz : ys.length ≤ 40000) (hw : ∀ x, wipe ((wipe σ vs).set j (some x)) vs = wipe σ vs)
    (ht : ∀ (i : Nat) (y : α) H1, Ex H H1 → ys[i]? = some y → EvT t ((wipe σ vs).set j (some (c y))) H1 (f y)) (he : ∀ (i : Nat) (y : α) H1, Ex H H1 → ys[i]? = some y → f y = true → Ev te ((wipe σ vs).set j (some (c y))) H1 (g y)) :
    EvL (tLc (iList K tl) (gName j) t te vs) σ H ((ys.filter f).map g) := by
  cases ys with
  | nil => exact el_lcL (te := te) (t := t) (fun _ => true) (fun _ => .non) h hx hz hw (fun i x H1 e hi => by simp at hi) (fun i x H1 e hi _ => by simp at hi)
  | cons d r =>
    have hd : ∀ i y, (d :: r)[i]? = some y → (d :: r).getD i d = y := fun i y hi => by
      rw [List.getD_eq_getElem?_getD, hi]; rfl
    have k := el_lcL (te := te) (t := t) (fun i => f ((d :: r).getD i d)) (fun i => g ((d :: r).getD i d)) h hx (by rw [List.length_map]; exact hz) hw (fun i x H1 e hi => by
      obtain ⟨y, hy, rfl⟩ := vmap_get hi
      show EvT _ _ _ (f ((d :: r).getD i d))
      rw [hd i y hy]
      exact ht i y H1 e hy) (fun i x H1 e hi hf => by
      obtain ⟨y, hy, rfl⟩ := vmap_get hi
      have hf' : f ((d :: r).getD i d) = true := hf
      rw [hd i y hy] at hf'
      show Ev _ _ _ (g ((d :: r).getD i d))
      rw [hd i y hy]
      exact he i y H1 e hy hf')
    rw [List.length_map, given_list] at k
    exact k
theorem el_ls {α : Type} {a : Addr} {ys : List α} (c : α → V) {tl : TE} {j : Nat} {vs : List Nat} (g : α → V) (h : Ev tl σ H (.ref a)) (hx : SqL K H a (ys.map c)) (hz : ys.length ≤ 40000) (hw : ∀ x, wipe ((wipe σ vs).set j (some x)) vs = wipe σ vs)
    (he : ∀ (i : Nat) (y : α) H1, Ex H H1 → ys[i]? = some y → Ev te ((wipe σ vs).set j (some (c y))) H1 (g y)) :
    EvL (tLc (iList K tl) (gName j) tYes te vs) σ H (ys.map g) := by
  have k := el_lsF (te := te) (t := tYes) c (fun _ => true) g h hx hz hw (fun _ _ _ _ _ => et_yes) (fun i y H1 e hi _ => he i y H1 e hi)
  rw [List.filter_eq_self.mpr (fun _ _ => rfl)] at k
  exact k
/-- over a new list -/
theorem el_nlF {α : Type} {ys : List α} (c : α → V) {tl : TE} {j : Nat} {vs : List Nat} (f : α → Bool) (g : α → V) (h : EvL tl σ H (ys.map c)) (hz : ys.length ≤ 40000) (hw : ∀ x, wipe ((wipe σ vs).set j (some x)) vs = wipe σ vs)
    (ht : ∀ (i : Nat) (y : α) H1, Ex H H1 → ys[i]? = some y → EvT t ((wipe σ vs).set j (some (c y))) H1 (f y)) (he : ∀ (i : Nat) (y : α) H1, Ex H H1 → ys[i]? = some y → f y = true → Ev te ((wipe σ vs).set j (some (c y))) H1 (g y)) :
    EvL (tLc (iList K tl) (gName j) t te vs) σ H ((ys.filter f).map g) := by
  cases ys with
  | nil => exact el_lcNL (te := te) (t := t) (fun _ => true) (fun _ => .non) h hz hw (fun i x H1 e hi => by simp at hi) (fun i x H1 e hi _ => by simp at hi)
  | cons d r =>
    have hd : ∀ i y, (d :: r)[i]? = some y → (d :: r).getD i d = y := fun i y hi => by
      rw [List.getD_eq_getElem?_getD, hi]; rfl
    have k := el_lcNL (te := te) (t := t) (K := K) (fun i => f ((d :: r).getD i d)) (fun i => g ((d :: r).getD i d)) h (by rw [List.length_map]; exact hz) hw (fun i x H1 e hi => by
      obtain ⟨y, hy, rfl⟩ := vmap_get hi
      show EvT _ _ _ (f ((d :: r).getD i d))
      rw [hd i y hy]
      exact ht i y H1 e hy) (fun i x H1 e hi hf => by
      obtain ⟨y, hy, rfl⟩ := vmap_get hi
      have hf' : f ((d :: r).getD i d) = true := hf
      rw [hd i y hy] at hf'
      show Ev _ _ _ (g ((d :: r).getD i d))
      rw [hd i y hy]
      exact he i y H1 e hy hf')
    rw [List.length_map, given_list] at k
    exact k
theorem el_nl {α : Type} {ys : List α} (c : α → V) {tl : TE} {j : Nat} {vs : List Nat} (g : α → V) (h : EvL tl σ H (ys.map c)) (hz : ys.length ≤ 40000) (hw : ∀ x, wipe ((wipe σ vs).set j (some x)) vs = wipe σ vs)
    (he : ∀ (i : Nat) (y : α) H1, Ex H H1 → ys[i]? = some y → Ev te ((wipe σ vs).set j (some (c y))) H1 (g y)) :
    EvL (tLc (iList K tl) (gName j) tYes te vs) σ H (ys.map g) := by
  have k := el_nlF (te := te) (t := tYes) (K := K) c (fun _ => true) g h hz hw (fun _ _ _ _ _ => et_yes) (fun i y H1 e hi _ => he i y H1 e hi)
  rw [List.filter_eq_self.mpr (fun _ _ => rfl)] at k
  exact k

/-! ### loops over prefixes -/
theorem take_pre {α : Type} {ys : List α} {i : Nat} {y : α} (h : ys[i]? = some y) : ys = ys.take i ++ y :: ys.drop (i + 1) ∧ ys.take (i + 1) = ys.take i ++ [y] := by
  obtain ⟨hi, rfl⟩ := List.getElem?_eq_some_iff.mp h
  refine ⟨?_, ?_⟩
  · rw [← List.drop_eq_getElem_cons hi, List.take_append_drop]
  · rw [List.take_add_one, List.getElem?_eq_getElem hi]; rfl
variable {D : Ends} {tu tw tz : TS} {g : TG}
/-- for y in list: rest; I: by the prefix gone -/
theorem q_forP {α : Type} {a : Addr} {ys : List α} (c : α → V) {tl : TE} {j : Nat} (h : Ev tl σ H (.ref a)) (hx : SqL K H a (ys.map c)) (I : List α → L2.St → Hp → Prop) (h0 : ∀ H1, Ex H H1 → I [] σ H1)
    (hl : ∀ pre σ' H', I pre σ' H' → SqL K H' a (ys.map c))
    (hs : ∀ pre y post σ' H', ys = pre ++ y :: post → I pre σ' H' → tu { D with nx := I (pre ++ [y]), ct := I (pre ++ [y]), bk := tz D } (σ'.set j (some (c y))) H')
    (hd : ∀ σ' H', I ys σ' H' → tz D σ' H') : tSeq (tFor (iList K tl) (gName j) tu) tz D σ H :=
  q_forLn h hx (fun i => I (ys.take i)) (fun H1 e => h0 H1 e) (fun i σ' H' _ q => hl _ σ' H' q) (fun i x σ' H' hi q => by
    obtain ⟨y, hy, rfl⟩ := vmap_get hi
    obtain ⟨e1, e2⟩ := take_pre hy
    have := hs (ys.take i) y (ys.drop (i + 1)) σ' H' e1 q
    rw [e2]
    exact this) (fun σ' H' q => hd σ' H' (by rw [List.length_map, List.take_length] at q; exact q))
theorem s_forP {α : Type} {a : Addr} {ys : List α} (c : α → V) {tl : TE} {j : Nat} (h : Ev tl σ H (.ref a)) (hx : SqL K H a (ys.map c)) (I : List α → L2.St → Hp → Prop) (h0 : ∀ H1, Ex H H1 → I [] σ H1)
    (hl : ∀ pre σ' H', I pre σ' H' → SqL K H' a (ys.map c))
    (hs : ∀ pre y post σ' H', ys = pre ++ y :: post → I pre σ' H' → tu { D with nx := I (pre ++ [y]), ct := I (pre ++ [y]), bk := D.nx } (σ'.set j (some (c y))) H')
    (hd : ∀ σ' H', I ys σ' H' → D.nx σ' H') : tFor (iList K tl) (gName j) tu D σ H :=
  s_forLn h hx (fun i => I (ys.take i)) (fun H1 e => h0 H1 e) (fun i σ' H' _ q => hl _ σ' H' q) (fun i x σ' H' hi q => by
    obtain ⟨y, hy, rfl⟩ := vmap_get hi
    obtain ⟨e1, e2⟩ := take_pre hy
    have := hs (ys.take i) y (ys.drop (i + 1)) σ' H' e1 q
    rw [e2]
    exact this) (fun σ' H' q => hd σ' H' (by rw [List.length_map, List.take_length] at q; exact q))
/-- for i in range(n) -/
theorem q_forR {ta : TA} {j : Nat} {n : Nat} (h : EvA ta σ H [nat n]) (hn : n ≤ 100000) (Pv : Nat → L2.St → Hp → Prop) (h0 : ∀ H1, Ex H H1 → Pv 0 σ H1)
    (hs : ∀ (i : Nat) σ' H', i < n → Pv i σ' H' → tu { D with nx := Pv (i + 1), ct := Pv (i + 1), bk := tz D } (σ'.set j (some (nat i))) H') (hd : ∀ σ' H', Pv n σ' H' → tz D σ' H') : tSeq (tFor (iRng1 ta) (gName j) tu) tz D σ H :=
  q_forR1 h ⟨by omega, by omega⟩ Pv h0 (fun i σ' H' hi q => hs i σ' H' (by omega) q) (fun σ' H' q => hd σ' H' (by rw [Int.toNat_natCast] at q; exact q))
/-- for i in reversed(range(n)): I k: k turns are left -/
theorem q_forRev {te : TE} {j : Nat} {n : Nat} (h : Ev te σ H (nat n)) (hn : n ≤ 100000) (Pv : Nat → L2.St → Hp → Prop) (h0 : ∀ H1, Ex H H1 → Pv n σ H1)
    (hs : ∀ (i : Nat) σ' H', i < n → Pv (i + 1) σ' H' → tu { D with nx := Pv i, ct := Pv i, bk := tz D } (σ'.set j (some (nat i))) H') (hd : ∀ σ' H', Pv 0 σ' H' → tz D σ' H') : tSeq (tFor (iRevR (tRg1 te)) (gName j) tu) tz D σ H := by
  refine h H (Ex.refl H) _ fun H1 e => ⟨n, rfl, ?_⟩
  refine ⟨by omega, by omega, by omega, by omega, ?_⟩
  have en : (((n : Int) - 0).toNat) = n := by omega
  rw [en]
  refine for_rangeC (lo := (0 : Int) + (n : Int) - 1) (c := -1) (n := n) (fun i => Pv (n - i)) (h0 H1 e) (fun i σ' H' hi q => ?_) (fun σ' H' q => hd σ' H' (by rw [Nat.sub_self] at q; exact q))
  have e1 : ((0 : Int) + (n : Int) - 1 + (i : Int) * -1) = ((n - (i + 1) : Nat) : Int) := by omega
  show tu { D with nx := Pv (n - (i + 1)), ct := Pv (n - (i + 1)), bk := tz D } (σ'.set j (some (.int ((0 : Int) + (n : Int) - 1 + (i : Int) * -1)))) H'
  rw [e1]
  have e2 : n - (i + 1) + 1 = n - i := by omega
  exact hs (n - (i + 1)) σ' H' (by omega) (by rw [e2]; exact q)
end
end Pk
namespace Pk
open PySem PySem.Spec PyProof.Rows L2 Evl He
/-! ### equality of lists of numbers -/
def pdi (ns : List Int) : PyData := .list (ns.map PyData.int)
theorem dpAll_ints {K : PySem.W.Frag} {H : Hp} : ∀ ns : List Int, DpAll K H (vi ns) (ns.map PyData.int)
  | [] => .nil
  | n :: r => .cons (.int n) (dpAll_ints r)
theorem dp_ints {K : PySem.W.Frag} {H : Hp} {a : Addr} {ns : List Int} (h : SqL K H a (vi ns)) : Dp K H (.ref a) (pdi ns) := .lst h (dpAll_ints ns)
theorem canLay_ints : ∀ ns : List Int, PyData.canLayAll0 (ns.map PyData.int) = true
  | [] => by simp [PyData.canLayAll0]
  | n :: r => by simp [PyData.canLayAll0, PyData.canLay0, canLay_ints r]
theorem depth_ints : ∀ ns : List Int, PyData.depthAll (ns.map PyData.int) ≤ 1
  | [] => by simp [PyData.depthAll]
  | n :: r => by
    have h := depth_ints r
    simp only [List.map_cons, PyData.depthAll, PyData.depth]
    omega
theorem shaped_ints (ns : List Int) : SeqAt.shaped (pdi ns) = true := by
  have h := depth_ints ns
  unfold SeqAt.shaped pdi
  rw [Bool.and_eq_true_iff]
  refine ⟨by simp [PyData.canLay0, canLay_ints ns], decide_eq_true ?_⟩
  simp only [PyData.depth]
  omega
theorem eqvAll_ints : ∀ ns ms : List Int, PyData.eqvAll (ns.map PyData.int) (ms.map PyData.int) = decide (ns = ms)
  | [], [] => rfl
  | [], m :: s => rfl
  | n :: r, [] => rfl
  | n :: r, m :: s => by
    show (PyData.eqv (.int n) (.int m) && PyData.eqvAll (r.map PyData.int) (s.map PyData.int)) = _
    rw [eqvAll_ints r s]
    show ((n == m) && decide (r = s)) = _
    by_cases h1 : n = m
    · by_cases h2 : r = s
      · simp [h1, h2]
      · simp [h1, h2]
    · simp [h1]
theorem eqv_ints (ns ms : List Int) : PyData.eqv (pdi ns) (pdi ms) = decide (ns = ms) := eqvAll_ints ns ms
section
variable {K : PySem.W.Frag} {σ : L2.St} {H H' : Hp} {ta tb te tx : TE} {t u : TT} {x y z v : V} {r : R2}
theorem rv_eqI {a b : Addr} {ns ms : List Int} (h1 : SqL K H a (vi ns)) (h2 : SqL K H b (vi ms)) : RV (rEqD K) (.ref a) (.ref b) H (.bl (decide (ns = ms))) := fun H1 e Q q =>
  ⟨_, _, dp_ints (ex_l e h1), dp_ints (ex_l e h2), shaped_ints ns, shaped_ints ms, by rw [eqv_ints]; exact q H1 (Ex.refl H1)⟩
theorem rv_neI {a b : Addr} {ns ms : List Int} (h1 : SqL K H a (vi ns)) (h2 : SqL K H b (vi ms)) : RV (rNeD K) (.ref a) (.ref b) H (.bl (!decide (ns = ms))) := fun H1 e Q q =>
  ⟨_, _, dp_ints (ex_l e h1), dp_ints (ex_l e h2), shaped_ints ns, shaped_ints ms, by rw [eqv_ints]; exact q H1 (Ex.refl H1)⟩
theorem rv_eqN {a b : Addr} {ns ms : List Nat} (h1 : SqL K H a (vn ns)) (h2 : SqL K H b (vn ms)) : RV (rEqD K) (.ref a) (.ref b) H (.bl (decide (ns = ms))) := by
  rw [vn_vi] at h1 h2
  have k := rv_eqI h1 h2
  have e : (ns.map (fun (n : Nat) => (n : Int)) = ms.map (fun (n : Nat) => (n : Int))) = (ns = ms) := by
    refine propext ⟨fun h => ?_, fun h => by rw [h]⟩
    exact List.map_inj_right (fun a b hab => Int.ofNat.inj hab) |>.mp h
  rw [show decide (ns.map (fun (n : Nat) => (n : Int)) = ms.map (fun (n : Nat) => (n : Int))) = decide (ns = ms) from by simp only [e]] at k
  exact k
theorem rv_neN {a b : Addr} {ns ms : List Nat} (h1 : SqL K H a (vn ns)) (h2 : SqL K H b (vn ms)) : RV (rNeD K) (.ref a) (.ref b) H (.bl (!decide (ns = ms))) := by
  rw [vn_vi] at h1 h2
  have k := rv_neI h1 h2
  have e : (ns.map (fun (n : Nat) => (n : Int)) = ms.map (fun (n : Nat) => (n : Int))) = (ns = ms) := by
    refine propext ⟨fun h => ?_, fun h => by rw [h]⟩
    exact List.map_inj_right (fun a b hab => Int.ofNat.inj hab) |>.mp h
  rw [show decide (ns.map (fun (n : Nat) => (n : Int)) = ms.map (fun (n : Nat) => (n : Int))) = decide (ns = ms) from by simp only [e]] at k
  exact k
/-! ### calls of built-ins -/
theorem rc_sum {a : Addr} {ns : List Int} (h : SqL K H a (vi ns)) : RC (rSum K) [.ref a] H (.int ns.sum) := fun H1 e Q q => ⟨a, ns, rfl, ex_l e h, q H1 (Ex.refl H1)⟩
theorem sum_nat : ∀ ws : List Nat, (ws.map fun (n : Nat) => (n : Int)).sum = ((ws.sum : Nat) : Int)
  | [] => rfl
  | w :: r => by
    rw [List.map_cons, List.sum_cons, List.sum_cons, sum_nat r]
    omega
theorem rc_sumN {a : Addr} {ws : List Nat} (h : SqL K H a (vn ws)) : RC (rSum K) [.ref a] H (nat ws.sum) := by
  rw [vn_vi] at h
  have k := rc_sum h
  rw [sum_nat] at k
  exact k
theorem rc_all {a : Addr} {bs : List Bool} (h : SqL K H a (bs.map V.bl)) : RC (rAll K) [.ref a] H (.bl (bs.all id)) := fun H1 e Q q => ⟨a, bs, rfl, ex_l e h, q H1 (Ex.refl H1)⟩
/-- all([..]), the list made on the way -/
theorem ev_allN {bs : List Bool} (h : EvL ta σ H (bs.map V.bl)) : Ev (tCB (rAll K) (tCons ta tNil)) σ H (.bl (bs.all id)) := fun H1 e Q q =>
  h H1 e _ fun p H2 _ e2 h2 => ⟨p, bs, rfl, sq_of h2, q H2 e2⟩
theorem ev_all {a : Addr} {bs : List Bool} (ha : Ev ta σ H (.ref a)) (h : SqL K H a (bs.map V.bl)) : Ev (tCB (rAll K) (tCons ta tNil)) σ H (.bl (bs.all id)) := ev_cb (ea_cons ha ea_nil) (rc_all h)
theorem ev_sumN {a : Addr} {ws : List Nat} (ha : Ev ta σ H (.ref a)) (h : SqL K H a (vn ws)) : Ev (tCB (rSum K) (tCons ta tNil)) σ H (nat ws.sum) := ev_cb (ea_cons ha ea_nil) (rc_sumN h)
theorem ev_sum {a : Addr} {ns : List Int} (ha : Ev ta σ H (.ref a)) (h : SqL K H a (vi ns)) : Ev (tCB (rSum K) (tCons ta tNil)) σ H (.int ns.sum) := ev_cb (ea_cons ha ea_nil) (rc_sum h)
/-- isinstance of a built-in class -/
theorem rc_isi {t b : String} {k : Bool} (ty : ∀ H1, Ex H H1 → TyX K H1 x (.type t)) (hk : kitB t b = some k) : RC (rIsi K) [x, .ty b] H (.bl k) := fun H1 e Q q =>
  ⟨x, .ty b, .type t, .type b, k, rfl, .ty b, ty H1 e, kit_ty hk, q H1 (Ex.refl H1)⟩
theorem ty_list {a : Addr} {xs : List V} (h : SqL K H a xs) : TyX K H (.ref a) (.type "list") := by
  rcases h with (h | ⟨o, h⟩) | ⟨o, its, n, hk, hc, hd, hs, hz, r⟩
  · exact .base (.lst h)
  · exact .base (.frz h)
  · exact .kList hk hc
theorem isi_int {i : Int} (b : String) {k : Bool} (hk : kitB "int" b = some k) : RC (rIsi K) [.int i, .ty b] H (.bl k) := rc_isi (fun _ _ => .base (.int i)) hk
theorem isi_list {a : Addr} {xs : List V} (h : SqL K H a xs) (b : String) {k : Bool} (hk : kitB "list" b = some k) : RC (rIsi K) [.ref a, .ty b] H (.bl k) := rc_isi (fun H1 e => ty_list (ex_l e h)) hk
theorem isi_str {s : Str} (b : String) {k : Bool} (hk : kitB "str" b = some k) : RC (rIsi K) [.str s, .ty b] H (.bl k) := rc_isi (fun _ _ => .base (.str s)) hk
theorem isi_bl {s : Bool} (b : String) {k : Bool} (hk : kitB "bool" b = some k) : RC (rIsi K) [.bl s, .ty b] H (.bl k) := rc_isi (fun _ _ => .base (.bl s)) hk
/-! ### sorted -/
def isort (ns : List Int) : List Int := ns.mergeSort (fun a b => decide (a ≤ b))
theorem isort_perm (ns : List Int) : (isort ns).Perm ns := List.mergeSort_perm ns _
theorem isort_rise (ns : List Int) : (isort ns).Pairwise (· ≤ ·) := by
  have h := List.pairwise_mergeSort (le := fun (a b : Int) => decide (a ≤ b)) (fun a b c h1 h2 => by simp only [decide_eq_true_eq] at *; omega) (fun a b => by simp only [Bool.or_eq_true, decide_eq_true_eq]; omega) ns
  exact h.imp (fun q => of_decide_eq_true q)
theorem isort_is {ns ms : List Int} (p : ms.Perm ns) (r : ms.Pairwise (· ≤ ·)) : isort ns = ms :=
  List.Perm.eq_of_pairwise (fun a b _ _ h1 h2 => Int.le_antisymm h1 h2) (isort_rise ns) r ((isort_perm ns).trans p.symm)
theorem el_sorted {a : Addr} {ns : List Int} (ha : Ev ta σ H (.ref a)) (h : SqL K H a (vi ns)) : EvL (tCB (rSortedI K) (tCons ta tNil)) σ H (vi (isort ns)) := fun H1 e Q q =>
  ha H1 e _ fun H2 e2 => ⟨a, ns, rfl, ex_l (e.trans e2) h, fun ns' p hp hr hn => by
    have z := isort_is hp hr
    subst z
    exact q p _ (fresh_back e2 hn) (e2.trans (Ex.new hn)) upd_same⟩
/-- operators on numbers -/
theorem ev_add {i j k : Int} (ha : Ev ta σ H (.int i)) (hb : Ev tb σ H (.int j)) (e : k = i + j) : Ev (tOp (rI0 fun i j => .int (i + j)) ta tb) σ H (.int k) := by
  rw [e]; exact ev_op ha hb rv_I0
theorem ev_sub {i j k : Int} (ha : Ev ta σ H (.int i)) (hb : Ev tb σ H (.int j)) (e : k = i - j) : Ev (tOp (rI0 fun i j => .int (i - j)) ta tb) σ H (.int k) := by
  rw [e]; exact ev_op ha hb rv_I0
theorem ev_mod {i j k : Int} (ha : Ev ta σ H (.int i)) (hb : Ev tb σ H (.int j)) (hj : 0 < j) (e : k = i % j) : Ev (tOp (rI (fun _ j => 0 < j) fun i j => .int (i % j)) ta tb) σ H (.int k) := by
  rw [e]; exact ev_op ha hb (rv_I hj)
theorem ev_div {i j k : Int} (ha : Ev ta σ H (.int i)) (hb : Ev tb σ H (.int j)) (hj : 0 < j ∧ j < 1073741824) (e : k = i / j) : Ev (tOp (rI CDiv fun i j => .int (i / j)) ta tb) σ H (.int k) := by
  rw [e]; exact ev_op ha hb (rv_I hj)
theorem ev_mul {i j k : Int} (ha : Ev ta σ H (.int i)) (hb : Ev tb σ H (.int j)) (hj : CMul i j) (e : k = i * j) : Ev (tOp (rI CMul fun i j => .int (i * j)) ta tb) σ H (.int k) := by
  rw [e]; exact ev_op ha hb (rv_I hj)
theorem ev_cmp {p : Int → Int → Bool} {i j : Int} {b : Bool} (ha : Ev ta σ H (.int i)) (hb : Ev tb σ H (.int j)) (e : b = p i j) : Ev (tOp (rI0 fun i j => .bl (p i j)) ta tb) σ H (.bl b) := by
  rw [e]; exact ev_op ha hb rv_I0
theorem ev_eqInt {i j : Int} (ha : Ev ta σ H (.int i)) (hb : Ev tb σ H (.int j)) : Ev (tOp rEq ta tb) σ H (.bl (decide (i = j))) := by
  have k := ev_op (r := rEq) ha hb (rv_eq rfl)
  rw [show decide (V.int i = V.int j) = decide (i = j) from by simp] at k
  exact k
theorem ev_neInt {i j : Int} (ha : Ev ta σ H (.int i)) (hb : Ev tb σ H (.int j)) : Ev (tOp rNe ta tb) σ H (.bl (!decide (i = j))) := by
  have k := ev_op (r := rNe) ha hb (rv_ne rfl)
  rw [show decide (V.int i = V.int j) = decide (i = j) from by simp] at k
  exact k
/-- ws[i] -/
theorem ev_ixN {p : Addr} {xs : List V} {i : Nat} (ha : Ev ta σ H (.ref p)) (hb : Ev tb σ H (nat i)) (h : SqL K H p xs) (hi : xs[i]? = some v) : Ev (tOp (rIxL K) ta tb) σ H v := ev_op ha hb (rv_ixL h (at_nat hi))
theorem ev_chain {p q : Int → Int → Bool} {i j k : Int} {b : Bool} (ha : Ev ta σ H (.int i)) (hb : Ev tb σ H (.int j)) (hc : Ev te σ H (.int k)) (e : b = (p i j && q j k)) :
    Ev (tChain (rI0 fun i j => .bl (p i j)) (rI0 fun i j => .bl (q i j)) ta tb te) σ H (.bl b) := fun H1 e1 Q Qk => by
  rw [e] at Qk
  refine ha H1 e1 _ fun H2 e2 => hb H2 (e1.trans e2) _ fun H3 e3 => ⟨i, j, rfl, rfl, p i j, rfl, ?_⟩
  cases hp : p i j with
  | true =>
    rw [hp] at Qk
    exact hc H3 ((e1.trans e2).trans e3) _ fun H4 e4 => ⟨j, k, rfl, rfl, Qk H4 ((e2.trans e3).trans e4)⟩
  | false =>
    rw [hp] at Qk
    exact Qk H3 (e2.trans e3)
end
end Pk
namespace Pk
open PySem PySem.Spec PyProof.Rows L2 Evl He
section
variable {K : PySem.W.Frag} {σ : L2.St} {H H' : Hp} {ta tb te tx : TE} {t u : TT} {x y z v : V} {r : R2} {D : Ends} {tu tw tz : TS} {g : TG}
/-! ### calls that may raise -/
theorem s_callX {sp : Sp} {dvs vs : List V} {E : XK} {ta : TA} (h : EvA ta σ H vs) (k : ∀ H1, Ex H H1 → sp (vs ++ dvs) H1 (fun _ H' => D.nx σ H') E) : tDrop (tCall sp dvs E ta) D σ H :=
  h H (Ex.refl H) _ fun H1 e => k H1 e
theorem q_callX {sp : Sp} {dvs vs : List V} {E : XK} {ta : TA} (h : EvA ta σ H vs) (k : ∀ H1, Ex H H1 → sp (vs ++ dvs) H1 (fun _ H' => tz D σ H') E) : tSeq (tDrop (tCall sp dvs E ta)) tz D σ H := s_callX (D := { D with nx := tz D }) h k
theorem s_asgX {sp : Sp} {dvs vs : List V} {E : XK} {ta : TA} {i : Nat} (h : EvA ta σ H vs) (k : ∀ H1, Ex H H1 → sp (vs ++ dvs) H1 (fun v H' => D.nx (σ.set i (some v)) H') E) : tAsg (tCall sp dvs E ta) (gName i) D σ H :=
  h H (Ex.refl H) _ fun H1 e => k H1 e
theorem q_asgX {sp : Sp} {dvs vs : List V} {E : XK} {ta : TA} {i : Nat} (h : EvA ta σ H vs) (k : ∀ H1, Ex H H1 → sp (vs ++ dvs) H1 (fun v H' => tz D (σ.set i (some v)) H') E) : tSeq (tAsg (tCall sp dvs E ta) (gName i)) tz D σ H := s_asgX (D := { D with nx := tz D }) h k
theorem s_retX {sp : Sp} {dvs vs : List V} {E : XK} {ta : TA} (h : EvA ta σ H vs) (k : ∀ H1, Ex H H1 → sp (vs ++ dvs) H1 D.rt E) : tRet (tCall sp dvs E ta) D σ H :=
  h H (Ex.refl H) _ fun H1 e => k H1 e
/-! ### comparisons with a list made on the way -/
theorem ev_neLN {a : Addr} {ns ms : List Nat} (ha : Ev ta σ H (.ref a)) (h1 : SqL K H a (vn ns)) (hb : EvL tb σ H (vn ms)) : Ev (tOp (rNeD K) ta tb) σ H (.bl (!decide (ns = ms))) :=
  ev_opL ha hb fun p H1 hp e => rv_neN (ex_l e h1) (sq_of hp)
theorem ev_eqLN {a : Addr} {ns ms : List Nat} (ha : Ev ta σ H (.ref a)) (h1 : SqL K H a (vn ns)) (hb : EvL tb σ H (vn ms)) : Ev (tOp (rEqD K) ta tb) σ H (.bl (decide (ns = ms))) :=
  ev_opL ha hb fun p H1 hp e => rv_eqN (ex_l e h1) (sq_of hp)
theorem ev_neLI {a : Addr} {ns ms : List Int} (ha : Ev ta σ H (.ref a)) (h1 : SqL K H a (vi ns)) (hb : EvL tb σ H (vi ms)) : Ev (tOp (rNeD K) ta tb) σ H (.bl (!decide (ns = ms))) :=
  ev_opL ha hb fun p H1 hp e => rv_neI (ex_l e h1) (sq_of hp)
theorem ev_eqLI {a : Addr} {ns ms : List Int} (ha : Ev ta σ H (.ref a)) (h1 : SqL K H a (vi ns)) (hb : EvL tb σ H (vi ms)) : Ev (tOp (rEqD K) ta tb) σ H (.bl (decide (ns = ms))) :=
  ev_opL ha hb fun p H1 hp e => rv_eqI (ex_l e h1) (sq_of hp)
theorem ev_neN {a b : Addr} {ns ms : List Nat} (ha : Ev ta σ H (.ref a)) (hb : Ev tb σ H (.ref b)) (h1 : SqL K H a (vn ns)) (h2 : SqL K H b (vn ms)) : Ev (tOp (rNeD K) ta tb) σ H (.bl (!decide (ns = ms))) := ev_op ha hb (rv_neN h1 h2)
theorem ev_eqN {a b : Addr} {ns ms : List Nat} (ha : Ev ta σ H (.ref a)) (hb : Ev tb σ H (.ref b)) (h1 : SqL K H a (vn ns)) (h2 : SqL K H b (vn ms)) : Ev (tOp (rEqD K) ta tb) σ H (.bl (decide (ns = ms))) := ev_op ha hb (rv_eqN h1 h2)
theorem ev_lenS {p : Addr} {xs : List V} {n : Nat} (ha : Ev ta σ H (.ref p)) (h : SqL K H p xs) (hn : xs.length = n) : Ev (tCB (rLenS K) (tCons ta tNil)) σ H (nat n) := by
  have k := ev_len ha h
  rw [hn] at k
  exact k
theorem ev_maxN {i j k : Nat} (ha : Ev ta σ H (nat i)) (hb : Ev tb σ H (nat j)) (e : k = Nat.max i j) : Ev (tCB rMax2 (tCons ta (tCons tb tNil))) σ H (nat k) := by
  have q := ev_max2 ha hb
  refine ev_is q ?_
  unfold nat
  rw [e]
  congr 1
  have h2 : Nat.max i j = if i < j then j else i := by
    show max i j = _
    split <;> omega
  rw [h2]
  split
  · rw [if_pos (by omega)]
  · rw [if_neg (by omega)]
/-! ### texts -/
open SX (S)
theorem q_forS {ts : TE} {j : Nat} {cs : List Nat} (h : Ev ts σ H (.str (S cs))) (I : List Nat → L2.St → Hp → Prop) (h0 : ∀ H1, Ex H H1 → I [] σ H1)
    (hs : ∀ pre c post σ' H', cs = pre ++ c :: post → I pre σ' H' → tu { D with nx := I (pre ++ [c]), ct := I (pre ++ [c]), bk := tz D } (σ'.set j (some (.str (S [c])))) H')
    (hd : ∀ σ' H', I cs σ' H' → tz D σ' H') : tSeq (tFor (iStr ts) (gName j) tu) tz D σ H := by
  refine h H (Ex.refl H) _ fun H1 e => ⟨S cs, rfl, ?_⟩
  refine ⟨fun i m σ H => m = cs.length - i ∧ i ≤ cs.length ∧ I (cs.take i) σ H, ⟨cs.length, by simp, Nat.zero_le _, h0 H1 e⟩, ?_⟩
  rintro i m σ H ⟨rfl, hi, p⟩
  have sz : (S cs).cps.size = cs.length := by simp [S]
  by_cases hlt : i < cs.length
  · refine .inr ⟨by show i < (S cs).cps.size; rw [sz]; exact hlt, I (cs.take (i + 1)), fun σ' H' p' => ⟨cs.length - (i + 1), by omega, rfl, hlt, p'⟩, fun x H' y => ?_⟩
    obtain ⟨rfl, c, hc, rfl⟩ := y
    have hc' : cs[i]? = some c := by simpa [S] using hc
    obtain ⟨e1, e2⟩ := take_pre hc'
    have := hs (cs.take i) c (cs.drop (i + 1)) σ _ e1 p
    rw [e2]
    exact this
  · have e : i = cs.length := by omega
    subst e
    refine .inl ⟨by show (S cs).cps.size ≤ cs.length; rw [sz]; exact Nat.le_refl _, hd σ H ?_⟩
    rw [List.take_length] at p
    exact p
theorem ev_catS {a b : List Nat} (ha : Ev ta σ H (.str (S a))) (hb : Ev tb σ H (.str (S b))) (hz : a.length + b.length ≤ 100000) : Ev (tOp (fun x y H Q => ∃ i j, x = .str i ∧ y = .str j ∧ i.length + j.length ≤ sizeLine ∧ Q (.str (i ++ j)) H) ta tb) σ H (.str (S (a ++ b))) :=
  ev_op ha hb fun H1 e Q q => ⟨S a, S b, rfl, rfl, by rw [SX.S_len, SX.S_len]; exact sz_of hz, by rw [SX.S_cat]; exact q H1 (Ex.refl H1)⟩
theorem mul_S (c : Nat) (n : Nat) : Txt.mul (S [c]) (n : Int) = S (List.replicate n c) := by
  unfold Txt.mul
  cases n with
  | zero => rfl
  | succ n =>
    rw [if_neg (by omega)]
    by_cases h1 : n = 0
    · subst h1
      rfl
    · have e1 : (((n + 1 : Nat) : Int) == 1) = false := by simp; omega
      have e2 : ((S [c]).length == 0) = false := rfl
      rw [e1, e2]
      show (if false = true then S [c] else _) = _
      rw [if_neg Bool.false_ne_true, Int.toNat_natCast]
      have key : ∀ (k : Nat) (acc : Array Nat), ((List.replicate k (S [c]).cps).foldl (· ++ ·) acc).toList = acc.toList ++ List.replicate k c := by
        intro k
        induction k with
        | zero => intro acc; simp
        | succ k ih =>
          intro acc
          rw [List.replicate_succ, List.foldl_cons, ih, Array.toList_append, List.replicate_succ, List.append_assoc]
          rfl
      refine TL.ext_tl ?_
      exact (key (n + 1) #[]).trans (by simp [TL.tl, S])
theorem mulOk_S (c : Nat) {n : Nat} (h : n ≤ 100000) : MulOk (S [c]) (n : Int) := by
  have h1 : (S [c]).length = 1 := rfl
  refine ⟨?_, fun h2 _ => ?_, fun _ _ => ?_⟩
  · rw [Bool.or_eq_false_iff]
    exact ⟨decide_eq_false (by omega), decide_eq_false (by omega)⟩
  · rw [h1]
    have h3 : (1 : Int) ≤ (2 ^ 63 - 1) / (n : Int) := by
      refine (Int.le_ediv_iff_mul_le (by omega)).mpr ?_
      omega
    show ¬ (((1 : Nat) : Int) > (2 ^ 63 - 1) / (n : Int))
    omega
  · rw [h1, Int.toNat_natCast]
    unfold Builtin.Str.tooLong
    have h4 : 1 * n ≤ sizeLine := by rw [Nat.one_mul]; exact sz_of h
    exact decide_eq_false (by omega)
theorem ev_mulS {c n : Nat} (ha : Ev ta σ H (.str (S [c]))) (hb : Ev tb σ H (nat n)) (hz : n ≤ 100000) : Ev (tOp rMulS ta tb) σ H (.str (S (List.replicate n c))) :=
  ev_op ha hb fun H1 e Q q => ⟨S [c], (n : Int), rfl, rfl, mulOk_S c hz, by rw [mul_S]; exact q H1 (Ex.refl H1)⟩
/-- "".join(new list of texts) -/
def rJoin (K : PySem.W.Frag) : V → List V → Hp → VK → Prop := fun x xs H Q => ∃ a p, ∃ ys : List Str, x = .str a ∧ xs = [.ref p] ∧ (SqL K H p (ys.map V.str) ∨ SqT K H p (ys.map V.str)) ∧
      (ys.map (·.length)).sum + ys.length * a.length ≤ 16777216 ∧ Q (.str (Txt.join a ys)) H
theorem ev_joinL {a : List Nat} {ys : List (List Nat)} (ha : Ev ta σ H (.str (S a))) (hb : EvL tb σ H (ys.map fun y => V.str (S y))) (hz : (ys.map (·.length)).sum + ys.length * a.length ≤ 16777216) :
    Ev (tM1 (rJoin K) ta tb) σ H (.str (S (TL.joinL a ys))) := fun H1 e Q q =>
  ha H1 e _ fun H2 e2 => ⟨⟨_, rfl⟩, hb H2 (e.trans e2) _ fun p H3 _ e3 hp => ⟨S a, p, ys.map S, rfl, rfl, .inl (sq_of (by rw [List.map_map]; exact hp)), by
    rw [List.map_map, List.length_map, SX.S_len]
    have e4 : ((fun y : Str => y.length) ∘ S) = fun y : List Nat => y.length := funext fun y => SX.S_len y
    rw [e4]
    exact hz, by rw [SX.join_S]; exact q H3 (e2.trans e3)⟩⟩
end
end Pk
namespace Pk
open PySem PySem.Spec PyProof.Rows L2 Evl He
/-! ### errors: what leaves a def, what is caught -/
theorem passN {X : Cx} : Passes (L2N.CX X.prog X.w) X E0 := fun _ _ _ _ _ _ _ h => by
  obtain ⟨_, _, _, _, _, _, _, _, _, _, _, _, z⟩ := h
  exact z.elim
theorem takesN {X : Cx} : L2N.Takes X (fun _ _ _ _ => False) := fun _ _ x => by
  obtain ⟨_, _, _, _, _, _, _, _, _, _, _, _, _, _, _, _, z⟩ := x
  exact z.elim
/-- the end of a list's walk while an exception is handled -/
theorem list_end_hot {prog : Program} {w : World} {A : Around} {E : Value → Shared → Prop} {s : Shared} {it l x1 : Addr} {i : Nat} {items : Array Value} {Q : Option Value → Shared → Prop} (hot : HotX.HotAt A x1 s.heap) (hne : x1 ≠ it)
    (hit : s.heap.IsListIter it l i) (hl : s.heap.IsList l items) (hx : items[i]? = none)
    (hQ : ∀ h', Heap.ExtBut it s.heap h' → Q none { s with heap := h' }) : wpAny (model prog w) A (pyNext (.ref it)) Q E s := by
  obtain ⟨o, ho, hc, hd⟩ := id hit
  obtain ⟨ol, hol, _, nl, hdl⟩ := hl
  obtain ⟨hh, o1, vs1, h1, d1, c1⟩ := hot
  unfold pyNext
  refine wpAny_bind (wpAny_attempt (wpAny_callSpecial?_slot (name := Str.ofString "__next__") hit.typeIs slot_listiter_next
    (wpAny_call_entry slot_listiter_next hit.typeIs entry_listiter_next ?_ (args_listiter_next _))))
  show wpAny _ _ (field (.ref it) 0 >>= _) _ _ s
  refine wpAny_bind (wpAny_field ho hd (x := .ref l) rfl ?_)
  show wpAny _ _ (if (Value.ref l == Value.none) = true then _ else _) _ _ s
  rw [if_neg (show ¬ ((Value.ref l == Value.none) = true) from Bool.false_ne_true)]
  show wpAny _ _ (field (.ref it) 1 >>= _) _ _ s
  refine wpAny_bind (wpAny_field ho hd (x := .int i 0) rfl ?_)
  show wpAny _ _ (seqItems? (.ref l) >>= _) _ _ s
  refine wpAny_bind (wpAny_seqItems hol hdl ?_)
  simp only [Int.toNat_natCast, hx]
  refine wpAny_bind (wpAny_rule (wpAny_bind (wpAny_setField ho hd (by simp) ?_)))
  show wpAny _ _ (newExc (.type "StopIteration") [] >>= _) _ _ _
  refine wpAny_bind ?_
  simp only [newExc, newTuple]
  refine wpAny_bind (wpAny_newObj_type ?_ (by size_fits))
  refine wpAny_bind (m := firstArgMember _ _) (wpAny_of_eq (a := Value.none) (by first | rfl | (simp only [firstArgMember]; rfl)) ?_)
  refine wpAny_newObj_type ?_ (by size_fits)
  refine HotX.raiseNew_hot (x1 := x1) ⟨hh, o1, vs1, ?_, d1, c1⟩ ?_ (Heap.get?_push_size _ rfl) rfl (by first | (simp; done) | (simp; omega) | (simp only [Array.size_append]; simp; omega)) ?_
  · exact Heap.get?_push_of_some _ (Heap.get?_push_of_some _ ((Heap.get?_update_other _ _ (Ne.symm hne)).trans h1))
  · exact Nat.ne_of_lt (Heap.lt_size (Heap.get?_push_of_some _ ((Heap.get?_update_other _ _ (Ne.symm hne)).trans h1)))
  refine wpAny_bind (wpAny_isInstance (T := "StopIteration") (b := true) ⟨_, Heap.get?_update_self _ (Heap.get?_push_size _ rfl) rfl, rfl⟩ isSubtype_stop ?_)
  refine wpAny_pure (hQ _ fun b ob hb e => ?_)
  have e1 := (Heap.get?_update_other s.heap (Obj.mapFields fun x => x.setIfInBounds 0 Value.none) (Ne.symm hb)).trans e
  rw [Heap.get?_update_other _ _ (Nat.ne_of_gt (Heap.lt_size (Heap.get?_push_of_some _ e1)))]
  exact Heap.get?_push_of_some _ (Heap.get?_push_of_some _ e1)
/-- x1 is an exception whose context is None -/
def CtxAt (h : Heap) (x1 : Addr) : Prop := ∃ (o : Obj) (vs : Array Value), h.get? x1 = some o ∧ o.data = .fields vs ∧ vs[2]? = some .none
theorem walks_hot {prog : Program} {w : World} {A : Around} {x1 : Addr} (hh : A.handled = some (.ref x1)) (I ax : Addr) (hne : ax ≠ I) (hx : x1 ≠ I) (items : Array Value) :
    Walks prog w A I [I, ax, x1] [I] items.size (fun i v => items[i]? = some v) (fun i h => h.IsListIter I ax i ∧ h.IsList ax items ∧ CtxAt h x1) where
  sub := fun b hb => by simp at hb; simp [hb]
  frame := fun _ _ _ st hk => ⟨st.1.at fun o e => hk I (by simp) o e, st.2.1.at fun o e => hk ax (by simp) o e, by
    obtain ⟨o, vs, e, r⟩ := st.2.2
    exact ⟨o, vs, hk x1 (by simp) o e, r⟩⟩
  item := fun i s Q E hi st hQ => by
    refine wpAny_pyNext_list_item st.1 st.2.1 (x := items[i]) (by simp [hi]) fun h' hit' hs' => ?_
    refine hQ _ h' s.toks (by simp [hi]) ⟨hit', st.2.1.extBut hs'.extBut hne, ?_⟩ fun b o hb e => hs'.extBut b o (fun h => hb (by simp [h])) e
    obtain ⟨o, vs, e, r⟩ := st.2.2
    exact ⟨o, vs, hs'.extBut x1 o hx e, r⟩
  done := fun s Q E st hQ => by
    obtain ⟨o, vs, e, r⟩ := st.2.2
    exact list_end_hot ⟨hh, o, vs, e, r⟩ hx st.1 st.2.1 (by simp) fun h' he' => hQ h' s.toks fun b o hb e => he' b o (fun h => hb (by simp [h])) e
  self := fun _ _ _ _ st hQ => wpAny_pyIter_listiter st.1 hQ
/-- any(xs) while an exception is handled -/
theorem cr_anyH {X : Cx} (hc : L2H.HotC X) : CallR X (.builtin "any") (rAny X.K) := by
  intro pins s σ H vs us Q I r h
  obtain ⟨a, bs, rfl, hs, q⟩ := h
  obtain ⟨its, rv, hl, _⟩ := I.list hs
  rw [Vals.ref1 r]
  have hb := rv.bls
  obtain ⟨x1, hh, o1, vs1, h1, d1, c1⟩ := hc.at I
  have hlt1 := Heap.lt_size h1
  refine call_any_walk (iter_any hl.isList fun s₂ e2 st hne => ?_)
  subst e2
  refine ⟨_, _, _, _, _, _, _, rfl, walks_hot (A := X.A.in1) hh _ a hne (Nat.ne_of_lt hlt1) its.toArray, ⟨st.1, st.2, o1, vs1, Heap.get?_push_of_some _ h1, d1, c1⟩, truth_bools hb, fun h' tk hk => ?_⟩
  refine ⟨.bl _, H, I.kept fun b o eo => hk b o (fun hmem => ?_) (Heap.get?_push_of_some _ eo), ?_, q⟩
  · rcases List.mem_cons.mp hmem with e1 | hmem
    · exact absurd (e1 ▸ Heap.lt_size eo) (Nat.lt_irrefl _)
    · cases hmem
  · show Value.bool _ = Value.bool _
    rw [← L2.any_range, hb, List.size_toArray, List.length_map]
theorem hot_suite {X : Cx} {a : Addr} {oe : Obj} {cls : Value} {d : Option Addr} {pn : List (Addr × Obj)} (hz : L2N.Zn cls d oe) (hf : ∃ vs, oe.data = .fields vs) : L2H.HotC (X.suite a ((a, oe) :: pn)) := by
  obtain ⟨vs, e⟩ := hf
  exact ⟨(a, oe), ⟨rfl, vs, e, hz.2.2 vs e⟩, List.mem_cons_self⟩
/-- isinstance(e, c) in the suite, whatever own class e is of -/
def rIsE2 (K : PySem.W.Frag) (cls : Value) (d : Option Addr) (a : Addr) : List V → Hp → VK → Prop := fun xs H Q => ∃ D, cls = .ref D ∧ d = none ∧ ExcC K D ∧ rIsE K D a xs H Q
theorem call_isE2 {X : Cx} {a : Addr} {oe : Obj} {cls : Value} {d : Option Addr} {pn : List (Addr × Obj)} (hz : L2N.Zn cls d oe) (hf : ∃ vs, oe.data = .fields vs) : CallR (X.suite a ((a, oe) :: pn)) (.builtin "isinstance") (rIsE2 X.K cls d a) := by
  intro pins s σ H xs us Q I r h
  obtain ⟨D, rfl, rfl, C, h⟩ := h
  exact call_isE C hz.zc hf pins s σ H xs us Q I r h
/-- of several defs that a slot may hold, that may raise -/
structure HeldX (P : Program) (w : World) (K : PySem.W.Frag) (mg : Str → Option Value) (base : Heap) (k : Nat) (f : Addr) (sp : Sp) : Prop where
  ex : ∃ (fd : FuncData) (ps : List Str), FnOk P w K mg base (L2N.CX P w) k f fd ps sp ∧ PySem.W.keepIn K (.ref f) = true ∧ Binds K fd ps []
def tCallX (i : Nat) (SP : Addr → Sp → Prop) (E : L2.St → XK) (t : TA) : TE := fun σ H Q => ∃ f sp, σ[i]? = some (some (.ref f)) ∧ SP f sp ∧ t σ H fun vs H1 => sp vs H1 Q (E σ)
theorem pe_callX {X : Cx} {k i : Nat} {SP : Addr → Sp → Prop} {E : L2.St → XK} {x : Str} {p pos : Pos} {e : Expr} {es : List Expr} {t : TA} (L : ∀ f sp, SP f sp → HeldX X.prog X.w X.K X.mg X.base k f sp) (hr : Room k X.A) (hN : X.N[i]? = some x) (hv : Vis X.env.scope x)
    (hx : ∀ σ, PassesAt (L2N.CX X.prog X.w) X σ (E σ)) (ha : PA X (e :: es) t)
    (hdb : (x == ("__debug__" : Str)) = false := by decide) (hcd : (x == ("__classdict__" : Str)) = false := by decide)
    (he : starEach (e :: es) X.env = (false, eval e X.env) :: starEach es X.env := by rfl) (hpl : (backTo pos (starEach es X.env)).any (·.1) = false := by rfl) : PE X (.Call (.Name x p) (e :: es) [] pos) (tCallX i SP E t) := by
  refine ⟨fun pins s σ H Q I h => ?_⟩
  obtain ⟨f, sp, hs, hS, ht⟩ := h
  obtain ⟨fd, ps, F, hk, hb⟩ := (L f sp hS).ex
  refine wpAny_Call_Name_kw (thn ((pe_var (pos := p) hN hv hdb hcd).run pins s σ H (fun v H1 => v = .ref f ∧ H1 = H) I ⟨.ref f, hs, rfl, rfl⟩) fun u s1 ⟨v, H1, I1, r1, q1⟩ => ?_)
  obtain ⟨rfl, rfl⟩ := q1
  cases r1
  refine PySem.W.callWith_K (h₀ := X.base) I.ok.mod.kin hk (thn (ha.run pos pins s1 σ _ _ I1 ht) fun us s2 ⟨vs, H2, I2, r, q⟩ => ⟨I2.kIn, ?_⟩) he hpl
  exact run_fnS F hr hb (hx σ) I2 r q
end Pk
namespace Pk
open PySem PySem.Spec PyProof.Rows L2 Evl He
open SX (S)
/-- z[::-1] of a text -/
def tRevS (te : TE) : TE := fun σ H Q => te σ H fun x H1 => ∃ z : List Nat, x = .str (S z) ∧ z.length ≤ sizeLine ∧ Q (.str (S z.reverse)) H1
theorem revS_idx (z : List Nat) : (Builtin.Str.strSliceIndices none none (-1) z.length).filterMap ((S z).cps[·]?) = z.reverse := by
  have e1 : Builtin.Str.strSliceIndices none none (-1) z.length = (List.range z.length).reverse := by
    have e0 : Builtin.Str.strSliceIndices none none (-1) z.length = sliceRange ((z.length : Int) - 1) (-1) (-1) := rfl
    rw [e0, PySem.W.krv_sliceRange, PySem.W.krv_range]
  have e2 := PySem.W.krv_all (S z).cps
  rw [e1, List.filterMap_reverse]
  have e3 : (S z).cps.size = z.length := by simp [S]
  rw [e3] at e2
  rw [e2]
theorem pe_revS {X : Cx} {pos : Pos} {e : Expr} {te : TE} {k : Nat} {p1 p2 p3 : Pos} (he : PE X e te) : PE X (.Subscript e (.Slice none none (some (.UnaryOp .USub (.Constant (.int 1) k p1) p2)) p3) pos) (tRevS te) := by
  refine ⟨fun pins s σ H Q I h => ?_⟩
  refine Subscript_ (thn (he.run pins s σ H _ I h) fun v s1 ⟨x, H1, I1, r1, q1⟩ => ?_)
  obtain ⟨z, ex, hz, q⟩ := q1
  subst ex
  obtain ⟨t, rfl⟩ := r1
  have hst : PO X (some (.UnaryOp .USub (.Constant (.int 1) k p1) p2)) (tPart (tUn (rU fun i => .int (-i)) (tC (.int 1)))) := po_some (pe_un un_neg pe_int)
  refine wpAny_Slice (thn (po_none.run pins s1 σ H1 (fun o H2 => o = none ∧ H2 = H1) I1 ⟨rfl, rfl⟩) fun vl s2 ⟨l, H2, I2, pl, el, e2⟩ => ?_)
  subst el e2
  refine thn (po_none.run pins s2 σ H2 (fun o H3 => o = none ∧ H3 = H2) I2 ⟨rfl, rfl⟩) fun vu s3 ⟨u, H3, I3, pu, eu, e3⟩ => ?_
  subst eu e3
  refine thn (hst.run pins s3 σ H3 (fun o H4 => o = some (-1) ∧ H4 = H3) I3 ⟨1, rfl, -1, rfl, rfl, rfl⟩) fun vs s4 ⟨o, H4, I4, ps, eo, e4⟩ => ?_
  subst eo e4
  have I5 : Inv X pins σ H4 { s4 with heap := s4.heap.push { cls := .type "slice", data := .fields #[vl, vu, vs] } } := I4.kept (t' := s4.toks) fun b ob q => Heap.get?_push_of_some _ q
  obtain ⟨l, hl1, hl2⟩ := IsPart.raw pl
  obtain ⟨u, hu1, hu2⟩ := IsPart.raw pu
  obtain ⟨st, hs1, hs2⟩ := IsPart.raw ps
  have hlN : l = none := by cases l with
    | none => rfl
    | some y => cases hl2
  have huN : u = none := by cases u with
    | none => rfl
    | some y => cases hu2
  subst hlN huN
  show wpAny (model X.prog X.w) X.A (subscriptTail e (.Slice none none (some (.UnaryOp .USub (.Constant (.int 1) k p1) p2)) p3) (.str (S z) t) (.ref s4.heap.objs.size)) (EP X pins σ Q) X.xe { s4 with heap := s4.heap.push { cls := .type "slice", data := .fields #[vl, vu, vs] } }
  refine tail_any (ops := [.ref s4.heap.objs.size, .str (S z) t]) (typeIs_str _ _ _) F.slot_str_getitem.lookup ?_ (by with_unfolding_all rfl)
  have hst2 : (st.map (·.1)).getD 1 = -1 := by rw [hs2]; rfl
  refine wpAny_getItem_str_slice (l := none) (u := none) (st := st) ⟨_, Heap.get?_push_size _ rfl, rfl, by rw [hl1, hu1, hs1]⟩ (by rw [hst2]; rfl) ?_
  show Made.post (if ((st.map (·.1)).getD 1 == 1 && (slicePicked (S z) none none st).length == (S z).length) = true then Made.val (.str (S z) t) else Made.str ⟨((slicePicked (S z) none none st).filterMap ((S z).cps[·]?)).toArray⟩) _ _
  have hp : slicePicked (S z) none none st = Builtin.Str.strSliceIndices none none (-1) z.length := by
    unfold slicePicked
    rw [hst2, SX.S_len]
    rfl
  rw [hst2, if_neg (by simp), hp, revS_idx]
  exact ⟨by show (S z.reverse).length ≤ sizeLine; rw [SX.S_len, List.length_reverse]; exact hz, .str (S z.reverse), H4, I5.tok _, ⟨_, rfl⟩, q⟩
end Pk
namespace Pk
open PySem PySem.Spec PyProof.Rows L2 Evl He
open SX (S)
section
variable {K : PySem.W.Frag} {σ : L2.St} {H H' : Hp} {ta tb te tx : TE} {t u : TT} {x y z v : V} {r : R2} {D : Ends} {tu tw tz : TS} {g : TG}
/-! ### what is told by a relation -/
def EvP (te : TE) (σ : L2.St) (H : Hp) (Φ : V → Hp → Prop) : Prop := ∀ H1, Ex H H1 → ∀ Q : VK, (∀ v H2, Ex H1 H2 → Φ v H2 → Q v H2) → te σ H1 Q
theorem ev_opP {Φ : V → Hp → Prop} (ha : EvP ta σ H Φ) (hk : ∀ x H1, Ex H H1 → Φ x H1 → ∀ Q : VK, (∀ H2, Ex H1 H2 → Q z H2) → tb σ H1 fun y H2 => r x y H2 Q) : Ev (tOp r ta tb) σ H z := fun H1 e Q q =>
  ha H1 e _ fun x H2 e2 hx => hk x H2 (e.trans e2) hx Q fun H3 e3 => q H3 (e2.trans e3)
/-- the first operand a new tuple -/
theorem ev_opU1 {xs : List V} (ha : EvU ta σ H xs) (hb : ∀ H1, Ex H H1 → Ev tb σ H1 y) (hr : ∀ p H1, H1 p = some (.tup xs) → Ex H H1 → RV r (.ref p) y H1 z) : Ev (tOp r ta tb) σ H z := fun H1 e Q q =>
  ha H1 e _ fun p H2 _ e2 hp => hb H2 (e.trans e2) H2 (Ex.refl H2) _ fun H3 e3 => hr p H3 (e3 p _ hp) ((e.trans e2).trans e3) H3 (Ex.refl H3) Q fun H4 e4 => q H4 ((e2.trans e3).trans e4)
/-- (a, b, ..)[i] -/
theorem ev_ixU {xs : List V} {i : Nat} (ha : EvU ta σ H xs) (hb : ∀ H1, Ex H H1 → Ev tb σ H1 (nat i)) (hi : xs[i]? = some v) : Ev (tOp (rIxT K) ta tb) σ H v := ev_opU1 ha hb fun p H1 hp _ => rv_ixT (st_of hp) (at_nat hi)
/-- [a, b, ..][i] -/
theorem ev_ixL {xs : List V} {i : Nat} (ha : EvL ta σ H xs) (hb : ∀ H1, Ex H H1 → Ev tb σ H1 (nat i)) (hi : xs[i]? = some v) : Ev (tOp (rIxL K) ta tb) σ H v := ev_opL1 ha hb fun p H1 hp _ => rv_ixL (sq_of hp) (at_nat hi)
/-- xs + ys -/
theorem el_cat {p : Addr} {xs ys : List V} (ha : Ev ta σ H (.ref p)) (hp : H p = some (.lst xs)) (hb : EvL tb σ H ys) (hz : xs.length + ys.length ≤ 100000) : EvL (tOp rCat ta tb) σ H (xs ++ ys) := fun H1 e Q q =>
  ha H1 e _ fun H2 e2 => hb H2 (e.trans e2) _ fun b H3 _ e3 h3 => ⟨p, b, xs, ys, rfl, rfl, e3 p _ (e2 p _ (e p _ hp)), h3, sz_of hz, fun d hd => q d _ (fresh_back (e2.trans e3) hd) ((e2.trans e3).trans (Ex.new hd)) upd_same⟩
theorem rc_any {a : Addr} {bs : List Bool} (h : SqL K H a (bs.map V.bl)) : RC (rAny K) [.ref a] H (.bl (bs.any id)) := fun H1 e Q q => ⟨a, bs, rfl, ex_l e h, q H1 (Ex.refl H1)⟩
/-- a, b, c = t -/
theorem q_un3 {i j k : Nat} {Φ : V → Hp → Prop} (h : EvP te σ H Φ) (hk : ∀ x H1, Ex H H1 → Φ x H1 → ∃ a v1 v2 v3, x = .ref a ∧ SqT K H1 a [v1, v2, v3] ∧ tz D (((σ.set i (some v1)).set j (some v2)).set k (some v3)) H1) :
    tSeq (tAsg te (gTup K 3 (gCons (gName i) (gCons (gName j) (gCons (gName k) gNil))))) tz D σ H := h H (Ex.refl H) _ fun x H1 e hx => by
  obtain ⟨a, v1, v2, v3, rfl, hS, q⟩ := hk x H1 e hx
  exact ⟨a, _, rfl, hS, rfl, v1, [v2, v3], rfl, v2, [v3], rfl, v3, [], rfl, rfl, q⟩
theorem q_try {tb2 : WX → TS} {c : Value} {i : Nat} {ts : Addr → Value → Option Addr → TS} {Wout : WX} (h : tb2 (wAs K c i ts Wout { D with nx := tz D }) { D with nx := tz D } σ H) : tSeq (fun D σ H => tb2 (wAs K c i ts Wout D) D σ H) tz D σ H := h
end
/-! ### errors: what the classes tell -/
def errNames : List Str := ["BadWishes", "TooMany", "BadTree", "BadPath", "BadStanding", "BadText"]
structure ErrX (K : PySem.W.Frag) (x : Str) : Prop where
  exm : PySem.W.exmOne K (.ref (ga K x)) (.ref (ga K "StreetError")) = some true
  cc : ExcC K (ga K x)
  kit : ∀ y ∈ errNames, PySem.W.kitOne K (.ref (ga K x)) (.ref (ga K y)) = some (decide (x = y))
  ve : PySem.W.kitOne K (.ref (ga K x)) (.type "ValueError") = some true
def errB (K : PySem.W.Frag) (x : Str) : Bool :=
  decide (PySem.W.exmOne K (.ref (ga K x)) (.ref (ga K "StreetError")) = some true) && (eqO (PySem.W.findIn K (.ref (ga K x)) "__getattribute__") (some (some (.builtin "BaseException.__getattribute__"))) && (eqO (PySem.W.findIn K (.ref (ga K x)) "__getattr__") (some none) &&
  (decide (PySem.W.subIn K (.ref (ga K x)) (.type "BaseException") = some true) && (PySem.W.hasDictIn K (ga K x) && (eqO (PySem.W.findIn K (.ref (ga K x)) "__class__") (some (some (.builtin "object.__class__"))) && (eqO (PySem.W.specialIn K (.builtin "object.__class__") "__get__") (some (some (.builtin "getset_descriptor.__get__"))) &&
  (decide (PySem.W.takesIn K (.builtin "object.__class__") = some true) && (decide (PySem.W.mroIn K (ga K x) (.type "object") = some true) && ((errNames.all fun y => decide (PySem.W.kitOne K (.ref (ga K x)) (.ref (ga K y)) = some (decide (x = y)))) && decide (PySem.W.kitOne K (.ref (ga K x)) (.type "ValueError") = some true))))))))))
theorem errX_of {K : PySem.W.Frag} {x : Str} (h : errB K x = true) : ErrX K x := by
  obtain ⟨a1, h⟩ := ba h
  obtain ⟨a2, h⟩ := ba h
  obtain ⟨a3, h⟩ := ba h
  obtain ⟨a4, h⟩ := ba h
  obtain ⟨a5, h⟩ := ba h
  obtain ⟨a6, h⟩ := ba h
  obtain ⟨a7, h⟩ := ba h
  obtain ⟨a8, h⟩ := ba h
  obtain ⟨a9, h⟩ := ba h
  obtain ⟨b1, b2⟩ := ba h
  exact ⟨of_decide_eq_true a1, ⟨eqO_ok a2, eqO_ok a3, of_decide_eq_true a4, a5, eqO_ok a6, eqO_ok a7, of_decide_eq_true a8, of_decide_eq_true a9⟩, fun y hy => of_decide_eq_true (List.all_eq_true.mp b1 y hy), of_decide_eq_true b2⟩
section
variable {K : PySem.W.Frag} {H : Hp} {a : Addr} {x y : Str}
theorem rc_isE (E : ErrX K x) (hy : y ∈ errNames) {b : Bool} (hb : decide (x = y) = b) : RC (rIsE2 K (.ref (ga K x)) none a) [.ref a, .ref (ga K y)] H (.bl b) := fun H1 e Q q =>
  ⟨ga K x, rfl, rfl, E.cc, .ref (ga K y), .ref (ga K y), b, rfl, fun u r => r, by rw [E.kit y hy, hb], q H1 (Ex.refl H1)⟩
theorem rc_isVE (E : ErrX K x) : RC (rIsE2 K (.ref (ga K x)) none a) [.ref a, .ty "ValueError"] H (.bl true) := fun H1 e Q q =>
  ⟨ga K x, rfl, rfl, E.cc, .ty "ValueError", .type "ValueError", true, rfl, fun u r => r, E.ve, q H1 (Ex.refl H1)⟩
end
end Pk
namespace Pk
open PySem PySem.Spec PyProof.Rows L2 Evl He
open SX (S)
section
variable {K : PySem.W.Frag} {σ : L2.St} {H H' : Hp} {ta tb te tx : TE} {t u : TT} {x y z v : V} {r : R2} {D : Ends} {tu tw tz : TS} {g : TG}
/-- for y in a new list: I: by the list's address and the prefix gone -/
theorem q_forNP {α : Type} {ys : List α} (c : α → V) {tl : TE} {j : Nat} (h : EvL tl σ H (ys.map c)) (I : Addr → List α → L2.St → Hp → Prop) (h0 : ∀ p H1, H p = none → Ex H H1 → H1 p = some (.lst (ys.map c)) → I p [] σ H1)
    (hl : ∀ p pre σ' H', I p pre σ' H' → SqL K H' p (ys.map c))
    (hs : ∀ p pre y post σ' H', ys = pre ++ y :: post → I p pre σ' H' → tu { D with nx := I p (pre ++ [y]), ct := I p (pre ++ [y]), bk := tz D } (σ'.set j (some (c y))) H')
    (hd : ∀ p σ' H', I p ys σ' H' → tz D σ' H') : tSeq (tFor (iList K tl) (gName j) tu) tz D σ H :=
  q_forNLn h (fun p i => I p (ys.take i)) (fun p H1 hp e h1 => h0 p H1 hp e h1) (fun p i σ' H' _ q => hl p _ σ' H' q) (fun p i x σ' H' hi q => by
    obtain ⟨y, hy, rfl⟩ := vmap_get hi
    obtain ⟨e1, e2⟩ := take_pre hy
    have := hs p (ys.take i) y (ys.drop (i + 1)) σ' H' e1 q
    rw [e2]
    exact this) (fun p σ' H' q => hd p σ' H' (by rw [List.length_map, List.take_length] at q; exact q))
end
end Pk
namespace Pk
open PySem PySem.Spec PyProof.Rows L2 Evl He
open SX (S)
section
variable {K : PySem.W.Frag} {σ : L2.St} {H H' : Hp} {ta tb te tx tl : TE} {t u : TT} {x y z v : V} {r : R2} {D : Ends} {tu tw tz : TS} {g : TG} {α : Type} {ys : List α}
/-! ### enumerate -/
abbrev gPair (K : PySem.W.Frag) (j1 j2 : Nat) : TG := gTup K 2 (gCons (gName j1) (gCons (gName j2) gNil))
theorem s_forE0 {a : Addr} {j1 j2 : Nat} (c : α → V) (hx : SqL K H a (ys.map c)) (I : Nat → L2.St → Hp → Prop) (h0 : I 0 σ H)
    (hl : ∀ i σ' H', I i σ' H' → SqL K H' a (ys.map c))
    (hs : ∀ i y σ' H', ys[i]? = some y → I i σ' H' → ∀ H1, Ex H' H1 → tu { D with nx := I (i + 1), ct := I (i + 1), bk := D.nx } ((σ'.set j1 (some (nat i))).set j2 (some (c y))) H1)
    (hd : ∀ σ' H', I ys.length σ' H' → D.nx σ' H') :
    ∃ W : Nat → Nat → L2.St → Hp → Prop, (∃ m, W 0 m σ H) ∧ ∀ i m σ H, W i m σ H →
      ((Ite K a).stop i H ∧ D.nx σ H) ∨ ((Ite K a).go i H ∧ ∃ N : L2.St → Hp → Prop, (∀ σ' H', N σ' H' → ∃ m', m' < m ∧ W (i + 1) m' σ' H') ∧ ∀ x H', (Ite K a).yld i H x H' → gPair K j1 j2 x σ H' fun σ2 H2 => tu { D with nx := N, ct := N, bk := D.nx } σ2 H2) := by
  refine ⟨fun i m σ H => m = ys.length - i ∧ i ≤ ys.length ∧ I i σ H, ⟨ys.length, by simp, Nat.zero_le _, h0⟩, ?_⟩
  rintro i m σ H ⟨rfl, hi, p⟩
  have q := hl i σ H p
  by_cases hlt : i < ys.length
  · have hy : ys[i]? = some ys[i] := List.getElem?_eq_getElem hlt
    have hcy : (ys.map c)[i]? = some (c ys[i]) := by rw [List.getElem?_map, hy]; rfl
    refine .inr ⟨⟨ys.map c, c ys[i], q, hcy⟩, I (i + 1), fun σ' H' p' => ⟨ys.length - (i + 1), by omega, rfl, hlt, p'⟩, fun x H' hyl => ?_⟩
    obtain ⟨T, x1, rfl, hT, rfl, hx1⟩ := hyl
    have e1 : x1 = c ys[i] := Option.some.inj ((hx1 _ q).symm.trans hcy)
    subst e1
    exact ⟨T, _, rfl, st_of upd_same, rfl, _, _, rfl, _, _, rfl, rfl, hs i ys[i] σ H hy p _ (Ex.new hT)⟩
  · have e : i = ys.length := by omega
    subst e
    exact .inl ⟨⟨ys.map c, q, by rw [List.length_map]; exact Nat.le_refl _⟩, hd σ H p⟩
theorem s_forE {a : Addr} {j1 j2 : Nat} (c : α → V) (h : Ev tl σ H (.ref a)) (hx : SqL K H a (ys.map c)) (I : Nat → L2.St → Hp → Prop) (h0 : ∀ H1, Ex H H1 → I 0 σ H1)
    (hl : ∀ i σ' H', I i σ' H' → SqL K H' a (ys.map c))
    (hs : ∀ i y σ' H', ys[i]? = some y → I i σ' H' → ∀ H1, Ex H' H1 → tu { D with nx := I (i + 1), ct := I (i + 1), bk := D.nx } ((σ'.set j1 (some (nat i))).set j2 (some (c y))) H1)
    (hd : ∀ σ' H', I ys.length σ' H' → D.nx σ' H') : tFor (iEnum K (tCons tl tNil)) (gPair K j1 j2) tu D σ H :=
  h H (Ex.refl H) _ fun H1 e => ⟨a, ys.map c, rfl, ex_l e hx, s_forE0 c (ex_l e hx) I (h0 H1 e) hl hs hd⟩
theorem q_forE {a : Addr} {j1 j2 : Nat} (c : α → V) (h : Ev tl σ H (.ref a)) (hx : SqL K H a (ys.map c)) (I : Nat → L2.St → Hp → Prop) (h0 : ∀ H1, Ex H H1 → I 0 σ H1)
    (hl : ∀ i σ' H', I i σ' H' → SqL K H' a (ys.map c))
    (hs : ∀ i y σ' H', ys[i]? = some y → I i σ' H' → ∀ H1, Ex H' H1 → tu { D with nx := I (i + 1), ct := I (i + 1), bk := tz D } ((σ'.set j1 (some (nat i))).set j2 (some (c y))) H1)
    (hd : ∀ σ' H', I ys.length σ' H' → tz D σ' H') : tSeq (tFor (iEnum K (tCons tl tNil)) (gPair K j1 j2) tu) tz D σ H := s_forE (D := { D with nx := tz D }) c h hx I h0 hl hs hd
/-- over a new list -/
theorem q_forEN {j1 j2 : Nat} (c : α → V) (h : EvL tl σ H (ys.map c)) (I : Addr → Nat → L2.St → Hp → Prop) (h0 : ∀ p H1, H p = none → Ex H H1 → H1 p = some (.lst (ys.map c)) → I p 0 σ H1)
    (hl : ∀ p i σ' H', I p i σ' H' → SqL K H' p (ys.map c))
    (hs : ∀ p i y σ' H', ys[i]? = some y → I p i σ' H' → ∀ H1, Ex H' H1 → tu { D with nx := I p (i + 1), ct := I p (i + 1), bk := tz D } ((σ'.set j1 (some (nat i))).set j2 (some (c y))) H1)
    (hd : ∀ p σ' H', I p ys.length σ' H' → tz D σ' H') : tSeq (tFor (iEnum K (tCons tl tNil)) (gPair K j1 j2) tu) tz D σ H :=
  h H (Ex.refl H) _ fun p H1 hp e h1 => ⟨p, ys.map c, rfl, sq_of h1, s_forE0 (D := { D with nx := tz D }) c (sq_of h1) (I p) (h0 p H1 hp e h1) (hl p) (hs p) (hd p)⟩
/-- comprehensions over enumerate: by the place and the item -/
def enumF (ys : List α) (f : Nat → α → Bool) (g : Nat → α → V) : List V := (ys.zipIdx.filter fun q => f q.2 q.1).map fun q => g q.2 q.1
theorem given_enum (f : Nat → α → Bool) (g : Nat → α → V) (d : α) : given ys.length (fun i => f i (ys.getD i d)) (fun i => g i (ys.getD i d)) = enumF ys f g := by
  have key : ∀ n, n ≤ ys.length → given n (fun i => f i (ys.getD i d)) (fun i => g i (ys.getD i d)) = ((ys.zipIdx.take n).filter fun q => f q.2 q.1).map fun q => g q.2 q.1 := by
    intro n
    induction n with
    | zero => intro _; rfl
    | succ n ih =>
      intro hn
      have hlt : n < ys.length := hn
      have e : ys.zipIdx[n]? = some (ys.getD n d, n) := by
        rw [List.getElem?_zipIdx, List.getElem?_eq_getElem hlt, List.getD_eq_getElem?_getD, List.getElem?_eq_getElem hlt]
        simp
      rw [List.take_add_one, e]
      cases hf : f n (ys.getD n d) with
      | true =>
        rw [given_yes (f := fun i => f i (ys.getD i d)) hf, ih (by omega)]
        generalize ys.getD n d = z at hf
        simp [hf]
      | false =>
        rw [given_no (f := fun i => f i (ys.getD i d)) hf, ih (by omega)]
        generalize ys.getD n d = z at hf
        simp [hf]
  have h := key ys.length (Nat.le_refl _)
  rw [List.take_of_length_le (by rw [List.length_zipIdx]; exact Nat.le_refl _)] at h
  exact h
theorem lc_enum0 {a : Addr} {j1 j2 : Nat} {vs : List Nat} {H1 : Hp} {Dl : Addr} {Qd : Hp → Prop} (c : α → V) (f : Nat → α → Bool) (g : Nat → α → V) (hx : SqL K H1 a (ys.map c)) (hz : ys.length ≤ 40000) (hD : H1 Dl = none)
    (hw : ∀ x y, wipe (((wipe σ vs).set j1 (some x)).set j2 (some y)) vs = wipe σ vs)
    (ht : ∀ (i : Nat) (y : α) H2, Ex H1 H2 → ys[i]? = some y → EvT t (((wipe σ vs).set j1 (some (nat i))).set j2 (some (c y))) H2 (f i y)) (he : ∀ (i : Nat) (y : α) H2, Ex H1 H2 → ys[i]? = some y → f i y = true → Ev te (((wipe σ vs).set j1 (some (nat i))).set j2 (some (c y))) H2 (g i y))
    (hd : ∀ H', Ex H1 H' → H' Dl = some (.lst (enumF ys f g)) → Qd H') :
    ∃ W : Nat → Nat → Hp → Prop, (∃ m, W 0 m (upd H1 Dl (.lst []))) ∧ ∀ i m H, W i m H →
      ((Ite K a).stop i H ∧ Qd H) ∨ ((Ite K a).go i H ∧ ∃ Nx : Hp → Prop, (∀ H', Nx H' → ∃ m', m' < m ∧ W (i + 1) m' H') ∧ ∀ x H', (Ite K a).yld i H x H' → gPair K j1 j2 x (wipe σ vs) H' fun σ2 H2 => wipe σ2 vs = wipe σ vs ∧ t σ2 H2 fun b H3 =>
        if b = true then te σ2 H3 fun y H4 => ∃ acc, H4 Dl = some (.lst acc) ∧ acc.length < sizeLine ∧ Nx (upd H4 Dl (.lst (acc ++ [y]))) else Nx H3) := by
  have hdd : ∀ d : α, ∃ f' g', (f' = fun i => f i (ys.getD i d)) ∧ (g' = fun i => g i (ys.getD i d)) := fun d => ⟨_, _, rfl, rfl⟩
  have main : ∀ (f' : Nat → Bool) (g' : Nat → V), (∀ i y, ys[i]? = some y → f' i = f i y ∧ g' i = g i y) → given ys.length f' g' = enumF ys f g → ∃ W : Nat → Nat → Hp → Prop, (∃ m, W 0 m (upd H1 Dl (.lst []))) ∧ ∀ i m H, W i m H →
      ((Ite K a).stop i H ∧ Qd H) ∨ ((Ite K a).go i H ∧ ∃ Nx : Hp → Prop, (∀ H', Nx H' → ∃ m', m' < m ∧ W (i + 1) m' H') ∧ ∀ x H', (Ite K a).yld i H x H' → gPair K j1 j2 x (wipe σ vs) H' fun σ2 H2 => wipe σ2 vs = wipe σ vs ∧ t σ2 H2 fun b H3 =>
        if b = true then te σ2 H3 fun y H4 => ∃ acc, H4 Dl = some (.lst acc) ∧ acc.length < sizeLine ∧ Nx (upd H4 Dl (.lst (acc ++ [y]))) else Nx H3) := by
    intro f' g' hfg hgiv
    refine ⟨fun i m H => m = ys.length - i ∧ i ≤ ys.length ∧ Cw H1 f' g' Dl i H, ⟨ys.length, by simp, Nat.zero_le _, hD, Ex.new hD, upd_same⟩, ?_⟩
    rintro i m H ⟨rfl, hi, p⟩
    have q := ex_l p.2.1 hx
    by_cases hlt : i < ys.length
    · have hy : ys[i]? = some ys[i] := List.getElem?_eq_getElem hlt
      have hcy : (ys.map c)[i]? = some (c ys[i]) := by rw [List.getElem?_map, hy]; rfl
      obtain ⟨ef, eg⟩ := hfg i _ hy
      refine .inr ⟨⟨ys.map c, c ys[i], q, hcy⟩, Cw H1 f' g' Dl (i + 1), fun H' p' => ⟨ys.length - (i + 1), by omega, rfl, hlt, p'⟩, fun x H' hyl => ?_⟩
      obtain ⟨T, x1, rfl, hT, rfl, hx1⟩ := hyl
      have e1 : x1 = c ys[i] := Option.some.inj ((hx1 _ q).symm.trans hcy)
      subst e1
      have p2 : Cw H1 f' g' Dl i (upd H T (.tup [.int (i : Nat), c ys[i]])) := ⟨p.1, p.2.1.trans (Ex.new hT), by rw [upd_ne (ne_of_none p.2.2 hT)]; exact p.2.2⟩
      refine ⟨T, _, rfl, st_of upd_same, rfl, _, _, rfl, _, _, rfl, rfl, hw _ _, ?_⟩
      exact cw_turn p2 (by omega) (by rw [ef]; exact ht i _ H1 (Ex.refl H1) hy) (fun hf => by rw [eg]; exact he i _ H1 (Ex.refl H1) hy (by rw [← ef]; exact hf))
    · have e : i = ys.length := by omega
      subst e
      exact .inl ⟨⟨ys.map c, q, by rw [List.length_map]; exact Nat.le_refl _⟩, hd H p.2.1 (by rw [← hgiv]; exact p.2.2)⟩
  cases ys with
  | nil => exact main (fun _ => true) (fun _ => .non) (fun i y h => by simp at h) rfl
  | cons d r =>
    refine main (fun i => f i ((d :: r).getD i d)) (fun i => g i ((d :: r).getD i d)) (fun i y h => ?_) (given_enum f g d)
    have : (d :: r).getD i d = y := by rw [List.getD_eq_getElem?_getD, h]; rfl
    exact ⟨by rw [this], by rw [this]⟩
theorem el_enF {a : Addr} {j1 j2 : Nat} {vs : List Nat} (c : α → V) (f : Nat → α → Bool) (g : Nat → α → V) (h : Ev tl σ H (.ref a)) (hx : SqL K H a (ys.map c)) (hz : ys.length ≤ 40000)
    (hw : ∀ x y, wipe (((wipe σ vs).set j1 (some x)).set j2 (some y)) vs = wipe σ vs)
    (ht : ∀ (i : Nat) (y : α) H2, Ex H H2 → ys[i]? = some y → EvT t (((wipe σ vs).set j1 (some (nat i))).set j2 (some (c y))) H2 (f i y)) (he : ∀ (i : Nat) (y : α) H2, Ex H H2 → ys[i]? = some y → f i y = true → Ev te (((wipe σ vs).set j1 (some (nat i))).set j2 (some (c y))) H2 (g i y)) :
    EvL (tLc (iEnum K (tCons tl tNil)) (gPair K j1 j2) t te vs) σ H (enumF ys f g) := fun H0 e Q q => h H0 e _ fun H1 e1 => ⟨a, _, rfl, ex_l (e.trans e1) hx, fun Dl hD =>
  lc_enum0 c f g (ex_l (e.trans e1) hx) hz hD hw (fun i y H2 e2 hy => ht i y H2 ((e.trans e1).trans e2) hy) (fun i y H2 e2 hy hf => he i y H2 ((e.trans e1).trans e2) hy hf) fun H' e' h' => q Dl H' (fresh_back e1 hD) (e1.trans e') h'⟩
theorem el_enNF {j1 j2 : Nat} {vs : List Nat} (c : α → V) (f : Nat → α → Bool) (g : Nat → α → V) (h : EvL tl σ H (ys.map c)) (hz : ys.length ≤ 40000)
    (hw : ∀ x y, wipe (((wipe σ vs).set j1 (some x)).set j2 (some y)) vs = wipe σ vs)
    (ht : ∀ (i : Nat) (y : α) H2, Ex H H2 → ys[i]? = some y → EvT t (((wipe σ vs).set j1 (some (nat i))).set j2 (some (c y))) H2 (f i y)) (he : ∀ (i : Nat) (y : α) H2, Ex H H2 → ys[i]? = some y → f i y = true → Ev te (((wipe σ vs).set j1 (some (nat i))).set j2 (some (c y))) H2 (g i y)) :
    EvL (tLc (iEnum K (tCons tl tNil)) (gPair K j1 j2) t te vs) σ H (enumF ys f g) := fun H0 e Q q => h H0 e _ fun a H1 ha e1 hx => ⟨a, _, rfl, sq_of hx, fun Dl hD =>
  lc_enum0 c f g (sq_of hx) hz hD hw (fun i y H2 e2 hy => ht i y H2 ((e.trans e1).trans e2) hy) (fun i y H2 e2 hy hf => he i y H2 ((e.trans e1).trans e2) hy hf) fun H' e' h' => q Dl H' (fresh_back e1 hD) (e1.trans e') h'⟩
theorem enumF_all (g : Nat → α → V) : enumF ys (fun _ _ => true) g = ys.zipIdx.map fun q => g q.2 q.1 := by
  unfold enumF
  rw [List.filter_eq_self.mpr (fun _ _ => rfl)]
end
end Pk
namespace Pk
/-! ### how many wish a place below i; full wishes -/
def lt (ws : List Nat) (i : Nat) : Nat := ws.countP fun w => decide (w < i)
def ge (ws : List Nat) (i : Nat) : Nat := ws.countP fun w => decide (i ≤ w)
theorem lt_ge (ws : List Nat) (i : Nat) : lt ws i + ge ws i = ws.length := by
  unfold lt ge
  induction ws with
  | nil => rfl
  | cons w r ih =>
    rw [List.countP_cons, List.countP_cons, List.length_cons]
    by_cases h : w < i
    · simp only [h, decide_true, if_true, show ¬ i ≤ w from by omega, decide_false]
      simp only [Bool.false_eq_true, if_false]
      omega
    · simp only [h, decide_false, show i ≤ w from by omega, decide_true, if_true]
      simp only [Bool.false_eq_true, if_false]
      omega
theorem lt_zero (ws : List Nat) : lt ws 0 = 0 := by
  unfold lt
  rw [List.countP_eq_zero]
  intro a _
  simp
theorem lt_succ (ws : List Nat) (i : Nat) : lt ws (i + 1) = lt ws i + ws.count i := by
  unfold lt
  induction ws with
  | nil => rfl
  | cons w r ih =>
    rw [List.countP_cons, List.countP_cons, List.count_cons, ih]
    by_cases h : w < i
    · have h2 : (w == i) = false := by simp; omega
      simp [h, h2, show w < i + 1 from by omega]
      omega
    · by_cases h3 : w = i
      · subst h3
        simp
        omega
      · have h2 : (w == i) = false := by simp; omega
        simp [h, h2, show ¬ w < i + 1 from by omega]
theorem lt_all {ws : List Nat} {p : Nat} (h : ∀ x ∈ ws, x < p) : lt ws p = ws.length := by
  unfold lt
  rw [List.countP_eq_length]
  intro a ha
  simpa using h a ha
theorem lt_le (ws : List Nat) (i : Nat) : lt ws i ≤ ws.length := List.countP_le_length
theorem lt_mono (ws : List Nat) {i j : Nat} (h : i ≤ j) : lt ws i ≤ lt ws j := by
  unfold lt
  refine List.countP_mono_left fun x _ hx => ?_
  simp only [decide_eq_true_eq] at *
  omega
theorem ge_top {ws : List Nat} {p : Nat} (h : ∀ x ∈ ws, x < p) : ge ws p = 0 := by
  have := lt_ge ws p
  rw [lt_all h] at this
  omega
theorem ge_succ (ws : List Nat) (i : Nat) : ge ws i = ge ws (i + 1) + ws.count i := by
  have h1 := lt_ge ws i
  have h2 := lt_ge ws (i + 1)
  have h3 := lt_succ ws i
  omega
/-- full wishes: places of as many, none driving off -/
structure Full (ws : List Nat) : Prop where
  lo : ∀ x ∈ ws, x < ws.length
  up : ∀ i, i ≤ ws.length → i ≤ lt ws i
theorem Full.no {ws : List Nat} (h : Full ws) : ∀ i, i < ws.length → ge ws i ≤ ws.length - i := fun i hi => by
  have h1 := lt_ge ws i
  have h2 := h.up i (by omega)
  omega
theorem Full.of {ws : List Nat} (lo : ∀ x ∈ ws, x < ws.length) (h : ∀ i, i < ws.length → ge ws i ≤ ws.length - i) : Full ws := by
  refine ⟨lo, fun i hi => ?_⟩
  by_cases e : i = ws.length
  · subst e
    rw [lt_all lo]
    exact Nat.le_refl _
  · have h1 := lt_ge ws i
    have h2 := h i (by omega)
    omega
/-! ### a crowd: the least place such that more wish it or beyond than there are places; -1 -/
def crow (p : Nat) (ws : List Nat) : Nat → Int
  | 0 => -1
  | d + 1 => if p - (p - (d + 1)) < ge ws (p - (d + 1)) then ((p - (d + 1) : Nat) : Int) else crow p ws d
def crowd (p : Nat) (ws : List Nat) : Int := crow p ws p
theorem crow_no {p : Nat} {ws : List Nat} : ∀ d, d ≤ p → (∀ i, p - d ≤ i → i < p → ge ws i ≤ p - i) → crow p ws d = -1
  | 0, _, _ => rfl
  | d + 1, hd, h => by
    unfold crow
    rw [if_neg (by have := h (p - (d + 1)) (by omega) (by omega); omega)]
    exact crow_no d (by omega) fun i h1 h2 => h i (by omega) h2
theorem crow_yes {p : Nat} {ws : List Nat} : ∀ d, d ≤ p → (∃ i, p - d ≤ i ∧ i < p ∧ p - i < ge ws i) → ∃ i : Nat, crow p ws d = (i : Int) ∧ i < p ∧ p - i < ge ws i
  | 0, _, h => by
    obtain ⟨i, h1, h2, _⟩ := h
    omega
  | d + 1, hd, h => by
    unfold crow
    by_cases hc : p - (p - (d + 1)) < ge ws (p - (d + 1))
    · rw [if_pos hc]
      exact ⟨p - (d + 1), rfl, by omega, hc⟩
    · rw [if_neg hc]
      refine crow_yes d (by omega) ?_
      obtain ⟨i, h1, h2, h3⟩ := h
      by_cases e : i = p - (d + 1)
      · subst e
        exact absurd h3 hc
      · exact ⟨i, by omega, h2, h3⟩
theorem crowd_no {p : Nat} {ws : List Nat} (h : ∀ i, i < p → ge ws i ≤ p - i) : crowd p ws = -1 := crow_no p (Nat.le_refl _) fun i _ h2 => h i h2
theorem crowd_yes {p : Nat} {ws : List Nat} (h : ¬ ∀ i, i < p → ge ws i ≤ p - i) : ∃ i : Nat, crowd p ws = (i : Int) ∧ i < p ∧ p - i < ge ws i := by
  refine crow_yes p (Nat.le_refl _) ?_
  refine Classical.byContradiction fun k => h fun i hi => ?_
  refine Classical.byContradiction fun q => k ⟨i, by omega, hi, by omega⟩
theorem crowd_neg {p : Nat} {ws : List Nat} : crowd p ws < 0 ↔ ∀ i, i < p → ge ws i ≤ p - i := by
  constructor
  · intro h
    refine Classical.byContradiction fun k => ?_
    obtain ⟨i, e, _⟩ := crowd_yes k
    omega
  · intro h
    rw [crowd_no h]
    omega
/-! ### the law's own full wishes -/
/-- the walk of ups and downs: the height, the least one, the first place where it is so low -/
def fwalk (ws : List Nat) : Nat → Int × Int × Nat
  | 0 => (0, 0, 0)
  | k + 1 => if (fwalk ws k).1 + (ws.count k : Int) - 1 < (fwalk ws k).2.1 then ((fwalk ws k).1 + (ws.count k : Int) - 1, (fwalk ws k).1 + (ws.count k : Int) - 1, k)
    else ((fwalk ws k).1 + (ws.count k : Int) - 1, (fwalk ws k).2.1, (fwalk ws k).2.2)
def hgt (ws : List Nat) (j : Nat) : Int := (lt ws j : Int) - (j : Int)
theorem hgt_succ (ws : List Nat) (j : Nat) : hgt ws (j + 1) = hgt ws j + (ws.count j : Int) - 1 := by
  unfold hgt
  rw [lt_succ]
  omega
structure FW (ws : List Nat) (k : Nat) (h l : Int) (e : Nat) : Prop where
  hh : h = hgt ws k
  ll : (l = 0 ∧ e = 0) ∨ (l < 0 ∧ e < k ∧ l = hgt ws (e + 1) ∧ ∀ j, j ≤ e → l < hgt ws j)
  lo : ∀ j, j ≤ k → l ≤ hgt ws j
theorem fwalk_fw (ws : List Nat) : ∀ k, FW ws k (fwalk ws k).1 (fwalk ws k).2.1 (fwalk ws k).2.2
  | 0 => by
    have e0 : hgt ws 0 = 0 := by
      unfold hgt
      rw [lt_zero]
      rfl
    refine ⟨e0.symm, .inl ⟨rfl, rfl⟩, fun j hj => ?_⟩
    have : j = 0 := by omega
    subst this
    show (0 : Int) ≤ _
    omega
  | k + 1 => by
    obtain ⟨hh, ll, lo⟩ := fwalk_fw ws k
    have es := hgt_succ ws k
    rw [← hh] at es
    unfold fwalk
    by_cases c : (fwalk ws k).1 + (ws.count k : Int) - 1 < (fwalk ws k).2.1
    · rw [if_pos c]
      refine ⟨es.symm, .inr ⟨?_, Nat.lt_succ_self k, es.symm, fun j hj => ?_⟩, fun j hj => ?_⟩
      · show (fwalk ws k).1 + (ws.count k : Int) - 1 < 0
        rcases ll with ⟨q, _⟩ | ⟨q, _⟩ <;> omega
      · have := lo j hj
        show (fwalk ws k).1 + (ws.count k : Int) - 1 < _
        omega
      · show (fwalk ws k).1 + (ws.count k : Int) - 1 ≤ _
        by_cases e : j = k + 1
        · subst e
          omega
        · have := lo j (by omega)
          omega
    · rw [if_neg c]
      refine ⟨es.symm, ?_, fun j hj => ?_⟩
      · rcases ll with q | ⟨q1, q2, q3, q4⟩
        · exact .inl q
        · exact .inr ⟨q1, Nat.lt_succ_of_lt q2, q3, q4⟩
      · show (fwalk ws k).2.1 ≤ _
        by_cases e : j = k + 1
        · subst e
          omega
        · exact lo j (by omega)
/-- turned by so much that the empty place is the last one -/
def turnN (m by_ : Nat) (ws : List Nat) : List Nat := ws.map fun w => (w + by_) % m
def emptyOf (ws : List Nat) : Nat := (fwalk ws (ws.length + 1)).2.2
def fullN (ws : List Nat) : List Nat := ws.map fun w => (w + ws.length - emptyOf ws) % (ws.length + 1)
theorem fullN_length (ws : List Nat) : (fullN ws).length = ws.length := by
  unfold fullN
  rw [List.length_map]
structure EmptyIs (ws : List Nat) (e : Nat) : Prop where
  lt : e ≤ ws.length
  neg : hgt ws (e + 1) < 0
  up : ∀ j, j ≤ e → hgt ws (e + 1) < hgt ws j
  lo : ∀ j, j ≤ ws.length + 1 → hgt ws (e + 1) ≤ hgt ws j
theorem emptyOf_is {ws : List Nat} (hw : ∀ x ∈ ws, x < ws.length + 1) : EmptyIs ws (emptyOf ws) := by
  obtain ⟨hh, ll, lo⟩ := fwalk_fw ws (ws.length + 1)
  have e1 : hgt ws (ws.length + 1) = -1 := by
    unfold hgt
    rw [lt_all hw]
    omega
  have h2 := lo (ws.length + 1) (Nat.le_refl _)
  rcases ll with ⟨q, _⟩ | ⟨q1, q2, q3, q4⟩
  · omega
  · unfold emptyOf
    exact ⟨by omega, by omega, fun j hj => by have := q4 j hj; omega, fun j hj => by have := lo j hj; omega⟩
theorem countP4 {α : Type} {f g f' g' : α → Bool} : ∀ {l : List α}, (∀ x ∈ l, (f x).toNat + (g x).toNat = (f' x).toNat + (g' x).toNat) → l.countP f + l.countP g = l.countP f' + l.countP g'
  | [], _ => rfl
  | x :: r, h => by
    have ih := countP4 (l := r) fun y hy => h y (List.mem_cons_of_mem _ hy)
    have hx := h x List.mem_cons_self
    simp only [List.countP_cons]
    cases h1 : f x <;> cases h2 : g x <;> cases h3 : f' x <;> cases h4 : g' x <;> simp [h1, h2, h3, h4] at hx ⊢ <;> omega
theorem turn_val {w n e : Nat} (hw : w < n + 1) (he : e ≤ n) : (w + n - e) % (n + 1) = if w ≤ e then w + n - e else w - e - 1 := by
  by_cases h : w ≤ e
  · rw [if_pos h, Nat.mod_eq_of_lt (by omega)]
  · rw [if_neg h]
    have : w + n - e = (w - e - 1) + (n + 1) := by omega
    rw [this, Nat.add_mod_right, Nat.mod_eq_of_lt (by omega)]
/-- the counts of the turned ones -/
theorem lt_turn {ws : List Nat} {e : Nat} (hw : ∀ x ∈ ws, x < ws.length + 1) (he : e ≤ ws.length) (i : Nat) (hi : i ≤ ws.length) :
    lt (ws.map fun w => (w + ws.length - e) % (ws.length + 1)) i + lt ws (e + 1) = lt ws (e + 1 + i) + lt ws (i + e - ws.length) := by
  unfold lt
  rw [List.countP_map]
  refine countP4 fun x hx => ?_
  have h1 := hw x hx
  show (decide ((x + ws.length - e) % (ws.length + 1) < i)).toNat + (decide (x < e + 1)).toNat = (decide (x < e + 1 + i)).toNat + (decide (x < i + e - ws.length)).toNat
  have hv := turn_val (w := x) h1 he
  generalize (x + ws.length - e) % (ws.length + 1) = v at hv ⊢
  by_cases h : x ≤ e
  · rw [if_pos h] at hv
    subst hv
    simp only [show x < e + 1 from by omega, show x < e + 1 + i from by omega, decide_true]
    by_cases h2 : x + ws.length - e < i
    · simp [h2, show x < i + e - ws.length from by omega]
    · simp [h2, show ¬ x < i + e - ws.length from by omega]
  · rw [if_neg h] at hv
    subst hv
    simp only [show ¬ x < e + 1 from by omega, show ¬ x < i + e - ws.length from by omega, decide_false]
    by_cases h2 : x - e - 1 < i
    · simp [h2, show x < e + 1 + i from by omega]
    · simp [h2, show ¬ x < e + 1 + i from by omega]
theorem full_of_empty {ws : List Nat} {e : Nat} (hw : ∀ x ∈ ws, x < ws.length + 1) (E : EmptyIs ws e) : Full (ws.map fun w => (w + ws.length - e) % (ws.length + 1)) := by
  have key : ∀ i, i ≤ ws.length → i ≤ lt (ws.map fun w => (w + ws.length - e) % (ws.length + 1)) i := fun i hi => by
    have h := lt_turn hw E.lt i hi
    have h1 := E.lt
    by_cases c : e + 1 + i ≤ ws.length + 1
    · have h2 := E.lo (e + 1 + i) c
      unfold hgt at h2
      omega
    · have h2 := E.up (i + e - ws.length) (by omega)
      have h3 : lt ws (e + 1 + i) = ws.length := lt_all fun x hx => by have := hw x hx; omega
      unfold hgt at h2
      omega
  have hlen : (ws.map fun w => (w + ws.length - e) % (ws.length + 1)).length = ws.length := List.length_map ..
  have hn := key ws.length (Nat.le_refl _)
  have hl : ∀ x ∈ (ws.map fun w => (w + ws.length - e) % (ws.length + 1)), x < ws.length := by
    have h2 : lt (ws.map fun w => (w + ws.length - e) % (ws.length + 1)) ws.length = (ws.map fun w => (w + ws.length - e) % (ws.length + 1)).length := by
      have := lt_le (ws.map fun w => (w + ws.length - e) % (ws.length + 1)) ws.length
      omega
    unfold lt at h2
    rw [List.countP_eq_length] at h2
    intro x hx
    simpa using h2 x hx
  exact ⟨fun x hx => by rw [hlen]; exact hl x hx, fun i hi => key i (by rw [hlen] at hi; exact hi)⟩
theorem fullN_full {ws : List Nat} (hw : ∀ x ∈ ws, x < ws.length + 1) : Full (fullN ws) := full_of_empty hw (emptyOf_is hw)
/-- the script's cells on a ring -/
def cells (ns : List Int) (m : Nat) : List Nat := ns.map fun c => (c % (m : Int)).toNat
theorem cells_length (ns : List Int) (m : Nat) : (cells ns m).length = ns.length := by
  unfold cells
  rw [List.length_map]
theorem cells_lt {ns : List Int} {m : Nat} (hm : 0 < m) : ∀ x ∈ cells ns m, x < m := fun x hx => by
  unfold cells at hx
  obtain ⟨c, _, rfl⟩ := List.mem_map.mp hx
  have h1 := Int.emod_lt_of_pos c (show (0 : Int) < m from by omega)
  have h2 := Int.emod_nonneg c (show (m : Int) ≠ 0 from by omega)
  omega
def lawFull (ns : List Int) : List Nat := fullN (cells ns (ns.length + 1))
theorem lawFull_length (ns : List Int) : (lawFull ns).length = ns.length := by
  unfold lawFull
  rw [fullN_length, cells_length]
theorem lawFull_full (ns : List Int) : Full (lawFull ns) := by
  refine fullN_full fun x hx => ?_
  rw [cells_length]
  exact cells_lt (Nat.succ_pos _) x hx
end Pk
namespace Pk
/-! ### paths as lists of codes: u is 117, d is 100 -/
def step1 (c : Nat) : List Nat := List.replicate c 117 ++ [100]
def pathL (cs : List Nat) : List Nat := (cs.map step1).flatten
theorem pathL_cons (c : Nat) (r : List Nat) : pathL (c :: r) = List.replicate c 117 ++ 100 :: pathL r := by
  unfold pathL step1
  rw [List.map_cons, List.flatten_cons, List.append_assoc]
  rfl
/-- the heights behind each down, or none where it is no path -/
def hgo : List Nat → Nat → Option (List Nat)
  | [], h => if h = 0 then some [] else none
  | c :: r, h => if c = 117 then hgo r (h + 1) else if c = 100 ∧ 0 < h then (hgo r (h - 1)).map ((h - 1) :: ·) else none
def ris : List Nat → Nat → List Nat
  | [], _ => []
  | c :: r, p => if c = 117 then p :: ris r p else ris r (p + 1)
theorem hgo_up (c : Nat) (r : List Nat) (h : Nat) : hgo (List.replicate c 117 ++ r) h = hgo r (h + c) := by
  induction c generalizing h with
  | zero => rfl
  | succ c ih =>
    rw [List.replicate_succ, List.cons_append]
    show (if (117 : Nat) = 117 then hgo (List.replicate c 117 ++ r) (h + 1) else _) = _
    rw [if_pos rfl, ih]
    congr 1
    omega
theorem ris_up (c : Nat) (r : List Nat) (p : Nat) : ris (List.replicate c 117 ++ r) p = List.replicate c p ++ ris r p := by
  induction c with
  | zero => rfl
  | succ c ih =>
    rw [List.replicate_succ, List.cons_append]
    show (if (117 : Nat) = 117 then p :: ris (List.replicate c 117 ++ r) p else _) = _
    rw [if_pos rfl, ih]
    rfl
def hl : List Nat → Nat → List Nat
  | [], _ => []
  | c :: r, h => (h + c - 1) :: hl r (h + c - 1)
def POk : List Nat → Nat → Prop
  | [], h => h = 0
  | c :: r, h => 0 < h + c ∧ POk r (h + c - 1)
theorem hgo_path : ∀ (cs : List Nat) (h : Nat), POk cs h → hgo (pathL cs) h = some (hl cs h)
  | [], h, e => by
    have e : h = 0 := e
    subst e
    rfl
  | c :: r, h, e => by
    obtain ⟨e1, e2⟩ := e
    rw [pathL_cons, hgo_up]
    show (if (100 : Nat) = 117 then _ else if (100 : Nat) = 100 ∧ 0 < h + c then (hgo (pathL r) (h + c - 1)).map ((h + c - 1) :: ·) else none) = _
    rw [if_neg (by decide), if_pos ⟨rfl, e1⟩, hgo_path r _ e2]
    rfl
theorem ris_path : ∀ (cs : List Nat) (p : Nat), ris (pathL cs) p = (cs.zipIdx p).flatMap fun q => List.replicate q.1 q.2
  | [], p => rfl
  | c :: r, p => by
    rw [pathL_cons, ris_up, List.zipIdx_cons, List.flatMap_cons]
    show List.replicate c p ++ (if (100 : Nat) = 117 then _ else ris (pathL r) (p + 1)) = _
    rw [if_neg (by decide), ris_path r (p + 1)]
/-! ### of full wishes -/
def cnts (p : Nat) (ws : List Nat) : List Nat := (List.range p).map fun i => ws.count i
theorem cnts_nil (p : Nat) : cnts p [] = (List.range p).map fun _ => 0 := by
  unfold cnts
  simp
theorem cnts_len (p : Nat) (ws : List Nat) : (cnts p ws).length = p := by
  unfold cnts
  rw [List.length_map, List.length_range]
theorem cnts_get {p : Nat} {ws : List Nat} {i : Nat} (hi : i < p) : (cnts p ws)[i]? = some (ws.count i) := by
  unfold cnts
  rw [List.getElem?_map, List.getElem?_range hi]
  rfl
theorem cnts_add {p : Nat} {ws : List Nat} {x : Nat} (hx : x < p) : (cnts p ws).set x (ws.count x + 1) = cnts p (ws ++ [x]) := by
  refine List.ext_getElem? fun i => ?_
  by_cases hi : i < p
  · rw [cnts_get hi]
    by_cases e : x = i
    · subst e
      rw [List.getElem?_set_self (by rw [cnts_len]; exact hx), List.count_append, List.count_singleton]
      simp
    · rw [List.getElem?_set_ne e, cnts_get hi, List.count_append, List.count_singleton]
      simp [e]
  · rw [List.getElem?_eq_none (by rw [List.length_set, cnts_len]; omega), List.getElem?_eq_none (by rw [cnts_len]; omega)]
theorem cnts_perm {p : Nat} {ws vs : List Nat} (h : ws.Perm vs) : cnts p ws = cnts p vs := by
  unfold cnts
  refine List.map_congr_left fun i _ => ?_
  exact h.count_eq i
theorem lt_perm {ws vs : List Nat} (h : ws.Perm vs) (i : Nat) : lt ws i = lt vs i := h.countP_eq _
theorem Full.perm {ws vs : List Nat} (h : ws.Perm vs) (F : Full ws) : Full vs := by
  refine ⟨fun x hx => ?_, fun i hi => ?_⟩
  · rw [← h.length_eq]
    exact F.lo x (h.mem_iff.mpr hx)
  · rw [← lt_perm h]
    exact F.up i (by rw [h.length_eq]; exact hi)
theorem pok_full {ws : List Nat} (F : Full ws) : ∀ k i, i + k = ws.length → POk ((List.range' i k).map fun j => ws.count j) (lt ws i - i)
  | 0, i, h => by
    have e : i = ws.length := by omega
    have h2 : lt ws i = ws.length := by rw [e]; exact lt_all F.lo
    show lt ws i - i = 0
    omega
  | k + 1, i, h => by
    have h1 := F.up i (by omega)
    have h2 := F.up (i + 1) (by omega)
    have h3 := lt_succ ws i
    rw [List.range'_succ, List.map_cons]
    refine ⟨by omega, ?_⟩
    have ih := pok_full F k (i + 1) (by omega)
    have e : lt ws i - i + ws.count i - 1 = lt ws (i + 1) - (i + 1) := by omega
    rw [e]
    exact ih
theorem hl_full {ws : List Nat} (F : Full ws) : ∀ k i, i + k = ws.length → hl ((List.range' i k).map fun j => ws.count j) (lt ws i - i) = (List.range' i k).map fun j => lt ws (j + 1) - (j + 1)
  | 0, i, h => rfl
  | k + 1, i, h => by
    have h1 := F.up i (by omega)
    have h3 := lt_succ ws i
    rw [List.range'_succ, List.map_cons, List.map_cons]
    have ih := hl_full F k (i + 1) (by omega)
    have e : lt ws i - i + ws.count i - 1 = lt ws (i + 1) - (i + 1) := by omega
    show (lt ws i - i + ws.count i - 1) :: hl _ (lt ws i - i + ws.count i - 1) = _
    rw [e, ih]
def hts (ws : List Nat) : List Nat := (List.range ws.length).map fun j => lt ws (j + 1) - (j + 1)
theorem hgo_full {ws : List Nat} (F : Full ws) : hgo (pathL (cnts ws.length ws)) 0 = some (hts ws) := by
  have h1 := pok_full F ws.length 0 (by omega)
  have h2 := hl_full F ws.length 0 (by omega)
  rw [← List.range_eq_range'] at h1 h2
  rw [show lt ws 0 - 0 = 0 from by rw [lt_zero]] at h1 h2
  have h3 := hgo_path _ 0 h1
  rw [h2] at h3
  exact h3
/-! ### the rising wishes of a path -/
def rr (ws : List Nat) (i k : Nat) : List Nat := (List.range' i k).flatMap fun j => List.replicate (ws.count j) j
theorem zip_rr (ws : List Nat) : ∀ k i, (((List.range' i k).map fun j => ws.count j).zipIdx i).flatMap (fun q => List.replicate q.1 q.2) = rr ws i k
  | 0, i => rfl
  | k + 1, i => by
    unfold rr
    rw [List.range'_succ, List.map_cons, List.zipIdx_cons, List.flatMap_cons, List.flatMap_cons]
    congr 1
    exact zip_rr ws k (i + 1)
theorem rr_ge (ws : List Nat) : ∀ k i, ∀ x ∈ rr ws i k, i ≤ x ∧ x < i + k := fun k i x hx => by
  unfold rr at hx
  obtain ⟨j, hj, h2⟩ := List.mem_flatMap.mp hx
  obtain ⟨_, rfl⟩ := List.mem_replicate.mp h2
  have := List.mem_range'_1.mp hj
  omega
theorem rr_rise (ws : List Nat) : ∀ k i, (rr ws i k).Pairwise (· ≤ ·)
  | 0, i => List.Pairwise.nil
  | k + 1, i => by
    unfold rr
    rw [List.range'_succ, List.flatMap_cons]
    refine List.pairwise_append.mpr ⟨?_, rr_rise ws k (i + 1), fun a ha b hb => ?_⟩
    · refine List.pairwise_replicate.mpr ?_
      exact Or.inr (Nat.le_refl _)
    · obtain ⟨_, rfl⟩ := List.mem_replicate.mp ha
      have := rr_ge ws k (a + 1) b hb
      omega
theorem rr_count (ws : List Nat) (x : Nat) : ∀ k i, (rr ws i k).count x = if i ≤ x ∧ x < i + k then ws.count x else 0
  | 0, i => by
    rw [if_neg (by omega)]
    rfl
  | k + 1, i => by
    have ih := rr_count ws x k (i + 1)
    unfold rr at ih ⊢
    rw [List.range'_succ, List.flatMap_cons, List.count_append, ih, List.count_replicate]
    by_cases e : i = x
    · subst e
      have h1 : ¬ (i + 1 ≤ i ∧ i < i + 1 + k) := by omega
      have h2 : i ≤ i ∧ i < i + (k + 1) := by omega
      rw [if_neg h1, if_pos h2]
      simp
    · have h0 : ¬ ((i == x) = true) := by simpa using e
      rw [if_neg h0]
      by_cases h : i + 1 ≤ x ∧ x < i + 1 + k
      · have h2 : i ≤ x ∧ x < i + (k + 1) := by omega
        rw [if_pos h, if_pos h2, Nat.zero_add]
      · have h2 : ¬ (i ≤ x ∧ x < i + (k + 1)) := by omega
        rw [if_neg h, if_neg h2]
theorem rr_perm {ws : List Nat} {p : Nat} (h : ∀ x ∈ ws, x < p) : (rr ws 0 p).Perm ws := by
  refine List.perm_iff_count.mpr fun x => ?_
  rw [rr_count]
  by_cases c : 0 ≤ x ∧ x < 0 + p
  · rw [if_pos c]
  · rw [if_neg c]
    symm
    refine List.count_eq_zero.mpr fun hx => c ?_
    have := h x hx
    omega
def rise (ws : List Nat) : List Nat := rr ws 0 ws.length
theorem ris_full (ws : List Nat) : ris (pathL (cnts ws.length ws)) 0 = rise ws := by
  rw [ris_path]
  unfold cnts
  rw [List.range_eq_range', zip_rr]
  rfl
/-! ### what lies beneath: the drives -/
theorem sum_lt (ws : List Nat) : ∀ n, ((List.range n).map fun j => lt ws (j + 1)).sum = (ws.map fun w => n - w).sum := by
  intro n
  induction n with
  | zero =>
    simp only [List.range_zero, List.map_nil, List.sum_nil]
    induction ws with
    | nil => rfl
    | cons w r ih =>
      rw [List.map_cons, List.sum_cons, ← ih]
      omega
  | succ n ih =>
    rw [List.range_succ, List.map_append, List.sum_append, ih, List.map_singleton]
    show _ + (lt ws (n + 1) + 0) = _
    unfold lt
    clear ih
    induction ws with
    | nil => rfl
    | cons w r ih2 =>
      rw [List.map_cons, List.sum_cons, List.map_cons, List.sum_cons, List.countP_cons, ← ih2]
      by_cases h : w < n + 1
      · simp only [h, decide_true, if_true]
        omega
      · simp only [h, decide_false, Bool.false_eq_true, if_false]
        omega
theorem sum_sub {n : Nat} : ∀ {ws : List Nat}, (∀ x ∈ ws, x < n) → (ws.map fun w => n - w).sum + ws.sum = n * ws.length
  | [], _ => rfl
  | w :: r, h => by
    have ih := sum_sub (ws := r) fun x hx => h x (List.mem_cons_of_mem _ hx)
    have hw := h w List.mem_cons_self
    rw [List.map_cons, List.sum_cons, List.sum_cons, List.length_cons, Nat.mul_succ]
    omega
theorem sum_range (n : Nat) : 2 * ((List.range n).map fun j => j + 1).sum = n * (n + 1) := by
  induction n with
  | zero => rfl
  | succ n ih =>
    rw [List.range_succ, List.map_append, List.sum_append, List.map_singleton, Nat.mul_add, ih]
    show n * (n + 1) + 2 * (n + 1 + 0) = (n + 1) * (n + 1 + 1)
    have e : (n + 1) * (n + 1 + 1) = n * (n + 1) + 2 * (n + 1) := by rw [← Nat.add_mul, Nat.mul_comm]
    omega
theorem sum_diff {f g : Nat → Nat} : ∀ n, (∀ j, j < n → g j ≤ f j) → ((List.range n).map fun j => f j - g j).sum + ((List.range n).map g).sum = ((List.range n).map f).sum := by
  intro n
  induction n with
  | zero => intro _; rfl
  | succ n ih =>
    intro h
    have h1 := ih fun j hj => h j (by omega)
    have h2 := h n (Nat.lt_succ_self n)
    rw [List.range_succ, List.map_append, List.map_append, List.map_append, List.sum_append, List.sum_append, List.sum_append]
    simp only [List.map_singleton, List.sum_singleton]
    omega
/-- how far all drive -/
def drv (ws : List Nat) : Int := ((ws.length : Int) * ((ws.length : Int) - 1)) / 2 - ((ws.sum : Nat) : Int)
theorem drv_hts {ws : List Nat} (F : Full ws) : drv ws = (((hts ws).sum : Nat) : Int) := by
  have h1 := sum_lt ws ws.length
  have h2 := sum_sub F.lo
  have h3 := sum_range ws.length
  have h4 := sum_diff (f := fun j => lt ws (j + 1)) (g := fun j => j + 1) ws.length fun j hj => F.up (j + 1) (by omega)
  have h5 : (hts ws).sum + ((List.range ws.length).map fun j => j + 1).sum + ws.sum = ws.length * ws.length := by
    unfold hts
    omega
  unfold drv
  have e : ((ws.length : Int) * ((ws.length : Int) - 1)) = 2 * ((((hts ws).sum + ws.sum : Nat)) : Int) := by
    have h6 : ws.length * (ws.length + 1) + 2 * ((hts ws).sum + ws.sum) = 2 * (ws.length * ws.length) := by omega
    have h7 : ((ws.length * (ws.length + 1) + 2 * ((hts ws).sum + ws.sum) : Nat) : Int) = ((2 * (ws.length * ws.length) : Nat) : Int) := by rw [h6]
    push_cast at h7 ⊢
    rw [Int.mul_sub]
    rw [Int.mul_add] at h7
    omega
  rw [e, Int.mul_ediv_cancel_left _ (by decide)]
  push_cast
  omega
end Pk
namespace Pk
/-! ### standings: reaches by walking back -/
/-- the cars of a standing: each of as many once -/
structure IsSt (st : List Nat) : Prop where
  lo : ∀ x ∈ st, x < st.length
  nd : st.Nodup
/-- walking back from k past smaller ones -/
def back (st : List Nat) (x : Nat) : Nat → Nat
  | 0 => 0
  | k + 1 => if st.getD k 0 < x then back st x k else k + 1
theorem back_le (st : List Nat) (x : Nat) : ∀ k, back st x k ≤ k
  | 0 => Nat.le_refl _
  | k + 1 => by
    have := back_le st x k
    unfold back
    split <;> omega
theorem back_lt {st : List Nat} {x : Nat} : ∀ k j, back st x k ≤ j → j < k → st.getD j 0 < x
  | k + 1, j, h1, h2 => by
    unfold back at h1
    split at h1
    · rename_i c
      by_cases e : j = k
      · subst e
        exact c
      · exact back_lt k j h1 (by omega)
    · omega
theorem back_ge {st : List Nat} {x : Nat} : ∀ k, 0 < back st x k → x ≤ st.getD (back st x k - 1) 0
  | k + 1, h => by
    unfold back at h ⊢
    split at h
    · rename_i c
      rw [if_pos c]
      exact back_ge k h
    · rename_i c
      rw [if_neg c]
      show x ≤ st.getD k 0
      omega
theorem back_back {st : List Nat} {x y : Nat} (h : y ≤ x) : ∀ k, back st x k = back st x (back st y k)
  | 0 => rfl
  | k + 1 => by
    show (if st.getD k 0 < x then back st x k else k + 1) = back st x (if st.getD k 0 < y then back st y k else k + 1)
    by_cases c : st.getD k 0 < y
    · rw [if_pos c, if_pos (by omega)]
      exact back_back h k
    · rw [if_neg c]
      rfl
def reach (st : List Nat) (p : Nat) : Nat := back st (st.getD p 0) p
theorem reach_le (st : List Nat) (p : Nat) : reach st p ≤ p := back_le _ _ _
def rchs (st : List Nat) : List Nat := (List.range st.length).map (reach st)
/-- the places that wait, from the first on -/
def chain (st : List Nat) : Nat → List Nat
  | 0 => []
  | k + 1 => chain st (back st (st.getD k 0) k) ++ [k]
termination_by k => k
decreasing_by
  have := back_le st (st.getD k 0) k
  omega
theorem chain_zero (st : List Nat) : chain st 0 = [] := by rw [chain]
theorem chain_succ (st : List Nat) (k : Nat) : chain st (k + 1) = chain st (back st (st.getD k 0) k) ++ [k] := by rw [chain]
theorem chain_len (st : List Nat) : ∀ k, (chain st k).length ≤ k := by
  intro k
  induction k using Nat.strongRecOn with
  | _ k ih =>
    cases k with
    | zero => rw [chain_zero]; exact Nat.le_refl _
    | succ k =>
      have h1 := back_le st (st.getD k 0) k
      have h2 := ih _ (Nat.lt_succ_of_le h1)
      rw [chain_succ, List.length_append]
      simp only [List.length_singleton]
      omega
/-- how many wishes lead to it -/
def prodR (f : Nat → Nat) : Nat → Nat
  | 0 => 1
  | k + 1 => prodR f k * (k - f k + 1)
/-- the wishes by which the car at each place drove so many steps -/
def fstep (st : List Nat) (ss : List Int) : Nat → List Nat
  | 0 => List.replicate st.length 0
  | k + 1 => (fstep st ss k).set (st.getD k 0) ((k : Int) - ss.getD k 0).toNat
theorem fstep_len (st : List Nat) (ss : List Int) : ∀ k, (fstep st ss k).length = st.length
  | 0 => by unfold fstep; rw [List.length_replicate]
  | k + 1 => by unfold fstep; rw [List.length_set, fstep_len st ss k]
def fsteps (st : List Nat) (ss : List Int) : List Nat := fstep st ss st.length
theorem st_inj {st : List Nat} (S : IsSt st) {i j : Nat} (hi : i < st.length) (hj : j < st.length) (h : st.getD i 0 = st.getD j 0) : i = j := by
  rw [List.getD_eq_getElem?_getD, List.getD_eq_getElem?_getD, List.getElem?_eq_getElem hi, List.getElem?_eq_getElem hj] at h
  exact (List.getElem_inj S.nd).mp h
theorem st_lt {st : List Nat} (S : IsSt st) {i : Nat} (hi : i < st.length) : st.getD i 0 < st.length := by
  rw [List.getD_eq_getElem?_getD, List.getElem?_eq_getElem hi]
  exact S.lo _ (List.getElem_mem hi)
theorem fstep_get {st : List Nat} (S : IsSt st) (ss : List Int) : ∀ k, k ≤ st.length → ∀ p, p < k → (fstep st ss k)[st.getD p 0]? = some ((p : Int) - ss.getD p 0).toNat
  | k + 1, hk, p, hp => by
    unfold fstep
    by_cases e : p = k
    · subst e
      rw [List.getElem?_set_self (by rw [fstep_len]; exact st_lt S hk)]
    · have hne : st.getD k 0 ≠ st.getD p 0 := fun q => e (st_inj S hk (by omega) q).symm
      rw [List.getElem?_set_ne hne]
      exact fstep_get S ss k (by omega) p (by omega)
/-- each car stands somewhere -/
theorem st_has {st : List Nat} (S : IsSt st) {c : Nat} (hc : c < st.length) : ∃ p, p < st.length ∧ st.getD p 0 = c := by
  have hsub : ∀ x ∈ st, x ∈ List.range st.length := fun x hx => List.mem_range.mpr (S.lo x hx)
  have hmem : c ∈ st := by
    refine Classical.byContradiction fun hn => ?_
    have h1 : (c :: st).Nodup := List.nodup_cons.mpr ⟨hn, S.nd⟩
    have h2 : (c :: st) ⊆ List.range st.length := fun x hx => by
      rcases List.mem_cons.mp hx with e | hx
      · subst e
        exact List.mem_range.mpr hc
      · exact hsub x hx
    have h3 := h1.length_le_of_subset h2
    rw [List.length_cons, List.length_range] at h3
    omega
  obtain ⟨p, hp, e⟩ := List.mem_iff_getElem.mp hmem
  exact ⟨p, hp, by rw [List.getD_eq_getElem?_getD, List.getElem?_eq_getElem hp]; exact e⟩
/-! ### a street, walked place by place -/
def seek (occ : List Nat) : Nat → Nat → Nat
  | 0, w => w
  | k + 1, w => if w ∈ occ then seek occ k (w + 1) else w
/-- where a car stands that wishes w: the first place from there on that isn't taken; p where there is none -/
def stand (p : Nat) (occ : List Nat) (w : Nat) : Nat := seek occ (p - w) w
def whereL (p : Nat) (ws : List Nat) : List Nat := ws.foldl (fun acc w => acc ++ [stand p acc w]) []
theorem seek_spec (occ : List Nat) : ∀ k w, w ≤ seek occ k w ∧ seek occ k w ≤ w + k ∧ (∀ j, w ≤ j → j < seek occ k w → j ∈ occ) ∧ (seek occ k w < w + k → seek occ k w ∉ occ)
  | 0, w => ⟨Nat.le_refl _, Nat.le_refl _, fun j h1 h2 => absurd h2 (Nat.not_lt.mpr h1), fun h => absurd h (Nat.lt_irrefl _)⟩
  | k + 1, w => by
    obtain ⟨h1, h2, h3, h4⟩ := seek_spec occ k (w + 1)
    unfold seek
    by_cases c : w ∈ occ
    · rw [if_pos c]
      refine ⟨by omega, by omega, fun j hj1 hj2 => ?_, fun h => h4 (by omega)⟩
      by_cases e : j = w
      · subst e
        exact c
      · exact h3 j (by omega) hj2
    · rw [if_neg c]
      exact ⟨Nat.le_refl _, by omega, fun j hj1 hj2 => absurd hj2 (Nat.not_lt.mpr hj1), fun _ => c⟩
theorem stand_ge {p w : Nat} (occ : List Nat) (h : w < p) : w ≤ stand p occ w ∧ stand p occ w ≤ p ∧ (∀ j, w ≤ j → j < stand p occ w → j ∈ occ) ∧ (stand p occ w < p → stand p occ w ∉ occ) := by
  have h1 := seek_spec occ (p - w) w
  unfold stand
  have e : w + (p - w) = p := by omega
  rw [e] at h1
  exact h1
theorem stand_is {p w x : Nat} {occ : List Nat} (hw : w ≤ x) (hx : x < p) (h1 : ∀ j, w ≤ j → j < x → j ∈ occ) (h2 : x ∉ occ) : stand p occ w = x := by
  obtain ⟨a1, a2, a3, a4⟩ := stand_ge occ (Nat.lt_of_le_of_lt hw hx)
  by_cases c : stand p occ w < x
  · exact absurd (h1 _ a1 c) (a4 (by omega))
  · by_cases e : x < stand p occ w
    · exact absurd (a3 x hw e) h2
    · omega
theorem whereL_snoc (p : Nat) (ws : List Nat) (w : Nat) : whereL p (ws ++ [w]) = whereL p ws ++ [stand p (whereL p ws) w] := by
  unfold whereL
  rw [List.foldl_append]
  rfl
theorem snoc_ind {α : Type} {P : List α → Prop} (h0 : P []) (hs : ∀ r w, P r → P (r ++ [w])) : ∀ l, P l := by
  intro l
  have key : ∀ n (l : List α), l.length = n → P l := by
    intro n
    induction n with
    | zero =>
      intro l hl
      rw [List.length_eq_zero_iff.mp hl]
      exact h0
    | succ n ih =>
      intro l hl
      have hne : l ≠ [] := fun e => by rw [e] at hl; cases hl
      rw [← List.dropLast_concat_getLast hne]
      exact hs _ _ (ih _ (by rw [List.length_dropLast, hl]; rfl))
  exact key _ l rfl
theorem whereL_len (p : Nat) : ∀ ws : List Nat, (whereL p ws).length = ws.length := by
  refine snoc_ind rfl fun r w ih => ?_
  rw [whereL_snoc, List.length_append, List.length_append, ih]
  rfl
theorem whereL_le {p : Nat} : ∀ ws : List Nat, (∀ w ∈ ws, w < p) → ∀ x ∈ whereL p ws, x ≤ p := by
  refine snoc_ind (fun _ x hx => by cases hx) fun r w ih h x hx => ?_
  rw [whereL_snoc] at hx
  rcases List.mem_append.mp hx with hx | hx
  · exact ih (fun v hv => h v (List.mem_append_left _ hv)) x hx
  · have e : x = stand p (whereL p r) w := by simpa using hx
    rw [e]
    exact (stand_ge _ (h w (by simp))).2.1
/-- the first c cars stand where st tells -/
def posOf (st : List Nat) (c : Nat) : Nat := st.idxOf c
theorem posOf_is {st : List Nat} (S : IsSt st) {c : Nat} (hc : c < st.length) : posOf st c < st.length ∧ st.getD (posOf st c) 0 = c := by
  obtain ⟨p, hp, e⟩ := st_has S hc
  have hm : c ∈ st := by
    rw [← e, List.getD_eq_getElem?_getD, List.getElem?_eq_getElem hp]
    exact List.getElem_mem hp
  have h1 : posOf st c < st.length := List.idxOf_lt_length_iff.mpr hm
  refine ⟨h1, ?_⟩
  rw [List.getD_eq_getElem?_getD, List.getElem?_eq_getElem h1]
  exact List.getElem_idxOf h1
theorem posOf_at {st : List Nat} (S : IsSt st) {p : Nat} (hp : p < st.length) : posOf st (st.getD p 0) = p := by
  obtain ⟨h1, h2⟩ := posOf_is S (st_lt S hp)
  exact st_inj S h1 hp h2
/-- wishes within the reaches, up to the car c -/
theorem leads_to {st ws : List Nat} (S : IsSt st) : ∀ c, c ≤ st.length → c ≤ ws.length → (∀ d, d < c → reach st (posOf st d) ≤ ws.getD d 0 ∧ ws.getD d 0 ≤ posOf st d) → whereL st.length (ws.take c) = (List.range c).map (posOf st)
  | 0, _, _, _ => rfl
  | c + 1, hc, hl, h => by
    have ih := leads_to S c (by omega) (by omega) fun d hd => h d (by omega)
    have hlt : c < ws.length := hl
    rw [List.take_add_one, List.getElem?_eq_getElem hlt]
    show whereL st.length (ws.take c ++ [ws[c]]) = _
    rw [whereL_snoc, ih, List.range_succ, List.map_append, List.map_singleton]
    congr 1
    have hd := h c (Nat.lt_succ_self c)
    have e : ws.getD c 0 = ws[c] := by rw [List.getD_eq_getElem?_getD, List.getElem?_eq_getElem hlt]; rfl
    rw [e] at hd
    obtain ⟨p1, p2⟩ := posOf_is S (show c < st.length from hc)
    congr 1
    refine stand_is hd.2 p1 (fun j hj1 hj2 => ?_) (fun hm => ?_)
    · have hb := back_lt (posOf st c) j (Nat.le_trans hd.1 hj1) hj2
      rw [p2] at hb
      refine List.mem_map.mpr ⟨st.getD j 0, List.mem_range.mpr hb, posOf_at S (by omega)⟩
    · obtain ⟨d, hd1, hd2⟩ := List.mem_map.mp hm
      have hd3 := List.mem_range.mp hd1
      have q1 := posOf_is S (show d < st.length by omega)
      rw [hd2, p2] at q1
      omega
/-- whether wishes lead to st, asked as the law asks -/
def leadsB (st ws : List Nat) : Bool := (List.range ws.length).all fun c => decide ((whereL st.length ws).getD c 0 < st.length) && decide (st.getD ((whereL st.length ws).getD c 0) 0 = c)
theorem leads_yes {st ws : List Nat} (S : IsSt st) (hl : ws.length = st.length) (h : ∀ d, d < st.length → reach st (posOf st d) ≤ ws.getD d 0 ∧ ws.getD d 0 ≤ posOf st d) : leadsB st ws = true := by
  have k := leads_to S (ws := ws) st.length (Nat.le_refl _) (by omega) h
  rw [← hl, List.take_length, hl] at k
  unfold leadsB
  rw [List.all_eq_true]
  intro c hc
  have hc2 : c < st.length := by rw [← hl]; exact List.mem_range.mp hc
  have e : ((List.range st.length).map (posOf st)).getD c 0 = posOf st c := by
    rw [List.getD_eq_getElem?_getD, List.getElem?_map, List.getElem?_range hc2]
    rfl
  obtain ⟨p1, p2⟩ := posOf_is S hc2
  rw [k, e, p2]
  simp [p1]
theorem whereL_take (p : Nat) (ws : List Nat) : ∀ c, c ≤ ws.length → whereL p (ws.take c) = (whereL p ws).take c := by
  refine snoc_ind (P := fun ws => ∀ c, c ≤ ws.length → whereL p (ws.take c) = (whereL p ws).take c) (fun c hc => ?_) (fun r w ih c hc => ?_) ws
  · have : c = 0 := Nat.le_zero.mp hc
    subst this
    rfl
  · by_cases e : c ≤ r.length
    · rw [List.take_append_of_le_length e, ih c e, whereL_snoc, List.take_append_of_le_length (by rw [whereL_len]; exact e)]
    · rw [List.length_append, List.length_singleton] at hc
      have e2 : c = (r ++ [w]).length := by rw [List.length_append, List.length_singleton]; omega
      rw [e2, List.take_length]
      rw [List.take_of_length_le (by rw [whereL_len]; exact Nat.le_refl _)]
/-- with one wish ahead of its reach they don't -/
theorem leads_no {st ws : List Nat} (S : IsSt st) (hl : ws.length = st.length) {p : Nat} (hp : p < st.length) (h : ∀ d, d < st.getD p 0 → reach st (posOf st d) ≤ ws.getD d 0 ∧ ws.getD d 0 ≤ posOf st d) (h0 : 0 < reach st p) (hw : ws.getD (st.getD p 0) 0 = reach st p - 1) : leadsB st ws = false := by
  have hc := st_lt S hp
  generalize hce : st.getD p 0 = c at hc h hw
  have k := leads_to S (ws := ws) c (by omega) (by omega) h
  have hlt : c < ws.length := by omega
  have hge := back_ge (st := st) (x := st.getD p 0) p h0
  have hj : reach st p - 1 < p := by have := reach_le st p; omega
  have hgt : c < st.getD (reach st p - 1) 0 := by
    have hne : st.getD (reach st p - 1) 0 ≠ st.getD p 0 := fun e => by have := st_inj S (by omega) hp e; omega
    have hge2 : st.getD p 0 ≤ st.getD (reach st p - 1) 0 := hge
    omega
  have e1 : stand st.length (whereL st.length (ws.take c)) (reach st p - 1) = reach st p - 1 := by
    refine stand_is (Nat.le_refl _) (by omega) (fun j h1 h2 => absurd h2 (Nat.not_lt.mpr h1)) (fun hm => ?_)
    rw [k] at hm
    obtain ⟨d, hd1, hd2⟩ := List.mem_map.mp hm
    have hd3 := List.mem_range.mp hd1
    have q1 := (posOf_is S (show d < st.length by omega)).2
    rw [hd2] at q1
    omega
  have e2 : (whereL st.length ws).getD c 0 = reach st p - 1 := by
    have t := whereL_take st.length ws (c + 1) hlt
    rw [List.take_add_one, List.getElem?_eq_getElem hlt] at t
    have t2 : whereL st.length (ws.take c ++ [ws[c]]) = (whereL st.length ws).take (c + 1) := t
    have ew : ws[c] = reach st p - 1 := by
      rw [List.getD_eq_getElem?_getD, List.getElem?_eq_getElem hlt] at hw
      exact hw
    rw [whereL_snoc, ew, e1] at t2
    have g : ((whereL st.length ws).take (c + 1))[c]? = some (reach st p - 1) := by
      rw [← t2, List.getElem?_append_right (by rw [whereL_len, List.length_take]; omega), whereL_len, List.length_take, show c - min c ws.length = 0 by omega]
      rfl
    rw [List.getElem?_take_of_lt (Nat.lt_succ_self c)] at g
    rw [List.getD_eq_getElem?_getD, g]
    rfl
  unfold leadsB
  rw [List.all_eq_false]
  refine ⟨c, List.mem_range.mpr hlt, ?_⟩
  rw [e2]
  simp only [Bool.and_eq_true, decide_eq_true_eq, not_and]
  intro _ e
  omega
/-! ### a drawn standing -/
def insCar (st : List Nat) (at_ : Nat) : List Nat := st.take at_ ++ [st.length] ++ st.drop at_
def drawSt (ns : List Int) : List Nat := ns.foldl (fun st c => insCar st (c % ((st.length : Int) + 1)).toNat) []
theorem drawSt_snoc (ns : List Int) (c : Int) : drawSt (ns ++ [c]) = insCar (drawSt ns) (c % (((drawSt ns).length : Int) + 1)).toNat := by
  unfold drawSt
  rw [List.foldl_append]
  rfl
theorem insCar_perm (st : List Nat) (k : Nat) : (insCar st k).Perm (st.length :: st) := by
  unfold insCar
  rw [List.append_assoc, List.singleton_append]
  exact List.perm_middle.trans (by rw [List.take_append_drop])
theorem drawSt_perm : ∀ ns : List Int, (drawSt ns).Perm (List.range ns.length).reverse ∧ (drawSt ns).length = ns.length := by
  refine snoc_ind ⟨List.Perm.refl _, rfl⟩ fun r c ih => ?_
  obtain ⟨h1, h2⟩ := ih
  have h3 := insCar_perm (drawSt r) (c % (((drawSt r).length : Int) + 1)).toNat
  rw [drawSt_snoc]
  refine ⟨?_, ?_⟩
  · rw [List.length_append, List.length_singleton, List.range_succ, List.reverse_append]
    rw [h2] at h3 ⊢
    exact h3.trans (h1.cons _)
  · rw [h3.length_eq, List.length_cons, h2, List.length_append]
    rfl
theorem drawSt_is (ns : List Int) : IsSt (drawSt ns) := by
  obtain ⟨h1, h2⟩ := drawSt_perm ns
  refine ⟨fun x hx => ?_, ?_⟩
  · rw [h2]
    have := h1.mem_iff.mp hx
    rw [List.mem_reverse] at this
    exact List.mem_range.mp this
  · refine h1.nodup_iff.mpr ?_
    exact (List.reverse_perm _).nodup_iff.mpr List.nodup_range
end Pk
namespace Pk
/-! ### who parks -/
theorem getD_of {ws : List Nat} {c : Nat} (h : c < ws.length) : ws[c]? = some (ws.getD c 0) := by
  rw [List.getD_eq_getElem?_getD, List.getElem?_eq_getElem h]
  rfl
theorem whereL_get (p : Nat) {ws : List Nat} {c : Nat} (h : c < ws.length) : (whereL p ws).getD c 0 = stand p ((whereL p ws).take c) (ws.getD c 0) := by
  have t := whereL_take p ws (c + 1) h
  rw [List.take_add_one, getD_of h] at t
  have t2 : whereL p (ws.take c ++ [ws.getD c 0]) = (whereL p ws).take (c + 1) := t
  rw [whereL_snoc, whereL_take p ws c (Nat.le_of_lt h)] at t2
  have hl := whereL_len p ws
  have g : ((whereL p ws).take (c + 1))[c]? = some (stand p ((whereL p ws).take c) (ws.getD c 0)) := by
    rw [← t2, List.getElem?_append_right (by rw [List.length_take]; omega), List.length_take, show c - min c (whereL p ws).length = 0 by omega]
    rfl
  rw [List.getElem?_take_of_lt (Nat.lt_succ_self c)] at g
  rw [List.getD_eq_getElem?_getD, g]
  rfl
theorem mem_take_iff {l : List Nat} {c x : Nat} (hc : c ≤ l.length) : x ∈ l.take c ↔ ∃ d, d < c ∧ l.getD d 0 = x := by
  constructor
  · intro h
    obtain ⟨d, hd, e⟩ := List.mem_iff_getElem.mp h
    rw [List.length_take] at hd
    refine ⟨d, by omega, ?_⟩
    rw [List.getElem_take] at e
    rw [List.getD_eq_getElem?_getD, List.getElem?_eq_getElem (by omega)]
    exact e
  · rintro ⟨d, hd, e⟩
    have h1 : (l.take c)[d]? = some x := by rw [List.getElem?_take_of_lt hd, getD_of (by omega), e]
    exact List.mem_of_getElem? h1
structure Parks (p : Nat) (ws : List Nat) (L : List Nat) : Prop where
  len : L.length = ws.length
  lo : ∀ c, c < ws.length → ws.getD c 0 ≤ L.getD c 0
  hi : ∀ c, c < ws.length → L.getD c 0 ≤ p
  be : ∀ c, c < ws.length → ∀ j, ws.getD c 0 ≤ j → j < L.getD c 0 → ∃ d, d < c ∧ L.getD d 0 = j
  ne : ∀ c, c < ws.length → L.getD c 0 < p → ∀ d, d < c → L.getD d 0 ≠ L.getD c 0
theorem parks {p : Nat} {ws : List Nat} (h : ∀ x ∈ ws, x < p) : Parks p ws (whereL p ws) := by
  have hl := whereL_len p ws
  have k : ∀ c, c < ws.length → ws.getD c 0 ≤ (whereL p ws).getD c 0 ∧ (whereL p ws).getD c 0 ≤ p ∧ (∀ j, ws.getD c 0 ≤ j → j < (whereL p ws).getD c 0 → j ∈ (whereL p ws).take c) ∧ ((whereL p ws).getD c 0 < p → (whereL p ws).getD c 0 ∉ (whereL p ws).take c) := fun c hc => by
    rw [whereL_get p hc]
    exact stand_ge _ (h _ (List.mem_of_getElem? (getD_of hc)))
  refine ⟨hl, fun c hc => (k c hc).1, fun c hc => (k c hc).2.1, fun c hc j h1 h2 => (mem_take_iff (by omega)).mp ((k c hc).2.2.1 j h1 h2), fun c hc h1 d hd e => (k c hc).2.2.2 h1 ((mem_take_iff (by omega)).mpr ⟨d, hd, e⟩)⟩
theorem parks_inj {p : Nat} {ws L : List Nat} (P : Parks p ws L) {c d : Nat} (hc : c < ws.length) (hd : d < ws.length) (h1 : L.getD c 0 < p) (e : L.getD c 0 = L.getD d 0) : c = d := by
  rcases Nat.lt_trichotomy c d with h | h | h
  · exact absurd e (P.ne d hd (by omega) c h)
  · exact h
  · exact absurd e.symm (P.ne c hc h1 d h)
theorem ge_filter (ws : List Nat) (i : Nat) : ge ws i = ((List.range ws.length).filter fun c => decide (i ≤ ws.getD c 0)).length := by
  have e : ws = (List.range ws.length).map fun c => ws.getD c 0 := by
    refine List.ext_getElem? fun c => ?_
    rw [List.getElem?_map]
    by_cases h : c < ws.length
    · rw [List.getElem?_range h, getD_of h]
      rfl
    · rw [List.getElem?_eq_none (by omega), List.getElem?_eq_none (by rw [List.length_range]; omega)]
      rfl
  unfold ge
  conv => lhs; rw [e]
  rw [List.countP_map, List.countP_eq_length_filter]
  rfl
theorem low_is {S : Nat → Prop} {p : Nat} : ∀ w, (∀ j, w ≤ j → j < p → S j) → ∃ i, i ≤ w ∧ (∀ j, i ≤ j → j < p → S j) ∧ ∀ k, k + 1 = i → ¬ S k
  | 0, h => ⟨0, Nat.le_refl _, h, fun k e => by omega⟩
  | w + 1, h => by
    by_cases c : S w
    · obtain ⟨i, h1, h2, h3⟩ := low_is w (S := S) (p := p) fun j a b => by
        by_cases e : j = w
        · subst e
          exact c
        · exact h j (by omega) b
      exact ⟨i, by omega, h2, h3⟩
    · refine ⟨w + 1, Nat.le_refl _, h, fun k e => ?_⟩
      have : k = w := by omega
      subst this
      exact c
/-- none drives off where there is no crowd -/
theorem parks_all {p : Nat} {ws L : List Nat} (P : Parks p ws L) (hw : ∀ x ∈ ws, x < p) (h : ∀ i, i < p → ge ws i ≤ p - i) : ∀ c, c < ws.length → L.getD c 0 < p := fun c hc => by
  refine Classical.byContradiction fun hn => ?_
  have hL : L.getD c 0 = p := by have := P.hi c hc; omega
  obtain ⟨i, hi, h1, h2⟩ := low_is (S := fun j => ∃ d, d < c ∧ L.getD d 0 = j) (p := p) (ws.getD c 0) fun j a b => P.be c hc j a (by omega)
  have hwc := hw _ (List.mem_of_getElem? (getD_of hc))
  have hip : i < p := by omega
  have hch : ∀ j, ∃ d, i ≤ j → j < p → d < c ∧ L.getD d 0 = j := fun j => by
    by_cases a : i ≤ j
    · by_cases b : j < p
      · obtain ⟨d, hd⟩ := h1 j a b
        exact ⟨d, fun _ _ => hd⟩
      · exact ⟨0, fun _ z => absurd z b⟩
    · exact ⟨0, fun z => absurd z a⟩
  have hf := fun j => Classical.choose_spec (hch j)
  generalize (fun j => Classical.choose (hch j)) = f at hf
  have hf2 : ∃ f : Nat → Nat, ∀ j, i ≤ j → j < p → f j < c ∧ L.getD (f j) 0 = j := ⟨fun j => Classical.choose (hch j), hf⟩
  obtain ⟨f, hf⟩ := hf2
  have hnd : (c :: (List.range' i (p - i)).map f).Nodup := by
    refine List.nodup_cons.mpr ⟨fun hm => ?_, ?_⟩
    · obtain ⟨j, hj, e⟩ := List.mem_map.mp hm
      rw [List.mem_range'_1] at hj
      have := (hf j hj.1 (by omega)).1
      omega
    · refine List.Pairwise.map (R := fun a b => a ≠ b ∧ (i ≤ a ∧ a < p) ∧ (i ≤ b ∧ b < p)) f (fun a b hab e => ?_) ?_
      · have h3 := (hf a hab.2.1.1 hab.2.1.2).2
        have h4 := (hf b hab.2.2.1 hab.2.2.2).2
        rw [e] at h3
        exact hab.1 (h3.symm.trans h4)
      · refine List.Pairwise.imp_of_mem (fun {a b} ha hb hab => ⟨hab, ?_, ?_⟩) (List.nodup_range' (s := i) (n := p - i) (step := 1))
        · rw [List.mem_range'_1] at ha; omega
        · rw [List.mem_range'_1] at hb; omega
  have hsub : (c :: (List.range' i (p - i)).map f) ⊆ (List.range ws.length).filter fun c => decide (i ≤ ws.getD c 0) := fun x hx => by
    rw [List.mem_filter, List.mem_range, decide_eq_true_eq]
    rcases List.mem_cons.mp hx with e | hx
    · subst e
      exact ⟨hc, hi⟩
    · obtain ⟨j, hj, e⟩ := List.mem_map.mp hx
      rw [List.mem_range'_1] at hj
      obtain ⟨h3, h4⟩ := hf j hj.1 (by omega)
      subst e
      refine ⟨by omega, Nat.le_of_not_lt fun hlt => ?_⟩
      obtain ⟨d, hd, e⟩ := P.be (f j) (by omega) (i - 1) (by omega) (by omega)
      exact h2 (i - 1) (by omega) ⟨d, by omega, e⟩
  have h3 := hnd.length_le_of_subset hsub
  rw [← ge_filter, List.length_cons, List.length_map, List.length_range'] at h3
  have := h i hip
  omega
/-- where none drives off there is no crowd -/
theorem parks_no {p : Nat} {ws L : List Nat} (P : Parks p ws L) (h : ∀ c, c < ws.length → L.getD c 0 < p) : ∀ i, i < p → ge ws i ≤ p - i := fun i hi => by
  rw [ge_filter]
  have hnd : (((List.range ws.length).filter fun c => decide (i ≤ ws.getD c 0)).map fun c => L.getD c 0).Nodup := by
    refine List.Pairwise.map (R := fun a b => a ≠ b ∧ a < ws.length ∧ b < ws.length) _ (fun a b hab e => hab.1 (parks_inj P hab.2.1 hab.2.2 (h a hab.2.1) e)) ?_
    refine List.Pairwise.imp_of_mem (fun {a b} ha hb hab => ⟨hab, ?_, ?_⟩) (List.nodup_range.filter _)
    · exact List.mem_range.mp (List.mem_filter.mp ha).1
    · exact List.mem_range.mp (List.mem_filter.mp hb).1
  have hsub : (((List.range ws.length).filter fun c => decide (i ≤ ws.getD c 0)).map fun c => L.getD c 0) ⊆ List.range' i (p - i) := fun x hx => by
    obtain ⟨c, hc, e⟩ := List.mem_map.mp hx
    subst e
    obtain ⟨h1, h2⟩ := List.mem_filter.mp hc
    have h3 := List.mem_range.mp h1
    have h4 := P.lo c h3
    have h5 := h c h3
    have h6 := of_decide_eq_true h2
    rw [List.mem_range'_1]
    omega
  have h3 := hnd.length_le_of_subset hsub
  rw [List.length_map, List.length_range'] at h3
  exact h3
/-! ### the standing that they lead to -/
def stdK (L : List Nat) : Nat → List Nat
  | 0 => List.replicate L.length 0
  | k + 1 => (stdK L k).set (L.getD k 0) k
theorem stdK_len (L : List Nat) : ∀ k, (stdK L k).length = L.length
  | 0 => by unfold stdK; rw [List.length_replicate]
  | k + 1 => by unfold stdK; rw [List.length_set, stdK_len L k]
def stdOf (L : List Nat) : List Nat := stdK L L.length
structure PermL (L : List Nat) : Prop where
  lo : ∀ c, c < L.length → L.getD c 0 < L.length
  ij : ∀ c d, c < L.length → d < L.length → L.getD c 0 = L.getD d 0 → c = d
theorem stdK_get {L : List Nat} (h : PermL L) : ∀ k, k ≤ L.length → ∀ c, c < k → (stdK L k)[L.getD c 0]? = some c
  | k + 1, hk, c, hc => by
    unfold stdK
    by_cases e : c = k
    · subst e
      rw [List.getElem?_set_self (by rw [stdK_len]; exact h.lo c hk)]
    · rw [List.getElem?_set_ne (fun q => e (h.ij k c hk (by omega) q).symm)]
      exact stdK_get h k (by omega) c (by omega)
theorem permL_nd {L : List Nat} (h : PermL L) : L.Nodup := by
  rw [List.Nodup, List.pairwise_iff_getElem]
  intro i j hi hj hij e
  have := h.ij i j hi hj (by rw [List.getD_eq_getElem?_getD, List.getD_eq_getElem?_getD, List.getElem?_eq_getElem hi, List.getElem?_eq_getElem hj]; exact congrArg (fun z => (some z).getD 0) e)
  omega
theorem permL_st {L : List Nat} (h : PermL L) : IsSt L := ⟨fun x hx => by
  obtain ⟨c, hc, e⟩ := List.mem_iff_getElem.mp hx
  have := h.lo c hc
  rw [List.getD_eq_getElem?_getD, List.getElem?_eq_getElem hc] at this
  rw [← e]
  exact this, permL_nd h⟩
theorem stdOf_len (L : List Nat) : (stdOf L).length = L.length := stdK_len L _
theorem stdOf_at {L : List Nat} (h : PermL L) {c : Nat} (hc : c < L.length) : (stdOf L).getD (L.getD c 0) 0 = c := by
  have g := stdK_get h L.length (Nat.le_refl _) c hc
  unfold stdOf
  rw [List.getD_eq_getElem?_getD, g]
  rfl
/-- every place is taken -/
theorem stdOf_has {L : List Nat} (h : PermL L) {x : Nat} (hx : x < L.length) : ∃ c, c < L.length ∧ L.getD c 0 = x ∧ (stdOf L).getD x 0 = c := by
  obtain ⟨c, hc, e⟩ := st_has (permL_st h) hx
  refine ⟨c, hc, e, ?_⟩
  rw [← e, stdOf_at h hc]
theorem stdOf_st {L : List Nat} (h : PermL L) : IsSt (stdOf L) := by
  refine permL_st ⟨fun x hx => ?_, fun x y hx hy e => ?_⟩
  · rw [stdOf_len] at hx ⊢
    obtain ⟨c, hc, _, e2⟩ := stdOf_has h hx
    omega
  · rw [stdOf_len] at hx hy
    obtain ⟨c, hc, e1, e2⟩ := stdOf_has h hx
    obtain ⟨d, hd, e3, e4⟩ := stdOf_has h hy
    rw [e2, e4] at e
    subst e
    omega
theorem full_perm {ws : List Nat} (F : Full ws) : Parks ws.length ws (whereL ws.length ws) ∧ PermL (whereL ws.length ws) := by
  have P := parks (p := ws.length) (ws := ws) F.lo
  have A := parks_all P F.lo F.no
  refine ⟨P, fun c hc => ?_, fun c d hc hd e => ?_⟩
  · rw [P.len] at hc ⊢
    exact A c hc
  · rw [P.len] at hc hd
    exact parks_inj P hc hd (A c hc) e
/-- each wish is from its place's reach on -/
theorem full_reach {ws : List Nat} (F : Full ws) {c : Nat} (hc : c < ws.length) : reach (stdOf (whereL ws.length ws)) ((whereL ws.length ws).getD c 0) ≤ ws.getD c 0 := by
  obtain ⟨P, L⟩ := full_perm F
  refine Nat.le_of_not_lt fun hlt => ?_
  have h1 := reach_le (stdOf (whereL ws.length ws)) ((whereL ws.length ws).getD c 0)
  have h2 := back_ge (st := stdOf (whereL ws.length ws)) (x := (stdOf (whereL ws.length ws)).getD ((whereL ws.length ws).getD c 0) 0) ((whereL ws.length ws).getD c 0) (by unfold reach at hlt; omega)
  have h3 : (stdOf (whereL ws.length ws)).getD ((whereL ws.length ws).getD c 0) 0 = c := stdOf_at L (by rw [P.len]; exact hc)
  have h4 : c ≤ (stdOf (whereL ws.length ws)).getD (reach (stdOf (whereL ws.length ws)) ((whereL ws.length ws).getD c 0) - 1) 0 := by unfold reach; rw [h3] at h2 ⊢; exact h2
  obtain ⟨d, hd, e⟩ := P.be c hc (reach (stdOf (whereL ws.length ws)) ((whereL ws.length ws).getD c 0) - 1) (by omega) (by omega)
  have h5 : (stdOf (whereL ws.length ws)).getD (reach (stdOf (whereL ws.length ws)) ((whereL ws.length ws).getD c 0) - 1) 0 = d := by
    rw [← e]
    exact stdOf_at L (by rw [P.len]; omega)
  omega
end Pk
namespace Pk
open PySem PySem.Spec PyProof.Rows L2 Evl He
open SX (S)
section
variable {P : Program} {w : World} {K : PySem.W.Frag} {σ : L2.St} {H : Hp} {te ta tb : TE} {v : V} {D : Ends} {tz : TS}
/-! ### arguments some of which are new lists -/
def EvAP (ta : TA) (σ : L2.St) (H : Hp) (Φ : List V → Hp → Prop) : Prop := ∀ H1, Ex H H1 → ∀ Q : List V → Hp → Prop, (∀ vs H2, Ex H1 H2 → Φ vs H2 → Q vs H2) → ta σ H1 Q
theorem eap_nil : EvAP tNil σ H (fun vs _ => vs = []) := fun H1 _ _ q => q _ H1 (Ex.refl H1) rfl
theorem eap_cons {tr : TA} {Φ : List V → Hp → Prop} (h : Ev te σ H v) (hr : EvAP tr σ H Φ) : EvAP (tCons te tr) σ H (fun vs H2 => ∃ ws, vs = v :: ws ∧ Φ ws H2) := fun H1 e _ q =>
  h H1 e _ fun H2 e2 => hr H2 (e.trans e2) _ fun ws H3 e3 hw => q _ H3 (e2.trans e3) ⟨ws, rfl, hw⟩
theorem eap_consL {tr : TA} {xs : List V} {Φ : List V → Hp → Prop} (h : EvL te σ H xs) (hr : EvAP tr σ H Φ) : EvAP (tCons te tr) σ H (fun vs H2 => ∃ p ws, vs = .ref p :: ws ∧ H p = none ∧ H2 p = some (.lst xs) ∧ Φ ws H2) := fun H1 e _ q =>
  h H1 e _ fun p H2 hp e2 h2 => hr H2 (e.trans e2) _ fun ws H3 e3 hw => q _ H3 (e2.trans e3) ⟨p, ws, rfl, fresh_back e hp, e3 p _ h2, hw⟩
theorem ev_callP {sp : Sp} {dvs : List V} {E : XK} {ta : TA} {Φ : List V → Hp → Prop} (h : EvAP ta σ H Φ) (hs : ∀ vs H1, Ex H H1 → Φ vs H1 → SpV sp (vs ++ dvs) H1 v) : Ev (tCall sp dvs E ta) σ H v := fun H1 e Q q =>
  h H1 e _ fun vs H2 e2 hv => hs vs H2 (e.trans e2) hv H2 (Ex.refl H2) _ (fun H3 e3 => q H3 (e2.trans e3)) E
theorem el_callP {sp : Sp} {dvs xs : List V} {E : XK} {ta : TA} {Φ : List V → Hp → Prop} (h : EvAP ta σ H Φ) (hs : ∀ vs H1, Ex H H1 → Φ vs H1 → SpL sp (vs ++ dvs) H1 xs) : EvL (tCall sp dvs E ta) σ H xs := fun H1 e Q q =>
  h H1 e _ fun vs H2 e2 hv => hs vs H2 (e.trans e2) hv H2 (Ex.refl H2) _ (fun p H3 hp e3 h3 => q p H3 (fresh_back e2 hp) (e2.trans e3) h3) E
/-- one new list handed in -/
theorem ev_callL1 {sp : Sp} {E : XK} {xs : List V} (h : EvL te σ H xs) (hs : ∀ p H1, Ex H H1 → H1 p = some (.lst xs) → SpV sp [.ref p] H1 v) : Ev (tCall sp [] E (tCons te tNil)) σ H v :=
  ev_callP (eap_consL h eap_nil) fun vs H1 e hv => by
    obtain ⟨p, ws, rfl, _, hp, rfl⟩ := hv
    exact hs p H1 e hp
theorem el_callL1 {sp : Sp} {E : XK} {xs ys : List V} (h : EvL te σ H xs) (hs : ∀ p H1, Ex H H1 → H1 p = some (.lst xs) → SpL sp [.ref p] H1 ys) : EvL (tCall sp [] E (tCons te tNil)) σ H ys :=
  el_callP (eap_consL h eap_nil) fun vs H1 e hv => by
    obtain ⟨p, ws, rfl, _, hp, rfl⟩ := hv
    exact hs p H1 e hp
theorem el_callL2 {sp : Sp} {E : XK} {xs xs2 ys : List V} (h : EvL te σ H xs) (h2 : EvL ta σ H xs2) (hs : ∀ p q H1, Ex H H1 → H1 p = some (.lst xs) → H1 q = some (.lst xs2) → SpL sp [.ref p, .ref q] H1 ys) : EvL (tCall sp [] E (tCons te (tCons ta tNil))) σ H ys :=
  el_callP (eap_consL h (eap_consL h2 eap_nil)) fun vs H1 e hv => by
    obtain ⟨p, ws, rfl, _, hp, q, ws2, rfl, _, hq, rfl⟩ := hv
    exact hs p q H1 e hp hq
theorem el_callVL {sp : Sp} {E : XK} {xs ys : List V} (h : Ev te σ H v) (h2 : EvL ta σ H xs) (hs : ∀ p H1, Ex H H1 → H1 p = some (.lst xs) → SpL sp [v, .ref p] H1 ys) : EvL (tCall sp [] E (tCons te (tCons ta tNil))) σ H ys :=
  el_callP (eap_cons h (eap_consL h2 eap_nil)) fun vs H1 e hv => by
    obtain ⟨ws, rfl, p, ws2, rfl, _, hp, rfl⟩ := hv
    exact hs p H1 e hp
theorem ev_callVL {sp : Sp} {E : XK} {xs : List V} {z : V} (h : Ev te σ H v) (h2 : EvL ta σ H xs) (hs : ∀ p H1, Ex H H1 → H1 p = some (.lst xs) → SpV sp [v, .ref p] H1 z) : Ev (tCall sp [] E (tCons te (tCons ta tNil))) σ H z :=
  ev_callP (eap_cons h (eap_consL h2 eap_nil)) fun vs H1 e hv => by
    obtain ⟨ws, rfl, p, ws2, rfl, _, hp, rfl⟩ := hv
    exact hs p H1 e hp
/-- a new list by a comparison with one at hand -/
theorem ev_neNL {b : Addr} {ns ms : List Nat} (ha : EvL ta σ H (vn ns)) (hb : Ev tb σ H (.ref b)) (h : SqL K H b (vn ms)) : Ev (tOp (rNeD K) ta tb) σ H (.bl (!decide (ns = ms))) :=
  ev_opL1 ha (fun H1 e => hb.mono e) fun p H1 hp e => rv_neN (sq_of hp) (ex_l e h)
theorem ev_eqNL {b : Addr} {ns ms : List Nat} (ha : EvL ta σ H (vn ns)) (hb : Ev tb σ H (.ref b)) (h : SqL K H b (vn ms)) : Ev (tOp (rEqD K) ta tb) σ H (.bl (decide (ns = ms))) :=
  ev_opL1 ha (fun H1 e => hb.mono e) fun p H1 hp e => rv_eqN (sq_of hp) (ex_l e h)
theorem ev_neNLL {ns ms : List Nat} (ha : EvL ta σ H (vn ns)) (hb : EvL tb σ H (vn ms)) : Ev (tOp (rNeD K) ta tb) σ H (.bl (!decide (ns = ms))) :=
  ev_opLL ha hb fun p q H1 hp hq e => rv_neN (sq_of hp) (sq_of hq)
theorem ev_eqNLL {ns ms : List Nat} (ha : EvL ta σ H (vn ns)) (hb : EvL tb σ H (vn ms)) : Ev (tOp (rEqD K) ta tb) σ H (.bl (decide (ns = ms))) :=
  ev_opLL ha hb fun p q H1 hp hq e => rv_eqN (sq_of hp) (sq_of hq)
end
end Pk
namespace Pk
/-! ### a list of steps ahead to the first free place -/
/-- ah leads each x on to nf x -/
structure Fr (n : Nat) (nf d : Nat → Nat) (ah : List Nat) : Prop where
  len : ah.length = n
  lt : ∀ x, x < n → ah.getD x 0 < n
  eq : ∀ x, x < n → (ah.getD x 0 = x ↔ nf x = x)
  on : ∀ x, x < n → nf (ah.getD x 0) = nf x
  ds : ∀ x, x < n → ah.getD x 0 ≠ x → d (ah.getD x 0) < d x
  nn : ∀ x, x < n → nf x < n ∧ nf (nf x) = nf x ∧ (nf x ≠ x → d (nf x) < d x)
  bd : ∀ x, x < n → d x ≤ n
theorem getD_set_self {ah : List Nat} {x v : Nat} (h : x < ah.length) : (ah.set x v).getD x 0 = v := by
  rw [List.getD_eq_getElem?_getD, List.getElem?_set_self h]
  rfl
theorem getD_set_ne {ah : List Nat} {x y v : Nat} (h : x ≠ y) : (ah.set x v).getD y 0 = ah.getD y 0 := by
  rw [List.getD_eq_getElem?_getD, List.getElem?_set_ne h, List.getD_eq_getElem?_getD]
/-- shortened -/
theorem Fr.cut {n : Nat} {nf d : Nat → Nat} {ah : List Nat} (F : Fr n nf d ah) {x : Nat} (hx : x < n) (hn : nf x ≠ x) : Fr n nf d (ah.set x (nf x)) := by
  have N := F.nn x hx
  have hl := F.len
  have key : ∀ y, (ah.set x (nf x)).getD y 0 = if y = x then nf x else ah.getD y 0 := fun y => by
    by_cases e : y = x
    · rw [if_pos e, e]
      exact getD_set_self (by omega)
    · rw [if_neg e]
      exact getD_set_ne (fun q => e q.symm)
  refine ⟨by rw [List.length_set, hl], fun y hy => ?_, fun y hy => ?_, fun y hy => ?_, fun y hy hne => ?_, F.nn, F.bd⟩
  · rw [key y]
    by_cases e : y = x
    · rw [if_pos e]; exact N.1
    · rw [if_neg e]; exact F.lt y hy
  · rw [key y]
    by_cases e : y = x
    · rw [if_pos e, e]
    · rw [if_neg e]; exact F.eq y hy
  · rw [key y]
    by_cases e : y = x
    · rw [if_pos e, e]; exact N.2.1
    · rw [if_neg e]; exact F.on y hy
  · rw [key y] at hne ⊢
    by_cases e : y = x
    · rw [if_pos e, e]; exact N.2.2 hn
    · rw [if_neg e] at hne ⊢; exact F.ds y hy hne
/-! ### around a ring -/
def rdist (occ : List Nat) (p x : Nat) : Nat := (List.range p).findIdx fun k => decide ((x + k) % p ∉ occ)
def rnf (occ : List Nat) (p x : Nat) : Nat := (x + rdist occ p x) % p
/-- the first free place is k away -/
def Fst (occ : List Nat) (p x k : Nat) : Prop := (∀ j, j < k → (x + j) % p ∈ occ) ∧ (x + k) % p ∉ occ
theorem fst_uniq {occ : List Nat} {p x k k' : Nat} (h : Fst occ p x k) (h' : Fst occ p x k') : k = k' := by
  rcases Nat.lt_trichotomy k k' with c | c | c
  · exact absurd (h'.1 k c) h.2
  · exact c
  · exact absurd (h.1 k' c) h'.2
def HasFree (occ : List Nat) (p : Nat) : Prop := ∃ g, g < p ∧ g ∉ occ
theorem reach_by {p x g : Nat} (hx : x < p) (hg : g < p) : ∃ k, k < p ∧ (x + k) % p = g := by
  by_cases c : x ≤ g
  · exact ⟨g - x, by omega, by rw [show x + (g - x) = g by omega]; exact Nat.mod_eq_of_lt hg⟩
  · refine ⟨g + p - x, by omega, ?_⟩
    rw [show x + (g + p - x) = g + p by omega, Nat.add_mod_right]
    exact Nat.mod_eq_of_lt hg
theorem rdist_spec {occ : List Nat} {p x : Nat} (F : HasFree occ p) (hx : x < p) : rdist occ p x < p ∧ Fst occ p x (rdist occ p x) := by
  obtain ⟨g, hg, hf⟩ := F
  obtain ⟨k, hk, e⟩ := reach_by hx hg
  have h1 : rdist occ p x < (List.range p).length := by
    unfold rdist
    refine List.findIdx_lt_length_of_exists ⟨k, List.mem_range.mpr hk, ?_⟩
    rw [decide_eq_true_eq, e]
    exact hf
  have h2 := h1
  rw [List.length_range] at h2
  refine ⟨h2, fun j hj => ?_, ?_⟩
  · have h3 := List.not_of_lt_findIdx (p := fun k => decide ((x + k) % p ∉ occ)) (xs := List.range p) (i := j) hj
    rw [List.getElem_range] at h3
    simpa using h3
  · have h3 := List.findIdx_getElem (p := fun k => decide ((x + k) % p ∉ occ)) (xs := List.range p) (w := h1)
    have h4 := of_decide_eq_true h3
    have e : (List.range p)[rdist occ p x]'h1 = rdist occ p x := List.getElem_range h1
    exact fun hm => h4 (by show (x + (List.range p)[rdist occ p x]'h1) % p ∈ occ; rw [e]; exact hm)
theorem rdist_is {occ : List Nat} {p x k : Nat} (F : HasFree occ p) (hx : x < p) (h : Fst occ p x k) : rdist occ p x = k := fst_uniq (rdist_spec F hx).2 h
theorem rnf_lt {occ : List Nat} {p x : Nat} (hp : 0 < p) : rnf occ p x < p := Nat.mod_lt _ hp
theorem rnf_free {occ : List Nat} {p x : Nat} (F : HasFree occ p) (hx : x < p) : rnf occ p x ∉ occ := (rdist_spec F hx).2.2
theorem fst_zero {occ : List Nat} {p x : Nat} (hx : x < p) (h : x ∉ occ) : Fst occ p x 0 := ⟨fun j hj => absurd hj (Nat.not_lt_zero j), by rw [Nat.add_zero, Nat.mod_eq_of_lt hx]; exact h⟩
theorem rdist_zero {occ : List Nat} {p x : Nat} (F : HasFree occ p) (hx : x < p) : rdist occ p x = 0 ↔ x ∉ occ := by
  constructor
  · intro h
    have := (rdist_spec F hx).2.2
    rw [h, Nat.add_zero, Nat.mod_eq_of_lt hx] at this
    exact this
  · exact fun h => rdist_is F hx (fst_zero hx h)
theorem rnf_self {occ : List Nat} {p x : Nat} (F : HasFree occ p) (hx : x < p) : rnf occ p x = x ↔ x ∉ occ := by
  constructor
  · intro h
    have := rnf_free F hx
    rw [h] at this
    exact this
  · intro h
    unfold rnf
    rw [(rdist_zero F hx).mpr h, Nat.add_zero, Nat.mod_eq_of_lt hx]
/-- one step on -/
theorem rdist_step {occ : List Nat} {p x : Nat} (F : HasFree occ p) (hx : x < p) (h : x ∈ occ) : rdist occ p x = rdist occ p ((x + 1) % p) + 1 := by
  have hp : 0 < p := by omega
  have h2 := (rdist_spec F (x := (x + 1) % p) (Nat.mod_lt _ hp)).2
  refine rdist_is F hx ⟨fun j hj => ?_, ?_⟩
  · cases j with
    | zero => rw [Nat.add_zero, Nat.mod_eq_of_lt hx]; exact h
    | succ j =>
      have h3 := h2.1 j (by omega)
      rw [Nat.mod_add_mod, show x + 1 + j = x + (j + 1) by omega] at h3
      exact h3
  · have h3 := h2.2
    rw [Nat.mod_add_mod, show x + 1 + rdist occ p ((x + 1) % p) = x + (rdist occ p ((x + 1) % p) + 1) by omega] at h3
    exact h3
theorem rnf_step {occ : List Nat} {p x : Nat} (F : HasFree occ p) (hx : x < p) (h : x ∈ occ) : rnf occ p x = rnf occ p ((x + 1) % p) := by
  unfold rnf
  rw [rdist_step F hx h, Nat.mod_add_mod]
  congr 1
  omega
/-- a place more is taken -/
theorem rdist_more {occ : List Nat} {p f x : Nat} (F2 : HasFree (occ ++ [f]) p) (hx : x < p) (hf : f < p) (hff : f ∉ occ) :
    rdist (occ ++ [f]) p x = if rnf occ p x = f then rdist occ p x + 1 + rdist (occ ++ [f]) p ((f + 1) % p) else rdist occ p x := by
  have F : HasFree occ p := ⟨f, hf, hff⟩
  have hp : 0 < p := by omega
  have h1 := (rdist_spec F hx).2
  by_cases e : rnf occ p x = f
  · rw [if_pos e]
    have h2 := (rdist_spec F2 (x := (f + 1) % p) (Nat.mod_lt _ hp)).2
    have key : ∀ i, ((f + 1) % p + i) % p = (x + (rdist occ p x + 1 + i)) % p := fun i => by
      have e2 : f = (x + rdist occ p x) % p := e.symm
      rw [e2, Nat.mod_add_mod, show (x + rdist occ p x) % p + 1 + i = (x + rdist occ p x) % p + (1 + i) by omega, Nat.mod_add_mod]
      congr 1
      omega
    refine rdist_is F2 hx ⟨fun j hj => ?_, ?_⟩
    · by_cases c : j < rdist occ p x
      · exact List.mem_append_left _ (h1.1 j c)
      · by_cases c2 : j = rdist occ p x
        · rw [c2]
          have e2 : (x + rdist occ p x) % p = f := e
          rw [e2]
          exact List.mem_append_right _ (List.mem_singleton.mpr rfl)
        · have := h2.1 (j - (rdist occ p x + 1)) (by omega)
          rw [key, show rdist occ p x + 1 + (j - (rdist occ p x + 1)) = j by omega] at this
          exact this
    · have := h2.2
      rw [key] at this
      exact this
  · rw [if_neg e]
    refine rdist_is F2 hx ⟨fun j hj => List.mem_append_left _ (h1.1 j hj), fun hm => ?_⟩
    rcases List.mem_append.mp hm with hm | hm
    · exact h1.2 hm
    · exact e (List.mem_singleton.mp hm)
theorem rnf_more {occ : List Nat} {p f x : Nat} (F2 : HasFree (occ ++ [f]) p) (hx : x < p) (hf : f < p) (hff : f ∉ occ) :
    rnf (occ ++ [f]) p x = if rnf occ p x = f then rnf (occ ++ [f]) p ((f + 1) % p) else rnf occ p x := by
  have e := rdist_more F2 hx hf hff
  by_cases c : rnf occ p x = f
  · rw [if_pos c] at e ⊢
    show (x + rdist (occ ++ [f]) p x) % p = ((f + 1) % p + rdist (occ ++ [f]) p ((f + 1) % p)) % p
    have e2 : f = (x + rdist occ p x) % p := c.symm
    rw [e]
    conv => rhs; arg 1; arg 1; rw [e2, Nat.mod_add_mod]
    rw [Nat.mod_add_mod]
    congr 1
    omega
  · rw [if_neg c] at e ⊢
    show (x + rdist (occ ++ [f]) p x) % p = _
    rw [e]
    rfl
theorem range_get {p x : Nat} (h : x < p) : (List.range p).getD x 0 = x := by
  rw [List.getD_eq_getElem?_getD, List.getElem?_range h]
  rfl
theorem fr_start {p : Nat} : Fr p (rnf [] p) (rdist [] p) (List.range p) := by
  have nil : ∀ x, x < p → rnf [] p x = x ∧ rdist [] p x = 0 := fun x hx =>
    ⟨(rnf_self ⟨x, hx, by simp⟩ hx).mpr (by simp), (rdist_zero ⟨x, hx, by simp⟩ hx).mpr (by simp)⟩
  refine ⟨List.length_range, fun x hx => by rw [range_get hx]; exact hx, fun x hx => ?_, fun x hx => by rw [range_get hx], fun x hx h => absurd (range_get hx) h, fun x hx => ?_, fun x hx => by rw [(nil x hx).2]; exact Nat.zero_le _⟩
  · rw [range_get hx, (nil x hx).1]
  · rw [(nil x hx).1]
    exact ⟨hx, (nil x hx).1, fun h => absurd rfl h⟩
theorem fr_more {occ ah : List Nat} {p f : Nat} (R : Fr p (rnf occ p) (rdist occ p) ah) (F2 : HasFree (occ ++ [f]) p) (hf : f < p) (hff : f ∉ occ) : Fr p (rnf (occ ++ [f]) p) (rdist (occ ++ [f]) p) (ah.set f ((f + 1) % p)) := by
  have F : HasFree occ p := ⟨f, hf, hff⟩
  have hp : 0 < p := by omega
  have hl := R.len
  have hmf : f ∈ occ ++ [f] := List.mem_append_right _ (List.mem_singleton.mpr rfl)
  have hne1 : (f + 1) % p ≠ f := fun e => by
    obtain ⟨g, hg, hgf⟩ := F2
    have : g ≠ f := fun e2 => hgf (e2 ▸ hmf)
    by_cases c : f + 1 < p
    · rw [Nat.mod_eq_of_lt c] at e; omega
    · have : f + 1 = p := by omega
      rw [this, Nat.mod_self] at e
      omega
  have key : ∀ y, (ah.set f ((f + 1) % p)).getD y 0 = if y = f then (f + 1) % p else ah.getD y 0 := fun y => by
    by_cases e : y = f
    · rw [if_pos e, e]
      exact getD_set_self (by omega)
    · rw [if_neg e]
      exact getD_set_ne (fun q => e q.symm)
  refine ⟨by rw [List.length_set, hl], fun y hy => ?_, fun y hy => ?_, fun y hy => ?_, fun y hy hne => ?_, fun y hy => ?_, fun y hy => Nat.le_of_lt (rdist_spec F2 hy).1⟩
  · rw [key y]
    by_cases e : y = f
    · rw [if_pos e]; exact Nat.mod_lt _ hp
    · rw [if_neg e]; exact R.lt y hy
  · rw [key y, rnf_self F2 hy]
    by_cases e : y = f
    · rw [if_pos e, e]
      exact ⟨fun h => absurd h hne1, fun h => absurd hmf h⟩
    · rw [if_neg e, R.eq y hy, rnf_self F hy]
      simp [e]
  · rw [key y]
    by_cases e : y = f
    · rw [if_pos e, e]
      exact (rnf_step F2 hf hmf).symm
    · rw [if_neg e, rnf_more F2 (R.lt y hy) hf hff, rnf_more F2 hy hf hff, R.on y hy]
  · rw [key y] at hne ⊢
    by_cases e : y = f
    · rw [if_pos e, e, rdist_step F2 hf hmf]
      exact Nat.lt_succ_self _
    · rw [if_neg e] at hne ⊢
      have h := R.ds y hy hne
      rw [rdist_more F2 (R.lt y hy) hf hff, rdist_more F2 hy hf hff, R.on y hy]
      split <;> omega
  · have h1 := rnf_free F2 hy
    have h2 := rnf_lt (occ := occ ++ [f]) (x := y) hp
    refine ⟨h2, (rnf_self F2 h2).mpr h1, fun hne => ?_⟩
    rw [(rdist_zero F2 h2).mpr h1]
    refine Nat.pos_of_ne_zero fun h0 => hne ?_
    exact (rnf_self F2 hy).mpr ((rdist_zero F2 hy).mp h0)
/-- where all stand around a ring -/
def whereR (p : Nat) (ws : List Nat) : List Nat := ws.foldl (fun acc w => acc ++ [rnf acc p w]) []
theorem whereR_snoc (p : Nat) (ws : List Nat) (w : Nat) : whereR p (ws ++ [w]) = whereR p ws ++ [rnf (whereR p ws) p w] := by
  unfold whereR
  rw [List.foldl_append]
  rfl
theorem whereR_len (p : Nat) : ∀ ws : List Nat, (whereR p ws).length = ws.length := by
  refine snoc_ind rfl fun r w ih => ?_
  rw [whereR_snoc, List.length_append, List.length_append, ih]
  rfl
theorem has_free {occ : List Nat} {p : Nat} (h : occ.length < p) : HasFree occ p := by
  refine Classical.byContradiction fun hn => ?_
  have hsub : List.range p ⊆ occ := fun x hx => by
    refine Classical.byContradiction fun hm => hn ⟨x, List.mem_range.mp hx, hm⟩
  have := (List.nodup_range (n := p)).length_le_of_subset hsub
  rw [List.length_range] at this
  omega
end Pk
namespace Pk
/-! ### trees: children, the queue -/
def chlK (ps : List Nat) (i v : Nat) : List Nat := ((List.range i).filter fun c => decide (ps.getD c 0 = v)).map (· + 1)
def chl (ps : List Nat) (v : Nat) : List Nat := chlK ps ps.length v
theorem chlK_zero (ps : List Nat) (v : Nat) : chlK ps 0 v = [] := rfl
theorem chlK_succ (ps : List Nat) (i v : Nat) : chlK ps (i + 1) v = if ps.getD i 0 = v then chlK ps i v ++ [i + 1] else chlK ps i v := by
  unfold chlK
  rw [List.range_succ, List.filter_append, List.map_append]
  by_cases h : ps.getD i 0 = v
  · rw [if_pos h, List.filter_cons, if_pos (decide_eq_true h)]
    rfl
  · rw [if_neg h, List.filter_cons, if_neg (by rw [decide_eq_false h]; decide)]
    simp
theorem mem_chl {ps : List Nat} {v x : Nat} : x ∈ chl ps v ↔ ∃ c, c < ps.length ∧ ps.getD c 0 = v ∧ c + 1 = x := by
  unfold chl chlK
  rw [List.mem_map]
  constructor
  · rintro ⟨c, hc, e⟩
    obtain ⟨h1, h2⟩ := List.mem_filter.mp hc
    exact ⟨c, List.mem_range.mp h1, of_decide_eq_true h2, e⟩
  · rintro ⟨c, h1, h2, e⟩
    exact ⟨c, List.mem_filter.mpr ⟨List.mem_range.mpr h1, decide_eq_true h2⟩, e⟩
theorem chl_nd (ps : List Nat) (v : Nat) : (chl ps v).Nodup := by
  unfold chl chlK
  refine List.Pairwise.map _ (fun a b hab e => hab (by omega)) (List.nodup_range.filter _)
theorem chl_len (ps : List Nat) (v : Nat) : (chl ps v).length = ps.count v := by
  unfold chl chlK
  rw [List.length_map]
  have e : ps = (List.range ps.length).map fun c => ps.getD c 0 := by
    refine List.ext_getElem? fun c => ?_
    rw [List.getElem?_map]
    by_cases h : c < ps.length
    · rw [List.getElem?_range h, getD_of h]
      rfl
    · rw [List.getElem?_eq_none (by omega), List.getElem?_eq_none (by rw [List.length_range]; omega)]
      rfl
  conv => rhs; rw [e]
  rw [List.count_eq_countP, List.countP_map, List.countP_eq_length_filter]
  congr 1
def qw (ps : List Nat) : Nat → List Nat
  | 0 => [0]
  | k + 1 => qw ps k ++ (if k < (qw ps k).length then chl ps ((qw ps k).getD k 0) else [])
theorem qw_yes {ps : List Nat} {k : Nat} (h : k < (qw ps k).length) : qw ps (k + 1) = qw ps k ++ chl ps ((qw ps k).getD k 0) := by
  show qw ps k ++ _ = _
  rw [if_pos h]
theorem qw_no {ps : List Nat} {k : Nat} (h : ¬ k < (qw ps k).length) : qw ps (k + 1) = qw ps k := by
  show qw ps k ++ _ = _
  rw [if_neg h, List.append_nil]
theorem qw_pre {ps : List Nat} {k : Nat} : ∀ j, qw ps k <+: qw ps (k + j)
  | 0 => List.prefix_rfl
  | j + 1 => (qw_pre j).trans (by show qw ps (k + j) <+: qw ps (k + j + 1); exact ⟨_, rfl⟩)
theorem qw_get {ps : List Nat} {k k' i : Nat} (h : k ≤ k') (hi : i < (qw ps k).length) : (qw ps k').getD i 0 = (qw ps k).getD i 0 := by
  obtain ⟨t, ht⟩ := qw_pre (ps := ps) (k := k) (k' - k)
  rw [show k + (k' - k) = k' by omega] at ht
  rw [← ht, List.getD_eq_getElem?_getD, List.getElem?_append_left hi, List.getD_eq_getElem?_getD]
theorem qw_stop {ps : List Nat} {k : Nat} (h : (qw ps k).length ≤ k) : ∀ j, qw ps (k + j) = qw ps k
  | 0 => rfl
  | j + 1 => by
    have e := qw_stop h j
    rw [show k + (j + 1) = (k + j) + 1 by omega, qw_no (by rw [e]; omega), e]
structure QI (ps : List Nat) (k : Nat) : Prop where
  nd : (qw ps k).Nodup
  le : ∀ x ∈ qw ps k, x ≤ ps.length
  up : ∀ x ∈ qw ps k, x ≠ 0 → ∃ j, j < k ∧ j < (qw ps k).length ∧ (qw ps k).getD j 0 = ps.getD (x - 1) 0
theorem nd_get {l : List Nat} (h : l.Nodup) {i j : Nat} (hi : i < l.length) (hj : j < l.length) (e : l.getD i 0 = l.getD j 0) : i = j := by
  rw [List.getD_eq_getElem?_getD, List.getD_eq_getElem?_getD, List.getElem?_eq_getElem hi, List.getElem?_eq_getElem hj] at e
  exact (List.getElem_inj h).mp e
theorem qi (ps : List Nat) : ∀ k, QI ps k
  | 0 => ⟨by simp [qw], fun x hx => by have : x = 0 := by simpa [qw] using hx
                                       omega, fun x hx h => absurd (by simpa [qw] using hx) h⟩
  | k + 1 => by
    obtain ⟨h1, h2, h3⟩ := qi ps k
    by_cases c : k < (qw ps k).length
    · have e := qw_yes c
      have old : ∀ j, j < (qw ps k).length → (qw ps (k + 1)).getD j 0 = (qw ps k).getD j 0 := fun j hj => qw_get (Nat.le_succ k) hj
      have hle : (qw ps k).length ≤ (qw ps (k + 1)).length := by rw [e, List.length_append]; omega
      refine ⟨?_, fun x hx => ?_, fun x hx h0 => ?_⟩
      · rw [e]
        refine List.nodup_append.mpr ⟨h1, chl_nd _ _, fun x hx y hy hxy => ?_⟩
        subst hxy
        obtain ⟨d, hd, hd2, rfl⟩ := mem_chl.mp hy
        obtain ⟨j, hj1, hj2, hj3⟩ := h3 (d + 1) hx (by omega)
        rw [show d + 1 - 1 = d by omega, hd2] at hj3
        have := nd_get h1 hj2 c hj3
        omega
      · rw [e] at hx
        rcases List.mem_append.mp hx with hx | hx
        · exact h2 x hx
        · obtain ⟨d, hd, _, rfl⟩ := mem_chl.mp hx
          omega
      · rw [e] at hx
        rcases List.mem_append.mp hx with hx | hx
        · obtain ⟨j, hj1, hj2, hj3⟩ := h3 x hx h0
          exact ⟨j, by omega, by omega, by rw [old j hj2, hj3]⟩
        · obtain ⟨d, hd, hd2, rfl⟩ := mem_chl.mp hx
          exact ⟨k, by omega, by omega, by rw [old k c, show d + 1 - 1 = d by omega, hd2]⟩
    · have e := qw_no c
      refine ⟨by rw [e]; exact h1, fun x hx => h2 x (by rw [← e]; exact hx), fun x hx h0 => ?_⟩
      rw [e] at hx ⊢
      obtain ⟨j, hj1, hj2, hj3⟩ := h3 x hx h0
      exact ⟨j, by omega, hj2, hj3⟩
theorem qw_len (ps : List Nat) (k : Nat) : (qw ps k).length ≤ ps.length + 1 := by
  have h := (qi ps k).nd.length_le_of_subset (l₂ := List.range (ps.length + 1)) fun x hx => List.mem_range.mpr (Nat.lt_succ_of_le ((qi ps k).le x hx))
  rw [List.length_range] at h
  exact h
/-- all that come from the root -/
def qAll (ps : List Nat) : List Nat := qw ps (ps.length + 1)
theorem qAll_stop {ps : List Nat} {k : Nat} (hk : k ≤ ps.length + 1) (h : (qw ps k).length ≤ k) : qw ps k = qAll ps := by
  have := qw_stop h (ps.length + 1 - k)
  rw [show k + (ps.length + 1 - k) = ps.length + 1 by omega] at this
  exact this.symm
theorem qAll_lt {ps : List Nat} {k : Nat} (h : k < (qAll ps).length) : k < (qw ps k).length := by
  refine Nat.lt_of_not_le fun hn => ?_
  have h1 := qw_len ps (ps.length + 1)
  have h2 : (qAll ps).length ≤ ps.length + 1 := h1
  have e := qAll_stop (ps := ps) (k := k) (by omega) hn
  rw [e] at hn
  omega
theorem qAll_get {ps : List Nat} {k i : Nat} (hk : k ≤ ps.length + 1) (hi : i < (qw ps k).length) : (qAll ps).getD i 0 = (qw ps k).getD i 0 := qw_get hk hi
theorem qAll_closed {ps : List Nat} {v x : Nat} (hv : v ∈ qAll ps) (hx : x ∈ chl ps v) : x ∈ qAll ps := by
  obtain ⟨j, hj, e⟩ := List.mem_iff_getElem.mp hv
  have h1 := qAll_lt hj
  have h2 := qw_len ps (ps.length + 1)
  have h3 : (qAll ps).length ≤ ps.length + 1 := h2
  have g := qAll_get (ps := ps) (k := j) (i := j) (by omega) h1
  rw [List.getD_eq_getElem?_getD, List.getElem?_eq_getElem hj] at g
  have g2 : (qw ps j).getD j 0 = v := by rw [← g]; exact e
  have e2 := qw_yes h1
  rw [g2] at e2
  obtain ⟨t, ht⟩ := qw_pre (ps := ps) (k := j + 1) (ps.length + 1 - (j + 1))
  rw [show j + 1 + (ps.length + 1 - (j + 1)) = ps.length + 1 by omega] at ht
  show x ∈ qw ps (ps.length + 1)
  rw [← ht, e2]
  exact List.mem_append_left _ (List.mem_append_right _ hx)
theorem qAll_root (ps : List Nat) : 0 ∈ qAll ps := by
  obtain ⟨t, ht⟩ := qw_pre (ps := ps) (k := 0) (ps.length + 1)
  rw [Nat.zero_add] at ht
  show 0 ∈ qw ps (ps.length + 1)
  rw [← ht]
  exact List.mem_append_left _ (by simp [qw])
/-- each car is beneath one that is nearer to the root -/
structure Ranked (ps : List Nat) (r : Nat → Nat) : Prop where
  le : ∀ c, c < ps.length → ps.getD c 0 ≤ ps.length
  lt : ∀ c, c < ps.length → r (ps.getD c 0) < r (c + 1)
theorem ranked_all {ps : List Nat} {r : Nat → Nat} (R : Ranked ps r) : ∀ v, v ≤ ps.length → v ∈ qAll ps := by
  have key : ∀ m v, r v ≤ m → v ≤ ps.length → v ∈ qAll ps := by
    intro m
    induction m with
    | zero =>
      intro v hr hv
      cases v with
      | zero => exact qAll_root ps
      | succ c =>
        have := R.lt c hv
        omega
    | succ m ih =>
      intro v hr hv
      cases v with
      | zero => exact qAll_root ps
      | succ c =>
        have h1 := R.lt c hv
        have h2 := ih (ps.getD c 0) (by omega) (R.le c hv)
        exact qAll_closed h2 (mem_chl.mpr ⟨c, hv, rfl, rfl⟩)
  exact fun v hv => key (r v) v (Nat.le_refl _) hv
structure Tr (ps : List Nat) : Prop where
  le : ∀ c, c < ps.length → ps.getD c 0 ≤ ps.length
  all : ∀ v, v ≤ ps.length → v ∈ qAll ps
theorem Tr.len {ps : List Nat} (T : Tr ps) : (qAll ps).length = ps.length + 1 := by
  have h := (List.nodup_range (n := ps.length + 1)).length_le_of_subset (l₂ := qAll ps) fun x hx => T.all x (Nat.le_of_lt_succ (List.mem_range.mp hx))
  rw [List.length_range] at h
  have h2 : (qAll ps).length ≤ ps.length + 1 := qw_len ps (ps.length + 1)
  omega
theorem Tr.perm {ps : List Nat} (T : Tr ps) : PermL (qAll ps) := by
  have h := qi ps (ps.length + 1)
  refine ⟨fun c hc => ?_, fun c d hc hd e => nd_get h.nd hc hd e⟩
  have h1 := h.le _ (List.mem_of_getElem? (getD_of hc))
  have h2 := T.len
  show (qAll ps).getD c 0 < _
  have h3 : (qAll ps).getD c 0 ≤ ps.length := h1
  omega
/-- the turn in which one is served -/
def turnsOf (ps : List Nat) : List Nat := stdOf (qAll ps)
def wishL (ps : List Nat) : List Nat := ps.map fun v => (turnsOf ps).getD v 0
theorem wishL_len (ps : List Nat) : (wishL ps).length = ps.length := by unfold wishL; rw [List.length_map]
theorem wishL_get {ps : List Nat} {c : Nat} (hc : c < ps.length) : (wishL ps).getD c 0 = (turnsOf ps).getD (ps.getD c 0) 0 := by
  unfold wishL
  rw [List.getD_eq_getElem?_getD, List.getElem?_map, getD_of hc]
  rfl
theorem turns_is {ps : List Nat} (T : Tr ps) {v : Nat} (hv : v ≤ ps.length) : (turnsOf ps).getD v 0 < ps.length + 1 ∧ (qAll ps).getD ((turnsOf ps).getD v 0) 0 = v := by
  obtain ⟨c, h1, h2, h3⟩ := stdOf_has T.perm (x := v) (by rw [T.len]; omega)
  rw [T.len] at h1
  show (stdOf (qAll ps)).getD v 0 < _ ∧ _
  unfold turnsOf
  rw [h3]
  exact ⟨h1, h2⟩
theorem turns_at {ps : List Nat} (T : Tr ps) {t : Nat} (ht : t < ps.length + 1) : (turnsOf ps).getD ((qAll ps).getD t 0) 0 = t := stdOf_at T.perm (by rw [T.len]; exact ht)
/-! ### the wishes' own tree -/
def sv (ws : List Nat) : Nat → List Nat
  | 0 => [0]
  | k + 1 => sv ws k ++ chl ws k
def treeL (ws : List Nat) : List Nat := ws.map fun w => (sv ws ws.length).getD w 0
theorem sv_len (ws : List Nat) : ∀ k, (sv ws k).length = 1 + lt ws k
  | 0 => by
    rw [lt_zero]
    rfl
  | k + 1 => by
    show (sv ws k ++ chl ws k).length = _
    rw [List.length_append, sv_len ws k, chl_len, lt_succ]
    omega
theorem sv_pre {ws : List Nat} {k : Nat} : ∀ j, sv ws k <+: sv ws (k + j)
  | 0 => List.prefix_rfl
  | j + 1 => (sv_pre j).trans (by show sv ws (k + j) <+: sv ws (k + j + 1); exact ⟨_, rfl⟩)
theorem sv_get {ws : List Nat} {k k' i : Nat} (h : k ≤ k') (hi : i < (sv ws k).length) : (sv ws k').getD i 0 = (sv ws k).getD i 0 := by
  obtain ⟨t, ht⟩ := sv_pre (ws := ws) (k := k) (k' - k)
  rw [show k + (k' - k) = k' by omega] at ht
  rw [← ht, List.getD_eq_getElem?_getD, List.getElem?_append_left hi, List.getD_eq_getElem?_getD]
theorem wishL_chl {ps : List Nat} (T : Tr ps) {t : Nat} (ht : t < ps.length + 1) : chl (wishL ps) t = chl ps ((qAll ps).getD t 0) := by
  unfold chl chlK
  rw [wishL_len]
  congr 1
  refine List.filter_congr fun c hc => ?_
  have hc2 := List.mem_range.mp hc
  rw [wishL_get hc2, decide_eq_decide]
  have h := turns_is T (T.le c hc2)
  constructor
  · intro e
    rw [← e, h.2]
  · intro e
    rw [e, turns_at T ht]
theorem sv_qw {ps : List Nat} (T : Tr ps) : ∀ k, k ≤ ps.length + 1 → sv (wishL ps) k = qw ps k
  | 0, _ => rfl
  | k + 1, hk => by
    have hlt : k < (qw ps k).length := qAll_lt (by rw [T.len]; omega)
    rw [qw_yes hlt]
    show sv (wishL ps) k ++ chl (wishL ps) k = _
    rw [sv_qw T k (by omega), wishL_chl T (by omega), qAll_get (by omega) hlt]
theorem wishL_full {ps : List Nat} (T : Tr ps) : Full (wishL ps) := by
  have key : ∀ i, i ≤ ps.length → i ≤ lt (wishL ps) i := fun i hi => by
    have h1 : i < (qw ps i).length := qAll_lt (by rw [T.len]; omega)
    rw [← sv_qw T i (by omega), sv_len] at h1
    omega
  have hl : ∀ x ∈ wishL ps, x < ps.length := by
    have h2 : lt (wishL ps) ps.length = (wishL ps).length := by
      have h3 := lt_le (wishL ps) ps.length
      have h4 := key ps.length (Nat.le_refl _)
      rw [wishL_len] at *
      omega
    unfold lt at h2
    rw [List.countP_eq_length] at h2
    intro x hx
    simpa using h2 x hx
  exact ⟨fun x hx => by rw [wishL_len]; exact hl x hx, fun i hi => key i (by rw [wishL_len] at hi; exact hi)⟩
theorem treeL_back {ps : List Nat} (T : Tr ps) : treeL (wishL ps) = ps := by
  have hF := wishL_full T
  refine List.ext_getElem? fun c => ?_
  unfold treeL
  rw [List.getElem?_map]
  by_cases hc : c < ps.length
  · rw [getD_of (ws := wishL ps) (c := c) (by rw [wishL_len]; exact hc), getD_of (ws := ps) hc]
    show some _ = some _
    congr 1
    have h1 := hF.lo _ (List.mem_of_getElem? (getD_of (ws := wishL ps) (c := c) (by rw [wishL_len]; exact hc)))
    have h2 : ps.length < (qw ps ps.length).length := qAll_lt (by rw [T.len]; omega)
    rw [wishL_len] at h1 ⊢
    rw [sv_qw T ps.length (by omega)]
    show (qw ps ps.length).getD ((wishL ps).getD c 0) 0 = _
    rw [← qAll_get (Nat.le_succ _) (by omega), wishL_get hc]
    exact (turns_is T (T.le c hc)).2
  · rw [List.getElem?_eq_none (by rw [wishL_len]; omega), List.getElem?_eq_none (by omega)]
    rfl
/-- some that never come to the root -/
theorem qAll_less {ps : List Nat} {S : List Nat} (h0 : 0 ∉ S) (hc : ∀ x ∈ S, ps.getD (x - 1) 0 ∈ S) {s : Nat} (hs : s ∈ S) (hsn : s ≤ ps.length) : (qAll ps).length ≤ ps.length := by
  have key : ∀ k, ∀ x ∈ qw ps k, x ∉ S := by
    intro k
    induction k with
    | zero =>
      intro x hx
      have : x = 0 := by simpa [qw] using hx
      subst this
      exact h0
    | succ k ih =>
      intro x hx
      by_cases c : k < (qw ps k).length
      · rw [qw_yes c] at hx
        rcases List.mem_append.mp hx with hx | hx
        · exact ih x hx
        · obtain ⟨d, hd, hd2, rfl⟩ := mem_chl.mp hx
          intro hm
          have h1 := hc (d + 1) hm
          rw [show d + 1 - 1 = d by omega, hd2] at h1
          exact ih _ (List.mem_of_getElem? (getD_of c)) h1
      · rw [qw_no c] at hx
        exact ih x hx
  have h := qi ps (ps.length + 1)
  have h1 : (s :: qAll ps).Nodup := List.nodup_cons.mpr ⟨fun hm => key _ s hm hs, h.nd⟩
  have h2 := h1.length_le_of_subset (l₂ := List.range (ps.length + 1)) fun x hx => by
    rcases List.mem_cons.mp hx with e | hx
    · subst e
      exact List.mem_range.mpr (by omega)
    · exact List.mem_range.mpr (Nat.lt_succ_of_le (h.le x hx))
  rw [List.length_range, List.length_cons] at h2
  omega
end Pk
namespace Pk
/-! ### the places that are taken -/
theorem lt_filter (ws : List Nat) (i : Nat) : lt ws i = ((List.range ws.length).filter fun c => decide (ws.getD c 0 < i)).length := by
  have e : ws = (List.range ws.length).map fun c => ws.getD c 0 := by
    refine List.ext_getElem? fun c => ?_
    rw [List.getElem?_map]
    by_cases h : c < ws.length
    · rw [List.getElem?_range h, getD_of h]
      rfl
    · rw [List.getElem?_eq_none (by omega), List.getElem?_eq_none (by rw [List.length_range]; omega)]
      rfl
  unfold lt
  conv => lhs; rw [e]
  rw [List.countP_map, List.countP_eq_length_filter]
  rfl
def wq (ws : List Nat) : Nat → Nat
  | 0 => 0
  | x + 1 => wq ws x + ws.count x - 1
def tkn (ws : List Nat) (p : Nat) : List Nat := (List.range p).filter fun x => decide (0 < wq ws x + ws.count x)
theorem tkn_succ (ws : List Nat) (p : Nat) : tkn ws (p + 1) = if 0 < wq ws p + ws.count p then tkn ws p ++ [p] else tkn ws p := by
  unfold tkn
  rw [List.range_succ, List.filter_append, List.filter_cons]
  by_cases h : 0 < wq ws p + ws.count p
  · rw [if_pos h, if_pos (decide_eq_true h)]
    rfl
  · rw [if_neg h, if_neg (by rw [decide_eq_false h]; decide)]
    simp
theorem tkn_len (ws : List Nat) (p : Nat) : (tkn ws p).length ≤ p := by
  unfold tkn
  have := List.length_filter_le (fun x => decide (0 < wq ws x + ws.count x)) (List.range p)
  rw [List.length_range] at this
  exact this
theorem wq_perm {ws ys : List Nat} (h : ys.Perm ws) : ∀ x, wq ys x = wq ws x
  | 0 => rfl
  | x + 1 => by
    show wq ys x + ys.count x - 1 = wq ws x + ws.count x - 1
    rw [wq_perm h x, h.count_eq]
theorem tkn_perm {ws ys : List Nat} (h : ys.Perm ws) (p : Nat) : tkn ys p = tkn ws p := by
  unfold tkn
  refine List.filter_congr fun x _ => ?_
  rw [wq_perm h x, h.count_eq]
theorem parks_lt_le {p : Nat} {ws L : List Nat} (P : Parks p ws L) (x : Nat) : lt L x ≤ lt ws x := by
  rw [lt_filter, lt_filter]
  refine List.Nodup.length_le_of_subset (List.Pairwise.filter _ List.nodup_range) fun c hc => ?_
  obtain ⟨h1, h2⟩ := List.mem_filter.mp hc
  have h3 := List.mem_range.mp h1
  have h4 := of_decide_eq_true h2
  rw [P.len] at h3
  have h5 := P.lo c h3
  exact List.mem_filter.mpr ⟨List.mem_range.mpr h3, decide_eq_true (by omega)⟩
theorem parks_lt_iff {p : Nat} {ws L : List Nat} (P : Parks p ws L) {x : Nat} : x ∈ L → lt L x < lt ws (x + 1) := fun hx => by
  obtain ⟨c, hc, e⟩ := List.mem_iff_getElem.mp hx
  have hg : L.getD c 0 = x := by rw [List.getD_eq_getElem?_getD, List.getElem?_eq_getElem hc]; exact e
  rw [P.len] at hc
  rw [lt_filter, lt_filter]
  have hnd : (c :: (List.range L.length).filter fun c => decide (L.getD c 0 < x)).Nodup := by
    refine List.nodup_cons.mpr ⟨fun hm => ?_, List.nodup_range.filter _⟩
    have := of_decide_eq_true (List.mem_filter.mp hm).2
    omega
  have h := hnd.length_le_of_subset (l₂ := (List.range ws.length).filter fun c => decide (ws.getD c 0 < x + 1)) fun d hd => by
    rcases List.mem_cons.mp hd with e | hd
    · subst e
      have := P.lo d hc
      exact List.mem_filter.mpr ⟨List.mem_range.mpr hc, decide_eq_true (by omega)⟩
    · obtain ⟨h1, h2⟩ := List.mem_filter.mp hd
      have h3 := List.mem_range.mp h1
      have h4 := of_decide_eq_true h2
      rw [P.len] at h3
      have h5 := P.lo d h3
      exact List.mem_filter.mpr ⟨List.mem_range.mpr h3, decide_eq_true (by omega)⟩
  rw [List.length_cons] at h
  omega
theorem parks_lt_mem {p : Nat} {ws L : List Nat} (P : Parks p ws L) {x : Nat} (h : lt L x < lt ws (x + 1)) : x ∈ L := by
  refine Classical.byContradiction fun hn => ?_
  have hle : lt ws (x + 1) ≤ lt L x := by
    rw [lt_filter, lt_filter]
    refine List.Nodup.length_le_of_subset (List.Pairwise.filter _ List.nodup_range) fun c hc => ?_
    obtain ⟨h1, h2⟩ := List.mem_filter.mp hc
    have h3 := List.mem_range.mp h1
    have h4 := of_decide_eq_true h2
    have hcL : c < L.length := by rw [P.len]; exact h3
    refine List.mem_filter.mpr ⟨List.mem_range.mpr hcL, decide_eq_true (Nat.lt_of_not_le fun hge => hn ?_)⟩
    by_cases e : L.getD c 0 = x
    · rw [← e]
      exact List.mem_of_getElem? (getD_of hcL)
    · obtain ⟨d, hd, e2⟩ := P.be c h3 x (by omega) (by omega)
      rw [← e2]
      exact List.mem_of_getElem? (getD_of (by omega))
  omega
theorem parks_nd {p : Nat} {ws L : List Nat} (P : Parks p ws L) : (L.filter fun x => decide (x < p)).Nodup := by
  have h1 : L.Pairwise fun a b => b < p → a ≠ b := by
    rw [List.pairwise_iff_getElem]
    intro i j hi hj hij hb e
    rw [P.len] at hi hj
    have g : ∀ k, (h : k < L.length) → L.getD k 0 = L[k] := fun k h => by rw [List.getD_eq_getElem?_getD, List.getElem?_eq_getElem h]; rfl
    have hiL : i < L.length := by rw [P.len]; exact hi
    have hjL : j < L.length := by rw [P.len]; exact hj
    refine P.ne j hj (by rw [g j hjL]; exact hb) i hij ?_
    rw [g i hiL, g j hjL]
    exact e
  refine (h1.filter _).imp_of_mem fun {a b} _ hb h => h (of_decide_eq_true (List.mem_filter.mp hb).2)
theorem parks_count {p : Nat} {ws L : List Nat} (P : Parks p ws L) {x : Nat} (hx : x < p) : L.count x = if x ∈ L then 1 else 0 := by
  have h1 := List.nodup_iff_count.mp (parks_nd P) x
  rw [List.count_filter (p := fun x => decide (x < p)) (decide_eq_true hx)] at h1
  by_cases h : x ∈ L
  · rw [if_pos h]
    have := List.count_pos_iff.mpr h
    omega
  · rw [if_neg h]
    exact List.count_eq_zero.mpr h
theorem wq_is {p : Nat} {ws L : List Nat} (P : Parks p ws L) : ∀ x, x ≤ p → wq ws x = lt ws x - lt L x
  | 0, _ => by rw [lt_zero, lt_zero]; rfl
  | x + 1, hx => by
    have ih := wq_is P x (by omega)
    have h1 := parks_lt_le P x
    have h2 := lt_succ ws x
    have h3 := lt_succ L x
    have h4 := parks_count P (x := x) (by omega)
    show wq ws x + ws.count x - 1 = _
    by_cases c : x ∈ L
    · rw [if_pos c] at h4
      omega
    · rw [if_neg c] at h4
      have h5 : ¬ lt L x < lt ws (x + 1) := fun h => c (parks_lt_mem P h)
      omega
theorem tkn_mem {p : Nat} {ws L : List Nat} (P : Parks p ws L) {x : Nat} : x ∈ tkn ws p ↔ x < p ∧ x ∈ L := by
  unfold tkn
  rw [List.mem_filter, List.mem_range, decide_eq_true_eq]
  constructor
  · rintro ⟨h1, h2⟩
    have h3 := wq_is P x (by omega)
    have h4 := lt_succ ws x
    have h5 := parks_lt_le P x
    exact ⟨h1, parks_lt_mem P (by omega)⟩
  · rintro ⟨h1, h2⟩
    have h3 := wq_is P x (by omega)
    have h4 := lt_succ ws x
    have h5 := parks_lt_le P x
    have h6 := parks_lt_iff P h2
    exact ⟨h1, by omega⟩
theorem tkn_perm_of {p : Nat} {ws L : List Nat} (P : Parks p ws L) : (tkn ws p).Perm (L.filter fun x => decide (x < p)) := by
  refine (List.perm_ext_iff_of_nodup ?_ (parks_nd P)).mpr fun x => ?_
  · unfold tkn
    exact List.nodup_range.filter _
  · rw [tkn_mem P, List.mem_filter, decide_eq_true_eq]
    exact And.comm
theorem tkn_rise (ws : List Nat) (p : Nat) : (tkn ws p).Pairwise (· ≤ ·) := by
  unfold tkn
  exact (List.pairwise_lt_range.imp fun h => Nat.le_of_lt h).filter _
/-! ### full wishes in another turn -/
theorem drv_perm {ws ys : List Nat} (h : ys.Perm ws) : drv ys = drv ws := by
  unfold drv
  rw [h.length_eq, h.sum_nat]
theorem sum_range0 (n : Nat) : ((((List.range n).sum : Nat)) : Int) = ((n : Int) * ((n : Int) - 1)) / 2 := by
  have h : ∀ n : Nat, 2 * (List.range n).sum = n * (n - 1) := by
    intro n
    induction n with
    | zero => rfl
    | succ n ih =>
      rw [List.range_succ, List.sum_append_nat]
      simp only [List.sum_cons, List.sum_nil]
      rw [Nat.mul_add, ih]
      cases n with
      | zero => rfl
      | succ m =>
        show (m + 1) * m + 2 * (m + 1 + 0) = (m + 2) * (m + 1)
        rw [Nat.add_zero, ← Nat.mul_comm (m + 1) 2, ← Nat.mul_add, Nat.mul_comm]
  have h1 := h n
  have h2 : (n : Int) * ((n : Int) - 1) = 2 * (((List.range n).sum : Nat) : Int) := by
    have h3 : (((2 * (List.range n).sum : Nat)) : Int) = ((n * (n - 1) : Nat) : Int) := by rw [h1]
    cases n with
    | zero => rfl
    | succ m =>
      rw [show ((m + 1 : Nat) : Int) - 1 = (m : Int) by omega]
      rw [show m + 1 - 1 = m by omega] at h3
      push_cast at h3 ⊢
      omega
  rw [h2]
  omega
theorem permL_sum {L : List Nat} (h : PermL L) : (((L.sum : Nat)) : Int) = ((L.length : Int) * ((L.length : Int) - 1)) / 2 := by
  have S := permL_st h
  have hp : L.Perm (List.range L.length) := by
    refine (List.perm_ext_iff_of_nodup S.nd List.nodup_range).mpr fun x => ?_
    rw [List.mem_range]
    constructor
    · exact S.lo x
    · intro hx
      obtain ⟨p, hp, e⟩ := st_has S hx
      rw [← e]
      exact List.mem_of_getElem? (getD_of hp)
  rw [hp.sum_nat]
  exact sum_range0 _
theorem full_drv {ws : List Nat} (F : Full ws) : (((whereL ws.length ws).sum : Nat) : Int) - ((ws.sum : Nat) : Int) = drv ws := by
  obtain ⟨P, L⟩ := full_perm F
  have h := permL_sum L
  rw [P.len] at h
  unfold drv
  rw [h]
theorem mem_end {n : Nat} {ws : List Nat} (hw : ∀ x ∈ ws, x < n) (hl : ws.length = n) : n ∈ whereL n ws ↔ ¬ Full ws := by
  have P := parks hw
  constructor
  · intro hm F
    obtain ⟨c, hc, e⟩ := List.mem_iff_getElem.mp hm
    have hg : (whereL n ws).getD c 0 = n := by rw [List.getD_eq_getElem?_getD, List.getElem?_eq_getElem hc]; exact e
    rw [P.len] at hc
    have := parks_all P hw (fun i hi => by have := F.no i (by omega); omega) c hc
    omega
  · intro hF
    refine Classical.byContradiction fun hm => hF ?_
    refine Full.of (fun x hx => by rw [hl]; exact hw x hx) fun i hi => ?_
    rw [hl] at hi ⊢
    refine parks_no P (fun c hc => ?_) i hi
    have h1 := P.hi c hc
    by_cases e : (whereL n ws).getD c 0 = n
    · exact absurd (by have k := List.mem_of_getElem? (getD_of (ws := whereL n ws) (c := c) (by rw [P.len]; exact hc)); rw [e] at k; exact k) hm
    · omega
end Pk
namespace Pk
/-! ### a street with a place behind its end -/
structure Sst (p : Nat) (occ : List Nat) (x y : Nat) : Prop where
  lo : x ≤ y
  hi : y ≤ p
  be : ∀ j, x ≤ j → j < y → j ∈ occ
  no : y < p → y ∉ occ
theorem stand_sst {p x : Nat} (occ : List Nat) (h : x ≤ p) : Sst p occ x (stand p occ x) := by
  obtain ⟨h1, h2, h3, h4⟩ := seek_spec occ (p - x) x
  have e : x + (p - x) = p := by omega
  rw [e] at h2 h4
  exact ⟨h1, h2, h3, h4⟩
theorem sst_uniq {p x y y' : Nat} {occ : List Nat} (h : Sst p occ x y) (h' : Sst p occ x y') : y = y' := by
  rcases Nat.lt_trichotomy y y' with c | c | c
  · exact absurd (h'.be y h.lo c) (h.no (by have := h'.hi; omega))
  · exact c
  · exact absurd (h.be y' h'.lo c) (h'.no (by have := h.hi; omega))
theorem stand_eq {p x y : Nat} {occ : List Nat} (hx : x ≤ p) (h : Sst p occ x y) : stand p occ x = y := sst_uniq (stand_sst occ hx) h
theorem stand_self {p x : Nat} {occ : List Nat} (hx : x ≤ p) : stand p occ x = x ↔ (x < p → x ∉ occ) := by
  constructor
  · intro h
    have := (stand_sst occ hx).no
    rw [h] at this
    exact this
  · intro h
    exact stand_eq hx ⟨Nat.le_refl _, hx, fun j h1 h2 => absurd h2 (Nat.not_lt.mpr h1), h⟩
theorem stand_idem {p x : Nat} {occ : List Nat} (hx : x ≤ p) : stand p occ (stand p occ x) = stand p occ x := (stand_self (stand_sst occ hx).hi).mpr (stand_sst occ hx).no
theorem stand_more {p f x : Nat} {occ : List Nat} (hx : x ≤ p) (hf : f < p) : stand p (occ ++ [f]) x = if stand p occ x = f then stand p (occ ++ [f]) (f + 1) else stand p occ x := by
  have S := stand_sst occ hx
  by_cases e : stand p occ x = f
  · rw [if_pos e]
    have S2 := stand_sst (p := p) (x := f + 1) (occ ++ [f]) (by omega)
    refine stand_eq hx ⟨by have := S.lo; have := S2.lo; omega, S2.hi, fun j h1 h2 => ?_, S2.no⟩
    by_cases c : j < f
    · exact List.mem_append_left _ (S.be j h1 (by omega))
    · by_cases c2 : j = f
      · rw [c2]
        exact List.mem_append_right _ (List.mem_singleton.mpr rfl)
      · exact S2.be j (by omega) h2
  · rw [if_neg e]
    refine stand_eq hx ⟨S.lo, S.hi, fun j h1 h2 => List.mem_append_left _ (S.be j h1 h2), fun h hm => ?_⟩
    rcases List.mem_append.mp hm with hm | hm
    · exact S.no h hm
    · exact e (List.mem_singleton.mp hm)
theorem stand_off {p x : Nat} {occ : List Nat} (hx : x ≤ p) : stand p (occ ++ [p]) x = stand p occ x := by
  have S := stand_sst occ hx
  refine stand_eq hx ⟨S.lo, S.hi, fun j h1 h2 => List.mem_append_left _ (S.be j h1 h2), fun h hm => ?_⟩
  rcases List.mem_append.mp hm with hm | hm
  · exact S.no h hm
  · have := List.mem_singleton.mp hm
    omega
def sdist (p : Nat) (occ : List Nat) (x : Nat) : Nat := stand p occ x - x
/-- steps ahead on a street -/
structure Frs (p : Nat) (occ ah : List Nat) : Prop where
  len : ah.length = p + 1
  lt : ∀ x, x ≤ p → ah.getD x 0 ≤ p
  eq : ∀ x, x ≤ p → (ah.getD x 0 = x ↔ stand p occ x = x)
  on : ∀ x, x ≤ p → stand p occ (ah.getD x 0) = stand p occ x
  gt : ∀ x, x ≤ p → x ≤ ah.getD x 0
theorem Frs.fr {p : Nat} {occ ah : List Nat} (R : Frs p occ ah) : Fr (p + 1) (stand p occ) (sdist p occ) ah := by
  refine ⟨R.len, fun x hx => Nat.lt_succ_of_le (R.lt x (by omega)), fun x hx => R.eq x (by omega), fun x hx => R.on x (by omega), fun x hx hne => ?_, fun x hx => ⟨Nat.lt_succ_of_le (stand_sst occ (by omega)).hi, stand_idem (by omega), fun hne => ?_⟩, fun x hx => ?_⟩
  · have h1 := R.gt x (by omega)
    have h2 := R.on x (by omega)
    have h3 := (stand_sst occ (R.lt x (by omega))).lo
    unfold sdist
    rw [h2]
    rw [h2] at h3
    omega
  · unfold sdist
    rw [stand_idem (by omega)]
    have := (stand_sst (p := p) (x := x) occ (by omega)).lo
    omega
  · unfold sdist
    have := (stand_sst (p := p) (x := x) occ (by omega)).hi
    omega
theorem fr_frs {p : Nat} {occ ah : List Nat} (F : Fr (p + 1) (stand p occ) (sdist p occ) ah) : Frs p occ ah := by
  refine ⟨F.len, fun x hx => Nat.le_of_lt_succ (F.lt x (by omega)), fun x hx => F.eq x (by omega), fun x hx => F.on x (by omega), fun x hx => ?_⟩
  by_cases e : ah.getD x 0 = x
  · omega
  · have h1 := F.ds x (by omega) e
    have h2 := F.on x (by omega)
    unfold sdist at h1
    rw [h2] at h1
    omega
theorem frs_start {p : Nat} : Frs p [] (List.range (p + 1)) := by
  have g : ∀ x, x ≤ p → (List.range (p + 1)).getD x 0 = x := fun x hx => range_get (by omega)
  refine ⟨List.length_range, fun x hx => by rw [g x hx]; exact hx, fun x hx => ?_, fun x hx => by rw [g x hx], fun x hx => by rw [g x hx]; exact Nat.le_refl _⟩
  rw [g x hx, stand_self hx]
  simp
theorem frs_more {p f : Nat} {occ ah : List Nat} (R : Frs p occ ah) (hf : f < p) (hff : f ∉ occ) : Frs p (occ ++ [f]) (ah.set f (f + 1)) := by
  have hl := R.len
  have key : ∀ y, (ah.set f (f + 1)).getD y 0 = if y = f then f + 1 else ah.getD y 0 := fun y => by
    by_cases e : y = f
    · rw [if_pos e, e]
      exact getD_set_self (by omega)
    · rw [if_neg e]
      exact getD_set_ne (fun q => e q.symm)
  have hsf : stand p (occ ++ [f]) f = stand p (occ ++ [f]) (f + 1) := by
    have e := stand_more (p := p) (x := f) (occ := occ) (by omega) hf
    rw [if_pos ((stand_self (by omega)).mpr fun _ => hff)] at e
    exact e
  refine ⟨by rw [List.length_set, hl], fun y hy => ?_, fun y hy => ?_, fun y hy => ?_, fun y hy => ?_⟩
  · rw [key y]
    by_cases e : y = f
    · rw [if_pos e]; omega
    · rw [if_neg e]; exact R.lt y hy
  · rw [key y]
    by_cases e : y = f
    · rw [if_pos e, e, hsf]
      have := (stand_sst (p := p) (x := f + 1) (occ ++ [f]) (by omega)).lo
      omega
    · rw [if_neg e, R.eq y hy, stand_self hy, stand_self hy]
      simp [e]
  · rw [key y]
    by_cases e : y = f
    · rw [if_pos e, e]
      exact hsf.symm
    · rw [if_neg e, stand_more (R.lt y hy) hf, stand_more hy hf, R.on y hy]
  · rw [key y]
    by_cases e : y = f
    · rw [if_pos e]; omega
    · rw [if_neg e]; exact R.gt y hy
theorem frs_off {p : Nat} {occ ah : List Nat} (R : Frs p occ ah) : Frs p (occ ++ [p]) ah :=
  ⟨R.len, R.lt, fun x hx => by rw [stand_off hx]; exact R.eq x hx, fun x hx => by rw [stand_off (R.lt x hx), stand_off hx]; exact R.on x hx, R.gt⟩
end Pk
namespace Pk
/-! ### the empty place of a ring -/
theorem whereR_take (p : Nat) (ws : List Nat) : ∀ c, c ≤ ws.length → whereR p (ws.take c) = (whereR p ws).take c := by
  refine snoc_ind (P := fun ws => ∀ c, c ≤ ws.length → whereR p (ws.take c) = (whereR p ws).take c) (fun c hc => ?_) (fun r w ih c hc => ?_) ws
  · have : c = 0 := Nat.le_zero.mp hc
    subst this
    rfl
  · by_cases e : c ≤ r.length
    · rw [List.take_append_of_le_length e, ih c e, whereR_snoc, List.take_append_of_le_length (by rw [whereR_len]; exact e)]
    · rw [List.length_append, List.length_singleton] at hc
      have e2 : c = (r ++ [w]).length := by rw [List.length_append, List.length_singleton]; omega
      rw [e2, List.take_length]
      rw [List.take_of_length_le (by rw [whereR_len]; exact Nat.le_refl _)]
theorem whereR_get (p : Nat) {ws : List Nat} {c : Nat} (h : c < ws.length) : (whereR p ws).getD c 0 = rnf ((whereR p ws).take c) p (ws.getD c 0) := by
  have t := whereR_take p ws (c + 1) h
  rw [List.take_add_one, getD_of h] at t
  have t2 : whereR p (ws.take c ++ [ws.getD c 0]) = (whereR p ws).take (c + 1) := t
  rw [whereR_snoc, whereR_take p ws c (Nat.le_of_lt h)] at t2
  have hl := whereR_len p ws
  have g : ((whereR p ws).take (c + 1))[c]? = some (rnf ((whereR p ws).take c) p (ws.getD c 0)) := by
    rw [← t2, List.getElem?_append_right (by rw [List.length_take]; omega), List.length_take, show c - min c (whereR p ws).length = 0 by omega]
    rfl
  rw [List.getElem?_take_of_lt (Nat.lt_succ_self c)] at g
  rw [List.getD_eq_getElem?_getD, g]
  rfl
theorem whereR_lt {p : Nat} (hp : 0 < p) (ws : List Nat) : ∀ x ∈ whereR p ws, x < p := fun x hx => by
  obtain ⟨c, hc, e⟩ := List.mem_iff_getElem.mp hx
  have hl := whereR_len p ws
  have g := whereR_get p (ws := ws) (c := c) (by omega)
  rw [List.getD_eq_getElem?_getD, List.getElem?_eq_getElem hc] at g
  have g2 : (whereR p ws)[c] = rnf ((whereR p ws).take c) p (ws.getD c 0) := g
  rw [← e, g2]
  exact rnf_lt hp
theorem whereR_nd {p : Nat} {ws : List Nat} (hw : ∀ x ∈ ws, x < p) (hl : ws.length ≤ p) : (whereR p ws).Nodup := by
  rw [List.Nodup, List.pairwise_iff_getElem]
  intro i j hi hj hij e
  have hlen := whereR_len p ws
  have g := whereR_get p (ws := ws) (c := j) (by omega)
  rw [List.getD_eq_getElem?_getD, List.getElem?_eq_getElem hj] at g
  have g2 : (whereR p ws)[j] = rnf ((whereR p ws).take j) p (ws.getD j 0) := g
  have hf := rnf_free (occ := (whereR p ws).take j) (p := p) (x := ws.getD j 0) (has_free (by rw [List.length_take]; omega)) (hw _ (List.mem_of_getElem? (getD_of (by omega))))
  rw [← g2, ← e] at hf
  refine hf ((mem_take_iff (by omega)).mpr ⟨i, hij, ?_⟩)
  rw [List.getD_eq_getElem?_getD, List.getElem?_eq_getElem hi]
  rfl
/-- turned so that e is the last -/
def rot (n e x : Nat) : Nat := (x + n - e) % (n + 1)
theorem rot_lt {n e x : Nat} (he : e ≤ n) (hx : x < n + 1) (hne : x ≠ e) : rot n e x < n := by
  unfold rot
  rw [turn_val hx he]
  split <;> omega
theorem rot_succ {n e x : Nat} (he : e ≤ n) (hx : x < n + 1) (hne : x ≠ e) : rot n e ((x + 1) % (n + 1)) = rot n e x + 1 := by
  have h1 : (x + 1) % (n + 1) < n + 1 := Nat.mod_lt _ (Nat.succ_pos n)
  unfold rot
  rw [turn_val h1 he, turn_val hx he]
  by_cases c : x + 1 < n + 1
  · rw [Nat.mod_eq_of_lt c]
    split <;> split <;> omega
  · have e2 : x + 1 = n + 1 := by omega
    rw [e2, Nat.mod_self]
    split <;> split <;> omega
theorem rot_inj {n e x y : Nat} (he : e ≤ n) (hx : x < n + 1) (hy : y < n + 1) (h : rot n e x = rot n e y) : x = y := by
  unfold rot at h
  rw [turn_val hx he, turn_val hy he] at h
  split at h <;> split at h <;> omega
theorem lt_mono2 {A B : List Nat} (hl : A.length = B.length) (h : ∀ c, c < A.length → A.getD c 0 ≤ B.getD c 0) (i : Nat) : lt B i ≤ lt A i := by
  rw [lt_filter, lt_filter]
  refine List.Nodup.length_le_of_subset (List.Pairwise.filter _ List.nodup_range) fun c hc => ?_
  obtain ⟨h1, h2⟩ := List.mem_filter.mp hc
  have h3 := List.mem_range.mp h1
  have h4 := of_decide_eq_true h2
  have h5 := h c (by omega)
  exact List.mem_filter.mpr ⟨List.mem_range.mpr (by omega), decide_eq_true (by omega)⟩
theorem lt_perm_ge {B : List Nat} (S : IsSt B) {i : Nat} (hi : i ≤ B.length) : i ≤ lt B i := by
  unfold lt
  rw [List.countP_eq_length_filter]
  have h := (List.nodup_range (n := i)).length_le_of_subset (l₂ := B.filter fun x => decide (x < i)) fun x hx => by
    have hx2 := List.mem_range.mp hx
    obtain ⟨p, hp, e⟩ := st_has S (c := x) (by omega)
    exact List.mem_filter.mpr ⟨by rw [← e]; exact List.mem_of_getElem? (getD_of hp), decide_eq_true hx2⟩
  rw [List.length_range] at h
  exact h
/-- a place that stays free -/
theorem ring_rot {ws : List Nat} {e : Nat} (hw : ∀ x ∈ ws, x < ws.length + 1) (he : e ≤ ws.length) (hne : e ∉ whereR (ws.length + 1) ws) {c : Nat} (hc : c < ws.length) :
    ws.getD c 0 ≠ e ∧ rot ws.length e (ws.getD c 0) ≤ rot ws.length e ((whereR (ws.length + 1) ws).getD c 0) := by
  have hl := whereR_len (ws.length + 1) ws
  have hwc := hw _ (List.mem_of_getElem? (getD_of hc))
  have g := whereR_get (ws.length + 1) hc
  have sp := (rdist_spec (occ := (whereR (ws.length + 1) ws).take c) (p := ws.length + 1) (x := ws.getD c 0) (has_free (by rw [List.length_take]; omega)) hwc).2
  have hLm : (whereR (ws.length + 1) ws).getD c 0 ∈ whereR (ws.length + 1) ws := List.mem_of_getElem? (getD_of (by omega))
  generalize hd : rdist ((whereR (ws.length + 1) ws).take c) (ws.length + 1) (ws.getD c 0) = d at sp
  have g2 : (whereR (ws.length + 1) ws).getD c 0 = (ws.getD c 0 + d) % (ws.length + 1) := by rw [g]; unfold rnf; rw [hd]
  have nh : ∀ j, j ≤ d → (ws.getD c 0 + j) % (ws.length + 1) ≠ e := fun j hj q => by
    by_cases c2 : j < d
    · have := sp.1 j c2
      rw [q] at this
      exact hne (List.mem_of_mem_take this)
    · have : j = d := by omega
      subst this
      rw [← g2] at q
      exact hne (q ▸ hLm)
  have key : ∀ j, j ≤ d → rot ws.length e ((ws.getD c 0 + j) % (ws.length + 1)) = rot ws.length e (ws.getD c 0) + j := by
    intro j
    induction j with
    | zero => intro _; rw [Nat.add_zero, Nat.mod_eq_of_lt hwc]; rfl
    | succ j ih =>
      intro hj
      have h1 := rot_succ he (Nat.mod_lt (ws.getD c 0 + j) (Nat.succ_pos ws.length)) (nh j (by omega))
      rw [Nat.mod_add_mod] at h1
      rw [show ws.getD c 0 + (j + 1) = ws.getD c 0 + j + 1 by omega, h1, ih (by omega)]
      omega
  have h0 := nh 0 (Nat.zero_le _)
  rw [Nat.add_zero, Nat.mod_eq_of_lt hwc] at h0
  refine ⟨h0, ?_⟩
  rw [g2, key d (Nat.le_refl _)]
  omega
theorem getD_map {A : List Nat} {f : Nat → Nat} {c : Nat} (h : c < A.length) : (A.map f).getD c 0 = f (A.getD c 0) := by
  rw [List.getD_eq_getElem?_getD, List.getElem?_map, getD_of h]
  rfl
theorem ring_full {ws : List Nat} {e : Nat} (hw : ∀ x ∈ ws, x < ws.length + 1) (he : e ≤ ws.length) (hne : e ∉ whereR (ws.length + 1) ws) : Full (ws.map (rot ws.length e)) := by
  have hl := whereR_len (ws.length + 1) ws
  have hlt := whereR_lt (Nat.succ_pos ws.length) ws
  have hnd := whereR_nd hw (by omega)
  have S : IsSt ((whereR (ws.length + 1) ws).map (rot ws.length e)) := by
    refine ⟨fun x hx => ?_, ?_⟩
    · obtain ⟨y, hy, rfl⟩ := List.mem_map.mp hx
      rw [List.length_map, hl]
      exact rot_lt he (hlt y hy) fun q => hne (q ▸ hy)
    · refine List.Pairwise.map (R := fun a b => a ≠ b ∧ a < ws.length + 1 ∧ b < ws.length + 1) _ (fun a b hab e2 => hab.1 (rot_inj he hab.2.1 hab.2.2 e2)) ?_
      exact List.Pairwise.imp_of_mem (fun {a b} ha hb hab => ⟨hab, hlt a ha, hlt b hb⟩) hnd
  refine ⟨fun x hx => ?_, fun i hi => ?_⟩
  · obtain ⟨y, hy, rfl⟩ := List.mem_map.mp hx
    obtain ⟨c, hc, e2⟩ := List.mem_iff_getElem.mp hy
    have h := (ring_rot hw he hne hc).1
    rw [List.getD_eq_getElem?_getD, List.getElem?_eq_getElem hc] at h
    have h2 : ws[c] ≠ e := h
    rw [List.length_map]
    exact rot_lt he (hw y hy) (by rw [← e2]; exact h2)
  · rw [List.length_map] at hi
    have h1 := lt_perm_ge S (i := i) (by rw [List.length_map, hl]; exact hi)
    have h2 := lt_mono2 (A := ws.map (rot ws.length e)) (B := (whereR (ws.length + 1) ws).map (rot ws.length e)) (by rw [List.length_map, List.length_map, hl]) (fun c hc => ?_) i
    · omega
    · rw [List.length_map] at hc
      rw [getD_map hc, getD_map (by omega)]
      exact (ring_rot hw he hne hc).2
theorem empty_of_full {ws : List Nat} {e : Nat} (hw : ∀ x ∈ ws, x < ws.length + 1) (he : e ≤ ws.length) (F : Full (ws.map (rot ws.length e))) : EmptyIs ws e := by
  have key : ∀ i, i ≤ ws.length → i + lt ws (e + 1) ≤ lt ws (e + 1 + i) + lt ws (i + e - ws.length) := fun i hi => by
    have h1 := lt_turn hw he i hi
    have h2 := F.up i (by rw [List.length_map]; exact hi)
    have h3 : lt (ws.map (rot ws.length e)) i = lt (ws.map fun w => (w + ws.length - e) % (ws.length + 1)) i := rfl
    omega
  have hall : ∀ j, ws.length + 1 ≤ j → lt ws j = ws.length := fun j hj => lt_all fun x hx => by have := hw x hx; omega
  have up : ∀ j, j ≤ e → hgt ws (e + 1) < hgt ws j := fun j hj => by
    have h1 := key (j + ws.length - e) (by omega)
    rw [hall (e + 1 + (j + ws.length - e)) (by omega), show j + ws.length - e + e - ws.length = j by omega] at h1
    unfold hgt
    omega
  refine ⟨he, ?_, up, fun j hj => ?_⟩
  · have := up 0 (Nat.zero_le _)
    have e0 : hgt ws 0 = 0 := by unfold hgt; rw [lt_zero]; rfl
    omega
  · by_cases c : j ≤ e
    · exact Int.le_of_lt (up j c)
    · have h1 := key (j - (e + 1)) (by omega)
      rw [show e + 1 + (j - (e + 1)) = j by omega, show j - (e + 1) + e - ws.length = 0 by omega, lt_zero] at h1
      unfold hgt
      omega
theorem empty_uniq {ws : List Nat} {e e' : Nat} (E : EmptyIs ws e) (E' : EmptyIs ws e') : e = e' := by
  rcases Nat.lt_trichotomy e e' with c | c | c
  · have h1 := E'.up (e + 1) (by omega)
    have h2 := E.lo (e' + 1) (by have := E'.lt; omega)
    omega
  · exact c
  · have h1 := E.up (e' + 1) (by omega)
    have h2 := E'.lo (e + 1) (by have := E.lt; omega)
    omega
/-- the place that is left -/
theorem ring_empty {ws : List Nat} (hw : ∀ x ∈ ws, x < ws.length + 1) : ∃ e, e ≤ ws.length ∧ e ∉ whereR (ws.length + 1) ws ∧ e = emptyOf ws := by
  obtain ⟨e, he, hne⟩ := has_free (occ := whereR (ws.length + 1) ws) (p := ws.length + 1) (by rw [whereR_len]; omega)
  exact ⟨e, by omega, hne, empty_uniq (empty_of_full hw (by omega) (ring_full hw (by omega) hne)) (emptyOf_is hw)⟩
theorem ring_sum {ws : List Nat} (hw : ∀ x ∈ ws, x < ws.length + 1) : ((((ws.length + 1 : Nat)) : Int) * ((((ws.length + 1 : Nat)) : Int) - 1)) / 2 - (((whereR (ws.length + 1) ws).sum : Nat) : Int) = ((emptyOf ws : Nat) : Int) := by
  obtain ⟨e, he, hne, rfl⟩ := ring_empty hw
  have hl := whereR_len (ws.length + 1) ws
  have hnd : (emptyOf ws :: whereR (ws.length + 1) ws).Nodup := List.nodup_cons.mpr ⟨hne, whereR_nd hw (by omega)⟩
  have S : IsSt (emptyOf ws :: whereR (ws.length + 1) ws) := ⟨fun x hx => by
    rw [List.length_cons, hl]
    rcases List.mem_cons.mp hx with q | hx
    · omega
    · exact whereR_lt (Nat.succ_pos _) ws x hx, hnd⟩
  have hp : (emptyOf ws :: whereR (ws.length + 1) ws).Perm (List.range (ws.length + 1)) := by
    refine (List.perm_ext_iff_of_nodup hnd List.nodup_range).mpr fun x => ?_
    rw [List.mem_range]
    have hS : (emptyOf ws :: whereR (ws.length + 1) ws).length = ws.length + 1 := by rw [List.length_cons, hl]
    constructor
    · intro hx
      have := S.lo x hx
      omega
    · intro hx
      obtain ⟨p, hp, e⟩ := st_has S (c := x) (by omega)
      rw [← e]
      exact List.mem_of_getElem? (getD_of hp)
  have hs := hp.sum_nat
  rw [List.sum_cons] at hs
  rw [← sum_range0, ← hs]
  omega
/-! ### turned by any number -/
def turnI (ws : List Nat) (by_ : Int) : List Nat := ws.map fun (w : Nat) => (((w : Int) + by_) % ((ws.length : Int) + 1)).toNat
theorem turnI_len (ws : List Nat) (b : Int) : (turnI ws b).length = ws.length := by unfold turnI; rw [List.length_map]
theorem turnI_lt (ws : List Nat) (b : Int) : ∀ x ∈ turnI ws b, x < ws.length + 1 := fun x hx => by
  unfold turnI at hx
  obtain ⟨w, _, rfl⟩ := List.mem_map.mp hx
  have h1 := Int.emod_nonneg ((w : Int) + b) (show ((ws.length : Int) + 1) ≠ 0 by omega)
  have h2 := Int.emod_lt_of_pos ((w : Int) + b) (show (0 : Int) < (ws.length : Int) + 1 by omega)
  omega
/-- which place it turns to the last -/
def lastOf (n : Nat) (b : Int) : Nat := (((n : Int) - b) % ((n : Int) + 1)).toNat
theorem lastOf_le (n : Nat) (b : Int) : lastOf n b ≤ n := by
  have h1 := Int.emod_nonneg ((n : Int) - b) (show ((n : Int) + 1) ≠ 0 by omega)
  have h2 := Int.emod_lt_of_pos ((n : Int) - b) (show (0 : Int) < (n : Int) + 1 by omega)
  unfold lastOf
  omega
theorem lastOf_is (n : Nat) (b : Int) : ∃ k : Int, (n : Int) - b = (lastOf n b : Int) + k * ((n : Int) + 1) := by
  have h1 := Int.emod_nonneg ((n : Int) - b) (show ((n : Int) + 1) ≠ 0 by omega)
  refine ⟨((n : Int) - b) / ((n : Int) + 1), ?_⟩
  have h3 := Int.emod_add_mul_ediv ((n : Int) - b) ((n : Int) + 1)
  unfold lastOf
  rw [Int.toNat_of_nonneg h1]
  rw [Int.mul_comm] at h3
  omega
theorem turnI_rot (ws : List Nat) (b : Int) : turnI ws b = ws.map (rot ws.length (lastOf ws.length b)) := by
  unfold turnI
  refine List.map_congr_left fun w _ => ?_
  obtain ⟨k, hk⟩ := lastOf_is ws.length b
  have hle := lastOf_le ws.length b
  unfold rot
  have e1 : ((w : Int) + b) % ((ws.length : Int) + 1) = (((w + ws.length - lastOf ws.length b : Nat) : Int)) % ((ws.length : Int) + 1) := by
    have e2 : ((w + ws.length - lastOf ws.length b : Nat) : Int) = (w : Int) + b + k * ((ws.length : Int) + 1) := by omega
    rw [e2, Int.add_mul_emod_self_right]
  rw [e1]
  rw [show ((ws.length : Int) + 1) = ((ws.length + 1 : Nat) : Int) by omega, ← Int.natCast_emod, Int.toNat_natCast]
theorem turnI_full {ws : List Nat} (hw : ∀ x ∈ ws, x < ws.length + 1) (b : Int) : Full (turnI ws b) ↔ lastOf ws.length b = emptyOf ws := by
  rw [turnI_rot]
  constructor
  · intro F
    exact empty_uniq (empty_of_full hw (lastOf_le _ _) F) (emptyOf_is hw)
  · intro e
    rw [e]
    exact full_of_empty hw (emptyOf_is hw)
theorem lastOf_iff {n e : Nat} (he : e ≤ n) (b : Int) : lastOf n b = e ↔ (b - ((n : Int) - (e : Int))) % ((n : Int) + 1) = 0 := by
  obtain ⟨k, hk⟩ := lastOf_is n b
  have hle := lastOf_le n b
  constructor
  · intro h
    rw [h] at hk
    have : b - ((n : Int) - (e : Int)) = -k * ((n : Int) + 1) := by
      rw [Int.neg_mul]
      omega
    rw [this, Int.mul_emod_left]
  · intro h
    obtain ⟨m, hm⟩ := Int.dvd_of_emod_eq_zero h
    have h1 : (lastOf n b : Int) - (e : Int) = (-(k + m)) * ((n : Int) + 1) := by
      rw [Int.neg_mul, Int.add_mul]
      rw [Int.mul_comm m]
      omega
    by_cases z : k + m = 0
    · rw [z] at h1
      simp at h1
      omega
    · exfalso
      rcases Int.lt_or_gt_of_ne z with c | c
      · have : ((n : Int) + 1) ≤ (-(k + m)) * ((n : Int) + 1) := by
          have := Int.mul_le_mul_of_nonneg_right (show (1 : Int) ≤ -(k + m) by omega) (show (0 : Int) ≤ (n : Int) + 1 by omega)
          rw [Int.one_mul] at this
          exact this
        omega
      · have : (-(k + m)) * ((n : Int) + 1) ≤ -((n : Int) + 1) := by
          have := Int.mul_le_mul_of_nonneg_right (show -(k + m) ≤ (-1 : Int) by omega) (show (0 : Int) ≤ (n : Int) + 1 by omega)
          have e1 : (-1 : Int) * ((n : Int) + 1) = -((n : Int) + 1) := by omega
          rw [e1] at this
          exact this
        omega
theorem full_empty {ws : List Nat} (F : Full ws) : emptyOf ws = ws.length := by
  have hw : ∀ x ∈ ws, x < ws.length + 1 := fun x hx => Nat.lt_succ_of_lt (F.lo x hx)
  refine empty_uniq (emptyOf_is hw) (empty_of_full hw (Nat.le_refl _) ?_)
  have e : ws.map (rot ws.length ws.length) = ws := by
    have : ws.map (rot ws.length ws.length) = ws.map id := List.map_congr_left fun x hx => by
      unfold rot
      rw [show x + ws.length - ws.length = x by omega, Nat.mod_eq_of_lt (hw x hx)]
      rfl
    rw [this, List.map_id]
  rw [e]
  exact F
end Pk
namespace Pk
open PySem PySem.Spec PyProof.Rows L2 Evl He
open SX (S)
/-! ### classes of one's own: made, asked -/
def clsBody : Stmt → List Stmt
  | .ClassDef _ _ _ body _ _ _ _ _ _ _ => body
  | _ => []
/-- an __init__ -/
abbrev MeP (K : PySem.W.Frag) (C qual : Str) (st : Stmt) (fd : FuncData) : Prop := FunD K "__init__" qual (defArgs st) (defBody st) (defScope st) [] [] (ma K (ga K C) "__init__") fd
theorem MeP.ok {P : Program} {w : World} {K : PySem.W.Frag} {mg : Str → Option Value} {base : Heap} {C qual : Str} {st : Stmt} {fd : FuncData} {N ps : List Str} {k : Nat} {sp : Sp} (F : MeP K C qual st fd) (S : FnScope N ps (defScope st)) (len : ∀ vs H Q E, sp vs H Q E → vs.length = ps.length)
    (hbody : ∀ (cdv : Value) (A : Around) (outer : List Env) (s : Shared) (H : Hp) (vs : List V) (Q : VK) (E : XK), Room k (A.deeper (envOfC qual (defScope st) s.heap.objs.size (ma K (ga K C) "__init__") cdv)) → sp vs H Q E →
      ∃ t : {t : TS // PSs (cxOf CX0 P w K mg base N qual (defScope st) (ma K (ga K C) "__init__") cdv A outer s H E).nox (defBody st) t}, t.1 { nx := fun _ H' => Q .non H', rt := Q } (start N vs) H) : FnOk P w K mg base CX0 (k + 1) (ma K (ga K C) "__init__") fd ps sp :=
  FunD.ok F S len fun cdv A outer s H vs Q E hr hsp => by
    obtain ⟨t, q⟩ := hbody cdv A outer s H vs Q E hr hsp
    exact ⟨t.1, t.2.nox, q⟩
/-- a field, the written part told (within a comprehension) -/
theorem pe_fldK {X : Cx} {K : PySem.W.Frag} {e : Expr} {f : Str} {pos : Pos} {ta : TE} (hK : X.K = K) (he : PE X e ta) (hb : attributeBase e f X.env (eval e X.env) = eval e X.env) : PE X (.Attribute e f pos) (tFld K ta f) := by
  subst hK
  exact pe_fld he hb
structure MkF (P : Program) (w : World) (K : PySem.W.Frag) (mg : Str → Option Value) (base : Heap) (x : Str) (k : Nat) (ps : List Str) (sp : Sp) (fd : FuncData) : Prop where
  of ::
  mk : Mk K (ga K x) (ma K (ga K x) "__init__")
  ok : FnOk P w K mg base CX0 k (ma K (ga K x) "__init__") fd ps sp
  gl : mg x = some (.ref (ga K x))
  bd : Binds K fd ps []
/-- what isinstance asks of the class x: of it and ys the answers bs -/
structure InsX (K : PySem.W.Frag) (x : Str) (ys : List (Str × Bool)) : Prop where
  cl : Cls K (ga K x)
  ha : PySem.W.findIn K (.ref (ga K x)) "__class__" = some (some (.builtin "object.__class__"))
  hn : PySem.W.specialIn K (.builtin "object.__class__") "__get__" = some (some (.builtin "getset_descriptor.__get__"))
  htk : PySem.W.takesIn K (.builtin "object.__class__") = some true
  hm : PySem.W.mroIn K (ga K x) (.type "object") = some true
  kit : ∀ y ∈ ys, PySem.W.kitOne K (.ref (ga K x)) (.ref (ga K y.1)) = some y.2
def insB (K : PySem.W.Frag) (x : Str) (ys : List (Str × Bool)) : Bool :=
  eqO (PySem.W.findIn K (.ref (ga K x)) "__class__") (some (some (.builtin "object.__class__"))) && (eqO (PySem.W.specialIn K (.builtin "object.__class__") "__get__") (some (some (.builtin "getset_descriptor.__get__"))) &&
  (decide (PySem.W.takesIn K (.builtin "object.__class__") = some true) && (decide (PySem.W.mroIn K (ga K x) (.type "object") = some true) && (ys.all fun y => decide (PySem.W.kitOne K (.ref (ga K x)) (.ref (ga K y.1)) = some y.2)))))
theorem insX_of {K : PySem.W.Frag} {x : Str} {ys : List (Str × Bool)} (c : Cls K (ga K x)) (h : insB K x ys = true) : InsX K x ys := by
  obtain ⟨a1, h⟩ := ba h
  obtain ⟨a2, h⟩ := ba h
  obtain ⟨a3, h⟩ := ba h
  obtain ⟨a4, a5⟩ := ba h
  exact ⟨c, eqO_ok a1, eqO_ok a2, of_decide_eq_true a3, of_decide_eq_true a4, fun y hy => of_decide_eq_true (List.all_eq_true.mp a5 y hy)⟩
def rIsI (K : PySem.W.Frag) : List V → Hp → VK → Prop := fun xs H Q => ∃ a x ys dx fs y b, xs = [.ref a, .ref (ga K y)] ∧ H a = some (.ins (ga K x) dx fs) ∧ InsX K x ys ∧ (y, b) ∈ ys ∧ Q (.bl b) H
theorem call_isI {X : Cx} : CallR X (.builtin "isinstance") (rIsI X.K) := by
  intro pins s σ H xs us Q I r h
  obtain ⟨a, x, ys, dx, fs, y, b, rfl, ha, c, hy, q⟩ := h
  obtain ⟨u, w', rfl, ru, rw'⟩ := vals2 r
  cases rw'
  exact isinst_ok I ru (TyOf.ins ha c.cl c.ha c.hn c.htk c.hm) (c.kit _ hy) fun tk => ⟨.bl b, H, I.tok _, rfl, q⟩
section
variable {P : Program} {w : World} {K : PySem.W.Frag} {σ : L2.St} {H : Hp} {te ta tb tl : TE} {v : V} {D : Ends} {tz tu : TS}
theorem ev_isI {x y : Str} {ys : List (Str × Bool)} {a dx : Addr} {fs : List (Str × V)} {b : Bool} (I : InsX K x ys) (hy : (y, b) ∈ ys) (ha : Ev ta σ H (.ref a)) (h : H a = some (.ins (ga K x) dx fs)) : Ev (tCB (rIsI K) (tCons ta (tCons (tC (.ref (ga K y))) tNil))) σ H (.bl b) := fun H1 e Q q =>
  ha H1 e _ fun H2 e2 => ⟨a, x, ys, dx, fs, y, b, rfl, e2 a _ (e a _ h), I, hy, q H2 e2⟩
/-- a field -/
theorem ev_fld {f : Str} {a C dx : Addr} {fs : List (Str × V)} (ha : Ev ta σ H (.ref a)) (h : H a = some (.ins C dx fs)) (c : Cls K C) (n : NoAttr K C f) (hl : fs.lookup f = some v) : Ev (tFld K ta f) σ H v := fun H1 e Q q =>
  ha H1 e _ fun H2 e2 => ⟨a, C, dx, fs, v, rfl, e2 a _ (e a _ h), c, n, hl, q H2 e2⟩
end
end Pk
namespace Pk
open PySem PySem.Spec PyProof.Rows L2 Evl He
open SX (S)
section
variable {P : Program} {w : World} {K : PySem.W.Frag} {σ : L2.St} {H : Hp} {te ta tb tl : TE} {v : V} {D : Ends} {tz : TS}
/-! ### lists of lists -/
structure LL (H0 H : Hp) (lc : Addr) (as : List Addr) (f : Nat → List Nat) : Prop where
  top : H lc = some (.lst (as.map V.ref))
  row : ∀ i b, as[i]? = some b → H b = some (.lst (vn (f i)))
  nd : as.Nodup
  out : lc ∉ as
  newT : H0 lc = none
  new : ∀ b ∈ as, H0 b = none
theorem LL.ex {H0 H H' : Hp} {lc : Addr} {as : List Addr} {f : Nat → List Nat} (L : LL H0 H lc as f) (e : Ex H H') : LL H0 H' lc as f := ⟨e _ _ L.top, fun i b h => e _ _ (L.row i b h), L.nd, L.out, L.newT, L.new⟩
theorem LL.upd {H0 H : Hp} {lc p : Addr} {as : List Addr} {o : HO} {f : Nat → List Nat} (L : LL H0 H lc as f) (h1 : p ≠ lc) (h2 : p ∉ as) : LL H0 (upd H p o) lc as f :=
  ⟨by rw [upd_ne h1.symm]; exact L.top, fun i b h => by rw [upd_ne (fun e : b = p => h2 (by rw [← e]; exact List.mem_of_getElem? h))]; exact L.row i b h, L.nd, L.out, L.newT, L.new⟩
theorem LL.ne_none {H0 H : Hp} {lc p : Addr} {as : List Addr} {f : Nat → List Nat} (L : LL H0 H lc as f) (h : H p = none) : p ≠ lc ∧ p ∉ as := by
  refine ⟨fun e => ?_, fun hm => ?_⟩
  · rw [e, L.top] at h
    cases h
  · obtain ⟨i, hi, e⟩ := List.mem_iff_getElem.mp hm
    have := L.row i p (by rw [List.getElem?_eq_getElem hi, e])
    rw [h] at this
    cases this
theorem LL.push {H0 H : Hp} {lc b : Addr} {as : List Addr} {f : Nat → List Nat} {t x : Nat} (L : LL H0 H lc as f) (hb : as[t]? = some b) : LL H0 (L2.upd H b (.lst (vn (f t) ++ [nat x]))) lc as (fun i => if i = t then f t ++ [x] else f i) := by
  have hm := List.mem_of_getElem? hb
  refine ⟨by rw [upd_ne (fun e => L.out (by rw [e]; exact hm))]; exact L.top, fun i c h => ?_, L.nd, L.out, L.newT, L.new⟩
  by_cases e : i = t
  · subst e
    rw [hb] at h
    cases h
    rw [upd_same, if_pos rfl]
    unfold vn
    rw [List.map_append]
    rfl
  · rw [if_neg e]
    have hne : c ≠ b := fun q => by
      subst q
      obtain ⟨h1, e1⟩ := List.getElem?_eq_some_iff.mp h
      obtain ⟨h2, e2⟩ := List.getElem?_eq_some_iff.mp hb
      exact e ((List.getElem_inj L.nd).mp (e1.trans e2.symm))
    rw [upd_ne hne]
    exact L.row i c h
theorem LL.congr {H0 H : Hp} {lc : Addr} {as : List Addr} {f g : Nat → List Nat} (L : LL H0 H lc as f) (h : ∀ i, i < as.length → f i = g i) : LL H0 H lc as g :=
  ⟨L.top, fun i b hb => by rw [← h i (List.getElem?_eq_some_iff.mp hb).1]; exact L.row i b hb, L.nd, L.out, L.newT, L.new⟩
theorem LL.back {H0 H1 H : Hp} {lc : Addr} {as : List Addr} {f : Nat → List Nat} (L : LL H1 H lc as f) (e : Ex H0 H1) : LL H0 H lc as f := ⟨L.top, L.row, L.nd, L.out, fresh_back e L.newT, fun b hb => fresh_back e (L.new b hb)⟩
/-- as many new empty lists -/
def LLw (H : Hp) (Dl : Addr) (i : Nat) (H' : Hp) : Prop := Ex H H' ∧ ∃ as : List Addr, as.length = i ∧ LL H H' Dl as fun _ => []
theorem llw_zero {H : Hp} {Dl : Addr} (h : H Dl = none) : LLw H Dl 0 (upd H Dl (.lst [])) := ⟨Ex.new h, [], rfl, ⟨upd_same, (fun i b hb => by cases hb), List.nodup_nil, List.not_mem_nil, h, (fun b hb => by cases hb)⟩⟩
theorem llw_turn {H H' : Hp} {Dl : Addr} {i : Nat} {σ2 : L2.St} (p : LLw H Dl i H') (hi : i < 50000) :
    tYes σ2 H' fun b H3 => if b = true then tLst tNil σ2 H3 fun y H4 => ∃ acc, H4 Dl = some (.lst acc) ∧ acc.length < sizeLine ∧ LLw H Dl (i + 1) (upd H4 Dl (.lst (acc ++ [y]))) else LLw H Dl (i + 1) H3 := by
  obtain ⟨e, as, hl, L⟩ := p
  show tLst tNil σ2 H' fun y H4 => ∃ acc, H4 Dl = some (.lst acc) ∧ acc.length < sizeLine ∧ LLw H Dl (i + 1) (upd H4 Dl (.lst (acc ++ [y])))
  refine (el_lst (vs := []) ea_nil (Nat.zero_le _) : EvL _ σ2 H' []) H' (Ex.refl H') _ fun q H4 hq e4 h4 => ?_
  obtain ⟨n1, n2⟩ := L.ne_none hq
  refine ⟨as.map V.ref, e4 _ _ L.top, sz_lt (by rw [List.length_map]; omega), Ex.mut (e.trans e4) L.newT, as ++ [q], by rw [List.length_append, List.length_singleton, hl], ?_⟩
  refine ⟨by rw [upd_same, List.map_append]; rfl, fun j b hb => ?_, ?_, ?_, L.newT, fun b hb => ?_⟩
  · have hbD : b ≠ Dl := fun q2 => by
      rcases List.mem_append.mp (List.mem_of_getElem? hb) with hm | hm
      · exact L.out (q2 ▸ hm)
      · exact n1 ((List.mem_singleton.mp hm).symm.trans q2)
    rw [upd_ne hbD]
    by_cases c : j < as.length
    · rw [List.getElem?_append_left c] at hb
      exact e4 _ _ (L.row j b hb)
    · rw [List.getElem?_append_right (by omega)] at hb
      have : b = q := by
        rcases hj : j - as.length with _ | m
        · rw [hj] at hb
          simpa using hb.symm
        · rw [hj] at hb
          simp at hb
      subst this
      exact h4
  · refine List.nodup_append.mpr ⟨L.nd, by simp, fun x hx y hy hxy => ?_⟩
    rw [List.mem_singleton.mp hy] at hxy
    exact n2 (hxy ▸ hx)
  · intro hm
    rcases List.mem_append.mp hm with hm | hm
    · exact L.out hm
    · exact n1 (List.mem_singleton.mp hm).symm
  · rcases List.mem_append.mp hb with hb | hb
    · exact L.new b hb
    · rw [List.mem_singleton.mp hb]
      exact fresh_back e hq
theorem ep_listsR {ta : TA} {j : Nat} {vs : List Nat} {n : Nat} (h : EvA ta σ H [nat n]) (hn : n ≤ 40000) (hw : ∀ x, wipe ((wipe σ vs).set j (some x)) vs = wipe σ vs) :
    EvP (tLc (iRng1 ta) (gName j) tYes (tLst tNil) vs) σ H (fun v H2 => ∃ lc as, v = .ref lc ∧ as.length = n ∧ LL H H2 lc as fun _ => []) := fun H0 e Q q => h H0 e _ fun H1 e1 => ⟨(n : Int), rfl, by omega, by omega, fun Dl hD =>
  lc_range (lo := 0) (n := (n : Int).toNat) (LLw H1 Dl) (llw_zero hD) (fun i H' hi p => ⟨hw _, llw_turn p (by omega)⟩) (fun H' p => by
    obtain ⟨e2, as, hl, L⟩ := p
    exact q _ H' (e1.trans e2) ⟨Dl, as, rfl, by omega, L.back (e.trans e1)⟩)⟩
theorem ep_listsL {a : Addr} {xs : List V} {j : Nat} {vs : List Nat} (h : Ev tl σ H (.ref a)) (hx : SqL K H a xs) (hz : xs.length ≤ 40000) (hw : ∀ x, wipe ((wipe σ vs).set j (some x)) vs = wipe σ vs) :
    EvP (tLc (iList K tl) (gName j) tYes (tLst tNil) vs) σ H (fun v H2 => ∃ lc as, v = .ref lc ∧ as.length = xs.length ∧ LL H H2 lc as fun _ => []) := fun H0 e Q q => h H0 e _ fun H1 e1 => ⟨a, rfl, ⟨xs, ex_l (e.trans e1) hx⟩, fun Dl hD =>
  lc_list (xs := xs) (LLw H1 Dl) (llw_zero hD) (fun i H' _ p => ex_l ((e.trans e1).trans p.1) hx) (fun i x H' hi p => ⟨hw x, llw_turn p (by have := (List.getElem?_eq_some_iff.mp hi).1; omega)⟩) (fun H' p => by
    obtain ⟨e2, as, hl, L⟩ := p
    exact q _ H' (e1.trans e2) ⟨Dl, as, rfl, hl, L.back (e.trans e1)⟩)⟩
theorem s_asgP {i : Nat} {Φ : V → Hp → Prop} (h : EvP te σ H Φ) (k : ∀ v H1, Ex H H1 → Φ v H1 → D.nx (σ.set i (some v)) H1) : tAsg te (gName i) D σ H := h H (Ex.refl H) _ fun v H1 e hv => k v H1 e hv
theorem q_asgP {i : Nat} {Φ : V → Hp → Prop} (h : EvP te σ H Φ) (k : ∀ v H1, Ex H H1 → Φ v H1 → tz D (σ.set i (some v)) H1) : tSeq (tAsg te (gName i)) tz D σ H := s_asgP (D := { D with nx := tz D }) h k
/-- xs.extend(zs) -/
theorem s_ext {l b : Addr} {xs zs : List V} (hl : H l = some (.lst xs)) (hb : H b = some (.lst zs)) (ha : Ev ta σ H (.ref l)) (h : Ev te σ H (.ref b)) (hz : xs.length + zs.length ≤ 100000) (k : ∀ H1, Ex H H1 → D.nx σ (upd H1 l (.lst (xs ++ zs)))) :
    tDrop (tBM K "list" rExtend ta (tCons te tNil)) D σ H := ha H (Ex.refl H) _ fun H1 e1 => ⟨Or.inl ⟨rfl, _, sq_of (e1 l _ hl)⟩, h H1 e1 _ fun H2 e2 => ⟨l, b, xs, zs, rfl, rfl, (e1.trans e2) l _ hl, (e1.trans e2) b _ hb, sz_of hz, k H2 (e1.trans e2)⟩⟩
theorem q_ext {l b : Addr} {xs zs : List V} (hl : H l = some (.lst xs)) (hb : H b = some (.lst zs)) (ha : Ev ta σ H (.ref l)) (h : Ev te σ H (.ref b)) (hz : xs.length + zs.length ≤ 100000) (k : ∀ H1, Ex H H1 → tz D σ (upd H1 l (.lst (xs ++ zs)))) :
    tSeq (tDrop (tBM K "list" rExtend ta (tCons te tNil))) tz D σ H := s_ext (D := { D with nx := tz D }) hl hb ha h hz k
/-- xs[::-1] -/
theorem el_rev {a : Addr} {xs : List V} (ha : Ev te σ H (.ref a)) (h : SqL K H a xs) : EvL (tRevL K te) σ H xs.reverse := fun H1 e Q q => ha H1 e _ fun H2 e2 => ⟨a, xs, rfl, ex_l (e.trans e2) h, fun p hp => q p _ (fresh_back e2 hp) (e2.trans (Ex.new hp)) upd_same⟩
/-- children, car by car -/
theorem q_chl {H0 : Hp} {a lc : Addr} {as : List Addr} {ws : List Nat} {m : Nat} {v2 v3 : Option V} {rest : L2.St} (hS : SqL K H0 a (vn ws)) (hw : ∀ x ∈ ws, x < m) (L : LL H0 H lc as fun _ => []) (has : as.length = m) (e0 : Ex H0 H) (hl : ws.length ≤ 40000)
    (k : ∀ v2 v3 H1, Ex H0 H1 → LL H0 H1 lc as (chl ws) → tz D (some (.ref a) :: some (.ref lc) :: v2 :: v3 :: rest) H1) :
    tSeq (tFor (iEnum K (tCons (tVar 0) tNil)) (gPair K 2 3) (tDrop (tBM K "list" rAppend (tOp (rIxL K) (tVar 1) (tVar 3)) (tCons (tOp (rI0 fun i j => .int (i + j)) (tVar 2) (tC (.int 1))) tNil)))) tz D (some (.ref a) :: some (.ref lc) :: v2 :: v3 :: rest) H := by
  refine q_forE nat (ev_var rfl) (ex_l e0 hS) (fun i σ' H' => i ≤ ws.length ∧ ∃ v2 v3, σ' = some (.ref a) :: some (.ref lc) :: v2 :: v3 :: rest ∧ Ex H0 H' ∧ LL H0 H' lc as (chlK ws i)) (fun H1 e1 => ?_) (fun i σ' H' hI => ?_) (fun i y σ' H' hy hI H5 e5 => ?_) (fun σ' H' hI => ?_)
  · exact ⟨Nat.zero_le _, _, _, rfl, e0.trans e1, L.ex e1⟩
  · obtain ⟨_, v2, v3, rfl, e, _⟩ := hI
    exact ex_l e hS
  · obtain ⟨_, v2, v3, rfl, e, L1⟩ := hI
    have hi : i < ws.length := (List.getElem?_eq_some_iff.mp hy).1
    have hyd : ws.getD i 0 = y := by rw [List.getD_eq_getElem?_getD, hy]; rfl
    have hym : y < as.length := by rw [has]; exact hw y (List.mem_of_getElem? hy)
    have L2 := L1.ex e5
    have hb : as[y]? = some as[y] := List.getElem?_eq_getElem hym
    have hcl : (chlK ws i y).length ≤ i := by
      unfold chlK
      rw [List.length_map]
      have := List.length_filter_le (fun c => decide (ws.getD c 0 = y)) (List.range i)
      rw [List.length_range] at this
      exact this
    refine s_app (l := as[y]) (xs := vn (chlK ws i y)) (v := nat (i + 1)) (L2.row y _ hb) (ev_ixN (i := y) (ev_var rfl) (ev_var rfl) (sq_of L2.top) (by rw [List.getElem?_map, hb]; rfl)) (ev_add (ev_var rfl) ev_c (by omega)) (by rw [List.length_map]; omega) fun H6 e6 => ?_
    refine ⟨hi, _, _, rfl, Ex.mut (e.trans (e5.trans e6)) (L2.new _ (List.mem_of_getElem? hb)), ((L2.ex e6).push (x := i + 1) hb).congr fun t _ => ?_⟩
    show (if t = y then chlK ws i y ++ [i + 1] else chlK ws i t) = chlK ws (i + 1) t
    rw [chlK_succ, hyd]
    by_cases c : t = y
    · rw [if_pos c, if_pos c.symm, c]
    · rw [if_neg c, if_neg (fun q => c q.symm)]
  · obtain ⟨_, v2, v3, rfl, e, L1⟩ := hI
    exact k v2 v3 H' e L1
end
end Pk
namespace Pk
open PySem PySem.Spec PyProof.Rows L2 Evl He
open SX (S)
section
variable {P : Program} {w : World} {K : PySem.W.Frag} {σ : L2.St} {H : Hp} {te ta tb tl : TE} {v : V} {D : Ends} {tz tu : TS}
/-! ### what is known of a value, and where it goes -/
theorem s_forLP {j : Nat} {Φ : V → Hp → Prop} (h : EvP tl σ H Φ) (k : ∀ v H1, Ex H H1 → Φ v H1 → ∃ l xs, v = .ref l ∧ SqL K H1 l xs ∧ ∃ Pv : Nat → L2.St → Hp → Prop, Pv 0 σ H1 ∧ (∀ i σ' H', i ≤ xs.length → Pv i σ' H' → SqL K H' l xs) ∧
    (∀ i x σ' H', xs[i]? = some x → Pv i σ' H' → tu { D with nx := Pv (i + 1), ct := Pv (i + 1), bk := D.nx } (σ'.set j (some x)) H') ∧ ∀ σ' H', Pv xs.length σ' H' → D.nx σ' H') : tFor (iList K tl) (gName j) tu D σ H :=
  h H (Ex.refl H) _ fun v H1 e hv => by
    obtain ⟨l, xs, rfl, hS, Pv, h0, hl, hs, hd⟩ := k v H1 e hv
    exact ⟨l, rfl, ⟨xs, hS⟩, for_list Pv h0 hl hs hd⟩
theorem q_forLP {j : Nat} {Φ : V → Hp → Prop} (h : EvP tl σ H Φ) (k : ∀ v H1, Ex H H1 → Φ v H1 → ∃ l xs, v = .ref l ∧ SqL K H1 l xs ∧ ∃ Pv : Nat → L2.St → Hp → Prop, Pv 0 σ H1 ∧ (∀ i σ' H', i ≤ xs.length → Pv i σ' H' → SqL K H' l xs) ∧
    (∀ i x σ' H', xs[i]? = some x → Pv i σ' H' → tu { D with nx := Pv (i + 1), ct := Pv (i + 1), bk := tz D } (σ'.set j (some x)) H') ∧ ∀ σ' H', Pv xs.length σ' H' → tz D σ' H') : tSeq (tFor (iList K tl) (gName j) tu) tz D σ H := s_forLP (D := { D with nx := tz D }) h k
theorem s_retP {Φ : V → Hp → Prop} (h : EvP te σ H Φ) (k : ∀ v H1, Ex H H1 → Φ v H1 → D.rt v H1) : tRet te D σ H := h H (Ex.refl H) _ fun v H1 e hv => k v H1 e hv
def SpP (sp : Sp) (vs : List V) (H : Hp) (Φ : V → Hp → Prop) : Prop := ∀ H1, Ex H H1 → ∀ Q : VK, (∀ v H2, Ex H1 H2 → Φ v H2 → Q v H2) → ∀ E : XK, sp vs H1 Q E
theorem ep_call {sp : Sp} {dvs vs : List V} {E : XK} {ta : TA} {Φ : V → Hp → Prop} (h : EvA ta σ H vs) (hs : SpP sp (vs ++ dvs) H Φ) : EvP (tCall sp dvs E ta) σ H Φ := fun H1 e Q q =>
  h H1 e _ fun H2 e2 => hs H2 (e.trans e2) _ (fun v H3 e3 hv => q v H3 (e2.trans e3) hv) E
theorem ep_tup {ta : TA} {Φ : List V → Hp → Prop} (h : EvAP ta σ H Φ) (hl : ∀ vs H1, Φ vs H1 → vs.length ≤ 100000) (hm : ∀ vs H1 H2, Ex H1 H2 → Φ vs H1 → Φ vs H2) : EvP (tTup ta) σ H (fun v H2 => ∃ p vs, v = .ref p ∧ H p = none ∧ H2 p = some (.tup vs) ∧ Φ vs H2) := fun H1 e _ q =>
  h H1 e _ fun vs H2 e2 hv => ⟨sz_of (hl vs H2 hv), fun p hp => q _ _ (e2.trans (Ex.new hp)) ⟨p, vs, rfl, fresh_back (e.trans e2) hp, upd_same, hm vs _ _ (Ex.new hp) hv⟩⟩
theorem ep_lst {ta : TA} {Φ : List V → Hp → Prop} (h : EvAP ta σ H Φ) (hl : ∀ vs H1, Φ vs H1 → vs.length ≤ 100000) (hm : ∀ vs H1 H2, Ex H1 H2 → Φ vs H1 → Φ vs H2) : EvP (tLst ta) σ H (fun v H2 => ∃ p vs, v = .ref p ∧ H p = none ∧ H2 p = some (.lst vs) ∧ Φ vs H2) := fun H1 e _ q =>
  h H1 e _ fun vs H2 e2 hv => ⟨sz_of (hl vs H2 hv), fun p hp => q _ _ (e2.trans (Ex.new hp)) ⟨p, vs, rfl, fresh_back (e.trans e2) hp, upd_same, hm vs _ _ (Ex.new hp) hv⟩⟩
theorem q_un2 {i j : Nat} {Φ : V → Hp → Prop} (h : EvP te σ H Φ) (hk : ∀ x H1, Ex H H1 → Φ x H1 → ∃ a v1 v2, x = .ref a ∧ SqT K H1 a [v1, v2] ∧ tz D ((σ.set i (some v1)).set j (some v2)) H1) :
    tSeq (tAsg te (gTup K 2 (gCons (gName i) (gCons (gName j) gNil)))) tz D σ H := h H (Ex.refl H) _ fun x H1 e hx => by
  obtain ⟨a, v1, v2, rfl, hS, q⟩ := hk x H1 e hx
  exact ⟨a, _, rfl, hS, rfl, v1, [v2], rfl, v2, [], rfl, rfl, q⟩
/-- xs[::-1] -/
theorem el_rev2 {a : Addr} {xs : List V} (ha : Ev te σ H (.ref a)) (h : SqL K H a xs) : EvL (tRevL K te) σ H xs.reverse := fun H1 e Q q => ha H1 e _ fun H2 e2 => ⟨a, xs, rfl, ex_l (e.trans e2) h, fun p hp => q p _ (fresh_back e2 hp) (e2.trans (Ex.new hp)) upd_same⟩
/-- sorted of a new list -/
theorem el_sortedN {ns : List Int} (ha : EvL ta σ H (vi ns)) : EvL (tCB (rSortedI K) (tCons ta tNil)) σ H (vi (isort ns)) := fun H1 e Q q =>
  ha H1 e _ fun a H2 ha2 e2 h2 => ⟨a, ns, rfl, sq_of h2, fun ns' p hp hr hn => by
    have z := isort_is hp hr
    subst z
    exact q p _ (fresh_back e2 hn) (e2.trans (Ex.new hn)) upd_same⟩
theorem ev_cb_sumL {ws : List Nat} (ha : EvL ta σ H (vn ws)) : Ev (tCB (rSum K) (tCons ta tNil)) σ H (nat ws.sum) := fun H1 e Q q =>
  ha H1 e _ fun a H2 ha2 e2 h2 => (rc_sumN (K := K) (sq_of h2)) H2 (Ex.refl H2) Q fun H3 e3 => q H3 (e2.trans e3)
/-! ### whether a number is in a list -/
theorem flat_vn (ws : List Nat) : (vn ws).all flatV = true := by
  rw [List.all_eq_true]
  intro x hx
  obtain ⟨n, _, rfl⟩ := List.mem_map.mp hx
  rfl
theorem inV_nat (n : Nat) (ws : List Nat) : inV (nat n) (vn ws) = decide (n ∈ ws) := by
  unfold inV
  rw [Bool.eq_iff_iff, List.any_eq_true, decide_eq_true_eq]
  constructor
  · rintro ⟨y, hy, e⟩
    obtain ⟨m, hm, rfl⟩ := List.mem_map.mp hy
    have e2 : decide ((m : Int) = (n : Int)) = true := by simpa [eqV, nat] using e
    have := of_decide_eq_true e2
    have e3 : m = n := by omega
    rw [← e3]
    exact hm
  · intro h
    exact ⟨nat n, List.mem_map.mpr ⟨n, h, rfl⟩, by simp [eqV, nat]⟩
theorem ev_inN {n : Nat} {b : Addr} {ws : List Nat} (ha : Ev ta σ H (nat n)) (hb : Ev tb σ H (.ref b)) (h : SqL K H b (vn ws)) : Ev (tOp (rIn K false) ta tb) σ H (.bl (decide (n ∈ ws))) := by
  have k := ev_op ha hb (rv_isL h (x := nat n) rfl (flat_vn ws))
  rw [inV_nat] at k
  exact k
end
end Pk
namespace Pk
open PySem PySem.Spec PyProof.Rows L2 Evl He
open SX (S)
/-! ### a def out of a list, called -/
structure HeldI (P : Program) (w : World) (K : PySem.W.Frag) (mg : Str → Option Value) (base : Heap) (k : Nat) (f : Addr) (sp : Sp) : Prop where
  ex : ∃ (k' : Nat) (fd : FuncData) (ps : List Str), k' ≤ k ∧ FnOk P w K mg base (L2N.CX P w) k' f fd ps sp ∧ PySem.W.keepIn K (.ref f) = true ∧ Binds K fd ps []
def tCallI (tf : TE) (SP : Addr → Sp → Prop) (E : XK) (t : TA) : TE := fun σ H Q => tf σ H fun y H1 => ∃ f sp, y = .ref f ∧ SP f sp ∧ t σ H1 fun vs H2 => sp vs H2 Q E
theorem pe_callI {X : Cx} {k : Nat} {SP : Addr → Sp → Prop} {E : XK} {pos : Pos} {fe e : Expr} {es : List Expr} {tf : TE} {t : TA} (hf : PE X fe tf) (L : ∀ f sp, SP f sp → HeldI X.prog X.w X.K X.mg X.base k f sp) (hr : Room k X.A) (hx : Passes (L2N.CX X.prog X.w) X E) (ha : PA X (e :: es) t)
    (ht : eval (.Call fe (e :: es) [] pos) X.env = (do callWith pos (← eval fe X.env) [] (backTo pos (starEach (e :: es) X.env)) (backToKw pos (keywordEach [] X.env))) := by rfl)
    (he : starEach (e :: es) X.env = (false, eval e X.env) :: starEach es X.env := by rfl) (hpl : (backTo pos (starEach es X.env)).any (·.1) = false := by rfl) : PE X (.Call fe (e :: es) [] pos) (tCallI tf SP E t) := by
  refine ⟨fun pins s σ H Q I h => ?_⟩
  refine Call_ (thn (hf.run pins s σ H _ I h) fun u s1 ⟨y, H1, I1, ry, f, sp, ey, hsp, q⟩ => ?_) ht
  subst ey
  obtain rfl : u = Value.ref f := ry
  obtain ⟨k', fd, ps, hk, F, kp, b⟩ := (L f sp hsp).ex
  refine PySem.W.callWith_K (h₀ := X.base) I1.ok.mod.kin kp (thn (ha.run pos pins s1 σ H1 _ I1 q) fun us s2 ⟨vs, H2, I2, r, q2⟩ => ⟨I2.kIn, ?_⟩) he hpl
  exact run_fn F (hr.mono hk) b .nil hx I2 r (by rw [List.append_nil]; exact q2)
section
variable {P : Program} {w : World} {K : PySem.W.Frag} {σ : L2.St} {H : Hp} {te ta tb tl tf : TE} {v : V} {D : Ends} {tz tu : TS}
theorem s_retI {SP : Addr → Sp → Prop} {E : XK} {t : TA} {f : Addr} {sp : Sp} {Φ : List V → Hp → Prop} (hf : Ev tf σ H (.ref f)) (hs : SP f sp) (ha : EvAP t σ H Φ) (k : ∀ vs H1, Ex H H1 → Φ vs H1 → sp vs H1 D.rt E) : tRet (tCallI tf SP E t) D σ H :=
  hf H (Ex.refl H) _ fun H1 e1 => ⟨f, sp, rfl, hs, ha H1 e1 _ fun vs H2 e2 hv => k vs H2 (e1.trans e2) hv⟩
/-- the i-th of a list of values that is written -/
theorem ev_ixW {xs : List V} {i : Nat} {ts : TA} (ha : EvA ts σ H xs) (hl : xs.length ≤ 100000) (hb : ∀ H1, Ex H H1 → Ev tb σ H1 (nat i)) (hi : xs[i]? = some v) : Ev (tOp (rIxL K) (tLst ts) tb) σ H v := ev_ixL (el_lst ha hl) hb hi
end
end Pk
namespace Pk
open PySem PySem.Spec PyProof.Rows L2 Evl He
open SX (S)
/-! ### kinds of values that may be handed in -/
inductive Kd
  | int (i : Int) | bl (b : Bool) | str (s : Str) | non | lst (xs : List V) | tup (xs : List V)
def Kd.ty : Kd → String
  | .int _ => "int" | .bl _ => "bool" | .str _ => "str" | .non => "NoneType" | .lst _ => "list" | .tup _ => "tuple"
def Kd.isL : Kd → Bool
  | .lst _ => true
  | _ => false
def Kd.isS : Kd → Bool
  | .str _ => true
  | _ => false
def Kd.num (lo hi : Int) : Kd → Bool
  | .int i => decide (lo ≤ i ∧ i ≤ hi)
  | _ => false
def IsK (K : PySem.W.Frag) (H : Hp) (x : V) : Kd → Prop
  | .int i => x = .int i
  | .bl b => x = .bl b
  | .str s => x = .str s
  | .non => x = .non
  | .lst xs => ∃ a, x = .ref a ∧ SqL K H a xs
  | .tup xs => ∃ a, x = .ref a ∧ SqT K H a xs
section
variable {K : PySem.W.Frag} {H H1 : Hp} {x : V} {k : Kd}
theorem IsK.ex (h : IsK K H x k) (e : Ex H H1) : IsK K H1 x k := by
  cases k with
  | lst xs => obtain ⟨a, h1, h2⟩ := h; exact ⟨a, h1, ex_l e h2⟩
  | tup xs => obtain ⟨a, h1, h2⟩ := h; exact ⟨a, h1, ex_t e h2⟩
  | _ => exact h
theorem ty_tup {a : Addr} {xs : List V} (h : SqT K H a xs) : TyX K H (.ref a) (.type "tuple") := by
  rcases h with (h | ⟨o, h⟩) | ⟨o, its, n, hk, hc, r⟩
  · exact .base (.tup h)
  · exact .fTuple h
  · exact .kTuple hk hc
theorem IsK.tyx (h : IsK K H x k) : TyX K H x (.type k.ty) := by
  cases k with
  | int i => cases h; exact .base (.int i)
  | bl b => cases h; exact .base (.bl b)
  | str s => cases h; exact .base (.str s)
  | non => cases h; exact .base .non
  | lst xs => obtain ⟨a, h1, h2⟩ := h; cases h1; exact ty_list h2
  | tup xs => obtain ⟨a, h1, h2⟩ := h; cases h1; exact ty_tup h2
theorem isi_k (h : IsK K H x k) (b : String) {r : Bool} (hk : kitB k.ty b = some r) : RC (rIsi K) [x, .ty b] H (.bl r) := rc_isi (fun H1 e => (h.ex e).tyx) hk
theorem kit_list : ∀ k : Kd, kitB k.ty "list" = some k.isL
  | .int _ => (by decide +kernel : kitB "int" "list" = some false)
  | .bl _ => (by decide +kernel : kitB "bool" "list" = some false)
  | .str _ => (by decide +kernel : kitB "str" "list" = some false)
  | .non => (by decide +kernel : kitB "NoneType" "list" = some false)
  | .lst _ => (by decide +kernel : kitB "list" "list" = some true)
  | .tup _ => (by decide +kernel : kitB "tuple" "list" = some false)
theorem kit_str : ∀ k : Kd, kitB k.ty "str" = some k.isS
  | .int _ => (by decide +kernel : kitB "int" "str" = some false)
  | .bl _ => (by decide +kernel : kitB "bool" "str" = some false)
  | .str _ => (by decide +kernel : kitB "str" "str" = some true)
  | .non => (by decide +kernel : kitB "NoneType" "str" = some false)
  | .lst _ => (by decide +kernel : kitB "list" "str" = some false)
  | .tup _ => (by decide +kernel : kitB "tuple" "str" = some false)
def Kd.isI : Kd → Bool
  | .int _ => true
  | .bl _ => true
  | _ => false
def Kd.isB : Kd → Bool
  | .bl _ => true
  | _ => false
theorem kit_int : ∀ k : Kd, kitB k.ty "int" = some k.isI
  | .int _ => (by decide +kernel : kitB "int" "int" = some true)
  | .bl _ => (by decide +kernel : kitB "bool" "int" = some true)
  | .str _ => (by decide +kernel : kitB "str" "int" = some false)
  | .non => (by decide +kernel : kitB "NoneType" "int" = some false)
  | .lst _ => (by decide +kernel : kitB "list" "int" = some false)
  | .tup _ => (by decide +kernel : kitB "tuple" "int" = some false)
theorem kit_bool : ∀ k : Kd, kitB k.ty "bool" = some k.isB
  | .int _ => (by decide +kernel : kitB "int" "bool" = some false)
  | .bl _ => (by decide +kernel : kitB "bool" "bool" = some true)
  | .str _ => (by decide +kernel : kitB "str" "bool" = some false)
  | .non => (by decide +kernel : kitB "NoneType" "bool" = some false)
  | .lst _ => (by decide +kernel : kitB "list" "bool" = some false)
  | .tup _ => (by decide +kernel : kitB "tuple" "bool" = some false)
/-- the items of a list, each of a kind -/
def AllK (K : PySem.W.Frag) (H : Hp) (xs : List V) (ks : List Kd) : Prop := xs.length = ks.length ∧ ∀ (i : Nat) (x : V) (k : Kd), xs[i]? = some x → ks[i]? = some k → IsK K H x k
theorem AllK.ex {xs : List V} {ks : List Kd} (h : AllK K H xs ks) (e : Ex H H1) : AllK K H1 xs ks := ⟨h.1, fun i x k h1 h2 => (h.2 i x k h1 h2).ex e⟩
theorem allK_nil : AllK K H [] [] := ⟨rfl, fun i x k h => by cases h⟩
theorem allK_cons {xs : List V} {ks : List Kd} (h : IsK K H x k) (hr : AllK K H xs ks) : AllK K H (x :: xs) (k :: ks) := ⟨by rw [List.length_cons, List.length_cons, hr.1], fun i y j h1 h2 => by
  cases i with
  | zero => cases h1; cases h2; exact h
  | succ i => exact hr.2 i y j h1 h2⟩
theorem allK_append {xs ys : List V} {ks js : List Kd} (h : AllK K H xs ks) (hr : AllK K H ys js) : AllK K H (xs ++ ys) (ks ++ js) := by
  induction xs generalizing ks with
  | nil =>
    cases ks with
    | nil => exact hr
    | cons k ks => have := h.1; cases this
  | cons x xs ih =>
    cases ks with
    | nil => have := h.1; cases this
    | cons k ks => exact allK_cons (h.2 0 x k rfl rfl) (ih ⟨by have := h.1; rw [List.length_cons, List.length_cons] at this; omega, fun i y j h1 h2 => h.2 (i + 1) y j h1 h2⟩)
theorem allK_ints (ns : List Int) : AllK K H (vi ns) (ns.map Kd.int) := ⟨by rw [List.length_map, List.length_map], fun i y j h1 h2 => by
  rw [List.getElem?_map] at h1 h2
  cases e : ns[i]? with
  | none => rw [e] at h1; cases h1
  | some n => rw [e] at h1 h2; cases h1; cases h2; rfl⟩
/-- all of them numbers in a range -/
def allN (lo hi : Int) (ks : List Kd) : Bool := ks.all (Kd.num lo hi)
end
end Pk
namespace Pk
open PySem PySem.Spec PyProof.Rows L2 Evl He
open SX (S)
/-! ### len(set(xs)), of any numbers -/
theorem fm_no {l : List Int} {k : Int} (h : l.any (· == k) = false) : k ∉ l := fun hm => by
  have : l.any (· == k) = true := List.any_eq_true.mpr ⟨k, hm, beq_self_eq_true k⟩
  rw [this] at h
  cases h
theorem fm_nd (f : Nat → Int) : ∀ n, (firstMet f n).Nodup
  | 0 => List.nodup_nil
  | n + 1 => by
    rw [firstMet_succ]
    show (if (firstMet f n).any (· == f n) then firstMet f n else firstMet f n ++ [f n]).Nodup
    cases hb : (firstMet f n).any (· == f n) with
    | true => exact fm_nd f n
    | false =>
      refine List.nodup_append.mpr ⟨fm_nd f n, List.pairwise_singleton _ _, fun x hx y hy => ?_⟩
      rw [List.mem_singleton] at hy
      subst hy
      exact fun e => fm_no hb (e ▸ hx)
theorem fm_full (f : Nat → Int) : ∀ n, (firstMet f n).length = n → firstMet f n = (List.range n).map f
  | 0, _ => rfl
  | n + 1, h => by
    rw [firstMet_succ] at h ⊢
    have hl := firstMet_length_le f n
    revert h
    show (if (firstMet f n).any (· == f n) then firstMet f n else firstMet f n ++ [f n]).length = n + 1 → (if (firstMet f n).any (· == f n) then firstMet f n else firstMet f n ++ [f n]) = _
    cases hb : (firstMet f n).any (· == f n) with
    | true =>
      intro h
      have h2 : (firstMet f n).length = n + 1 := h
      omega
    | false =>
      intro h
      have h2 : (firstMet f n ++ [f n]).length = n + 1 := h
      rw [List.length_append, List.length_singleton] at h2
      show firstMet f n ++ [f n] = _
      rw [fm_full f n (by omega), List.range_succ, List.map_append]
      rfl
def setLen (ns : List Int) : Nat := (firstMet (fun i => ns.getD i 0) ns.length).length
theorem range_getD (ns : List Int) : (List.range ns.length).map (fun i => ns.getD i 0) = ns := by
  refine List.ext_getElem? fun i => ?_
  rw [List.getElem?_map]
  by_cases h : i < ns.length
  · rw [List.getElem?_range h, List.getElem?_eq_getElem h]
    show some (ns.getD i 0) = _
    rw [List.getD_eq_getElem?_getD, List.getElem?_eq_getElem h]
    rfl
  · rw [List.getElem?_eq_none (by rw [List.length_range]; omega), List.getElem?_eq_none (by omega)]
    rfl
theorem setLen_le (ns : List Int) : setLen ns ≤ ns.length := firstMet_length_le _ _
theorem setLen_nd {ns : List Int} : setLen ns = ns.length ↔ ns.Nodup := by
  constructor
  · intro h
    have e := fm_full _ _ h
    rw [range_getD] at e
    rw [← e]
    exact fm_nd _ _
  · intro h
    unfold setLen
    rw [RZ.firstMet_nodup h ns.length (Nat.le_refl _), List.take_length]
def tLenSetG (K : PySem.W.Frag) (ta : TE) : TE := fun σ H Q => ta σ H fun x H1 => ∃ (l : Addr) (ns : List Int), x = .ref l ∧ SqL K H1 l (ns.map V.int) ∧ ns.length ≤ 4000 ∧ Q (.int (setLen ns : Nat)) H1
theorem pe_lenSetG {X : Cx} {a : Expr} {ta : TE} {p p2 q pos : Pos} (hg : Gl X "len") (hm : X.mg "len" = none) (hg2 : Gl X "set") (hm2 : X.mg "set" = none) (ha : PE X a ta) (hc : X.calm = true := by rfl)
    (na : starEach [a] X.env = (false, eval a X.env) :: starEach [] X.env := by rfl) : PE X (.Call (.Name "len" p) [.Call (.Name "set" p2) [a] [] q] [] pos) (tLenSetG X.K ta) := by
  refine ⟨fun pins s σ H Q I h => ?_⟩
  refine Call_ (ld_blt I hg hm boot_len ?_)
  refine PyProof.Rows.callWith_builtin1 (PyProof.Rows.args_cons ?_ rfl) rfl rfl
  refine Call_ (ld_blt I hg2 hm2 boot_set ?_)
  refine PyProof.Rows.callWith_type1 (PyProof.Rows.args_cons (thn (ha.run pins s σ H _ I h) fun v s1 ⟨x, H1, I1, r1, q1⟩ => PyProof.Rows.args_nil ?_) na) na rfl
  obtain ⟨l, ns, rfl, hq, hl, q1⟩ := q1
  cases r1
  obtain ⟨its, r, pl, hz⟩ := I1.list hq
  have hlen : its.toArray.size = ns.length := by rw [List.size_toArray, ← r.length, List.length_map]
  refine call_set_list (I1.ok.hd hc) pl.isList (by simpa using RZ.intsAre_vals r) (by rw [hlen]; unfold scanBound; omega) fun h' tk hS hk => ?_
  refine PyProof.Rows.args_nil ?_
  rw [hlen] at hS
  have hle := setLen_le ns
  obtain ⟨o, es, ep, t, ho, hex, hd, _, _, _, hf, hn⟩ := hS
  have I2 : Inv X pins σ H1 { s1 with heap := h', toks := tk } := I1.kept fun b o e => hk b o (Heap.lt_size e) e
  have hn2 : es.size = setLen ns := hn
  exact call_len_set ho hex hd hf (by rw [hn2] <;> omega) ⟨.int (setLen ns : Nat), H1, I2.tok _, ⟨_, by rw [hn2]⟩, q1⟩
end Pk
namespace Pk
open PySem PySem.Spec PyProof.Rows L2 Evl He
open SX (S)
/-! ### data that a def writes down -/
mutual
inductive Dw (H : Hp) : V → PyData → Prop
  | non : Dw H .non .none
  | bl (b : Bool) : Dw H (.bl b) (.bool b)
  | int (i : Int) : Dw H (.int i) (.int i)
  | str (x : Str) : Dw H (.str x) (.str x)
  | lst {a : Addr} {xs : List V} {ds : List PyData} : H a = some (.lst xs) → DwAll H xs ds → Dw H (.ref a) (.list ds)
  | tup {a : Addr} {xs : List V} {ds : List PyData} : H a = some (.tup xs) → DwAll H xs ds → Dw H (.ref a) (.tuple ds)
inductive DwAll (H : Hp) : List V → List PyData → Prop
  | nil : DwAll H [] []
  | cons {v : V} {vs : List V} {d : PyData} {ds : List PyData} : Dw H v d → DwAll H vs ds → DwAll H (v :: vs) (d :: ds)
end
section
variable {K : PySem.W.Frag} {H H1 : Hp}
mutual
theorem Dw.ex (e : Ex H H1) : ∀ (d : PyData) (v : V), Dw H v d → Dw H1 v d
  | .none, _, h => by cases h; exact .non
  | .bool b, _, h => by cases h; exact .bl b
  | .int i, _, h => by cases h; exact .int i
  | .str x, _, h => by cases h; exact .str x
  | .list ds, _, h => by
    cases h with
    | lst h1 h2 => exact .lst (e _ _ h1) (Dw.exAll e ds _ h2)
  | .tuple ds, _, h => by
    cases h with
    | tup h1 h2 => exact .tup (e _ _ h1) (Dw.exAll e ds _ h2)
  | .dict _, _, h => by cases h
theorem Dw.exAll (e : Ex H H1) : ∀ (ds : List PyData) (vs : List V), DwAll H vs ds → DwAll H1 vs ds
  | [], _, h => by cases h; exact .nil
  | d :: ds, _, h => by
    cases h with
    | cons h1 h2 => exact .cons (Dw.ex e d _ h1) (Dw.exAll e ds _ h2)
end
mutual
theorem Dw.dp : ∀ (d : PyData) (v : V), Dw H v d → Dp K H v d
  | .none, _, h => by cases h; exact .non
  | .bool b, _, h => by cases h; exact .bl b
  | .int i, _, h => by cases h; exact .int i
  | .str x, _, h => by cases h; exact .str x
  | .list ds, _, h => by
    cases h with
    | lst h1 h2 => exact .lst (sq_of h1) (Dw.dpAll ds _ h2)
  | .tuple ds, _, h => by
    cases h with
    | tup h1 h2 => exact .tup (st_of h1) (Dw.dpAll ds _ h2)
  | .dict _, _, h => by cases h
theorem Dw.dpAll : ∀ (ds : List PyData) (vs : List V), DwAll H vs ds → DpAll K H vs ds
  | [], _, h => by cases h; exact .nil
  | d :: ds, _, h => by
    cases h with
    | cons h1 h2 => exact .cons (Dw.dp d _ h1) (Dw.dpAll ds _ h2)
end
def dIsL : PyData → Bool
  | .list _ => true
  | _ => false
def dIsS : PyData → Bool
  | .str _ => true
  | _ => false
def dNotI : PyData → Bool
  | .int _ => false
  | _ => true
def dNum (lo hi : Int) : PyData → Bool
  | .int i => decide (lo ≤ i ∧ i ≤ hi)
  | _ => false
def dAllN (lo hi : Int) (ds : List PyData) : Bool := ds.all (dNum lo hi)
/-- the kind of what was written -/
structure KdOf (k : Kd) (d : PyData) : Prop where
  l : k.isL = dIsL d
  s : k.isS = dIsS d
  i : ((!k.isI) || k.isB) = dNotI d
  n : ∀ lo hi, k.num lo hi = dNum lo hi d
theorem Dw.kd {v : V} {d : PyData} (h : Dw H v d) : ∃ k, IsK K H v k ∧ KdOf k d := by
  cases h with
  | non => exact ⟨.non, rfl, rfl, rfl, rfl, fun _ _ => rfl⟩
  | bl b => exact ⟨.bl b, rfl, rfl, rfl, rfl, fun _ _ => rfl⟩
  | int i => exact ⟨.int i, rfl, rfl, rfl, rfl, fun _ _ => rfl⟩
  | str x => exact ⟨.str x, rfl, rfl, rfl, rfl, fun _ _ => rfl⟩
  | @lst a xs ds h1 h2 => exact ⟨.lst xs, ⟨a, rfl, sq_of h1⟩, rfl, rfl, rfl, fun _ _ => rfl⟩
  | @tup a xs ds h1 h2 => exact ⟨.tup xs, ⟨a, rfl, st_of h1⟩, rfl, rfl, rfl, fun _ _ => rfl⟩
theorem DwAll.kds : ∀ {vs : List V} {ds : List PyData}, DwAll H vs ds → ∃ ks, AllK K H vs ks ∧ ks.length = ds.length ∧ ∀ lo hi, ks.map (Kd.num lo hi) = ds.map (dNum lo hi)
  | [], _, h => by cases h; exact ⟨[], allK_nil, rfl, fun _ _ => rfl⟩
  | v :: vs, _, h => by
    cases h with
    | cons h1 h2 =>
      obtain ⟨k, k1, k2⟩ := Dw.kd (K := K) h1
      obtain ⟨ks, k3, k4, k5⟩ := DwAll.kds h2
      exact ⟨k :: ks, allK_cons k1 k3, by rw [List.length_cons, List.length_cons, k4], fun lo hi => by rw [List.map_cons, List.map_cons, k2.n, k5]⟩
theorem DwAll.len : ∀ {vs : List V} {ds : List PyData}, DwAll H vs ds → vs.length = ds.length
  | [], _, h => by cases h; rfl
  | v :: vs, _, h => by
    cases h with
    | cons h1 h2 => rw [List.length_cons, List.length_cons, h2.len]
theorem DwAll.get : ∀ {vs : List V} {ds : List PyData} {i : Nat} {d : PyData}, DwAll H vs ds → ds[i]? = some d → ∃ v, vs[i]? = some v ∧ Dw H v d
  | [], _, i, d, h, hd => by cases h; cases hd
  | v :: vs, _, i, d, h, hd => by
    cases h with
    | cons h1 h2 =>
      cases i with
      | zero => cases hd; exact ⟨v, rfl, h1⟩
      | succ i => exact h2.get hd
theorem DwAll.app : ∀ {vs ws : List V} {ds es : List PyData}, DwAll H vs ds → DwAll H ws es → DwAll H (vs ++ ws) (ds ++ es)
  | [], ws, _, es, h, h2 => by cases h; exact h2
  | v :: vs, ws, _, es, h, h2 => by
    cases h with
    | cons h1 h3 => exact .cons h1 (h3.app h2)
theorem DwAll.rep {v : V} {d : PyData} (h : Dw H v d) : ∀ n, DwAll H (List.replicate n v) (List.replicate n d)
  | 0 => .nil
  | n + 1 => .cons h (DwAll.rep h n)
/-- a list of numbers written down -/
def dN (ns : List Nat) : List PyData := ns.map fun (n : Nat) => .int (n : Int)
theorem DwAll.ints : ∀ {vs : List V} {ns : List Int}, DwAll H vs (ns.map PyData.int) → vs = vi ns
  | [], [], _ => rfl
  | [], n :: ns, h => by cases h
  | v :: vs, [], h => by cases h
  | v :: vs, n :: ns, h => by
    cases h with
    | cons h1 h2 =>
      cases h1
      show V.int n :: vs = V.int n :: vi ns
      rw [DwAll.ints h2]
theorem Dw.ints {v : V} {ns : List Int} (h : Dw H v (.list (ns.map PyData.int))) : ∃ a, v = .ref a ∧ H a = some (.lst (vi ns)) := by
  cases h with
  | @lst a xs ds h1 h2 =>
    rw [DwAll.ints h2] at h1
    exact ⟨a, rfl, h1⟩
theorem Dw.nats {v : V} {ns : List Nat} (h : Dw H v (.list (dN ns))) : ∃ a, v = .ref a ∧ H a = some (.lst (vn ns)) := by
  have e : dN ns = (ns.map fun (n : Nat) => (n : Int)).map PyData.int := by unfold dN; rw [List.map_map]; rfl
  rw [e] at h
  obtain ⟨a, h1, h2⟩ := h.ints
  exact ⟨a, h1, by rw [vn_vi]; exact h2⟩
/-! ### its reading -/
def EvD (te : TE) (σ : L2.St) (H : Hp) (d : PyData) : Prop := EvP te σ H (fun v H2 => Dw H2 v d)
def EvDs (ta : TA) (σ : L2.St) (H : Hp) (ds : List PyData) : Prop := EvAP ta σ H (fun vs H2 => DwAll H2 vs ds)
variable {σ : L2.St} {te ta2 tb : TE} {ta : TA} {v : V} {d : PyData} {ds es : List PyData} {D : Ends} {tz : TS}
theorem ed_of (h : Ev te σ H v) (hd : ∀ H1, Ex H H1 → Dw H1 v d) : EvD te σ H d := fun H1 e Q q => h H1 e Q fun H2 e2 => q v H2 e2 (hd H2 (e.trans e2))
theorem ed_int {i : Int} (h : Ev te σ H (.int i)) : EvD te σ H (.int i) := ed_of h fun _ _ => .int i
theorem ed_i {i : Int} : EvD (tC (.int i)) σ H (.int i) := ed_int ev_c
theorem ed_b {b : Bool} : EvD (tC (.bl b)) σ H (.bool b) := ed_of ev_c fun _ _ => .bl b
theorem ed_s {s : Str} : EvD (tC (.str s)) σ H (.str s) := ed_of ev_c fun _ _ => .str s
theorem ed_n : EvD (tC .non) σ H .none := ed_of ev_c fun _ _ => .non
theorem ed_var {i : Nat} (h : σ[i]? = some (some v)) (hd : Dw H v d) : EvD (tVar i) σ H d := ed_of (ev_var h) fun _ e => hd.ex e
theorem EvD.mono {H1 : Hp} (h : EvD te σ H d) (e : Ex H H1) : EvD te σ H1 d := fun H2 e2 => h H2 (e.trans e2)
theorem eds_nil : EvDs tNil σ H [] := fun H1 _ _ q => q _ H1 (Ex.refl H1) .nil
theorem eds_cons (h : EvD te σ H d) (hr : EvDs ta σ H ds) : EvDs (tCons te ta) σ H (d :: ds) := fun H1 e _ q =>
  h H1 e _ fun v H2 e2 hv => hr H2 (e.trans e2) _ fun ws H3 e3 hw => q _ H3 (e2.trans e3) (.cons (Dw.ex e3 _ _ hv) hw)
theorem ed_lst (h : EvDs ta σ H ds) (hz : ds.length ≤ 100000 := by first | decide | exact Nat.le_of_ble_eq_true rfl) : EvD (tLst ta) σ H (.list ds) := fun H1 e Q q =>
  h H1 e _ fun vs H2 e2 hv => ⟨sz_of (by rw [hv.len]; exact hz), fun p hp => q _ _ (e2.trans (Ex.new hp)) (.lst upd_same (Dw.exAll (Ex.new hp) _ _ hv))⟩
theorem ed_tup (h : EvDs ta σ H ds) (hz : ds.length ≤ 100000 := by first | decide | exact Nat.le_of_ble_eq_true rfl) : EvD (tTup ta) σ H (.tuple ds) := fun H1 e Q q =>
  h H1 e _ fun vs H2 e2 hv => ⟨sz_of (by rw [hv.len]; exact hz), fun p hp => q _ _ (e2.trans (Ex.new hp)) (.tup upd_same (Dw.exAll (Ex.new hp) _ _ hv))⟩
theorem ed_ix {i : Nat} (h : EvD te σ H (.list ds)) (hb : Ev tb σ H (nat i)) (hi : ds[i]? = some d) : EvD (tOp (rIxL K) te tb) σ H d := fun H1 e Q q =>
  h H1 e _ fun v H2 e2 hv => by
    cases hv with
    | @lst a xs ds h1 h2 =>
      obtain ⟨x, hx, hd⟩ := h2.get hi
      exact hb H2 (e.trans e2) _ fun H3 e3 => ⟨a, xs, i, x, rfl, rfl, sq_of (e3 _ _ h1), at_nat hx, q x H3 (e2.trans e3) (hd.ex e3)⟩
theorem ed_cat (h : EvD te σ H (.list ds)) (h2 : EvD tb σ H (.list es)) (hz : ds.length + es.length ≤ 100000) : EvD (tOp rCat te tb) σ H (.list (ds ++ es)) := fun H1 e Q q =>
  h H1 e _ fun v H2 e2 hv => h2 H2 (e.trans e2) _ fun y H3 e3 hy => by
    have hv3 := Dw.ex e3 _ _ hv
    cases hv3 with
    | @lst a xs _ h1 k1 =>
      cases hy with
      | @lst b ys _ h3 k3 =>
        exact ⟨a, b, xs, ys, rfl, rfl, h1, h3, sz_of (by rw [k1.len, k3.len]; exact hz), fun p hp => q _ _ ((e2.trans e3).trans (Ex.new hp)) (.lst upd_same (Dw.exAll (Ex.new hp) _ _ (k1.app k3)))⟩
theorem flat_rep {α : Type} (v : α) : ∀ n, (List.replicate n [v]).flatten = List.replicate n v
  | 0 => rfl
  | n + 1 => by rw [List.replicate_succ, List.flatten_cons, flat_rep v n, List.replicate_succ]; rfl
theorem ed_rep {n : Nat} (h : EvD te σ H (.list [d])) (hb : Ev tb σ H (nat n)) (hz : n ≤ 100000) : EvD (tOp rRep te tb) σ H (.list (List.replicate n d)) := fun H1 e Q q =>
  h H1 e _ fun v H2 e2 hv => hb H2 (e.trans e2) _ fun H3 e3 => by
    have hv3 := Dw.ex e3 _ _ hv
    cases hv3 with
    | @lst a xs _ h1 k1 =>
      cases k1 with
      | @cons x vs _ _ hx hr =>
        cases hr
        refine ⟨a, n, [x], rfl, rfl, h1, by omega, by omega, sz_of (by rw [List.length_singleton, Int.toNat_natCast]; omega), fun p hp => q _ _ ((e2.trans e3).trans (Ex.new hp)) (.lst upd_same ?_)⟩
        rw [Int.toNat_natCast, flat_rep]
        exact DwAll.rep (Dw.ex (Ex.new hp) _ _ hx) n
theorem ed_if {t : TT} {b : Bool} (h : EvT t σ H b) (h1 : b = true → EvD te σ H d) (h2 : b = false → EvD tb σ H d) : EvD (tIf t te tb) σ H d := fun H1 e Q q => h H1 e _ fun H2 e2 => by
  cases b with
  | true =>
    show te σ H2 Q
    exact h1 rfl H2 (e.trans e2) Q fun v H3 e3 hv => q v H3 (e2.trans e3) hv
  | false =>
    show tb σ H2 Q
    exact h2 rfl H2 (e.trans e2) Q fun v H3 e3 hv => q v H3 (e2.trans e3) hv
theorem q_asgD {i : Nat} (h : EvD te σ H d) (k : ∀ v H1, Ex H H1 → Dw H1 v d → tz D (σ.set i (some v)) H1) : tSeq (tAsg te (gName i)) tz D σ H := h H (Ex.refl H) _ fun v H1 e hv => k v H1 e hv
theorem s_asgD {i : Nat} (h : EvD te σ H d) (k : ∀ v H1, Ex H H1 → Dw H1 v d → D.nx (σ.set i (some v)) H1) : tAsg te (gName i) D σ H := h H (Ex.refl H) _ fun v H1 e hv => k v H1 e hv
/-- isinstance(x, list) -/
theorem ev_isL (h : Ev te σ H v) (hd : Dw H v d) : Ev (tCB (rIsi K) (tCons te (tCons (tC (.ty "list")) tNil))) σ H (.bl (dIsL d)) := by
  obtain ⟨k, k1, k2⟩ := Dw.kd (K := K) hd
  rw [← k2.l]
  exact ev_cb (ea_cons h (ea_cons ev_c ea_nil)) (isi_k k1 "list" (kit_list k))
/-- x == a datum -/
theorem ev_eqD {e1 : PyData} (h : Ev te σ H v) (hd : Dw H v d) (h2 : EvD tb σ H e1) (s1 : SeqAt.shaped d = true) (s2 : SeqAt.shaped e1 = true) : Ev (tOp (rEqD K) te tb) σ H (.bl (PyData.eqv d e1)) := fun H1 e Q q =>
  h H1 e _ fun H2 e2 => h2 H2 (e.trans e2) _ fun y H3 e3 hy => ⟨d, e1, Dw.dp _ _ (Dw.ex ((e.trans e2).trans e3) _ _ hd), Dw.dp _ _ hy, s1, s2, q H3 (e2.trans e3)⟩
/-- a call whose values are written down -/
theorem s_retD {sp : Sp} {E : XK} (h : EvDs ta σ H ds) (k : ∀ vs H1, Ex H H1 → DwAll H1 vs ds → sp vs H1 D.rt E) : tRet (tCall sp [] E ta) D σ H := h H (Ex.refl H) _ fun vs H1 e hv => by
  show sp (vs ++ []) H1 _ E
  rw [List.append_nil]
  exact k vs H1 e hv
end
end Pk
namespace Pk
open PySem PySem.Spec PyProof.Rows L2 Evl He
/-! ### a comprehension whose element may raise (of the def's own wish E) -/
theorem flyingD_of {B h : Heap} {l : List Env} {a : Addr} {cls : Value} {d : Option Addr} (x : HandSPX.FlyingZ B l a (L2N.Zn cls d) h) : ∃ a0, Heap.FlyingD B l a cls a0 .none d h := by
  obtain ⟨k1, k2, k3, oe, vs, T, oT, ts, he, ⟨z1, z2, z3⟩, hd, r⟩ := x
  have h2 := z3 vs hd
  have hsz : 2 < vs.size := (Array.getElem?_eq_some_iff.mp h2).1
  have h0 : vs[0]? = some (vs[0]'(by omega)) := Array.getElem?_eq_getElem (by omega)
  exact ⟨_, k1, k2, k3, oe, vs, T, oT, ts, he, ⟨z1, h0, h2, z2⟩, hd, r⟩
theorem heldZ_of {B h : Heap} {l : List Env} {a L : Addr} {cls a0 : Value} {d : Option Addr} (x : Heap.HeldD B l a cls a0 .none d L h) : HandSPX.HeldZ B l a (L2N.Zn cls d) L h := by
  obtain ⟨k1, k2, k3, oe, vs, T, oT, ts, he, ⟨z1, z0, z3, z2⟩, hd, r⟩ := x
  refine ⟨k1, k2, k3, oe, vs, T, oT, ts, he, ⟨z1, z2, fun vs' e => ?_⟩, hd, r⟩
  rw [hd] at e
  cases e
  exact z3
theorem inv_tr {X : Cx} {σ : L2.St} {H : Hp} {s : Shared} (I : Inv X [] σ H s) (hp : X.pn = []) (xe : Value → Shared → Prop) : Inv (X.tr [] xe) [] σ H s := by
  have J := I.toTry xe
  rw [hp] at J
  exact J
/-- the context of a block whose element may raise -/
abbrev blkE (X : Cx) (s : Shared) (H : Hp) (scope : Scope) (ce : Env) (fp : List Addr) (xe : Value → Shared → Prop) : Cx := (X.blk s H scope ce fp).tr [] xe
/-- the wish of a block's element -/
abbrev compXe (X : Cx) (ce : Env) : Value → Shared → Prop := notedBy (model X.prog X.w) X.A ce (CompFails (model X.prog X.w) X.A X.xe ce)
theorem comp_pass {X : Cx} {pins : List (Addr × Obj)} {σ : L2.St} {H : Hp} {s3 : Shared} {scope : Scope} {ce : Env} {fp : List Addr} {E : XK} (hs : X.stack = X.env :: X.outer) (hf : X.env.frame = some X.env.locals) (tk : L2N.Takes X (fun cls d _ H => E cls d H))
    (I3 : Inv X pins σ H s3) (hcF : ce.frame = X.env.frame) (hcL : ce.locals = s3.heap.objs.size) (f3 : ∀ b ∈ fp, FpOk X pins H b) :
    Passes (L2N.CX X.prog X.w) (blkE X s3 H scope ce fp (compXe X ce)) E := by
  intro pins' σ' H' s e s' I' c
  have c0 := c
  obtain ⟨a, B, H2, cls, d, rfl, fl, hok, ub, na, os, ag, hE⟩ := c0
  obtain ⟨a1, B1, sI, pI, σI, HI, cls1, d1, ea, II, nb, up, sky, naI, osI, agI, wI⟩ := L2N.XE.of_call (W := fun cls d _ H => E cls d H) I' (fun _ _ _ h => h) c
  cases ea
  have fl1 : HandSPX.FlyingZ B1 X.stack a (L2N.Zn cls1 d1) s'.heap := by
    obtain ⟨_, _, _, oe, vs, T, oT, ts, he, hz, hd, h1, hnT, hTe, hT, hdT, h3⟩ := fl
    rcases sky with ⟨_, _, _, oe', vs', he', hz', hd', h1'⟩ | fl1 | hh
    · rw [he] at he'
      cases he'
      rw [hd] at hd'
      cases hd'
      rw [h1] at h1'
      cases h1'
    · exact fl1
    · obtain ⟨_, _, _, oe', vs', T', oT', ts', he', hz', hd', h1', hnT', hTe', hT', hdT', h3'⟩ := hh
      rw [he] at he'
      cases he'
      rw [hd] at hd'
      cases hd'
      rw [h1] at h1'
      cases h1'
      rw [hT] at hT'
      cases hT'
      rw [hdT] at hdT'
      cases hdT'
      rw [h3] at h3'
      simp [rawInt] at h3'
  have hCl : (blkE X s3 H scope ce fp (compXe X ce)).env.locals = ce.locals := rfl
  have nC : HI ce.locals = none := II.free
  have fC : FpOk X pins HI ce.locals := I3.fpOk (Nat.le_of_eq hcL.symm) nC
  have nfr : ce.locals ∉ frs X.stack := fun hm => by
    rcases List.mem_cons.mp (I3.stkSub _ hm) with z | z
    · exact fC.2.1 z
    · exact fC.2.2.1 z
  have fl2 : HandSPX.FlyingZ (PySem.W.hideAll B1 [ce.locals]) X.stack a (L2N.Zn cls1 d1) s'.heap := by
    obtain ⟨k1, k2, k3, oe, vs, T, oT, ts, he, hz, hd, h1, hnT, r⟩ := fl1
    have hn : ∀ b, B1.get? b = none → (PySem.W.hideAll B1 [ce.locals]).get? b = none := fun b hb => by
      cases q : (PySem.W.hideAll B1 [ce.locals]).get? b with
      | none => rfl
      | some o =>
        have z := PySem.W.of_hideAll _ q
        rw [hb] at z
        cases z
    exact ⟨fun b o hb => k1 b o (PySem.W.of_hideAll _ hb), hn a k2, funFrames_none k3 fun b hb => hn b (k3.mem hb).1, oe, vs, T, oT, ts, he, hz, hd, h1, hn T hnT, r⟩
  obtain ⟨a0, flD⟩ := flyingD_of fl2
  obtain ⟨m, hNs, _⟩ := II.loc
  have hNs' : s'.heap.Ns ce.locals m := Heap.Ns.upToSlots hNs up
  have hfr : X.A.frames = some (X.env :: X.outer) := by rw [I3.ok.frames, hs]
  rw [hs] at flD
  refine noted_flying (env := X.env) (outer := X.outer) (L := X.env.locals) hfr hcF hf (PySem.W.hideAll_none _ (List.mem_singleton.mpr rfl)) hNs' flD fun h' hD keep => ?_
  have I7 : Inv X pins σ HI sI := I3.call' (ch := fp) II.os II.base II.hok II.bare fun b hb => ⟨(f3 b hb).2.2.2.1, (f3 b hb).2.1, (f3 b hb).2.2.2.2.1, (f3 b hb).2.2.2.2.2⟩
  obtain ⟨f0, f1, f2, f4, f5, f6⟩ := fC
  have I8 : Inv X pins σ HI { sI with heap := PySem.W.hideAll sI.heap [ce.locals], toks := sI.toks } := I7.turned (t' := sI.toks) (fun b o hb e => PySem.W.hideAll_get _ e fun z => hb (List.mem_singleton.mp z)) f0 f1 f4 f5 f6
  have ne_of : ∀ b o, (PySem.W.hideAll sI.heap [ce.locals]).get? b = some o → b ≠ ce.locals := fun b o e z => by
    rw [z, PySem.W.hideAll_none _ (List.mem_singleton.mpr rfl)] at e
    cases e
  refine tk _ _ ⟨a, PySem.W.hideAll B1 [ce.locals], _, pins, σ, HI, cls1, d1, rfl, I8, fun b o e hb => ?_, fun b o e hnf => ?_, .inr (.inr (by rw [hs]; exact heldZ_of hD)), naI, osI, agI, wI⟩
  · exact PySem.W.hideAll_get _ (nb b o (PySem.W.of_hideAll _ e) hb) fun z => ne_of b o e (List.mem_singleton.mp z)
  · obtain ⟨sl, e1⟩ := up b o (PySem.W.of_hideAll _ e) hnf
    obtain ⟨sl2, e2⟩ := keep b _ e1 (ne_of b o e) hnf
    exact ⟨sl2, e2⟩
theorem lc_raise {X : Cx} {pins : List (Addr × Obj)} {s : Shared} {σ : L2.St} {H : Hp} {Q : VK} {elt tg iter : Expr} {scope : Scope} {own : List (Str × Nat)} {pos pos' : Pos} {wi : TI} {g : TG} {te : TE} {use : Option (Value → Sem Unit)} {Qf : Value → Shared → Prop} {E : XK}
    (hs : X.stack = X.env :: X.outer) (hf : X.env.frame = some X.env.locals) (tk : L2N.Takes X (fun cls d _ H => E cls d H))
    (hc : X.calm = true) (hN : X.N.Nodup) (I : Inv X pins σ H s) (hi : PI X tg iter wi) (ok : BlkOk X.N X.env.scope scope own)
    (hg : ∀ (s : Shared) (H : Hp) (C : Addr) (cl : List (Str × Addr)) (fp : List Addr) (xe : Value → Shared → Prop), PG (blkE X s H scope (compEnvC scope cl C X.env) fp xe) tg g)
    (he : ∀ (s : Shared) (H : Hp) (C : Addr) (cl : List (Str × Addr)) (fp : List Addr) (xe : Value → Shared → Prop), Passes (L2N.CX X.prog X.w) (blkE X s H scope (compEnvC scope cl C X.env) fp xe) E → PE (blkE X s H scope (compEnvC scope cl C X.env) fp xe) elt te)
    (hsI : ∀ x, foldedSetIterable iter X.env x = pure x) (h : tLc wi g tYes te (own.map (·.2)) σ H Q)
    (hRR : ∀ (D : Addr) (ce : Env) s' m H', Inv X pins σ H' s' → Q (.ref D) H' → s'.heap.Ns ce.locals m → FpOk X pins H' ce.locals → compEnds (model X.prog X.w) X.A X.xe use Qf (.ref D) ce (.ok .next) s') :
    wpAny (model X.prog X.w) X.A (comprehension (.ListComp elt [⟨tg, iter, [], 0⟩] scope pos) scope X.env pos' (newList []) false (eval iter X.env) use) Qf X.xe s := by
  have hfree : ∀ y ∈ scope.names, y.2 = .free → ∃ c, X.env.cells.lookup y.1 = some c := fun y hy e => by
    rcases ok.free y hy e with k | k
    · exact I.ok.has _ (.inl k)
    · exact I.ok.has _ (.inr k)
  refine comprehension_at (use := use) rfl hsI (closure_ok hfree) ok.kind (fun y hy e => by rw [ok.uniq y hy, e])
    (thn (hi.run pins s σ H _ I h) fun xv s1 hx => thn hx fun itv s2 h2 => ?_)
  obtain ⟨it, fp, tn, J, H2, e, I2, T, st2, f2, q⟩ := h2
  subst e
  refine wpAny_newObj_type (newEnv_comp ?_) (by show 0 ≤ sizeLine; decide)
  generalize hD : s2.heap.objs.size = D
  have hDn : H2 D = none := I2.hok.fresh (Nat.le_of_eq hD)
  obtain ⟨W, ⟨m0, w0⟩, turn⟩ := q D hDn
  generalize hs3 : ({ s2 with heap := s2.heap.push { cls := .type "list", data := .seq ([] : List Value).toArray } } : Shared) = s3
  have I3 : Inv X pins σ (upd H2 D (.lst [])) s3 := by
    rw [← hs3]
    refine I2.laid (t' := s2.toks) (fun b o e => Heap.get?_push_of_some _ e) (Nat.le_of_eq hD) ⟨Nat.zero_le _, [], 0, .nil, ?_⟩
    rw [← hD]
    exact Heap.get?_push_size _ rfl
  have h3 : s3.heap = s2.heap.push { cls := .type "list", data := .seq ([] : List Value).toArray } := by rw [← hs3]
  have f3 : ∀ b ∈ fp, FpOk X pins (upd H2 D (.lst [])) b ∧ b < s3.heap.objs.size := fun b hb => by
    obtain ⟨o, e, _⟩ := T.obj _ _ st2 b hb
    have hlt := Heap.lt_size e
    refine ⟨⟨?_, (f2 b hb).2⟩, by rw [h3, Heap.size_push]; exact Nat.lt_succ_of_lt hlt⟩
    rw [upd_ne (by rw [← hD]; exact Nat.ne_of_lt hlt)]
    exact (f2 b hb).1
  have st3 : tn 0 s3.heap := T.keep _ _ _ st2 fun b _ o e => by rw [h3]; exact Heap.get?_push_of_some _ e
  have I4 := block_start I3 ok hN f3
  have nfp : ∀ b ∈ fp, (upd H2 D (.lst [])) b = none := fun b hb => (f3 b hb).1.1
  have hg3 := hg s3 (upd H2 D (.lst [])) s3.heap.objs.size (cellsFrom (s3.heap.objs.size + 1) scope.names (cloFrom X.env.cells scope.names [])) fp
  have he3 := he s3 (upd H2 D (.lst [])) s3.heap.objs.size (cellsFrom (s3.heap.objs.size + 1) scope.names (cloFrom X.env.cells scope.names [])) fp
  show codeAny _ _ (.compStart (.ListComp elt [⟨tg, iter, [], 0⟩] scope pos) 0 (.ref it) (.ref D) (compEnvC scope (cellsFrom (s3.heap.objs.size + 1) scope.names (cloFrom X.env.cells scope.names [])) s3.heap.objs.size X.env)) (compEnds (model X.prog X.w) X.A X.xe use Qf (.ref D) (compEnvC scope (cellsFrom (s3.heap.objs.size + 1) scope.names (cloFrom X.env.cells scope.names [])) s3.heap.objs.size X.env)) { s3 with heap := pushCells (s3.heap.push { cls := .type "dict", data := .dict #[] }) scope.names }
  have cF : (compEnvC scope (cellsFrom (s3.heap.objs.size + 1) scope.names (cloFrom X.env.cells scope.names [])) s3.heap.objs.size X.env).frame = X.env.frame := rfl
  have cL : (compEnvC scope (cellsFrom (s3.heap.objs.size + 1) scope.names (cloFrom X.env.cells scope.names [])) s3.heap.objs.size X.env).locals = s3.heap.objs.size := rfl
  generalize compEnvC scope (cellsFrom (s3.heap.objs.size + 1) scope.names (cloFrom X.env.cells scope.names [])) s3.heap.objs.size X.env = ce at I4 hg3 he3 cF cL ⊢
  have pg := hg3 (compXe X ce)
  have pe := he3 (compXe X ce) (comp_pass hs hf tk I3 cF cL fun b hb => (f3 b hb).1)
  have I4 := inv_tr I4 rfl (compXe X ce)
  generalize hH3 : upd H2 D (.lst []) = H3 at I3 I4 pg pe w0 nfp f3
  generalize hs4 : ({ s3 with heap := pushCells (s3.heap.push { cls := .type "dict", data := .dict #[] }) scope.names } : Shared) = s4 at I4 ⊢
  have st4 : tn 0 s4.heap := T.keep _ _ _ st3 fun b _ o e => by rw [← hs4]; exact pushCells_keeps _ _ _ _ (Heap.get?_push_of_some _ e)
  have stat : ∀ {σ' : L2.St} {H' : Hp} {s' : Shared}, Inv (blkE X s3 H3 scope ce fp (compXe X ce)) [] σ' H' s' → (∀ b ∈ fp, H' b = none) → ∀ b ∈ fp, FpOk (blkE X s3 H3 scope ce fp (compXe X ce)) [] H' b := fun {σ' H' s'} I' hn b hb =>
    ⟨hn b hb, (I'.ok.exf b hb).1, I'.ok.exfs b hb, .inl hb, fun x c e => (I'.ok.exf b hb).2 x c e, fun p hp => absurd (show p ∈ ([] : List (Addr × Obj)) ++ [] from hp) (by simp)⟩
  have loop : codeAny (model X.prog X.w) X.A (.compLoop (.ListComp elt [⟨tg, iter, [], 0⟩] scope pos) 0 (.ref it) (.ref D) ce) (compEnds (model X.prog X.w) X.A X.xe use Qf (.ref D) ce) s4 := by
    refine compLoop_any (fun n s' => ∃ i H', Inv (blkE X s3 H3 scope ce fp (compXe X ce)) [] (wipe σ (own.map (·.2))) H' s' ∧ tn i s'.heap ∧ (∀ b ∈ fp, H' b = none) ∧ W i n H') ?_ m0 ⟨0, H3, I4, st4, nfp, w0⟩
    rintro n s5 ⟨i, H5, I5, st5, n5, w5⟩
    have hxe : ∀ (e : Value) (s' : Shared), compXe X ce e s' → notedBy (model X.prog X.w) X.A ce (fun e s' => compEnds (model X.prog X.w) X.A X.xe use Qf (.ref D) ce (.error e) s') e s' := fun e s' h => by
      cases use <;> exact h
    rcases turn i n H5 w5 with ⟨stop, qq⟩ | ⟨go, Nx, hNx, step⟩
    · have td := T.done (blkE X s3 H3 scope ce fp (compXe X ce)) rfl rfl rfl hc i [] s5 _ H5 (fun _ _ => False) I5 (stat I5 n5) st5 stop
      refine thnF td fun r s6 ⟨hr, I6⟩ => ?_
      subst hr
      have I7 : Inv X pins σ H5 s6 := I3.call' (ch := fp) I6.os I6.base I6.hok I6.bare fun b hb => ⟨(f3 b hb).1.2.2.2.1, (f3 b hb).1.2.1, (f3 b hb).1.2.2.2.2.1, (f3 b hb).1.2.2.2.2.2⟩
      have nC : H5 ce.locals = none := I6.free
      obtain ⟨m, hn, _⟩ := I6.loc
      exact hRR D ce s6 m H5 I7 qq hn (I3.fpOk (Nat.le_of_eq cL.symm) nC)
    · have ti := T.item (blkE X s3 H3 scope ce fp (compXe X ce)) rfl rfl rfl hc i [] s5 _ H5 (fun _ _ => False) I5 (stat I5 n5) st5 go
      refine thnF ti fun r s6 ⟨u, hr, h6⟩ => ?_
      subst hr
      refine thnF h6 fun _ s7 ⟨x, H7, I7, r7, y7, st7, n7⟩ => ?_
      have I7' := I7.pinned (stat I7 n7) (T.obj _ _ st7)
      refine wpAny_mono (pg.run _ s7 _ H7 x u _ I7' r7 (step x H7 y7)) (fun _ s8 ⟨σ8, H8, I8, hw8, q8⟩ => ?_) hxe
      refine wpAny_pure ?_
      have fin : ∀ {s' : Shared} {H' : Hp}, Inv (blkE X s3 H3 scope ce fp (compXe X ce)) ([] ++ pinsAt fp s7.heap) σ8 H' s' → Nx H' → ∃ m, m < n ∧ ∃ i H', Inv (blkE X s3 H3 scope ce fp (compXe X ce)) [] (wipe σ (own.map (·.2))) H' s' ∧ tn i s'.heap ∧ (∀ b ∈ fp, H' b = none) ∧ W i m H' := fun {s' H'} I' nx => by
        obtain ⟨m', hm, w'⟩ := hNx H' nx
        have pin' : ∀ b ∈ fp, ∀ o, s7.heap.get? b = some o → s'.heap.get? b = some o ∧ H' b = none := fun b hb o e =>
          let z := I'.pin (b, o) (List.mem_append_right _ (List.mem_append_right _ (mem_pinsAt hb e)))
          ⟨z.1, z.2.1⟩
        have hl : (wipe σ (own.map (·.2))).length = σ8.length := by rw [← hw8, wipe_length]
        refine ⟨m', hm, i + 1, H', (I'.unpinned (pins := [])).weak hl (fun j v e => ?_), T.keep _ _ _ st7 fun b hb o e => (pin' b hb o e).1, fun b hb => ?_, w'⟩
        · rw [← hw8] at e
          exact (wipe_some e).1
        · obtain ⟨o, e, _⟩ := T.obj _ _ st7 b hb
          exact (pin' b hb o e).2
      simp only [if_true]
      have q9 : te σ8 H8 fun y H4 => ∃ acc, H4 D = some (HO.lst acc) ∧ acc.length < sizeLine ∧ Nx (upd H4 D (HO.lst (acc ++ [y]))) := q8
      refine wpAny_mono (pe.run _ s8 σ8 H8 _ I8 q9) (fun z s10 ⟨yv, H10, I10, r10, acc, hD10, hz10, nx⟩ => ?_) hxe
      exact app_ok (X := blkE X s3 H3 scope ce fp (compXe X ce)) I10 hD10 hz10 r10 fun s11 I11 => fin I11 nx
  exact codeAny_compStart_list loop (T.self X.A 0 _ _ _ st4 loop)
/-- name = [..] on one line, the element may raise -/
theorem ps_setLcX {X : Cx} {i : Nat} {y : Str} {py : Pos} {elt tg iter : Expr} {scope : Scope} {own : List (Str × Nat)} {pos spos : Pos} {wi : TI} {g : TG} {te : TE} {E : XK}
    (hs : X.stack = X.env :: X.outer) (hf : X.env.frame = some X.env.locals) (tk : L2N.Takes X (fun cls d _ H => E cls d H)) (hc : X.calm = true) (hN : X.N.Nodup) (hy : X.N[i]? = some y) (hyl : X.env.scope.names.lookup y = some .local)
    (hsw : swapsWith (.ListComp elt [⟨tg, iter, [], 0⟩] scope pos) (some (.Name y py)) spos.line X.env = pure true) (hi : PI X tg iter wi) (ok : BlkOk X.N X.env.scope scope own)
    (hg : ∀ (s : Shared) (H : Hp) (C : Addr) (cl : List (Str × Addr)) (fp : List Addr) (xe : Value → Shared → Prop), PG (blkE X s H scope (compEnvC scope cl C X.env) fp xe) tg g)
    (he : ∀ (s : Shared) (H : Hp) (C : Addr) (cl : List (Str × Addr)) (fp : List Addr) (xe : Value → Shared → Prop), Passes (L2N.CX X.prog X.w) (blkE X s H scope (compEnvC scope cl C X.env) fp xe) E → PE (blkE X s H scope (compEnvC scope cl C X.env) fp xe) elt te)
    (hsI : ∀ x, foldedSetIterable iter X.env x = pure x := by intro _; rfl) :
    PS X (.Assign [.Name y py] (.ListComp elt [⟨tg, iter, [], 0⟩] scope pos) spos) (tAsg (tLc wi g tYes te (own.map (·.2))) (gName i)) := by
  refine ⟨fun pins s σ H D I h => ?_⟩
  rw [exec_Assign_Name_used _ _ _ _ hsw]
  refine wpAny_bind (wpAny_standAt (wpAny_bind ?_))
  show wpAny _ X.A (do let _ ← comprehension (.ListComp elt [⟨tg, iter, [], 0⟩] scope pos) scope X.env (firstIterPos [⟨tg, iter, [], 0⟩] pos) (newList []) false (eval iter X.env) (some (assign (.Name y py) X.env))) _ _ s
  have h : tLc wi g tYes te (own.map (·.2)) σ H (fun x H1 => gName i x σ H1 D.nx) := h
  refine wpAny_bind (thn (lc_raise (Qf := fun _ s' => SP X pins D .next s') hs hf tk hc hN I hi ok hg he hsI h fun L ce s' m H' I' q hn f => ?_) fun _ s' hq => wpAny_pure (wpAny_pure hq))
  show wpAny _ _ (assign (.Name y py) X.env (.ref L)) _ _ _
  refine wpAny_assign_Name (store_ok2 (v := V.ref L) I' hN hy (.inl hyl) rfl (fun s2 I2 ⟨a, sb, ha⟩ => ?_) (.inr hyl))
  obtain ⟨f0, f1, f2, f3, f4, f5⟩ := f
  have haC : ce.locals ≠ a := by
    rcases ha with z | z
    · rw [z]; exact f1
    · exact fun e => f4 y a z e.symm
  refine ⟨m, hn.sameBut sb haC, fun h3 sb3 => ?_⟩
  exact ⟨_, H', I2.turned (t' := s2.toks) (fun b o hb e => (sb3.2 b hb).trans e) f0 f1 f3 f4 f5, q⟩
end Pk
namespace Pk
open PySem PySem.Spec PyProof.Rows L2 Evl He
/-! ### errors whose context is told: None, or an error that the ground holds, whose context is None -/
def CtxT (B : Heap) (H : Hp) (o : Obj) : Prop := ∀ vs : Array Value, o.data = .fields vs → vs[2]? = some .none ∨ ∃ (q : Addr × Obj) (ws : Array Value), vs[2]? = some (.ref q.1) ∧ B.get? q.1 = some q.2 ∧ H q.1 = none ∧ q.2.data = .fields ws ∧ ws[2]? = some .none
def Zt (B : Heap) (H : Hp) (cls : Value) (d : Option Addr) : Obj → Prop := fun o => (o.cls = cls ∧ o.dict = d) ∧ CtxT B H o
theorem fld2 {o : Obj} {v : Value} {vs : Array Value} (e : (o.mapFields (·.setIfInBounds 1 v)).data = .fields vs) : ∃ vs0, o.data = .fields vs0 ∧ vs[2]? = vs0[2]? := by
  obtain ⟨c, d, dt, sl⟩ := o
  cases dt with
  | fields w0 =>
    have e2 : w0.setIfInBounds 1 v = vs := Data.fields.inj e
    exact ⟨w0, rfl, by rw [← e2]; simp [Array.getElem?_setIfInBounds]⟩
  | _ => cases e
theorem Zt.steady {B : Heap} {H : Hp} {cls : Value} {d : Option Addr} : PXN.Steady1 (Zt B H cls d) := fun o v h =>
  ⟨⟨PXN.steady_cls o v h.1.1, PXN.steady_dict o v h.1.2⟩, fun vs e => by
    obtain ⟨vs0, e0, e2⟩ := fld2 e
    rw [e2]
    exact h.2 vs0 e0⟩
theorem Zt.ofN {B : Heap} {H : Hp} {cls : Value} {d : Option Addr} {o : Obj} (h : L2N.Zn cls d o) : Zt B H cls d o := ⟨⟨h.1, h.2.1⟩, fun vs e => .inl (h.2.2 vs e)⟩
theorem traced_imp {h B : Heap} {a : Addr} {Z Z' : Obj → Prop} {fl : Value} (z : ∀ o, Z o → Z' o) (x : HandSPX.TracedZ h B a Z fl) : HandSPX.TracedZ h B a Z' fl :=
  let ⟨oe, vs, T, oT, ts, he, hz, r⟩ := x
  ⟨oe, vs, T, oT, ts, he, z _ hz, r⟩
theorem sky_imp {B h : Heap} {l : List Env} {a L : Addr} {Z Z' : Obj → Prop} (z : ∀ o, Z o → Z' o) (x : Sky B l a Z L h) : Sky B l a Z' L h := by
  rcases x with ⟨p1, p2, p3, oe, vs, p4, p5, p6⟩ | ⟨p1, p2, p3, p4⟩ | ⟨p1, p2, p3, p4⟩
  · exact .inl ⟨p1, p2, p3, oe, vs, p4, z _ p5, p6⟩
  · exact .inr (.inl ⟨p1, p2, p3, traced_imp z p4⟩)
  · exact .inr (.inr ⟨p1, p2, p3, traced_imp z p4⟩)
/-- in the air of X -/
def XT (X : Cx) (W : WX) (u : Value) (s' : Shared) : Prop :=
  ∃ (a : Addr) (B : Heap) (sI : Shared) (pins : List (Addr × Obj)) (σ : L2.St) (H : Hp) (cls : Value) (d : Option Addr), u = .ref a ∧ Inv X pins σ H sI ∧ (∀ b o, sI.heap.get? b = some o → b ∉ frs X.stack → B.get? b = some o) ∧ sI.heap.UpToSlots s'.heap ∧
    Sky B X.stack a (Zt B H cls d) X.env.locals s'.heap ∧ H a = none ∧ s'.os = sI.os ∧ AllBare s'.gens ∧ W cls d σ H
def TakesT (X : Cx) (W : WX) : Prop := ∀ u s', XT X W u s' → X.xe u s'
theorem XT.ofN {X : Cx} {W : WX} {u : Value} {s' : Shared} (x : L2N.XE X W u s') : XT X W u s' := by
  obtain ⟨a, B, sI, pins, σ, H, cls, d, e, I, nb, up, sky, r⟩ := x
  exact ⟨a, B, sI, pins, σ, H, cls, d, e, I, nb, up, sky_imp (fun o => Zt.ofN) sky, r⟩
theorem TakesT.n {X : Cx} {W : WX} (t : TakesT X W) : L2N.Takes X W := fun u s' x => t u s' (.ofN x)
/-- behind a call -/
def CXt (P : Program) (w : World) (outer : List Env) (H : Hp) (s : Shared) (E : XK) (u : Value) (s' : Shared) : Prop :=
  ∃ (a : Addr) (B : Heap) (G : Hp) (cls : Value) (d : Option Addr), u = .ref a ∧ HandSPX.FlyingZ B outer a (Zt B G cls d) s'.heap ∧ HOk P w G B ∧ UB (frs outer) H G s.heap B s'.heap ∧ G a = none ∧ s'.os = s.os ∧ AllBare s'.gens ∧ E cls d G
section
variable {X : Cx} {pins : List (Addr × Obj)} {σ : L2.St} {H : Hp} {s s' : Shared} {W : WX} {E : XK}
theorem XT.of_call (I : Inv X pins σ H s) (hW : ∀ cls d G, E cls d G → W cls d σ G) {u : Value} (c : CXt X.prog X.w X.stack H s E u s') : XT X W u s' := by
  obtain ⟨a, B, G, cls, d, rfl, fl, hok, ub, na, os, ag, hE⟩ := c
  have st : B.StaysIn s'.heap := fl.1
  -- the ground and the frames, as they stand now
  obtain ⟨R, r1, r2⟩ := restrict s'.heap fun b => (B.get? b).isSome || decide (b ∈ frs X.stack)
  have rB : ∀ b o, B.get? b = some o → R.get? b = some o := fun b o e => (r1 b (by rw [e]; rfl)).trans (st b o e)
  have rF : ∀ b, b ∈ frs X.stack → R.get? b = s'.heap.get? b := fun b hb => r1 b (by rw [decide_eq_true hb, Bool.or_true])
  have ofR : ∀ b o, R.get? b = some o → s'.heap.get? b = some o ∧ ((∃ o', B.get? b = some o') ∨ b ∈ frs X.stack) := fun b o e => by
    cases hq : ((B.get? b).isSome || decide (b ∈ frs X.stack)) with
    | false =>
      have := r2 b hq
      rw [e] at this
      cases this
    | true =>
      refine ⟨(r1 b hq).symm.trans e, ?_⟩
      rcases Bool.or_eq_true_iff.mp hq with z | z
      · exact .inl (Option.isSome_iff_exists.mp z)
      · exact .inr (of_decide_eq_true z)
  have J : Inv X pins σ G { s with heap := R, gens := s'.gens, drawn := s'.drawn, toks := s'.toks } := I.call (ch := [])
    ⟨fun b o e n hb _ => rB b o (ub.keep b o e n hb),
     fun b o e n hb _ => let ⟨sl, q⟩ := ub.slot b o e hb; ⟨sl, (rF b hb).trans q⟩,
     fun b o e n _ => ub.free b o e n,
     fun b o e _ => by
      by_cases hb : b ∈ frs X.stack
      · exact let ⟨sl, q⟩ := ub.slot b o e hb; ⟨_, (rF b hb).trans q⟩
      · exact let ⟨o', q⟩ := ub.there b o e hb; ⟨o', rB b o' q⟩,
     ub.tups, ub.frzs, ub.tbls⟩ (hok.kept rB) ag fun _ z => nomatch z
  refine ⟨a, B, _, pins, σ, G, cls, d, rfl, J, fun b o e hb => ?_, Heap.UpToSlots.of_keeps fun b o e => (ofR b o e).1, .inr (.inl fl), na, os, ag, hW _ _ _ hE⟩
  obtain ⟨e1, ⟨o', q⟩ | q⟩ := ofR b o e
  · rw [st b o' q] at e1
    cases e1
    exact q
  · exact absurd q hb
/-- it leaves the def -/
theorem XT.leave (hs : X.stack = X.env :: X.outer) (hf : X.env.frame = some X.env.locals) (hex : X.ex = []) {E₁ : Value → Shared → Prop} (hW : ∀ cls d σ G, W cls d σ G → E cls d G) {u : Value} (x : XT X W u s') :
    wpAny (model X.prog X.w) X.A (leaving X.env u) (fun _ t => CXt X.prog X.w X.outer X.H_0 X.s_0 E u t) E₁ s' := by
  obtain ⟨a, B, sI, pins, σ, G, cls, d, rfl, I, nb, up, sky, na, os, ag, hw⟩ := x
  have frA : X.A.frames = some (X.env :: X.outer) := I.ok.frames.trans (congrArg some hs)
  have none_ex : ∀ b, b ∉ X.ex := fun b => by rw [hex]; exact List.not_mem_nil
  have old : ∀ b o, X.s_0.heap.get? b = some o → b ∉ X.fs → b ∉ frs X.stack := fun b o e hb hm => by
    rcases List.mem_cons.mp (I.stkSub b hm) with z | z
    · subst z
      exact absurd (Nat.lt_of_lt_of_le (Heap.lt_size e) I.ok.above) (Nat.lt_irrefl _)
    · exact hb z
  have done : ∀ h2, HandSPX.FlyingZ B X.outer a (Zt B G cls d) h2 → s'.heap.UpToSlots h2 → CXt X.prog X.w X.outer X.H_0 X.s_0 E (.ref a) { s' with heap := h2 } := fun h2 fl up2 => by
    refine ⟨a, B, G, cls, d, rfl, fl, I.inGround nb, ⟨fun b o e n hb => nb b o (I.base.keep b o e n hb (none_ex b)) (old b o e hb), fun b o e hb => ?_, fun b o e n => I.base.free b o e n (none_ex b), fun b o e hb => ?_, I.base.tups, I.base.frzs, I.base.tbls⟩, na, os.trans I.os, ag, hW _ _ _ _ hw⟩
    · obtain ⟨_, oz, ez, nf⟩ := I.ok.funs.mem hb
      rw [e] at ez
      cases ez
      obtain ⟨l1, q1⟩ := I.base.slot b o e (I.ok.frf b hb) hb (none_ex b)
      obtain ⟨l2, q2⟩ := up b _ q1 nf
      obtain ⟨l3, q3⟩ := up2 b _ q2 nf
      exact ⟨l3, q3⟩
    · obtain ⟨o', q⟩ := I.base.there b o e (none_ex b)
      exact ⟨o', nb b o' q (old b o e hb)⟩
  rw [hs] at sky
  rcases sky with ⟨p1, p2, p3, oe, vs, p4, p5, p6, p7⟩ | fl | hd
  · exact PXN.leaving_firstZ Zt.steady frA p3 hf p4 p1 p2 p6 p7 p5 done
  · exact PXN.leaves_onZ Zt.steady frA hf fl done
  · exact HandSPX.leaves_heldZ hf hd done
theorem takesT_of (hs : X.stack = X.env :: X.outer) (hf : X.env.frame = some X.env.locals) (hex : X.ex = []) {E₁ : Value → Shared → Prop}
    (hx : X.xe = fun e t => wpAny (model X.prog X.w) X.A (leaving X.env e) (fun _ r => CXt X.prog X.w X.outer X.H_0 X.s_0 E e r) E₁ t) : TakesT X (fun cls d _ G => E cls d G) := fun u t x => by
  rw [hx]
  exact XT.leave (W := fun cls d _ G => E cls d G) hs hf hex (fun _ _ _ _ h => h) x
theorem passAtT (tk : TakesT X W) (σ : L2.St) : PassesAt (CXt X.prog X.w) X σ (WE W σ) := fun _ _ _ u t I c => tk u t (XT.of_call I (fun _ _ _ h => h) c)
/-- more pins -/
theorem pins_more (I : Inv X pins σ H s) {q : Addr × Obj} {ws : Array Value} (h1 : s.heap.get? q.1 = some q.2) (hd : q.2.data = .fields ws) (h2 : H q.1 = none) (h3 : q.1 ≠ X.env.locals) (h4 : q.1 ∉ X.fs) : Inv X (q :: pins) σ H s :=
  ⟨I.ok, I.os, I.bare, I.base, I.loc, I.cell, I.free, I.freeC, fun p hp => by
    rcases List.mem_append.mp hp with m | m
    · exact I.pin p (List.mem_append_left _ m)
    · rcases List.mem_cons.mp m with rfl | m
      · exact ⟨h1, h2, h3, h4, fun v z => by rw [hd] at z; cases z⟩
      · exact I.pin p (List.mem_append_right _ m), I.hok, I.len⟩
theorem pins_less {q : Addr × Obj} (I : Inv X (q :: pins) σ H s) : Inv X pins σ H s :=
  ⟨I.ok, I.os, I.bare, I.base, I.loc, I.cell, I.free, I.freeC, fun p hp => I.pin p (by
    rcases List.mem_append.mp hp with m | m
    · exact List.mem_append_left _ m
    · exact List.mem_append_right _ (List.mem_cons_of_mem _ m)), I.hok, I.len⟩
end
/-- what the suite's pins tell of the context -/
def CtxP (oe : Obj) (pn : List (Addr × Obj)) : Prop := ∀ vs : Array Value, oe.data = .fields vs → vs[2]? = some .none ∨ ∃ (q : Addr × Obj) (ws : Array Value), vs[2]? = some (.ref q.1) ∧ q ∈ pn ∧ q.2.data = .fields ws ∧ ws[2]? = some .none
theorem off_frames {B h : Heap} {l : List Env} {b : Addr} {o : Obj} {ws : Array Value} (ff : h.FunFrames B l) (e : h.get? b = some o) (d : o.data = .fields ws) : b ∉ frs l := fun m => by
  obtain ⟨_, oz, ez, nf⟩ := ff.mem m
  rw [e] at ez
  cases ez
  exact nf _ d
theorem off_two {X : Cx} {b : Addr} (hf : X.env.frame = some X.env.locals) (n : b ∉ frs (X.env :: X.outer)) : b ≠ X.env.locals ∧ b ∉ X.fs :=
  ⟨fun z => n (List.mem_filterMap.mpr ⟨X.env, List.mem_cons_self, by rw [hf, z]⟩), fun m => by
    obtain ⟨v, hv, q⟩ := List.mem_filterMap.mp m
    exact n (List.mem_filterMap.mpr ⟨v, List.mem_cons_of_mem _ hv, q⟩)⟩
/-- with the context's error among the pins -/
theorem with_ctx {X : Cx} {B : Heap} {pins : List (Addr × Obj)} {σ : L2.St} {H : Hp} {s : Shared} {oe : Obj} (hf : X.env.frame = some X.env.locals) (I : Inv X pins σ H s) (st : B.StaysIn s.heap) (ff : s.heap.FunFrames B (X.env :: X.outer)) (hc : CtxT B H oe) (hd : ∃ vs, oe.data = .fields vs) :
    ∃ pn2, Inv X pn2 σ H s ∧ CtxP oe (X.pn ++ pn2) ∧ ∀ σ2 H2 s2, Inv X pn2 σ2 H2 s2 → Inv X pins σ2 H2 s2 := by
  obtain ⟨vs, ed⟩ := hd
  rcases hc vs ed with h | ⟨q, ws, h1, h2, h3, h4, h5⟩
  · refine ⟨pins, I, fun vs2 e2 => ?_, fun _ _ _ J => J⟩
    rw [ed] at e2
    cases e2
    exact .inl h
  · obtain ⟨n1, n2⟩ := off_two hf (off_frames ff (st _ _ h2) h4)
    refine ⟨q :: pins, pins_more I (st _ _ h2) h4 h3 n1 n2, fun vs2 e2 => ?_, fun _ _ _ J => pins_less J⟩
    rw [ed] at e2
    cases e2
    exact .inr ⟨q, ws, h1, List.mem_append_right _ List.mem_cons_self, h4, h5⟩
section
variable {X : Cx} {x n : Str} {c : Value} {i : Nat} {body suite : List Stmt} {b₀ : Stmt} {np pos pos' : Pos} {tb : WX → TS} {ts : Addr → Value → Option Addr → TS} {Wout : WX}
/-- back from the try's body -/
theorem tried {pins : List (Addr × Obj)} {D : Ends} {xe : Value → Shared → Prop} {f : Flow} {s1 : Shared} (ok : X.Ok) (h : SP (X.tr (X.pn ++ pins) xe) [] D f s1) : SP X pins D f s1 := by
  cases f with
  | ret u => exact let ⟨v, σ', H', J, r, q⟩ := h; ⟨v, σ', H', J.ofTry ok, r, q⟩
  | _ => exact let ⟨σ', H', J, q⟩ := h; ⟨σ', H', J.ofTry ok, q⟩
theorem ps_try_asT (hs : X.stack = X.env :: X.outer) (hf : X.env.frame = some X.env.locals) (hN : X.N.Nodup) (hi : X.N[i]? = some n) (hln : X.env.kindOf n = some .local) (hc : Names X x c) (tk : TakesT X Wout)
    (hb : ∀ (W : WX) (pn : List (Addr × Obj)) (xe : Value → Shared → Prop), TakesT (X.tr pn xe) W → PassesOwn (model X.prog X.w) X.A X.env xe → PSs (X.tr pn xe) body (tb W))
    (hsu : ∀ (a : Addr) (oe : Obj) (cls : Value) (d : Option Addr) (pn : List (Addr × Obj)), Zc cls d oe → (∃ vs, oe.data = .fields vs) → CtxP oe pn → PSs (X.suite a ((a, oe) :: pn)) (b₀ :: suite) (ts a cls d)) :
    PS X (.Try body [.ExceptHandler (some (.Name x np)) (some n) (b₀ :: suite) pos'] [] [] pos) (fun D σ H => tb (wAs X.K c i ts Wout D) D σ H) := by
  refine ⟨fun pins s σ H D I h => wpAny_Try_except ?_⟩
  have ok := I.ok
  have frA : X.A.frames = some (X.env :: X.outer) := ok.frames.trans (congrArg some hs)
  refine wpAny_mono ((hb (wAs X.K c i ts Wout D) (X.pn ++ pins) _ (fun u t xx => ?_) PassesOwn.looking).run [] s σ H D (I.toTry _) h) (fun f s1 hsp => ?_) (fun e t z => z)
  rotate_left
  · have g := tried ok hsp
    cases f with
    | next => exact wpAny_execs_nil g
    | _ => exact g
  obtain ⟨a, B, sI, pn1, σ1, G, cls, d, rfl, J1, nb, up, sky, na, os, ag, b, hb1, hyes, hno⟩ := xx
  have J : Inv X pins σ1 G sI := J1.ofTry ok
  rw [show (X.tr (X.pn ++ pins) _).stack = X.env :: X.outer from hs] at sky
  show wpAny (model X.prog X.w) X.A (noteFrame (.ref a) X.env) _ _ _
  refine L2N.Sky.land Zt.steady frA hf sky fun h3 fl3 up3 => ?_
  have K3 : Inv X pins σ1 G { t with heap := h3 } := J.landed nb fl3.1 (up.trans up3) os ag
  obtain ⟨oe3, vs3, g3, z3, f3⟩ := fl3.there
  obtain ⟨nL, nF⟩ := off_two hf (off_frames fl3.2.2.1 g3 f3)
  have S3 := K3.suite g3 f3 na nL nF
  refine wpAny_handleBy_cons (codeAny_handlers_test ?_) (by intro q; cases q)
  have ofc : PySem.W.Looks (model X.prog X.w) h3 (typeOf (.ref a)) cls := fun _ _ _ _ k q => wpAny_typeOf_ref (k _ _ g3) (by rw [z3.1.1]; exact q)
  have told := PySem.W.exm_one (M := model X.prog X.w) K3.kIn ofc hb1
  have named : ∀ {Q E : Value → Shared → Prop}, Q c { t with heap := h3 } → wpAny (model X.prog X.w) (X.A.mark (some (.ref a))) (eval (.Name x np) X.env) Q E { t with heap := h3 } := fun {Q E} q => by
    obtain ⟨hg, hdbg, hm | ⟨hm, hv, hnn⟩⟩ := hc
    · exact ld_glob (X := X.suite a ((a, oe3) :: (X.pn ++ pins))) S3 hg hm q hdbg
    · exact ld_blt (X := X.suite a ((a, oe3) :: (X.pn ++ pins))) S3 hg hm hv q hnn hdbg
  refine named (told.here ?_)
  cases b with
  | false =>
    show wpAny _ X.A (handleBy (.ref a) X.env []) _ _ _
    refine wpAny_handleBy_nil ?_
    obtain ⟨y1, y2, y3, oy, vy, Ty, oTy, ty, y4, y5, y6, y7, y8⟩ := id fl3
    have last : wpAny (model X.prog X.w) X.A (setFlight (.ref a) X.env.frame) (fun _ s4 => wpAny (model X.prog X.w) X.A (throw (.ref a) : Sem Flow) (SP X pins D) X.xe s4) X.xe { t with heap := h3 } := by
      rw [hf]
      exact HandSPX.setFlight_upZ fl3 fun h4 hh4 up4 => wpAny_throw (tk _ _ ⟨a, B, sI, pins, σ1, G, cls, d, rfl, J, nb, (up.trans up3).trans up4, .inr (.inr (by rw [hs]; exact hh4)), na, os, ag, hno rfl⟩)
    unfold PySem.passOn
    refine wpAny_bind (wpAny_field y4 y6 y7 ?_)
    rw [if_neg (by simp)]
    first
      | exact wpAny_bind (wpAny_pure (wpAny_bind last))
      | exact wpAny_bind last
  | true =>
    refine codeAny_handlers_suite_as (HandSPX.lands_againZ fl3 fun h4 fl4 up4 => ?_)
    have K4 : Inv X pins σ1 G { t with heap := h4 } := J.landed nb fl4.1 ((up.trans up3).trans up4) os ag
    obtain ⟨oe4, vs4, g4, z4, f4⟩ := fl4.there
    obtain ⟨pn2, K5, hctx, back⟩ := with_ctx (s := { t with heap := h4 }) hf K4 fl4.1 fl4.2.2.1 z4.2 ⟨_, f4⟩
    have S4 := K5.suite g4 f4 na nL nF
    refine store_ok (X := X.suite a ((a, oe4) :: (X.pn ++ pn2))) (v := .ref a) S4 hN hi (.inl hln) rfl (fun s5 S5 => ?_) (.inr hln)
    refine wpAny_mono ((hsu a oe4 cls d (X.pn ++ pn2) z4.1 ⟨_, f4⟩ hctx).run [] s5 _ G _ S5 (hyes rfl a na)) (fun f s6 hsp => ?_) (fun _ _ z => False.elim z)
    have shut : ∀ {σ6 : L2.St} {H6 : Hp} {Q : Shared → Prop}, Inv (X.suite a ((a, oe4) :: (X.pn ++ pn2))) [] σ6 H6 s6 → (∀ s7, Inv X pins (σ6.set i none) H6 s7 → Q s7) → wpAny (model X.prog X.w) X.A (do bindName X.env n .none; unbindBehindTheSuite X.env n pos') (fun _ s7 => Q s7) X.xe s6 :=
      fun S6 hq => gone_ok (back _ _ _ (S6.unsuite ok)) hN hi hln hq
    cases f with
    | ret u => exact let ⟨v6, σ6, H6, S6, r6, q6⟩ := hsp; shut S6 fun s7 J7 => ⟨v6, _, _, J7, r6, q6⟩
    | _ => exact let ⟨σ6, H6, S6, q6⟩ := hsp; shut S6 fun s7 J7 => ⟨_, _, J7, q6⟩
end
end Pk
namespace Pk
open PySem PySem.Spec PyProof.Rows L2 Evl He
/-! ### raising where an error is handled whose context is an error -/
section
variable {prog : Program} {w : World} {A : Around} {E : Value → Shared → Prop} {s : Shared}
theorem unchained2 {x1 x2 a : Addr} {o1 o2 : Obj} {vs1 vs2 : Array Value} {Q : Value → Shared → Prop} (h1 : s.heap.get? x1 = some o1) (d1 : o1.data = .fields vs1) (c1 : vs1[2]? = some (.ref x2)) (h2 : s.heap.get? x2 = some o2) (d2 : o2.data = .fields vs2) (c2 : vs2[2]? = some .none) (n1 : x2 ≠ a) (q : Q .none s) :
    wpAny (model prog w) A (holding [Value.ref a] (runValue (.builtin "proto.unchain" ⟨[.ref a, .ref x1, .ref x1, .bool false], []⟩))) Q E s := by
  have n2 : x2 ≠ x1 := fun z => by
    subst z
    rw [h1] at h2
    cases h2
    rw [d1] at d2
    cases d2
    rw [c1] at c2
    cases c2
  refine wpAny_holding (wpAny_runValue (codeAny_builtin HotX.entry_unchain ?_))
  show wpAny _ _ (field (.ref x1) 2 >>= _) _ _ s
  refine wpAny_bind (wpAny_field h1 d1 c1 ?_)
  rw [if_neg (show ¬ (Value.ref x2 == Value.none) = true by simp)]
  rw [if_neg (show ¬ (Value.ref x2 == Value.ref a) = true by simp [n1])]
  rw [if_neg (show ¬ (Value.ref x2 == Value.ref x1) = true by simp [n2])]
  rw [if_neg (by decide)]
  refine wpAny_bind (wpAny_pure ?_)
  refine wpAny_pure ⟨plainId_quiet (by decide +kernel) _, codeAny_builtin HotX.entry_unchain ?_⟩
  show wpAny _ _ (field (.ref x2) 2 >>= _) _ _ s
  refine wpAny_bind (wpAny_field h2 d2 c2 ?_)
  rw [if_pos (show (Value.none == Value.none) = true from rfl)]
  first
  | exact wpAny_bind (wpAny_pure (wpAny_pure q))
  | exact wpAny_pure q
/-- the errors that are handled: x1, and what came before it -/
def Chain (h : Heap) (x1 x2 : Addr) : Prop := ∃ (o : Obj) (vs : Array Value), h.get? x1 = some o ∧ o.data = .fields vs ∧ (vs[2]? = some .none ∨ ∃ (o2 : Obj) (ws : Array Value), vs[2]? = some (.ref x2) ∧ h.get? x2 = some o2 ∧ o2.data = .fields ws ∧ ws[2]? = some .none)
theorem Chain.mono {h h2 : Heap} {x1 x2 : Addr} (c : Chain h x1 x2) (k : ∀ b o, b = x1 ∨ b = x2 → h.get? b = some o → h2.get? b = some o) : Chain h2 x1 x2 := by
  obtain ⟨o, vs, e, d, r⟩ := c
  refine ⟨o, vs, k _ _ (.inl rfl) e, d, ?_⟩
  rcases r with r | ⟨o2, ws, r1, r2, r3⟩
  · exact .inl r
  · exact .inr ⟨o2, ws, r1, k _ _ (.inr rfl) r2, r3⟩
theorem unchainedC {x1 x2 a : Addr} {Q : Value → Shared → Prop} (c : Chain s.heap x1 x2) (n : x2 ≠ a) (q : Q .none s) : wpAny (model prog w) A (holding [Value.ref a] (runValue (.builtin "proto.unchain" ⟨[.ref a, .ref x1, .ref x1, .bool false], []⟩))) Q E s := by
  obtain ⟨o, vs, e, d, r | ⟨o2, ws, r1, r2, r3, r4⟩⟩ := c
  · exact HotX.unchained e d r q
  · exact unchained2 e d r1 r2 r3 r4 n q
theorem raiseNew_warm {α : Type} {a x1 x2 : Addr} {oe : Obj} {vs : Array Value} {Q : α → Shared → Prop} (hh : A.handled = some (.ref x1)) (c : Chain s.heap x1 x2) (n1 : x1 ≠ a) (n2 : x2 ≠ a) (ha : s.heap.get? a = some oe) (da : oe.data = .fields vs) (hi : 2 < vs.size)
    (hE : E (.ref a) { s with heap := s.heap.update a (Obj.mapFields (·.setIfInBounds 2 (.ref x1))) }) : wpAny (model prog w) A (raiseNew (.ref a) : Sem α) Q E s := by
  have nb : (Value.ref x1 != Value.ref a) = true := HotX.ref_bne n1
  unfold raiseNew
  refine wpAny_bind (wpAny_handled ?_)
  rw [hh]
  first
  | (show wpAny _ _ (if (Value.ref x1 != Value.ref a) = true then _ else _) _ _ _
     rw [if_pos nb]
     first
     | exact wpAny_bind (unchainedC c n2 (wpAny_bind (HotX.chained ha da hi (wpAny_throw hE))))
     | exact wpAny_bind (wpAny_bind (unchainedC c n2 (HotX.chained ha da hi (wpAny_throw hE)))))
  | (refine wpAny_bind ?_
     show wpAny _ _ (if (Value.ref x1 != Value.ref a) = true then _ else _) _ _ _
     rw [if_pos nb]
     exact wpAny_bind (unchainedC c n2 (HotX.chained ha da hi (wpAny_throw hE))))
end
/-- the end of a list's walk there -/
theorem list_end_warm {prog : Program} {w : World} {A : Around} {E : Value → Shared → Prop} {s : Shared} {it l x1 x2 : Addr} {i : Nat} {items : Array Value} {Q : Option Value → Shared → Prop} (hh : A.handled = some (.ref x1)) (c : Chain s.heap x1 x2) (hne : x1 ≠ it) (hne2 : x2 ≠ it)
    (lt1 : x1 < s.heap.objs.size) (lt2 : x2 < s.heap.objs.size) (hit : s.heap.IsListIter it l i) (hl : s.heap.IsList l items) (hx : items[i]? = none)
    (hQ : ∀ h', Heap.ExtBut it s.heap h' → Q none { s with heap := h' }) : wpAny (model prog w) A (pyNext (.ref it)) Q E s := by
  obtain ⟨o, ho, hc, hd⟩ := id hit
  obtain ⟨ol, hol, _, nl, hdl⟩ := hl
  unfold pyNext
  refine wpAny_bind (wpAny_attempt (wpAny_callSpecial?_slot (name := Str.ofString "__next__") hit.typeIs slot_listiter_next
    (wpAny_call_entry slot_listiter_next hit.typeIs entry_listiter_next ?_ (args_listiter_next _))))
  show wpAny _ _ (field (.ref it) 0 >>= _) _ _ s
  refine wpAny_bind (wpAny_field ho hd (x := .ref l) rfl ?_)
  show wpAny _ _ (if (Value.ref l == Value.none) = true then _ else _) _ _ s
  rw [if_neg (show ¬ ((Value.ref l == Value.none) = true) from Bool.false_ne_true)]
  show wpAny _ _ (field (.ref it) 1 >>= _) _ _ s
  refine wpAny_bind (wpAny_field ho hd (x := .int i 0) rfl ?_)
  show wpAny _ _ (seqItems? (.ref l) >>= _) _ _ s
  refine wpAny_bind (wpAny_seqItems hol hdl ?_)
  simp only [Int.toNat_natCast, hx]
  refine wpAny_bind (wpAny_rule (wpAny_bind (wpAny_setField ho hd (by simp) ?_)))
  show wpAny _ _ (newExc (.type "StopIteration") [] >>= _) _ _ _
  refine wpAny_bind ?_
  simp only [newExc, newTuple]
  refine wpAny_bind (wpAny_newObj_type ?_ (by size_fits))
  refine wpAny_bind (m := firstArgMember _ _) (wpAny_of_eq (a := Value.none) (by first | rfl | (simp only [firstArgMember]; rfl)) ?_)
  refine wpAny_newObj_type ?_ (by size_fits)
  refine raiseNew_warm hh (c.mono fun b ob hb e => Heap.get?_push_of_some _ (Heap.get?_push_of_some _ ((Heap.get?_update_other _ _ (Ne.symm (by rcases hb with rfl | rfl <;> assumption))).trans e))) ?_ ?_ (Heap.get?_push_size _ rfl) rfl (by first | (simp; done) | (simp; omega) | (simp only [Array.size_append]; simp; omega)) ?_
  · refine Nat.ne_of_lt (Nat.lt_of_lt_of_le lt1 ?_)
    simp [Heap.push, Heap.update]
  · refine Nat.ne_of_lt (Nat.lt_of_lt_of_le lt2 ?_)
    simp [Heap.push, Heap.update]
  refine wpAny_bind (wpAny_isInstance (T := "StopIteration") (b := true) ⟨_, Heap.get?_update_self _ (Heap.get?_push_size _ rfl) rfl, rfl⟩ isSubtype_stop ?_)
  refine wpAny_pure (hQ _ fun b ob hb e => ?_)
  have e1 := (Heap.get?_update_other s.heap (Obj.mapFields fun x => x.setIfInBounds 0 Value.none) (Ne.symm hb)).trans e
  rw [Heap.get?_update_other _ _ (Nat.ne_of_gt (Heap.lt_size (Heap.get?_push_of_some _ e1)))]
  exact Heap.get?_push_of_some _ (Heap.get?_push_of_some _ e1)
theorem Chain.lt {h : Heap} {x1 x2 : Addr} (c : Chain h x1 x2) : x1 < h.objs.size := let ⟨_, _, e, _⟩ := c; Heap.lt_size e
theorem walks_warm {prog : Program} {w : World} {A : Around} {x1 x2 : Addr} (hh : A.handled = some (.ref x1)) (I ax : Addr) (hne : ax ≠ I) (hx : x1 ≠ I) (hx2 : x2 ≠ I) (items : Array Value) :
    Walks prog w A I [I, ax, x1, x2] [I] items.size (fun i v => items[i]? = some v) (fun i h => h.IsListIter I ax i ∧ h.IsList ax items ∧ Chain h x1 x2 ∧ ∃ o, h.get? x2 = some o) where
  sub := fun b hb => by simp at hb; simp [hb]
  frame := fun _ _ _ st hk => ⟨st.1.at fun o e => hk I (by simp) o e, st.2.1.at fun o e => hk ax (by simp) o e, st.2.2.1.mono fun b o hb e => hk b (by rcases hb with rfl | rfl <;> simp) o e, by
    obtain ⟨o, e⟩ := st.2.2.2
    exact ⟨o, hk x2 (by simp) o e⟩⟩
  item := fun i s Q E hi st hQ => by
    refine wpAny_pyNext_list_item st.1 st.2.1 (x := items[i]) (by simp [hi]) fun h' hit' hs' => ?_
    refine hQ _ h' s.toks (by simp [hi]) ⟨hit', st.2.1.extBut hs'.extBut hne, st.2.2.1.mono fun b o hb e => hs'.extBut b o (by rcases hb with rfl | rfl <;> assumption) e, ?_⟩ fun b o hb e => hs'.extBut b o (fun h => hb (by simp [h])) e
    obtain ⟨o, e⟩ := st.2.2.2
    exact ⟨o, hs'.extBut x2 o hx2 e⟩
  done := fun s Q E st hQ => by
    obtain ⟨o, e⟩ := st.2.2.2
    exact list_end_warm hh st.2.2.1 hx hx2 st.2.2.1.lt (Heap.lt_size e) st.1 st.2.1 (by simp) fun h' he' => hQ h' s.toks fun b o hb e => he' b o (fun h => hb (by simp [h])) e
  self := fun _ _ _ _ st hQ => wpAny_pyIter_listiter st.1 hQ
/-- a context in which such an error is handled -/
def WarmC (X : Cx) : Prop := ∃ (p q : Addr × Obj) (vs : Array Value), p ∈ X.pn ∧ q ∈ X.pn ∧ X.A.handled = some (.ref p.1) ∧ p.2.data = .fields vs ∧ (vs[2]? = some .none ∨ ∃ ws, vs[2]? = some (.ref q.1) ∧ q.2.data = .fields ws ∧ ws[2]? = some .none)
theorem warm_suite {X : Cx} {a : Addr} {oe : Obj} {pn : List (Addr × Obj)} (hd : ∃ vs, oe.data = .fields vs) (h : CtxP oe pn) : WarmC (X.suite a ((a, oe) :: pn)) := by
  obtain ⟨vs, e⟩ := hd
  rcases h vs e with h | ⟨q, ws, h1, h2, h3, h4⟩
  · exact ⟨(a, oe), (a, oe), vs, List.mem_cons_self, List.mem_cons_self, rfl, e, .inl h⟩
  · exact ⟨(a, oe), q, vs, List.mem_cons_self, List.mem_cons_of_mem _ h2, rfl, e, .inr ⟨ws, h1, h3, h4⟩⟩
theorem WarmC.at {X : Cx} {pins : List (Addr × Obj)} {σ : L2.St} {H : Hp} {s : Shared} (c : WarmC X) (I : Inv X pins σ H s) : ∃ x1 x2, X.A.handled = some (.ref x1) ∧ Chain s.heap x1 x2 ∧ ∃ o, s.heap.get? x2 = some o := by
  obtain ⟨p, q, vs, hp, hq, hh, e, r⟩ := c
  have P1 := (I.pin p (List.mem_append_left _ hp)).1
  have Q1 := (I.pin q (List.mem_append_left _ hq)).1
  refine ⟨p.1, q.1, hh, ⟨p.2, vs, P1, e, ?_⟩, _, Q1⟩
  rcases r with r | ⟨ws, r1, r2, r3⟩
  · exact .inl r
  · exact .inr ⟨q.2, ws, r1, Q1, r2, r3⟩
theorem cr_anyW {X : Cx} (hc : WarmC X) : CallR X (.builtin "any") (rAny X.K) := by
  intro pins s σ H vs us Q I r h
  obtain ⟨a, bs, rfl, hs, q⟩ := h
  obtain ⟨its, rv, hl, _⟩ := I.list hs
  rw [Vals.ref1 r]
  have hb := rv.bls
  obtain ⟨x1, x2, hh, ch, o2, e2⟩ := hc.at I
  refine call_any_walk (iter_any hl.isList fun s₂ e3 st hne => ?_)
  subst e3
  refine ⟨_, _, _, _, _, _, _, rfl, walks_warm (A := X.A.in1) hh _ a hne (Nat.ne_of_lt ch.lt) (Nat.ne_of_lt (Heap.lt_size e2)) its.toArray, ⟨st.1, st.2, ch.mono fun b o _ e => Heap.get?_push_of_some _ e, o2, Heap.get?_push_of_some _ e2⟩, truth_bools hb, fun h' tk hk => ?_⟩
  refine ⟨.bl _, H, I.kept fun b o eo => hk b o (fun hmem => ?_) (Heap.get?_push_of_some _ eo), ?_, q⟩
  · rcases List.mem_cons.mp hmem with e1 | hmem
    · exact absurd (e1 ▸ Heap.lt_size eo) (Nat.lt_irrefl _)
    · cases hmem
  · show Value.bool _ = Value.bool _
    rw [← L2.any_range, hb, List.size_toArray, List.length_map]
end Pk
namespace Pk
open PySem PySem.Spec PyProof.Rows L2 Evl He
/-! ### except X: raise Y(..) from None -/
def wFrom (K : PySem.W.Frag) (c : Value) (t : L2.St → Hp → XK → Prop) (Wout : WX) : WX := fun cls d σ H => PySem.W.exmOne K cls c = some true ∧ t σ H fun cls2 d2 H2 => Wout cls2 d2 σ H2
theorem ps_raiseT {X : Cx} {W : WX} {e : Expr} {t : L2.St → Hp → XK → Prop} {j : Nat} {cpos pos : Pos} (hc : L2H.HotC X) (tk : TakesT X W) (he : L2H.PMk5 X e t) :
    PS X (.Raise (some e) (some (.Constant .none j cpos)) pos) (fun _ σ H => t σ H fun cls d H' => W cls d σ H') := by
  refine ⟨fun pins s σ H D I h => ?_⟩
  obtain ⟨p, ⟨hh, v1, e1, c1⟩, hp⟩ := hc
  show wpAny _ _ (do standAt pos; raiseStmt X.env (some (do let v ← eval e X.env; standAt pos; pure v)) (some (do let v ← eval (.Constant .none j cpos) X.env; standAt pos; pure v))) _ _ _
  refine wpAny_bind (wpAny_standAt (HotX.raise_made_hotN (x1 := p.1) (fun s2 Q2 q2 => wpAny_bind (Constant_none (wpAny_bind (wpAny_standAt (wpAny_pure q2))))) (wpAny_bind (wpAny_mono (he pins s σ H _ I h) (fun u s1 hu => wpAny_bind (wpAny_standAt (wpAny_pure ?_))) fun _ _ z => z))))
  obtain ⟨⟨a, oe, vs, sI, G, cls, d, rfl, J, k, new, here, hz, hd, h1, na, os, ag, rz, q⟩, six⟩ := hu
  have size5 : 4 < vs.size := six a oe vs rfl here hd
  obtain ⟨P1, P2, P3, P4, _⟩ := J.pin p (List.mem_append_left _ hp)
  have other : ∀ b u, sI.heap.get? b = some u → a ≠ b := fun b u z y => by
    subst y
    rw [new] at z
    cases z
  have keep4 : ∀ b u, sI.heap.get? b = some u → (HotX.noneFrom s1.heap a).get? b = some u := fun b u z => (HotX.noneFrom_other (other b u z)).trans (k b u z)
  have keep5 : ∀ b u, sI.heap.get? b = some u → ((HotX.noneFrom s1.heap a).update a (Obj.mapFields (·.setIfInBounds 2 (.ref p.1)))).get? b = some u := fun b u z => (Heap.get?_update_other _ _ (other b u z)).trans (keep4 b u z)
  obtain ⟨here4, data4⟩ := HotX.noneFrom_at here hd
  have data5 := Obj.data_mapFields data4 (·.setIfInBounds 2 (Value.ref p.1))
  have size4 : 2 < ((vs.setIfInBounds 3 Value.none).setIfInBounds 4 (Value.bool true)).size := by simp; omega
  have offp : p.1 ∉ frs X.stack := fun m => by
    rcases List.mem_cons.mp (J.stkSub _ m) with z | z
    · exact P3 z
    · exact P4 z
  refine ⟨a, oe, vs, cls, rfl, here, hz.1, hd, h1, size5, fun z => other _ _ P1 z.symm, ⟨hh, p.2, v1, k _ _ P1, e1, c1⟩, (rz (model X.prog X.w) s1.heap (J.kIn.keeps k)).1, (rz (model X.prog X.w) (HotX.noneFrom s1.heap a) (J.kIn.keeps keep4)).2, tk _ _ ?_⟩
  refine ⟨a, PySem.W.hideAll sI.heap (frs X.stack), sI, pins, σ, G, cls, d, rfl, J, fun b o e hb => PySem.W.hideAll_get _ e hb, Heap.UpToSlots.of_keeps keep5, .inl ⟨fun b o e => keep5 b o (PySem.W.of_hideAll _ e), ?_, Heap.FunFrames.of_keeps (fun b o e _ => ⟨o, keep5 b o e, rfl⟩) (funFrames_none J.stack fun b hb => PySem.W.hideAll_none _ hb), _, _, Heap.get?_update_self _ here4 (Obj.isFreed_of_fields data5), ⟨⟨?_, ?_⟩, fun vs2 ev => .inr ⟨p, v1, ?_, PySem.W.hideAll_get _ P1 offp, P2, e1, c1⟩⟩, data5, ?_⟩, na, os, ag, q⟩
  · cases hq : (PySem.W.hideAll sI.heap (frs X.stack)).get? a with
    | none => rfl
    | some o =>
      have z := PySem.W.of_hideAll _ hq
      rw [new] at z
      cases z
  · rw [Obj.cls_mapFields, Obj.cls_mapFields, Obj.cls_mapFields]
    exact hz.1
  · rw [HandSPX.dict_mapFields, HandSPX.dict_mapFields, HandSPX.dict_mapFields]
    exact hz.2.1
  · have ev2 : Data.fields _ = Data.fields vs2 := data5.symm.trans ev
    cases ev2
    simp only [Array.getElem?_setIfInBounds_self_of_lt, size4]
  · exact HotX.set_other (by decide) (HotX.set_other (by decide) (HotX.set_other (by decide) h1))
section
variable {X : Cx} {x : Str} {c : Value} {body : List Stmt} {e : Expr} {j : Nat} {np pos pos' rpos cpos : Pos} {tb : WX → TS} {t : L2.St → Hp → XK → Prop} {Wout : WX}
theorem takes_suite {pins : List (Addr × Obj)} {a : Addr} {q : Addr × Obj} (ok : X.Ok) (tk : TakesT X Wout) : TakesT (L2H.suiteX X a (q :: (X.pn ++ pins))) Wout := fun u s ⟨a2, B, sI, pn2, σ2, G2, cls, d, eu, I, r⟩ =>
  tk u s ⟨a2, B, sI, pins, σ2, G2, cls, d, eu, L2H.unsuiteX I ok, r⟩
theorem ps_try_fromT (hs : X.stack = X.env :: X.outer) (hf : X.env.frame = some X.env.locals) (hc : Names X x c) (hpa : ∀ hd : Option Value, PassesOwnAt (model X.prog X.w) (X.A.mark hd) X.A X.env X.xe) (tk : TakesT X Wout)
    (hb : ∀ (W : WX) (pn : List (Addr × Obj)) (xe : Value → Shared → Prop), L2N.Takes (X.tr pn xe) W → PassesOwn (model X.prog X.w) X.A X.env xe → PSs (X.tr pn xe) body (tb W))
    (he : ∀ (a : Addr) (pn : List (Addr × Obj)), L2H.PMk5 (L2H.suiteX X a pn) e t) :
    PS X (.Try body [.ExceptHandler (some (.Name x np)) none [.Raise (some e) (some (.Constant .none j cpos)) rpos] pos'] [] [] pos) (fun D σ H => tb (wFrom X.K c t Wout) D σ H) := by
  refine ⟨fun pins s σ H D I h => wpAny_Try_except ?_⟩
  have ok := I.ok
  have frA : X.A.frames = some (X.env :: X.outer) := ok.frames.trans (congrArg some hs)
  refine wpAny_mono ((hb (wFrom X.K c t Wout) (X.pn ++ pins) _ (fun u r xx => ?_) PassesOwn.looking).run [] s σ H D (I.toTry _) h) (fun f s1 hsp => ?_) (fun e t z => z)
  rotate_left
  · have g := tried ok hsp
    cases f with
    | next => exact wpAny_execs_nil g
    | _ => exact g
  obtain ⟨a, B, sI, pn1, σ1, G, cls, d, rfl, J1, nb, up, sky, na, os, ag, hb1, hyes⟩ := xx
  have J : Inv X pins σ1 G sI := J1.ofTry ok
  rw [show (X.tr (X.pn ++ pins) _).stack = X.env :: X.outer from hs] at sky
  show wpAny (model X.prog X.w) X.A (noteFrame (.ref a) X.env) _ _ _
  refine L2N.Sky.land L2N.Zn.steady frA hf sky fun h3 fl3 up3 => ?_
  have K3 : Inv X pins σ1 G { r with heap := h3 } := J.landed nb fl3.1 (up.trans up3) os ag
  obtain ⟨oe3, vs3, g3, z3, f3⟩ := fl3.there
  obtain ⟨nL, nF⟩ := off_two hf (off_frames fl3.2.2.1 g3 f3)
  have S3 := K3.suite g3 f3 na nL nF
  refine wpAny_handleBy_cons (codeAny_handlers_test ?_) (by intro q; cases q)
  have ofc : PySem.W.Looks (model X.prog X.w) h3 (typeOf (.ref a)) cls := fun _ _ _ _ k q => wpAny_typeOf_ref (k _ _ g3) (by rw [z3.1]; exact q)
  have told := PySem.W.exm_one (M := model X.prog X.w) K3.kIn ofc hb1
  have named : ∀ {Q E : Value → Shared → Prop}, Q c { r with heap := h3 } → wpAny (model X.prog X.w) (X.A.mark (some (.ref a))) (eval (.Name x np) X.env) Q E { r with heap := h3 } := fun {Q E} q => by
    obtain ⟨hg, hdbg, hm | ⟨hm, hv, hnn⟩⟩ := hc
    · exact ld_glob (X := X.suite a ((a, oe3) :: (X.pn ++ pins))) S3 hg hm q hdbg
    · exact ld_blt (X := X.suite a ((a, oe3) :: (X.pn ++ pins))) S3 hg hm hv q hnn hdbg
  refine named (told.here ?_)
  refine codeAny_handlers_suite (HandSPX.lands_againZ fl3 fun h4 fl4 up4 => ?_)
  have K4 : Inv X pins σ1 G { r with heap := h4 } := J.landed nb fl4.1 ((up.trans up3).trans up4) os ag
  obtain ⟨oe4, vs4, g4, z4, f4⟩ := fl4.there
  have S4 := K4.suite g4 f4 na nL nF
  have hot : L2H.HotC (L2H.suiteX X a ((a, oe4) :: (X.pn ++ pins))) := ⟨(a, oe4), ⟨rfl, vs4, f4, z4.2.2 vs4 f4⟩, List.mem_cons_self⟩
  refine wpAny_mono ((pss_one (ps_raiseT (j := j) (cpos := cpos) (pos := rpos) hot (takes_suite ok tk) (he a ((a, oe4) :: (X.pn ++ pins))))).run [] _ _ G D (L2H.suiteX_of S4) hyes) (fun f s6 hsp => ?_) (fun e6 s6 z => hpa (some (.ref a)) e6 s6 z)
  cases f with
  | ret u => exact let ⟨v6, σ6, H6, S6, r6, q6⟩ := hsp; ⟨_, _, _, L2H.unsuiteX S6 ok, r6, q6⟩
  | _ => exact let ⟨σ6, H6, S6, q6⟩ := hsp; ⟨_, _, L2H.unsuiteX S6 ok, q6⟩
end
end Pk
namespace Pk
open PySem PySem.Spec PyProof.Rows L2 Evl He
theorem takesTN {X : Cx} : TakesT X (fun _ _ _ _ => False) := fun _ _ x => by
  obtain ⟨_, _, _, _, _, _, _, _, _, _, _, _, _, _, _, _, z⟩ := x
  exact z.elim
theorem passT {X : Cx} : Passes (CXt X.prog X.w) X E0 := fun _ _ _ _ _ _ _ h => by
  obtain ⟨_, _, _, _, _, _, _, _, _, _, _, _, z⟩ := h
  exact z.elim
theorem call_isE3 {X : Cx} {a : Addr} {oe : Obj} {cls : Value} {d : Option Addr} {pn : List (Addr × Obj)} (hz : Zc cls d oe) (hf : ∃ vs, oe.data = .fields vs) : CallR (X.suite a ((a, oe) :: pn)) (.builtin "isinstance") (rIsE2 X.K cls d a) := by
  intro pins s σ H xs us Q I r h
  obtain ⟨D, rfl, rfl, C, h⟩ := h
  exact call_isE C hz hf pins s σ H xs us Q I r h
section
variable {X : Cx} {C : Addr} {bmB : List Value} {B newId initId : String}
/-- X('m'), to be raised from None -/
theorem pmk5_own {x m : Str} {j : Nat} {p p2 pos : Pos} (F : ExcBaseFacts B newId initId bmB) (q : PySem.W.excIn X.K C bmB newId = true) (gC : X.mg x = some (.ref C)) (kC : PySem.W.keepIn X.K (.ref C) = true) (r : L2.Raises X (.ref C)) (hg : Gl X x)
    (hdb : (x == ("__debug__" : Str)) = false := by decide) : L2H.PMk5 X (.Call (.Name x p) [.Constant (.str m) j p2] [] pos) (fun _ H Q => Q (.ref C) none H) := by
  intro pins s σ H Q I h
  have hargs : PA X [.Constant (.str m) j p2] (tCons (tC (.str m)) tNil) := pa_cons pe_str pa_nil
  refine wpAny_Call_Name_kw (ld_glob I hg gC (PySem.W.callWith_K (h₀ := X.base) I.ok.mod.kin kC (thn (hargs.run pos pins s σ H (fun ws G => ws = [V.str m] ∧ H = G) I ⟨rfl, rfl⟩) fun us s1 got => ?_)) hdb)
  obtain ⟨ws, G, J, rel, rfl, rfl⟩ := got
  refine ⟨J.kIn, ?_⟩
  cases rel with
  | @cons _ u _ _ ru rn =>
    cases rn
    show wpAny _ X.A (call (.ref C) [u]) _ _ _
    obtain ⟨bm, N, nm, qn, bs, hdct, sn, sub, ab, col, dd, k0, k1, k2, k3, k5, mN, hC, hN, hni, T⟩ := exc_obj J.kIn q
    exact wpAny_call_exc_subT F T hC hN hni (fun h' e made => L2H.mk_of5 J made r h (J.hok.gone made.new)) (by show 1 ≤ sizeLine; rw [sizeLine_eq]; omega)
end
end Pk
namespace Pk
open PySem PySem.Spec PyProof.Rows L2 Evl He
open SX (S)
/-! ### numbers in texts -/
def isDg (c : Nat) : Bool := decide (48 ≤ c) && decide (c ≤ 57)
def dgS : List Nat := [48, 49, 50, 51, 52, 53, 54, 55, 56, 57]
theorem lit_dg : (Str.ofString "0123456789") = S dgS := by rfl
theorem lit_0 : (Str.ofString "0") = S [48] := by rfl
theorem lit_co : (Str.ofString ":") = S [58] := by rfl
theorem lit_sp : (Str.ofString " ") = S [32] := by rfl
theorem mem_dg (c : Nat) : decide (c ∈ dgS) = isDg c := by
  unfold isDg
  rw [← Bool.decide_and, decide_eq_decide]
  simp only [dgS, List.mem_cons, List.not_mem_nil, or_false]
  omega
def dv (w : List Nat) : Nat := NumText.digitsVal w
def isNum (w : List Nat) : Bool := (decide (1 ≤ w.length) && decide (w.length ≤ 7)) && (w.all isDg && !(decide (w.head? = some 48) && !decide (w = [48])))
structure NumOk (w : List Nat) : Prop where
  l1 : 1 ≤ w.length
  l2 : w.length ≤ 7
  dg : w.all isDg = true
  hd : w.head? = some 48 → w = [48]
theorem isNum_iff {w : List Nat} : isNum w = true ↔ NumOk w := by
  unfold isNum
  rw [Bool.and_eq_true, Bool.and_eq_true, Bool.and_eq_true, decide_eq_true_eq, decide_eq_true_eq, Bool.not_eq_true', Bool.and_eq_false_iff, decide_eq_false_iff_not, Bool.not_eq_false', decide_eq_true_eq]
  constructor
  · rintro ⟨⟨h1, h2⟩, h3, h4⟩
    exact ⟨h1, h2, h3, fun h => h4.resolve_left fun n => n h⟩
  · rintro ⟨h1, h2, h3, h4⟩
    refine ⟨⟨h1, h2⟩, h3, ?_⟩
    by_cases h : w.head? = some 48
    · exact .inr (h4 h)
    · exact .inl h
theorem dv_snoc (pre : List Nat) (c : Nat) : dv (pre ++ [c]) = dv pre * 10 + (c - 48) := by
  unfold dv NumText.digitsVal
  rw [List.foldl_append]
  rfl
theorem dg_ge {c : Nat} (h : isDg c = true) : 48 ≤ c ∧ c ≤ 57 := by
  unfold isDg at h
  rw [Bool.and_eq_true, decide_eq_true_eq, decide_eq_true_eq] at h
  exact h
/-- digits with no 0 ahead are the number's own -/
theorem num_back : ∀ (n : Nat) (w : List Nat), w.length = n → w ≠ [] → w.all isDg = true → (w.head? = some 48 → w = [48]) → TL.numL (dv w) = w
  | 0, w, hl, hne, _, _ => absurd (List.length_eq_zero_iff.mp hl) hne
  | n + 1, w, hl, hne, hd, h0 => by
    have e : w = w.dropLast ++ [w.getLast hne] := (List.dropLast_concat_getLast hne).symm
    generalize hp : w.dropLast = pre at e
    generalize w.getLast hne = c at e
    subst e
    rw [List.length_append, List.length_singleton] at hl
    rw [List.all_append, Bool.and_eq_true] at hd
    obtain ⟨hd1, hd2⟩ := hd
    have hc := dg_ge (c := c) (by simpa using hd2)
    rw [dv_snoc]
    by_cases hpe : pre = []
    · subst hpe
      show TL.numL (0 * 10 + (c - 48)) = [c]
      rw [TL.numL_lt (by omega)]
      congr 1
      omega
    · have hh : (pre ++ [c]).head? = pre.head? := by
        cases pre with
        | nil => exact absurd rfl hpe
        | cons a r => rfl
      have hno : pre.head? ≠ some 48 := fun h => by
        have := h0 (hh.trans h)
        cases pre with
        | nil => exact hpe rfl
        | cons a r =>
          have hl2 := congrArg List.length this
          rw [List.length_append] at hl2
          simp at hl2
      have ih := num_back n pre (by omega) hpe hd1 fun h => absurd h hno
      have hpos : 1 ≤ dv pre := by
        cases hz : dv pre with
        | zero =>
          rw [hz] at ih
          rw [← ih, TL.numL_lt (by omega)] at hno
          exact absurd rfl hno
        | succ k => omega
      rw [TL.numL_step (by omega)]
      rw [show (dv pre * 10 + (c - 48)) / 10 = dv pre by omega, show 48 + (dv pre * 10 + (c - 48)) % 10 = c by omega, ih]
theorem NumOk.back {w : List Nat} (h : NumOk w) : TL.numL (dv w) = w := num_back _ w rfl (fun e => by have := h.l1; rw [e] at this; exact absurd this (by decide)) h.dg h.hd
theorem NumOk.int {w : List Nat} (h : NumOk w) : intText? (S w) = some ((dv w : Nat) : Int) := SX.int_S h.dg (fun e => by have := h.l1; rw [e] at this; exact absurd this (by decide)) (by have := h.l2; omega)
/-! ### cut at blanks -/
def splA : List Nat → List Nat → List (List Nat)
  | acc, [] => [acc]
  | acc, c :: r => if c = 32 then acc :: splA [] r else splA (acc ++ [c]) r
theorem pre_one (k c : Nat) (r : List Nat) : TL.pre [k] (c :: r) = decide (c = k) := by
  show ([c] == [k]) = _
  by_cases h : c = k
  · subst h; simp
  · simp [h]
theorem spl_A : ∀ (cs acc : List Nat), TL.spl [32] 0 acc cs = splA acc cs
  | [], acc => TL.spl_nil _ _ _
  | c :: r, acc => by
    show _ = if c = 32 then acc :: splA [] r else splA (acc ++ [c]) r
    by_cases h : c = 32
    · rw [if_pos h, TL.spl_hit (by rw [pre_one]; exact decide_eq_true h)]
      show acc :: TL.spl [32] 0 [] r = _
      rw [spl_A r []]
    · rw [if_neg h, TL.spl_miss (by rw [pre_one]; exact decide_eq_false h), spl_A r (acc ++ [c])]
theorem splA_ne : ∀ (cs acc : List Nat), splA acc cs ≠ []
  | [], acc => by simp [splA]
  | c :: r, acc => by
    unfold splA
    by_cases h : c = 32
    · rw [if_pos h]; simp
    · rw [if_neg h]; exact splA_ne r _
theorem joinL_cons {S1 p : List Nat} {q : List (List Nat)} (h : q ≠ []) : TL.joinL S1 (p :: q) = p ++ (S1 ++ TL.joinL S1 q) := by
  cases q with
  | nil => exact absurd rfl h
  | cons a r => rfl
theorem join_splA : ∀ (cs acc : List Nat), TL.joinL [32] (splA acc cs) = acc ++ cs
  | [], acc => by simp [splA, TL.joinL]
  | c :: r, acc => by
    unfold splA
    by_cases h : c = 32
    · rw [if_pos h, joinL_cons (splA_ne r []), join_splA r [], h]
      rfl
    · rw [if_neg h, join_splA r (acc ++ [c]), List.append_assoc]
      rfl
theorem splA_len : ∀ (cs acc : List Nat), (splA acc cs).length ≤ cs.length + 1
  | [], acc => by simp [splA]
  | c :: r, acc => by
    unfold splA
    by_cases h : c = 32
    · rw [if_pos h, List.length_cons, List.length_cons]
      have := splA_len r []
      omega
    · rw [if_neg h, List.length_cons]
      have := splA_len r (acc ++ [c])
      omega
theorem splA_each : ∀ (cs acc : List Nat), ∀ w ∈ splA acc cs, w.length ≤ acc.length + cs.length
  | [], acc, w, hw => by
    rw [List.mem_singleton.mp hw]
    omega
  | c :: r, acc, w, hw => by
    unfold splA at hw
    by_cases h : c = 32
    · rw [if_pos h] at hw
      rcases List.mem_cons.mp hw with rfl | hw
      · omega
      · have := splA_each r [] w hw
        rw [List.length_cons]
        simp at this
        omega
    · rw [if_neg h] at hw
      have := splA_each r (acc ++ [c]) w hw
      rw [List.length_append, List.length_singleton] at this
      rw [List.length_cons]
      omega
def words (cs : List Nat) : List (List Nat) := splA [] cs
theorem words_ne (cs : List Nat) : words cs ≠ [] := splA_ne cs []
theorem words_join (cs : List Nat) : TL.joinL [32] (words cs) = cs := join_splA cs []
theorem words_len (cs : List Nat) : (words cs).length ≤ cs.length + 1 := splA_len cs []
theorem words_each {cs w : List Nat} (h : w ∈ words cs) : w.length ≤ cs.length := by
  have := splA_each cs [] w h
  simp at this
  omega
theorem split_words {cs : List Nat} : Txt.split (S cs) (S [32]) = (words cs).map S := by
  rw [SX.split_S (by decide) (by decide), spl_A]
  rfl
/-! ### the reading of a text -/
def w0 (cs : List Nat) : List Nat := (words cs).headD []
def wr (cs : List Nat) : List (List Nat) := (words cs).tail
theorem words_eq (cs : List Nat) : words cs = w0 cs :: wr cs := by
  unfold w0 wr
  cases e : words cs with
  | nil => exact absurd e (words_ne cs)
  | cons a r => rfl
def placesOf (cs : List Nat) : Nat := dv (w0 cs).dropLast
structure TextOk (cs : List Nat) : Prop where
  co : (w0 cs).getLast? = some 58
  n0 : NumOk (w0 cs).dropLast
  nr : ∀ w ∈ wr cs, NumOk w
  p1 : 1 ≤ placesOf cs
  p2 : placesOf cs ≤ 1000000
  lt : ∀ w ∈ wr cs, dv w < placesOf cs
def wishesOf (cs : List Nat) : List Nat := (wr cs).map dv
theorem TextOk.back {cs : List Nat} (h : TextOk cs) : TL.joinL [32] ((TL.numL (placesOf cs) ++ [58]) :: (wishesOf cs).map TL.numL) = cs := by
  have e1 : TL.numL (placesOf cs) ++ [58] = w0 cs := by
    unfold placesOf
    rw [h.n0.back]
    have hc := h.co
    generalize w0 cs = w at hc
    obtain ⟨pre, rfl⟩ := List.getLast?_eq_some_iff.mp hc
    rw [List.dropLast_concat]
  have e2 : (wishesOf cs).map TL.numL = wr cs := by
    unfold wishesOf
    rw [List.map_map]
    conv => rhs; rw [← List.map_id (wr cs)]
    exact List.map_congr_left fun w hw => (h.nr w hw).back
  rw [e1, e2, ← words_eq, words_join]
/-! ### strip, startswith, endswith -/
theorem tw_self {p : Nat → Bool} : ∀ {w : List Nat}, (∀ c ∈ w, p c = true) → w.takeWhile p = w
  | [], _ => rfl
  | c :: r, h => by rw [List.takeWhile_cons, if_pos (h c List.mem_cons_self), tw_self fun d hd => h d (List.mem_cons_of_mem _ hd)]
theorem tw_all {p : Nat → Bool} {w : List Nat} (h : w.dropWhile p = []) : w.all p = true := by
  have e := List.takeWhile_append_dropWhile (p := p) (l := w)
  rw [h, List.append_nil] at e
  rw [← e, List.all_eq_true]
  intro c hc
  have := List.all_takeWhile (p := p) (l := w)
  exact List.all_eq_true.mp this c hc
theorem strip_none {w : List Nat} (h : w.all isDg = true) : Txt.stripChars (S w) (S dgS) = S [] := by
  have hc : ∀ c, (S dgS).cps.contains c = isDg c := fun c => by
    rw [← mem_dg, Array.contains_eq_mem]
    simp [S]
  have e1 : w.takeWhile (S dgS).cps.contains = w := tw_self fun c hm => (hc c).trans (List.all_eq_true.mp h c hm)
  unfold Txt.stripChars
  rw [PyProof.Rows.stripBy_eq]
  have e2 : stripLo (S dgS).cps.contains true (S w) = w.length := by
    show (w.takeWhile (S dgS).cps.contains).length = _
    rw [e1]
  rw [e2]
  have e3 : stripHi (S dgS).cps.contains true (S w) w.length = w.length := by
    show (S w).length - ((w.drop w.length).reverse.takeWhile (S dgS).cps.contains).length = _
    rw [List.drop_length, SX.S_len]
    rfl
  rw [e3]
  refine TL.ext_tl ?_
  show (w.toArray.extract w.length w.length).toList = []
  simp
theorem strip_some {w : List Nat} (h : w.all isDg = false) : Txt.stripChars (S w) (S dgS) ≠ S [] := fun hz => by
  have hc : ∀ c, (S dgS).cps.contains c = isDg c := fun c => by
    rw [← mem_dg, Array.contains_eq_mem]
    simp [S]
  have hfun : (S dgS).cps.contains = isDg := funext hc
  unfold Txt.stripChars at hz
  rw [PyProof.Rows.stripBy_eq, hfun] at hz
  have hlen := congrArg Str.length hz
  have e2 : stripLo isDg true (S w) = (w.takeWhile isDg).length := rfl
  rw [e2] at hlen
  have e3 : stripHi isDg true (S w) (w.takeWhile isDg).length = w.length - ((w.drop (w.takeWhile isDg).length).reverse.takeWhile isDg).length := by
    show (S w).length - _ = _
    rw [SX.S_len]
  rw [e3] at hlen
  have hd : w.drop (w.takeWhile isDg).length = w.dropWhile isDg := by
    generalize hw : w.takeWhile isDg = a
    generalize hw2 : w.dropWhile isDg = b
    have : w = a ++ b := by rw [← hw, ← hw2, List.takeWhile_append_dropWhile]
    rw [this, List.drop_left]
  rw [hd] at hlen
  cases hb : w.dropWhile isDg with
  | nil =>
    rw [tw_all hb] at h
    cases h
  | cons c r =>
    have hcn : isDg c = false := by
      have := List.head?_dropWhile_not isDg w
      rw [hb] at this
      simpa using this
    rw [hb] at hlen
    have hk : ((c :: r).reverse.takeWhile isDg).length ≤ r.length := by
      rw [List.reverse_cons]
      have : ((r.reverse ++ [c]).takeWhile isDg).length ≤ r.reverse.length := by
        rw [List.takeWhile_append]
        split
        · rw [List.length_append]
          have : ([c].takeWhile isDg) = [] := by rw [List.takeWhile_cons, hcn]; rfl
          rw [this]
          simp
        · exact (List.takeWhile_sublist _).length_le
      rw [List.length_reverse] at this
      exact this
    have hwl : w.length = (w.takeWhile isDg).length + (r.length + 1) := by
      have h2 := congrArg List.length (List.takeWhile_append_dropWhile (p := isDg) (l := w))
      rw [hb, List.length_append, List.length_cons] at h2
      omega
    have hl0 : (Builtin.Str.strSub (S w) (w.takeWhile isDg).length (w.length - ((c :: r).reverse.takeWhile isDg).length)).length = (w.length - ((c :: r).reverse.takeWhile isDg).length) - (w.takeWhile isDg).length := by
      show (w.toArray.extract _ _).size = _
      rw [Array.size_extract, List.size_toArray]
      omega
    rw [hl0] at hlen
    have : (S ([] : List Nat)).length = 0 := rfl
    rw [this] at hlen
    omega
theorem starts_one (w : List Nat) (k : Nat) : Txt.startswith (S w) (S [k]) = decide (w.head? = some k) := by
  cases w with
  | nil =>
    unfold Txt.startswith
    rw [SX.S_len, SX.S_len]
    simp
  | cons c r =>
    show (decide (0 + 1 ≤ (S (c :: r)).length) && ((c :: r).toArray.extract 0 (0 + 1) == #[k])) = _
    rw [SX.S_len, decide_eq_true (by rw [List.length_cons]; omega), Bool.true_and]
    have e : (c :: r).toArray.extract 0 (0 + 1) = #[c] := by simp
    rw [e]
    by_cases h : c = k
    · subst h; simp
    · simp [h]
theorem ends_one (w : List Nat) (k : Nat) : Txt.endswith (S w) (S [k]) = decide (w.getLast? = some k) := by
  rcases List.eq_nil_or_concat w with rfl | ⟨pre, c, rfl⟩
  · unfold Txt.endswith
    rw [SX.S_len, SX.S_len]
    simp
  · rw [List.concat_eq_append]
    show (decide (0 + 1 ≤ (S (pre ++ [c])).length) && ((pre ++ [c]).toArray.extract ((S (pre ++ [c])).length - 1) ((S (pre ++ [c])).length - 1 + 1) == #[k])) = _
    rw [SX.S_len, List.length_append, List.length_singleton, decide_eq_true (by omega), Bool.true_and, Nat.add_sub_cancel]
    have e : (pre ++ [c]).toArray.extract pre.length (pre.length + 1) = #[c] := by
      apply Array.ext'
      simp
    rw [e, List.getLast?_concat]
    by_cases h : c = k
    · subst h; simp
    · simp [h]
end Pk
namespace Pk
open PySem PySem.Spec PyProof.Rows L2 Evl He
open SX (S)
def vt (ws : List (List Nat)) : List V := ws.map fun w => V.str (S w)
section
variable {K : PySem.W.Frag} {σ : L2.St} {H : Hp} {te ta tb tl : TE} {v y : V} {D : Ends} {tz : TS}
/-! ### methods of texts -/
theorem ev_m1 {r : V → List V → Hp → VK → Prop} {z : Str} (ha : Ev ta σ H (.str z)) (hb : Ev tb σ H y) (hr : ∀ H1 (Q : VK), Q v H1 → r (.str z) [y] H1 Q) : Ev (tM1 r ta tb) σ H v := fun H1 e Q q =>
  ha H1 e _ fun H2 e2 => ⟨⟨_, rfl⟩, hb H2 (e.trans e2) _ fun H3 e3 => hr H3 Q (q H3 (e2.trans e3))⟩
theorem ev_lenT {cs : List Nat} (h : Ev ta σ H (.str (S cs))) (hz : cs.length ≤ 100000) : Ev (tCB rLenT (tCons ta tNil)) σ H (nat cs.length) := ev_cb (ea_cons h ea_nil) fun H1 e Q q => ⟨S cs, rfl, by rw [SX.S_len]; exact sz_of hz, by rw [SX.S_len]; exact q H1 (Ex.refl H1)⟩
theorem ev_stripD {w : List Nat} (ha : Ev ta σ H (.str (S w))) (hb : Ev tb σ H (.str (S dgS))) (hz : w.length ≤ 100000) : Ev (tM1 (fun x xs H Q => ∃ a b, x = .str a ∧ xs = [.str b] ∧ a.length ≤ sizeLine ∧ Q (.str (Txt.stripChars a b)) H) ta tb) σ H (.str (Txt.stripChars (S w) (S dgS))) :=
  ev_m1 ha hb fun H1 Q q => ⟨_, _, rfl, rfl, by rw [SX.S_len]; exact sz_of hz, q⟩
/-- word.strip(FIGURES) != '' -/
theorem ev_notDg {w : List Nat} (ha : Ev ta σ H (.str (S w))) (hb : Ev tb σ H (.str (S dgS))) (hc : Ev te σ H (.str (S []))) (hz : w.length ≤ 100000) : Ev (tOp rNe (tM1 (fun x xs H Q => ∃ a b, x = .str a ∧ xs = [.str b] ∧ a.length ≤ sizeLine ∧ Q (.str (Txt.stripChars a b)) H) ta tb) te) σ H (.bl (!(w.all isDg))) := by
  have k := ev_op (r := rNe) (ev_stripD ha hb hz) hc (rv_ne rfl)
  refine ev_is k ?_
  congr 2
  cases h : w.all isDg with
  | true => rw [strip_none h]; exact decide_eq_true rfl
  | false => exact decide_eq_false fun e => strip_some h (V.str.inj e)
theorem ev_starts {w : List Nat} {k : Nat} (ha : Ev ta σ H (.str (S w))) (hb : Ev tb σ H (.str (S [k]))) : Ev (tM1 (fun x xs H Q => ∃ a b, x = .str a ∧ xs = [.str b] ∧ Q (.bl (Txt.startswith a b)) H) ta tb) σ H (.bl (decide (w.head? = some k))) :=
  ev_m1 ha hb fun H1 Q q => ⟨_, _, rfl, rfl, by rw [starts_one]; exact q⟩
theorem ev_ends {w : List Nat} {k : Nat} (ha : Ev ta σ H (.str (S w))) (hb : Ev tb σ H (.str (S [k]))) : Ev (tM1 (fun x xs H Q => ∃ a b, x = .str a ∧ xs = [.str b] ∧ Q (.bl (Txt.endswith a b)) H) ta tb) σ H (.bl (decide (w.getLast? = some k))) :=
  ev_m1 ha hb fun H1 Q q => ⟨_, _, rfl, rfl, by rw [ends_one]; exact q⟩
theorem el_split {cs : List Nat} (ha : Ev ta σ H (.str (S cs))) (hb : Ev tb σ H (.str (S [32]))) (hz : cs.length ≤ 90000) : EvL (tM1 (fun x xs H Q => ∃ a b, x = .str a ∧ xs = [.str b] ∧ (b.length == 0) = false ∧ a.length + 2 ≤ sizeLine ∧ rNewStrs (Txt.split a b) H Q) ta tb) σ H (vt (words cs)) := fun H1 e Q q =>
  ha H1 e _ fun H2 e2 => ⟨⟨_, rfl⟩, hb H2 (e.trans e2) _ fun H3 e3 => ⟨_, _, rfl, rfl, rfl, by rw [SX.S_len]; exact sz_of (by omega), fun p hp => by
    rw [split_words, List.map_map]
    exact q p _ (fresh_back (e2.trans e3) hp) ((e2.trans e3).trans (Ex.new hp)) upd_same⟩⟩
theorem ev_slT {tl th : TO} {cs : List Nat} {lo hi : Option Int} (h : Ev te σ H (.str (S cs))) (h1 : EvO tl σ H lo) (h2 : EvO th σ H hi) (hz : cs.length ≤ 100000) : Ev (tSl rSlS te tl th) σ H (.str (Txt.slice (S cs) lo hi)) := fun H1 e Q q =>
  h H1 e _ fun H2 e2 => h1 H2 (e.trans e2) _ fun H3 e3 => h2 H3 ((e.trans e2).trans e3) _ fun H4 e4 => ⟨S cs, rfl, by rw [SX.S_len]; exact sz_of hz, by rw [show cutS (S cs) lo hi = Txt.slice (S cs) lo hi from C8.cutS_slice _ _ _]; exact q H4 ((e2.trans e3).trans e4)⟩
theorem but_last (w : List Nat) : Txt.slice (S w) none (some (-1)) = S w.dropLast := by
  by_cases h : w = []
  · subst h; rfl
  · rw [SX.slice_butlast h, List.dropLast_eq_take]
theorem the_last (w : List Nat) : Txt.slice (S w) (some (-1)) none = S (w.getLast?.toList) := by
  rcases List.eq_nil_or_concat w with rfl | ⟨pre, c, rfl⟩
  · rfl
  · rw [List.concat_eq_append, SX.last_snoc, List.getLast?_concat]
    rfl
theorem eo_m1 {t : TE} (h : Ev t σ H (.int 1)) : EvO (tPart (tUn (rU fun i => .int (-i)) t)) σ H (some (-1)) := eo_some (ev_un h ru_neg)
theorem rc_int {w : List Nat} (h : NumOk w) : RC (fun xs H Q => ∃ a n, xs = [.str a] ∧ PySem.intText? a = some n ∧ a.length ≤ 640 ∧ Q (.int n) H) [.str (S w)] H (nat (dv w)) := fun H1 e Q q => ⟨_, _, rfl, h.int, by rw [SX.S_len]; have := h.l2; omega, q H1 (Ex.refl H1)⟩
theorem log_small {n : Nat} (h : n ≤ 10000000) : ((n : Int)).natAbs.log2 < 1920 := by
  have e : ((n : Int)).natAbs = n := Int.natAbs_natCast n
  rw [e]
  by_cases h0 : n = 0
  · subst h0; decide
  · refine (Nat.log2_lt h0).mpr (Nat.lt_of_le_of_lt h ?_)
    exact Nat.lt_of_lt_of_le (by decide : 10000000 < 2 ^ 24) (Nat.pow_le_pow_right (by decide) (by decide))
theorem rc_strN {n : Nat} (h : n ≤ 10000000) : RC (fun xs H Q => ∃ i, xs = [.int i] ∧ i.natAbs.log2 < 1920 ∧ Q (.str (toString i)) H) [nat n] H (.str (S (TL.numL n))) := fun H1 e Q q => ⟨(n : Int), rfl, log_small h, by
  have e1 := SX.num_S n
  have e2 : (V.str (Str.ofString (toString ((n : Nat) : Int)))) = .str (S (TL.numL n)) := by rw [e1]
  show Q (V.str (Str.ofString (toString ((n : Nat) : Int)))) H1
  rw [e2]
  exact q H1 (Ex.refl H1)⟩
/-- sign in FIGURES -/
theorem ev_inDg {c : Nat} (ha : Ev ta σ H (.str (S [c]))) (hb : Ev tb σ H (.str (S dgS))) : Ev (tOp (fun x y H Q => ∃ (c : Nat) (z : Str), x = .str ⟨#[c]⟩ ∧ y = .str z ∧ Q (.bl (decide (c ∈ z.cps.toList))) H) ta tb) σ H (.bl (isDg c)) := by
  refine ev_op ha hb fun H1 e Q q => ⟨c, S dgS, rfl, rfl, ?_⟩
  have e1 : decide (c ∈ (S dgS).cps.toList) = isDg c := mem_dg c
  rw [e1]
  exact q H1 (Ex.refl H1)
theorem ev_isNone {x : V} (ha : Ev ta σ H x) (hb : Ev tb σ H .non) : Ev (tOp (fun x y H Q => y = .non ∧ Q (.bl (decide (x = .non))) H) ta tb) σ H (.bl (decide (x = .non))) := ev_op ha hb fun H1 e Q q => ⟨rfl, q H1 (Ex.refl H1)⟩
theorem ev_ixS0 {w : List Nat} {c : Nat} (ha : Ev ta σ H (.str (S w))) (hb : Ev tb σ H (nat 0)) (h : w[0]? = some c) (hz : w.length ≤ 100000) : Ev (tOp rIxS ta tb) σ H (.str (S [c])) := ev_op ha hb fun H1 e Q q => ⟨S w, ((0 : Nat) : Int), c, rfl, rfl, by rw [SX.S_len]; exact sz_of hz, atI_nat (by exact h), q H1 (Ex.refl H1)⟩
/-! ### comprehensions over a text, and such as may raise -/
theorem el_lcS {cs : List Nat} {ts : TE} {j : Nat} {vs : List Nat} (g : Nat → V) (h : Ev ts σ H (.str (S cs))) (hz : cs.length ≤ 40000) (hw : ∀ x, wipe ((wipe σ vs).set j (some x)) vs = wipe σ vs)
    (he : ∀ (c : Nat) H1, Ex H H1 → c ∈ cs → Ev te ((wipe σ vs).set j (some (.str (S [c])))) H1 (g c)) : EvL (tLc (iStr ts) (gName j) tYes te vs) σ H (cs.map g) := fun H0 e Q q => h H0 e _ fun H1 e1 => ⟨S cs, rfl, fun Dl hD =>
  have sz : (S cs).cps.size = cs.length := by simp [S]
  ⟨fun i m H' => m = cs.length - i ∧ i ≤ cs.length ∧ Ex H1 H' ∧ H' Dl = some (.lst ((cs.take i).map g)), ⟨cs.length, by simp, Nat.zero_le _, Ex.new hD, upd_same⟩, by
    rintro i m H' ⟨rfl, hi, p2, p3⟩
    by_cases hlt : i < cs.length
    · refine .inr ⟨by show i < (S cs).cps.size; rw [sz]; exact hlt, fun G => Ex H1 G ∧ G Dl = some (.lst ((cs.take (i + 1)).map g)), fun G hG => ⟨cs.length - (i + 1), by omega, rfl, hlt, hG⟩, fun x G hx => ?_⟩
      obtain ⟨rfl, c, hc, rfl⟩ := hx
      have hc' : cs[i]? = some c := by simpa [S] using hc
      refine ⟨hw _, et_yes _ p2 _ fun H3 e3 => ?_⟩
      refine he c H3 ((e.trans e1).trans (p2.trans e3)) (List.mem_of_getElem? hc') H3 (Ex.refl _) _ fun H4 e4 => ⟨(cs.take i).map g, e4 Dl _ (e3 Dl _ p3), sz_lt (by rw [List.length_map, List.length_take]; omega), Ex.mut ((p2.trans e3).trans e4) hD, ?_⟩
      rw [upd_same, List.take_add_one, hc', List.map_append]
      rfl
    · have hi2 : i = cs.length := by omega
      subst hi2
      refine .inl ⟨by show (S cs).cps.size ≤ cs.length; rw [sz]; exact Nat.le_refl _, q Dl H' (fresh_back e1 hD) (e1.trans p2) ?_⟩
      rw [p3, List.take_length]⟩⟩
theorem lcX {xs : List V} {j : Nat} {vs : List Nat} {Q : VK} (good : Nat → Prop) (v : Nat → V) (h : EvL tl σ H xs) (hz : xs.length ≤ 40000) (hw : ∀ x, wipe ((wipe σ vs).set j (some x)) vs = wipe σ vs)
    (he : ∀ (i : Nat) (x : V) H1 (Q1 : VK), Ex H H1 → xs[i]? = some x → (good i → ∀ H2, Ex H1 H2 → Q1 (v i) H2) → te ((wipe σ vs).set j (some x)) H1 Q1)
    (q : (∀ i, i < xs.length → good i) → ∀ p H2, H p = none → Ex H H2 → H2 p = some (.lst ((List.range xs.length).map v)) → Q (.ref p) H2) : tLc (iList K tl) (gName j) tYes te vs σ H Q := h H (Ex.refl H) _ fun a H1 ha e1 hx => ⟨a, rfl, ⟨xs, sq_of hx⟩, fun Dl hD =>
  ⟨fun i m H' => m = xs.length - i ∧ i ≤ xs.length ∧ Ex H1 H' ∧ H' Dl = some (.lst ((List.range i).map v)) ∧ ∀ k, k < i → good k, ⟨xs.length, by simp, Nat.zero_le _, Ex.new hD, upd_same, fun k hk => absurd hk (Nat.not_lt_zero k)⟩, by
    rintro i m H' ⟨rfl, hi, p2, p3, p4⟩
    have hS : SqL K H' a xs := sq_of (p2 a _ hx)
    by_cases hlt : i < xs.length
    · refine .inr ⟨⟨xs, xs[i], hS, List.getElem?_eq_getElem hlt⟩, fun G => Ex H1 G ∧ G Dl = some (.lst ((List.range (i + 1)).map v)) ∧ ∀ k, k < i + 1 → good k, fun G hG => ⟨xs.length - (i + 1), by omega, rfl, hlt, hG⟩, fun x G hG => ?_⟩
      obtain ⟨rfl, hy⟩ := hG
      have hxi := hy xs hS
      refine ⟨hw _, et_yes _ p2 _ fun H3 e3 => ?_⟩
      refine he i x H3 _ (e1.trans (p2.trans e3)) hxi fun hg H4 e4 => ⟨(List.range i).map v, e4 Dl _ (e3 Dl _ p3), sz_lt (by rw [List.length_map, List.length_range]; omega), Ex.mut ((p2.trans e3).trans e4) hD, ?_, fun k hk => ?_⟩
      · rw [upd_same, List.range_succ, List.map_append]
        rfl
      · by_cases hki : k = i
        · rw [hki]; exact hg
        · exact p4 k (by omega)
    · have hi2 : i = xs.length := by omega
      subst hi2
      exact .inl ⟨⟨xs, hS, Nat.le_refl _⟩, q p4 Dl H' (fresh_back e1 hD) (e1.trans p2) p3⟩⟩⟩
end
end Pk
namespace Pk
open PySem PySem.Spec PyProof.Rows L2 Evl He
open SX (S)
/-! ### all but the tables of code objects stay -/
abbrev ExtN := LamX.ExtN
abbrev Tabs := LamX.Tabs
abbrev TabT := List (Addr × Str)
section
variable {K : PySem.W.Frag} {H H1 H2 : Hp}
theorem Ex.n (e : Ex H H1) : ExtN H H1 := fun b o h _ => e b o h
theorem exn_lst {a : Addr} {xs : List V} (e : ExtN H H1) (h : H a = some (.lst xs)) : H1 a = some (.lst xs) := e _ _ h fun ps z => by cases z
theorem exn_tup {a : Addr} {xs : List V} (e : ExtN H H1) (h : H a = some (.tup xs)) : H1 a = some (.tup xs) := e _ _ h fun ps z => by cases z
theorem exn_l {a : Addr} {xs : List V} (e : ExtN H H1) (h : SqL K H a xs) : SqL K H1 a xs := by
  rcases h with (h | ⟨o, h⟩) | h
  · exact .inl (.inl (exn_lst e h))
  · exact .inl (.inr ⟨o, e _ _ h fun ps z => by cases z⟩)
  · exact .inr h
mutual
theorem Dw.exN (e : ExtN H H1) : ∀ (d : PyData) (v : V), Dw H v d → Dw H1 v d
  | .none, _, h => by cases h; exact .non
  | .bool b, _, h => by cases h; exact .bl b
  | .int i, _, h => by cases h; exact .int i
  | .str x, _, h => by cases h; exact .str x
  | .list ds, _, h => by
    cases h with
    | lst h1 h2 => exact .lst (exn_lst e h1) (Dw.exNAll e ds _ h2)
  | .tuple ds, _, h => by
    cases h with
    | tup h1 h2 => exact .tup (exn_tup e h1) (Dw.exNAll e ds _ h2)
  | .dict _, _, h => by cases h
theorem Dw.exNAll (e : ExtN H H1) : ∀ (ds : List PyData) (vs : List V), DwAll H vs ds → DwAll H1 vs ds
  | [], _, h => by cases h; exact .nil
  | d :: ds, _, h => by
    cases h with
    | cons h1 h2 => exact .cons (Dw.exN e d _ h1) (Dw.exNAll e ds _ h2)
end
theorem tabs_ex {T : TabT} (t : Tabs T H) (e : Ex H H1) : Tabs T H1 := LamX.Tabs.ext t e
end
/-! ### list.count of plain values -/
def rCountF (K : PySem.W.Frag) : V → List V → Hp → VK → Prop := fun x xs H Q => ∃ (a : Addr) (ys : List V) (y : V), x = V.ref a ∧ xs = [y] ∧ SqL K H a ys ∧ flatV y = true ∧ ys.all flatV = true ∧ Q (.int ((ys.countP fun z => eqV z y : Nat) : Int)) H
theorem countU {y : V} : ∀ {ys : List V} {its : List Value}, Vals ys its → ys.all flatV = true → its.countP (eqU y) = ys.countP fun z => eqV z y
  | [], _, h, _ => by cases h; rfl
  | z :: ys, _, h, f => by
    cases h with
    | cons r rt =>
      rw [List.all_cons, Bool.and_eq_true] at f
      rw [List.countP_cons, List.countP_cons, countU rt f.2, eqU_of r f.1]
theorem mt_countF {X : Cx} : MtR X "list.count" (rCountF X.K) := by
  intro pins s σ H x xs v us Q I rx rxs h
  obtain ⟨a, ys, y, rfl, rfl, hs, fy, fys, q⟩ := h
  cases rx
  obtain ⟨uy, rfl, ry⟩ := rxs.one
  obtain ⟨its, rv, ⟨⟨cls, dd, data, sl⟩, n, ho, hc, hdn, hd⟩, hlen⟩ := I.list hs
  simp only at hc hd
  subst hc hd
  refine call_meets PySem.F.slot_list_count ⟨_, ho, rfl⟩ PySem.F.entry_list_count (PySem.F.args_list_count_2 _ _) (SeqAt.list_countAt a its.toArray n dd sl uy (eqU y)) ⟨ho, fun u' hu' => mem_eqAt ry fy rv fys u' (by simpa using hu'), ?_⟩
  refine ⟨.int ((ys.countP fun z => eqV z y : Nat) : Int), H, I.tok _, ⟨s.toks, ?_⟩, q⟩
  show Value.int ((its.countP (eqU y) : Nat) : Int) s.toks = _
  rw [countU rv fys]
/-! ### a def that makes lambdas -/
theorem FnP.okL {P : Program} {w : World} {K : PySem.W.Frag} {mg : Str → Option Value} {base : Heap} {x : Str} {st : Stmt} {fd : FuncData} {N ps : List Str} {k : Nat} {sp : Sp} (F : FunD K x x (defArgs st) (defBody st) (defScope st) [] [] (ga K x) fd) (S : FnScope N ps (defScope st)) (len : ∀ vs H Q E, sp vs H Q E → vs.length = ps.length)
    (hbody : ∀ (A : Around) (outer : List Env) (s : Shared) (H : Hp) (vs : List V) (Q : VK) (E : XK), Room k (A.deeper (envOfC x (defScope st) s.heap.objs.size (ga K x) (.ref (codeOf K (x, none))))) → sp vs H Q E →
      ∃ t : {t : TS // PSs (cxOf CX0 P w K mg base N x (defScope st) (ga K x) (.ref (codeOf K (x, none))) A outer s H E).nox (defBody st) t}, t.1 { nx := fun _ H' => Q .non H', rt := Q } (start N vs) H) : FnOk P w K mg base CX0 (k + 1) (ga K x) fd ps sp := by
  obtain ⟨oc, od, dV, kV, doc, pm, an, cdv, ct, osl, rfl, lk, hcd, _, _⟩ := F.ex
  obtain ⟨c, rfl⟩ := codeIn_ref hcd
  have e : codeOf K (x, none) = c := codeOf_eq (p := (x, none)) lk rfl
  refine fn_of lk hcd S len fun A outer s H vs Q E hr hsp => ?_
  rw [← e] at hr ⊢
  obtain ⟨t, q⟩ := hbody A outer s H vs Q E hr hsp
  exact ⟨t.1, t.2.nox, q⟩
/-! ### what a lambda's body lets out -/
theorem cx_of_n {P : Program} {w : World} {outer : List Env} {H : Hp} {s : Shared} {E : XK} {u : Value} {s' : Shared} (h : L2N.CX P w outer H s E u s') : L2.CX P w outer H s E u s' := by
  obtain ⟨a, B, H', cls, d, rfl, ⟨p1, p2, p3, p4⟩, r⟩ := h
  exact ⟨a, B, H', cls, d, rfl, ⟨p1, p2, p3, traced_imp (fun o z => z.zc) p4⟩, r⟩
theorem cx_of_t {P : Program} {w : World} {outer : List Env} {H : Hp} {s : Shared} {E : XK} {u : Value} {s' : Shared} (h : CXt P w outer H s E u s') : L2.CX P w outer H s E u s' := by
  obtain ⟨a, B, H', cls, d, rfl, ⟨p1, p2, p3, p4⟩, r⟩ := h
  exact ⟨a, B, H', cls, d, rfl, ⟨p1, p2, p3, traced_imp (fun o z => z.1) p4⟩, r⟩
theorem passLN {X : Cx} {A : Around} {outer : List Env} {s : Shared} {H : Hp} {E : XK} {scope : Scope} {f c' : Addr} : Passes (L2N.CX X.prog X.w) (LamX.lamCx X A outer s H E scope f c') E := fun pins σ H1 s1 e s' I c =>
  L2.passes_call (X := LamX.lamCx X A outer s H E scope f c') (W := fun cls d _ H => E cls d H) (L2.takes_of rfl rfl rfl rfl) (fun _ _ _ _ h => h) pins σ H1 s1 e s' I (cx_of_n c)
theorem passLT {X : Cx} {A : Around} {outer : List Env} {s : Shared} {H : Hp} {E : XK} {scope : Scope} {f c' : Addr} : Passes (CXt X.prog X.w) (LamX.lamCx X A outer s H E scope f c') E := fun pins σ H1 s1 e s' I c =>
  L2.passes_call (X := LamX.lamCx X A outer s H E scope f c') (W := fun cls d _ H => E cls d H) (L2.takes_of rfl rfl rfl rfl) (fun _ _ _ _ h => h) pins σ H1 s1 e s' I (cx_of_t c)
/-! ### _law_no_of -/
abbrev RetT' (K : PySem.W.Frag) (x : Str) (H : Hp) (E : XK) : Prop := ∀ H2, Ex H H2 → E (.ref (ga K x)) none H2
def nameOf (x : Str) : Str := if x = "BadWishes" then "wishes" else if x = "TooMany" then "many" else if x = "BadTree" then "tree" else if x = "BadPath" then "path" else if x = "BadStanding" then "standing" else "text"
def TNo (K : PySem.W.Frag) : (XK → Hp → VK → Prop) → Hp → VK → Prop := fun tl H Q => tl (fun cls d H' => ∃ x, x ∈ errNames ∧ cls = .ref (ga K x) ∧ d = none ∧ ErrX K x ∧ ∀ H2, Ex H' H2 → Q (.str (nameOf x)) H2) H (fun _ H' => ∀ H2, Ex H' H2 → Q (.str (Str.ofString "")) H2)
section
variable {K : PySem.W.Frag} {σ : L2.St} {H : Hp} {D : Ends} {tz : TS}
theorem q_lamNe {T : TabT} {sp : Sp} {ta : TA} {x z : Str} {Φ : List V → Hp → Prop} (hT : Tabs T H) (X : ErrX K x) (hm : x ∈ errNames) (hz : nameOf x = z) (ha : ∀ H1, ExtN H H1 → EvAP ta σ H1 Φ) (k : ∀ vs H2 Q E, ExtN H H2 → Φ vs H2 → RetT' K x H2 E → sp vs H2 Q E) (c : ∀ H2, ExtN H H2 → Tabs T H2 → tz D σ H2) :
    tSeq (tIfS (tTest (tOp rNe (LamX.tLam T (TNo K) fun E => tCall sp [] E ta) (tC (.str z)))) (tRet (tC (.bl false))) tNext) tz D σ H := by
  refine ⟨hT, fun H1 eN T1 => ?_⟩
  refine ha H1 eN H1 (Ex.refl H1) _ fun vs H2 e2 hv => ?_
  show sp (vs ++ []) H2 _ _
  rw [List.append_nil]
  refine k vs H2 _ _ (eN.trans (Ex.n e2)) hv fun H3 e3 => ⟨x, hm, rfl, rfl, X, fun H4 e4 => ?_⟩
  rw [hz]
  refine (ev_c (v := V.str z) (σ := σ) (H := H4)) H4 (Ex.refl H4) _ fun H5 e5 => ?_
  refine (rv_ne (H := H5) (x := V.str z) (y := V.str z) rfl) H5 (Ex.refl H5) _ fun H6 e6 => ⟨false, by rw [decide_eq_true rfl]; rfl, ?_⟩
  have e36 := e3.trans (e4.trans (e5.trans e6))
  exact c H6 (eN.trans (Ex.n (e2.trans e36))) (tabs_ex T1 (e2.trans e36))
end
end Pk
namespace Pk
open PySem PySem.Spec PyProof.Rows L2 Evl He
/-- _law_no_of, as it stands behind the top -/
structure NoD (K : PySem.W.Frag) (mg : Str → Option Value) (base : Heap) (st : Stmt) (N : List Str) where
  oc : Value
  od : Option Addr
  dV : Value
  kV : Value
  doc : Value
  pm : Value
  an : Option Addr
  cd : Value
  ct : Value
  osl : Array (Option Value)
  gl : mg "_law_no_of" = some (.ref (ga K "_law_no_of"))
  kp : PySem.W.keepIn K (.ref (ga K "_law_no_of")) = true
  lk : K.lookup (ga K "_law_no_of") = some ⟨oc, od, .func (PySem.W.fnOf "_law_no_of" "_law_no_of" (defArgs st) (defBody st) (defScope st) dV kV doc pm an cd ct), osl⟩
  ci : PySem.W.codeIn K cd "_law_no_of" = true
  bd : L2.Binds K (PySem.W.fnOf "_law_no_of" "_law_no_of" (defArgs st) (defBody st) (defScope st) dV kV doc pm an cd ct) ["ask"] []
  gv : ∀ (X : Cx) (q : Str), X.K = K → X.mg = mg → X.base = base → LamX.GivesTo X N "_law_no_of" (defScope st) (ga K "_law_no_of") cd (defBody st) "ask" q (TNo K)
/-- a def that makes lambdas: its code object's table -/
structure LamT (K : PySem.W.Frag) (mg : Str → Option Value) (base : Heap) (T : TabT) (x : Str) (st : Stmt) : Prop where
  tb : LamX.TabB base mg (codeOf K (x, none)) (tabOf K (codeOf K (x, none)))
  mem : (tabOf K (codeOf K (x, none)), (envOfC x (defScope st) 0 0 .none).qual ++ "<lambda>") ∈ T
  uq : ∀ p ∈ T, p.1 = tabOf K (codeOf K (x, none)) → p.2 = (envOfC x (defScope st) 0 0 .none).qual ++ "<lambda>"
end Pk
namespace Pk
open PySem PySem.Spec PyProof.Rows L2 Evl He
open SX (S)
section
variable {K : PySem.W.Frag} {σ : L2.St} {H : Hp} {te ta tl : TE} {v : V} {D : Ends} {tz tu : TS} {ds : List PyData}
/-! ### loops over what was written down, where lambdas may be made -/
theorem DwAll.at : ∀ {xs : List V} {ds : List PyData} {i : Nat} {x : V}, DwAll H xs ds → xs[i]? = some x → ∃ d, ds[i]? = some d ∧ d ∈ ds ∧ Dw H x d
  | [], _, i, x, h, hx => by cases h; cases hx
  | v :: vs, _, i, x, h, hx => by
    cases h with
    | @cons _ _ d ds h1 h2 =>
      cases i with
      | zero => cases hx; exact ⟨d, rfl, List.mem_cons_self, h1⟩
      | succ i =>
        obtain ⟨e, he, hm, hd⟩ := h2.at hx
        exact ⟨e, he, List.mem_cons_of_mem _ hm, hd⟩
theorem q_forDN {T : TabT} {G : TG} {J : L2.St → Prop} (hT : Tabs T H) (h : EvD te σ H (.list ds)) (h0 : J σ)
    (hs : ∀ d ∈ ds, ∀ (v : V) (σ' : L2.St) (H' : Hp) (N : L2.St → Hp → Prop), Dw H' v d → J σ' → ExtN H H' → Tabs T H' → (∀ σ3 H3, J σ3 → ExtN H' H3 → Tabs T H3 → N σ3 H3) → G v σ' H' fun σ2 H2 => tu { D with nx := N, ct := N, bk := tz D } σ2 H2)
    (hd : ∀ σ' H', J σ' → ExtN H H' → Tabs T H' → tz D σ' H') : tSeq (tFor (iList K te) G tu) tz D σ H := h H (Ex.refl H) _ fun v H1 e1 hv => by
  cases hv with
  | @lst a xs ds h1 h2 =>
    refine ⟨a, rfl, ⟨xs, sq_of h1⟩, for_list (D := { D with nx := tz D }) (fun _ σ' H' => J σ' ∧ ExtN H1 H' ∧ Tabs T H') ⟨h0, LamX.ExtN.refl _, tabs_ex hT e1⟩ (fun i σ' H' _ p => sq_of (exn_lst p.2.1 h1)) (fun i x σ' H' hx p => ?_) fun σ' H' p => hd σ' H' p.1 ((Ex.n e1).trans p.2.1) p.2.2⟩
    obtain ⟨d, _, hm, hd⟩ := h2.at hx
    exact hs d hm x σ' H' _ (Dw.exN p.2.1 _ _ hd) p.1 ((Ex.n e1).trans p.2.1) p.2.2 fun σ3 H3 j3 e3 t3 => ⟨j3, p.2.1.trans e3, t3⟩
theorem g_tup2 {i j : Nat} {d1 d2 : PyData} {Q : L2.St → Hp → Prop} (h : Dw H v (.tuple [d1, d2])) (k : ∀ v1 v2, Dw H v1 d1 → Dw H v2 d2 → Q ((σ.set i (some v1)).set j (some v2)) H) : gTup K 2 (gCons (gName i) (gCons (gName j) gNil)) v σ H Q := by
  cases h with
  | @tup a xs _ h1 h2 =>
    cases h2 with
    | cons m1 h2 => cases h2 with
      | cons m2 h2 => cases h2; exact ⟨a, _, rfl, st_of h1, rfl, _, _, rfl, _, _, rfl, rfl, k _ _ m1 m2⟩
theorem g_tup3 {i j l : Nat} {d1 d2 d3 : PyData} {Q : L2.St → Hp → Prop} (h : Dw H v (.tuple [d1, d2, d3])) (k : ∀ v1 v2 v3, Dw H v1 d1 → Dw H v2 d2 → Dw H v3 d3 → Q (((σ.set i (some v1)).set j (some v2)).set l (some v3)) H) : gTup K 3 (gCons (gName i) (gCons (gName j) (gCons (gName l) gNil))) v σ H Q := by
  cases h with
  | @tup a xs _ h1 h2 =>
    cases h2 with
    | cons m1 h2 => cases h2 with
      | cons m2 h2 => cases h2 with
        | cons m3 h2 => cases h2; exact ⟨a, _, rfl, st_of h1, rfl, _, _, rfl, _, _, rfl, _, _, rfl, rfl, k _ _ _ m1 m2 m3⟩
/-! ### pairs of numbers -/
def Pr (H : Hp) (x : V) (p : Int × Int) : Prop := ∃ t, x = .ref t ∧ H t = some (.tup [.int p.1, .int p.2])
def PrAll (H : Hp) (xs : List V) (ps : List (Int × Int)) : Prop := xs.length = ps.length ∧ ∀ (i : Nat) (x : V) (p : Int × Int), xs[i]? = some x → ps[i]? = some p → Pr H x p
theorem Pr.ex {H1 : Hp} {x : V} {p : Int × Int} (h : Pr H x p) (e : Ex H H1) : Pr H1 x p := let ⟨t, h1, h2⟩ := h; ⟨t, h1, e _ _ h2⟩
theorem PrAll.ex {H1 : Hp} {xs : List V} {ps : List (Int × Int)} (h : PrAll H xs ps) (e : Ex H H1) : PrAll H1 xs ps := ⟨h.1, fun i x p h1 h2 => (h.2 i x p h1 h2).ex e⟩
theorem PrAll.upd {xs ys zs : List V} {ps : List (Int × Int)} {l : Addr} (h : PrAll H xs ps) (hl : H l = some (.lst ys)) : PrAll (upd H l (.lst zs)) xs ps := ⟨h.1, fun i x p h1 h2 => by
  obtain ⟨t, rfl, ht⟩ := h.2 i x p h1 h2
  refine ⟨t, rfl, ?_⟩
  rw [upd_ne (fun e => by rw [e, hl] at ht; cases ht)]
  exact ht⟩
theorem PrAll.snoc {xs : List V} {ps : List (Int × Int)} {x : V} {p : Int × Int} (h : PrAll H xs ps) (hx : Pr H x p) : PrAll H (xs ++ [x]) (ps ++ [p]) := ⟨by rw [List.length_append, List.length_append, h.1]; rfl, fun i y q h1 h2 => by
  by_cases hi : i < xs.length
  · rw [List.getElem?_append_left hi] at h1
    rw [List.getElem?_append_left (by rw [← h.1]; exact hi)] at h2
    exact h.2 i y q h1 h2
  · have hl := h.1
    rw [List.getElem?_append_right (by omega)] at h1
    rw [List.getElem?_append_right (by omega), ← hl] at h2
    have hi0 : i - xs.length = 0 := by
      have := (List.getElem?_eq_some_iff.mp h1).1
      rw [List.length_singleton] at this
      omega
    rw [hi0] at h1 h2
    cases h1
    cases h2
    exact hx⟩
def IsPrs (ps : List (Int × Int)) (v : V) (H : Hp) : Prop := ∃ l xs, v = .ref l ∧ H l = some (.lst xs) ∧ PrAll H xs ps
/-- [(a, b) for i, y in enumerate(ys)] -/
theorem ep_enumP {a : Addr} {ys : List Nat} {j1 j2 : Nat} {vs : List Nat} {t1 t2 : TE} (g : Nat → Nat → Int × Int) (h : Ev tl σ H (.ref a)) (hx : SqL K H a (vn ys)) (hz : ys.length ≤ 40000) (hw : ∀ x y, wipe (((wipe σ vs).set j1 (some x)).set j2 (some y)) vs = wipe σ vs)
    (h1 : ∀ (i y : Nat) H2, Ex H H2 → ys[i]? = some y → Ev t1 (((wipe σ vs).set j1 (some (nat i))).set j2 (some (nat y))) H2 (.int (g i y).1)) (h2 : ∀ (i y : Nat) H2, Ex H H2 → ys[i]? = some y → Ev t2 (((wipe σ vs).set j1 (some (nat i))).set j2 (some (nat y))) H2 (.int (g i y).2)) :
    EvP (tLc (iEnum K (tCons tl tNil)) (gPair K j1 j2) tYes (tTup (tCons t1 (tCons t2 tNil))) vs) σ H (IsPrs ((List.range ys.length).map fun i => g i (ys.getD i 0))) := fun H0 e0 Q q => h H0 e0 _ fun H1 e1 => ⟨a, _, rfl, ex_l (e0.trans e1) hx, fun Dl hD =>
  ⟨fun i m H' => m = ys.length - i ∧ i ≤ ys.length ∧ Ex H1 H' ∧ ∃ acc, H' Dl = some (.lst acc) ∧ PrAll H' acc ((List.range i).map fun i => g i (ys.getD i 0)), ⟨ys.length, by simp, Nat.zero_le _, Ex.new hD, [], upd_same, rfl, fun i x p hx => by cases hx⟩, by
    rintro i m H' ⟨rfl, hi, p2, acc, p3, p4⟩
    have hS : SqL K H' a (vn ys) := ex_l ((e0.trans e1).trans p2) hx
    by_cases hlt : i < ys.length
    · have hy : ys[i]? = some (ys.getD i 0) := by rw [List.getD_eq_getElem?_getD, List.getElem?_eq_getElem hlt]; rfl
      refine .inr ⟨⟨vn ys, nat (ys.getD i 0), hS, vn_get hy⟩, fun G => Ex H1 G ∧ ∃ acc, G Dl = some (.lst acc) ∧ PrAll G acc ((List.range (i + 1)).map fun i => g i (ys.getD i 0)), fun G hG => ⟨ys.length - (i + 1), by omega, rfl, hlt, hG⟩, fun x G hyl => ?_⟩
      obtain ⟨t, x1, rfl, ht, rfl, hx1⟩ := hyl
      have e1' : x1 = nat (ys.getD i 0) := Option.some.inj ((hx1 _ hS).symm.trans (vn_get hy))
      subst e1'
      have en : Ex H' (upd H' t (.tup [.int (i : Nat), nat (ys.getD i 0)])) := Ex.new ht
      refine ⟨t, _, rfl, st_of upd_same, rfl, _, _, rfl, _, _, rfl, rfl, hw _ _, et_yes _ (Ex.refl _) _ fun H3 e3 => ?_⟩
      refine h1 i _ H3 ((e0.trans e1).trans (p2.trans (en.trans e3))) hy H3 (Ex.refl _) _ fun H4 e4 => ?_
      refine h2 i _ H4 ((e0.trans e1).trans (p2.trans (en.trans (e3.trans e4)))) hy H4 (Ex.refl _) _ fun H5 e5 => ⟨sz_of (by show 2 ≤ _; decide), fun u hu => ?_⟩
      have e6 := Ex.new (H := H5) (p := u) (o := .tup [.int (g i (ys.getD i 0)).1, .int (g i (ys.getD i 0)).2]) hu
      have eA := en.trans (e3.trans (e4.trans (e5.trans e6)))
      refine ⟨acc, eA _ _ p3, sz_lt (by rw [p4.1, List.length_map, List.length_range]; omega), Ex.mut (p2.trans eA) hD, _, upd_same, ?_⟩
      rw [List.range_succ, List.map_append]
      exact ((p4.ex eA).snoc ⟨u, rfl, upd_same⟩).upd (eA _ _ p3)
    · have hi2 : i = ys.length := by omega
      subst hi2
      exact .inl ⟨⟨vn ys, hS, by rw [List.length_map]; exact Nat.le_refl _⟩, q _ H' (e1.trans p2) ⟨Dl, acc, rfl, p3, p4⟩⟩⟩⟩
/-- sorted of such, no two alike -/
theorem ep_sortedP {ps zs : List (Int × Int)} (h : EvP ta σ H (IsPrs ps)) (hp : zs.Perm ps) (hs : zs.Pairwise fun a b => SrtO.lexB b a = false) : EvP (tCB (rSortedPO K) (tCons ta tNil)) σ H (IsPrs zs) := fun H0 e0 Q q => h H0 e0 _ fun v H1 e1 hv => by
  obtain ⟨l, xs, rfl, hl, hx⟩ := hv
  let k : V → Int × Int := fun x => match x with
    | .ref t => (match H1 t with
      | some (.tup [.int i, .int j]) => (i, j)
      | _ => (0, 0))
    | _ => (0, 0)
  have hk : ∀ x p, Pr H1 x p → k x = p := fun x p ⟨t, e, ht⟩ => by
    subst e
    show (match H1 t with
      | some (.tup [.int i, .int j]) => (i, j)
      | _ => (0, 0)) = p
    rw [ht]
  have hxk : xs.map k = ps := by
    refine List.ext_getElem? fun i => ?_
    rw [List.getElem?_map]
    by_cases c : i < xs.length
    · have c2 : i < ps.length := by rw [← hx.1]; exact c
      rw [List.getElem?_eq_getElem c, List.getElem?_eq_getElem c2]
      show some (k xs[i]) = _
      rw [hk _ _ (hx.2 i _ _ (List.getElem?_eq_getElem c) (List.getElem?_eq_getElem c2))]
    · have hl := hx.1
      rw [List.getElem?_eq_none (by omega), List.getElem?_eq_none (by omega)]
      rfl
  have hin : ∀ x ∈ xs, ∃ t, x = V.ref t ∧ H1 t = some (.tup [.int (k x).1, .int (k x).2]) := fun x hm => by
    obtain ⟨i, hi⟩ := List.getElem?_of_mem hm
    have c := (List.getElem?_eq_some_iff.mp hi).1
    have c2 : i < ps.length := by rw [← hx.1]; exact c
    have g := hx.2 i _ _ hi (List.getElem?_eq_getElem c2)
    rw [hk _ _ g]
    exact g
  refine ⟨l, xs, k, rfl, sq_of hl, hin, fun ys p hsr hst hn => q _ _ (e1.trans (Ex.new hn)) ⟨p, ys, rfl, upd_same, ?_⟩⟩
  have anti : ∀ a b : Int × Int, SrtO.lexB b a = false → SrtO.lexB a b = false → a = b := fun a b h1 h2 => by
    have n1 : ¬ (b.1 < a.1 ∨ (b.1 = a.1 ∧ b.2 < a.2)) := fun z => by rw [SrtO.lexB_iff.mpr z] at h1; cases h1
    have n2 : ¬ (a.1 < b.1 ∨ (a.1 = b.1 ∧ a.2 < b.2)) := fun z => by rw [SrtO.lexB_iff.mpr z] at h2; cases h2
    have e1 : a.1 = b.1 := by omega
    have e2 : a.2 = b.2 := by omega
    exact Prod.ext e1 e2
  have hys : ys.map k = zs := by
    refine List.Perm.eq_of_pairwise (le := fun a b => SrtO.lexB b a = false) (fun a b _ _ h1 h2 => anti a b h1 h2) ?_ hs (((hst.perm.map k).trans (by rw [hxk])).trans hp.symm)
    exact List.pairwise_map.mpr hsr
  refine PrAll.ex (H := H1) ⟨by rw [← hys, List.length_map], fun i x p h1 h2 => ?_⟩ (Ex.new hn)
  have hm : x ∈ xs := (hst.perm.mem_iff).mp (List.mem_of_getElem? h1)
  obtain ⟨t, e, ht⟩ := hin x hm
  rw [← hys, List.getElem?_map, h1] at h2
  cases h2
  exact ⟨t, e, ht⟩
/-- [b for a, b in pairs] -/
theorem el_lcPr {l : Addr} {xs : List V} {ps : List (Int × Int)} {i j : Nat} {vs : List Nat} (h : Ev tl σ H (.ref l)) (hl : H l = some (.lst xs)) (hp : PrAll H xs ps) (hz : ps.length ≤ 40000) (hw : ∀ x y, wipe (((wipe σ vs).set i (some x)).set j (some y)) vs = wipe σ vs)
    (he : ∀ (x y : Int) H2, Ev te (((wipe σ vs).set i (some (.int x))).set j (some (.int y))) H2 (.int y)) : EvL (tLc (iList K tl) (gPair K i j) tYes te vs) σ H (ps.map fun p => V.int p.2) := fun H0 e0 Q q => h H0 e0 _ fun H1 e1 => ⟨l, rfl, ⟨xs, sq_of ((e0.trans e1) _ _ hl)⟩, fun Dl hD =>
  ⟨fun n m H' => m = xs.length - n ∧ n ≤ xs.length ∧ Ex H1 H' ∧ H' Dl = some (.lst ((ps.take n).map fun p => V.int p.2)), ⟨xs.length, by simp, Nat.zero_le _, Ex.new hD, upd_same⟩, by
    rintro n m H' ⟨rfl, hn, p2, p3⟩
    have hlen := hp.1
    have hS : SqL K H' l xs := sq_of (((e0.trans e1).trans p2) _ _ hl)
    by_cases hlt : n < xs.length
    · have hlt2 : n < ps.length := by omega
      refine .inr ⟨⟨xs, xs[n], hS, List.getElem?_eq_getElem hlt⟩, fun G => Ex H1 G ∧ G Dl = some (.lst ((ps.take (n + 1)).map fun p => V.int p.2)), fun G hG => ⟨xs.length - (n + 1), by omega, rfl, hlt, hG⟩, fun x G hG => ?_⟩
      obtain ⟨rfl, hy⟩ := hG
      obtain ⟨t, rfl, ht⟩ := hp.2 n x _ (hy xs hS) (List.getElem?_eq_getElem hlt2)
      refine ⟨t, _, rfl, st_of (((e0.trans e1).trans p2) _ _ ht), rfl, _, _, rfl, _, _, rfl, rfl, hw _ _, et_yes _ (Ex.refl _) _ fun H3 e3 => ?_⟩
      refine he _ _ H3 H3 (Ex.refl _) _ fun H4 e4 => ⟨_, (e3.trans e4) _ _ p3, sz_lt (by rw [List.length_map, List.length_take]; omega), Ex.mut (p2.trans (e3.trans e4)) hD, ?_⟩
      rw [upd_same, List.take_add_one, List.getElem?_eq_getElem hlt2, List.map_append]
      rfl
    · have hi2 : n = xs.length := by omega
      subst hi2
      refine .inl ⟨⟨xs, hS, Nat.le_refl _⟩, q Dl H' (fresh_back e1 hD) (e1.trans p2) ?_⟩
      rw [p3, hlen, List.take_length]⟩⟩
end
end Pk
namespace Pk
open PySem PySem.Spec PyProof.Rows L2 Evl He
def topS (i : Nat) : Stmt := PySem.Challenge.pw_parkrow_k05_whole_tree.main.body.getD i (.Pass ⟨0, 0, 0, 0⟩)
abbrev s_Parked_init : Stmt := (clsBody (topS 15)).getD 0 (.Pass ⟨0, 0, 0, 0⟩)
abbrev N_Parked_init : List Str := ["self", "where"]
abbrev P_Parked_init : List Str := ["self", "where"]
theorem sc_Parked_init : FnScope N_Parked_init P_Parked_init (defScope s_Parked_init) := ⟨rfl, rfl, rfl, by decide +kernel, rfl, by decide +kernel, by decide +kernel⟩
abbrev s_Crowd_init : Stmt := (clsBody (topS 16)).getD 0 (.Pass ⟨0, 0, 0, 0⟩)
abbrev N_Crowd_init : List Str := ["self", "place"]
abbrev P_Crowd_init : List Str := ["self", "place"]
theorem sc_Crowd_init : FnScope N_Crowd_init P_Crowd_init (defScope s_Crowd_init) := ⟨rfl, rfl, rfl, by decide +kernel, rfl, by decide +kernel, by decide +kernel⟩
abbrev s_is_number : Stmt := topS 10
abbrev N_is_number : List Str := ["thing", "least", "most"]
abbrev P_is_number : List Str := ["thing", "least", "most"]
theorem sc_is_number : FnScope N_is_number P_is_number (defScope s_is_number) := ⟨rfl, rfl, rfl, by decide +kernel, rfl, by decide +kernel, by decide +kernel⟩
abbrev s_asked_wishes : Stmt := topS 11
abbrev N_asked_wishes : List Str := ["places", "wishes", "wish"]
abbrev P_asked_wishes : List Str := ["places", "wishes"]
theorem sc_asked_wishes : FnScope N_asked_wishes P_asked_wishes (defScope s_asked_wishes) := ⟨rfl, rfl, rfl, by decide +kernel, rfl, by decide +kernel, by decide +kernel⟩
abbrev s_free_from : Stmt := topS 12
abbrev N_free_from : List Str := ["ahead", "place", "found", "later"]
abbrev P_free_from : List Str := ["ahead", "place"]
theorem sc_free_from : FnScope N_free_from P_free_from (defScope s_free_from) := ⟨rfl, rfl, rfl, by decide +kernel, rfl, by decide +kernel, by decide +kernel⟩
abbrev s_stood : Stmt := topS 13
abbrev N_stood : List Str := ["places", "wishes", "ahead", "where", "wish", "place"]
abbrev P_stood : List Str := ["places", "wishes"]
theorem sc_stood : FnScope N_stood P_stood (defScope s_stood) := ⟨rfl, rfl, rfl, by decide +kernel, rfl, by decide +kernel, by decide +kernel⟩
abbrev s_crowd_of : Stmt := topS 17
abbrev N_crowd_of : List Str := ["places", "wishes", "counts", "many", "found", "place"]
abbrev P_crowd_of : List Str := ["places", "wishes"]
theorem sc_crowd_of : FnScope N_crowd_of P_crowd_of (defScope s_crowd_of) := ⟨rfl, rfl, rfl, by decide +kernel, rfl, by decide +kernel, by decide +kernel⟩
abbrev s_counted : Stmt := topS 18
abbrev N_counted : List Str := ["places", "wishes", "counts", "wish", "place"]
abbrev P_counted : List Str := ["places", "wishes"]
theorem sc_counted : FnScope N_counted P_counted (defScope s_counted) := ⟨rfl, rfl, rfl, by decide +kernel, rfl, by decide +kernel, by decide +kernel⟩
abbrev s_parked : Stmt := topS 19
abbrev N_parked : List Str := ["places", "wishes", "place"]
abbrev P_parked : List Str := ["places", "wishes"]
theorem sc_parked : FnScope N_parked P_parked (defScope s_parked) := ⟨rfl, rfl, rfl, by decide +kernel, rfl, by decide +kernel, by decide +kernel⟩
abbrev s_taken : Stmt := topS 20
abbrev N_taken : List Str := ["places", "wishes", "found", "waiting", "place", "many"]
abbrev P_taken : List Str := ["places", "wishes"]
theorem sc_taken : FnScope N_taken P_taken (defScope s_taken) := ⟨rfl, rfl, rfl, by decide +kernel, rfl, by decide +kernel, by decide +kernel⟩
abbrev s_driven_off : Stmt := topS 21
abbrev N_driven_off : List Str := ["places", "wishes", "car", "place"]
abbrev P_driven_off : List Str := ["places", "wishes"]
theorem sc_driven_off : FnScope N_driven_off P_driven_off (defScope s_driven_off) := ⟨rfl, rfl, rfl, by decide +kernel, rfl, by decide +kernel, by decide +kernel⟩
abbrev s_lucky : Stmt := topS 22
abbrev N_lucky : List Str := ["places", "wishes", "where", "car"]
abbrev P_lucky : List Str := ["places", "wishes"]
theorem sc_lucky : FnScope N_lucky P_lucky (defScope s_lucky) := ⟨rfl, rfl, rfl, by decide +kernel, rfl, by decide +kernel, by decide +kernel⟩
abbrev s_all_parked : Stmt := topS 23
abbrev N_all_parked : List Str := ["wishes"]
abbrev P_all_parked : List Str := ["wishes"]
theorem sc_all_parked : FnScope N_all_parked P_all_parked (defScope s_all_parked) := ⟨rfl, rfl, rfl, by decide +kernel, rfl, by decide +kernel, by decide +kernel⟩
abbrev s_drives : Stmt := topS 24
abbrev N_drives : List Str := ["wishes"]
abbrev P_drives : List Str := ["wishes"]
theorem sc_drives : FnScope N_drives P_drives (defScope s_drives) := ⟨rfl, rfl, rfl, by decide +kernel, rfl, by decide +kernel, by decide +kernel⟩
abbrev s_as_list : Stmt := topS 25
abbrev N_as_list : List Str := ["wishes"]
abbrev P_as_list : List Str := ["wishes"]
theorem sc_as_list : FnScope N_as_list P_as_list (defScope s_as_list) := ⟨rfl, rfl, rfl, by decide +kernel, rfl, by decide +kernel, by decide +kernel⟩
abbrev s_tree : Stmt := topS 27
abbrev N_tree : List Str := ["wishes", "children", "car", "wish", "served", "parents", "turn", "child"]
abbrev P_tree : List Str := ["wishes"]
theorem sc_tree : FnScope N_tree P_tree (defScope s_tree) := ⟨rfl, rfl, rfl, by decide +kernel, rfl, by decide +kernel, by decide +kernel⟩
abbrev s_served_by : Stmt := topS 28
abbrev N_served_by : List Str := ["parents", "children", "car", "parent", "served", "turn"]
abbrev P_served_by : List Str := ["parents"]
theorem sc_served_by : FnScope N_served_by P_served_by (defScope s_served_by) := ⟨rfl, rfl, rfl, by decide +kernel, rfl, by decide +kernel, by decide +kernel⟩
abbrev s_wishes_of : Stmt := topS 29
abbrev N_wishes_of : List Str := ["parents", "served", "turns", "turn", "one", "parent"]
abbrev P_wishes_of : List Str := ["parents"]
theorem sc_wishes_of : FnScope N_wishes_of P_wishes_of (defScope s_wishes_of) := ⟨rfl, rfl, rfl, by decide +kernel, rfl, by decide +kernel, by decide +kernel⟩
abbrev s_path : Stmt := topS 31
abbrev N_path : List Str := ["wishes", "many"]
abbrev P_path : List Str := ["wishes"]
theorem sc_path : FnScope N_path P_path (defScope s_path) := ⟨rfl, rfl, rfl, by decide +kernel, rfl, by decide +kernel, by decide +kernel⟩
abbrev s_heights : Stmt := topS 32
abbrev N_heights : List Str := ["text", "height", "found", "sign"]
abbrev P_heights : List Str := ["text"]
theorem sc_heights : FnScope N_heights P_heights (defScope s_heights) := ⟨rfl, rfl, rfl, by decide +kernel, rfl, by decide +kernel, by decide +kernel⟩
abbrev s_beneath : Stmt := topS 33
abbrev N_beneath : List Str := ["text"]
abbrev P_beneath : List Str := ["text"]
theorem sc_beneath : FnScope N_beneath P_beneath (defScope s_beneath) := ⟨rfl, rfl, rfl, by decide +kernel, rfl, by decide +kernel, by decide +kernel⟩
abbrev s_rising : Stmt := topS 34
abbrev N_rising : List Str := ["text", "found", "place", "sign"]
abbrev P_rising : List Str := ["text"]
theorem sc_rising : FnScope N_rising P_rising (defScope s_rising) := ⟨rfl, rfl, rfl, by decide +kernel, rfl, by decide +kernel, by decide +kernel⟩
abbrev s_ring : Stmt := topS 36
abbrev N_ring : List Str := ["places", "wishes", "ahead", "left", "where", "wish", "place"]
abbrev P_ring : List Str := ["places", "wishes"]
theorem sc_ring : FnScope N_ring P_ring (defScope s_ring) := ⟨rfl, rfl, rfl, by decide +kernel, rfl, by decide +kernel, by decide +kernel⟩
abbrev s_turning : Stmt := topS 37
abbrev N_turning : List Str := ["wishes", "places", "where", "empty"]
abbrev P_turning : List Str := ["wishes"]
theorem sc_turning : FnScope N_turning P_turning (defScope s_turning) := ⟨rfl, rfl, rfl, by decide +kernel, rfl, by decide +kernel, by decide +kernel⟩
abbrev s_turned : Stmt := topS 38
abbrev N_turned : List Str := ["wishes", "by", "places", "wish"]
abbrev P_turned : List Str := ["wishes", "by"]
theorem sc_turned : FnScope N_turned P_turned (defScope s_turned) := ⟨rfl, rfl, rfl, by decide +kernel, rfl, by decide +kernel, by decide +kernel⟩
abbrev s_asked_standing : Stmt := topS 40
abbrev N_asked_standing : List Str := ["standing", "car"]
abbrev P_asked_standing : List Str := ["standing"]
theorem sc_asked_standing : FnScope N_asked_standing P_asked_standing (defScope s_asked_standing) := ⟨rfl, rfl, rfl, by decide +kernel, rfl, by decide +kernel, by decide +kernel⟩
abbrev s_reaches : Stmt := topS 41
abbrev N_reaches : List Str := ["standing", "found", "later", "place", "car"]
abbrev P_reaches : List Str := ["standing"]
theorem sc_reaches : FnScope N_reaches P_reaches (defScope s_reaches) := ⟨rfl, rfl, rfl, by decide +kernel, rfl, by decide +kernel, by decide +kernel⟩
abbrev s_how_many : Stmt := topS 42
abbrev N_how_many : List Str := ["standing", "found", "place", "least"]
abbrev P_how_many : List Str := ["standing"]
theorem sc_how_many : FnScope N_how_many P_how_many (defScope s_how_many) := ⟨rfl, rfl, rfl, by decide +kernel, rfl, by decide +kernel, by decide +kernel⟩
abbrev s_from_steps : Stmt := topS 43
abbrev N_from_steps : List Str := ["standing", "steps", "least", "wishes", "place", "car"]
abbrev P_from_steps : List Str := ["standing", "steps"]
theorem sc_from_steps : FnScope N_from_steps P_from_steps (defScope s_from_steps) := ⟨rfl, rfl, rfl, by decide +kernel, rfl, by decide +kernel, by decide +kernel⟩
abbrev s_written : Stmt := topS 47
abbrev N_written : List Str := ["places", "wishes", "wish"]
abbrev P_written : List Str := ["places", "wishes"]
theorem sc_written : FnScope N_written P_written (defScope s_written) := ⟨rfl, rfl, rfl, by decide +kernel, rfl, by decide +kernel, by decide +kernel⟩
abbrev s_number_in : Stmt := topS 48
abbrev N_number_in : List Str := ["word"]
abbrev P_number_in : List Str := ["word"]
theorem sc_number_in : FnScope N_number_in P_number_in (defScope s_number_in) := ⟨rfl, rfl, rfl, by decide +kernel, rfl, by decide +kernel, by decide +kernel⟩
abbrev s_read : Stmt := topS 49
abbrev N_read : List Str := ["text", "words", "places", "wishes", "word"]
abbrev P_read : List Str := ["text"]
theorem sc_read : FnScope N_read P_read (defScope s_read) := ⟨rfl, rfl, rfl, by decide +kernel, rfl, by decide +kernel, by decide +kernel⟩
abbrev s_law_full : Stmt := topS 51
abbrev N_law_full : List Str := ["script", "many", "wishes", "counts", "wish", "height", "least", "empty", "place", "cell"]
abbrev P_law_full : List Str := ["script"]
theorem sc_law_full : FnScope N_law_full P_law_full (defScope s_law_full) := ⟨rfl, rfl, rfl, by decide +kernel, rfl, by decide +kernel, by decide +kernel⟩
abbrev s_law_numbers : Stmt := topS 52
abbrev N_law_numbers : List Str := ["found", "one"]
abbrev P_law_numbers : List Str := ["found"]
theorem sc_law_numbers : FnScope N_law_numbers P_law_numbers (defScope s_law_numbers) := ⟨rfl, rfl, rfl, by decide +kernel, rfl, by decide +kernel, by decide +kernel⟩
abbrev s_law_parents : Stmt := topS 53
abbrev N_law_parents : List Str := ["wishes", "waiting", "served", "car", "wish"]
abbrev P_law_parents : List Str := ["wishes"]
theorem sc_law_parents : FnScope N_law_parents P_law_parents (defScope s_law_parents) := ⟨rfl, rfl, rfl, by decide +kernel, rfl, by decide +kernel, by decide +kernel⟩
abbrev s_law_no_of : Stmt := topS 54
abbrev N_law_no_of : List Str := ["ask", "error", "sorts", "words"]
abbrev P_law_no_of : List Str := ["ask"]
theorem sc_law_no_of : FnScope N_law_no_of P_law_no_of (defScope s_law_no_of) := ⟨rfl, rfl, rfl, by decide +kernel, rfl, by decide +kernel, by decide +kernel⟩
abbrev s_law_standings_promises : Stmt := topS 55
abbrev N_law_standings_promises : List Str := ["cases", "wishes", "parents", "text", "many", "standing", "found", "steps"]
abbrev P_law_standings_promises : List Str := []
theorem sc_law_standings_promises : FnScope N_law_standings_promises P_law_standings_promises (defScope s_law_standings_promises) := ⟨rfl, rfl, rfl, by decide +kernel, rfl, by decide +kernel, by decide +kernel⟩
abbrev s_law_standings_promises_more1 : Stmt := topS 56
abbrev N_law_standings_promises_more1 : List Str := ["texts", "text"]
abbrev P_law_standings_promises_more1 : List Str := []
theorem sc_law_standings_promises_more1 : FnScope N_law_standings_promises_more1 P_law_standings_promises_more1 (defScope s_law_standings_promises_more1) := ⟨rfl, rfl, rfl, by decide +kernel, rfl, by decide +kernel, by decide +kernel⟩
abbrev s_law_promises_right : Stmt := topS 57
abbrev N_law_promises_right : List Str := ["cases", "places", "wishes", "place", "found", "where", "wish"]
abbrev P_law_promises_right : List Str := []
theorem sc_law_promises_right : FnScope N_law_promises_right P_law_promises_right (defScope s_law_promises_right) := ⟨rfl, rfl, rfl, by decide +kernel, rfl, by decide +kernel, by decide +kernel⟩
abbrev s_law_promises_right_more1 : Stmt := topS 58
abbrev N_law_promises_right_more1 : List Str := ["wishes", "by"]
abbrev P_law_promises_right_more1 : List Str := []
theorem sc_law_promises_right_more1 : FnScope N_law_promises_right_more1 P_law_promises_right_more1 (defScope s_law_promises_right_more1) := ⟨rfl, rfl, rfl, by decide +kernel, rfl, by decide +kernel, by decide +kernel⟩
abbrev s_law : Stmt := topS 59
abbrev N_law : List Str := ["script", "wishes", "handed", "due", "again", "found", "back"]
abbrev P_law : List Str := ["script"]
theorem sc_law : FnScope N_law P_law (defScope s_law) := ⟨rfl, rfl, rfl, by decide +kernel, rfl, by decide +kernel, by decide +kernel⟩
def der_Parked_init {P : Program} {w : World} {K : PySem.W.Frag} {mg : Str → Option Value} {base : Heap} (B : Bi mg) {f : Addr} {cdv : Value} {A : Around} {outer : List Env} {s : Shared} {H : Hp} {E : XK}
    (hr : Room 0 (A.deeper (envOfC "Parked.__init__" (defScope s_Parked_init) s.heap.objs.size f cdv))) :
    {t : TS // PSs (cxOf CX0 P w K mg base N_Parked_init "Parked.__init__" (defScope s_Parked_init) f cdv A outer s H E).nox (defBody s_Parked_init) t} := ⟨_, (pss_one (ps_fld (pv 0) (pe_callTy (T := "list") (r := rListS K) call_list_of (by rfl) B.list (by decide +kernel) (pa_cons (pv 1) pa_nil)) rfl))⟩

def der_Crowd_init {P : Program} {w : World} {K : PySem.W.Frag} {mg : Str → Option Value} {base : Heap} {f : Addr} {cdv : Value} {A : Around} {outer : List Env} {s : Shared} {H : Hp} {E : XK}
    (hr : Room 0 (A.deeper (envOfC "Crowd.__init__" (defScope s_Crowd_init) s.heap.objs.size f cdv))) :
    {t : TS // PSs (cxOf CX0 P w K mg base N_Crowd_init "Crowd.__init__" (defScope s_Crowd_init) f cdv A outer s H E).nox (defBody s_Crowd_init) t} := ⟨_, (pss_one (ps_fld (pv 0) (pv 1) rfl))⟩

def der_is_number {P : Program} {w : World} {K : PySem.W.Frag} {mg : Str → Option Value} {base : Heap} (B : Bi mg) {f : Addr} {cdv : Value} {A : Around} {outer : List Env} {s : Shared} {H : Hp} {E : XK}
    (hr : Room 0 (A.deeper (envOfC "is_number" (defScope s_is_number) s.heap.objs.size f cdv))) :
    {t : TS // PSs (cxOf CX0 P w K mg base N_is_number "is_number" (defScope s_is_number) f cdv A outer s H E).nox (defBody s_is_number) t} := ⟨_, (pss_one (ps_ret (pe_and (pe_callB (id := "isinstance") (r := rIsi K) call_isi (by rfl) B.isinstance (by decide +kernel) (pa_cons (pv 0) (pa_cons (pe_bltn (v := .ty "int") (by rfl) B.int (by decide +kernel) rfl) pa_nil))) (pe_and (pe_not (pe_callB (id := "isinstance") (r := rIsi K) call_isi (by rfl) B.isinstance (by decide +kernel) (pa_cons (pv 0) (pa_cons (pe_bltn (v := .ty "bool") (by rfl) B.bool (by decide +kernel) rfl) pa_nil)))) (pe_one (pe_chain op_le op_le (pv 1) (pv 0) (pv 2)))))))⟩

def der_asked_wishes {P : Program} {w : World} {K : PySem.W.Frag} {mg : Str → Option Value} {base : Heap} (B : Bi mg) {fd_is_number : FuncData} {sp_is_number : Sp} (C_is_number : Cal P w K mg base CX0 1 "is_number" P_is_number sp_is_number fd_is_number) {tk_PLACES : Tok} (gc_PLACES : mg "PLACES" = some (.int 1000000 tk_PLACES)) (X_BadWishes : ExcF K mg "BadWishes") {f : Addr} {cdv : Value} {A : Around} {outer : List Env} {s : Shared} {H : Hp} {E : XK}
    (hr : Room 1 (A.deeper (envOfC "asked_wishes" (defScope s_asked_wishes) s.heap.objs.size f cdv))) :
    {t : TS // PSs (cxOf (L2N.CX P w) P w K mg base N_asked_wishes "asked_wishes" (defScope s_asked_wishes) f cdv A outer s H E) (defBody s_asked_wishes) t} := ⟨_, (pss_cons (ps_if (pt_not (pt_val (pe_call C_is_number.ok (hr.mono (by decide)) (by rfl) C_is_number.gl C_is_number.kp C_is_number.bd .nil pass0 (pa_cons (pv 0) (pa_cons pe_int (pa_cons (pe_glob (v := .int 1000000) rfl gc_PLACES ⟨_, rfl⟩) pa_nil))))))
 (pss_one (L2N.ps_raise rfl (L2N.takes_of rfl rfl rfl rfl) (L2N.pmk_own PySem.F.excBase_ValueError X_BadWishes.ex X_BadWishes.gl X_BadWishes.kp (raises_own X_BadWishes.be X_BadWishes.ty) rfl)))
 pss_nil)
 (pss_one (ps_if (PW.pt (pw_or (pt_not (pt_val (pe_callB (id := "isinstance") (r := rIsi K) call_isi (by rfl) B.isinstance (by decide +kernel) (pa_cons (pv 1) (pa_cons (pe_bltn (v := .ty "list") (by rfl) B.list (by decide +kernel) rfl) pa_nil))))) (pw_or1 (pt_not (pt_val (pe_callB (id := "all") (r := rAll K) (cr_all rfl) (by rfl) B.all (by decide +kernel) (pa_cons (pe_lc (own := [("wish", 2)]) (g := (gName 2)) (tt := tYes) rfl sc_asked_wishes.nd (pi_list (pv 1)) (blkOk_by (own := [("wish", 2)]) (N := N_asked_wishes) (sc := defScope s_asked_wishes) (by decide +kernel)) (fun _ _ _ _ _ => (pg_name (i := 2) sc_asked_wishes.nd rfl (Or.inl rfl) (Or.inr rfl))) (fun _ _ _ _ _ => pts_nil) (fun _ _ _ _ _ => (pe_call C_is_number.ok (hr.mono (by decide)) (by rfl) C_is_number.gl C_is_number.kp C_is_number.bd .nil pass0 (pa_cons (pv 2) (pa_cons pe_int (pa_cons (pe_op op_sub (pv 0) pe_int) pa_nil)))))) pa_nil)))))))
 (pss_one (L2N.ps_raise rfl (L2N.takes_of rfl rfl rfl rfl) (L2N.pmk_own PySem.F.excBase_ValueError X_BadWishes.ex X_BadWishes.gl X_BadWishes.kp (raises_own X_BadWishes.be X_BadWishes.ty) rfl)))
 pss_nil)))⟩

def der_free_from {P : Program} {w : World} {K : PySem.W.Frag} {mg : Str → Option Value} {base : Heap} {f : Addr} {cdv : Value} {A : Around} {outer : List Env} {s : Shared} {H : Hp} {E : XK}
    (hr : Room 0 (A.deeper (envOfC "free_from" (defScope s_free_from) s.heap.objs.size f cdv))) :
    {t : TS // PSs (cxOf CX0 P w K mg base N_free_from "free_from" (defScope s_free_from) f cdv A outer s H E).nox (defBody s_free_from) t} := ⟨_, (pss_cons (ps_set (i := 2) sc_free_from.nd rfl (Or.inl rfl) (pv 1))
 (pss_cons (ps_while PassesOwn.never (pt_cmpR op_ne (pe_ix (r := rIxL K) ix_list (pv 0) (pv 2) (fun _ _ => rfl)) (pv 2) (nomark _))
 (pss_one (ps_set (i := 2) sc_free_from.nd rfl (Or.inl rfl) (pe_ix (r := rIxL K) ix_list (pv 0) (pv 2) (fun _ _ => rfl)))))
 (pss_cons (ps_while PassesOwn.never (pt_cmpR op_ne (pe_ix (r := rIxL K) ix_list (pv 0) (pv 1) (fun _ _ => rfl)) (pv 2) (nomark _))
 (pss_cons (ps_set (i := 3) sc_free_from.nd rfl (Or.inl rfl) (pe_ix (r := rIxL K) ix_list (pv 0) (pv 1) (fun _ _ => rfl)))
 (pss_cons (ps_asg (pv 2) (pg_sub (pv 0) (pv 1) set_list))
 (pss_one (ps_set (i := 1) sc_free_from.nd rfl (Or.inl rfl) (pv 3))))))
 (pss_one (ps_ret (pv 2))))))⟩

def der_stood {P : Program} {w : World} {K : PySem.W.Frag} {mg : Str → Option Value} {base : Heap} (B : Bi mg) {fd_free_from : FuncData} {sp_free_from : Sp} (C_free_from : Cal P w K mg base CX0 1 "free_from" P_free_from sp_free_from fd_free_from) {f : Addr} {cdv : Value} {A : Around} {outer : List Env} {s : Shared} {H : Hp} {E : XK}
    (hr : Room 1 (A.deeper (envOfC "stood" (defScope s_stood) s.heap.objs.size f cdv))) :
    {t : TS // PSs (cxOf CX0 P w K mg base N_stood "stood" (defScope s_stood) f cdv A outer s H E).nox (defBody s_stood) t} := ⟨_, (pss_cons (ps_setLc (i := 2) (own := [("place", 5)]) (g := (gName 5)) (tt := tYes) rfl sc_stood.nd rfl rfl (sw_true rfl rfl rfl (by decide +kernel))   (pi_range1 (by rfl) B.range (pa_cons (pe_op op_add (pv 0) pe_int) pa_nil)) (blkOk_by (own := [("place", 5)]) (N := N_stood) (sc := defScope s_stood) (by decide +kernel)) (fun _ _ _ _ _ => (pg_name (i := 5) sc_stood.nd rfl (Or.inl rfl) (Or.inr rfl))) (fun _ _ _ _ _ => pts_nil) (fun _ _ _ _ _ => (pv 5)))
 (pss_cons (ps_set (i := 3) sc_stood.nd rfl (Or.inl rfl) (pe_lst pa_nil))
 (pss_cons (ps_for PassesOwn.never rfl (pi_list (pv 1)) (pg_name (i := 4) sc_stood.nd rfl (Or.inl rfl))
 (pss_cons (ps_set (i := 5) sc_stood.nd rfl (Or.inl rfl) (pe_call C_free_from.ok (hr.mono (by decide)) (by rfl) C_free_from.gl C_free_from.kp C_free_from.bd .nil pass0 (pa_cons (pv 2) (pa_cons (pv 4) pa_nil))))
 (pss_cons (ps_expr (pe_bm PySem.F.plainAttrs_list PySem.F.slot_list_append PySem.F.type_list_append mt_append (pv 3) (pa_cons (pv 5) pa_nil)))
 (pss_one (ps_if (pt_cmpR op_lt (pv 5) (pv 0) (nomark _))
 (pss_one (ps_asg (pe_op op_add (pv 5) pe_int) (pg_sub (pv 2) (pv 5) set_list)))
 pss_nil)))))
 (pss_one (ps_ret (pv 3))))))⟩

def der_crowd_of {P : Program} {w : World} {K : PySem.W.Frag} {mg : Str → Option Value} {base : Heap} (B : Bi mg) {fd_counted : FuncData} {sp_counted : Sp} (C_counted : Cal P w K mg base CX0 1 "counted" P_counted sp_counted fd_counted) {f : Addr} {cdv : Value} {A : Around} {outer : List Env} {s : Shared} {H : Hp} {E : XK}
    (hr : Room 1 (A.deeper (envOfC "crowd_of" (defScope s_crowd_of) s.heap.objs.size f cdv))) :
    {t : TS // PSs (cxOf CX0 P w K mg base N_crowd_of "crowd_of" (defScope s_crowd_of) f cdv A outer s H E).nox (defBody s_crowd_of) t} := ⟨_, (pss_cons (ps_set (i := 2) sc_crowd_of.nd rfl (Or.inl rfl) (pe_call C_counted.ok (hr.mono (by decide)) (by rfl) C_counted.gl C_counted.kp C_counted.bd .nil pass0 (pa_cons (pv 0) (pa_cons (pv 1) pa_nil))))
 (pss_cons (ps_set (i := 3) sc_crowd_of.nd rfl (Or.inl rfl) pe_int)
 (pss_cons (ps_set (i := 4) sc_crowd_of.nd rfl (Or.inl rfl) (pe_un un_neg pe_int))
 (pss_cons (ps_for PassesOwn.never rfl (pi_revR (by rfl) B.reversed (prg_1 (by rfl) B.range (pv 0))) (pg_name (i := 5) sc_crowd_of.nd rfl (Or.inl rfl))
 (pss_cons (ps_set (i := 3) sc_crowd_of.nd rfl (Or.inl rfl) (pe_op op_add (pv 3) (pe_ix (r := rIxL K) ix_list (pv 2) (pv 5) (fun _ _ => rfl))))
 (pss_one (ps_if (pt_cmpR op_gt (pv 3) (pe_op op_sub (pv 0) (pv 5)) (nomark _))
 (pss_one (ps_set (i := 4) sc_crowd_of.nd rfl (Or.inl rfl) (pv 5)))
 pss_nil))))
 (pss_one (ps_ret (pv 4)))))))⟩

def der_counted {P : Program} {w : World} {K : PySem.W.Frag} {mg : Str → Option Value} {base : Heap} (B : Bi mg) {f : Addr} {cdv : Value} {A : Around} {outer : List Env} {s : Shared} {H : Hp} {E : XK}
    (hr : Room 0 (A.deeper (envOfC "counted" (defScope s_counted) s.heap.objs.size f cdv))) :
    {t : TS // PSs (cxOf CX0 P w K mg base N_counted "counted" (defScope s_counted) f cdv A outer s H E).nox (defBody s_counted) t} := ⟨_, (pss_cons (ps_setLc (i := 2) (own := [("place", 4)]) (g := (gName 4)) (tt := tYes) rfl sc_counted.nd rfl rfl (sw_true rfl rfl rfl (by decide +kernel))   (pi_range1 (by rfl) B.range (pa_cons (pv 0) pa_nil)) (blkOk_by (own := [("place", 4)]) (N := N_counted) (sc := defScope s_counted) (by decide +kernel)) (fun _ _ _ _ _ => (pg_name (i := 4) sc_counted.nd rfl (Or.inl rfl) (Or.inr rfl))) (fun _ _ _ _ _ => pts_nil) (fun _ _ _ _ _ => pe_int))
 (pss_cons (ps_for PassesOwn.never rfl (pi_list (pv 1)) (pg_name (i := 3) sc_counted.nd rfl (Or.inl rfl))
 (pss_one (ps_asg (pe_op op_add (pe_ix (r := rIxL K) ix_list (pv 2) (pv 3) (fun _ _ => rfl)) pe_int) (pg_sub (pv 2) (pv 3) set_list))))
 (pss_one (ps_ret (pv 2)))))⟩

def der_parked {P : Program} {w : World} {K : PySem.W.Frag} {mg : Str → Option Value} {base : Heap} {fd_asked_wishes : FuncData} {sp_asked_wishes : Sp} (C_asked_wishes : Cal P w K mg base (L2N.CX P w) 2 "asked_wishes" P_asked_wishes sp_asked_wishes fd_asked_wishes) {fd_crowd_of : FuncData} {sp_crowd_of : Sp} (C_crowd_of : Cal P w K mg base CX0 2 "crowd_of" P_crowd_of sp_crowd_of fd_crowd_of) {fd_stood : FuncData} {sp_stood : Sp} (C_stood : Cal P w K mg base CX0 2 "stood" P_stood sp_stood fd_stood) {fdm_Crowd : FuncData} {spm_Crowd : Sp} (M_Crowd : MkF P w K mg base "Crowd" 1 P_Crowd_init spm_Crowd fdm_Crowd) {fdm_Parked : FuncData} {spm_Parked : Sp} (M_Parked : MkF P w K mg base "Parked" 1 P_Parked_init spm_Parked fdm_Parked) {f : Addr} {cdv : Value} {A : Around} {outer : List Env} {s : Shared} {H : Hp} {E : XK}
    (hr : Room 2 (A.deeper (envOfC "parked" (defScope s_parked) s.heap.objs.size f cdv))) :
    {t : TS // PSs (cxOf (L2N.CX P w) P w K mg base N_parked "parked" (defScope s_parked) f cdv A outer s H E) (defBody s_parked) t} := ⟨_, (pss_cons (ps_expr (pe_call C_asked_wishes.ok (hr.mono (by decide)) (by rfl) C_asked_wishes.gl C_asked_wishes.kp C_asked_wishes.bd .nil (L2N.passes_call (W := fun cls d _ H => E cls d H) (L2N.takes_of rfl rfl rfl rfl) (fun _ _ _ _ h => h)) (pa_cons (pv 0) (pa_cons (pv 1) pa_nil))))
 (pss_cons (ps_set (i := 2) sc_parked.nd rfl (Or.inl rfl) (pe_call C_crowd_of.ok (hr.mono (by decide)) (by rfl) C_crowd_of.gl C_crowd_of.kp C_crowd_of.bd .nil pass0 (pa_cons (pv 0) (pa_cons (pv 1) pa_nil))))
 (pss_cons (ps_if (pt_cmpR op_ge (pv 2) pe_int (nomark _))
 (pss_one (ps_ret (pe_make M_Crowd.mk M_Crowd.ok (hr.mono (by decide)) (by rfl) M_Crowd.gl M_Crowd.bd .nil pass0 (pa_cons (pv 2) pa_nil))))
 pss_nil)
 (pss_one (ps_ret (pe_make M_Parked.mk M_Parked.ok (hr.mono (by decide)) (by rfl) M_Parked.gl M_Parked.bd .nil pass0 (pa_cons (pe_call C_stood.ok (hr.mono (by decide)) (by rfl) C_stood.gl C_stood.kp C_stood.bd .nil pass0 (pa_cons (pv 0) (pa_cons (pv 1) pa_nil))) pa_nil)))))))⟩

def der_taken {P : Program} {w : World} {K : PySem.W.Frag} {mg : Str → Option Value} {base : Heap} (B : Bi mg) {fd_asked_wishes : FuncData} {sp_asked_wishes : Sp} (C_asked_wishes : Cal P w K mg base (L2N.CX P w) 2 "asked_wishes" P_asked_wishes sp_asked_wishes fd_asked_wishes) {fd_counted : FuncData} {sp_counted : Sp} (C_counted : Cal P w K mg base CX0 1 "counted" P_counted sp_counted fd_counted) {f : Addr} {cdv : Value} {A : Around} {outer : List Env} {s : Shared} {H : Hp} {E : XK}
    (hr : Room 2 (A.deeper (envOfC "taken" (defScope s_taken) s.heap.objs.size f cdv))) :
    {t : TS // PSs (cxOf (L2N.CX P w) P w K mg base N_taken "taken" (defScope s_taken) f cdv A outer s H E) (defBody s_taken) t} := ⟨_, (pss_cons (ps_expr (pe_call C_asked_wishes.ok (hr.mono (by decide)) (by rfl) C_asked_wishes.gl C_asked_wishes.kp C_asked_wishes.bd .nil (L2N.passes_call (W := fun cls d _ H => E cls d H) (L2N.takes_of rfl rfl rfl rfl) (fun _ _ _ _ h => h)) (pa_cons (pv 0) (pa_cons (pv 1) pa_nil))))
 (pss_cons (ps_set (i := 2) sc_taken.nd rfl (Or.inl rfl) (pe_lst pa_nil))
 (pss_cons (ps_set (i := 3) sc_taken.nd rfl (Or.inl rfl) pe_int)
 (pss_cons (ps_for (passes_of rfl) rfl (pi_enum (by rfl) B.enumerate (pa_cons (pe_call C_counted.ok (hr.mono (by decide)) (by rfl) C_counted.gl C_counted.kp C_counted.bd .nil pass0 (pa_cons (pv 0) (pa_cons (pv 1) pa_nil))) pa_nil)) (pg_tup rfl (pgs_cons (pg_name (i := 4) sc_taken.nd rfl (Or.inl rfl)) (pgs_cons (pg_name (i := 5) sc_taken.nd rfl (Or.inl rfl)) pgs_nil)))
 (pss_cons (ps_set (i := 3) sc_taken.nd rfl (Or.inl rfl) (pe_op op_add (pv 3) (pv 5)))
 (pss_one (ps_if (pt_cmpR op_gt (pv 3) pe_int (nomark _))
 (pss_cons (ps_expr (pe_bm PySem.F.plainAttrs_list PySem.F.slot_list_append PySem.F.type_list_append mt_append (pv 2) (pa_cons (pv 4) pa_nil)))
 (pss_one (ps_set (i := 3) sc_taken.nd rfl (Or.inl rfl) (pe_op op_sub (pv 3) pe_int))))
 pss_nil))))
 (pss_one (ps_ret (pv 2)))))))⟩

def der_driven_off {P : Program} {w : World} {K : PySem.W.Frag} {mg : Str → Option Value} {base : Heap} (B : Bi mg) {fd_asked_wishes : FuncData} {sp_asked_wishes : Sp} (C_asked_wishes : Cal P w K mg base (L2N.CX P w) 2 "asked_wishes" P_asked_wishes sp_asked_wishes fd_asked_wishes) {fd_stood : FuncData} {sp_stood : Sp} (C_stood : Cal P w K mg base CX0 2 "stood" P_stood sp_stood fd_stood) {f : Addr} {cdv : Value} {A : Around} {outer : List Env} {s : Shared} {H : Hp} {E : XK}
    (hr : Room 2 (A.deeper (envOfC "driven_off" (defScope s_driven_off) s.heap.objs.size f cdv))) :
    {t : TS // PSs (cxOf (L2N.CX P w) P w K mg base N_driven_off "driven_off" (defScope s_driven_off) f cdv A outer s H E) (defBody s_driven_off) t} := ⟨_, (pss_cons (ps_expr (pe_call C_asked_wishes.ok (hr.mono (by decide)) (by rfl) C_asked_wishes.gl C_asked_wishes.kp C_asked_wishes.bd .nil (L2N.passes_call (W := fun cls d _ H => E cls d H) (L2N.takes_of rfl rfl rfl rfl) (fun _ _ _ _ h => h)) (pa_cons (pv 0) (pa_cons (pv 1) pa_nil))))
 (pss_one (ps_ret (pe_lc (own := [("car", 2), ("place", 3)]) (g := (gTup K 2 (gCons (gName 2) (gCons (gName 3) gNil)))) rfl sc_driven_off.nd (pi_enum (by rfl) B.enumerate (pa_cons (pe_call C_stood.ok (hr.mono (by decide)) (by rfl) C_stood.gl C_stood.kp C_stood.bd .nil pass0 (pa_cons (pv 0) (pa_cons (pv 1) pa_nil))) pa_nil)) (blkOk_by (own := [("car", 2), ("place", 3)]) (N := N_driven_off) (sc := defScope s_driven_off) (by decide +kernel)) (fun _ _ _ _ _ => (pg_tup rfl (pgs_cons (pg_name (i := 2) sc_driven_off.nd rfl (Or.inl rfl) (Or.inr rfl)) (pgs_cons (pg_name (i := 3) sc_driven_off.nd rfl (Or.inl rfl) (Or.inr rfl)) pgs_nil)))) (fun _ _ _ _ _ => (pts_one (pt_cmpR op_eq (pv 3) (pv 0) (nomark _)))) (fun _ _ _ _ _ => (pv 2))))))⟩

def der_lucky {P : Program} {w : World} {K : PySem.W.Frag} {mg : Str → Option Value} {base : Heap} (B : Bi mg) {fd_asked_wishes : FuncData} {sp_asked_wishes : Sp} (C_asked_wishes : Cal P w K mg base (L2N.CX P w) 2 "asked_wishes" P_asked_wishes sp_asked_wishes fd_asked_wishes) {fd_stood : FuncData} {sp_stood : Sp} (C_stood : Cal P w K mg base CX0 2 "stood" P_stood sp_stood fd_stood) {f : Addr} {cdv : Value} {A : Around} {outer : List Env} {s : Shared} {H : Hp} {E : XK}
    (hr : Room 2 (A.deeper (envOfC "lucky" (defScope s_lucky) s.heap.objs.size f cdv))) :
    {t : TS // PSs (cxOf (L2N.CX P w) P w K mg base N_lucky "lucky" (defScope s_lucky) f cdv A outer s H E) (defBody s_lucky) t} := ⟨_, (pss_cons (ps_expr (pe_call C_asked_wishes.ok (hr.mono (by decide)) (by rfl) C_asked_wishes.gl C_asked_wishes.kp C_asked_wishes.bd .nil (L2N.passes_call (W := fun cls d _ H => E cls d H) (L2N.takes_of rfl rfl rfl rfl) (fun _ _ _ _ h => h)) (pa_cons (pv 0) (pa_cons (pv 1) pa_nil))))
 (pss_cons (ps_set (i := 2) sc_lucky.nd rfl (Or.inr rfl) (pe_call C_stood.ok (hr.mono (by decide)) (by rfl) C_stood.gl C_stood.kp C_stood.bd .nil pass0 (pa_cons (pv 0) (pa_cons (pv 1) pa_nil))))
 (pss_one (ps_ret (pe_lc (own := [("car", 3)]) (g := (gName 3)) rfl sc_lucky.nd (pi_range1 (by rfl) B.range (pa_cons (pe_callB (id := "len") (r := rLenS K) call_len_seq (by rfl) B.len (by decide +kernel) (pa_cons (pv 1) pa_nil)) pa_nil)) (blkOk_by (own := [("car", 3)]) (N := N_lucky) (sc := defScope s_lucky) (by decide +kernel)) (fun _ _ _ _ _ => (pg_name (i := 3) sc_lucky.nd rfl (Or.inl rfl) (Or.inr rfl))) (fun _ _ _ _ _ => (pts_one (pt_cmpR op_eq (pe_ix (r := rIxL K) ix_list (pv 2) (pv 3) (fun _ _ => rfl)) (pe_ix (r := rIxL K) ix_list (pv 1) (pv 3) (fun _ _ => rfl)) (nomark _)))) (fun _ _ _ _ _ => (pv 3)))))))⟩

def der_all_parked {P : Program} {w : World} {K : PySem.W.Frag} {mg : Str → Option Value} {base : Heap} (B : Bi mg) {fd_asked_wishes : FuncData} {sp_asked_wishes : Sp} (C_asked_wishes : Cal P w K mg base (L2N.CX P w) 2 "asked_wishes" P_asked_wishes sp_asked_wishes fd_asked_wishes) {fd_crowd_of : FuncData} {sp_crowd_of : Sp} (C_crowd_of : Cal P w K mg base CX0 2 "crowd_of" P_crowd_of sp_crowd_of fd_crowd_of) (X_TooMany : ExcF K mg "TooMany") {f : Addr} {cdv : Value} {A : Around} {outer : List Env} {s : Shared} {H : Hp} {E : XK}
    (hr : Room 2 (A.deeper (envOfC "all_parked" (defScope s_all_parked) s.heap.objs.size f cdv))) :
    {t : TS // PSs (cxOf (L2N.CX P w) P w K mg base N_all_parked "all_parked" (defScope s_all_parked) f cdv A outer s H E) (defBody s_all_parked) t} := ⟨_, (pss_cons (ps_expr (pe_call C_asked_wishes.ok (hr.mono (by decide)) (by rfl) C_asked_wishes.gl C_asked_wishes.kp C_asked_wishes.bd .nil (L2N.passes_call (W := fun cls d _ H => E cls d H) (L2N.takes_of rfl rfl rfl rfl) (fun _ _ _ _ h => h)) (pa_cons (pe_callB (id := "max") (r := rMax2) (call_max2 rfl) (by rfl) B.max (by decide +kernel) (pa_cons (pe_callB (id := "len") (r := rLenS K) call_len_seq (by rfl) B.len (by decide +kernel) (pa_cons (pv 0) pa_nil)) (pa_cons pe_int pa_nil))) (pa_cons (pv 0) pa_nil))))
 (pss_one (ps_if (PW.pt (pw_and (pt_cmpR (r := rNeD K) (op_neD hr.units) (pv 0) (pe_lst pa_nil) (nomark _)) (pw_and1 (pt_cmpR op_ge (pe_call C_crowd_of.ok (hr.mono (by decide)) (by rfl) C_crowd_of.gl C_crowd_of.kp C_crowd_of.bd .nil pass0 (pa_cons (pe_callB (id := "len") (r := rLenS K) call_len_seq (by rfl) B.len (by decide +kernel) (pa_cons (pv 0) pa_nil)) (pa_cons (pv 0) pa_nil))) pe_int (nomark _)))))
 (pss_one (L2N.ps_raise rfl (L2N.takes_of rfl rfl rfl rfl) (L2N.pmk_own PySem.F.excBase_ValueError X_TooMany.ex X_TooMany.gl X_TooMany.kp (raises_own X_TooMany.be X_TooMany.ty) rfl)))
 pss_nil)))⟩

def der_drives {P : Program} {w : World} {K : PySem.W.Frag} {mg : Str → Option Value} {base : Heap} (B : Bi mg) {fd_all_parked : FuncData} {sp_all_parked : Sp} (C_all_parked : Cal P w K mg base (L2N.CX P w) 3 "all_parked" P_all_parked sp_all_parked fd_all_parked) {fd_as_list : FuncData} {sp_as_list : Sp} (C_as_list : Cal P w K mg base (L2N.CX P w) 1 "as_list" P_as_list sp_as_list fd_as_list) {f : Addr} {cdv : Value} {A : Around} {outer : List Env} {s : Shared} {H : Hp} {E : XK}
    (hr : Room 3 (A.deeper (envOfC "drives" (defScope s_drives) s.heap.objs.size f cdv))) :
    {t : TS // PSs (cxOf (L2N.CX P w) P w K mg base N_drives "drives" (defScope s_drives) f cdv A outer s H E) (defBody s_drives) t} := ⟨_, (pss_cons (ps_expr (pe_call C_all_parked.ok (hr.mono (by decide)) (by rfl) C_all_parked.gl C_all_parked.kp C_all_parked.bd .nil (L2N.passes_call (W := fun cls d _ H => E cls d H) (L2N.takes_of rfl rfl rfl rfl) (fun _ _ _ _ h => h)) (pa_cons (pe_call C_as_list.ok (hr.mono (by decide)) (by rfl) C_as_list.gl C_as_list.kp C_as_list.bd .nil (L2N.passes_call (W := fun cls d _ H => E cls d H) (L2N.takes_of rfl rfl rfl rfl) (fun _ _ _ _ h => h)) (pa_cons (pv 0) pa_nil)) pa_nil)))
 (pss_one (ps_ret (pe_op op_sub (pe_op op_fdiv (pe_op op_mul (pe_callB (id := "len") (r := rLenS K) call_len_seq (by rfl) B.len (by decide +kernel) (pa_cons (pv 0) pa_nil)) (pe_op op_sub (pe_callB (id := "len") (r := rLenS K) call_len_seq (by rfl) B.len (by decide +kernel) (pa_cons (pv 0) pa_nil)) pe_int)) pe_int) (pe_callB (id := "sum") (r := rSum K) (cr_sum rfl) (by rfl) B.sum (by decide +kernel) (pa_cons (pv 0) pa_nil))))))⟩

def der_as_list {P : Program} {w : World} {K : PySem.W.Frag} {mg : Str → Option Value} {base : Heap} (B : Bi mg) (X_BadWishes : ExcF K mg "BadWishes") {f : Addr} {cdv : Value} {A : Around} {outer : List Env} {s : Shared} {H : Hp} {E : XK}
    (hr : Room 0 (A.deeper (envOfC "as_list" (defScope s_as_list) s.heap.objs.size f cdv))) :
    {t : TS // PSs (cxOf (L2N.CX P w) P w K mg base N_as_list "as_list" (defScope s_as_list) f cdv A outer s H E) (defBody s_as_list) t} := ⟨_, (pss_cons (ps_if (pt_not (pt_val (pe_callB (id := "isinstance") (r := rIsi K) call_isi (by rfl) B.isinstance (by decide +kernel) (pa_cons (pv 0) (pa_cons (pe_bltn (v := .ty "list") (by rfl) B.list (by decide +kernel) rfl) pa_nil)))))
 (pss_one (L2N.ps_raise rfl (L2N.takes_of rfl rfl rfl rfl) (L2N.pmk_own PySem.F.excBase_ValueError X_BadWishes.ex X_BadWishes.gl X_BadWishes.kp (raises_own X_BadWishes.be X_BadWishes.ty) rfl)))
 pss_nil)
 (pss_one (ps_ret (pv 0))))⟩

def der_tree {P : Program} {w : World} {K : PySem.W.Frag} {mg : Str → Option Value} {base : Heap} (B : Bi mg) {fd_all_parked : FuncData} {sp_all_parked : Sp} (C_all_parked : Cal P w K mg base (L2N.CX P w) 3 "all_parked" P_all_parked sp_all_parked fd_all_parked) {fd_as_list : FuncData} {sp_as_list : Sp} (C_as_list : Cal P w K mg base (L2N.CX P w) 1 "as_list" P_as_list sp_as_list fd_as_list) {f : Addr} {cdv : Value} {A : Around} {outer : List Env} {s : Shared} {H : Hp} {E : XK}
    (hr : Room 3 (A.deeper (envOfC "tree" (defScope s_tree) s.heap.objs.size f cdv))) :
    {t : TS // PSs (cxOf (L2N.CX P w) P w K mg base N_tree "tree" (defScope s_tree) f cdv A outer s H E) (defBody s_tree) t} := ⟨_, (pss_cons (ps_expr (pe_call C_all_parked.ok (hr.mono (by decide)) (by rfl) C_all_parked.gl C_all_parked.kp C_all_parked.bd .nil (L2N.passes_call (W := fun cls d _ H => E cls d H) (L2N.takes_of rfl rfl rfl rfl) (fun _ _ _ _ h => h)) (pa_cons (pe_call C_as_list.ok (hr.mono (by decide)) (by rfl) C_as_list.gl C_as_list.kp C_as_list.bd .nil (L2N.passes_call (W := fun cls d _ H => E cls d H) (L2N.takes_of rfl rfl rfl rfl) (fun _ _ _ _ h => h)) (pa_cons (pv 0) pa_nil)) pa_nil)))
 (pss_cons (ps_setLc (i := 1) (own := [("wish", 3)]) (g := (gName 3)) (tt := tYes) rfl sc_tree.nd rfl rfl (sw_true rfl rfl rfl (by decide +kernel))   (pi_list (pv 0)) (blkOk_by (own := [("wish", 3)]) (N := N_tree) (sc := defScope s_tree) (by decide +kernel)) (fun _ _ _ _ _ => (pg_name (i := 3) sc_tree.nd rfl (Or.inl rfl) (Or.inr rfl))) (fun _ _ _ _ _ => pts_nil) (fun _ _ _ _ _ => (pe_lst pa_nil)))
 (pss_cons (ps_for (passes_of rfl) rfl (pi_enum (by rfl) B.enumerate (pa_cons (pv 0) pa_nil)) (pg_tup rfl (pgs_cons (pg_name (i := 2) sc_tree.nd rfl (Or.inl rfl)) (pgs_cons (pg_name (i := 3) sc_tree.nd rfl (Or.inl rfl)) pgs_nil)))
 (pss_one (ps_expr (pe_bm PySem.F.plainAttrs_list PySem.F.slot_list_append PySem.F.type_list_append mt_append (pe_ix (r := rIxL K) ix_list (pv 1) (pv 3) (fun _ _ => rfl)) (pa_cons (pe_op op_add (pv 2) pe_int) pa_nil)))))
 (pss_cons (ps_set (i := 4) sc_tree.nd rfl (Or.inl rfl) (pe_lst (pa_cons pe_int pa_nil)))
 (pss_cons (ps_setLc (i := 5) (own := [("wish", 3)]) (g := (gName 3)) (tt := tYes) rfl sc_tree.nd rfl rfl (sw_true rfl rfl rfl (by decide +kernel))   (pi_list (pv 0)) (blkOk_by (own := [("wish", 3)]) (N := N_tree) (sc := defScope s_tree) (by decide +kernel)) (fun _ _ _ _ _ => (pg_name (i := 3) sc_tree.nd rfl (Or.inl rfl) (Or.inr rfl))) (fun _ _ _ _ _ => pts_nil) (fun _ _ _ _ _ => pe_int))
 (pss_cons (ps_for (passes_of rfl) rfl (pi_range1 (by rfl) B.range (pa_cons (pe_callB (id := "len") (r := rLenS K) call_len_seq (by rfl) B.len (by decide +kernel) (pa_cons (pv 0) pa_nil)) pa_nil)) (pg_name (i := 6) sc_tree.nd rfl (Or.inl rfl))
 (pss_one (ps_for (passes_of rfl) rfl (pi_list (pe_ix (r := rIxL K) ix_list (pv 1) (pv 6) (fun _ _ => rfl))) (pg_name (i := 7) sc_tree.nd rfl (Or.inl rfl))
 (pss_cons (ps_asg (pe_ix (r := rIxL K) ix_list (pv 4) (pv 6) (fun _ _ => rfl)) (pg_sub (pv 5) (pe_op op_sub (pv 7) pe_int) set_list))
 (pss_one (ps_expr (pe_bm PySem.F.plainAttrs_list PySem.F.slot_list_append PySem.F.type_list_append mt_append (pv 4) (pa_cons (pv 7) pa_nil))))))))
 (pss_one (ps_ret (pv 5)))))))))⟩

def der_served_by {P : Program} {w : World} {K : PySem.W.Frag} {mg : Str → Option Value} {base : Heap} (B : Bi mg) {f : Addr} {cdv : Value} {A : Around} {outer : List Env} {s : Shared} {H : Hp} {E : XK}
    (hr : Room 0 (A.deeper (envOfC "served_by" (defScope s_served_by) s.heap.objs.size f cdv))) :
    {t : TS // PSs (cxOf CX0 P w K mg base N_served_by "served_by" (defScope s_served_by) f cdv A outer s H E).nox (defBody s_served_by) t} := ⟨_, (pss_cons (ps_setLc (i := 1) (own := [("turn", 5)]) (g := (gName 5)) (tt := tYes) rfl sc_served_by.nd rfl rfl (sw_true rfl rfl rfl (by decide +kernel))   (pi_range1 (by rfl) B.range (pa_cons (pe_op op_add (pe_callB (id := "len") (r := rLenS K) call_len_seq (by rfl) B.len (by decide +kernel) (pa_cons (pv 0) pa_nil)) pe_int) pa_nil)) (blkOk_by (own := [("turn", 5)]) (N := N_served_by) (sc := defScope s_served_by) (by decide +kernel)) (fun _ _ _ _ _ => (pg_name (i := 5) sc_served_by.nd rfl (Or.inl rfl) (Or.inr rfl))) (fun _ _ _ _ _ => pts_nil) (fun _ _ _ _ _ => (pe_lst pa_nil)))
 (pss_cons (ps_for PassesOwn.never rfl (pi_enum (by rfl) B.enumerate (pa_cons (pv 0) pa_nil)) (pg_tup rfl (pgs_cons (pg_name (i := 2) sc_served_by.nd rfl (Or.inl rfl)) (pgs_cons (pg_name (i := 3) sc_served_by.nd rfl (Or.inl rfl)) pgs_nil)))
 (pss_one (ps_expr (pe_bm PySem.F.plainAttrs_list PySem.F.slot_list_append PySem.F.type_list_append mt_append (pe_ix (r := rIxL K) ix_list (pv 1) (pv 3) (fun _ _ => rfl)) (pa_cons (pe_op op_add (pv 2) pe_int) pa_nil)))))
 (pss_cons (ps_set (i := 4) sc_served_by.nd rfl (Or.inl rfl) (pe_lst (pa_cons pe_int pa_nil)))
 (pss_cons (ps_set (i := 5) sc_served_by.nd rfl (Or.inl rfl) pe_int)
 (pss_cons (ps_while PassesOwn.never (pt_cmpR op_lt (pv 5) (pe_callB (id := "len") (r := rLenS K) call_len_seq (by rfl) B.len (by decide +kernel) (pa_cons (pv 4) pa_nil)) (nomark _))
 (pss_cons (ps_expr (pe_bm PySem.F.plainAttrs_list PySem.F.slot_list_extend PySem.F.type_list_extend mt_extend (pv 4) (pa_cons (pe_ix (r := rIxL K) ix_list (pv 1) (pe_ix (r := rIxL K) ix_list (pv 4) (pv 5) (fun _ _ => rfl)) (fun _ _ => rfl)) pa_nil)))
 (pss_one (ps_set (i := 5) sc_served_by.nd rfl (Or.inl rfl) (pe_op op_add (pv 5) pe_int)))))
 (pss_one (ps_ret (pv 4))))))))⟩

def der_wishes_of {P : Program} {w : World} {K : PySem.W.Frag} {mg : Str → Option Value} {base : Heap} (B : Bi mg) {fd_is_number : FuncData} {sp_is_number : Sp} (C_is_number : Cal P w K mg base CX0 1 "is_number" P_is_number sp_is_number fd_is_number) {fd_served_by : FuncData} {sp_served_by : Sp} (C_served_by : Cal P w K mg base CX0 1 "served_by" P_served_by sp_served_by fd_served_by) (X_BadTree : ExcF K mg "BadTree") {f : Addr} {cdv : Value} {A : Around} {outer : List Env} {s : Shared} {H : Hp} {E : XK}
    (hr : Room 1 (A.deeper (envOfC "wishes_of" (defScope s_wishes_of) s.heap.objs.size f cdv))) :
    {t : TS // PSs (cxOf (L2N.CX P w) P w K mg base N_wishes_of "wishes_of" (defScope s_wishes_of) f cdv A outer s H E) (defBody s_wishes_of) t} := ⟨_, (pss_cons (ps_if (PW.pt (pw_or (pt_not (pt_val (pe_callB (id := "isinstance") (r := rIsi K) call_isi (by rfl) B.isinstance (by decide +kernel) (pa_cons (pv 0) (pa_cons (pe_bltn (v := .ty "list") (by rfl) B.list (by decide +kernel) rfl) pa_nil))))) (pw_or1 (pt_not (pt_val (pe_callB (id := "all") (r := rAll K) (cr_all rfl) (by rfl) B.all (by decide +kernel) (pa_cons (pe_lc (own := [("parent", 5)]) (g := (gName 5)) (tt := tYes) rfl sc_wishes_of.nd (pi_list (pv 0)) (blkOk_by (own := [("parent", 5)]) (N := N_wishes_of) (sc := defScope s_wishes_of) (by decide +kernel)) (fun _ _ _ _ _ => (pg_name (i := 5) sc_wishes_of.nd rfl (Or.inl rfl) (Or.inr rfl))) (fun _ _ _ _ _ => pts_nil) (fun _ _ _ _ _ => (pe_call C_is_number.ok (hr.mono (by decide)) (by rfl) C_is_number.gl C_is_number.kp C_is_number.bd .nil pass0 (pa_cons (pv 5) (pa_cons pe_int (pa_cons (pe_callB (id := "len") (r := rLenS K) call_len_seq (by rfl) B.len (by decide +kernel) (pa_cons (pv 0) pa_nil)) pa_nil)))))) pa_nil)))))))
 (pss_one (L2N.ps_raise rfl (L2N.takes_of rfl rfl rfl rfl) (L2N.pmk_own PySem.F.excBase_ValueError X_BadTree.ex X_BadTree.gl X_BadTree.kp (raises_own X_BadTree.be X_BadTree.ty) rfl)))
 pss_nil)
 (pss_cons (ps_set (i := 1) sc_wishes_of.nd rfl (Or.inl rfl) (pe_call C_served_by.ok (hr.mono (by decide)) (by rfl) C_served_by.gl C_served_by.kp C_served_by.bd .nil pass0 (pa_cons (pv 0) pa_nil)))
 (pss_cons (ps_if (pt_cmpR op_le (pe_callB (id := "len") (r := rLenS K) call_len_seq (by rfl) B.len (by decide +kernel) (pa_cons (pv 1) pa_nil)) (pe_callB (id := "len") (r := rLenS K) call_len_seq (by rfl) B.len (by decide +kernel) (pa_cons (pv 0) pa_nil)) (nomark _))
 (pss_one (L2N.ps_raise rfl (L2N.takes_of rfl rfl rfl rfl) (L2N.pmk_own PySem.F.excBase_ValueError X_BadTree.ex X_BadTree.gl X_BadTree.kp (raises_own X_BadTree.be X_BadTree.ty) rfl)))
 pss_nil)
 (pss_cons (ps_set (i := 2) sc_wishes_of.nd rfl (Or.inr rfl) (pe_lc (own := [("one", 4)]) (g := (gName 4)) (tt := tYes) rfl sc_wishes_of.nd (pi_list (pv 1)) (blkOk_by (own := [("one", 4)]) (N := N_wishes_of) (sc := defScope s_wishes_of) (by decide +kernel)) (fun _ _ _ _ _ => (pg_name (i := 4) sc_wishes_of.nd rfl (Or.inl rfl) (Or.inr rfl))) (fun _ _ _ _ _ => pts_nil) (fun _ _ _ _ _ => pe_int)))
 (pss_cons (ps_for (passes_of rfl) rfl (pi_enum (by rfl) B.enumerate (pa_cons (pv 1) pa_nil)) (pg_tup rfl (pgs_cons (pg_name (i := 3) sc_wishes_of.nd rfl (Or.inl rfl)) (pgs_cons (pg_name (i := 4) sc_wishes_of.nd rfl (Or.inl rfl)) pgs_nil)))
 (pss_one (ps_asg (pv 3) (pg_sub (pv 2) (pv 4) set_list))))
 (pss_one (ps_ret (pe_lc (own := [("parent", 5)]) (g := (gName 5)) (tt := tYes) rfl sc_wishes_of.nd (pi_list (pv 0)) (blkOk_by (own := [("parent", 5)]) (N := N_wishes_of) (sc := defScope s_wishes_of) (by decide +kernel)) (fun _ _ _ _ _ => (pg_name (i := 5) sc_wishes_of.nd rfl (Or.inl rfl) (Or.inr rfl))) (fun _ _ _ _ _ => pts_nil) (fun _ _ _ _ _ => (pe_ix (r := rIxL K) ix_list (pv 2) (pv 5) (fun _ _ => rfl)))))))))))⟩

def der_path {P : Program} {w : World} {K : PySem.W.Frag} {mg : Str → Option Value} {base : Heap} (B : Bi mg) {fd_all_parked : FuncData} {sp_all_parked : Sp} (C_all_parked : Cal P w K mg base (L2N.CX P w) 3 "all_parked" P_all_parked sp_all_parked fd_all_parked) {fd_as_list : FuncData} {sp_as_list : Sp} (C_as_list : Cal P w K mg base (L2N.CX P w) 1 "as_list" P_as_list sp_as_list fd_as_list) {fd_counted : FuncData} {sp_counted : Sp} (C_counted : Cal P w K mg base CX0 1 "counted" P_counted sp_counted fd_counted) {f : Addr} {cdv : Value} {A : Around} {outer : List Env} {s : Shared} {H : Hp} {E : XK}
    (hr : Room 3 (A.deeper (envOfC "path" (defScope s_path) s.heap.objs.size f cdv))) :
    {t : TS // PSs (cxOf (L2N.CX P w) P w K mg base N_path "path" (defScope s_path) f cdv A outer s H E) (defBody s_path) t} := ⟨_, (pss_cons (ps_expr (pe_call C_all_parked.ok (hr.mono (by decide)) (by rfl) C_all_parked.gl C_all_parked.kp C_all_parked.bd .nil (L2N.passes_call (W := fun cls d _ H => E cls d H) (L2N.takes_of rfl rfl rfl rfl) (fun _ _ _ _ h => h)) (pa_cons (pe_call C_as_list.ok (hr.mono (by decide)) (by rfl) C_as_list.gl C_as_list.kp C_as_list.bd .nil (L2N.passes_call (W := fun cls d _ H => E cls d H) (L2N.takes_of rfl rfl rfl rfl) (fun _ _ _ _ h => h)) (pa_cons (pv 0) pa_nil)) pa_nil)))
 (pss_cons (ps_if (pt_cmpR (r := rEqD K) (op_eqD hr.units) (pv 0) (pe_lst pa_nil) (nomark _))
 (pss_one (ps_ret pe_str))
 pss_nil)
 (pss_one (ps_ret (pe_join pe_str (pe_lc (own := [("many", 1)]) (g := (gName 1)) (tt := tYes) rfl sc_path.nd (pi_list (pe_call C_counted.ok (hr.mono (by decide)) (by rfl) C_counted.gl C_counted.kp C_counted.bd .nil pass0 (pa_cons (pe_callB (id := "len") (r := rLenS K) call_len_seq (by rfl) B.len (by decide +kernel) (pa_cons (pv 0) pa_nil)) (pa_cons (pv 0) pa_nil)))) (blkOk_by (own := [("many", 1)]) (N := N_path) (sc := defScope s_path) (by decide +kernel)) (fun _ _ _ _ _ => (pg_name (i := 1) sc_path.nd rfl (Or.inl rfl) (Or.inr rfl))) (fun _ _ _ _ _ => pts_nil) (fun _ _ _ _ _ => (pe_op op_add_str (pe_op op_mul_str pe_str (pv 1)) pe_str))))))))⟩

def der_heights {P : Program} {w : World} {K : PySem.W.Frag} {mg : Str → Option Value} {base : Heap} (B : Bi mg) (X_BadPath : ExcF K mg "BadPath") {f : Addr} {cdv : Value} {A : Around} {outer : List Env} {s : Shared} {H : Hp} {E : XK}
    (hr : Room 0 (A.deeper (envOfC "heights" (defScope s_heights) s.heap.objs.size f cdv))) :
    {t : TS // PSs (cxOf (L2N.CX P w) P w K mg base N_heights "heights" (defScope s_heights) f cdv A outer s H E) (defBody s_heights) t} := ⟨_, (pss_cons (ps_if (pt_not (pt_val (pe_callB (id := "isinstance") (r := rIsi K) call_isi (by rfl) B.isinstance (by decide +kernel) (pa_cons (pv 0) (pa_cons (pe_bltn (v := .ty "str") (by rfl) B.str (by decide +kernel) rfl) pa_nil)))))
 (pss_one (L2N.ps_raise rfl (L2N.takes_of rfl rfl rfl rfl) (L2N.pmk_own PySem.F.excBase_ValueError X_BadPath.ex X_BadPath.gl X_BadPath.kp (raises_own X_BadPath.be X_BadPath.ty) rfl)))
 pss_nil)
 (pss_cons (ps_set (i := 1) sc_heights.nd rfl (Or.inl rfl) pe_int)
 (pss_cons (ps_set (i := 2) sc_heights.nd rfl (Or.inl rfl) (pe_lst pa_nil))
 (pss_cons (ps_for (passes_of rfl) rfl (pi_str (pv 0)) (pg_name (i := 3) sc_heights.nd rfl (Or.inl rfl))
 (pss_one (ps_if (pt_cmpR op_eq (pv 3) pe_str (nomark _))
 (pss_one (ps_set (i := 1) sc_heights.nd rfl (Or.inl rfl) (pe_op op_add (pv 1) pe_int)))
 (pss_one (ps_if (PW.pt (pw_and (pt_cmpR op_eq (pv 3) pe_str (nomark _)) (pw_and1 (pt_cmpR op_gt (pv 1) pe_int (nomark _)))))
 (pss_cons (ps_set (i := 1) sc_heights.nd rfl (Or.inl rfl) (pe_op op_sub (pv 1) pe_int))
 (pss_one (ps_expr (pe_bm PySem.F.plainAttrs_list PySem.F.slot_list_append PySem.F.type_list_append mt_append (pv 2) (pa_cons (pv 1) pa_nil)))))
 (pss_one (L2N.ps_raise rfl (L2N.takes_of rfl rfl rfl rfl) (L2N.pmk_own PySem.F.excBase_ValueError X_BadPath.ex X_BadPath.gl X_BadPath.kp (raises_own X_BadPath.be X_BadPath.ty) rfl))))))))
 (pss_cons (ps_if (pt_cmpR op_ne (pv 1) pe_int (nomark _))
 (pss_one (L2N.ps_raise rfl (L2N.takes_of rfl rfl rfl rfl) (L2N.pmk_own PySem.F.excBase_ValueError X_BadPath.ex X_BadPath.gl X_BadPath.kp (raises_own X_BadPath.be X_BadPath.ty) rfl)))
 pss_nil)
 (pss_one (ps_ret (pv 2))))))))⟩

def der_beneath {P : Program} {w : World} {K : PySem.W.Frag} {mg : Str → Option Value} {base : Heap} (B : Bi mg) {fd_heights : FuncData} {sp_heights : Sp} (C_heights : Cal P w K mg base (L2N.CX P w) 1 "heights" P_heights sp_heights fd_heights) {f : Addr} {cdv : Value} {A : Around} {outer : List Env} {s : Shared} {H : Hp} {E : XK}
    (hr : Room 1 (A.deeper (envOfC "beneath" (defScope s_beneath) s.heap.objs.size f cdv))) :
    {t : TS // PSs (cxOf (L2N.CX P w) P w K mg base N_beneath "beneath" (defScope s_beneath) f cdv A outer s H E) (defBody s_beneath) t} := ⟨_, (pss_one (ps_ret (pe_callB (id := "sum") (r := rSum K) (cr_sum rfl) (by rfl) B.sum (by decide +kernel) (pa_cons (pe_call C_heights.ok (hr.mono (by decide)) (by rfl) C_heights.gl C_heights.kp C_heights.bd .nil (L2N.passes_call (W := fun cls d _ H => E cls d H) (L2N.takes_of rfl rfl rfl rfl) (fun _ _ _ _ h => h)) (pa_cons (pv 0) pa_nil)) pa_nil))))⟩

def der_rising {P : Program} {w : World} {K : PySem.W.Frag} {mg : Str → Option Value} {base : Heap} {fd_heights : FuncData} {sp_heights : Sp} (C_heights : Cal P w K mg base (L2N.CX P w) 1 "heights" P_heights sp_heights fd_heights) {f : Addr} {cdv : Value} {A : Around} {outer : List Env} {s : Shared} {H : Hp} {E : XK}
    (hr : Room 1 (A.deeper (envOfC "rising" (defScope s_rising) s.heap.objs.size f cdv))) :
    {t : TS // PSs (cxOf (L2N.CX P w) P w K mg base N_rising "rising" (defScope s_rising) f cdv A outer s H E) (defBody s_rising) t} := ⟨_, (pss_cons (ps_expr (pe_call C_heights.ok (hr.mono (by decide)) (by rfl) C_heights.gl C_heights.kp C_heights.bd .nil (L2N.passes_call (W := fun cls d _ H => E cls d H) (L2N.takes_of rfl rfl rfl rfl) (fun _ _ _ _ h => h)) (pa_cons (pv 0) pa_nil)))
 (pss_cons (ps_set (i := 1) sc_rising.nd rfl (Or.inl rfl) (pe_lst pa_nil))
 (pss_cons (ps_set (i := 2) sc_rising.nd rfl (Or.inl rfl) pe_int)
 (pss_cons (ps_for (passes_of rfl) rfl (pi_str (pv 0)) (pg_name (i := 3) sc_rising.nd rfl (Or.inl rfl))
 (pss_one (ps_if (pt_cmpR op_eq (pv 3) pe_str (nomark _))
 (pss_one (ps_expr (pe_bm PySem.F.plainAttrs_list PySem.F.slot_list_append PySem.F.type_list_append mt_append (pv 1) (pa_cons (pv 2) pa_nil))))
 (pss_one (ps_set (i := 2) sc_rising.nd rfl (Or.inl rfl) (pe_op op_add (pv 2) pe_int))))))
 (pss_one (ps_ret (pv 1)))))))⟩

def der_ring {P : Program} {w : World} {K : PySem.W.Frag} {mg : Str → Option Value} {base : Heap} (B : Bi mg) {fd_asked_wishes : FuncData} {sp_asked_wishes : Sp} (C_asked_wishes : Cal P w K mg base (L2N.CX P w) 2 "asked_wishes" P_asked_wishes sp_asked_wishes fd_asked_wishes) {fd_free_from : FuncData} {sp_free_from : Sp} (C_free_from : Cal P w K mg base CX0 1 "free_from" P_free_from sp_free_from fd_free_from) (X_TooMany : ExcF K mg "TooMany") {f : Addr} {cdv : Value} {A : Around} {outer : List Env} {s : Shared} {H : Hp} {E : XK}
    (hr : Room 2 (A.deeper (envOfC "ring" (defScope s_ring) s.heap.objs.size f cdv))) :
    {t : TS // PSs (cxOf (L2N.CX P w) P w K mg base N_ring "ring" (defScope s_ring) f cdv A outer s H E) (defBody s_ring) t} := ⟨_, (pss_cons (ps_expr (pe_call C_asked_wishes.ok (hr.mono (by decide)) (by rfl) C_asked_wishes.gl C_asked_wishes.kp C_asked_wishes.bd .nil (L2N.passes_call (W := fun cls d _ H => E cls d H) (L2N.takes_of rfl rfl rfl rfl) (fun _ _ _ _ h => h)) (pa_cons (pv 0) (pa_cons (pv 1) pa_nil))))
 (pss_cons (ps_if (pt_cmpR op_gt (pe_callB (id := "len") (r := rLenS K) call_len_seq (by rfl) B.len (by decide +kernel) (pa_cons (pv 1) pa_nil)) (pv 0) (nomark _))
 (pss_one (L2N.ps_raise rfl (L2N.takes_of rfl rfl rfl rfl) (L2N.pmk_own PySem.F.excBase_ValueError X_TooMany.ex X_TooMany.gl X_TooMany.kp (raises_own X_TooMany.be X_TooMany.ty) rfl)))
 pss_nil)
 (pss_cons (ps_setLc (i := 2) (own := [("place", 6)]) (g := (gName 6)) (tt := tYes) rfl sc_ring.nd rfl rfl (sw_true rfl rfl rfl (by decide +kernel))   (pi_range1 (by rfl) B.range (pa_cons (pv 0) pa_nil)) (blkOk_by (own := [("place", 6)]) (N := N_ring) (sc := defScope s_ring) (by decide +kernel)) (fun _ _ _ _ _ => (pg_name (i := 6) sc_ring.nd rfl (Or.inl rfl) (Or.inr rfl))) (fun _ _ _ _ _ => pts_nil) (fun _ _ _ _ _ => (pv 6)))
 (pss_cons (ps_set (i := 3) sc_ring.nd rfl (Or.inl rfl) (pv 0))
 (pss_cons (ps_set (i := 4) sc_ring.nd rfl (Or.inl rfl) (pe_lst pa_nil))
 (pss_cons (ps_for (passes_of rfl) rfl (pi_list (pv 1)) (pg_name (i := 5) sc_ring.nd rfl (Or.inl rfl))
 (pss_cons (ps_set (i := 6) sc_ring.nd rfl (Or.inl rfl) (pe_call C_free_from.ok (hr.mono (by decide)) (by rfl) C_free_from.gl C_free_from.kp C_free_from.bd .nil pass0 (pa_cons (pv 2) (pa_cons (pv 5) pa_nil))))
 (pss_cons (ps_expr (pe_bm PySem.F.plainAttrs_list PySem.F.slot_list_append PySem.F.type_list_append mt_append (pv 4) (pa_cons (pv 6) pa_nil)))
 (pss_cons (ps_set (i := 3) sc_ring.nd rfl (Or.inl rfl) (pe_op op_sub (pv 3) pe_int))
 (pss_one (ps_if (pt_cmpR op_gt (pv 3) pe_int (nomark _))
 (pss_one (ps_asg (pe_op op_mod (pe_op op_add (pv 6) pe_int) (pv 0)) (pg_sub (pv 2) (pv 6) set_list)))
 pss_nil))))))
 (pss_one (ps_ret (pv 4)))))))))⟩

def der_turning {P : Program} {w : World} {K : PySem.W.Frag} {mg : Str → Option Value} {base : Heap} (B : Bi mg) {fd_as_list : FuncData} {sp_as_list : Sp} (C_as_list : Cal P w K mg base (L2N.CX P w) 1 "as_list" P_as_list sp_as_list fd_as_list) {fd_ring : FuncData} {sp_ring : Sp} (C_ring : Cal P w K mg base (L2N.CX P w) 3 "ring" P_ring sp_ring fd_ring) {f : Addr} {cdv : Value} {A : Around} {outer : List Env} {s : Shared} {H : Hp} {E : XK}
    (hr : Room 3 (A.deeper (envOfC "turning" (defScope s_turning) s.heap.objs.size f cdv))) :
    {t : TS // PSs (cxOf (L2N.CX P w) P w K mg base N_turning "turning" (defScope s_turning) f cdv A outer s H E) (defBody s_turning) t} := ⟨_, (pss_cons (ps_set (i := 1) sc_turning.nd rfl (Or.inl rfl) (pe_op op_add (pe_callB (id := "len") (r := rLenS K) call_len_seq (by rfl) B.len (by decide +kernel) (pa_cons (pe_call C_as_list.ok (hr.mono (by decide)) (by rfl) C_as_list.gl C_as_list.kp C_as_list.bd .nil (L2N.passes_call (W := fun cls d _ H => E cls d H) (L2N.takes_of rfl rfl rfl rfl) (fun _ _ _ _ h => h)) (pa_cons (pv 0) pa_nil)) pa_nil)) pe_int))
 (pss_cons (ps_set (i := 2) sc_turning.nd rfl (Or.inl rfl) (pe_call C_ring.ok (hr.mono (by decide)) (by rfl) C_ring.gl C_ring.kp C_ring.bd .nil (L2N.passes_call (W := fun cls d _ H => E cls d H) (L2N.takes_of rfl rfl rfl rfl) (fun _ _ _ _ h => h)) (pa_cons (pv 1) (pa_cons (pv 0) pa_nil))))
 (pss_cons (ps_set (i := 3) sc_turning.nd rfl (Or.inl rfl) (pe_op op_sub (pe_op op_fdiv (pe_op op_mul (pv 1) (pe_op op_sub (pv 1) pe_int)) pe_int) (pe_callB (id := "sum") (r := rSum K) (cr_sum rfl) (by rfl) B.sum (by decide +kernel) (pa_cons (pv 2) pa_nil))))
 (pss_one (ps_ret (pe_op op_mod (pe_op op_sub (pe_op op_sub (pv 1) pe_int) (pv 3)) (pv 1)))))))⟩

def der_turned {P : Program} {w : World} {K : PySem.W.Frag} {mg : Str → Option Value} {base : Heap} (B : Bi mg) {fd_as_list : FuncData} {sp_as_list : Sp} (C_as_list : Cal P w K mg base (L2N.CX P w) 1 "as_list" P_as_list sp_as_list fd_as_list) {fd_asked_wishes : FuncData} {sp_asked_wishes : Sp} (C_asked_wishes : Cal P w K mg base (L2N.CX P w) 2 "asked_wishes" P_asked_wishes sp_asked_wishes fd_asked_wishes) (X_BadWishes : ExcF K mg "BadWishes") {f : Addr} {cdv : Value} {A : Around} {outer : List Env} {s : Shared} {H : Hp} {E : XK}
    (hr : Room 2 (A.deeper (envOfC "turned" (defScope s_turned) s.heap.objs.size f cdv))) :
    {t : TS // PSs (cxOf (L2N.CX P w) P w K mg base N_turned "turned" (defScope s_turned) f cdv A outer s H E) (defBody s_turned) t} := ⟨_, (pss_cons (ps_set (i := 2) sc_turned.nd rfl (Or.inr rfl) (pe_op op_add (pe_callB (id := "len") (r := rLenS K) call_len_seq (by rfl) B.len (by decide +kernel) (pa_cons (pe_call C_as_list.ok (hr.mono (by decide)) (by rfl) C_as_list.gl C_as_list.kp C_as_list.bd .nil (L2N.passes_call (W := fun cls d _ H => E cls d H) (L2N.takes_of rfl rfl rfl rfl) (fun _ _ _ _ h => h)) (pa_cons (pv 0) pa_nil)) pa_nil)) pe_int))
 (pss_cons (ps_expr (pe_call C_asked_wishes.ok (hr.mono (by decide)) (by rfl) C_asked_wishes.gl C_asked_wishes.kp C_asked_wishes.bd .nil (L2N.passes_call (W := fun cls d _ H => E cls d H) (L2N.takes_of rfl rfl rfl rfl) (fun _ _ _ _ h => h)) (pa_cons (pv 2) (pa_cons (pv 0) pa_nil))))
 (pss_cons (ps_if (PW.pt (pw_or (pt_not (pt_val (pe_callB (id := "isinstance") (r := rIsi K) call_isi (by rfl) B.isinstance (by decide +kernel) (pa_cons (pv 1) (pa_cons (pe_bltn (v := .ty "int") (by rfl) B.int (by decide +kernel) rfl) pa_nil))))) (pw_or1 (pt_val (pe_callB (id := "isinstance") (r := rIsi K) call_isi (by rfl) B.isinstance (by decide +kernel) (pa_cons (pv 1) (pa_cons (pe_bltn (v := .ty "bool") (by rfl) B.bool (by decide +kernel) rfl) pa_nil)))))))
 (pss_one (L2N.ps_raise rfl (L2N.takes_of rfl rfl rfl rfl) (L2N.pmk_own PySem.F.excBase_ValueError X_BadWishes.ex X_BadWishes.gl X_BadWishes.kp (raises_own X_BadWishes.be X_BadWishes.ty) rfl)))
 pss_nil)
 (pss_one (ps_ret (pe_lc (own := [("wish", 3)]) (g := (gName 3)) (tt := tYes) rfl sc_turned.nd (pi_list (pv 0)) (blkOk_by (own := [("wish", 3)]) (N := N_turned) (sc := defScope s_turned) (by decide +kernel)) (fun _ _ _ _ _ => (pg_name (i := 3) sc_turned.nd rfl (Or.inl rfl) (Or.inr rfl))) (fun _ _ _ _ _ => pts_nil) (fun _ _ _ _ _ => (pe_op op_mod (pe_op op_add (pv 3) (pv 1)) (pv 2)))))))))⟩

def der_asked_standing {P : Program} {w : World} {K : PySem.W.Frag} {mg : Str → Option Value} {base : Heap} (B : Bi mg) {fd_is_number : FuncData} {sp_is_number : Sp} (C_is_number : Cal P w K mg base CX0 1 "is_number" P_is_number sp_is_number fd_is_number) (X_BadStanding : ExcF K mg "BadStanding") {f : Addr} {cdv : Value} {A : Around} {outer : List Env} {s : Shared} {H : Hp} {E : XK}
    (hr : Room 1 (A.deeper (envOfC "asked_standing" (defScope s_asked_standing) s.heap.objs.size f cdv))) :
    {t : TS // PSs (cxOf (L2N.CX P w) P w K mg base N_asked_standing "asked_standing" (defScope s_asked_standing) f cdv A outer s H E) (defBody s_asked_standing) t} := ⟨_, (pss_cons (ps_if (PW.pt (pw_or (pt_not (pt_val (pe_callB (id := "isinstance") (r := rIsi K) call_isi (by rfl) B.isinstance (by decide +kernel) (pa_cons (pv 0) (pa_cons (pe_bltn (v := .ty "list") (by rfl) B.list (by decide +kernel) rfl) pa_nil))))) (pw_or1 (pt_not (pt_val (pe_callB (id := "all") (r := rAll K) (cr_all rfl) (by rfl) B.all (by decide +kernel) (pa_cons (pe_lc (own := [("car", 1)]) (g := (gName 1)) (tt := tYes) rfl sc_asked_standing.nd (pi_list (pv 0)) (blkOk_by (own := [("car", 1)]) (N := N_asked_standing) (sc := defScope s_asked_standing) (by decide +kernel)) (fun _ _ _ _ _ => (pg_name (i := 1) sc_asked_standing.nd rfl (Or.inl rfl) (Or.inr rfl))) (fun _ _ _ _ _ => pts_nil) (fun _ _ _ _ _ => (pe_call C_is_number.ok (hr.mono (by decide)) (by rfl) C_is_number.gl C_is_number.kp C_is_number.bd .nil pass0 (pa_cons (pv 1) (pa_cons pe_int (pa_cons (pe_op op_sub (pe_callB (id := "len") (r := rLenS K) call_len_seq (by rfl) B.len (by decide +kernel) (pa_cons (pv 0) pa_nil)) pe_int) pa_nil)))))) pa_nil)))))))
 (pss_one (L2N.ps_raise rfl (L2N.takes_of rfl rfl rfl rfl) (L2N.pmk_own PySem.F.excBase_ValueError X_BadStanding.ex X_BadStanding.gl X_BadStanding.kp (raises_own X_BadStanding.be X_BadStanding.ty) rfl)))
 pss_nil)
 (pss_one (ps_if (pt_cmpR op_ne (pe_lenSetG (by rfl) B.len (by rfl) B.set (pv 0)) (pe_callB (id := "len") (r := rLenS K) call_len_seq (by rfl) B.len (by decide +kernel) (pa_cons (pv 0) pa_nil)) (nomark _))
 (pss_one (L2N.ps_raise rfl (L2N.takes_of rfl rfl rfl rfl) (L2N.pmk_own PySem.F.excBase_ValueError X_BadStanding.ex X_BadStanding.gl X_BadStanding.kp (raises_own X_BadStanding.be X_BadStanding.ty) rfl)))
 pss_nil)))⟩

def der_reaches {P : Program} {w : World} {K : PySem.W.Frag} {mg : Str → Option Value} {base : Heap} (B : Bi mg) {fd_asked_standing : FuncData} {sp_asked_standing : Sp} (C_asked_standing : Cal P w K mg base (L2N.CX P w) 2 "asked_standing" P_asked_standing sp_asked_standing fd_asked_standing) {f : Addr} {cdv : Value} {A : Around} {outer : List Env} {s : Shared} {H : Hp} {E : XK}
    (hr : Room 2 (A.deeper (envOfC "reaches" (defScope s_reaches) s.heap.objs.size f cdv))) :
    {t : TS // PSs (cxOf (L2N.CX P w) P w K mg base N_reaches "reaches" (defScope s_reaches) f cdv A outer s H E) (defBody s_reaches) t} := ⟨_, (pss_cons (ps_expr (pe_call C_asked_standing.ok (hr.mono (by decide)) (by rfl) C_asked_standing.gl C_asked_standing.kp C_asked_standing.bd .nil (L2N.passes_call (W := fun cls d _ H => E cls d H) (L2N.takes_of rfl rfl rfl rfl) (fun _ _ _ _ h => h)) (pa_cons (pv 0) pa_nil)))
 (pss_cons (ps_set (i := 1) sc_reaches.nd rfl (Or.inl rfl) (pe_lst pa_nil))
 (pss_cons (ps_set (i := 2) sc_reaches.nd rfl (Or.inl rfl) (pe_lst pa_nil))
 (pss_cons (ps_for (passes_of rfl) rfl (pi_enum (by rfl) B.enumerate (pa_cons (pv 0) pa_nil)) (pg_tup rfl (pgs_cons (pg_name (i := 3) sc_reaches.nd rfl (Or.inl rfl)) (pgs_cons (pg_name (i := 4) sc_reaches.nd rfl (Or.inl rfl)) pgs_nil)))
 (pss_cons (ps_while (passes_of rfl) (PW.pt (pw_and (pt_cmpR (r := rNeD K) (op_neD hr.units) (pv 2) (pe_lst pa_nil) (nomark _)) (pw_and1 (pt_cmpR op_lt (pe_ix (r := rIxL K) ix_list (pv 0) (pe_ix (r := rIxL K) ix_list (pv 2) (pe_un un_neg pe_int) (fun _ _ => rfl)) (fun _ _ => rfl)) (pv 4) (nomark _)))))
 (pss_one (ps_expr (pe_bm0 PySem.F.plainAttrs_list PySem.F.slot_list_pop PySem.F.type_list_pop mt_pop (pv 2)))))
 (pss_cons (ps_if (pt_cmpR (r := rEqD K) (op_eqD hr.units) (pv 2) (pe_lst pa_nil) (nomark _))
 (pss_one (ps_expr (pe_bm PySem.F.plainAttrs_list PySem.F.slot_list_append PySem.F.type_list_append mt_append (pv 1) (pa_cons pe_int pa_nil))))
 (pss_one (ps_expr (pe_bm PySem.F.plainAttrs_list PySem.F.slot_list_append PySem.F.type_list_append mt_append (pv 1) (pa_cons (pe_op op_add (pe_ix (r := rIxL K) ix_list (pv 2) (pe_un un_neg pe_int) (fun _ _ => rfl)) pe_int) pa_nil)))))
 (pss_one (ps_expr (pe_bm PySem.F.plainAttrs_list PySem.F.slot_list_append PySem.F.type_list_append mt_append (pv 2) (pa_cons (pv 3) pa_nil)))))))
 (pss_one (ps_ret (pv 1)))))))⟩

def der_how_many {P : Program} {w : World} {K : PySem.W.Frag} {mg : Str → Option Value} {base : Heap} (B : Bi mg) {fd_reaches : FuncData} {sp_reaches : Sp} (C_reaches : Cal P w K mg base (L2N.CX P w) 3 "reaches" P_reaches sp_reaches fd_reaches) {f : Addr} {cdv : Value} {A : Around} {outer : List Env} {s : Shared} {H : Hp} {E : XK}
    (hr : Room 3 (A.deeper (envOfC "how_many" (defScope s_how_many) s.heap.objs.size f cdv))) :
    {t : TS // PSs (cxOf (L2N.CX P w) P w K mg base N_how_many "how_many" (defScope s_how_many) f cdv A outer s H E) (defBody s_how_many) t} := ⟨_, (pss_cons (ps_set (i := 1) sc_how_many.nd rfl (Or.inl rfl) pe_int)
 (pss_cons (ps_for (passes_of rfl) rfl (pi_enum (by rfl) B.enumerate (pa_cons (pe_call C_reaches.ok (hr.mono (by decide)) (by rfl) C_reaches.gl C_reaches.kp C_reaches.bd .nil (L2N.passes_call (W := fun cls d _ H => E cls d H) (L2N.takes_of rfl rfl rfl rfl) (fun _ _ _ _ h => h)) (pa_cons (pv 0) pa_nil)) pa_nil)) (pg_tup rfl (pgs_cons (pg_name (i := 2) sc_how_many.nd rfl (Or.inl rfl)) (pgs_cons (pg_name (i := 3) sc_how_many.nd rfl (Or.inl rfl)) pgs_nil)))
 (pss_one (ps_set (i := 1) sc_how_many.nd rfl (Or.inl rfl) (pe_op op_mul (pv 1) (pe_op op_add (pe_op op_sub (pv 2) (pv 3)) pe_int)))))
 (pss_one (ps_ret (pv 1)))))⟩

def der_from_steps {P : Program} {w : World} {K : PySem.W.Frag} {mg : Str → Option Value} {base : Heap} (B : Bi mg) {fd_is_number : FuncData} {sp_is_number : Sp} (C_is_number : Cal P w K mg base CX0 1 "is_number" P_is_number sp_is_number fd_is_number) {fd_reaches : FuncData} {sp_reaches : Sp} (C_reaches : Cal P w K mg base (L2N.CX P w) 3 "reaches" P_reaches sp_reaches fd_reaches) (X_BadStanding : ExcF K mg "BadStanding") {f : Addr} {cdv : Value} {A : Around} {outer : List Env} {s : Shared} {H : Hp} {E : XK}
    (hr : Room 3 (A.deeper (envOfC "from_steps" (defScope s_from_steps) s.heap.objs.size f cdv))) :
    {t : TS // PSs (cxOf (L2N.CX P w) P w K mg base N_from_steps "from_steps" (defScope s_from_steps) f cdv A outer s H E) (defBody s_from_steps) t} := ⟨_, (pss_cons (ps_set (i := 2) sc_from_steps.nd rfl (Or.inl rfl) (pe_call C_reaches.ok (hr.mono (by decide)) (by rfl) C_reaches.gl C_reaches.kp C_reaches.bd .nil (L2N.passes_call (W := fun cls d _ H => E cls d H) (L2N.takes_of rfl rfl rfl rfl) (fun _ _ _ _ h => h)) (pa_cons (pv 0) pa_nil)))
 (pss_cons (ps_if (PW.pt (pw_or (pt_not (pt_val (pe_callB (id := "isinstance") (r := rIsi K) call_isi (by rfl) B.isinstance (by decide +kernel) (pa_cons (pv 1) (pa_cons (pe_bltn (v := .ty "list") (by rfl) B.list (by decide +kernel) rfl) pa_nil))))) (pw_or1 (pt_cmpR op_ne (pe_callB (id := "len") (r := rLenS K) call_len_seq (by rfl) B.len (by decide +kernel) (pa_cons (pv 1) pa_nil)) (pe_callB (id := "len") (r := rLenS K) call_len_seq (by rfl) B.len (by decide +kernel) (pa_cons (pv 0) pa_nil)) (nomark _)))))
 (pss_one (L2N.ps_raise rfl (L2N.takes_of rfl rfl rfl rfl) (L2N.pmk_own PySem.F.excBase_ValueError X_BadStanding.ex X_BadStanding.gl X_BadStanding.kp (raises_own X_BadStanding.be X_BadStanding.ty) rfl)))
 pss_nil)
 (pss_cons (ps_setLc (i := 3) (own := [("car", 5)]) (g := (gName 5)) (tt := tYes) rfl sc_from_steps.nd rfl rfl (sw_true rfl rfl rfl (by decide +kernel))   (pi_list (pv 0)) (blkOk_by (own := [("car", 5)]) (N := N_from_steps) (sc := defScope s_from_steps) (by decide +kernel)) (fun _ _ _ _ _ => (pg_name (i := 5) sc_from_steps.nd rfl (Or.inl rfl) (Or.inr rfl))) (fun _ _ _ _ _ => pts_nil) (fun _ _ _ _ _ => pe_int))
 (pss_cons (ps_for (passes_of rfl) rfl (pi_enum (by rfl) B.enumerate (pa_cons (pv 0) pa_nil)) (pg_tup rfl (pgs_cons (pg_name (i := 4) sc_from_steps.nd rfl (Or.inl rfl)) (pgs_cons (pg_name (i := 5) sc_from_steps.nd rfl (Or.inl rfl)) pgs_nil)))
 (pss_cons (ps_if (pt_not (pt_val (pe_call C_is_number.ok (hr.mono (by decide)) (by rfl) C_is_number.gl C_is_number.kp C_is_number.bd .nil pass0 (pa_cons (pe_ix (r := rIxL K) ix_list (pv 1) (pv 4) (fun _ _ => rfl)) (pa_cons pe_int (pa_cons (pe_op op_sub (pv 4) (pe_ix (r := rIxL K) ix_list (pv 2) (pv 4) (fun _ _ => rfl))) pa_nil))))))
 (pss_one (L2N.ps_raise rfl (L2N.takes_of rfl rfl rfl rfl) (L2N.pmk_own PySem.F.excBase_ValueError X_BadStanding.ex X_BadStanding.gl X_BadStanding.kp (raises_own X_BadStanding.be X_BadStanding.ty) rfl)))
 pss_nil)
 (pss_one (ps_asg (pe_op op_sub (pv 4) (pe_ix (r := rIxL K) ix_list (pv 1) (pv 4) (fun _ _ => rfl))) (pg_sub (pv 3) (pv 5) set_list)))))
 (pss_one (ps_ret (pv 3)))))))⟩

def der_written {P : Program} {w : World} {K : PySem.W.Frag} {mg : Str → Option Value} {base : Heap} (B : Bi mg) {fd_asked_wishes : FuncData} {sp_asked_wishes : Sp} (C_asked_wishes : Cal P w K mg base (L2N.CX P w) 2 "asked_wishes" P_asked_wishes sp_asked_wishes fd_asked_wishes) {f : Addr} {cdv : Value} {A : Around} {outer : List Env} {s : Shared} {H : Hp} {E : XK}
    (hr : Room 2 (A.deeper (envOfC "written" (defScope s_written) s.heap.objs.size f cdv))) :
    {t : TS // PSs (cxOf (L2N.CX P w) P w K mg base N_written "written" (defScope s_written) f cdv A outer s H E) (defBody s_written) t} := ⟨_, (pss_cons (ps_expr (pe_call C_asked_wishes.ok (hr.mono (by decide)) (by rfl) C_asked_wishes.gl C_asked_wishes.kp C_asked_wishes.bd .nil (L2N.passes_call (W := fun cls d _ H => E cls d H) (L2N.takes_of rfl rfl rfl rfl) (fun _ _ _ _ h => h)) (pa_cons (pv 0) (pa_cons (pv 1) pa_nil))))
 (pss_one (ps_ret (pe_join pe_str (pe_op op_cat (pe_lst (pa_cons (pe_op op_add_str (pe_callTy (T := "str") call_str_int (by rfl) B.str (by decide +kernel) (pa_cons (pv 0) pa_nil)) pe_str) pa_nil)) (pe_lc (own := [("wish", 2)]) (g := (gName 2)) (tt := tYes) rfl sc_written.nd (pi_list (pv 1)) (blkOk_by (own := [("wish", 2)]) (N := N_written) (sc := defScope s_written) (by decide +kernel)) (fun _ _ _ _ _ => (pg_name (i := 2) sc_written.nd rfl (Or.inl rfl) (Or.inr rfl))) (fun _ _ _ _ _ => pts_nil) (fun _ _ _ _ _ => (pe_callTy (T := "str") call_str_int (by rfl) B.str (by decide +kernel) (pa_cons (pv 2) pa_nil)))))))))⟩

def der_number_in {P : Program} {w : World} {K : PySem.W.Frag} {mg : Str → Option Value} {base : Heap} (B : Bi mg) {tk_FIGURES : Tok} (gc_FIGURES : mg "FIGURES" = some (.str "0123456789" tk_FIGURES)) {tk_LONGEST : Tok} (gc_LONGEST : mg "LONGEST" = some (.int 7 tk_LONGEST)) (X_BadText : ExcF K mg "BadText") {f : Addr} {cdv : Value} {A : Around} {outer : List Env} {s : Shared} {H : Hp} {E : XK}
    (hr : Room 0 (A.deeper (envOfC "number_in" (defScope s_number_in) s.heap.objs.size f cdv))) :
    {t : TS // PSs (cxOf (L2N.CX P w) P w K mg base N_number_in "number_in" (defScope s_number_in) f cdv A outer s H E) (defBody s_number_in) t} := ⟨_, (pss_cons (ps_if (PW.pt (pw_or (pt_not (pt_chain op_le op_le pe_int (pe_callB (id := "len") (r := rLenT) call_len_str (by rfl) B.len (by decide +kernel) (pa_cons (pv 0) pa_nil)) (pe_glob (v := .int 7) rfl gc_LONGEST ⟨_, rfl⟩))) (pw_or (pt_cmpR op_ne (pe_m1 PySem.F.slot_str_strip PySem.F.type_str_strip mt_stripChars (pv 0) (pe_glob (v := .str "0123456789") rfl gc_FIGURES ⟨_, rfl⟩)) pe_str (nomark _)) (pw_or1 (PW.pt (pw_and (pt_val (pe_m1 PySem.F.slot_str_startswith PySem.F.type_str_startswith mt_startswith (pv 0) pe_str)) (pw_and1 (pt_cmpR op_ne (pv 0) pe_str (nomark _)))))))))
 (pss_one (L2N.ps_raise rfl (L2N.takes_of rfl rfl rfl rfl) (L2N.pmk_own PySem.F.excBase_ValueError X_BadText.ex X_BadText.gl X_BadText.kp (raises_own X_BadText.be X_BadText.ty) rfl)))
 pss_nil)
 (pss_one (ps_ret (pe_callTy (T := "int") call_int_str (by rfl) B.int (by decide +kernel) (pa_cons (pv 0) pa_nil)))))⟩

def der_read {P : Program} {w : World} {K : PySem.W.Frag} {mg : Str → Option Value} {base : Heap} (B : Bi mg) {fd_asked_wishes : FuncData} {sp_asked_wishes : Sp} (C_asked_wishes : Cal P w K mg base (L2N.CX P w) 2 "asked_wishes" P_asked_wishes sp_asked_wishes fd_asked_wishes) {fd_number_in : FuncData} {sp_number_in : Sp} (C_number_in : Cal P w K mg base (L2N.CX P w) 1 "number_in" P_number_in sp_number_in fd_number_in) (X_BadText : ExcF K mg "BadText") (X_BadWishes : ExcF K mg "BadWishes") {f : Addr} {cdv : Value} {A : Around} {outer : List Env} {s : Shared} {H : Hp} {E : XK}
    (hr : Room 2 (A.deeper (envOfC "read" (defScope s_read) s.heap.objs.size f cdv))) :
    {t : TS // PSs (cxOf (CXt P w) P w K mg base N_read "read" (defScope s_read) f cdv A outer s H E) (defBody s_read) t} := ⟨_, (pss_cons (ps_if (pt_not (pt_val (pe_callB (id := "isinstance") (r := rIsi K) call_isi (by rfl) B.isinstance (by decide +kernel) (pa_cons (pv 0) (pa_cons (pe_bltn (v := .ty "str") (by rfl) B.str (by decide +kernel) rfl) pa_nil)))))
 (pss_one (L2N.ps_raise rfl (TakesT.n (takesT_of rfl rfl rfl rfl)) (L2N.pmk_own PySem.F.excBase_ValueError X_BadText.ex X_BadText.gl X_BadText.kp (raises_own X_BadText.be X_BadText.ty) rfl)))
 pss_nil)
 (pss_cons (ps_set (i := 1) sc_read.nd rfl (Or.inl rfl) (pe_split (pv 0) pe_str))
 (pss_cons (ps_if (pt_not (pt_val (pe_m1 PySem.F.slot_str_endswith PySem.F.type_str_endswith mt_endswith (pe_ix (r := rIxL K) ix_list (pv 1) pe_int (fun _ _ => rfl)) pe_str)))
 (pss_one (L2N.ps_raise rfl (TakesT.n (takesT_of rfl rfl rfl rfl)) (L2N.pmk_own PySem.F.excBase_ValueError X_BadText.ex X_BadText.gl X_BadText.kp (raises_own X_BadText.be X_BadText.ty) rfl)))
 pss_nil)
 (pss_cons (ps_set (i := 2) sc_read.nd rfl (Or.inl rfl) (pe_call C_number_in.ok (hr.mono (by decide)) (by rfl) C_number_in.gl C_number_in.kp C_number_in.bd .nil (L2N.passes_call (W := fun cls d _ H => E cls d H) (TakesT.n (takesT_of rfl rfl rfl rfl)) (fun _ _ _ _ h => h)) (pa_cons (pe_slice sl_str (pe_ix (r := rIxL K) ix_list (pv 1) pe_int (fun _ _ => rfl)) po_none (po_some (pe_un un_neg pe_int))) pa_nil)))
 (pss_cons (ps_setLcX (i := 3) (own := [("word", 4)]) (g := (gName 4)) rfl rfl (TakesT.n (takesT_of rfl rfl rfl rfl)) rfl sc_read.nd rfl rfl (sw_true rfl rfl rfl (by decide +kernel)) (pi_list (pe_slice (r := rSlL K) sl_list (pv 1) (po_some pe_int) po_none)) (blkOk_by (own := [("word", 4)]) (N := N_read) (sc := defScope s_read) (by decide +kernel)) (fun _ _ _ _ _ _ => (pg_name (i := 4) sc_read.nd rfl (Or.inl rfl) (Or.inr rfl))) (fun _ _ _ _ _ _ ps => (pe_call C_number_in.ok (hr.mono (by decide)) (by rfl) C_number_in.gl C_number_in.kp C_number_in.bd .nil ps (pa_cons (pv 4) pa_nil))))
 (pss_cons (ps_try_fromT rfl rfl ⟨rfl, by decide, .inl X_BadWishes.gl⟩ (L2H.passesAt_of rfl) (takesT_of rfl rfl rfl rfl)
 (fun W pn xe tk _ => (pss_one (ps_expr (pe_callS C_asked_wishes.ok (hr.mono (by decide)) (by rfl) C_asked_wishes.gl C_asked_wishes.kp C_asked_wishes.bd (fun σ => L2N.passAt tk σ) (pa_cons (pv 2) (pa_cons (pv 3) pa_nil))))))
 (fun a pn => pmk5_own PySem.F.excBase_ValueError X_BadText.ex X_BadText.gl X_BadText.kp (raises_own X_BadText.be X_BadText.ty) rfl))
 (pss_one (ps_ret (pe_tup (pa_cons (pv 2) (pa_cons (pv 3) pa_nil)))))))))))⟩

def der_law_full {P : Program} {w : World} {K : PySem.W.Frag} {mg : Str → Option Value} {base : Heap} (B : Bi mg) {f : Addr} {cdv : Value} {A : Around} {outer : List Env} {s : Shared} {H : Hp} {E : XK}
    (hr : Room 0 (A.deeper (envOfC "_law_full" (defScope s_law_full) s.heap.objs.size f cdv))) :
    {t : TS // PSs (cxOf CX0 P w K mg base N_law_full "_law_full" (defScope s_law_full) f cdv A outer s H E).nox (defBody s_law_full) t} := ⟨_, (pss_cons (ps_set (i := 1) sc_law_full.nd rfl (Or.inr rfl) (pe_callB (id := "len") (r := rLenS K) call_len_seq (by rfl) B.len (by decide +kernel) (pa_cons (pe_slice (r := rSlL K) sl_list (pv 0) po_none (po_some pe_int)) pa_nil)))
 (pss_cons (ps_setLc (i := 2) (own := [("cell", 9)]) (g := (gName 9)) (tt := tYes) rfl sc_law_full.nd rfl rfl (sw_true rfl rfl rfl (by decide +kernel))   (pi_list (pe_slice (r := rSlL K) sl_list (pv 0) po_none (po_some pe_int))) (blkOk_by (own := [("cell", 9)]) (N := N_law_full) (sc := defScope s_law_full) (by decide +kernel)) (fun _ _ _ _ _ => (pg_name (i := 9) sc_law_full.nd rfl (Or.inl rfl) (Or.inr rfl))) (fun _ _ _ _ _ => pts_nil) (fun _ _ _ _ _ => (pe_op op_mod (pv 9) (pe_op op_add (pv 1) pe_int))))
 (pss_cons (ps_setLc (i := 3) (own := [("place", 8)]) (g := (gName 8)) (tt := tYes) rfl sc_law_full.nd rfl rfl (sw_true rfl rfl rfl (by decide +kernel))   (pi_range1 (by rfl) B.range (pa_cons (pe_op op_add (pv 1) pe_int) pa_nil)) (blkOk_by (own := [("place", 8)]) (N := N_law_full) (sc := defScope s_law_full) (by decide +kernel)) (fun _ _ _ _ _ => (pg_name (i := 8) sc_law_full.nd rfl (Or.inl rfl) (Or.inr rfl))) (fun _ _ _ _ _ => pts_nil) (fun _ _ _ _ _ => pe_int))
 (pss_cons (ps_for PassesOwn.never rfl (pi_list (pv 2)) (pg_name (i := 4) sc_law_full.nd rfl (Or.inl rfl))
 (pss_one (ps_asg (pe_op op_add (pe_ix (r := rIxL K) ix_list (pv 3) (pv 4) (fun _ _ => rfl)) pe_int) (pg_sub (pv 3) (pv 4) set_list))))
 (pss_cons (ps_set (i := 5) sc_law_full.nd rfl (Or.inl rfl) pe_int)
 (pss_cons (ps_set (i := 6) sc_law_full.nd rfl (Or.inl rfl) pe_int)
 (pss_cons (ps_set (i := 7) sc_law_full.nd rfl (Or.inr rfl) pe_int)
 (pss_cons (ps_for PassesOwn.never rfl (pi_range1 (by rfl) B.range (pa_cons (pe_op op_add (pv 1) pe_int) pa_nil)) (pg_name (i := 8) sc_law_full.nd rfl (Or.inl rfl))
 (pss_cons (ps_set (i := 5) sc_law_full.nd rfl (Or.inl rfl) (pe_op op_sub (pe_op op_add (pv 5) (pe_ix (r := rIxL K) ix_list (pv 3) (pv 8) (fun _ _ => rfl))) pe_int))
 (pss_one (ps_if (pt_cmpR op_lt (pv 5) (pv 6) (nomark _))
 (pss_cons (ps_set (i := 6) sc_law_full.nd rfl (Or.inl rfl) (pv 5))
 (pss_one (ps_set (i := 7) sc_law_full.nd rfl (Or.inr rfl) (pv 8))))
 pss_nil))))
 (pss_one (ps_ret (pe_lc (own := [("wish", 4)]) (g := (gName 4)) (tt := tYes) rfl sc_law_full.nd (pi_list (pv 2)) (blkOk_by (own := [("wish", 4)]) (N := N_law_full) (sc := defScope s_law_full) (by decide +kernel)) (fun _ _ _ _ _ => (pg_name (i := 4) sc_law_full.nd rfl (Or.inl rfl) (Or.inr rfl))) (fun _ _ _ _ _ => pts_nil) (fun _ _ _ _ _ => (pe_op op_mod (pe_op op_sub (pe_op op_add (pv 4) (pv 1)) (pv 7)) (pe_op op_add (pv 1) pe_int))))))))))))))⟩

def der_law_numbers {P : Program} {w : World} {K : PySem.W.Frag} {mg : Str → Option Value} {base : Heap} (B : Bi mg) {f : Addr} {cdv : Value} {A : Around} {outer : List Env} {s : Shared} {H : Hp} {E : XK}
    (hr : Room 0 (A.deeper (envOfC "_law_numbers" (defScope s_law_numbers) s.heap.objs.size f cdv))) :
    {t : TS // PSs (cxOf CX0 P w K mg base N_law_numbers "_law_numbers" (defScope s_law_numbers) f cdv A outer s H E).nox (defBody s_law_numbers) t} := ⟨_, (pss_cons (ps_if (pt_not (pt_val (pe_callB (id := "isinstance") (r := rIsi K) call_isi (by rfl) B.isinstance (by decide +kernel) (pa_cons (pv 0) (pa_cons (pe_bltn (v := .ty "list") (by rfl) B.list (by decide +kernel) rfl) pa_nil)))))
 (pss_one (ps_ret pe_bl))
 pss_nil)
 (pss_one (ps_ret (pe_callB (id := "all") (r := rAll K) (cr_all rfl) (by rfl) B.all (by decide +kernel) (pa_cons (pe_lc (own := [("one", 1)]) (g := (gName 1)) (tt := tYes) rfl sc_law_numbers.nd (pi_list (pv 0)) (blkOk_by (own := [("one", 1)]) (N := N_law_numbers) (sc := defScope s_law_numbers) (by decide +kernel)) (fun _ _ _ _ _ => (pg_name (i := 1) sc_law_numbers.nd rfl (Or.inl rfl) (Or.inr rfl))) (fun _ _ _ _ _ => pts_nil) (fun _ _ _ _ _ => (pe_and (pe_callB (id := "isinstance") (r := rIsi K) call_isi (by rfl) B.isinstance (by decide +kernel) (pa_cons (pv 1) (pa_cons (pe_bltn (v := .ty "int") (by rfl) B.int (by decide +kernel) rfl) pa_nil))) (pe_one (pe_not (pe_callB (id := "isinstance") (r := rIsi K) call_isi (by rfl) B.isinstance (by decide +kernel) (pa_cons (pv 1) (pa_cons (pe_bltn (v := .ty "bool") (by rfl) B.bool (by decide +kernel) rfl) pa_nil)))))))) pa_nil)))))⟩

def der_law_parents {P : Program} {w : World} {K : PySem.W.Frag} {mg : Str → Option Value} {base : Heap} (B : Bi mg) {f : Addr} {cdv : Value} {A : Around} {outer : List Env} {s : Shared} {H : Hp} {E : XK}
    (hr : Room 0 (A.deeper (envOfC "_law_parents" (defScope s_law_parents) s.heap.objs.size f cdv))) :
    {t : TS // PSs (cxOf CX0 P w K mg base N_law_parents "_law_parents" (defScope s_law_parents) f cdv A outer s H E).nox (defBody s_law_parents) t} := ⟨_, (pss_cons (ps_set (i := 1) sc_law_parents.nd rfl (Or.inl rfl) (pe_callB (id := "sorted") (r := rSortedPO K) cr_sortedPO (by rfl) B.sorted (by decide +kernel) (pa_cons (pe_lc (own := [("car", 3), ("wish", 4)]) (g := (gTup K 2 (gCons (gName 3) (gCons (gName 4) gNil)))) (tt := tYes) rfl sc_law_parents.nd (pi_enum (by rfl) B.enumerate (pa_cons (pv 0) pa_nil)) (blkOk_by (own := [("car", 3), ("wish", 4)]) (N := N_law_parents) (sc := defScope s_law_parents) (by decide +kernel)) (fun _ _ _ _ _ => (pg_tup rfl (pgs_cons (pg_name (i := 3) sc_law_parents.nd rfl (Or.inl rfl) (Or.inr rfl)) (pgs_cons (pg_name (i := 4) sc_law_parents.nd rfl (Or.inl rfl) (Or.inr rfl)) pgs_nil)))) (fun _ _ _ _ _ => pts_nil) (fun _ _ _ _ _ => (pe_tup (pa_cons (pv 4) (pa_cons (pe_op op_add (pv 3) pe_int) pa_nil))))) pa_nil)))
 (pss_cons (ps_set (i := 2) sc_law_parents.nd rfl (Or.inr rfl) (pe_op op_cat (pe_lst (pa_cons pe_int pa_nil)) (pe_lc (own := [("wish", 4), ("car", 3)]) (g := (gTup K 2 (gCons (gName 4) (gCons (gName 3) gNil)))) (tt := tYes) rfl sc_law_parents.nd (pi_list (pv 1)) (blkOk_by (own := [("wish", 4), ("car", 3)]) (N := N_law_parents) (sc := defScope s_law_parents) (by decide +kernel)) (fun _ _ _ _ _ => (pg_tup rfl (pgs_cons (pg_name (i := 4) sc_law_parents.nd rfl (Or.inl rfl) (Or.inr rfl)) (pgs_cons (pg_name (i := 3) sc_law_parents.nd rfl (Or.inl rfl) (Or.inr rfl)) pgs_nil)))) (fun _ _ _ _ _ => pts_nil) (fun _ _ _ _ _ => (pv 3)))))
 (pss_one (ps_ret (pe_lc (own := [("wish", 4)]) (g := (gName 4)) (tt := tYes) rfl sc_law_parents.nd (pi_list (pv 0)) (blkOk_by (own := [("wish", 4)]) (N := N_law_parents) (sc := defScope s_law_parents) (by decide +kernel)) (fun _ _ _ _ _ => (pg_name (i := 4) sc_law_parents.nd rfl (Or.inl rfl) (Or.inr rfl))) (fun _ _ _ _ _ => pts_nil) (fun _ _ _ _ _ => (pe_ix (r := rIxL K) ix_list (pv 2) (pv 4) (fun _ _ => rfl))))))))⟩


def der_law_standings_promises {P : Program} {w : World} {K : PySem.W.Frag} {mg : Str → Option Value} {base : Heap} (B : Bi mg) {fd_law_standings_promises_more1 : FuncData} {sp_law_standings_promises_more1 : Sp} (C_law_standings_promises_more1 : Cal P w K mg base CX0 6 "_law_standings_promises_more1" P_law_standings_promises_more1 sp_law_standings_promises_more1 fd_law_standings_promises_more1) {fd_beneath : FuncData} {sp_beneath : Sp} (C_beneath : Cal P w K mg base (L2N.CX P w) 2 "beneath" P_beneath sp_beneath fd_beneath) {fd_drives : FuncData} {sp_drives : Sp} (C_drives : Cal P w K mg base (L2N.CX P w) 4 "drives" P_drives sp_drives fd_drives) {fd_from_steps : FuncData} {sp_from_steps : Sp} (C_from_steps : Cal P w K mg base (L2N.CX P w) 4 "from_steps" P_from_steps sp_from_steps fd_from_steps) {fd_how_many : FuncData} {sp_how_many : Sp} (C_how_many : Cal P w K mg base (L2N.CX P w) 4 "how_many" P_how_many sp_how_many fd_how_many) {fd_path : FuncData} {sp_path : Sp} (C_path : Cal P w K mg base (L2N.CX P w) 4 "path" P_path sp_path fd_path) {fd_reaches : FuncData} {sp_reaches : Sp} (C_reaches : Cal P w K mg base (L2N.CX P w) 3 "reaches" P_reaches sp_reaches fd_reaches) {fd_rising : FuncData} {sp_rising : Sp} (C_rising : Cal P w K mg base (L2N.CX P w) 2 "rising" P_rising sp_rising fd_rising) {fd_tree : FuncData} {sp_tree : Sp} (C_tree : Cal P w K mg base (L2N.CX P w) 4 "tree" P_tree sp_tree fd_tree) {fd_wishes_of : FuncData} {sp_wishes_of : Sp} (C_wishes_of : Cal P w K mg base (L2N.CX P w) 2 "wishes_of" P_wishes_of sp_wishes_of fd_wishes_of) {T : TabT} (NO : NoD K mg base s_law_no_of N_law_no_of) (LT : LamT K mg base T "_law_standings_promises" s_law_standings_promises) {A : Around} {outer : List Env} {s : Shared} {H : Hp} {E : XK}
    (hr : Room 6 (A.deeper (envOfC "_law_standings_promises" (defScope s_law_standings_promises) s.heap.objs.size (ga K "_law_standings_promises") (.ref (codeOf K ("_law_standings_promises", none)))))) :
    {t : TS // PSs (cxOf CX0 P w K mg base N_law_standings_promises "_law_standings_promises" (defScope s_law_standings_promises) (ga K "_law_standings_promises") (.ref (codeOf K ("_law_standings_promises", none))) A outer s H E).nox (defBody s_law_standings_promises) t} := ⟨_, (pss_cons (ps_set (i := 0) sc_law_standings_promises.nd rfl (Or.inl rfl) (pe_lst (pa_cons (pe_tup (pa_cons (pe_lst pa_nil) (pa_cons (pe_lst pa_nil) pa_nil))) (pa_cons (pe_tup (pa_cons (pe_lst (pa_cons pe_int pa_nil)) (pa_cons (pe_lst (pa_cons pe_int pa_nil)) pa_nil))) (pa_cons (pe_tup (pa_cons (pe_lst (pa_cons pe_int (pa_cons pe_int pa_nil))) (pa_cons (pe_lst (pa_cons pe_int (pa_cons pe_int pa_nil))) pa_nil))) (pa_cons (pe_tup (pa_cons (pe_lst (pa_cons pe_int (pa_cons pe_int pa_nil))) (pa_cons (pe_lst (pa_cons pe_int (pa_cons pe_int pa_nil))) pa_nil))) (pa_cons (pe_tup (pa_cons (pe_lst (pa_cons pe_int (pa_cons pe_int pa_nil))) (pa_cons (pe_lst (pa_cons pe_int (pa_cons pe_int pa_nil))) pa_nil))) pa_nil)))))))
 (pss_cons (ps_set (i := 0) sc_law_standings_promises.nd rfl (Or.inl rfl) (pe_op op_cat (pv 0) (pe_lst (pa_cons (pe_tup (pa_cons (pe_lst (pa_cons pe_int (pa_cons pe_int (pa_cons pe_int pa_nil)))) (pa_cons (pe_lst (pa_cons pe_int (pa_cons pe_int (pa_cons pe_int pa_nil)))) pa_nil))) (pa_cons (pe_tup (pa_cons (pe_lst (pa_cons pe_int (pa_cons pe_int (pa_cons pe_int pa_nil)))) (pa_cons (pe_lst (pa_cons pe_int (pa_cons pe_int (pa_cons pe_int pa_nil)))) pa_nil))) (pa_cons (pe_tup (pa_cons (pe_lst (pa_cons pe_int (pa_cons pe_int (pa_cons pe_int pa_nil)))) (pa_cons (pe_lst (pa_cons pe_int (pa_cons pe_int (pa_cons pe_int pa_nil)))) pa_nil))) pa_nil))))))
 (pss_cons (ps_for PassesOwn.never rfl (pi_list (pv 0)) (pg_tup rfl (pgs_cons (pg_name (i := 1) sc_law_standings_promises.nd rfl (Or.inl rfl)) (pgs_cons (pg_name (i := 2) sc_law_standings_promises.nd rfl (Or.inr rfl)) pgs_nil)))
 (pss_one (ps_if (PW.pt (pw_or (pt_cmpR (r := rNeD K) (op_neD hr.units) (pe_call C_tree.ok (hr.mono (by decide)) (by rfl) C_tree.gl C_tree.kp C_tree.bd .nil passN (pa_cons (pv 1) pa_nil)) (pv 2) (nomark _)) (pw_or1 (pt_cmpR (r := rNeD K) (op_neD hr.units) (pe_call C_wishes_of.ok (hr.mono (by decide)) (by rfl) C_wishes_of.gl C_wishes_of.kp C_wishes_of.bd .nil passN (pa_cons (pv 2) pa_nil)) (pv 1) (nomark _)))))
 (pss_one (ps_ret pe_bl))
 pss_nil)))
 (pss_cons (ps_for PassesOwn.never rfl (pi_list (pe_lst (pa_cons (pe_lst (pa_cons pe_int pa_nil)) (pa_cons (pe_lst (pa_cons pe_int (pa_cons pe_int pa_nil))) (pa_cons (pe_lst (pa_cons pe_int pa_nil)) (pa_cons (pe_lst (pa_cons pe_int (pa_cons (pe_un un_neg pe_int) pa_nil))) (pa_cons (pe_lst (pa_cons pe_int (pa_cons pe_int (pa_cons pe_int pa_nil)))) (pa_cons (pe_lst (pa_cons pe_bl pa_nil)) pa_nil)))))))) (pg_name (i := 2) sc_law_standings_promises.nd rfl (Or.inr rfl))
 (pss_one (ps_if (pt_cmpR op_ne (LamX.pe_lamcall (T := T) (TT := TNo K) (k := 2) (t := fun E => tCall sp_wishes_of [] E _) (by rfl) NO.gl NO.kp NO.lk NO.ci NO.bd sc_law_no_of rfl (Or.inl rfl) (NO.gv _ _ rfl rfl rfl) LT.tb rfl LT.mem LT.uq (hr.mono (by decide)) (LamX.lamS_by (sc := defScope s_law_standings_promises) (by decide +kernel)) (by rfl) (fun _ _ _ _ _ => rfl) (fun A outer s H E f c' hr2 => (pe_call C_wishes_of.ok hr2 (by rfl) C_wishes_of.gl C_wishes_of.kp C_wishes_of.bd .nil passLN (pa_cons (pv 2) pa_nil)))) pe_str (nomark _))
 (pss_one (ps_ret pe_bl))
 pss_nil)))
 (pss_cons (ps_set (i := 0) sc_law_standings_promises.nd rfl (Or.inl rfl) (pe_lst (pa_cons (pe_tup (pa_cons (pe_lst pa_nil) (pa_cons pe_str (pa_cons pe_int pa_nil)))) (pa_cons (pe_tup (pa_cons (pe_lst (pa_cons pe_int (pa_cons pe_int pa_nil))) (pa_cons pe_str (pa_cons pe_int pa_nil)))) (pa_cons (pe_tup (pa_cons (pe_lst (pa_cons pe_int (pa_cons pe_int pa_nil))) (pa_cons pe_str (pa_cons pe_int pa_nil)))) (pa_cons (pe_tup (pa_cons (pe_lst (pa_cons pe_int (pa_cons pe_int pa_nil))) (pa_cons pe_str (pa_cons pe_int pa_nil)))) pa_nil))))))
 (pss_cons (ps_set (i := 0) sc_law_standings_promises.nd rfl (Or.inl rfl) (pe_op op_cat (pv 0) (pe_lst (pa_cons (pe_tup (pa_cons (pe_lst (pa_cons pe_int (pa_cons pe_int (pa_cons pe_int pa_nil)))) (pa_cons pe_str (pa_cons pe_int pa_nil)))) (pa_cons (pe_tup (pa_cons (pe_lst (pa_cons pe_int (pa_cons pe_int (pa_cons pe_int pa_nil)))) (pa_cons pe_str (pa_cons pe_int pa_nil)))) pa_nil)))))
 (pss_cons (ps_for PassesOwn.never rfl (pi_list (pv 0)) (pg_tup rfl (pgs_cons (pg_name (i := 1) sc_law_standings_promises.nd rfl (Or.inl rfl)) (pgs_cons (pg_name (i := 3) sc_law_standings_promises.nd rfl (Or.inr rfl)) (pgs_cons (pg_name (i := 4) sc_law_standings_promises.nd rfl (Or.inl rfl)) pgs_nil))))
 (pss_one (ps_if (PW.pt (pw_or (pt_cmpR op_ne (pe_call C_path.ok (hr.mono (by decide)) (by rfl) C_path.gl C_path.kp C_path.bd .nil passN (pa_cons (pv 1) pa_nil)) (pv 3) (nomark _)) (pw_or (pt_cmpR op_ne (pe_call C_beneath.ok (hr.mono (by decide)) (by rfl) C_beneath.gl C_beneath.kp C_beneath.bd .nil passN (pa_cons (pv 3) pa_nil)) (pv 4) (nomark _)) (pw_or (pt_cmpR op_ne (pe_call C_drives.ok (hr.mono (by decide)) (by rfl) C_drives.gl C_drives.kp C_drives.bd .nil passN (pa_cons (pv 1) pa_nil)) (pv 4) (nomark _)) (pw_or1 (pt_cmpR (r := rNeD K) (op_neD hr.units) (pe_call C_rising.ok (hr.mono (by decide)) (by rfl) C_rising.gl C_rising.kp C_rising.bd .nil passN (pa_cons (pv 3) pa_nil)) (pe_callB (id := "sorted") (r := rSortedI K) cr_sortedI (by rfl) B.sorted (by decide +kernel) (pa_cons (pv 1) pa_nil)) (nomark _)))))))
 (pss_one (ps_ret pe_bl))
 pss_nil)))
 (pss_cons (ps_for PassesOwn.never rfl (pi_list (pe_lst (pa_cons pe_str (pa_cons pe_str (pa_cons pe_str (pa_cons pe_str (pa_cons pe_str (pa_cons pe_non pa_nil)))))))) (pg_name (i := 3) sc_law_standings_promises.nd rfl (Or.inr rfl))
 (pss_cons (ps_if (pt_cmpR op_ne (LamX.pe_lamcall (T := T) (TT := TNo K) (k := 2) (t := fun E => tCall sp_beneath [] E _) (by rfl) NO.gl NO.kp NO.lk NO.ci NO.bd sc_law_no_of rfl (Or.inl rfl) (NO.gv _ _ rfl rfl rfl) LT.tb rfl LT.mem LT.uq (hr.mono (by decide)) (LamX.lamS_by (sc := defScope s_law_standings_promises) (by decide +kernel)) (by rfl) (fun _ _ _ _ _ => rfl) (fun A outer s H E f c' hr2 => (pe_call C_beneath.ok hr2 (by rfl) C_beneath.gl C_beneath.kp C_beneath.bd .nil passLN (pa_cons (pv 3) pa_nil)))) pe_str (nomark _))
 (pss_one (ps_ret pe_bl))
 pss_nil)
 (pss_one (ps_if (pt_cmpR op_ne (LamX.pe_lamcall (T := T) (TT := TNo K) (k := 2) (t := fun E => tCall sp_rising [] E _) (by rfl) NO.gl NO.kp NO.lk NO.ci NO.bd sc_law_no_of rfl (Or.inl rfl) (NO.gv _ _ rfl rfl rfl) LT.tb rfl LT.mem LT.uq (hr.mono (by decide)) (LamX.lamS_by (sc := defScope s_law_standings_promises) (by decide +kernel)) (by rfl) (fun _ _ _ _ _ => rfl) (fun A outer s H E f c' hr2 => (pe_call C_rising.ok hr2 (by rfl) C_rising.gl C_rising.kp C_rising.bd .nil passLN (pa_cons (pv 3) pa_nil)))) pe_str (nomark _))
 (pss_one (ps_ret pe_bl))
 pss_nil))))
 (pss_cons (ps_set (i := 0) sc_law_standings_promises.nd rfl (Or.inl rfl) (pe_lst (pa_cons (pe_tup (pa_cons (pe_lst pa_nil) (pa_cons (pe_lst pa_nil) (pa_cons pe_int pa_nil)))) (pa_cons (pe_tup (pa_cons (pe_lst (pa_cons pe_int pa_nil)) (pa_cons (pe_lst (pa_cons pe_int pa_nil)) (pa_cons pe_int pa_nil)))) (pa_cons (pe_tup (pa_cons (pe_lst (pa_cons pe_int (pa_cons pe_int pa_nil))) (pa_cons (pe_lst (pa_cons pe_int (pa_cons pe_int pa_nil))) (pa_cons pe_int pa_nil)))) (pa_cons (pe_tup (pa_cons (pe_lst (pa_cons pe_int (pa_cons pe_int pa_nil))) (pa_cons (pe_lst (pa_cons pe_int (pa_cons pe_int pa_nil))) (pa_cons pe_int pa_nil)))) pa_nil))))))
 (pss_cons (ps_set (i := 0) sc_law_standings_promises.nd rfl (Or.inl rfl) (pe_op op_cat (pv 0) (pe_lst (pa_cons (pe_tup (pa_cons (pe_lst (pa_cons pe_int (pa_cons pe_int (pa_cons pe_int pa_nil)))) (pa_cons (pe_lst (pa_cons pe_int (pa_cons pe_int (pa_cons pe_int pa_nil)))) (pa_cons pe_int pa_nil)))) (pa_cons (pe_tup (pa_cons (pe_lst (pa_cons pe_int (pa_cons pe_int (pa_cons pe_int pa_nil)))) (pa_cons (pe_lst (pa_cons pe_int (pa_cons pe_int (pa_cons pe_int pa_nil)))) (pa_cons pe_int pa_nil)))) (pa_cons (pe_tup (pa_cons (pe_lst (pa_cons pe_int (pa_cons pe_int (pa_cons pe_int pa_nil)))) (pa_cons (pe_lst (pa_cons pe_int (pa_cons pe_int (pa_cons pe_int pa_nil)))) (pa_cons pe_int pa_nil)))) pa_nil))))))
 (pss_cons (ps_for PassesOwn.never rfl (pi_list (pv 0)) (pg_tup rfl (pgs_cons (pg_name (i := 5) sc_law_standings_promises.nd rfl (Or.inr rfl)) (pgs_cons (pg_name (i := 6) sc_law_standings_promises.nd rfl (Or.inl rfl)) (pgs_cons (pg_name (i := 4) sc_law_standings_promises.nd rfl (Or.inl rfl)) pgs_nil))))
 (pss_one (ps_if (PW.pt (pw_or (pt_cmpR (r := rNeD K) (op_neD hr.units) (pe_call C_reaches.ok (hr.mono (by decide)) (by rfl) C_reaches.gl C_reaches.kp C_reaches.bd .nil passN (pa_cons (pv 5) pa_nil)) (pv 6) (nomark _)) (pw_or1 (pt_cmpR op_ne (pe_call C_how_many.ok (hr.mono (by decide)) (by rfl) C_how_many.gl C_how_many.kp C_how_many.bd .nil passN (pa_cons (pv 5) pa_nil)) (pv 4) (nomark _)))))
 (pss_one (ps_ret pe_bl))
 pss_nil)))
 (pss_cons (ps_if (PW.pt (pw_or (pt_cmpR (r := rNeD K) (op_neD hr.units) (pe_call C_from_steps.ok (hr.mono (by decide)) (by rfl) C_from_steps.gl C_from_steps.kp C_from_steps.bd .nil passN (pa_cons (pe_lst (pa_cons pe_int (pa_cons pe_int pa_nil))) (pa_cons (pe_lst (pa_cons pe_int (pa_cons pe_int pa_nil))) pa_nil))) (pe_lst (pa_cons pe_int (pa_cons pe_int pa_nil))) (nomark _)) (pw_or1 (pt_cmpR (r := rNeD K) (op_neD hr.units) (pe_call C_from_steps.ok (hr.mono (by decide)) (by rfl) C_from_steps.gl C_from_steps.kp C_from_steps.bd .nil passN (pa_cons (pe_lst (pa_cons pe_int (pa_cons pe_int pa_nil))) (pa_cons (pe_lst (pa_cons pe_int (pa_cons pe_int pa_nil))) pa_nil))) (pe_lst (pa_cons pe_int (pa_cons pe_int pa_nil))) (nomark _)))))
 (pss_one (ps_ret pe_bl))
 pss_nil)
 (pss_cons (ps_if (PW.pt (pw_or (pt_cmpR (r := rNeD K) (op_neD hr.units) (pe_call C_from_steps.ok (hr.mono (by decide)) (by rfl) C_from_steps.gl C_from_steps.kp C_from_steps.bd .nil passN (pa_cons (pe_lst (pa_cons pe_int (pa_cons pe_int pa_nil))) (pa_cons (pe_lst (pa_cons pe_int (pa_cons pe_int pa_nil))) pa_nil))) (pe_lst (pa_cons pe_int (pa_cons pe_int pa_nil))) (nomark _)) (pw_or1 (pt_cmpR (r := rNeD K) (op_neD hr.units) (pe_call C_from_steps.ok (hr.mono (by decide)) (by rfl) C_from_steps.gl C_from_steps.kp C_from_steps.bd .nil passN (pa_cons (pe_lst pa_nil) (pa_cons (pe_lst pa_nil) pa_nil))) (pe_lst pa_nil) (nomark _)))))
 (pss_one (ps_ret pe_bl))
 pss_nil)
 (pss_cons (ps_set (i := 0) sc_law_standings_promises.nd rfl (Or.inl rfl) (pe_lst (pa_cons (pe_tup (pa_cons (pe_lst (pa_cons pe_int (pa_cons pe_int pa_nil))) (pa_cons (pe_lst (pa_cons pe_int (pa_cons pe_int pa_nil))) pa_nil))) (pa_cons (pe_tup (pa_cons (pe_lst (pa_cons pe_int (pa_cons pe_int pa_nil))) (pa_cons (pe_lst (pa_cons pe_int (pa_cons (pe_un un_neg pe_int) pa_nil))) pa_nil))) (pa_cons (pe_tup (pa_cons (pe_lst (pa_cons pe_int (pa_cons pe_int pa_nil))) (pa_cons (pe_lst (pa_cons pe_int pa_nil)) pa_nil))) (pa_cons (pe_tup (pa_cons (pe_lst (pa_cons pe_int (pa_cons pe_int pa_nil))) (pa_cons (pe_lst (pa_cons pe_int (pa_cons pe_int pa_nil))) pa_nil))) (pa_cons (pe_tup (pa_cons (pe_lst (pa_cons pe_int (pa_cons pe_int pa_nil))) (pa_cons (pe_lst (pa_cons pe_int (pa_cons pe_int pa_nil))) pa_nil))) pa_nil)))))))
 (pss_cons (ps_set (i := 0) sc_law_standings_promises.nd rfl (Or.inl rfl) (pe_op op_cat (pv 0) (pe_lst (pa_cons (pe_tup (pa_cons (pe_lst (pa_cons pe_int (pa_cons pe_int pa_nil))) (pa_cons (pe_lst (pa_cons pe_int (pa_cons pe_int pa_nil))) pa_nil))) pa_nil))))
 (pss_cons (ps_for PassesOwn.never rfl (pi_list (pv 0)) (pg_tup rfl (pgs_cons (pg_name (i := 5) sc_law_standings_promises.nd rfl (Or.inr rfl)) (pgs_cons (pg_name (i := 7) sc_law_standings_promises.nd rfl (Or.inr rfl)) pgs_nil)))
 (pss_one (ps_if (pt_cmpR op_ne (LamX.pe_lamcall (T := T) (TT := TNo K) (k := 4) (t := fun E => tCall sp_from_steps [] E _) (by rfl) NO.gl NO.kp NO.lk NO.ci NO.bd sc_law_no_of rfl (Or.inl rfl) (NO.gv _ _ rfl rfl rfl) LT.tb rfl LT.mem LT.uq (hr.mono (by decide)) (LamX.lamS_by (sc := defScope s_law_standings_promises) (by decide +kernel)) (by rfl) (fun _ _ _ _ _ => rfl) (fun A outer s H E f c' hr2 => (pe_call C_from_steps.ok hr2 (by rfl) C_from_steps.gl C_from_steps.kp C_from_steps.bd .nil passLN (pa_cons (pv 5) (pa_cons (pv 7) pa_nil))))) pe_str (nomark _))
 (pss_one (ps_ret pe_bl))
 pss_nil)))
 (pss_one (ps_ret (pe_call0 C_law_standings_promises_more1.ok (hr.mono (by decide)) (by rfl) C_law_standings_promises_more1.gl C_law_standings_promises_more1.kp C_law_standings_promises_more1.bd .nil pass0)))))))))))))))))))⟩

def der_law_standings_promises_more1 {P : Program} {w : World} {K : PySem.W.Frag} {mg : Str → Option Value} {base : Heap} {fd_read : FuncData} {sp_read : Sp} (C_read : Cal P w K mg base (CXt P w) 3 "read" P_read sp_read fd_read) {fd_written : FuncData} {sp_written : Sp} (C_written : Cal P w K mg base (L2N.CX P w) 3 "written" P_written sp_written fd_written) {T : TabT} (NO : NoD K mg base s_law_no_of N_law_no_of) (LT : LamT K mg base T "_law_standings_promises_more1" s_law_standings_promises_more1) {A : Around} {outer : List Env} {s : Shared} {H : Hp} {E : XK}
    (hr : Room 5 (A.deeper (envOfC "_law_standings_promises_more1" (defScope s_law_standings_promises_more1) s.heap.objs.size (ga K "_law_standings_promises_more1") (.ref (codeOf K ("_law_standings_promises_more1", none)))))) :
    {t : TS // PSs (cxOf CX0 P w K mg base N_law_standings_promises_more1 "_law_standings_promises_more1" (defScope s_law_standings_promises_more1) (ga K "_law_standings_promises_more1") (.ref (codeOf K ("_law_standings_promises_more1", none))) A outer s H E).nox (defBody s_law_standings_promises_more1) t} := ⟨_, (pss_cons (ps_if (PW.pt (pw_or (pt_cmpR op_ne (pe_call C_written.ok (hr.mono (by decide)) (by rfl) C_written.gl C_written.kp C_written.bd .nil passN (pa_cons pe_int (pa_cons (pe_lst pa_nil) pa_nil))) pe_str (nomark _)) (pw_or (pt_cmpR (r := rNeD K) (op_neD hr.units) (pe_call C_read.ok (hr.mono (by decide)) (by rfl) C_read.gl C_read.kp C_read.bd .nil passT (pa_cons pe_str pa_nil)) (pe_tup (pa_cons pe_int (pa_cons (pe_lst pa_nil) pa_nil))) (nomark _)) (pw_or1 (pt_cmpR op_ne (pe_call C_written.ok (hr.mono (by decide)) (by rfl) C_written.gl C_written.kp C_written.bd .nil passN (pa_cons pe_int (pa_cons (pe_lst (pa_cons pe_int (pa_cons pe_int (pa_cons pe_int pa_nil)))) pa_nil))) pe_str (nomark _))))))
 (pss_one (ps_ret pe_bl))
 pss_nil)
 (pss_cons (ps_if (PW.pt (pw_or (pt_cmpR (r := rNeD K) (op_neD hr.units) (pe_call C_read.ok (hr.mono (by decide)) (by rfl) C_read.gl C_read.kp C_read.bd .nil passT (pa_cons pe_str pa_nil)) (pe_tup (pa_cons pe_int (pa_cons (pe_lst (pa_cons pe_int (pa_cons pe_int (pa_cons pe_int pa_nil)))) pa_nil))) (nomark _)) (pw_or1 (pt_cmpR (r := rNeD K) (op_neD hr.units) (pe_call C_read.ok (hr.mono (by decide)) (by rfl) C_read.gl C_read.kp C_read.bd .nil passT (pa_cons pe_str pa_nil)) (pe_tup (pa_cons pe_int (pa_cons (pe_lst (pa_cons pe_int pa_nil)) pa_nil))) (nomark _)))))
 (pss_one (ps_ret pe_bl))
 pss_nil)
 (pss_cons (ps_set (i := 0) sc_law_standings_promises_more1.nd rfl (Or.inl rfl) (pe_lst (pa_cons pe_str (pa_cons pe_str (pa_cons pe_str (pa_cons pe_str (pa_cons pe_str (pa_cons pe_str (pa_cons pe_str (pa_cons pe_str (pa_cons pe_str (pa_cons pe_str (pa_cons pe_str pa_nil)))))))))))))
 (pss_cons (ps_for PassesOwn.never rfl (pi_list (pe_op op_cat (pv 0) (pe_lst (pa_cons pe_str (pa_cons pe_str (pa_cons pe_str pa_nil)))))) (pg_name (i := 1) sc_law_standings_promises_more1.nd rfl (Or.inr rfl))
 (pss_one (ps_if (pt_cmpR op_ne (LamX.pe_lamcall (T := T) (TT := TNo K) (k := 3) (t := fun E => tCall sp_read [] E _) (by rfl) NO.gl NO.kp NO.lk NO.ci NO.bd sc_law_no_of rfl (Or.inl rfl) (NO.gv _ _ rfl rfl rfl) LT.tb rfl LT.mem LT.uq (hr.mono (by decide)) (LamX.lamS_by (sc := defScope s_law_standings_promises_more1) (by decide +kernel)) (by rfl) (fun _ _ _ _ _ => rfl) (fun A outer s H E f c' hr2 => (pe_call C_read.ok hr2 (by rfl) C_read.gl C_read.kp C_read.bd .nil passLT (pa_cons (pv 1) pa_nil)))) pe_str (nomark _))
 (pss_one (ps_ret pe_bl))
 pss_nil)))
 (pss_one (ps_ret pe_bl))))))⟩

def der_law_promises_right {P : Program} {w : World} {K : PySem.W.Frag} {mg : Str → Option Value} {base : Heap} (B : Bi mg) {fd_law_promises_right_more1 : FuncData} {sp_law_promises_right_more1 : Sp} (C_law_promises_right_more1 : Cal P w K mg base CX0 8 "_law_promises_right_more1" P_law_promises_right_more1 sp_law_promises_right_more1 fd_law_promises_right_more1) {fd_driven_off : FuncData} {sp_driven_off : Sp} (C_driven_off : Cal P w K mg base (L2N.CX P w) 3 "driven_off" P_driven_off sp_driven_off fd_driven_off) {fd_lucky : FuncData} {sp_lucky : Sp} (C_lucky : Cal P w K mg base (L2N.CX P w) 3 "lucky" P_lucky sp_lucky fd_lucky) {fd_parked : FuncData} {sp_parked : Sp} (C_parked : Cal P w K mg base (L2N.CX P w) 3 "parked" P_parked sp_parked fd_parked) {fd_ring : FuncData} {sp_ring : Sp} (C_ring : Cal P w K mg base (L2N.CX P w) 3 "ring" P_ring sp_ring fd_ring) {fd_taken : FuncData} {sp_taken : Sp} (C_taken : Cal P w K mg base (L2N.CX P w) 3 "taken" P_taken sp_taken fd_taken) {T : TabT} (NO : NoD K mg base s_law_no_of N_law_no_of) (LT : LamT K mg base T "_law_promises_right" s_law_promises_right) (G_Crowd : mg "Crowd" = some (.ref (ga K "Crowd"))) (G_Parked : mg "Parked" = some (.ref (ga K "Parked"))) {A : Around} {outer : List Env} {s : Shared} {H : Hp} {E : XK}
    (hr : Room 8 (A.deeper (envOfC "_law_promises_right" (defScope s_law_promises_right) s.heap.objs.size (ga K "_law_promises_right") (.ref (codeOf K ("_law_promises_right", none)))))) :
    {t : TS // PSs (cxOf CX0 P w K mg base N_law_promises_right "_law_promises_right" (defScope s_law_promises_right) (ga K "_law_promises_right") (.ref (codeOf K ("_law_promises_right", none))) A outer s H E).nox (defBody s_law_promises_right) t} := ⟨_, (pss_cons (ps_set (i := 0) sc_law_promises_right.nd rfl (Or.inl rfl) (pe_lst (pa_cons (pe_tup (pa_cons pe_int (pa_cons (pe_lst (pa_cons pe_int (pa_cons pe_int (pa_cons pe_int pa_nil)))) (pa_cons pe_int pa_nil)))) (pa_cons (pe_tup (pa_cons pe_int (pa_cons (pe_lst (pa_cons pe_int (pa_cons pe_int pa_nil))) (pa_cons pe_int pa_nil)))) (pa_cons (pe_tup (pa_cons pe_int (pa_cons (pe_lst (pa_cons pe_int (pa_cons pe_int pa_nil))) (pa_cons pe_int pa_nil)))) (pa_cons (pe_tup (pa_cons pe_int (pa_cons (pe_lst (pa_cons pe_int (pa_cons pe_int (pa_cons pe_int pa_nil)))) (pa_cons pe_int pa_nil)))) pa_nil))))))
 (pss_cons (ps_set (i := 0) sc_law_promises_right.nd rfl (Or.inl rfl) (pe_op op_cat (pv 0) (pe_lst (pa_cons (pe_tup (pa_cons pe_int (pa_cons (pe_lst (pa_cons pe_int (pa_cons pe_int (pa_cons pe_int pa_nil)))) (pa_cons pe_non pa_nil)))) pa_nil))))
 (pss_cons (ps_for PassesOwn.never rfl (pi_list (pv 0)) (pg_tup rfl (pgs_cons (pg_name (i := 1) sc_law_promises_right.nd rfl (Or.inl rfl)) (pgs_cons (pg_name (i := 2) sc_law_promises_right.nd rfl (Or.inl rfl)) (pgs_cons (pg_name (i := 3) sc_law_promises_right.nd rfl (Or.inl rfl)) pgs_nil))))
 (pss_cons (ps_set (i := 4) sc_law_promises_right.nd rfl (Or.inr rfl) (pe_call C_parked.ok (hr.mono (by decide)) (by rfl) C_parked.gl C_parked.kp C_parked.bd .nil passN (pa_cons (pv 1) (pa_cons (pv 2) pa_nil))))
 (pss_cons (ps_if (PW.pt (pw_or (pt_not (pt_val (pe_callB (id := "isinstance") (r := rIsI K) call_isI (by rfl) B.isinstance (by decide +kernel) (pa_cons (pv 4) (pa_cons (pe_glob (v := .ref (ga K "Crowd")) rfl G_Crowd rfl) pa_nil))))) (pw_or1 (PW.pt (pw_and (pt_cmpR op_notN (pv 3) pe_non (nomark _)) (pw_and1 (pt_cmpR op_ne (pe_fld (pv 4) rfl) (pv 3) (nomark _))))))))
 (pss_one (ps_ret pe_bl))
 pss_nil)
 (pss_one (ps_if (pt_cmpR op_le (pe_callB (id := "len") (r := rLenS K) call_len_seq (by rfl) B.len (by decide +kernel) (pa_cons (pe_lc (own := [("wish", 6)]) (g := (gName 6)) rfl sc_law_promises_right.nd (pi_list (pv 2)) (blkOk_by (own := [("wish", 6)]) (N := N_law_promises_right) (sc := defScope s_law_promises_right) (by decide +kernel)) (fun _ _ _ _ _ => (pg_name (i := 6) sc_law_promises_right.nd rfl (Or.inl rfl) (Or.inr rfl))) (fun _ _ _ _ _ => (pts_one (pt_cmpR op_ge (pv 6) (pe_fldK (K := K) rfl (pv 4) (by rfl)) (nomark _)))) (fun _ _ _ _ _ => (pv 6))) pa_nil)) (pe_op op_sub (pv 1) (pe_fld (pv 4) rfl)) (nomark _))
 (pss_one (ps_ret pe_bl))
 pss_nil)))))
 (pss_cons (ps_set (i := 0) sc_law_promises_right.nd rfl (Or.inl rfl) (pe_lst (pa_cons (pe_tup (pa_cons pe_int (pa_cons (pe_lst pa_nil) (pa_cons (pe_lst pa_nil) pa_nil)))) (pa_cons (pe_tup (pa_cons pe_int (pa_cons (pe_lst (pa_cons pe_int pa_nil)) (pa_cons (pe_lst (pa_cons pe_int pa_nil)) pa_nil)))) (pa_cons (pe_tup (pa_cons pe_int (pa_cons (pe_lst (pa_cons pe_int (pa_cons pe_int (pa_cons pe_int pa_nil)))) (pa_cons (pe_lst (pa_cons pe_int (pa_cons pe_int (pa_cons pe_int pa_nil)))) pa_nil)))) (pa_cons (pe_tup (pa_cons pe_int (pa_cons (pe_lst (pa_cons pe_int (pa_cons pe_int pa_nil))) (pa_cons (pe_lst (pa_cons pe_int (pa_cons pe_int pa_nil))) pa_nil)))) pa_nil))))))
 (pss_cons (ps_set (i := 0) sc_law_promises_right.nd rfl (Or.inl rfl) (pe_op op_cat (pv 0) (pe_lst (pa_cons (pe_tup (pa_cons pe_int (pa_cons (pe_lst (pa_cons pe_int (pa_cons pe_int (pa_cons pe_int (pa_cons pe_int pa_nil))))) (pa_cons (pe_lst (pa_cons pe_int (pa_cons pe_int (pa_cons pe_int (pa_cons pe_int pa_nil))))) pa_nil)))) (pa_cons (pe_tup (pa_cons pe_int (pa_cons (pe_lst (pa_cons pe_int pa_nil)) (pa_cons (pe_lst (pa_cons pe_int pa_nil)) pa_nil)))) pa_nil)))))
 (pss_cons (ps_for PassesOwn.never rfl (pi_list (pv 0)) (pg_tup rfl (pgs_cons (pg_name (i := 1) sc_law_promises_right.nd rfl (Or.inl rfl)) (pgs_cons (pg_name (i := 2) sc_law_promises_right.nd rfl (Or.inl rfl)) (pgs_cons (pg_name (i := 5) sc_law_promises_right.nd rfl (Or.inl rfl)) pgs_nil))))
 (pss_cons (ps_set (i := 4) sc_law_promises_right.nd rfl (Or.inr rfl) (pe_call C_parked.ok (hr.mono (by decide)) (by rfl) C_parked.gl C_parked.kp C_parked.bd .nil passN (pa_cons (pv 1) (pa_cons (pv 2) pa_nil))))
 (pss_cons (ps_if (PW.pt (pw_or (pt_not (pt_val (pe_callB (id := "isinstance") (r := rIsI K) call_isI (by rfl) B.isinstance (by decide +kernel) (pa_cons (pv 4) (pa_cons (pe_glob (v := .ref (ga K "Parked")) rfl G_Parked rfl) pa_nil))))) (pw_or (pt_cmpR (r := rNeD K) (op_neD hr.units) (pe_fld (pv 4) rfl) (pv 5) (nomark _)) (pw_or1 (pt_cmpR (r := rNeD K) (op_neD hr.units) (pe_call C_taken.ok (hr.mono (by decide)) (by rfl) C_taken.gl C_taken.kp C_taken.bd .nil passN (pa_cons (pv 1) (pa_cons (pv 2) pa_nil))) (pe_callB (id := "sorted") (r := rSortedI K) cr_sortedI (by rfl) B.sorted (by decide +kernel) (pa_cons (pv 5) pa_nil)) (nomark _))))))
 (pss_one (ps_ret pe_bl))
 pss_nil)
 (pss_one (ps_if (pt_cmpR (r := rNeD K) (op_neD hr.units) (pe_call C_driven_off.ok (hr.mono (by decide)) (by rfl) C_driven_off.gl C_driven_off.kp C_driven_off.bd .nil passN (pa_cons (pv 1) (pa_cons (pv 2) pa_nil))) (pe_lst pa_nil) (nomark _))
 (pss_one (ps_ret pe_bl))
 pss_nil)))))
 (pss_cons (ps_if (PW.pt (pw_or (pt_cmpR (r := rNeD K) (op_neD hr.units) (pe_call C_taken.ok (hr.mono (by decide)) (by rfl) C_taken.gl C_taken.kp C_taken.bd .nil passN (pa_cons pe_int (pa_cons (pe_lst (pa_cons pe_int (pa_cons pe_int pa_nil))) pa_nil))) (pe_lst (pa_cons pe_int (pa_cons pe_int pa_nil))) (nomark _)) (pw_or (pt_cmpR (r := rNeD K) (op_neD hr.units) (pe_call C_driven_off.ok (hr.mono (by decide)) (by rfl) C_driven_off.gl C_driven_off.kp C_driven_off.bd .nil passN (pa_cons pe_int (pa_cons (pe_lst (pa_cons pe_int (pa_cons pe_int (pa_cons pe_int pa_nil)))) pa_nil))) (pe_lst (pa_cons pe_int pa_nil)) (nomark _)) (pw_or1 (pt_cmpR (r := rNeD K) (op_neD hr.units) (pe_call C_lucky.ok (hr.mono (by decide)) (by rfl) C_lucky.gl C_lucky.kp C_lucky.bd .nil passN (pa_cons pe_int (pa_cons (pe_lst (pa_cons pe_int (pa_cons pe_int (pa_cons pe_int pa_nil)))) pa_nil))) (pe_lst (pa_cons pe_int (pa_cons pe_int pa_nil))) (nomark _))))))
 (pss_one (ps_ret pe_bl))
 pss_nil)
 (pss_cons (ps_if (PW.pt (pw_or (pt_cmpR (r := rNeD K) (op_neD hr.units) (pe_call C_lucky.ok (hr.mono (by decide)) (by rfl) C_lucky.gl C_lucky.kp C_lucky.bd .nil passN (pa_cons pe_int (pa_cons (pe_lst (pa_cons pe_int (pa_cons pe_int (pa_cons pe_int pa_nil)))) pa_nil))) (pe_lst (pa_cons pe_int pa_nil)) (nomark _)) (pw_or (pt_cmpR (r := rNeD K) (op_neD hr.units) (pe_call C_taken.ok (hr.mono (by decide)) (by rfl) C_taken.gl C_taken.kp C_taken.bd .nil passN (pa_cons pe_int (pa_cons (pe_lst (pa_cons pe_int (pa_cons pe_int (pa_cons pe_int pa_nil)))) pa_nil))) (pe_lst (pa_cons pe_int (pa_cons pe_int pa_nil))) (nomark _)) (pw_or1 (pt_cmpR (r := rNeD K) (op_neD hr.units) (pe_call C_lucky.ok (hr.mono (by decide)) (by rfl) C_lucky.gl C_lucky.kp C_lucky.bd .nil passN (pa_cons pe_int (pa_cons (pe_lst pa_nil) pa_nil))) (pe_lst pa_nil) (nomark _))))))
 (pss_one (ps_ret pe_bl))
 pss_nil)
 (pss_cons (ps_if (PW.pt (pw_or (pt_cmpR (r := rNeD K) (op_neD hr.units) (pe_call C_taken.ok (hr.mono (by decide)) (by rfl) C_taken.gl C_taken.kp C_taken.bd .nil passN (pa_cons pe_int (pa_cons (pe_lst (pa_cons pe_int (pa_cons pe_int (pa_cons pe_int pa_nil)))) pa_nil))) (pe_lst (pa_cons pe_int (pa_cons pe_int pa_nil))) (nomark _)) (pw_or (pt_cmpR (r := rNeD K) (op_neD hr.units) (pe_call C_driven_off.ok (hr.mono (by decide)) (by rfl) C_driven_off.gl C_driven_off.kp C_driven_off.bd .nil passN (pa_cons pe_int (pa_cons (pe_lst (pa_cons pe_int (pa_cons pe_int (pa_cons pe_int pa_nil)))) pa_nil))) (pe_lst (pa_cons pe_int pa_nil)) (nomark _)) (pw_or1 (pt_cmpR (r := rNeD K) (op_neD hr.units) (pe_call C_driven_off.ok (hr.mono (by decide)) (by rfl) C_driven_off.gl C_driven_off.kp C_driven_off.bd .nil passN (pa_cons pe_int (pa_cons (pe_lst (pa_cons pe_int (pa_cons pe_int (pa_cons pe_int pa_nil)))) pa_nil))) (pe_lst (pa_cons pe_int (pa_cons pe_int pa_nil))) (nomark _))))))
 (pss_one (ps_ret pe_bl))
 pss_nil)
 (pss_cons (ps_if (pt_cmpR (r := rNeD K) (op_neD hr.units) (pe_call C_taken.ok (hr.mono (by decide)) (by rfl) C_taken.gl C_taken.kp C_taken.bd .nil passN (pa_cons pe_int (pa_cons (pe_lst (pa_cons pe_int (pa_cons pe_int (pa_cons pe_int pa_nil)))) pa_nil))) (pe_lst (pa_cons pe_int pa_nil)) (nomark _))
 (pss_one (ps_ret pe_bl))
 pss_nil)
 (pss_cons (ps_if (PW.pt (pw_or (pt_cmpR (r := rNeD K) (op_neD hr.units) (pe_call C_ring.ok (hr.mono (by decide)) (by rfl) C_ring.gl C_ring.kp C_ring.bd .nil passN (pa_cons pe_int (pa_cons (pe_lst (pa_cons pe_int (pa_cons pe_int pa_nil))) pa_nil))) (pe_lst (pa_cons pe_int (pa_cons pe_int pa_nil))) (nomark _)) (pw_or (pt_cmpR (r := rNeD K) (op_neD hr.units) (pe_call C_ring.ok (hr.mono (by decide)) (by rfl) C_ring.gl C_ring.kp C_ring.bd .nil passN (pa_cons pe_int (pa_cons (pe_lst (pa_cons pe_int (pa_cons pe_int (pa_cons pe_int pa_nil)))) pa_nil))) (pe_lst (pa_cons pe_int (pa_cons pe_int (pa_cons pe_int pa_nil)))) (nomark _)) (pw_or (pt_cmpR (r := rNeD K) (op_neD hr.units) (pe_call C_ring.ok (hr.mono (by decide)) (by rfl) C_ring.gl C_ring.kp C_ring.bd .nil passN (pa_cons pe_int (pa_cons (pe_lst (pa_cons pe_int pa_nil)) pa_nil))) (pe_lst (pa_cons pe_int pa_nil)) (nomark _)) (pw_or1 (pt_cmpR (r := rNeD K) (op_neD hr.units) (pe_call C_ring.ok (hr.mono (by decide)) (by rfl) C_ring.gl C_ring.kp C_ring.bd .nil passN (pa_cons pe_int (pa_cons (pe_lst pa_nil) pa_nil))) (pe_lst pa_nil) (nomark _)))))))
 (pss_one (ps_ret pe_bl))
 pss_nil)
 (pss_cons (ps_if (pt_cmpR op_ne (LamX.pe_lamcall (T := T) (TT := TNo K) (k := 3) (t := fun E => tCall sp_ring [] E _) (by rfl) NO.gl NO.kp NO.lk NO.ci NO.bd sc_law_no_of rfl (Or.inl rfl) (NO.gv _ _ rfl rfl rfl) LT.tb rfl LT.mem LT.uq (hr.mono (by decide)) (LamX.lamS_by (sc := defScope s_law_promises_right) (by decide +kernel)) (by rfl) (fun _ _ _ _ _ => rfl) (fun A outer s H E f c' hr2 => (pe_call C_ring.ok hr2 (by rfl) C_ring.gl C_ring.kp C_ring.bd .nil passLN (pa_cons pe_int (pa_cons (pe_lst (pa_cons pe_int (pa_cons pe_int pa_nil))) pa_nil))))) pe_str (nomark _))
 (pss_one (ps_ret pe_bl))
 pss_nil)
 (pss_one (ps_ret (pe_call0 C_law_promises_right_more1.ok (hr.mono (by decide)) (by rfl) C_law_promises_right_more1.gl C_law_promises_right_more1.kp C_law_promises_right_more1.bd .nil pass0)))))))))))))))⟩

def der_law_promises_right_more1 {P : Program} {w : World} {K : PySem.W.Frag} {mg : Str → Option Value} {base : Heap} {fd_law_standings_promises : FuncData} {sp_law_standings_promises : Sp} (C_law_standings_promises : Cal P w K mg base CX0 7 "_law_standings_promises" P_law_standings_promises sp_law_standings_promises fd_law_standings_promises) {fd_drives : FuncData} {sp_drives : Sp} (C_drives : Cal P w K mg base (L2N.CX P w) 4 "drives" P_drives sp_drives fd_drives) {fd_path : FuncData} {sp_path : Sp} (C_path : Cal P w K mg base (L2N.CX P w) 4 "path" P_path sp_path fd_path) {fd_ring : FuncData} {sp_ring : Sp} (C_ring : Cal P w K mg base (L2N.CX P w) 3 "ring" P_ring sp_ring fd_ring) {fd_tree : FuncData} {sp_tree : Sp} (C_tree : Cal P w K mg base (L2N.CX P w) 4 "tree" P_tree sp_tree fd_tree) {fd_turned : FuncData} {sp_turned : Sp} (C_turned : Cal P w K mg base (L2N.CX P w) 3 "turned" P_turned sp_turned fd_turned) {fd_turning : FuncData} {sp_turning : Sp} (C_turning : Cal P w K mg base (L2N.CX P w) 4 "turning" P_turning sp_turning fd_turning) {T : TabT} (NO : NoD K mg base s_law_no_of N_law_no_of) (LT : LamT K mg base T "_law_promises_right_more1" s_law_promises_right_more1) {fdm_Crowd : FuncData} {spm_Crowd : Sp} (M_Crowd : MkF P w K mg base "Crowd" 1 P_Crowd_init spm_Crowd fdm_Crowd) {fdm_Parked : FuncData} {spm_Parked : Sp} (M_Parked : MkF P w K mg base "Parked" 1 P_Parked_init spm_Parked fdm_Parked) {A : Around} {outer : List Env} {s : Shared} {H : Hp} {E : XK}
    (hr : Room 7 (A.deeper (envOfC "_law_promises_right_more1" (defScope s_law_promises_right_more1) s.heap.objs.size (ga K "_law_promises_right_more1") (.ref (codeOf K ("_law_promises_right_more1", none)))))) :
    {t : TS // PSs (cxOf CX0 P w K mg base N_law_promises_right_more1 "_law_promises_right_more1" (defScope s_law_promises_right_more1) (ga K "_law_promises_right_more1") (.ref (codeOf K ("_law_promises_right_more1", none))) A outer s H E).nox (defBody s_law_promises_right_more1) t} := ⟨_, (pss_cons (ps_if (pt_cmpR op_ne (LamX.pe_lamcall (T := T) (TT := TNo K) (k := 3) (t := fun E => tCall sp_ring [] E _) (by rfl) NO.gl NO.kp NO.lk NO.ci NO.bd sc_law_no_of rfl (Or.inl rfl) (NO.gv _ _ rfl rfl rfl) LT.tb rfl LT.mem LT.uq (hr.mono (by decide)) (LamX.lamS_by (sc := defScope s_law_promises_right_more1) (by decide +kernel)) (by rfl) (fun _ _ _ _ _ => rfl) (fun A outer s H E f c' hr2 => (pe_call C_ring.ok hr2 (by rfl) C_ring.gl C_ring.kp C_ring.bd .nil passLN (pa_cons pe_int (pa_cons (pe_lst (pa_cons pe_int (pa_cons pe_int pa_nil))) pa_nil))))) pe_str (nomark _))
 (pss_one (ps_ret pe_bl))
 pss_nil)
 (pss_cons (ps_for PassesOwn.never rfl (pi_list (pe_lst (pa_cons (pe_tup (pa_cons (pe_lst (pa_cons pe_int (pa_cons pe_int pa_nil))) (pa_cons pe_int pa_nil))) (pa_cons (pe_tup (pa_cons (pe_lst (pa_cons pe_int (pa_cons pe_int pa_nil))) (pa_cons pe_int pa_nil))) (pa_cons (pe_tup (pa_cons (pe_lst pa_nil) (pa_cons pe_int pa_nil))) (pa_cons (pe_tup (pa_cons (pe_lst (pa_cons pe_int (pa_cons pe_int pa_nil))) (pa_cons pe_int pa_nil))) (pa_cons (pe_tup (pa_cons (pe_lst (pa_cons pe_int pa_nil)) (pa_cons pe_int pa_nil))) (pa_cons (pe_tup (pa_cons (pe_lst (pa_cons pe_int pa_nil)) (pa_cons pe_int pa_nil))) (pa_cons (pe_tup (pa_cons (pe_lst (pa_cons pe_int (pa_cons pe_int (pa_cons pe_int pa_nil)))) (pa_cons pe_int pa_nil))) pa_nil))))))))) (pg_tup rfl (pgs_cons (pg_name (i := 0) sc_law_promises_right_more1.nd rfl (Or.inl rfl)) (pgs_cons (pg_name (i := 1) sc_law_promises_right_more1.nd rfl (Or.inl rfl)) pgs_nil)))
 (pss_one (ps_if (PW.pt (pw_or (pt_cmpR op_ne (pe_call C_turning.ok (hr.mono (by decide)) (by rfl) C_turning.gl C_turning.kp C_turning.bd .nil passN (pa_cons (pv 0) pa_nil)) (pv 1) (nomark _)) (pw_or1 (pt_cmpR op_lt (pe_call C_drives.ok (hr.mono (by decide)) (by rfl) C_drives.gl C_drives.kp C_drives.bd .nil passN (pa_cons (pe_call C_turned.ok (hr.mono (by decide)) (by rfl) C_turned.gl C_turned.kp C_turned.bd .nil passN (pa_cons (pv 0) (pa_cons (pv 1) pa_nil))) pa_nil)) pe_int (nomark _)))))
 (pss_one (ps_ret pe_bl))
 pss_nil)))
 (pss_cons (ps_if (PW.pt (pw_or (pt_cmpR (r := rNeD K) (op_neD hr.units) (pe_call C_turned.ok (hr.mono (by decide)) (by rfl) C_turned.gl C_turned.kp C_turned.bd .nil passN (pa_cons (pe_lst (pa_cons pe_int (pa_cons pe_int pa_nil))) (pa_cons pe_int pa_nil))) (pe_lst (pa_cons pe_int (pa_cons pe_int pa_nil))) (nomark _)) (pw_or (pt_cmpR (r := rNeD K) (op_neD hr.units) (pe_call C_turned.ok (hr.mono (by decide)) (by rfl) C_turned.gl C_turned.kp C_turned.bd .nil passN (pa_cons (pe_lst (pa_cons pe_int (pa_cons pe_int pa_nil))) (pa_cons (pe_un un_neg pe_int) pa_nil))) (pe_lst (pa_cons pe_int (pa_cons pe_int pa_nil))) (nomark _)) (pw_or1 (pt_cmpR (r := rNeD K) (op_neD hr.units) (pe_call C_turned.ok (hr.mono (by decide)) (by rfl) C_turned.gl C_turned.kp C_turned.bd .nil passN (pa_cons (pe_lst (pa_cons pe_int (pa_cons pe_int pa_nil))) (pa_cons pe_int pa_nil))) (pe_lst (pa_cons pe_int (pa_cons pe_int pa_nil))) (nomark _))))))
 (pss_one (ps_ret pe_bl))
 pss_nil)
 (pss_cons (ps_if (PW.pt (pw_or (pt_cmpR (r := rNeD K) (op_neD hr.units) (pe_call C_turned.ok (hr.mono (by decide)) (by rfl) C_turned.gl C_turned.kp C_turned.bd .nil passN (pa_cons (pe_lst (pa_cons pe_int (pa_cons pe_int pa_nil))) (pa_cons (pe_op op_pow pe_int pe_int) pa_nil))) (pe_lst (pa_cons pe_int (pa_cons pe_int pa_nil))) (nomark _)) (pw_or1 (pt_cmpR (r := rNeD K) (op_neD hr.units) (pe_call C_turned.ok (hr.mono (by decide)) (by rfl) C_turned.gl C_turned.kp C_turned.bd .nil passN (pa_cons (pe_lst pa_nil) (pa_cons pe_int pa_nil))) (pe_lst pa_nil) (nomark _)))))
 (pss_one (ps_ret pe_bl))
 pss_nil)
 (pss_cons (ps_if (pt_cmpR op_ne (LamX.pe_lamcall (T := T) (TT := TNo K) (k := 4) (t := fun E => tCall sp_drives [] E _) (by rfl) NO.gl NO.kp NO.lk NO.ci NO.bd sc_law_no_of rfl (Or.inl rfl) (NO.gv _ _ rfl rfl rfl) LT.tb rfl LT.mem LT.uq (hr.mono (by decide)) (LamX.lamS_by (sc := defScope s_law_promises_right_more1) (by decide +kernel)) (by rfl) (fun _ _ _ _ _ => rfl) (fun A outer s H E f c' hr2 => (pe_call C_drives.ok hr2 (by rfl) C_drives.gl C_drives.kp C_drives.bd .nil passLN (pa_cons (pe_lst (pa_cons pe_int (pa_cons pe_int pa_nil))) pa_nil)))) pe_str (nomark _))
 (pss_one (ps_ret pe_bl))
 pss_nil)
 (pss_cons (ps_if (pt_cmpR op_ne (LamX.pe_lamcall (T := T) (TT := TNo K) (k := 4) (t := fun E => tCall sp_drives [] E _) (by rfl) NO.gl NO.kp NO.lk NO.ci NO.bd sc_law_no_of rfl (Or.inl rfl) (NO.gv _ _ rfl rfl rfl) LT.tb rfl LT.mem LT.uq (hr.mono (by decide)) (LamX.lamS_by (sc := defScope s_law_promises_right_more1) (by decide +kernel)) (by rfl) (fun _ _ _ _ _ => rfl) (fun A outer s H E f c' hr2 => (pe_call C_drives.ok hr2 (by rfl) C_drives.gl C_drives.kp C_drives.bd .nil passLN (pa_cons (pe_lst (pa_cons pe_int (pa_cons pe_int pa_nil))) pa_nil)))) pe_str (nomark _))
 (pss_one (ps_ret pe_bl))
 pss_nil)
 (pss_cons (ps_if (pt_cmpR op_ne (LamX.pe_lamcall (T := T) (TT := TNo K) (k := 4) (t := fun E => tCall sp_tree [] E _) (by rfl) NO.gl NO.kp NO.lk NO.ci NO.bd sc_law_no_of rfl (Or.inl rfl) (NO.gv _ _ rfl rfl rfl) LT.tb rfl LT.mem LT.uq (hr.mono (by decide)) (LamX.lamS_by (sc := defScope s_law_promises_right_more1) (by decide +kernel)) (by rfl) (fun _ _ _ _ _ => rfl) (fun A outer s H E f c' hr2 => (pe_call C_tree.ok hr2 (by rfl) C_tree.gl C_tree.kp C_tree.bd .nil passLN (pa_cons (pe_lst (pa_cons pe_int (pa_cons pe_int pa_nil))) pa_nil)))) pe_str (nomark _))
 (pss_one (ps_ret pe_bl))
 pss_nil)
 (pss_cons (ps_if (pt_cmpR op_ne (LamX.pe_lamcall (T := T) (TT := TNo K) (k := 4) (t := fun E => tCall sp_path [] E _) (by rfl) NO.gl NO.kp NO.lk NO.ci NO.bd sc_law_no_of rfl (Or.inl rfl) (NO.gv _ _ rfl rfl rfl) LT.tb rfl LT.mem LT.uq (hr.mono (by decide)) (LamX.lamS_by (sc := defScope s_law_promises_right_more1) (by decide +kernel)) (by rfl) (fun _ _ _ _ _ => rfl) (fun A outer s H E f c' hr2 => (pe_call C_path.ok hr2 (by rfl) C_path.gl C_path.kp C_path.bd .nil passLN (pa_cons (pe_lst (pa_cons pe_int (pa_cons pe_int pa_nil))) pa_nil)))) pe_str (nomark _))
 (pss_one (ps_ret pe_bl))
 pss_nil)
 (pss_one (ps_ret (pe_and (pe_cmpR (r := rEqD K) (op_eqD hr.units) (pe_fld (pe_make M_Parked.mk M_Parked.ok (hr.mono (by decide)) (by rfl) M_Parked.gl M_Parked.bd .nil pass0 (pa_cons (pe_lst (pa_cons pe_int (pa_cons (pe_un un_neg pe_int) pa_nil))) pa_nil)) rfl) (pe_lst (pa_cons pe_int (pa_cons (pe_un un_neg pe_int) pa_nil))) (nomark _)) (pe_and (pe_cmpR op_eq (pe_fld (pe_make M_Crowd.mk M_Crowd.ok (hr.mono (by decide)) (by rfl) M_Crowd.gl M_Crowd.bd .nil pass0 (pa_cons (pe_un un_neg pe_int) pa_nil)) rfl) (pe_un un_neg pe_int) (nomark _)) (pe_one (pe_call0 C_law_standings_promises.ok (hr.mono (by decide)) (by rfl) C_law_standings_promises.gl C_law_standings_promises.kp C_law_standings_promises.bd .nil pass0))))))))))))))⟩

def der_law {P : Program} {w : World} {K : PySem.W.Frag} {mg : Str → Option Value} {base : Heap} (B : Bi mg) {fd_law_full : FuncData} {sp_law_full : Sp} (C_law_full : Cal P w K mg base CX0 1 "_law_full" P_law_full sp_law_full fd_law_full) {fd_law_numbers : FuncData} {sp_law_numbers : Sp} (C_law_numbers : Cal P w K mg base CX0 1 "_law_numbers" P_law_numbers sp_law_numbers fd_law_numbers) {fd_law_parents : FuncData} {sp_law_parents : Sp} (C_law_parents : Cal P w K mg base CX0 1 "_law_parents" P_law_parents sp_law_parents fd_law_parents) {fd_law_promises_right : FuncData} {sp_law_promises_right : Sp} (C_law_promises_right : Cal P w K mg base CX0 9 "_law_promises_right" P_law_promises_right sp_law_promises_right fd_law_promises_right) {fd_tree : FuncData} {sp_tree : Sp} (C_tree : Cal P w K mg base (L2N.CX P w) 4 "tree" P_tree sp_tree fd_tree) {fd_wishes_of : FuncData} {sp_wishes_of : Sp} (C_wishes_of : Cal P w K mg base (L2N.CX P w) 2 "wishes_of" P_wishes_of sp_wishes_of fd_wishes_of) {f : Addr} {cdv : Value} {A : Around} {outer : List Env} {s : Shared} {H : Hp} {E : XK}
    (hr : Room 9 (A.deeper (envOfC "law" (defScope s_law) s.heap.objs.size f cdv))) :
    {t : TS // PSs (cxOf CX0 P w K mg base N_law "law" (defScope s_law) f cdv A outer s H E).nox (defBody s_law) t} := ⟨_, (pss_cons (ps_if (pt_not (pt_val (pe_call0 C_law_promises_right.ok (hr.mono (by decide)) (by rfl) C_law_promises_right.gl C_law_promises_right.kp C_law_promises_right.bd .nil pass0)))
 (pss_one (ps_ret pe_bl))
 pss_nil)
 (pss_cons (ps_set (i := 1) sc_law.nd rfl (Or.inl rfl) (pe_call C_law_full.ok (hr.mono (by decide)) (by rfl) C_law_full.gl C_law_full.kp C_law_full.bd .nil pass0 (pa_cons (pv 0) pa_nil)))
 (pss_cons (ps_set (i := 2) sc_law.nd rfl (Or.inl rfl) (pe_callTy (T := "list") (r := rListS K) call_list_of (by rfl) B.list (by decide +kernel) (pa_cons (pv 1) pa_nil)))
 (pss_cons (ps_set (i := 3) sc_law.nd rfl (Or.inl rfl) (pe_call C_law_parents.ok (hr.mono (by decide)) (by rfl) C_law_parents.gl C_law_parents.kp C_law_parents.bd .nil pass0 (pa_cons (pv 1) pa_nil)))
 (pss_cons (ps_for PassesOwn.never rfl (pi_range1 (by rfl) B.range (pa_cons pe_int pa_nil)) (pg_name (i := 4) sc_law.nd rfl (Or.inl rfl))
 (pss_cons (ps_set (i := 5) sc_law.nd rfl (Or.inl rfl) (pe_call C_tree.ok (hr.mono (by decide)) (by rfl) C_tree.gl C_tree.kp C_tree.bd .nil passN (pa_cons (pv 2) pa_nil)))
 (pss_cons (ps_if (PW.pt (pw_or (pt_not (pt_val (pe_call C_law_numbers.ok (hr.mono (by decide)) (by rfl) C_law_numbers.gl C_law_numbers.kp C_law_numbers.bd .nil pass0 (pa_cons (pv 5) pa_nil)))) (pw_or (pt_cmpR (r := rNeD K) (op_neD hr.units) (pv 5) (pv 3) (nomark _)) (pw_or1 (pt_cmpR (r := rNeD K) (op_neD hr.units) (pv 2) (pv 1) (nomark _))))))
 (pss_one (ps_ret pe_bl))
 pss_nil)
 (pss_cons (ps_set (i := 6) sc_law.nd rfl (Or.inl rfl) (pe_call C_wishes_of.ok (hr.mono (by decide)) (by rfl) C_wishes_of.gl C_wishes_of.kp C_wishes_of.bd .nil passN (pa_cons (pv 5) pa_nil)))
 (pss_cons (ps_if (PW.pt (pw_or (pt_not (pt_val (pe_call C_law_numbers.ok (hr.mono (by decide)) (by rfl) C_law_numbers.gl C_law_numbers.kp C_law_numbers.bd .nil pass0 (pa_cons (pv 6) pa_nil)))) (pw_or (pt_cmpR (r := rNeD K) (op_neD hr.units) (pv 6) (pv 1) (nomark _)) (pw_or1 (pt_cmpR (r := rNeD K) (op_neD hr.units) (pv 5) (pv 3) (nomark _))))))
 (pss_one (ps_ret pe_bl))
 pss_nil)
 (pss_cons (ps_expr (pe_bm PySem.F.plainAttrs_list PySem.F.slot_list_append PySem.F.type_list_append mt_append (pv 6) (pa_cons pe_int pa_nil)))
 (pss_one (ps_expr (pe_bm PySem.F.plainAttrs_list PySem.F.slot_list_append PySem.F.type_list_append mt_append (pv 5) (pa_cons pe_int pa_nil))))))))))
 (pss_one (ps_ret pe_bl)))))))⟩

end Pk
namespace Pk
open PySem PySem.Spec PyProof.Rows L2 Evl He
abbrev FnP (K : PySem.W.Frag) (x : Str) (st : Stmt) (fd : FuncData) : Prop := FunD K x x (defArgs st) (defBody st) (defScope st) [] [] (ga K x) fd
/-- a def that lets nothing out -/
theorem FnP.ok {P : Program} {w : World} {K : PySem.W.Frag} {mg : Str → Option Value} {base : Heap} {x : Str} {st : Stmt} {fd : FuncData} {N ps : List Str} {k : Nat} {sp : Sp} (F : FnP K x st fd) (S : FnScope N ps (defScope st)) (len : ∀ vs H Q E, sp vs H Q E → vs.length = ps.length)
    (hbody : ∀ (cdv : Value) (A : Around) (outer : List Env) (s : Shared) (H : Hp) (vs : List V) (Q : VK) (E : XK), Room k (A.deeper (envOfC x (defScope st) s.heap.objs.size (ga K x) cdv)) → sp vs H Q E →
      ∃ t : {t : TS // PSs (cxOf CX0 P w K mg base N x (defScope st) (ga K x) cdv A outer s H E).nox (defBody st) t}, t.1 { nx := fun _ H' => Q .non H', rt := Q } (start N vs) H) : FnOk P w K mg base CX0 (k + 1) (ga K x) fd ps sp :=
  FunD.ok F S len fun cdv A outer s H vs Q E hr hsp => by
    obtain ⟨t, q⟩ := hbody cdv A outer s H vs Q E hr hsp
    exact ⟨t.1, t.2.nox, q⟩
theorem FnP.okX {P : Program} {w : World} {K : PySem.W.Frag} {mg : Str → Option Value} {base : Heap} {x : Str} {st : Stmt} {fd : FuncData} {N ps : List Str} {k : Nat} {sp : Sp} (F : FnP K x st fd) (S : FnScope N ps (defScope st)) (len : ∀ vs H Q E, sp vs H Q E → vs.length = ps.length)
    (hbody : ∀ (cdv : Value) (A : Around) (outer : List Env) (s : Shared) (H : Hp) (vs : List V) (Q : VK) (E : XK), Room k (A.deeper (envOfC x (defScope st) s.heap.objs.size (ga K x) cdv)) → sp vs H Q E →
      ∃ t : {t : TS // PSs (cxOf (L2N.CX P w) P w K mg base N x (defScope st) (ga K x) cdv A outer s H E) (defBody st) t}, t.1 { nx := fun _ H' => Q .non H', rt := Q } (start N vs) H) : FnOk P w K mg base (L2N.CX P w) (k + 1) (ga K x) fd ps sp :=
  FunD.ok F S len fun cdv A outer s H vs Q E hr hsp => by
    obtain ⟨t, q⟩ := hbody cdv A outer s H vs Q E hr hsp
    exact ⟨t.1, t.2, q⟩
section
variable {P : Program} {w : World} {K : PySem.W.Frag} {mg : Str → Option Value} {base : Heap}
open SX (S)
/-- an error of the class x, alone -/
abbrev RetT (K : PySem.W.Frag) (x : Str) (H : Hp) (E : XK) : Prop := ∀ H2, Ex H H2 → E (.ref (ga K x)) none H2
/-! ### is_number, of any kind -/
def spIsNumberK (K : PySem.W.Frag) : Sp := fun vs H Q _ => ∃ (x : V) (k : Kd) (lo hi : Int), vs = [x, .int lo, .int hi] ∧ IsK K H x k ∧ RetV (.bl (k.num lo hi)) H Q
theorem ok_is_number {fd : FuncData} (F : FnP K "is_number" s_is_number fd) (B : Bi mg) : FnOk P w K mg base CX0 1 (ga K "is_number") fd P_is_number (spIsNumberK K) := by
  refine F.ok sc_is_number (fun vs H Q E h => ?_) (fun cdv A outer s H vs Q E hr h => ⟨der_is_number B hr, ?_⟩)
  · obtain ⟨x, k, lo, hi, rfl, _⟩ := h; rfl
  obtain ⟨x, k, lo, hi, rfl, hk, q⟩ := h
  unfold der_is_number; dsimp only
  refine s_ret (v := .bl (k.isI && (!k.isB && k.num lo hi))) ?_ ?_
  rotate_left
  · intro H1 e
    have z : (k.isI && (!k.isB && k.num lo hi)) = k.num lo hi := by cases k <;> simp [Kd.isI, Kd.isB, Kd.num]
    rw [z]
    exact q H1 e
  refine ev_andV (ev_cb (ea_cons (ev_var rfl) (ea_cons ev_c ea_nil)) (isi_k hk "int" (kit_int k))) fun h1 => ?_
  refine ev_andV (ev_notV (ev_cb (ea_cons (ev_var rfl) (ea_cons ev_c ea_nil)) (isi_k hk "bool" (kit_bool k)))) fun h2 => ?_
  cases k with
  | int i =>
    cases hk
    exact ev_chain (ev_var rfl) (ev_var rfl) (ev_var rfl) (by simp [Kd.num, Bool.decide_and])
  | bl b => cases h2
  | _ => cases h1
theorem sv_numK {H : Hp} {x : V} {k : Kd} {lo hi : Int} (hk : IsK K H x k) : SpV (spIsNumberK K) [x, .int lo, .int hi] H (.bl (k.num lo hi)) := fun H1 e Q q E => ⟨x, k, lo, hi, rfl, hk.ex e, q⟩
theorem sv_num {H : Hp} {i lo hi : Int} : SpV (spIsNumberK K) [.int i, .int lo, .int hi] H (.bl (decide (lo ≤ i ∧ i ≤ hi))) := sv_numK (k := .int i) rfl
/-- all(is_number(x, lo, hi) ..) over a list of any kinds -/
theorem el_numK {σ : L2.St} {H : Hp} {tl tlo thi : TE} {j : Nat} {a : Addr} {xs : List V} {ks : List Kd} {lo hi : Int} (h : Ev tl σ H (.ref a)) (hx : SqL K H a xs) (hz : xs.length ≤ 40000) (hk : AllK K H xs ks) (hw : ∀ x, wipe ((wipe σ [j]).set j (some x)) [j] = wipe σ [j])
    (hj : ∀ x : V, ((wipe σ [j]).set j (some x))[j]? = some (some x)) (hlo : ∀ x H1, Ex H H1 → Ev tlo ((wipe σ [j]).set j (some x)) H1 (.int lo)) (hhi : ∀ x H1, Ex H H1 → Ev thi ((wipe σ [j]).set j (some x)) H1 (.int hi)) :
    EvL (tLc (iList K tl) (gName j) tYes (tCall (spIsNumberK K) [] E0 (tCons (tVar j) (tCons tlo (tCons thi tNil)))) [j]) σ H ((ks.map (Kd.num lo hi)).map V.bl) := by
  have hl := hk.1
  have e : (ks.map (Kd.num lo hi)).map V.bl = given xs.length (fun _ => true) (fun i => V.bl (Kd.num lo hi (ks.getD i .non))) := by
    rw [given_all, hl, List.map_map]
    refine List.ext_getElem? fun i => ?_
    rw [List.getElem?_map, List.getElem?_map]
    by_cases c : i < ks.length
    · rw [List.getElem?_range c, List.getElem?_eq_getElem c]
      show some _ = some (V.bl (Kd.num lo hi (ks.getD i .non)))
      rw [List.getD_eq_getElem?_getD, List.getElem?_eq_getElem c]
      rfl
    · rw [List.getElem?_eq_none (by omega), List.getElem?_eq_none (by rw [List.length_range]; omega)]
      rfl
  rw [e]
  refine el_lcL (fun _ => true) _ h hx hz hw (fun i x H1 e1 hi => et_yes) fun i x H1 e1 hi _ => ?_
  have hik : i < ks.length := by have := (List.getElem?_eq_some_iff.mp hi).1; omega
  have hg : ks[i]? = some (ks.getD i .non) := by rw [List.getD_eq_getElem?_getD, List.getElem?_eq_getElem hik]; rfl
  exact ev_call (ea_cons (ev_var (hj x)) (ea_cons (hlo x H1 e1) (ea_cons (hhi x H1 e1) ea_nil))) (sv_numK ((hk.2 i x _ hi hg).ex e1))
/-! ### asked_wishes, of any -/
def spAskedV (K : PySem.W.Frag) : Sp := fun vs H Q _ => ∃ (p : Nat) (a : Addr) (ws : List Nat), vs = [nat p, .ref a] ∧ 1 ≤ p ∧ p ≤ 1000000 ∧ SqL K H a (vn ws) ∧ ws.length ≤ 40000 ∧ (∀ x ∈ ws, x < p) ∧ RetV .non H Q
/-- no places, or no wishes in so many places -/
def BadAsk (K : PySem.W.Frag) (H : Hp) (x y : V) : Prop := ∃ kx ky, IsK K H x kx ∧ IsK K H y ky ∧ (kx.num 1 1000000 = false ∨ ∃ p : Int, kx = .int p ∧ (ky.isL = false ∨ ∃ xs ks, ky = .lst xs ∧ AllK K H xs ks ∧ xs.length ≤ 40000 ∧ allN 0 (p - 1) ks = false))
theorem BadAsk.ex {H H1 : Hp} {x y : V} (h : BadAsk K H x y) (e : Ex H H1) : BadAsk K H1 x y := by
  obtain ⟨kx, ky, h1, h2, h3⟩ := h
  refine ⟨kx, ky, h1.ex e, h2.ex e, ?_⟩
  rcases h3 with h | ⟨p, hp, h | ⟨xs, ks, h4, h5, h6⟩⟩
  · exact .inl h
  · exact .inr ⟨p, hp, .inl h⟩
  · exact .inr ⟨p, hp, .inr ⟨xs, ks, h4, h5.ex e, h6⟩⟩
def spAsked (K : PySem.W.Frag) : Sp := fun vs H Q E => spAskedV K vs H Q E ∨ ∃ x y, vs = [x, y] ∧ BadAsk K H x y ∧ RetT K "BadWishes" H E
theorem ok_asked_wishes {fd fd1 : FuncData} {tk : Tok} (F : FnP K "asked_wishes" s_asked_wishes fd) (B : Bi mg) (C1 : Cal P w K mg base CX0 1 "is_number" P_is_number (spIsNumberK K) fd1) (gc : mg "PLACES" = some (.int 1000000 tk)) (X1 : ExcF K mg "BadWishes") : FnOk P w K mg base (L2N.CX P w) 2 (ga K "asked_wishes") fd P_asked_wishes (spAsked K) := by
  refine F.okX sc_asked_wishes (fun vs H Q E h => ?_) (fun cdv A outer s H vs Q E hr h => ⟨der_asked_wishes B C1 gc X1 hr, ?_⟩)
  · rcases h with ⟨p, a, ws, rfl, _⟩ | ⟨x, y, rfl, _⟩ <;> rfl
  rcases h with ⟨p, a, ws, rfl, hp1, hp2, hS, hl, hw, q⟩ | ⟨x, y, rfl, ⟨kx, ky, hx, hy, hbad⟩, qE⟩
  · unfold der_asked_wishes; dsimp only
    have t1 : Ev (tCall (spIsNumberK K) [] E0 (tCons (tVar 0) (tCons (tC (.int 1)) (tCons (tC (.int 1000000)) tNil)))) (L2.start N_asked_wishes [nat p, .ref a]) H (.bl true) := by
      refine ev_is (ev_call (ea_cons (ev_var rfl) (ea_cons ev_c (ea_cons ev_c ea_nil))) sv_num) ?_
      congr 1
      exact decide_eq_true ⟨by omega, by omega⟩
    refine q_when (et_not (et_B t1)) (fun h => by cases h) fun _ H1 e1 => ?_
    have t2 : EvL (tLc (iList K (tVar 1)) (gName 2) tYes (tCall (spIsNumberK K) [] E0 (tCons (tVar 2) (tCons (tC (.int 0)) (tCons (tOp (rI0 fun i j => .int (i - j)) (tVar 0) (tC (.int 1))) tNil)))) [2]) (L2.start N_asked_wishes [nat p, .ref a]) H1 ((ws.map fun _ => true).map V.bl) := by
      rw [List.map_map]
      refine el_ls nat (V.bl ∘ fun _ => true) (ev_var rfl) (ex_l e1 hS) hl (fun _ => rfl) fun i y H2 e2 hy => ?_
      have hyp := hw y (List.mem_of_getElem? hy)
      refine ev_is (ev_call (ea_cons (ev_var rfl) (ea_cons ev_c (ea_cons (ev_sub (k := (p : Int) - 1) (ev_var rfl) ev_c rfl) ea_nil))) sv_num) ?_
      show V.bl (decide _) = V.bl true
      congr 1
      exact decide_eq_true ⟨by omega, by omega⟩
    have t3 : ((ws.map fun _ => true).all id) = true := by
      rw [List.all_map, List.all_eq_true]
      intro x _
      rfl
    refine s_when (et_or (et_not (et_B (ev_cb (ea_cons (ev_var rfl) (ea_cons ev_c ea_nil)) (isi_list (k := true) (ex_l e1 hS) "list" (by decide +kernel))))) fun _ => et_not (et_B (ev_allN t2))) (fun h => ?_) fun _ H2 e2 => q H2 (e1.trans e2)
    rw [t3] at h
    cases h
  · unfold der_asked_wishes; dsimp only
    refine q_when (et_not (et_B (ev_call (ea_cons (ev_var rfl) (ea_cons ev_c (ea_cons ev_c ea_nil))) (sv_numK hx)))) (fun _ H1 e1 => qE H1 e1) fun h1 H1 e1 => ?_
    rcases hbad with hb | ⟨p, rfl, hb⟩
    · rw [hb] at h1
      cases h1
    cases hx
    have hy1 := hy.ex e1
    have tl := ev_cb (σ := L2.start N_asked_wishes [.int p, y]) (H := H1) (ea_cons (ev_var (i := 1) rfl) (ea_cons ev_c ea_nil)) (isi_k hy1 "list" (kit_list ky))
    rcases hb with hb | ⟨xs, ks, rfl, hk, hz, hn⟩
    · rw [hb] at tl
      exact s_when (b := (!false) || false) (et_or (et_not (et_B tl)) fun z => by cases z) (fun _ H2 e2 => qE H2 (e1.trans e2)) fun z => by cases z
    · obtain ⟨a, rfl, hS⟩ := hy1
      have t2 := el_numK (K := K) (σ := L2.start N_asked_wishes [.int p, .ref a]) (H := H1) (tl := tVar 1) (tlo := tC (.int 0)) (thi := tOp (rI0 fun i j => .int (i - j)) (tVar 0) (tC (.int 1))) (j := 2) (lo := 0) (hi := p - 1) (ev_var rfl) hS hz (hk.ex e1) (fun _ => rfl) (fun _ => rfl) (fun x H2 e2 => ev_c) (fun x H2 e2 => ev_sub (ev_var rfl) ev_c rfl)
      refine s_when (b := (!true) || !((ks.map (Kd.num 0 (p - 1))).all id)) (et_or (et_not (et_B tl)) fun _ => et_not (et_B (ev_allN t2))) (fun _ H2 e2 => qE H2 (e1.trans e2)) fun hb => ?_
      have : ((ks.map (Kd.num 0 (p - 1))).all id) = allN 0 (p - 1) ks := by
        unfold allN
        rw [List.all_map]
        rfl
      rw [this, hn] at hb
      cases hb
theorem sv_asked {H : Hp} {a : Addr} {p : Nat} {ws : List Nat} (h1 : 1 ≤ p) (hp : p ≤ 1000000) (h : SqL K H a (vn ws)) (hl : ws.length ≤ 40000) (hw : ∀ x ∈ ws, x < p) : SpV (spAsked K) [nat p, .ref a] H .non := fun H1 e Q q E => .inl ⟨p, a, ws, rfl, h1, hp, ex_l e h, hl, hw, q⟩
end
end Pk
namespace Pk
open PySem PySem.Spec PyProof.Rows L2 Evl He
section
variable {P : Program} {w : World} {K : PySem.W.Frag} {mg : Str → Option Value} {base : Heap}
open SX (S)
/-! ### what lets BadWishes out where asked_wishes does -/
def orBad (K : PySem.W.Frag) (sp : Sp) : Sp := fun vs H Q E => sp vs H Q E ∨ ∃ x y, vs = [x, y] ∧ BadAsk K H x y ∧ RetT K "BadWishes" H E
theorem bad_first {x y : V} {rest : L2.St} {E : XK} {D : Ends} {tz : TS} {H : Hp} (hb : BadAsk K H x y) (qE : RetT K "BadWishes" H E) : tSeq (tDrop (tCall (spAsked K) [] E (tCons (tVar 0) (tCons (tVar 1) tNil)))) tz D (some x :: some y :: rest) H :=
  q_callX (ea_cons (ev_var rfl) (ea_cons (ev_var rfl) ea_nil)) fun H1 e1 => .inr ⟨x, y, rfl, hb.ex e1, fun H2 e2 => qE H2 (e1.trans e2)⟩
theorem orBad_l {sp : Sp} {vs : List V} {H : Hp} {xs : List V} (h : SpL sp vs H xs) : SpL (orBad K sp) vs H xs := fun H1 e Q q E => .inl (h H1 e Q q E)
theorem orBad_v {sp : Sp} {vs : List V} {H : Hp} {z : V} (h : SpV sp vs H z) : SpV (orBad K sp) vs H z := fun H1 e Q q E => .inl (h H1 e Q q E)
/-! ### counted -/
def spCounted (K : PySem.W.Frag) : Sp := fun vs H Q _ => ∃ (p : Nat) (a : Addr) (ws : List Nat), vs = [nat p, .ref a] ∧ SqL K H a (vn ws) ∧ p ≤ 40000 ∧ (∀ x ∈ ws, x < p) ∧ RetL (vn (cnts p ws)) H Q
theorem ok_counted {fd : FuncData} (F : FnP K "counted" s_counted fd) (B : Bi mg) : FnOk P w K mg base CX0 1 (ga K "counted") fd P_counted (spCounted K) := by
  refine F.ok sc_counted (fun vs H Q E h => ?_) (fun cdv A outer s H vs Q E hr h => ⟨der_counted B hr, ?_⟩)
  · obtain ⟨p, a, ws, rfl, _⟩ := h; rfl
  obtain ⟨p, a, ws, rfl, hS, hp, hw, q⟩ := h
  unfold der_counted; dsimp only
  refine q_asgL (el_rng (n := p) (fun _ => nat 0) (ea_cons (ev_var rfl) ea_nil) hp (fun _ => rfl) (fun i H1 e hi => ev_c)) fun l H1 hl e1 h1 => ?_
  refine q_forP nat (ev_var rfl) (ex_l e1 hS) (fun pre σ' H' => ∃ v, σ' = [some (nat p), some (.ref a), some (.ref l), v, none] ∧ Ex H H' ∧ H' l = some (.lst (vn (cnts p pre)))) (fun H2 e2 => ?_) (fun pre σ' H' hI => ?_) (fun pre y post σ' H' hy hI => ?_) (fun σ' H' hI => ?_)
  · refine ⟨none, rfl, e1.trans e2, ?_⟩
    rw [e2 l _ h1, cnts_nil]
    unfold vn
    rw [List.map_map]
    rfl
  · obtain ⟨v, rfl, e, _⟩ := hI
    exact ex_l e hS
  · obtain ⟨v, rfl, e, h2⟩ := hI
    have hyp : y < p := hw y (by rw [hy]; simp)
    have g := vn_get (cnts_get (ws := pre) hyp)
    refine s_setL (j := y) h2 (v := nat (pre.count y + 1)) ?_ (ev_var rfl) (ev_var rfl) (by rw [List.length_map, cnts_len]; exact hyp) fun H3 e3 => ?_
    · exact ev_add (ev_ixN (ev_var rfl) (ev_var rfl) (sq_of h2) g) ev_c (by omega)
    · refine ⟨_, rfl, Ex.mut (e.trans e3) hl, ?_⟩
      rw [upd_same, ← cnts_add hyp]
      unfold vn
      rw [List.map_set]
  · obtain ⟨v, rfl, e, h2⟩ := hI
    exact s_ret (ev_var rfl) fun H3 e3 => q l H3 hl (e.trans e3) (e3 l _ h2)
theorem sl_counted {H : Hp} {a : Addr} {p : Nat} {ws : List Nat} (h : SqL K H a (vn ws)) (hp : p ≤ 40000) (hw : ∀ x ∈ ws, x < p) : SpL (spCounted K) [nat p, .ref a] H (vn (cnts p ws)) := fun H1 e Q q E => ⟨p, a, ws, rfl, ex_l e h, hp, hw, q⟩
/-! ### crowd_of -/
def spCrowd (K : PySem.W.Frag) : Sp := fun vs H Q _ => ∃ (p : Nat) (a : Addr) (ws : List Nat), vs = [nat p, .ref a] ∧ SqL K H a (vn ws) ∧ p ≤ 40000 ∧ (∀ x ∈ ws, x < p) ∧ RetV (.int (crowd p ws)) H Q
theorem ok_crowd_of {fd fd1 : FuncData} (F : FnP K "crowd_of" s_crowd_of fd) (B : Bi mg) (C1 : Cal P w K mg base CX0 1 "counted" P_counted (spCounted K) fd1) : FnOk P w K mg base CX0 2 (ga K "crowd_of") fd P_crowd_of (spCrowd K) := by
  refine F.ok sc_crowd_of (fun vs H Q E h => ?_) (fun cdv A outer s H vs Q E hr h => ⟨der_crowd_of B C1 hr, ?_⟩)
  · obtain ⟨p, a, ws, rfl, _⟩ := h; rfl
  obtain ⟨p, a, ws, rfl, hS, hp, hw, q⟩ := h
  unfold der_crowd_of; dsimp only
  refine q_asgL (el_call (ea_cons (ev_var rfl) (ea_cons (ev_var rfl) ea_nil)) (sl_counted hS hp hw)) fun l H1 hl e1 h1 => ?_
  refine q_asg ev_c fun H2 e2 => ?_
  refine q_asg (ev_un ev_c ru_neg) fun H3 e3 => ?_
  refine q_forRev (n := p) (ev_var rfl) (by omega) (fun k σ' H' => k ≤ p ∧ ∃ v, σ' = [some (nat p), some (.ref a), some (.ref l), some (nat (ge ws k)), some (.int (crow p ws (p - k))), v] ∧ Ex H1 H') (fun H4 e4 => ?_) (fun i σ' H' hi hI => ?_) (fun σ' H' hI => ?_)
  · refine ⟨Nat.le_refl _, none, ?_, (e2.trans e3).trans e4⟩
    rw [ge_top hw, Nat.sub_self]
    rfl
  · obtain ⟨_, v, rfl, e⟩ := hI
    have g := vn_get (cnts_get (ws := ws) hi)
    refine q_asg (ev_add (k := (ge ws i : Int)) (ev_var rfl) (ev_ixN (ev_var rfl) (ev_var rfl) (sq_of (e l _ h1)) g) (by rw [ge_succ ws i]; omega)) fun H5 e5 => ?_
    have ec : crow p ws (p - i) = if p - i < ge ws i then (i : Int) else crow p ws (p - (i + 1)) := by
      have e6 : p - i = (p - (i + 1)) + 1 := by omega
      rw [e6]
      show (if p - (p - ((p - (i + 1)) + 1)) < ge ws (p - ((p - (i + 1)) + 1)) then ((p - ((p - (i + 1)) + 1) : Nat) : Int) else _) = _
      have e7 : p - ((p - (i + 1)) + 1) = i := by omega
      rw [e7]
      have e8 : p - i = p - (i + 1) + 1 := by omega
      rw [e8]
    refine s_ifAsg (v := .int (crow p ws (p - i))) (et_test (ev_cmp (b := decide (p - i < ge ws i)) (ev_var rfl) (ev_sub (ev_var rfl) (ev_var rfl) rfl) ?_)) (fun hb => ?_) (fun hb => ?_) fun H6 e6 => ?_
    · rw [decide_eq_decide]
      omega
    · rw [ec, if_pos (of_decide_eq_true hb)]
      exact ev_var rfl
    · rw [ec, if_neg (of_decide_eq_false hb)]
      rfl
    · exact ⟨by omega, _, rfl, (e.trans e5).trans e6⟩
  · obtain ⟨_, v, rfl, e⟩ := hI
    exact s_ret (ev_var rfl) fun H5 e5 => q H5 ((e1.trans e).trans e5)
theorem sv_crowd {H : Hp} {a : Addr} {p : Nat} {ws : List Nat} (h : SqL K H a (vn ws)) (hp : p ≤ 40000) (hw : ∀ x ∈ ws, x < p) : SpV (spCrowd K) [nat p, .ref a] H (.int (crowd p ws)) := fun H1 e Q q E => ⟨p, a, ws, rfl, ex_l e h, hp, hw, q⟩
/-! ### free_from, by any measure of the places ahead -/
theorem getD_get {st : List Nat} {i : Nat} (hi : i < st.length) : st[i]? = some (st.getD i 0) := by
  rw [List.getD_eq_getElem?_getD, List.getElem?_eq_getElem hi]
  rfl
/-- all but l as it was -/
def Ot (l : Addr) (H H' : Hp) : Prop := ∀ b o, b ≠ l → H b = some o → H' b = some o
theorem Ot.ex {l : Addr} {H H1 H2 : Hp} (f : Ot l H H1) (e : Ex H1 H2) : Ot l H H2 := fun b o hb ho => e b o (f b o hb ho)
theorem Ot.mut {l : Addr} {H H1 : Hp} {o : HO} (f : Ot l H H1) : Ot l H (upd H1 l o) := fun b u hb hu => by
  rw [upd_ne hb]
  exact f b u hb hu
theorem ot_of {l : Addr} {H H1 : Hp} (e : Ex H H1) : Ot l H H1 := fun b o _ h => e b o h
def spFree (K : PySem.W.Frag) : Sp := fun vs H Q _ => ∃ (l : Addr) (x n : Nat) (nf d : Nat → Nat) (ah : List Nat), vs = [.ref l, nat x] ∧ H l = some (.lst (vn ah)) ∧ Fr n nf d ah ∧ x < n ∧
  ∀ ah' H2, Fr n nf d ah' → Ot l H H2 → H2 l = some (.lst (vn ah')) → Q (nat (nf x)) H2
theorem ok_free_from {fd : FuncData} (F : FnP K "free_from" s_free_from fd) : FnOk P w K mg base CX0 1 (ga K "free_from") fd P_free_from (spFree K) := by
  refine F.ok sc_free_from (fun vs H Q E h => ?_) (fun cdv A outer s H vs Q E hr h => ⟨der_free_from hr, ?_⟩)
  · obtain ⟨l, x, n, nf, d, ah, rfl, _⟩ := h; rfl
  obtain ⟨l, x, n, nf, d, ah, rfl, hl, R, hx, q⟩ := h
  unfold der_free_from; dsimp only
  have hlen := R.len
  refine q_asg (ev_var rfl) fun H1 e1 => ?_
  refine q_while (fun m σ' H' => ∃ y, m = d y ∧ y < n ∧ nf y = nf x ∧ σ' = [some (.ref l), some (nat x), some (nat y), none] ∧ Ex H H') (d x) ⟨x, rfl, hx, rfl, rfl, e1⟩ fun m σ' H' hW => ?_
  obtain ⟨y, rfl, hy, hny, rfl, e2⟩ := hW
  have hya : (vn ah)[y]? = some (nat (ah.getD y 0)) := vn_get (getD_get (by omega))
  refine ⟨!decide (((ah.getD y 0 : Nat) : Int) = (y : Int)), et_test (ev_neInt (ev_ixN (ev_var rfl) (ev_var rfl) (sq_of (e2 l _ hl)) hya) (ev_var rfl)), (fun hb H3 e3 => ?_), fun hb H3 e3 => ?_⟩
  · have hne : ah.getD y 0 ≠ y := by
      intro e
      rw [e] at hb
      simp at hb
    refine ⟨fun σ2 H2 => σ2 = [some (.ref l), some (nat x), some (nat (ah.getD y 0)), none] ∧ Ex H H2, fun σ2 H2 hN => ?_, ?_⟩
    · obtain ⟨rfl, e4⟩ := hN
      exact ⟨_, R.ds y hy hne, _, rfl, R.lt y hy, by rw [R.on y hy, hny], rfl, e4⟩
    · exact s_asg (ev_ixN (ev_var rfl) (ev_var rfl) (sq_of (e3 l _ (e2 l _ hl))) hya) fun H4 e4 => ⟨rfl, e2.trans (e3.trans e4)⟩
  · have heq : ah.getD y 0 = y := by
      have h1 : decide (((ah.getD y 0 : Nat) : Int) = (y : Int)) = true := by simpa using hb
      have := of_decide_eq_true h1
      omega
    have hyf : nf y = y := (R.eq y hy).mp heq
    rw [hyf] at hny
    subst hny
    have N := R.nn x hx
    generalize hf : nf x = f at hy hyf N q heq hya hb
    refine q_while (fun m σ' H' => ∃ z ah' v3, m = d z ∧ z < n ∧ nf z = f ∧ Fr n nf d ah' ∧ σ' = [some (.ref l), some (nat z), some (nat f), v3] ∧ Ot l H H' ∧ H' l = some (.lst (vn ah'))) (d x) ⟨x, ah, none, rfl, hx, hf, R, rfl, ot_of (e2.trans e3), e3 l _ (e2 l _ hl)⟩ fun m σ' H' hW => ?_
    obtain ⟨z, ah', v3, rfl, hz, hzf, R', rfl, o4, h4⟩ := hW
    have hlen' := R'.len
    have hza : (vn ah')[z]? = some (nat (ah'.getD z 0)) := vn_get (getD_get (by omega))
    refine ⟨!decide (((ah'.getD z 0 : Nat) : Int) = (f : Int)), et_test (ev_neInt (ev_ixN (ev_var rfl) (ev_var rfl) (sq_of h4) hza) (ev_var rfl)), (fun hb H5 e5 => ?_), fun hb H5 e5 => ?_⟩
    · have hne : ah'.getD z 0 ≠ f := by
        intro e
        rw [e] at hb
        simp at hb
      have hzne : nf z ≠ z := by
        intro e
        have h1 := (R'.eq z hz).mpr e
        rw [hzf] at e
        exact hne (by rw [h1]; exact e.symm)
      have haz : ah'.getD z 0 ≠ z := fun e => hzne ((R'.eq z hz).mp e)
      refine ⟨fun σ2 H2 => σ2 = [some (.ref l), some (nat (ah'.getD z 0)), some (nat f), some (nat (ah'.getD z 0))] ∧ Ot l H H2 ∧ H2 l = some (.lst (vn (ah'.set z f))), fun σ2 H2 hN => ?_, ?_⟩
      · obtain ⟨rfl, o6, h6⟩ := hN
        have C := R'.cut hz hzne
        rw [hzf] at C
        exact ⟨_, R'.ds z hz haz, _, _, _, rfl, R'.lt z hz, by rw [R'.on z hz, hzf], C, rfl, o6, h6⟩
      · refine q_asg (ev_ixN (ev_var rfl) (ev_var rfl) (sq_of (e5 l _ h4)) hza) fun H6 e6 => ?_
        refine q_setL (j := z) (v := nat f) (e6 l _ (e5 l _ h4)) (ev_var rfl) (ev_var rfl) (ev_var rfl) (by rw [List.length_map]; omega) fun H7 e7 => ?_
        refine s_asg (ev_var rfl) fun H8 e8 => ⟨rfl, ((o4.ex (e5.trans (e6.trans e7))).mut).ex e8, ?_⟩
        rw [e8 l _ upd_same]
        unfold vn
        rw [List.map_set]
    · exact s_ret (ev_var rfl) fun H6 e6 => q ah' H6 R' (o4.ex (e5.trans e6)) (e6 l _ (e5 l _ h4))
theorem ot_fresh {l : Addr} {H0 H H' : Hp} (e : Ex H0 H) (hl : H0 l = none) (o : Ot l H H') : Ex H0 H' := fun b u hb => o b u (ne_of_none hb hl) (e b u hb)
theorem vn_app (ws : List Nat) (x : Nat) : vn (ws ++ [x]) = vn ws ++ [nat x] := by
  unfold vn
  rw [List.map_append]
  rfl
/-! ### stood -/
def spStood (K : PySem.W.Frag) : Sp := fun vs H Q _ => ∃ (p : Nat) (a : Addr) (ws : List Nat), vs = [nat p, .ref a] ∧ SqL K H a (vn ws) ∧ p ≤ 30000 ∧ ws.length ≤ 40000 ∧ (∀ x ∈ ws, x < p) ∧ RetL (vn (whereL p ws)) H Q
theorem ok_stood {fd fd1 : FuncData} (F : FnP K "stood" s_stood fd) (B : Bi mg) (C1 : Cal P w K mg base CX0 1 "free_from" P_free_from (spFree K) fd1) : FnOk P w K mg base CX0 2 (ga K "stood") fd P_stood (spStood K) := by
  refine F.ok sc_stood (fun vs H Q E h => ?_) (fun cdv A outer s H vs Q E hr h => ⟨der_stood B C1 hr, ?_⟩)
  · obtain ⟨p, a, ws, rfl, _⟩ := h; rfl
  obtain ⟨p, a, ws, rfl, hS, hp, hl, hw, q⟩ := h
  unfold der_stood; dsimp only
  refine q_asgL (xs := vn (List.range (p + 1))) (el_rng (n := p + 1) nat (ea_cons (ev_add (i := (p : Int)) (j := 1) (ev_var rfl) ev_c (by omega)) ea_nil) (by omega) (fun _ => rfl) (fun i H3 e3 hi => ev_var rfl)) fun la H3 hla e3 h3 => ?_
  refine q_asgL (el_lst (vs := vn []) ea_nil (Nat.zero_le _)) fun lo H5 hlo e5 h5 => ?_
  have hon : H lo = none := fresh_back e3 hlo
  have hne : la ≠ lo := ne_of_none h3 hlo
  refine q_forP nat (ev_var rfl) (ex_l (e3.trans e5) hS) (fun pre σ' H' => ∃ v4 v5 ah, σ' = [some (nat p), some (.ref a), some (.ref la), some (.ref lo), v4, v5] ∧ Ex H H' ∧ H' la = some (.lst (vn ah)) ∧ H' lo = some (.lst (vn (whereL p pre))) ∧ Frs p (whereL p pre) ah) (fun H6 e6 => ?_) (fun pre σ' H' hI => ?_) (fun pre y post σ' H' hy hI => ?_) (fun σ' H' hI => ?_)
  · exact ⟨none, none, List.range (p + 1), rfl, e3.trans (e5.trans e6), e6 la _ (e5 la _ h3), e6 lo _ h5, frs_start⟩
  · obtain ⟨v5, v6, ah, rfl, e, _⟩ := hI
    exact ex_l e hS
  · obtain ⟨v5, v6, ah, rfl, e, h6, h7, R⟩ := hI
    have hyp : y < p := hw y (by rw [hy]; simp)
    have hpl : pre.length < 40000 := by
      have : ws.length = pre.length + (post.length + 1) := by rw [hy, List.length_append, List.length_cons]
      omega
    have hwl := whereL_len p pre
    have hsn := whereL_snoc p pre y
    rw [hsn]
    generalize whereL p pre = occ at h7 R hwl
    have hfs := stand_sst (p := p) (x := y) occ (by omega)
    refine q_asgX (ea_cons (ev_var rfl) (ea_cons (ev_var rfl) ea_nil)) fun H8 e8 => ?_
    refine ⟨la, y, p + 1, _, _, ah, rfl, e8 la _ h6, R.fr, by omega, fun ah' H9 R' o9 h9 => ?_⟩
    have R2 := fr_frs R'
    have e09 : Ex H H9 := ot_fresh (e.trans e8) hla o9
    have h79 : H9 lo = some (.lst (vn occ)) := o9 lo _ hne.symm (e8 lo _ h7)
    generalize hfe : stand p occ y = f at hfs
    refine q_app (xs := vn occ) h79 (ev_var rfl) (ev_var rfl) (by rw [List.length_map]; omega) fun H10 e10 => ?_
    have h9' : upd H10 lo (.lst (vn occ ++ [nat f])) la = some (.lst (vn ah')) := by rw [upd_ne hne]; exact e10 la _ h9
    have e010 : Ex H (upd H10 lo (.lst (vn occ ++ [nat f]))) := Ex.mut (e09.trans e10) hon
    have hlo10 : upd H10 lo (.lst (vn occ ++ [nat f])) lo = some (.lst (vn (occ ++ [f]))) := by rw [upd_same, vn_app]
    generalize upd H10 lo (.lst (vn occ ++ [nat f])) = G at h9' e010 hlo10
    refine s_when (b := decide (f < p)) (et_test (ev_cmp (i := (f : Int)) (j := (p : Int)) (ev_var rfl) (ev_var rfl) (by rw [decide_eq_decide]; omega))) (fun hb H12 e12 => ?_) fun hb H12 e12 => ?_
    · have hlt := of_decide_eq_true hb
      refine s_setL (j := f) (v := nat (f + 1)) (e12 la _ h9') (ev_add (ev_var rfl) ev_c (by omega)) (ev_var rfl) (ev_var rfl) (by rw [List.length_map, R2.len]; omega) fun H13 e13 => ?_
      refine ⟨_, _, ah'.set f (f + 1), rfl, Ex.mut (e010.trans (e12.trans e13)) hla, ?_, ?_, frs_more R2 hlt (hfs.no hlt)⟩
      · rw [upd_same]
        unfold vn
        rw [List.map_set]
      · rw [upd_ne hne.symm]
        exact e13 lo _ (e12 lo _ hlo10)
    · have hfp : f = p := by have := of_decide_eq_false hb; have := hfs.hi; omega
      subst hfp
      exact ⟨_, _, ah', rfl, e010.trans e12, e12 la _ h9', e12 lo _ hlo10, frs_off R2⟩
  · obtain ⟨v5, v6, ah, rfl, e, h6, h7, _⟩ := hI
    exact s_ret (ev_var rfl) fun H8 e8 => q lo H8 hon (e.trans e8) (e8 lo _ h7)
theorem sl_stood {H : Hp} {a : Addr} {p : Nat} {ws : List Nat} (h : SqL K H a (vn ws)) (hp : p ≤ 30000) (hl : ws.length ≤ 40000) (hw : ∀ x ∈ ws, x < p) : SpL (spStood K) [nat p, .ref a] H (vn (whereL p ws)) := fun H1 e Q q E => ⟨p, a, ws, rfl, ex_l e h, hp, hl, hw, q⟩
/-! ### Parked, Crowd, parked -/
abbrev insP : List (Str × Bool) := [("Answer", true), ("Parked", true), ("Crowd", false)]
abbrev insC : List (Str × Bool) := [("Answer", true), ("Parked", false), ("Crowd", true)]
/-- what is known of the two classes -/
structure Two (K : PySem.W.Frag) : Prop where
  cP : Cls K (ga K "Parked")
  nP : NoAttr K (ga K "Parked") "where"
  cC : Cls K (ga K "Crowd")
  nC : NoAttr K (ga K "Crowd") "place"
  iP : InsX K "Parked" insP
  iC : InsX K "Crowd" insC
def spParkedI (K : PySem.W.Frag) : Sp := fun vs H Q _ => ∃ (x a dx : Addr) (xs : List V), vs = [.ref x, .ref a] ∧ H x = some (.ins (ga K "Parked") dx []) ∧ SqL K H a xs ∧ ∀ l H1, H l = none → Ex H H1 → H1 l = some (.lst xs) → Q .non (upd H1 x (.ins (ga K "Parked") dx [("where", .ref l)]))
theorem ok_Parked_init {fd : FuncData} (F : MeP K "Parked" "Parked.__init__" s_Parked_init fd) (B : Bi mg) (T : Two K) : FnOk P w K mg base CX0 1 (ma K (ga K "Parked") "__init__") fd P_Parked_init (spParkedI K) := by
  refine F.ok sc_Parked_init (fun vs H Q E h => ?_) (fun cdv A outer s H vs Q E hr h => ⟨der_Parked_init B hr, ?_⟩)
  · obtain ⟨x, a, dx, xs, rfl, _⟩ := h; rfl
  obtain ⟨x, a, dx, xs, rfl, hx, hS, q⟩ := h
  unfold der_Parked_init; dsimp only
  exact (el_list (K := K) (ta := tVar 1) (σ := [some (.ref x), some (.ref a)]) (ev_var rfl) hS) H (Ex.refl H) _ fun l H1 hl e1 h1 =>
    (ev_var (i := 0) (v := .ref x) (σ := [some (.ref x), some (.ref a)]) (H := H1) rfl) H1 (Ex.refl H1) _ fun H2 e2 => ⟨x, ga K "Parked", dx, [], rfl, e2 x _ (e1 x _ hx), T.cP, T.nP, by decide, q l H2 hl (e1.trans e2) (e2 l _ h1)⟩
def spCrowdI (K : PySem.W.Frag) : Sp := fun vs H Q _ => ∃ (x dx : Addr) (i : Int), vs = [.ref x, .int i] ∧ H x = some (.ins (ga K "Crowd") dx []) ∧ ∀ H1, Ex H H1 → Q .non (upd H1 x (.ins (ga K "Crowd") dx [("place", .int i)]))
theorem ok_Crowd_init {fd : FuncData} (F : MeP K "Crowd" "Crowd.__init__" s_Crowd_init fd) (T : Two K) : FnOk P w K mg base CX0 1 (ma K (ga K "Crowd") "__init__") fd P_Crowd_init (spCrowdI K) := by
  refine F.ok sc_Crowd_init (fun vs H Q E h => ?_) (fun cdv A outer s H vs Q E hr h => ⟨der_Crowd_init hr, ?_⟩)
  · obtain ⟨x, dx, i, rfl, _⟩ := h; rfl
  obtain ⟨x, dx, i, rfl, hx, q⟩ := h
  unfold der_Crowd_init; dsimp only
  exact (ev_var (i := 1) (v := .int i) (σ := [some (.ref x), some (.int i)]) (H := H) rfl) H (Ex.refl H) _ fun H1 e1 =>
    (ev_var (i := 0) (v := .ref x) (σ := [some (.ref x), some (.int i)]) (H := H1) rfl) H1 (Ex.refl H1) _ fun H2 e2 => ⟨x, ga K "Crowd", dx, [], rfl, e2 x _ (e1 x _ hx), T.cC, T.nC, by decide, q H2 (e1.trans e2)⟩
def IsParked (K : PySem.W.Frag) (H : Hp) (v : V) (x l : Addr) (xs : List V) : Prop := v = .ref x ∧ ∃ dx, H x = some (.ins (ga K "Parked") dx [("where", .ref l)]) ∧ H l = some (.lst xs)
def IsCrowd (K : PySem.W.Frag) (H : Hp) (v : V) (i : Int) : Prop := ∃ x dx, v = .ref x ∧ H x = some (.ins (ga K "Crowd") dx [("place", .int i)])
theorem IsParked.ex {H H1 : Hp} {v : V} {x l : Addr} {xs : List V} (h : IsParked K H v x l xs) (e : Ex H H1) : IsParked K H1 v x l xs := by
  obtain ⟨h1, dx, h2, h3⟩ := h
  exact ⟨h1, dx, e _ _ h2, e _ _ h3⟩
theorem IsCrowd.ex {H H1 : Hp} {v : V} {i : Int} (h : IsCrowd K H v i) (e : Ex H H1) : IsCrowd K H1 v i := by
  obtain ⟨x, dx, h1, h2⟩ := h
  exact ⟨x, dx, h1, e _ _ h2⟩
theorem ep_makeP {σ : L2.St} {H : Hp} {ta : TA} {E : XK} {xs : List V} (h : EvAP ta σ H (fun vs H2 => ∃ a, vs = [.ref a] ∧ SqL K H2 a xs)) : EvP (tMake (ga K "Parked") (spParkedI K) [] E ta) σ H (fun v H2 => ∃ x l, H x = none ∧ H l = none ∧ IsParked K H2 v x l xs) := fun H1 e Q q =>
  h H1 e _ fun vs H2 e2 hv x dx hx hdx hne => by
    obtain ⟨a, rfl, hS⟩ := hv
    have e3 : Ex H2 (upd (upd H2 dx (.own x)) x (.ins (ga K "Parked") dx [])) := Ex.mut (Ex.new hdx) hx
    refine ⟨x, a, dx, xs, rfl, upd_same, ex_l e3 hS, fun l H4 hl e4 h4 => ⟨rfl, ?_⟩⟩
    have hlx : l ≠ x := fun z => by rw [z, upd_same] at hl; cases hl
    have hl2 : H2 l = none := fresh_back e3 hl
    refine q _ _ (e2.trans (Ex.mut (e3.trans e4) hx)) ⟨x, l, fresh_back (e.trans e2) hx, fresh_back (e.trans e2) hl2, rfl, dx, upd_same, ?_⟩
    rw [upd_ne hlx]
    exact h4
theorem ep_makeC {σ : L2.St} {H : Hp} {ta : TA} {E : XK} {i : Int} (h : EvA ta σ H [.int i]) : EvP (tMake (ga K "Crowd") (spCrowdI K) [] E ta) σ H (fun v H2 => IsCrowd K H2 v i) := fun H1 e Q q =>
  h H1 e _ fun H2 e2 x dx hx hdx hne => by
    have e3 : Ex H2 (upd (upd H2 dx (.own x)) x (.ins (ga K "Crowd") dx [])) := Ex.mut (Ex.new hdx) hx
    exact ⟨x, dx, i, rfl, upd_same, fun H4 e4 => ⟨rfl, q _ _ (e2.trans (Ex.mut (e3.trans e4) hx)) ⟨x, dx, rfl, upd_same⟩⟩⟩
def spParked (K : PySem.W.Frag) : Sp := fun vs H Q _ => ∃ (p : Nat) (a : Addr) (ws : List Nat), vs = [nat p, .ref a] ∧ SqL K H a (vn ws) ∧ 1 ≤ p ∧ p ≤ 30000 ∧ ws.length ≤ 40000 ∧ (∀ x ∈ ws, x < p) ∧
  (crowd p ws < 0 → ∀ x l v H2, Ex H H2 → H x = none → H l = none → IsParked K H2 v x l (vn (whereL p ws)) → Q v H2) ∧ (0 ≤ crowd p ws → ∀ v H2, Ex H H2 → IsCrowd K H2 v (crowd p ws) → Q v H2)
theorem ok_parked {fd fd1 fd2 fd3 fd4 fd5 : FuncData} (F : FnP K "parked" s_parked fd) (C1 : Cal P w K mg base (L2N.CX P w) 2 "asked_wishes" P_asked_wishes (spAsked K) fd1) (C2 : Cal P w K mg base CX0 2 "crowd_of" P_crowd_of (spCrowd K) fd2) (C3 : Cal P w K mg base CX0 2 "stood" P_stood (spStood K) fd3)
    (M1 : MkF P w K mg base "Crowd" 1 P_Crowd_init (spCrowdI K) fd4) (M2 : MkF P w K mg base "Parked" 1 P_Parked_init (spParkedI K) fd5) : FnOk P w K mg base (L2N.CX P w) 3 (ga K "parked") fd P_parked (orBad K (spParked K)) := by
  refine F.okX sc_parked (fun vs H Q E h => ?_) (fun cdv A outer s H vs Q E hr h => ⟨der_parked C1 C2 C3 M1 M2 hr, ?_⟩)
  · rcases h with ⟨p, a, ws, rfl, _⟩ | ⟨x, y, rfl, _⟩ <;> rfl
  rcases h with h | ⟨x, y, rfl, hbad, qE⟩
  rotate_left
  · unfold der_parked; dsimp only
    exact bad_first hbad qE
  obtain ⟨p, a, ws, rfl, hS, hp1, hp, hl, hw, qP, qC⟩ := h
  unfold der_parked; dsimp only
  refine q_drop (ev_call (ea_cons (ev_var rfl) (ea_cons (ev_var rfl) ea_nil)) (sv_asked hp1 (by omega) hS hl hw)) fun H1 e1 => ?_
  refine q_asg (ev_call (ea_cons (ev_var rfl) (ea_cons (ev_var rfl) ea_nil)) (sv_crowd (ex_l e1 hS) (by omega) hw)) fun H2 e2 => ?_
  have e12 := e1.trans e2
  refine q_when (b := decide (0 ≤ crowd p ws)) (et_test (ev_cmp (ev_var rfl) ev_c rfl)) (fun hb H3 e3 => ?_) fun hb H3 e3 => ?_
  · exact s_retP (ep_makeC (i := crowd p ws) (ea_cons (ev_var rfl) ea_nil)) fun v H4 e4 hv => qC (of_decide_eq_true hb) v H4 (e12.trans (e3.trans e4)) hv
  · have hneg : crowd p ws < 0 := by have := of_decide_eq_false hb; omega
    have e13 := e12.trans e3
    refine s_retP (ep_makeP (xs := vn (whereL p ws)) ?_) fun v H4 e4 hv => ?_
    · intro H4 e4 Q' q'
      exact (eap_consL (el_call (vs := [nat p, .ref a]) (ea_cons (ev_var rfl) (ea_cons (ev_var rfl) ea_nil)) (sl_stood (ex_l e13 hS) hp hl hw)) eap_nil) H4 e4 Q' fun vs H5 e5 hv => by
        obtain ⟨l, _, rfl, _, h5, rfl⟩ := hv
        exact q' _ H5 e5 ⟨l, rfl, sq_of h5⟩
    · obtain ⟨x, l, hx, hl2, hP⟩ := hv
      exact qP hneg x l v H4 (e13.trans e4) (fresh_back e13 hx) (fresh_back e13 hl2) hP
/-! ### driven_off, lucky -/
def offL (p : Nat) (L : List Nat) : List Nat := (List.range L.length).filter fun c => decide (L.getD c 0 = p)
def luckL (ws L : List Nat) : List Nat := (List.range ws.length).filter fun c => decide (L.getD c 0 = ws.getD c 0)
theorem filt_len (n : Nat) (f : Nat → Bool) : ((List.range n).filter f).length ≤ n := by
  have := List.length_filter_le f (List.range n)
  rw [List.length_range] at this
  exact this
def spOff (K : PySem.W.Frag) : Sp := fun vs H Q _ => ∃ (p : Nat) (a : Addr) (ws : List Nat), vs = [nat p, .ref a] ∧ SqL K H a (vn ws) ∧ 1 ≤ p ∧ p ≤ 30000 ∧ ws.length ≤ 40000 ∧ (∀ x ∈ ws, x < p) ∧ RetL (vn (offL p (whereL p ws))) H Q
theorem ok_driven_off {fd fd1 fd2 : FuncData} (F : FnP K "driven_off" s_driven_off fd) (B : Bi mg) (C1 : Cal P w K mg base (L2N.CX P w) 2 "asked_wishes" P_asked_wishes (spAsked K) fd1) (C2 : Cal P w K mg base CX0 2 "stood" P_stood (spStood K) fd2) : FnOk P w K mg base (L2N.CX P w) 3 (ga K "driven_off") fd P_driven_off (orBad K (spOff K)) := by
  refine F.okX sc_driven_off (fun vs H Q E h => ?_) (fun cdv A outer s H vs Q E hr h => ⟨der_driven_off B C1 C2 hr, ?_⟩)
  · rcases h with ⟨p, a, ws, rfl, _⟩ | ⟨x, y, rfl, _⟩ <;> rfl
  rcases h with h | ⟨x, y, rfl, hbad, qE⟩
  rotate_left
  · unfold der_driven_off; dsimp only
    exact bad_first hbad qE
  obtain ⟨p, a, ws, rfl, hS, hp1, hp, hl, hw, q⟩ := h
  unfold der_driven_off; dsimp only
  have hwl := whereL_len p ws
  refine q_drop (ev_call (ea_cons (ev_var rfl) (ea_cons (ev_var rfl) ea_nil)) (sv_asked hp1 (by omega) hS hl hw)) fun H1 e1 => ?_
  refine s_retL (xs := vn (offL p (whereL p ws))) ?_ fun l H2 hl2 e2 h2 => q l H2 (fresh_back e1 hl2) (e1.trans e2) h2
  have e : vn (offL p (whereL p ws)) = enumF (whereL p ws) (fun _ y => decide (y = p)) fun i _ => nat i := by
    rw [← given_enum _ _ 0]
    rfl
  rw [e]
  refine el_enNF nat _ _ (el_call (vs := [nat p, .ref a]) (ea_cons (ev_var rfl) (ea_cons (ev_var rfl) ea_nil)) (sl_stood (ex_l e1 hS) hp hl hw)) (by omega) (fun _ _ => rfl) (fun i y H2 e2 hy => ?_) fun i y H2 e2 hy _ => ev_var rfl
  exact et_is (et_test (ev_eqInt (i := (y : Int)) (j := (p : Int)) (ev_var rfl) (ev_var rfl))) (by rw [decide_eq_decide]; omega)
theorem sl_off {H : Hp} {a : Addr} {p : Nat} {ws : List Nat} (h : SqL K H a (vn ws)) (hp1 : 1 ≤ p) (hp : p ≤ 30000) (hl : ws.length ≤ 40000) (hw : ∀ x ∈ ws, x < p) : SpL (spOff K) [nat p, .ref a] H (vn (offL p (whereL p ws))) := fun H1 e Q q E => ⟨p, a, ws, rfl, ex_l e h, hp1, hp, hl, hw, q⟩
def spLuck (K : PySem.W.Frag) : Sp := fun vs H Q _ => ∃ (p : Nat) (a : Addr) (ws : List Nat), vs = [nat p, .ref a] ∧ SqL K H a (vn ws) ∧ 1 ≤ p ∧ p ≤ 30000 ∧ ws.length ≤ 40000 ∧ (∀ x ∈ ws, x < p) ∧ RetL (vn (luckL ws (whereL p ws))) H Q
theorem el_luck {σ : L2.St} {H : Hp} {ta : TA} {i j k : Nat} {a l : Addr} {ws L : List Nat} (h : EvA ta σ H [nat ws.length]) (hw2 : ∀ x, wipe ((wipe σ [k]).set k (some x)) [k] = wipe σ [k]) (hl : L.length = ws.length) (hz : ws.length ≤ 40000)
    (hi : ∀ c : Nat, ((wipe σ [k]).set k (some (nat c)))[i]? = some (some (.ref l))) (hj : ∀ c : Nat, ((wipe σ [k]).set k (some (nat c)))[j]? = some (some (.ref a))) (hk : ∀ c : Nat, ((wipe σ [k]).set k (some (nat c)))[k]? = some (some (nat c))) (hL : SqL K H l (vn L)) (hS : SqL K H a (vn ws)) :
    EvL (tLc (iRng1 ta) (gName k) (tTest (tOp rEq (tOp (rIxL K) (tVar i) (tVar k)) (tOp (rIxL K) (tVar j) (tVar k)))) (tVar k) [k]) σ H (vn (luckL ws L)) := by
  have g := el_lcR1 (te := tVar k) (t := tTest (tOp rEq (tOp (rIxL K) (tVar i) (tVar k)) (tOp (rIxL K) (tVar j) (tVar k)))) (j := k) (vs := [k]) (σ := σ) (H := H) (ta := ta) (n := (ws.length : Int)) (fun c => decide (L.getD c 0 = ws.getD c 0)) (fun c => nat c) h ⟨by omega, by omega⟩ hw2 (fun c H2 e2 hc => ?_) (fun c H2 e2 hc _ => ev_var (hk c))
  · rw [Int.toNat_natCast] at g
    exact g
  · exact et_is (et_test (ev_eqInt (i := (L.getD c 0 : Nat)) (j := (ws.getD c 0 : Nat)) (ev_ixN (ev_var (hi c)) (ev_var (hk c)) (ex_l e2 hL) (vn_get (getD_get (by omega)))) (ev_ixN (ev_var (hj c)) (ev_var (hk c)) (ex_l e2 hS) (vn_get (getD_get (by omega)))))) (by rw [decide_eq_decide]; omega)
theorem ok_lucky {fd fd1 fd2 : FuncData} (F : FnP K "lucky" s_lucky fd) (B : Bi mg) (C1 : Cal P w K mg base (L2N.CX P w) 2 "asked_wishes" P_asked_wishes (spAsked K) fd1) (C2 : Cal P w K mg base CX0 2 "stood" P_stood (spStood K) fd2) : FnOk P w K mg base (L2N.CX P w) 3 (ga K "lucky") fd P_lucky (orBad K (spLuck K)) := by
  refine F.okX sc_lucky (fun vs H Q E h => ?_) (fun cdv A outer s H vs Q E hr h => ⟨der_lucky B C1 C2 hr, ?_⟩)
  · rcases h with ⟨p, a, ws, rfl, _⟩ | ⟨x, y, rfl, _⟩ <;> rfl
  rcases h with h | ⟨x, y, rfl, hbad, qE⟩
  rotate_left
  · unfold der_lucky; dsimp only
    exact bad_first hbad qE
  obtain ⟨p, a, ws, rfl, hS, hp1, hp, hl, hw, q⟩ := h
  unfold der_lucky; dsimp only
  have hwl := whereL_len p ws
  refine q_drop (ev_call (ea_cons (ev_var rfl) (ea_cons (ev_var rfl) ea_nil)) (sv_asked hp1 (by omega) hS hl hw)) fun H1 e1 => ?_
  refine q_asgL (el_call (vs := [nat p, .ref a]) (ea_cons (ev_var rfl) (ea_cons (ev_var rfl) ea_nil)) (sl_stood (ex_l e1 hS) hp hl hw)) fun lo H2 hlo e2 h2 => ?_
  have e12 := e1.trans e2
  exact s_retL (el_luck (ea_cons (ev_lenS (ev_var rfl) (ex_l e12 hS) (by rw [List.length_map])) ea_nil) (fun _ => rfl) hwl hl (fun _ => rfl) (fun _ => rfl) (fun _ => rfl) (sq_of h2) (ex_l e12 hS)) fun l H3 hl3 e3 h3 => q l H3 (fresh_back e12 hl3) (e12.trans e3) h3
theorem sl_luck {H : Hp} {a : Addr} {p : Nat} {ws : List Nat} (h : SqL K H a (vn ws)) (hp1 : 1 ≤ p) (hp : p ≤ 30000) (hl : ws.length ≤ 40000) (hw : ∀ x ∈ ws, x < p) : SpL (spLuck K) [nat p, .ref a] H (vn (luckL ws (whereL p ws))) := fun H1 e Q q E => ⟨p, a, ws, rfl, ex_l e h, hp1, hp, hl, hw, q⟩
theorem vn_apps (xs ys : List Nat) : vn (xs ++ ys) = vn xs ++ vn ys := by
  unfold vn
  rw [List.map_append]
/-! ### taken -/
def spTaken (K : PySem.W.Frag) : Sp := fun vs H Q _ => ∃ (p : Nat) (a : Addr) (ws : List Nat), vs = [nat p, .ref a] ∧ SqL K H a (vn ws) ∧ 1 ≤ p ∧ p ≤ 40000 ∧ ws.length ≤ 40000 ∧ (∀ x ∈ ws, x < p) ∧ RetL (vn (tkn ws p)) H Q
theorem ok_taken {fd fd1 fd2 : FuncData} (F : FnP K "taken" s_taken fd) (B : Bi mg) (C1 : Cal P w K mg base (L2N.CX P w) 2 "asked_wishes" P_asked_wishes (spAsked K) fd1) (C2 : Cal P w K mg base CX0 1 "counted" P_counted (spCounted K) fd2) : FnOk P w K mg base (L2N.CX P w) 3 (ga K "taken") fd P_taken (orBad K (spTaken K)) := by
  refine F.okX sc_taken (fun vs H Q E h => ?_) (fun cdv A outer s H vs Q E hr h => ⟨der_taken B C1 C2 hr, ?_⟩)
  · rcases h with ⟨p, a, ws, rfl, _⟩ | ⟨x, y, rfl, _⟩ <;> rfl
  rcases h with h | ⟨x, y, rfl, hbad, qE⟩
  rotate_left
  · unfold der_taken; dsimp only
    exact bad_first hbad qE
  obtain ⟨p, a, ws, rfl, hS, hp1, hp, hl, hw, q⟩ := h
  unfold der_taken; dsimp only
  refine q_drop (ev_call (ea_cons (ev_var rfl) (ea_cons (ev_var rfl) ea_nil)) (sv_asked hp1 (by omega) hS hl hw)) fun H1 e1 => ?_
  refine q_asgL (el_lst (vs := vn []) ea_nil (Nat.zero_le _)) fun lf H2 hlf e2 h2 => ?_
  have hfn : H lf = none := fresh_back e1 hlf
  refine q_asg (v := nat 0) ev_c fun H3 e3 => ?_
  have e13 := e1.trans (e2.trans e3)
  refine q_forEN nat (ys := cnts p ws) (el_call (ea_cons (ev_var rfl) (ea_cons (ev_var rfl) ea_nil)) (sl_counted (ex_l e13 hS) hp hw)) (fun lc i σ' H' => i ≤ p ∧ ∃ v4 v5, σ' = [some (nat p), some (.ref a), some (.ref lf), some (nat (wq ws i)), v4, v5] ∧ Ex H H' ∧ lc ≠ lf ∧ H' lc = some (.lst (vn (cnts p ws))) ∧ H' lf = some (.lst (vn (tkn ws i)))) (fun lc H4 hlc e4 h4 => ?_) (fun lc i σ' H' hI => ?_) (fun lc i y σ' H' hy hI H5 e5 => ?_) (fun lc σ' H' hI => ?_)
  · exact ⟨Nat.zero_le _, none, none, rfl, e13.trans e4, (ne_of_none (e3 lf _ h2) hlc).symm, h4, e4 lf _ (e3 lf _ h2)⟩
  · obtain ⟨_, v4, v5, rfl, _, _, h4, _⟩ := hI
    exact sq_of h4
  · obtain ⟨_, v4, v5, rfl, e, hne, h4, h5⟩ := hI
    have hi : i < p := by have := (List.getElem?_eq_some_iff.mp hy).1; rw [cnts_len] at this; exact this
    have hyc : y = ws.count i := by rw [cnts_get hi] at hy; exact (Option.some.inj hy).symm
    subst hyc
    have htl := tkn_len ws i
    refine q_asg (v := nat (wq ws i + ws.count i)) (ev_add (i := (wq ws i : Int)) (j := (ws.count i : Int)) (ev_var rfl) (ev_var rfl) (by omega)) fun H6 e6 => ?_
    refine s_when (b := decide (0 < wq ws i + ws.count i)) (et_test (ev_cmp (i := ((wq ws i + ws.count i : Nat) : Int)) (j := 0) (ev_var rfl) ev_c (by rw [decide_eq_decide]; omega))) (fun hb H7 e7 => ?_) fun hb H7 e7 => ?_
    · have hpos := of_decide_eq_true hb
      have e57 := e5.trans (e6.trans e7)
      refine q_app (e57 lf _ h5) (ev_var rfl) (ev_var rfl) (by rw [List.length_map]; omega) fun H8 e8 => ?_
      refine s_asg (v := nat (wq ws (i + 1))) (ev_sub (i := ((wq ws i + ws.count i : Nat) : Int)) (j := 1) (ev_var rfl) ev_c (by show (((wq ws i + ws.count i - 1 : Nat)) : Int) = _; omega)) fun H9 e9 => ?_
      refine ⟨hi, _, _, rfl, (Ex.mut (e.trans (e57.trans e8)) hfn).trans e9, hne, e9 lc _ (by rw [upd_ne hne]; exact e8 lc _ (e57 lc _ h4)), ?_⟩
      rw [e9 lf _ upd_same, tkn_succ, if_pos hpos, vn_apps]
      rfl
    · have hz := of_decide_eq_false hb
      have e57 := e5.trans (e6.trans e7)
      refine ⟨hi, some (nat i), some (nat (ws.count i)), ?_, e.trans e57, hne, e57 lc _ h4, ?_⟩
      · have e0 : wq ws i + ws.count i = wq ws (i + 1) := by show _ = wq ws i + ws.count i - 1; omega
        rw [← e0]
        rfl
      · rw [tkn_succ, if_neg hz]
        exact e57 lf _ h5
  · obtain ⟨_, v4, v5, rfl, e, hne, h4, h5⟩ := hI
    rw [cnts_len] at h5
    exact s_ret (ev_var rfl) fun H6 e6 => q lf H6 hfn (e.trans e6) (e6 lf _ h5)
theorem sl_taken {H : Hp} {a : Addr} {p : Nat} {ws : List Nat} (h : SqL K H a (vn ws)) (hp1 : 1 ≤ p) (hp : p ≤ 40000) (hl : ws.length ≤ 40000) (hw : ∀ x ∈ ws, x < p) : SpL (spTaken K) [nat p, .ref a] H (vn (tkn ws p)) := fun H1 e Q q E => ⟨p, a, ws, rfl, ex_l e h, hp1, hp, hl, hw, q⟩
end
end Pk
namespace Pk
open PySem PySem.Spec PyProof.Rows L2 Evl He
section
variable {P : Program} {w : World} {K : PySem.W.Frag} {mg : Str → Option Value} {base : Heap}
open SX (S)
/-! ### ring -/
def spRing (K : PySem.W.Frag) : Sp := fun vs H Q E => ∃ (p : Nat) (a : Addr) (ws : List Nat), vs = [nat p, .ref a] ∧ SqL K H a (vn ws) ∧ 1 ≤ p ∧ p ≤ 40000 ∧ ws.length ≤ 40000 ∧ (∀ x ∈ ws, x < p) ∧ (ws.length ≤ p → RetL (vn (whereR p ws)) H Q) ∧ (p < ws.length → RetT K "TooMany" H E)
theorem ok_ring {fd fd1 fd2 : FuncData} (F : FnP K "ring" s_ring fd) (B : Bi mg) (C1 : Cal P w K mg base (L2N.CX P w) 2 "asked_wishes" P_asked_wishes (spAsked K) fd1) (C2 : Cal P w K mg base CX0 1 "free_from" P_free_from (spFree K) fd2) (X1 : ExcF K mg "TooMany") : FnOk P w K mg base (L2N.CX P w) 3 (ga K "ring") fd P_ring (orBad K (spRing K)) := by
  refine F.okX sc_ring (fun vs H Q E h => ?_) (fun cdv A outer s H vs Q E hr h => ⟨der_ring B C1 C2 X1 hr, ?_⟩)
  · rcases h with ⟨p, a, ws, rfl, _⟩ | ⟨x, y, rfl, _⟩ <;> rfl
  rcases h with h | ⟨x, y, rfl, hbad, qE⟩
  rotate_left
  · unfold der_ring; dsimp only
    exact bad_first hbad qE
  obtain ⟨p, a, ws, rfl, hS, hp1, hp, hl, hw, q, qE⟩ := h
  unfold der_ring; dsimp only
  refine q_drop (ev_call (ea_cons (ev_var rfl) (ea_cons (ev_var rfl) ea_nil)) (sv_asked hp1 (by omega) hS hl hw)) fun H1 e1 => ?_
  refine q_when (b := decide (p < ws.length)) (et_test (ev_cmp (i := (ws.length : Int)) (j := (p : Int)) (ev_lenS (ev_var rfl) (ex_l e1 hS) (by rw [List.length_map])) (ev_var rfl) (by rw [decide_eq_decide]; omega))) (fun hb H2 e2 => qE (of_decide_eq_true hb) H2 (e1.trans e2)) fun hb H2 e2 => ?_
  have hle : ws.length ≤ p := by have := of_decide_eq_false hb; omega
  refine q_asgL (xs := vn (List.range p)) (el_rng (n := p) nat (ea_cons (ev_var rfl) ea_nil) hp (fun _ => rfl) (fun i H3 e3 hi => ev_var rfl)) fun la H3 hla e3 h3 => ?_
  refine q_asg (ev_var rfl) fun H4 e4 => ?_
  refine q_asgL (el_lst (vs := vn []) ea_nil (Nat.zero_le _)) fun lo H5 hlo e5 h5 => ?_
  have han : H la = none := fresh_back (e1.trans e2) hla
  have e14 : Ex H H4 := e1.trans (e2.trans (e3.trans e4))
  have hon : H lo = none := fresh_back e14 hlo
  have hne : la ≠ lo := ne_of_none (e4 la _ h3) hlo
  refine q_forP nat (ev_var rfl) (ex_l (e14.trans e5) hS) (fun pre σ' H' => ∃ v5 v6 ah, σ' = [some (nat p), some (.ref a), some (.ref la), some (.int ((p : Int) - (pre.length : Int))), some (.ref lo), v5, v6] ∧ Ex H H' ∧ H' la = some (.lst (vn ah)) ∧ H' lo = some (.lst (vn (whereR p pre))) ∧ (pre.length < p → Fr p (rnf (whereR p pre) p) (rdist (whereR p pre) p) ah)) (fun H6 e6 => ?_) (fun pre σ' H' hI => ?_) (fun pre y post σ' H' hy hI => ?_) (fun σ' H' hI => ?_)
  · refine ⟨none, none, List.range p, ?_, e14.trans (e5.trans e6), e6 la _ (e5 la _ (e4 la _ h3)), e6 lo _ h5, fun _ => fr_start⟩
    show _ = [_, _, _, some (V.int ((p : Int) - ((0 : Nat) : Int))), _, _, _]
    rw [show (p : Int) - ((0 : Nat) : Int) = (p : Int) by omega]
    rfl
  · obtain ⟨v5, v6, ah, rfl, e, _⟩ := hI
    exact ex_l e hS
  · obtain ⟨v5, v6, ah, rfl, e, h6, h7, hF⟩ := hI
    have hyp : y < p := hw y (by rw [hy]; simp)
    have hpl : pre.length < p := by
      have : ws.length = pre.length + (post.length + 1) := by rw [hy, List.length_append, List.length_cons]
      omega
    have R := hF hpl
    have hwl := whereR_len p pre
    have hsn := whereR_snoc p pre y
    rw [hsn]
    have hfree : HasFree (whereR p pre) p := has_free (by omega)
    generalize whereR p pre = occ at h7 R hwl hfree
    have hfl := rnf_lt (occ := occ) (x := y) (show 0 < p by omega)
    have hff := rnf_free hfree hyp
    refine q_asgX (ea_cons (ev_var rfl) (ea_cons (ev_var rfl) ea_nil)) fun H8 e8 => ?_
    refine ⟨la, y, p, _, _, ah, rfl, e8 la _ h6, R, hyp, fun ah' H9 R' o9 h9 => ?_⟩
    have e09 : Ex H H9 := ot_fresh (e.trans e8) han o9
    have h79 : H9 lo = some (.lst (vn occ)) := o9 lo _ hne.symm (e8 lo _ h7)
    generalize hfe : rnf occ p y = f at hfl hff
    refine q_app (xs := vn occ) h79 (ev_var rfl) (ev_var rfl) (by rw [List.length_map]; omega) fun H10 e10 => ?_
    have h9' : upd H10 lo (.lst (vn occ ++ [nat f])) la = some (.lst (vn ah')) := by rw [upd_ne hne]; exact e10 la _ h9
    have e010 : Ex H (upd H10 lo (.lst (vn occ ++ [nat f]))) := Ex.mut (e09.trans e10) hon
    have hlo10 : upd H10 lo (.lst (vn occ ++ [nat f])) lo = some (.lst (vn (occ ++ [f]))) := by rw [upd_same, vn_app]
    generalize upd H10 lo (.lst (vn occ ++ [nat f])) = G at h9' e010 hlo10
    refine q_asg (v := .int ((p : Int) - ((pre ++ [y]).length : Int))) (ev_sub (ev_var rfl) ev_c (by rw [List.length_append, List.length_singleton]; omega)) fun H11 e11 => ?_
    refine s_when (b := decide ((pre ++ [y]).length < p)) (et_test (ev_cmp (i := (p : Int) - ((pre ++ [y]).length : Int)) (j := 0) (ev_var rfl) ev_c (by rw [decide_eq_decide]; omega))) (fun hb H12 e12 => ?_) fun hb H12 e12 => ?_
    · have hlt := of_decide_eq_true hb
      rw [List.length_append, List.length_singleton] at hlt
      have F2 : HasFree (occ ++ [f]) p := has_free (by rw [List.length_append, List.length_singleton]; omega)
      refine s_setL (j := f) (v := nat ((f + 1) % p)) (e12 la _ (e11 la _ h9')) (ev_mod (j := (p : Int)) (ev_add (ev_var rfl) ev_c rfl) (ev_var rfl) (by omega) (by push_cast; rfl)) (ev_var rfl) (ev_var rfl) (by rw [List.length_map, R'.len]; exact hfl) fun H13 e13 => ?_
      refine ⟨_, _, ah'.set f ((f + 1) % p), rfl, Ex.mut (e010.trans (e11.trans (e12.trans e13))) han, ?_, ?_, fun _ => fr_more R' F2 hfl hff⟩
      · rw [upd_same]
        unfold vn
        rw [List.map_set]
      · rw [upd_ne hne.symm]
        exact e13 lo _ (e12 lo _ (e11 lo _ hlo10))
    · exact ⟨_, _, ah', rfl, e010.trans (e11.trans e12), e12 la _ (e11 la _ h9'), e12 lo _ (e11 lo _ hlo10), fun h => absurd (decide_eq_true h) (by rw [hb]; decide)⟩
  · obtain ⟨v5, v6, ah, rfl, e, h6, h7, _⟩ := hI
    exact s_ret (ev_var rfl) fun H8 e8 => q hle lo H8 hon (e.trans e8) (e8 lo _ h7)
theorem sl_ring {H : Hp} {a : Addr} {p : Nat} {ws : List Nat} (h : SqL K H a (vn ws)) (hp1 : 1 ≤ p) (hp : p ≤ 40000) (hl : ws.length ≤ p) (hw : ∀ x ∈ ws, x < p) : SpL (spRing K) [nat p, .ref a] H (vn (whereR p ws)) := fun H1 e Q q E => ⟨p, a, ws, rfl, ex_l e h, hp1, hp, by omega, hw, fun _ => q, fun z => absurd hl (Nat.not_le.mpr z)⟩
/-! ### as_list, all_parked, of any -/
def spAsListV (K : PySem.W.Frag) : Sp := fun vs H Q _ => ∃ (a : Addr) (xs : List V), vs = [.ref a] ∧ SqL K H a xs ∧ RetV (.ref a) H Q
def spAsList (K : PySem.W.Frag) : Sp := fun vs H Q E => spAsListV K vs H Q E ∨ ∃ x k, vs = [x] ∧ IsK K H x k ∧ k.isL = false ∧ RetT K "BadWishes" H E
theorem ok_as_list {fd : FuncData} (F : FnP K "as_list" s_as_list fd) (B : Bi mg) (X1 : ExcF K mg "BadWishes") : FnOk P w K mg base (L2N.CX P w) 1 (ga K "as_list") fd P_as_list (spAsList K) := by
  refine F.okX sc_as_list (fun vs H Q E h => ?_) (fun cdv A outer s H vs Q E hr h => ⟨der_as_list B X1 hr, ?_⟩)
  · rcases h with ⟨a, xs, rfl, _⟩ | ⟨x, k, rfl, _⟩ <;> rfl
  rcases h with ⟨a, xs, rfl, hS, q⟩ | ⟨x, k, rfl, hk, hb, qE⟩
  · unfold der_as_list; dsimp only
    refine q_when (et_not (et_B (ev_cb (ea_cons (ev_var rfl) (ea_cons ev_c ea_nil)) (isi_list (k := true) hS "list" (by decide +kernel))))) (fun h => by cases h) fun _ H1 e1 => ?_
    exact s_ret (ev_var rfl) fun H2 e2 => q H2 (e1.trans e2)
  · unfold der_as_list; dsimp only
    have tl := ev_cb (σ := L2.start N_as_list [x]) (H := H) (ea_cons (ev_var (i := 0) rfl) (ea_cons ev_c ea_nil)) (isi_k hk "list" (kit_list k))
    rw [hb] at tl
    exact q_when (b := !false) (et_not (et_B tl)) (fun _ H1 e1 => qE H1 e1) fun z => by cases z
theorem sv_asList {H : Hp} {a : Addr} {xs : List V} (h : SqL K H a xs) : SpV (spAsList K) [.ref a] H (.ref a) := fun H1 e Q q E => .inl ⟨a, xs, rfl, ex_l e h, q⟩
/-- no list of numbers 0 .. m -/
def BadL (K : PySem.W.Frag) (H : Hp) (x : V) (m : Nat → Int) : Prop := ∃ k, IsK K H x k ∧ (k.isL = false ∨ ∃ xs ks, k = .lst xs ∧ AllK K H xs ks ∧ xs.length ≤ 20000 ∧ allN 0 (m xs.length) ks = false)
def spAllParkedV (K : PySem.W.Frag) : Sp := fun vs H Q E => ∃ (a : Addr) (ws : List Nat), vs = [.ref a] ∧ SqL K H a (vn ws) ∧ ws.length ≤ 40000 ∧ (∀ x ∈ ws, x < ws.length) ∧ (Full ws → RetV .non H Q) ∧ (¬ Full ws → RetT K "TooMany" H E)
def spAllParked (K : PySem.W.Frag) : Sp := fun vs H Q E => spAllParkedV K vs H Q E ∨ ∃ (a : Addr) (xs : List V) (ks : List Kd), vs = [.ref a] ∧ SqL K H a xs ∧ AllK K H xs ks ∧ xs.length ≤ 20000 ∧ allN 0 (((Nat.max xs.length 1 : Nat) : Int) - 1) ks = false ∧ RetT K "BadWishes" H E
theorem ok_all_parked {fd fd1 fd2 : FuncData} (F : FnP K "all_parked" s_all_parked fd) (B : Bi mg) (C1 : Cal P w K mg base (L2N.CX P w) 2 "asked_wishes" P_asked_wishes (spAsked K) fd1) (C2 : Cal P w K mg base CX0 2 "crowd_of" P_crowd_of (spCrowd K) fd2) (X1 : ExcF K mg "TooMany") :
    FnOk P w K mg base (L2N.CX P w) 3 (ga K "all_parked") fd P_all_parked (spAllParked K) := by
  refine F.okX sc_all_parked (fun vs H Q E h => ?_) (fun cdv A outer s H vs Q E hr h => ⟨der_all_parked B C1 C2 X1 hr, ?_⟩)
  · rcases h with ⟨a, ws, rfl, _⟩ | ⟨a, xs, ks, rfl, _⟩ <;> rfl
  rcases h with h | ⟨a, xs, ks, rfl, hS, hk, hz, hn, qE⟩
  rotate_left
  · unfold der_all_parked; dsimp only
    refine q_callX (vs := [nat (Nat.max xs.length 1), .ref a]) (ea_cons (ev_maxN (ev_lenS (ev_var rfl) hS rfl) (ev_c (v := nat 1)) rfl) (ea_cons (ev_var rfl) ea_nil)) fun H1 e1 => .inr ⟨_, _, rfl, ⟨.int (Nat.max xs.length 1 : Nat), .lst xs, rfl, ⟨a, rfl, ex_l e1 hS⟩, .inr ⟨_, rfl, .inr ⟨xs, ks, rfl, hk.ex e1, by omega, hn⟩⟩⟩, fun H2 e2 => qE H2 (e1.trans e2)⟩
  obtain ⟨a, ws, rfl, hS, hl, hw, q, qE⟩ := h
  unfold der_all_parked; dsimp only
  have hm : ∀ x ∈ ws, x < Nat.max ws.length 1 := fun x hx => Nat.lt_of_lt_of_le (hw x hx) (Nat.le_max_left _ _)
  have hm1 : 1 ≤ Nat.max ws.length 1 := Nat.le_max_right _ _
  have hm2 : Nat.max ws.length 1 ≤ 1000000 := Nat.max_le.mpr ⟨by omega, by omega⟩
  refine q_drop (ev_call (vs := [nat (Nat.max ws.length 1), .ref a]) (ea_cons (ev_maxN (ev_lenS (ev_var rfl) hS (by rw [List.length_map])) (ev_c (v := nat 1)) rfl) (ea_cons (ev_var rfl) ea_nil)) (sv_asked hm1 hm2 hS hl hm)) fun H1 e1 => ?_
  have t1 : Ev (tOp (rNeD K) (tVar 0) (tLst tNil)) (L2.start N_all_parked [.ref a]) H1 (.bl (!decide (ws = []))) := ev_neLN (ms := []) (ev_var rfl) (ex_l e1 hS) (el_lst ea_nil (Nat.zero_le _))
  refine s_when (et_and (et_test t1) fun _ => et_test (ev_cmp (b := decide (0 ≤ crowd ws.length ws)) (ev_call (vs := [nat ws.length, .ref a]) (ea_cons (ev_lenS (ev_var rfl) (ex_l e1 hS) (by rw [List.length_map])) (ea_cons (ev_var rfl) ea_nil)) (sv_crowd (ex_l e1 hS) hl hw)) ev_c rfl)) (fun h H2 e2 => ?_) fun h H2 e2 => ?_
  · rw [Bool.and_eq_true, decide_eq_true_eq] at h
    refine qE (fun F => ?_) H2 (e1.trans e2)
    have := crowd_no F.no
    omega
  · refine q ?_ H2 (e1.trans e2)
    by_cases he : ws = []
    · subst he
      exact ⟨hw, fun i hi => by have : i = 0 := Nat.le_zero.mp hi
                                omega⟩
    · have h2 : decide (0 ≤ crowd ws.length ws) = false := by simpa [he] using h
      exact Full.of hw (crowd_neg.mp (by have := of_decide_eq_false h2; omega))
theorem sp_allParked {H : Hp} {a : Addr} {ws : List Nat} {Q : VK} {E : XK} (h : SqL K H a (vn ws)) (hl : ws.length ≤ 40000) (hw : ∀ x ∈ ws, x < ws.length) (q : Full ws → RetV .non H Q) (qE : ¬ Full ws → RetT K "TooMany" H E) : spAllParked K [.ref a] H Q E := .inl ⟨a, ws, rfl, h, hl, hw, q, qE⟩
/-- all_parked(as_list(x)) lets BadWishes out -/
def mW (n : Nat) : Int := ((Nat.max n 1 : Nat) : Int) - 1
def orBadL (K : PySem.W.Frag) (m : Nat → Int) (sp : Sp) : Sp := fun vs H Q E => sp vs H Q E ∨ ∃ x, vs = [x] ∧ BadL K H x m ∧ RetT K "BadWishes" H E
theorem s_argX {σ : L2.St} {H : Hp} {D : Ends} {sp1 sp2 : Sp} {dvs vs : List V} {E1 E2 : XK} {ta tr : TA} (ha : EvA ta σ H vs) (k : ∀ H1, Ex H H1 → ∀ Q, sp2 vs H1 Q E2) : tDrop (tCall sp1 dvs E1 (tCons (tCall sp2 [] E2 ta) tr)) D σ H := ha H (Ex.refl H) _ fun H1 e1 => by
  have h := k H1 e1
  show sp2 (vs ++ []) H1 _ E2
  rw [List.append_nil]
  exact h _
theorem badL_first {x : V} {rest : L2.St} {E : XK} {D : Ends} {tz : TS} {H : Hp} (hb : BadL K H x mW) (qE : RetT K "BadWishes" H E) : tSeq (tDrop (tCall (spAllParked K) [] E (tCons (tCall (spAsList K) [] E (tCons (tVar 0) tNil)) tNil))) tz D (some x :: rest) H := by
  obtain ⟨k, hk, hb | ⟨xs, ks, rfl, hK, hz, hn⟩⟩ := hb
  · exact s_argX (D := { D with nx := tz D }) (vs := [x]) (ea_cons (ev_var rfl) ea_nil) fun H1 e1 Q => .inr ⟨x, k, rfl, hk.ex e1, hb, fun H2 e2 => qE H2 (e1.trans e2)⟩
  · obtain ⟨a, rfl, hS⟩ := hk
    exact q_callX (ea_cons (ev_call (ea_cons (ev_var rfl) ea_nil) (sv_asList hS)) ea_nil) fun H1 e1 => .inr ⟨a, xs, ks, rfl, ex_l e1 hS, hK.ex e1, hz, hn, fun H2 e2 => qE H2 (e1.trans e2)⟩
end
end Pk
namespace Pk
open PySem PySem.Spec PyProof.Rows L2 Evl He
section
variable {P : Program} {w : World} {K : PySem.W.Frag} {mg : Str → Option Value} {base : Heap}
open SX (S)
def spDrives (K : PySem.W.Frag) : Sp := fun vs H Q E => ∃ (a : Addr) (ws : List Nat), vs = [.ref a] ∧ SqL K H a (vn ws) ∧ ws.length ≤ 40000 ∧ (∀ x ∈ ws, x < ws.length) ∧ (Full ws → RetV (.int (drv ws)) H Q) ∧ (¬ Full ws → RetT K "TooMany" H E)
theorem ok_drives {fd fd1 fd2 : FuncData} (F : FnP K "drives" s_drives fd) (B : Bi mg) (C1 : Cal P w K mg base (L2N.CX P w) 3 "all_parked" P_all_parked (spAllParked K) fd1) (C2 : Cal P w K mg base (L2N.CX P w) 1 "as_list" P_as_list (spAsList K) fd2) :
    FnOk P w K mg base (L2N.CX P w) 4 (ga K "drives") fd P_drives (orBadL K mW (spDrives K)) := by
  refine F.okX sc_drives (fun vs H Q E h => ?_) (fun cdv A outer s H vs Q E hr h => ⟨der_drives B C1 C2 hr, ?_⟩)
  · rcases h with ⟨a, ws, rfl, _⟩ | ⟨x, rfl, _⟩ <;> rfl
  rcases h with h | ⟨x, rfl, hbad, qE⟩
  rotate_left
  · unfold der_drives; dsimp only
    exact badL_first hbad qE
  obtain ⟨a, ws, rfl, hS, hl, hw, q, qE⟩ := h
  unfold der_drives; dsimp only
  refine q_callX (ea_cons (ev_call (ea_cons (ev_var rfl) ea_nil) (sv_asList hS)) ea_nil) fun H1 e1 => ?_
  refine sp_allParked (ex_l e1 hS) hl hw (fun hF H2 e2 => ?_) fun hF H2 e2 => qE hF H2 (e1.trans e2)
  have e3 := e1.trans e2
  have tl : Ev (tCB (rLenS K) (tCons (tVar 0) tNil)) (L2.start N_drives [.ref a]) H2 (.int (ws.length : Int)) := ev_lenS (ev_var rfl) (ex_l e3 hS) (by rw [List.length_map])
  refine s_ret (v := .int (drv ws)) ?_ fun H4 e4 => q hF H4 (e3.trans e4)
  exact ev_sub (ev_div (ev_mul tl (ev_sub tl ev_c rfl) (.inl ⟨by omega, by omega⟩) rfl) ev_c ⟨by decide, by decide⟩ rfl) (ev_sumN (ev_var rfl) (ex_l e3 hS)) rfl
theorem lit_u : (Str.ofString "u") = S [117] := by rfl
theorem lit_d : (Str.ofString "d") = S [100] := by rfl
theorem lit_nil : (Str.ofString "") = S [] := by rfl
theorem ev_lit {σ : L2.St} {H : Hp} {z : Str} {cs : List Nat} (h : z = S cs) : Ev (tC (.str z)) σ H (.str (S cs)) := ev_is ev_c (by rw [h])
theorem joinL_nil : ∀ ys : List (List Nat), TL.joinL [] ys = ys.flatten
  | [] => rfl
  | [p] => by simp [TL.joinL]
  | p :: q :: r => by
    show p ++ ([] ++ TL.joinL [] (q :: r)) = _
    rw [joinL_nil (q :: r)]
    rfl
theorem pathL_len : ∀ cs : List Nat, (pathL cs).length = cs.sum + cs.length
  | [] => rfl
  | c :: r => by
    rw [pathL_cons, List.length_append, List.length_replicate, List.length_cons, pathL_len r, List.sum_cons, List.length_cons]
    omega
theorem cnts_sum {ws : List Nat} {p : Nat} (h : ∀ x ∈ ws, x < p) : (cnts p ws).sum = ws.length := by
  have key : ∀ k, ((List.range k).map fun i => ws.count i).sum = lt ws k := by
    intro k
    induction k with
    | zero => rw [lt_zero]; rfl
    | succ k ih =>
      rw [List.range_succ, List.map_append, List.sum_append, ih, lt_succ]
      simp
  unfold cnts
  rw [key, lt_all h]
theorem steps_len (cs : List Nat) : ((cs.map step1).map (·.length)).sum = cs.sum + cs.length := by
  induction cs with
  | nil => rfl
  | cons c r ih =>
    rw [List.map_cons, List.map_cons, List.sum_cons, ih, List.sum_cons, List.length_cons]
    unfold step1
    rw [List.length_append, List.length_replicate]
    simp only [List.length_singleton]
    omega
theorem mem_le_sum : ∀ {l : List Nat} {x : Nat}, x ∈ l → x ≤ l.sum
  | y :: r, x, h => by
    rw [List.sum_cons]
    rcases List.mem_cons.mp h with e | h
    · omega
    · have := mem_le_sum h
      omega
theorem S_eq {a b : List Nat} : decide (V.str (S a) = V.str (S b)) = decide (a = b) := by
  rw [decide_eq_decide]
  exact ⟨fun h => SX.S_inj (V.str.inj h), fun h => by rw [h]⟩
theorem ev_eqS {σ : L2.St} {H : Hp} {ta tb : TE} {a b : List Nat} (ha : Ev ta σ H (.str (S a))) (hb : Ev tb σ H (.str (S b))) : Ev (tOp rEq ta tb) σ H (.bl (decide (a = b))) := by
  have k := ev_op (r := rEq) ha hb (rv_eq rfl)
  rw [S_eq] at k
  exact k
theorem ev_neS {σ : L2.St} {H : Hp} {ta tb : TE} {a b : List Nat} (ha : Ev ta σ H (.str (S a))) (hb : Ev tb σ H (.str (S b))) : Ev (tOp rNe ta tb) σ H (.bl (!decide (a = b))) := by
  have k := ev_op (r := rNe) ha hb (rv_ne rfl)
  rw [S_eq] at k
  exact k
theorem one_eq {a b : Nat} : decide ([a] = [b]) = decide (a = b) := by
  rw [decide_eq_decide]
  exact ⟨fun h => by injection h, fun h => by rw [h]⟩
/-! ### path -/
def spPath (K : PySem.W.Frag) : Sp := fun vs H Q E => ∃ (a : Addr) (ws : List Nat), vs = [.ref a] ∧ SqL K H a (vn ws) ∧ ws.length ≤ 20000 ∧ (∀ x ∈ ws, x < ws.length) ∧ (Full ws → RetV (.str (S (pathL (cnts ws.length ws)))) H Q) ∧ (¬ Full ws → RetT K "TooMany" H E)
theorem ok_path {fd fd1 fd2 fd3 : FuncData} (F : FnP K "path" s_path fd) (B : Bi mg) (C1 : Cal P w K mg base (L2N.CX P w) 3 "all_parked" P_all_parked (spAllParked K) fd1) (C2 : Cal P w K mg base (L2N.CX P w) 1 "as_list" P_as_list (spAsList K) fd2) (C3 : Cal P w K mg base CX0 1 "counted" P_counted (spCounted K) fd3) :
    FnOk P w K mg base (L2N.CX P w) 4 (ga K "path") fd P_path (orBadL K mW (spPath K)) := by
  refine F.okX sc_path (fun vs H Q E h => ?_) (fun cdv A outer s H vs Q E hr h => ⟨der_path B C1 C2 C3 hr, ?_⟩)
  · rcases h with ⟨a, ws, rfl, _⟩ | ⟨x, rfl, _⟩ <;> rfl
  rcases h with h | ⟨x, rfl, hbad, qE⟩
  rotate_left
  · unfold der_path; dsimp only
    exact badL_first hbad qE
  obtain ⟨a, ws, rfl, hS, hl, hw, q, qE⟩ := h
  unfold der_path; dsimp only
  refine q_callX (ea_cons (ev_call (ea_cons (ev_var rfl) ea_nil) (sv_asList hS)) ea_nil) fun H1 e1 => ?_
  refine sp_allParked (ex_l e1 hS) (by omega) hw (fun hF H2 e2 => ?_) fun hF H2 e2 => qE hF H2 (e1.trans e2)
  have e3 := e1.trans e2
  refine q_when (et_test (ev_eqLN (ms := []) (ev_var rfl) (ex_l e3 hS) (el_lst ea_nil (Nat.zero_le _)))) (fun h H4 e4 => ?_) fun h H4 e4 => ?_
  · have hn := of_decide_eq_true h
    subst hn
    exact s_ret (ev_lit lit_nil) fun H5 e5 => q hF H5 ((e3.trans e4).trans e5)
  · have e5 := e3.trans e4
    have hz : ((cnts ws.length ws).map step1).length ≤ 40000 := by rw [List.length_map, cnts_len]; omega
    have hs := cnts_sum hw
    have tl : EvL (tLc (iList K (tCall (spCounted K) [] E0 (tCons (tCB (rLenS K) (tCons (tVar 0) tNil)) (tCons (tVar 0) tNil)))) (gName 1) tYes (tOp (fun x y H Q => ∃ i j, x = .str i ∧ y = .str j ∧ i.length + j.length ≤ sizeLine ∧ Q (.str (i ++ j)) H) (tOp rMulS (tC (.str (Str.ofString "u"))) (tVar 1)) (tC (.str (Str.ofString "d")))) [1]) (L2.start N_path [.ref a]) H4 (((cnts ws.length ws).map step1).map fun y => V.str (S y)) := by
      rw [List.map_map]
      refine el_nl nat _ (el_call (vs := [nat ws.length, .ref a]) (ea_cons (ev_lenS (ev_var rfl) (ex_l e5 hS) (by rw [List.length_map])) (ea_cons (ev_var rfl) ea_nil)) (sl_counted (ex_l e5 hS) (by omega) hw)) (by rw [cnts_len]; omega) (fun _ => rfl) fun i y H6 e6 hy => ?_
      have hy2 : y ≤ ws.length := by
        have h1 : y ≤ (cnts ws.length ws).sum := mem_le_sum (List.mem_of_getElem? hy)
        omega
      exact ev_catS (a := List.replicate y 117) (b := [100]) (ev_mulS (ev_lit lit_u) (ev_var rfl) (by omega)) (ev_lit lit_d) (by rw [List.length_replicate]; simp only [List.length_singleton]; omega)
    have tj := ev_joinL (K := K) (ev_lit (σ := L2.start N_path [.ref a]) (H := H4) lit_nil) tl (by rw [steps_len, hs, cnts_len]; simp only [List.length_nil, Nat.mul_zero]; omega)
    rw [joinL_nil] at tj
    exact s_ret tj fun H7 e7 => q hF H7 (e5.trans e7)
/-! ### tree -/
def pkp (ws : List Nat) (k : Nat) (pre : List Nat) : List Nat := (List.range ws.length).map fun c => if ws.getD c 0 < k ∨ (ws.getD c 0 = k ∧ c + 1 ∈ pre) then (sv ws ws.length).getD (ws.getD c 0) 0 else 0
theorem pkp_len (ws : List Nat) (k : Nat) (pre : List Nat) : (pkp ws k pre).length = ws.length := by unfold pkp; rw [List.length_map, List.length_range]
theorem pkp_zero (ws : List Nat) : pkp ws 0 [] = ws.map fun _ => 0 := by
  unfold pkp
  refine List.ext_getElem? fun c => ?_
  rw [List.getElem?_map, List.getElem?_map]
  by_cases h : c < ws.length
  · rw [List.getElem?_range h, List.getElem?_eq_getElem h]
    simp
  · rw [List.getElem?_eq_none (by rw [List.length_range]; omega), List.getElem?_eq_none (by omega)]
    rfl
theorem pkp_next (ws : List Nat) (k : Nat) : pkp ws k (chl ws k) = pkp ws (k + 1) [] := by
  unfold pkp
  refine List.map_congr_left fun c hc => ?_
  have hc2 := List.mem_range.mp hc
  have e : (ws.getD c 0 < k ∨ (ws.getD c 0 = k ∧ c + 1 ∈ chl ws k)) ↔ (ws.getD c 0 < k + 1 ∨ (ws.getD c 0 = k + 1 ∧ c + 1 ∈ ([] : List Nat))) := by
    constructor
    · rintro (h | ⟨h, _⟩)
      · exact .inl (by omega)
      · exact .inl (by omega)
    · rintro (h | ⟨_, h⟩)
      · by_cases q : ws.getD c 0 = k
        · exact .inr ⟨q, mem_chl.mpr ⟨c, hc2, q, rfl⟩⟩
        · exact .inl (by omega)
      · cases h
  simp only [e]
theorem pkp_set {ws : List Nat} {k c : Nat} {pre : List Nat} (hc : c < ws.length) (hk : ws.getD c 0 = k) : (pkp ws k pre).set c ((sv ws ws.length).getD k 0) = pkp ws k (pre ++ [c + 1]) := by
  refine List.ext_getElem? fun i => ?_
  by_cases hi : i < ws.length
  · by_cases e : c = i
    · subst e
      rw [List.getElem?_set_self (by rw [pkp_len]; exact hi)]
      unfold pkp
      rw [List.getElem?_map, List.getElem?_range hi]
      show _ = some (if _ then _ else _)
      rw [if_pos (.inr ⟨hk, by simp⟩), hk]
    · rw [List.getElem?_set_ne e]
      unfold pkp
      rw [List.getElem?_map, List.getElem?_map, List.getElem?_range hi]
      have : (i + 1 ∈ pre ++ [c + 1]) = (i + 1 ∈ pre) := by simp [show i ≠ c from fun q => e q.symm]
      show some (if _ then _ else _) = some (if _ then _ else _)
      simp only [this]
  · rw [List.getElem?_eq_none (by rw [List.length_set, pkp_len]; omega), List.getElem?_eq_none (by rw [pkp_len]; omega)]
theorem pkp_all {ws : List Nat} (hw : ∀ x ∈ ws, x < ws.length) : pkp ws ws.length [] = treeL ws := by
  unfold pkp treeL
  refine List.ext_getElem? fun c => ?_
  rw [List.getElem?_map, List.getElem?_map]
  by_cases h : c < ws.length
  · rw [List.getElem?_range h, getD_of h]
    show some (if _ then _ else _) = some _
    rw [if_pos (.inl (hw _ (List.mem_of_getElem? (getD_of h))))]
  · rw [List.getElem?_eq_none (by rw [List.length_range]; omega), List.getElem?_eq_none (by omega)]
    rfl
def spTree (K : PySem.W.Frag) : Sp := fun vs H Q E => ∃ (a : Addr) (ws : List Nat), vs = [.ref a] ∧ SqL K H a (vn ws) ∧ ws.length ≤ 20000 ∧ (∀ x ∈ ws, x < ws.length) ∧ (Full ws → RetL (vn (treeL ws)) H Q) ∧ (¬ Full ws → RetT K "TooMany" H E)
theorem ok_tree {fd fd1 fd2 : FuncData} (F : FnP K "tree" s_tree fd) (B : Bi mg) (C1 : Cal P w K mg base (L2N.CX P w) 3 "all_parked" P_all_parked (spAllParked K) fd1) (C2 : Cal P w K mg base (L2N.CX P w) 1 "as_list" P_as_list (spAsList K) fd2) :
    FnOk P w K mg base (L2N.CX P w) 4 (ga K "tree") fd P_tree (orBadL K mW (spTree K)) := by
  refine F.okX sc_tree (fun vs H Q E h => ?_) (fun cdv A outer s H vs Q E hr h => ⟨der_tree B C1 C2 hr, ?_⟩)
  · rcases h with ⟨a, ws, rfl, _⟩ | ⟨x, rfl, _⟩ <;> rfl
  rcases h with h | ⟨x, rfl, hbad, qE⟩
  rotate_left
  · unfold der_tree; dsimp only
    exact badL_first hbad qE
  obtain ⟨a, ws, rfl, hS, hl, hw, q, qE⟩ := h
  unfold der_tree; dsimp only
  refine q_callX (ea_cons (ev_call (ea_cons (ev_var rfl) ea_nil) (sv_asList hS)) ea_nil) fun H1 e1 => ?_
  refine sp_allParked (ex_l e1 hS) (by omega) hw (fun hF H2 e2 => ?_) fun hF H2 e2 => qE hF H2 (e1.trans e2)
  have e12 := e1.trans e2
  refine q_asgP (ep_listsL (xs := vn ws) (ev_var rfl) (ex_l e12 hS) (by rw [List.length_map]; omega) (fun _ => rfl)) fun v H3 e3 hv => ?_
  obtain ⟨lc, as, rfl, hal, L⟩ := hv
  rw [List.length_map] at hal
  refine q_chl (H0 := H2) (ex_l e12 hS) hw L hal e3 (by omega) fun v2 v3 H4 e4 L4 => ?_
  refine q_asgL (el_lst (vs := vn [0]) (ea_cons (x := nat 0) ev_c ea_nil) (by decide)) fun ls H5 hls e5 h5 => ?_
  have L5 := L4.ex e5
  refine q_asgL (xs := vn (pkp ws 0 [])) ?_ fun lp H6 hlp e6 h6 => ?_
  · rw [pkp_zero]
    unfold vn
    rw [List.map_map]
    exact el_ls nat _ (ev_var rfl) (ex_l (e12.trans (e4.trans e5)) hS) (by omega) (fun _ => rfl) fun i y H6 e6 hy => ev_c
  have L6 := L5.ex e6
  obtain ⟨ns1, ns2⟩ := L4.ne_none hls
  obtain ⟨np1, np2⟩ := L5.ne_none hlp
  have hsp : ls ≠ lp := ne_of_none h5 hlp
  have hsn : H2 ls = none := fresh_back e4 hls
  have hpn : H2 lp = none := fresh_back (e4.trans e5) hlp
  refine q_forR (n := ws.length) (ea_cons (ev_lenS (ev_var rfl) (ex_l (e12.trans (e4.trans (e5.trans e6))) hS) (by rw [List.length_map])) ea_nil) (by omega) (fun k σ' H' => ∃ w2 w3 w6 w7, σ' = [some (.ref a), some (.ref lc), w2, w3, some (.ref ls), some (.ref lp), w6, w7] ∧ Ex H2 H' ∧ LL H2 H' lc as (chl ws) ∧ H' ls = some (.lst (vn (sv ws k))) ∧ H' lp = some (.lst (vn (pkp ws k [])))) (fun H7 e7 => ?_) (fun k σ' H' hk hI => ?_) (fun σ' H' hI => ?_)
  · exact ⟨_, _, none, none, rfl, e4.trans (e5.trans (e6.trans e7)), L6.ex e7, e7 ls _ (e6 ls _ h5), e7 lp _ h6⟩
  · obtain ⟨w2, w3, w6, w7, rfl, e7, L7, h7, h8⟩ := hI
    have hka : as[k]? = some as[k] := List.getElem?_eq_getElem (by omega)
    have hks : k < (sv ws k).length := by rw [sv_len]; have := hF.up k (by omega); omega
    refine s_forP nat (a := as[k]) (ys := chl ws k) (ev_ixN (i := k) (ev_var rfl) (ev_var rfl) (sq_of L7.top) (by rw [List.getElem?_map, hka]; rfl)) (sq_of (L7.row k _ hka)) (fun pre σ' H' => ∃ w7, σ' = [some (.ref a), some (.ref lc), w2, w3, some (.ref ls), some (.ref lp), some (nat k), w7] ∧ Ex H2 H' ∧ LL H2 H' lc as (chl ws) ∧ H' ls = some (.lst (vn (sv ws k ++ pre))) ∧ H' lp = some (.lst (vn (pkp ws k pre)))) (fun H8 e8 => ?_) (fun pre σ' H' hI => ?_) (fun pre y post σ' H' hy hI => ?_) (fun σ' H' hI => ?_)
    · exact ⟨w7, rfl, e7.trans e8, L7.ex e8, by rw [List.append_nil]; exact e8 ls _ h7, e8 lp _ h8⟩
    · obtain ⟨w7, rfl, e8, L8, _⟩ := hI
      exact sq_of (L8.row k _ hka)
    · obtain ⟨w7, rfl, e8, L8, h9, h10⟩ := hI
      have hym : y ∈ chl ws k := by rw [hy]; simp
      obtain ⟨c, hc, hck, rfl⟩ := mem_chl.mp hym
      have hg : (vn (sv ws k ++ pre))[k]? = some (nat ((sv ws ws.length).getD k 0)) := by
        refine vn_get ?_
        rw [List.getElem?_append_left hks, getD_get hks, sv_get (k := k) (k' := ws.length) (by omega) hks]
      have hpl : pre.length ≤ ws.length := by
        have h1 : (chl ws k).length = ws.count k := chl_len ws k
        have h2 : ws.count k ≤ ws.length := List.count_le_length
        have h3 : (chl ws k).length = pre.length + (post.length + 1) := by rw [hy, List.length_append, List.length_cons]
        omega
      have hsl : (sv ws k).length ≤ 1 + ws.length := by rw [sv_len]; have := lt_le ws k; omega
      refine q_setL (j := c) (v := nat ((sv ws ws.length).getD k 0)) h10 (ev_ixN (ev_var rfl) (ev_var rfl) (sq_of h9) hg) (ev_var rfl) (ev_sub (i := ((c + 1 : Nat) : Int)) (j := 1) (ev_var rfl) ev_c (by omega)) (by rw [List.length_map, pkp_len]; exact hc) fun H9 e9 => ?_
      refine s_app (l := ls) (xs := vn (sv ws k ++ pre)) (by rw [upd_ne hsp]; exact e9 ls _ h9) (ev_var rfl) (ev_var rfl) (by rw [List.length_map, List.length_append]; omega) fun H11 e11 => ?_
      refine ⟨_, rfl, Ex.mut ((Ex.mut (e8.trans e9) hpn).trans e11) hsn, (((L8.ex e9).upd np1 np2).ex e11).upd ns1 ns2, ?_, ?_⟩
      · rw [upd_same, ← List.append_assoc, vn_apps (sv ws k ++ pre)]
        rfl
      · rw [upd_ne hsp.symm, e11 lp _ upd_same, ← pkp_set hc hck]
        unfold vn
        rw [List.map_set]
    · obtain ⟨w7, rfl, e8, L8, h9, h10⟩ := hI
      exact ⟨_, _, _, _, rfl, e8, L8, h9, by rw [← pkp_next]; exact h10⟩
  · obtain ⟨w2, w3, w6, w7, rfl, e7, L7, h7, h8⟩ := hI
    rw [pkp_all hw] at h8
    exact s_ret (ev_var rfl) fun H9 e9 => q hF lp H9 (fresh_back e12 hpn) (e12.trans (e7.trans e9)) (e9 lp _ h8)
/-! ### served_by -/
def spServed (K : PySem.W.Frag) : Sp := fun vs H Q _ => ∃ (a : Addr) (ps : List Nat), vs = [.ref a] ∧ SqL K H a (vn ps) ∧ ps.length ≤ 20000 ∧ (∀ x ∈ ps, x < ps.length + 1) ∧ RetL (vn (qAll ps)) H Q
theorem ok_served_by {fd : FuncData} (F : FnP K "served_by" s_served_by fd) (B : Bi mg) : FnOk P w K mg base CX0 1 (ga K "served_by") fd P_served_by (spServed K) := by
  refine F.ok sc_served_by (fun vs H Q E h => ?_) (fun cdv A outer s H vs Q E hr h => ⟨der_served_by B hr, ?_⟩)
  · obtain ⟨a, ps, rfl, _⟩ := h; rfl
  obtain ⟨a, ps, rfl, hS, hl, hw, q⟩ := h
  unfold der_served_by; dsimp only
  refine q_asgP (ep_listsR (n := ps.length + 1) (ea_cons (ev_add (i := (ps.length : Int)) (j := 1) (ev_lenS (ev_var rfl) hS (by rw [List.length_map])) ev_c (by omega)) ea_nil) (by omega) (fun _ => rfl)) fun v H3 e3 hv => ?_
  obtain ⟨lc, as, rfl, hal, L⟩ := hv
  refine q_chl (H0 := H) hS hw L hal e3 (by omega) fun v2 v3 H4 e4 L4 => ?_
  refine q_asgL (el_lst (vs := vn [0]) (ea_cons (x := nat 0) ev_c ea_nil) (by decide)) fun ls H5 hls e5 h5 => ?_
  obtain ⟨ns1, ns2⟩ := L4.ne_none hls
  have hsn : H ls = none := fresh_back e4 hls
  refine q_asg (v := nat 0) ev_c fun H6 e6 => ?_
  refine q_while (fun m σ' H' => ∃ k, m = ps.length + 1 - k ∧ k ≤ (qw ps k).length ∧ σ' = [some (.ref a), some (.ref lc), v2, v3, some (.ref ls), some (nat k)] ∧ Ex H H' ∧ LL H H' lc as (chl ps) ∧ H' ls = some (.lst (vn (qw ps k)))) (ps.length + 1) ⟨0, rfl, Nat.zero_le _, rfl, e4.trans (e5.trans e6), L4.ex (e5.trans e6), e6 ls _ h5⟩ fun m σ' H' hW => ?_
  obtain ⟨k, rfl, hk, rfl, e7, L7, h7⟩ := hW
  have hql := qw_len ps k
  refine ⟨decide (k < (qw ps k).length), et_test (ev_cmp (i := (k : Int)) (j := ((qw ps k).length : Int)) (ev_var rfl) (ev_lenS (ev_var rfl) (sq_of h7) (by rw [List.length_map])) (by rw [decide_eq_decide]; omega)), (fun hb H8 e8 => ?_), fun hb H8 e8 => ?_⟩
  · have hlt := of_decide_eq_true hb
    have hv := (qi ps k).le _ (List.mem_of_getElem? (getD_of hlt))
    have hb2 : as[(qw ps k).getD k 0]? = some (as[(qw ps k).getD k 0]'(by omega)) := List.getElem?_eq_getElem (by omega)
    have ey := qw_yes hlt
    have hql2 := qw_len ps (k + 1)
    have hsz : (vn (qw ps k)).length + (vn (chl ps ((qw ps k).getD k 0))).length ≤ 100000 := by
      rw [List.length_map, List.length_map]
      rw [ey, List.length_append] at hql2
      omega
    have L8 := L7.ex e8
    refine ⟨fun σ2 H2 => σ2 = [some (.ref a), some (.ref lc), v2, v3, some (.ref ls), some (nat (k + 1))] ∧ Ex H H2 ∧ LL H H2 lc as (chl ps) ∧ H2 ls = some (.lst (vn (qw ps (k + 1)))), fun σ2 H2 hN => ?_, ?_⟩
    · obtain ⟨rfl, e9, L9, h9⟩ := hN
      exact ⟨ps.length + 1 - (k + 1), by omega, k + 1, rfl, by rw [ey, List.length_append]; omega, rfl, e9, L9, h9⟩
    · refine q_ext (e8 ls _ h7) (L8.row _ _ hb2) (ev_var rfl) (ev_ixN (i := (qw ps k).getD k 0) (ev_var rfl) (ev_ixN (i := k) (ev_var rfl) (ev_var rfl) (sq_of (e8 ls _ h7)) (vn_get (getD_get hlt))) (sq_of L8.top) (by rw [List.getElem?_map, hb2]; rfl)) hsz fun H9 e9 => ?_
      refine s_asg (v := nat (k + 1)) (ev_add (ev_var rfl) ev_c (by omega)) fun H10 e10 => ⟨rfl, (Ex.mut (e7.trans (e8.trans e9)) hsn).trans e10, ((L8.ex e9).upd ns1 ns2).ex e10, ?_⟩
      rw [e10 ls _ upd_same, ey, vn_apps]
  · have hge := of_decide_eq_false hb
    have e := qAll_stop (ps := ps) (k := k) (by omega) (by omega)
    rw [e] at h7
    exact s_ret (ev_var rfl) fun H9 e9 => q ls H9 hsn (e7.trans (e8.trans e9)) (e9 ls _ (e8 ls _ h7))
theorem sl_served {H : Hp} {a : Addr} {ps : List Nat} (h : SqL K H a (vn ps)) (hl : ps.length ≤ 20000) (hw : ∀ x ∈ ps, x < ps.length + 1) : SpL (spServed K) [.ref a] H (vn (qAll ps)) := fun H1 e Q q E => ⟨a, ps, rfl, ex_l e h, hl, hw, q⟩
end
end Pk
namespace Pk
open PySem PySem.Spec PyProof.Rows L2 Evl He
section
variable {P : Program} {w : World} {K : PySem.W.Frag} {mg : Str → Option Value} {base : Heap}
open SX (S)
/-! ### what never goes on -/
def XE (te : TE) (σ : L2.St) (H : Hp) : Prop := ∀ Q, te σ H Q
def XA (ta : TA) (σ : L2.St) (H : Hp) : Prop := ∀ Q, ta σ H Q
theorem xe_call {sp : Sp} {dvs vs : List V} {E : XK} {ta : TA} {σ : L2.St} {H : Hp} (ha : EvA ta σ H vs) (k : ∀ H1, Ex H H1 → ∀ Q, sp (vs ++ dvs) H1 Q E) : XE (tCall sp dvs E ta) σ H := fun _ => ha H (Ex.refl H) _ fun H1 e1 => k H1 e1 _
theorem xe_callP {sp : Sp} {dvs : List V} {E : XK} {ta : TA} {σ : L2.St} {H : Hp} {Φ : List V → Hp → Prop} (ha : EvAP ta σ H Φ) (k : ∀ vs H1, Ex H H1 → Φ vs H1 → ∀ Q, sp (vs ++ dvs) H1 Q E) : XE (tCall sp dvs E ta) σ H := fun _ => ha H (Ex.refl H) _ fun vs H1 e1 hv => k vs H1 e1 hv _
theorem xa_cons {te : TE} {tr : TA} {σ : L2.St} {H : Hp} (h : XE te σ H) : XA (tCons te tr) σ H := fun _ => h _
theorem xe_cb {r : List V → Hp → VK → Prop} {ta : TA} {σ : L2.St} {H : Hp} (h : XA ta σ H) : XE (tCB r ta) σ H := fun _ => h _
theorem xe_op {r : R2} {ta tb : TE} {σ : L2.St} {H : Hp} (h : XE ta σ H) : XE (tOp r ta tb) σ H := fun _ => h _
theorem xq_asg {te : TE} {g : TG} {tz : TS} {D : Ends} {σ : L2.St} {H : Hp} (h : XE te σ H) : tSeq (tAsg te g) tz D σ H := h _
theorem xq_forE {ta : TA} {g : TG} {tu tz : TS} {D : Ends} {σ : L2.St} {H : Hp} (h : XA ta σ H) : tSeq (tFor (iEnum K ta) g tu) tz D σ H := h _
theorem xs_ret {te : TE} {D : Ends} {σ : L2.St} {H : Hp} (h : XE te σ H) : tRet te D σ H := h _
theorem BadL.ex {H H1 : Hp} {x : V} {m : Nat → Int} (h : BadL K H x m) (e : Ex H H1) : BadL K H1 x m := by
  obtain ⟨k, h1, h2⟩ := h
  refine ⟨k, h1.ex e, ?_⟩
  rcases h2 with h | ⟨xs, ks, h4, h5, h6⟩
  · exact .inl h
  · exact .inr ⟨xs, ks, h4, h5.ex e, h6⟩
theorem badAsk_l {H : Hp} {a : Addr} {p : Int} {xs : List V} {ks : List Kd} (hS : SqL K H a xs) (hK : AllK K H xs ks) (hz : xs.length ≤ 40000) (hn : allN 0 (p - 1) ks = false) : BadAsk K H (.int p) (.ref a) := ⟨.int p, .lst xs, rfl, ⟨a, rfl, hS⟩, .inr ⟨p, rfl, .inr ⟨xs, ks, rfl, hK, hz, hn⟩⟩⟩
def mT (n : Nat) : Int := (n : Int)
/-! ### turning, turned -/
def spTurning (K : PySem.W.Frag) : Sp := fun vs H Q _ => ∃ (a : Addr) (ws : List Nat), vs = [.ref a] ∧ SqL K H a (vn ws) ∧ ws.length ≤ 20000 ∧ (∀ x ∈ ws, x < ws.length + 1) ∧ RetV (nat (ws.length - emptyOf ws)) H Q
theorem ok_turning {fd fd1 fd2 : FuncData} (F : FnP K "turning" s_turning fd) (B : Bi mg) (C1 : Cal P w K mg base (L2N.CX P w) 1 "as_list" P_as_list (spAsList K) fd1) (C2 : Cal P w K mg base (L2N.CX P w) 3 "ring" P_ring (orBad K (spRing K)) fd2) : FnOk P w K mg base (L2N.CX P w) 4 (ga K "turning") fd P_turning (orBadL K mT (spTurning K)) := by
  refine F.okX sc_turning (fun vs H Q E h => ?_) (fun cdv A outer s H vs Q E hr h => ⟨der_turning B C1 C2 hr, ?_⟩)
  · rcases h with ⟨a, ws, rfl, _⟩ | ⟨x, rfl, _⟩ <;> rfl
  rcases h with h | ⟨x, rfl, ⟨k, hk, hb⟩, qE⟩
  rotate_left
  · unfold der_turning; dsimp only
    rcases hb with hb | ⟨xs, ks, rfl, hK, hz, hn⟩
    · exact xq_asg (xe_op (xe_cb (xa_cons (xe_call (vs := [x]) (ea_cons (ev_var rfl) ea_nil) fun H1 e1 Q => .inr ⟨x, k, rfl, hk.ex e1, hb, fun H2 e2 => qE H2 (e1.trans e2)⟩))))
    · obtain ⟨a, rfl, hS⟩ := hk
      refine q_asg (v := nat (xs.length + 1)) (ev_add (i := (xs.length : Int)) (j := 1) (ev_lenS (ev_call (ea_cons (ev_var rfl) ea_nil) (sv_asList hS)) hS rfl) ev_c (by omega)) fun H1 e1 => ?_
      refine xq_asg (xe_call (vs := [nat (xs.length + 1), .ref a]) (ea_cons (ev_var rfl) (ea_cons (ev_var rfl) ea_nil)) fun H2 e2 Q => .inr ⟨_, _, rfl, badAsk_l (ex_l (e1.trans e2) hS) (hK.ex (e1.trans e2)) (by omega) ?_, fun H3 e3 => qE H3 ((e1.trans e2).trans e3)⟩)
      rw [show ((xs.length + 1 : Nat) : Int) - 1 = mT xs.length by unfold mT; omega]
      exact hn
  obtain ⟨a, ws, rfl, hS, hl, hw, q⟩ := h
  unfold der_turning; dsimp only
  have he := (emptyOf_is hw).lt
  have hs := ring_sum hw
  refine q_asg (v := nat (ws.length + 1)) (ev_add (i := (ws.length : Int)) (j := 1) (ev_lenS (ev_call (ea_cons (ev_var rfl) ea_nil) (sv_asList hS)) hS (by rw [List.length_map])) ev_c (by omega)) fun H1 e1 => ?_
  refine q_asgL (el_call (vs := [nat (ws.length + 1), .ref a]) (ea_cons (ev_var rfl) (ea_cons (ev_var rfl) ea_nil)) (orBad_l (sl_ring (ex_l e1 hS) (by omega) (by omega) (by omega) hw))) fun lo H2 hlo e2 h2 => ?_
  refine q_asg (v := nat (emptyOf ws)) (ev_sub (ev_div (ev_mul (ev_var rfl) (ev_sub (i := ((ws.length + 1 : Nat) : Int)) (j := 1) (ev_var rfl) ev_c rfl) (.inl ⟨by omega, by omega⟩) rfl) ev_c ⟨by decide, by decide⟩ rfl) (ev_sumN (ev_var rfl) (sq_of h2)) hs.symm) fun H3 e3 => ?_
  refine s_ret (v := nat (ws.length - emptyOf ws)) (ev_mod (i := ((ws.length + 1 : Nat) : Int) - 1 - (emptyOf ws : Int)) (j := ((ws.length + 1 : Nat) : Int)) (ev_sub (ev_sub (ev_var rfl) ev_c rfl) (ev_var rfl) rfl) (ev_var rfl) (by omega) ?_) fun H4 e4 => q H4 (e1.trans (e2.trans (e3.trans e4)))
  rw [Int.emod_eq_of_lt (by omega) (by omega)]
  omega
theorem sv_turning {H : Hp} {a : Addr} {ws : List Nat} (h : SqL K H a (vn ws)) (hl : ws.length ≤ 20000) (hw : ∀ x ∈ ws, x < ws.length + 1) : SpV (spTurning K) [.ref a] H (nat (ws.length - emptyOf ws)) := fun H1 e Q q E => ⟨a, ws, rfl, ex_l e h, hl, hw, q⟩
def spTurnedW (K : PySem.W.Frag) : Sp := fun vs H Q _ => ∃ (a : Addr) (b : Int) (ws : List Nat), vs = [.ref a, .int b] ∧ SqL K H a (vn ws) ∧ ws.length ≤ 20000 ∧ (∀ x ∈ ws, x < ws.length + 1) ∧ RetL (vn (turnI ws b)) H Q
theorem turnI_val (ws : List Nat) (b : Int) : vn (turnI ws b) = ws.map fun (w : Nat) => V.int (((w : Int) + b) % ((ws.length : Int) + 1)) := by
  unfold vn turnI
  rw [List.map_map]
  refine List.map_congr_left fun w _ => ?_
  have h1 := Int.emod_nonneg ((w : Int) + b) (show ((ws.length : Int) + 1) ≠ 0 by omega)
  show V.int _ = V.int _
  congr 1
  exact Int.toNat_of_nonneg h1
def spTurnedK (K : PySem.W.Frag) : Sp := fun vs H Q E => spTurnedW K vs H Q E ∨ ∃ x y, vs = [x, y] ∧ RetT K "BadWishes" H E ∧ (BadL K H x mT ∨ ∃ (a : Addr) (ws : List Nat) (k : Kd), x = .ref a ∧ SqL K H a (vn ws) ∧ ws.length ≤ 20000 ∧ (∀ x ∈ ws, x < ws.length + 1) ∧ IsK K H y k ∧ ((!k.isI) || k.isB) = true)
theorem ok_turned {fd fd1 fd2 : FuncData} (F : FnP K "turned" s_turned fd) (B : Bi mg) (C1 : Cal P w K mg base (L2N.CX P w) 1 "as_list" P_as_list (spAsList K) fd1) (C2 : Cal P w K mg base (L2N.CX P w) 2 "asked_wishes" P_asked_wishes (spAsked K) fd2) (X1 : ExcF K mg "BadWishes") : FnOk P w K mg base (L2N.CX P w) 3 (ga K "turned") fd P_turned (spTurnedK K) := by
  refine F.okX sc_turned (fun vs H Q E h => ?_) (fun cdv A outer s H vs Q E hr h => ⟨der_turned B C1 C2 X1 hr, ?_⟩)
  · rcases h with ⟨a, b, ws, rfl, _⟩ | ⟨x, y, rfl, _⟩ <;> rfl
  rcases h with h | ⟨x, y, rfl, qE, h⟩
  rotate_left
  · unfold der_turned; dsimp only
    rcases h with ⟨k, hk, hb | ⟨xs, ks, rfl, hK, hz, hn⟩⟩ | ⟨a, ws, k, rfl, hS, hl, hw, hk, hb⟩
    · exact xq_asg (xe_op (xe_cb (xa_cons (xe_call (vs := [x]) (ea_cons (ev_var rfl) ea_nil) fun H1 e1 Q => .inr ⟨x, k, rfl, hk.ex e1, hb, fun H2 e2 => qE H2 (e1.trans e2)⟩))))
    · obtain ⟨a, rfl, hS⟩ := hk
      refine q_asg (v := nat (xs.length + 1)) (ev_add (i := (xs.length : Int)) (j := 1) (ev_lenS (ev_call (ea_cons (ev_var rfl) ea_nil) (sv_asList hS)) hS rfl) ev_c (by omega)) fun H1 e1 => ?_
      refine q_callX (vs := [nat (xs.length + 1), .ref a]) (ea_cons (ev_var rfl) (ea_cons (ev_var rfl) ea_nil)) fun H2 e2 => .inr ⟨_, _, rfl, badAsk_l (ex_l (e1.trans e2) hS) (hK.ex (e1.trans e2)) (by omega) ?_, fun H3 e3 => qE H3 ((e1.trans e2).trans e3)⟩
      rw [show ((xs.length + 1 : Nat) : Int) - 1 = mT xs.length by unfold mT; omega]
      exact hn
    · refine q_asg (v := nat (ws.length + 1)) (ev_add (i := (ws.length : Int)) (j := 1) (ev_lenS (ev_call (ea_cons (ev_var rfl) ea_nil) (sv_asList hS)) hS (by rw [List.length_map])) ev_c (by omega)) fun H1 e1 => ?_
      refine q_drop (ev_call (vs := [nat (ws.length + 1), .ref a]) (ea_cons (ev_var rfl) (ea_cons (ev_var rfl) ea_nil)) (sv_asked (by omega) (by omega) (ex_l e1 hS) (by omega) hw)) fun H2 e2 => ?_
      have hk2 := hk.ex (e1.trans e2)
      refine q_when (b := (!k.isI) || k.isB) (et_or (et_not (et_B (ev_cb (ea_cons (ev_var rfl) (ea_cons ev_c ea_nil)) (isi_k hk2 "int" (kit_int k))))) fun _ => et_B (ev_cb (ea_cons (ev_var rfl) (ea_cons ev_c ea_nil)) (isi_k hk2 "bool" (kit_bool k)))) (fun _ H3 e3 => qE H3 ((e1.trans e2).trans e3)) fun z => ?_
      rw [hb] at z
      cases z
  obtain ⟨a, b, ws, rfl, hS, hl, hw, q⟩ := h
  unfold der_turned; dsimp only
  refine q_asg (v := nat (ws.length + 1)) (ev_add (i := (ws.length : Int)) (j := 1) (ev_lenS (ev_call (ea_cons (ev_var rfl) ea_nil) (sv_asList hS)) hS (by rw [List.length_map])) ev_c (by omega)) fun H1 e1 => ?_
  refine q_drop (ev_call (vs := [nat (ws.length + 1), .ref a]) (ea_cons (ev_var rfl) (ea_cons (ev_var rfl) ea_nil)) (sv_asked (by omega) (by omega) (ex_l e1 hS) (by omega) hw)) fun H2 e2 => ?_
  refine q_when (b := (!true) || false) (et_or (et_not (et_B (ev_cb (ea_cons (ev_var rfl) (ea_cons ev_c ea_nil)) (isi_int "int" (by decide +kernel))))) fun _ => et_B (ev_cb (ea_cons (ev_var rfl) (ea_cons ev_c ea_nil)) (isi_int "bool" (by decide +kernel)))) (fun z => by cases z) fun _ H3 e3 => ?_
  have e13 := e1.trans (e2.trans e3)
  refine s_retL (xs := vn (turnI ws b)) ?_ fun l H4 hl4 e4 h4 => q l H4 (fresh_back e13 hl4) (e13.trans e4) h4
  rw [turnI_val]
  exact el_ls nat _ (ev_var rfl) (ex_l e13 hS) (by omega) (fun _ => rfl) fun i y H4 e4 hy => ev_mod (j := (ws.length : Int) + 1) (ev_add (ev_var rfl) (ev_var rfl) rfl) (ev_is (ev_var rfl) (by show V.int ((ws.length + 1 : Nat) : Int) = _; congr 1)) (by omega) rfl
theorem sl_turned {H : Hp} {a : Addr} {b : Int} {ws : List Nat} (h : SqL K H a (vn ws)) (hl : ws.length ≤ 20000) (hw : ∀ x ∈ ws, x < ws.length + 1) : SpL (spTurnedW K) [.ref a, .int b] H (vn (turnI ws b)) := fun H1 e Q q E => ⟨a, b, ws, rfl, ex_l e h, hl, hw, q⟩
/-! ### heights -/
def spHeights (K : PySem.W.Frag) : Sp := fun vs H Q E => ∃ cs : List Nat, vs = [.str (S cs)] ∧ cs.length ≤ 90000 ∧ (∀ hs, hgo cs 0 = some hs → RetL (vn hs) H Q) ∧ (hgo cs 0 = none → RetT K "BadPath" H E)
theorem hgo_len : ∀ (cs : List Nat) (h : Nat) (hs : List Nat), hgo cs h = some hs → hs.length ≤ cs.length
  | [], h, hs, e => by
    unfold hgo at e
    split at e
    · cases e; exact Nat.le_refl _
    · cases e
  | c :: r, h, hs, e => by
    unfold hgo at e
    split at e
    · have := hgo_len r _ hs e
      rw [List.length_cons]; omega
    · split at e
      · cases e2 : hgo r (h - 1) with
        | none => rw [e2] at e; cases e
        | some gs =>
          rw [e2] at e
          have e3 : (h - 1) :: gs = hs := Option.some.inj e
          have := hgo_len r _ gs e2
          rw [← e3, List.length_cons, List.length_cons]; omega
      · cases e
def orBadS (K : PySem.W.Frag) (sp : Sp) : Sp := fun vs H Q E => sp vs H Q E ∨ ∃ x k, vs = [x] ∧ IsK K H x k ∧ k.isS = false ∧ RetT K "BadPath" H E
theorem ok_heights {fd : FuncData} (F : FnP K "heights" s_heights fd) (B : Bi mg) (X1 : ExcF K mg "BadPath") : FnOk P w K mg base (L2N.CX P w) 1 (ga K "heights") fd P_heights (orBadS K (spHeights K)) := by
  refine F.okX sc_heights (fun vs H Q E h => ?_) (fun cdv A outer s H vs Q E hr h => ⟨der_heights B X1 hr, ?_⟩)
  · rcases h with ⟨cs, rfl, _⟩ | ⟨x, k, rfl, _⟩ <;> rfl
  rcases h with h | ⟨x, k, rfl, hk, hb, qE⟩
  rotate_left
  · unfold der_heights; dsimp only
    have tl := ev_cb (σ := L2.start N_heights [x]) (H := H) (ea_cons (ev_var (i := 0) rfl) (ea_cons ev_c ea_nil)) (isi_k hk "str" (kit_str k))
    rw [hb] at tl
    exact q_when (b := !false) (et_not (et_B tl)) (fun _ H1 e1 => qE H1 e1) fun z => by cases z
  obtain ⟨cs, rfl, hl, q, qE⟩ := h
  unfold der_heights; dsimp only
  refine q_when (et_not (et_B (ev_cb (ea_cons (ev_var rfl) (ea_cons ev_c ea_nil)) (isi_str (k := true) "str" (by decide +kernel))))) (fun h => by cases h) fun _ H1 e1 => ?_
  refine q_asg ev_c fun H2 e2 => ?_
  refine q_asgL (el_lst (vs := vn []) ea_nil (Nat.zero_le _)) fun l H3 hl3 e3 h3 => ?_
  have hln : H l = none := fresh_back (e1.trans e2) hl3
  refine q_forS (ev_var rfl) (fun pre σ' H' => ∃ (h : Nat) (f : List Nat) (v : Option V), σ' = [some (.str (S cs)), some (nat h), some (.ref l), v] ∧ f.length ≤ pre.length ∧ Ex H H' ∧ H' l = some (.lst (vn f)) ∧ ∀ post, cs = pre ++ post → hgo cs 0 = (hgo post h).map (f ++ ·)) (fun H4 e4 => ?_) (fun pre c post σ' H' hcs hI => ?_) (fun σ' H' hI => ?_)
  · refine ⟨0, [], none, rfl, Nat.le_refl _, ((e1.trans e2).trans e3).trans e4, e4 l _ h3, fun post hp => ?_⟩
    rw [hp]
    show hgo post 0 = _
    cases hgo post 0 <;> rfl
  · obtain ⟨h, f, v, rfl, hfl, e, h4, inv⟩ := hI
    have hinv := inv (c :: post) hcs
    have hpl : pre.length < 90000 := by
      have : cs.length = pre.length + (post.length + 1) := by rw [hcs, List.length_append, List.length_cons]
      omega
    refine s_if (b := decide (c = 117)) (et_test (ev_is (ev_eqS (a := [c]) (b := [117]) (ev_var rfl) (ev_lit lit_u)) (by rw [one_eq]))) (fun hb H5 e5 => ?_) (fun hb H5 e5 => ?_)
    · have hc := of_decide_eq_true hb
      refine s_asg (v := nat (h + 1)) (ev_add (ev_var rfl) ev_c (by omega)) fun H6 e6 => ?_
      refine ⟨h + 1, f, _, rfl, by rw [List.length_append]; omega, (e.trans e5).trans e6, e6 l _ (e5 l _ h4), fun p2 hp2 => ?_⟩
      rw [List.append_assoc, List.singleton_append] at hp2
      have e7 : c :: post = c :: p2 := List.append_cancel_left (hcs.symm.trans hp2)
      have e8 : post = p2 := by injection e7
      rw [hinv, e8]
      show (if c = 117 then hgo p2 (h + 1) else _).map (f ++ ·) = _
      rw [if_pos hc]
    · have hc := of_decide_eq_false hb
      refine s_if (b := decide (c = 100 ∧ 0 < h)) (et_is (et_and (et_test (ev_eqS (a := [c]) (b := [100]) (ev_var rfl) (ev_lit lit_d))) (fun _ => et_test (ev_cmp (b := decide (0 < h)) (i := (h : Int)) (j := 0) (ev_var rfl) ev_c (by rw [decide_eq_decide]; omega)))) (by rw [one_eq, Bool.decide_and])) (fun hb2 H6 e6 => ?_) (fun hb2 H6 e6 => ?_)
      · have hd := of_decide_eq_true hb2
        refine q_asg (v := nat (h - 1)) (ev_sub (i := (h : Int)) (j := 1) (ev_var rfl) ev_c (by omega)) fun H7 e7 => ?_
        refine s_app (xs := vn f) ((e5.trans (e6.trans e7)) l _ h4) (ev_var rfl) (ev_var rfl) (by rw [List.length_map]; omega) fun H8 e8 => ?_
        have e9 := ((e.trans e5).trans (e6.trans e7)).trans e8
        refine ⟨h - 1, f ++ [h - 1], _, rfl, by rw [List.length_append, List.length_append]; simp only [List.length_singleton]; omega, Ex.mut e9 hln, by rw [upd_same]; unfold vn; rw [List.map_append]; rfl, fun p2 hp2 => ?_⟩
        rw [List.append_assoc, List.singleton_append] at hp2
        have e10 : c :: post = c :: p2 := List.append_cancel_left (hcs.symm.trans hp2)
        have e11 : post = p2 := by injection e10
        rw [hinv, e11]
        show (if c = 117 then _ else if c = 100 ∧ 0 < h then (hgo p2 (h - 1)).map ((h - 1) :: ·) else none).map (f ++ ·) = _
        rw [if_neg hc, if_pos hd, Option.map_map]
        congr 1
        funext x
        simp
      · have hd := of_decide_eq_false hb2
        refine qE ?_ H6 ((e.trans e5).trans e6)
        rw [hinv]
        show (if c = 117 then _ else if c = 100 ∧ 0 < h then (hgo post (h - 1)).map ((h - 1) :: ·) else none).map (f ++ ·) = _
        rw [if_neg hc, if_neg hd]
        rfl
  · obtain ⟨h, f, v, rfl, hfl, e, h4, inv⟩ := hI
    have hinv := inv [] (List.append_nil _).symm
    refine q_when (b := !decide (h = 0)) (et_test (ev_is (ev_neInt (i := (h : Int)) (j := 0) (ev_var rfl) ev_c) (by congr 2; rw [decide_eq_decide]; omega))) (fun hb H5 e5 => ?_) (fun hb H5 e5 => ?_)
    · refine qE ?_ H5 (e.trans e5)
      have hne : ¬ h = 0 := by simpa using hb
      rw [hinv]
      unfold hgo
      rw [if_neg hne]
      rfl
    · have he : h = 0 := by simpa using hb
      refine s_ret (ev_var rfl) fun H6 e6 => q f ?_ l H6 hln ((e.trans e5).trans e6) (e6 l _ (e5 l _ h4))
      rw [hinv]
      unfold hgo
      rw [if_pos he]
      simp
theorem sp_heights {H : Hp} {cs : List Nat} {Q : VK} {E : XK} (hl : cs.length ≤ 90000) (q : ∀ hs, hgo cs 0 = some hs → RetL (vn hs) H Q) (qE : hgo cs 0 = none → RetT K "BadPath" H E) : orBadS K (spHeights K) [.str (S cs)] H Q E := .inl ⟨cs, rfl, hl, q, qE⟩
/-! ### beneath, rising -/
theorem s_retCB {r : List V → Hp → VK → Prop} {D : Ends} {σ : L2.St} {H : Hp} {sp : Sp} {dvs vs : List V} {E : XK} {ta : TA} (h : EvA ta σ H vs) (k : ∀ H1, Ex H H1 → sp (vs ++ dvs) H1 (fun x H2 => r [x] H2 D.rt) E) : tRet (tCB r (tCons (tCall sp dvs E ta) tNil)) D σ H := h H (Ex.refl H) _ fun H1 e => k H1 e
def spBeneath (K : PySem.W.Frag) : Sp := fun vs H Q E => ∃ cs : List Nat, vs = [.str (S cs)] ∧ cs.length ≤ 90000 ∧ (∀ hs, hgo cs 0 = some hs → RetV (nat hs.sum) H Q) ∧ (hgo cs 0 = none → RetT K "BadPath" H E)
theorem ok_beneath {fd fd1 : FuncData} (F : FnP K "beneath" s_beneath fd) (B : Bi mg) (C1 : Cal P w K mg base (L2N.CX P w) 1 "heights" P_heights (orBadS K (spHeights K)) fd1) : FnOk P w K mg base (L2N.CX P w) 2 (ga K "beneath") fd P_beneath (orBadS K (spBeneath K)) := by
  refine F.okX sc_beneath (fun vs H Q E h => ?_) (fun cdv A outer s H vs Q E hr h => ⟨der_beneath B C1 hr, ?_⟩)
  · rcases h with ⟨cs, rfl, _⟩ | ⟨x, k, rfl, _⟩ <;> rfl
  rcases h with h | ⟨x, k, rfl, hk, hb, qE⟩
  rotate_left
  · unfold der_beneath; dsimp only
    exact s_retCB (vs := [x]) (ea_cons (ev_var rfl) ea_nil) fun H1 e1 => .inr ⟨x, k, rfl, hk.ex e1, hb, fun H2 e2 => qE H2 (e1.trans e2)⟩
  obtain ⟨cs, rfl, hl, q, qE⟩ := h
  unfold der_beneath; dsimp only
  refine s_retCB (vs := [.str (S cs)]) (ea_cons (ev_var rfl) ea_nil) fun H1 e1 => ?_
  refine sp_heights hl (fun hs hh p H2 hp e2 h2 => ?_) fun hn H2 e2 => qE hn H2 (e1.trans e2)
  refine ⟨p, hs.map fun (n : Nat) => (n : Int), rfl, sq_of (by rw [h2, vn_vi]), ?_⟩
  rw [sum_nat]
  exact q hs hh H2 (e1.trans e2)
def spRising (K : PySem.W.Frag) : Sp := fun vs H Q E => ∃ cs : List Nat, vs = [.str (S cs)] ∧ cs.length ≤ 90000 ∧ ((∃ hs, hgo cs 0 = some hs) → RetL (vn (ris cs 0)) H Q) ∧ (hgo cs 0 = none → RetT K "BadPath" H E)
theorem ok_rising {fd fd1 : FuncData} (F : FnP K "rising" s_rising fd) (C1 : Cal P w K mg base (L2N.CX P w) 1 "heights" P_heights (orBadS K (spHeights K)) fd1) : FnOk P w K mg base (L2N.CX P w) 2 (ga K "rising") fd P_rising (orBadS K (spRising K)) := by
  refine F.okX sc_rising (fun vs H Q E h => ?_) (fun cdv A outer s H vs Q E hr h => ⟨der_rising C1 hr, ?_⟩)
  · rcases h with ⟨cs, rfl, _⟩ | ⟨x, k, rfl, _⟩ <;> rfl
  rcases h with h | ⟨x, k, rfl, hk, hb, qE⟩
  rotate_left
  · unfold der_rising; dsimp only
    exact q_callX (vs := [x]) (ea_cons (ev_var rfl) ea_nil) fun H1 e1 => .inr ⟨x, k, rfl, hk.ex e1, hb, fun H2 e2 => qE H2 (e1.trans e2)⟩
  obtain ⟨cs, rfl, hl, q, qE⟩ := h
  unfold der_rising; dsimp only
  refine q_callX (vs := [.str (S cs)]) (ea_cons (ev_var rfl) ea_nil) fun H1 e1 => ?_
  refine sp_heights hl (fun hs hh p H2 hp e2 h2 => ?_) fun hn H2 e2 => qE hn H2 (e1.trans e2)
  have e12 := e1.trans e2
  refine q_asgL (el_lst (vs := vn []) ea_nil (Nat.zero_le _)) fun l H3 hl3 e3 h3 => ?_
  have hln : H l = none := fresh_back e12 hl3
  refine q_asg ev_c fun H4 e4 => ?_
  refine q_forS (ev_var rfl) (fun pre σ' H' => ∃ (pl : Nat) (f : List Nat) (v : Option V), σ' = [some (.str (S cs)), some (.ref l), some (nat pl), v] ∧ f.length ≤ pre.length ∧ Ex H H' ∧ H' l = some (.lst (vn f)) ∧ ∀ post, cs = pre ++ post → ris cs 0 = f ++ ris post pl) (fun H5 e5 => ?_) (fun pre c post σ' H' hcs hI => ?_) (fun σ' H' hI => ?_)
  · refine ⟨0, [], none, rfl, Nat.le_refl _, ((e12.trans e3).trans e4).trans e5, e5 l _ (e4 l _ h3), fun post hp => ?_⟩
    rw [hp]
    rfl
  · obtain ⟨pl, f, v, rfl, hfl, e, h4, inv⟩ := hI
    have hinv := inv (c :: post) hcs
    have hpl : pre.length < 90000 := by
      have : cs.length = pre.length + (post.length + 1) := by rw [hcs, List.length_append, List.length_cons]
      omega
    have step : ∀ p2, cs = pre ++ [c] ++ p2 → post = p2 := fun p2 hp2 => by
      rw [List.append_assoc, List.singleton_append] at hp2
      have e7 : c :: post = c :: p2 := List.append_cancel_left (hcs.symm.trans hp2)
      injection e7
    refine s_if (b := decide (c = 117)) (et_test (ev_is (ev_eqS (a := [c]) (b := [117]) (ev_var rfl) (ev_lit lit_u)) (by rw [one_eq]))) (fun hb H5 e5 => ?_) (fun hb H5 e5 => ?_)
    · have hc := of_decide_eq_true hb
      refine s_app (xs := vn f) (e5 l _ h4) (ev_var rfl) (ev_var rfl) (by rw [List.length_map]; omega) fun H8 e8 => ?_
      refine ⟨pl, f ++ [pl], _, rfl, by rw [List.length_append, List.length_append]; simp only [List.length_singleton]; omega, Ex.mut ((e.trans e5).trans e8) hln, by rw [upd_same]; unfold vn; rw [List.map_append]; rfl, fun p2 hp2 => ?_⟩
      rw [hinv, step p2 hp2]
      show f ++ (if c = 117 then pl :: ris p2 pl else _) = _
      rw [if_pos hc, List.append_assoc]
      rfl
    · have hc := of_decide_eq_false hb
      refine s_asg (v := nat (pl + 1)) (ev_add (ev_var rfl) ev_c (by omega)) fun H6 e6 => ?_
      refine ⟨pl + 1, f, _, rfl, by rw [List.length_append]; omega, (e.trans e5).trans e6, e6 l _ (e5 l _ h4), fun p2 hp2 => ?_⟩
      rw [hinv, step p2 hp2]
      show f ++ (if c = 117 then _ else ris p2 (pl + 1)) = _
      rw [if_neg hc]
  · obtain ⟨pl, f, v, rfl, hfl, e, h4, inv⟩ := hI
    have hinv := inv [] (List.append_nil _).symm
    refine s_ret (ev_var rfl) fun H6 e6 => q ⟨hs, hh⟩ l H6 hln (e.trans e6) ?_
    rw [hinv]
    show H6 l = some (.lst (vn (f ++ [])))
    rw [List.append_nil]
    exact e6 l _ h4
end
end Pk
namespace Pk
open PySem PySem.Spec PyProof.Rows L2 Evl He
section
variable {P : Program} {w : World} {K : PySem.W.Frag} {mg : Str → Option Value} {base : Heap}
open SX (S)
/-! ### asked_standing, of any -/
def spAskedSt (K : PySem.W.Frag) : Sp := fun vs H Q _ => ∃ (a : Addr) (st : List Nat), vs = [.ref a] ∧ SqL K H a (vn st) ∧ IsSt st ∧ st.length ≤ 4000 ∧ RetV .non H Q
def BadSt (K : PySem.W.Frag) (H : Hp) (x : V) : Prop := ∃ k, IsK K H x k ∧ (k.isL = false ∨ ∃ xs, k = .lst xs ∧ xs.length ≤ 4000 ∧ ((∃ ks, AllK K H xs ks ∧ allN 0 ((xs.length : Int) - 1) ks = false) ∨ ∃ ns : List Int, xs = vi ns ∧ ¬ ns.Nodup))
theorem BadSt.ex {H H1 : Hp} {x : V} (h : BadSt K H x) (e : Ex H H1) : BadSt K H1 x := by
  obtain ⟨k, h1, h2⟩ := h
  refine ⟨k, h1.ex e, ?_⟩
  rcases h2 with h | ⟨xs, h4, h5, h | h⟩
  · exact .inl h
  · obtain ⟨ks, h6, h7⟩ := h
    exact .inr ⟨xs, h4, h5, .inl ⟨ks, h6.ex e, h7⟩⟩
  · exact .inr ⟨xs, h4, h5, .inr h⟩
def orBadSt (K : PySem.W.Frag) (sp : Sp) : Sp := fun vs H Q E => sp vs H Q E ∨ ∃ x, vs = [x] ∧ BadSt K H x ∧ RetT K "BadStanding" H E
theorem orBadSt_l {sp : Sp} {vs : List V} {H : Hp} {xs : List V} (h : SpL sp vs H xs) : SpL (orBadSt K sp) vs H xs := fun H1 e Q q E => .inl (h H1 e Q q E)
theorem orBadSt_v {sp : Sp} {vs : List V} {H : Hp} {z : V} (h : SpV sp vs H z) : SpV (orBadSt K sp) vs H z := fun H1 e Q q E => .inl (h H1 e Q q E)
theorem ev_lenSetG {σ : L2.St} {H : Hp} {ta : TE} {a : Addr} {ns : List Int} (ha : Ev ta σ H (.ref a)) (h : SqL K H a (vi ns)) (hl : ns.length ≤ 4000) : Ev (tLenSetG K ta) σ H (nat (setLen ns)) := fun H1 e Q q =>
  ha H1 e _ fun H2 e2 => ⟨a, ns, rfl, ex_l (e.trans e2) h, hl, q H2 e2⟩
theorem ok_asked_standing {fd fd1 : FuncData} (F : FnP K "asked_standing" s_asked_standing fd) (B : Bi mg) (C1 : Cal P w K mg base CX0 1 "is_number" P_is_number (spIsNumberK K) fd1) (X1 : ExcF K mg "BadStanding") : FnOk P w K mg base (L2N.CX P w) 2 (ga K "asked_standing") fd P_asked_standing (orBadSt K (spAskedSt K)) := by
  refine F.okX sc_asked_standing (fun vs H Q E h => ?_) (fun cdv A outer s H vs Q E hr h => ⟨der_asked_standing B C1 X1 hr, ?_⟩)
  · rcases h with ⟨a, st, rfl, _⟩ | ⟨x, rfl, _⟩ <;> rfl
  have tn : ∀ {H0 : Hp} {a : Addr} {xs : List V} {ks : List Kd}, SqL K H0 a xs → AllK K H0 xs ks → xs.length ≤ 4000 → EvT (tOr (tNot (tB (tCB (rIsi K) (tCons (tVar 0) (tCons (tC (.ty "list")) tNil))))) (tNot (tB (tCB (rAll K) (tCons (tLc (iList K (tVar 0)) (gName 1) tYes (tCall (spIsNumberK K) [] E0 (tCons (tVar 1) (tCons (tC (.int 0)) (tCons (tOp (rI0 fun i j => .int (i - j)) (tCB (rLenS K) (tCons (tVar 0) tNil)) (tC (.int 1))) tNil)))) [1]) tNil))))) (L2.start N_asked_standing [.ref a]) H0 ((!true) || !(allN 0 ((xs.length : Int) - 1) ks)) := fun {H0 a xs ks} hS hK hz => by
    have t2 := el_numK (K := K) (σ := L2.start N_asked_standing [.ref a]) (H := H0) (tl := tVar 0) (tlo := tC (.int 0)) (thi := tOp (rI0 fun i j => .int (i - j)) (tCB (rLenS K) (tCons (tVar 0) tNil)) (tC (.int 1))) (j := 1) (lo := 0) (hi := (xs.length : Int) - 1) (ev_var rfl) hS (by omega) hK (fun _ => rfl) (fun _ => rfl) (fun x H2 e2 => ev_c) (fun x H2 e2 => ev_sub (i := (xs.length : Int)) (j := 1) (ev_lenS (n := xs.length) (ev_var rfl) (ex_l e2 hS) rfl) ev_c rfl)
    have e : ((ks.map (Kd.num 0 ((xs.length : Int) - 1))).all id) = allN 0 ((xs.length : Int) - 1) ks := by
      unfold allN
      rw [List.all_map]
      rfl
    rw [← e]
    exact et_or (et_not (et_B (ev_cb (ea_cons (ev_var rfl) (ea_cons ev_c ea_nil)) (isi_list (k := true) hS "list" (by decide +kernel))))) fun _ => et_not (et_B (ev_allN t2))
  rcases h with h | ⟨x, rfl, ⟨k, hk, hb⟩, qE⟩
  rotate_left
  · unfold der_asked_standing; dsimp only
    rcases hb with hb | ⟨xs, rfl, hz, hb⟩
    · have tl := ev_cb (σ := L2.start N_asked_standing [x]) (H := H) (ea_cons (ev_var (i := 0) rfl) (ea_cons ev_c ea_nil)) (isi_k hk "list" (kit_list k))
      rw [hb] at tl
      exact q_when (b := (!false) || false) (et_or (et_not (et_B tl)) fun z => by cases z) (fun _ H2 e2 => qE H2 e2) fun z => by cases z
    obtain ⟨a, rfl, hS⟩ := hk
    rcases hb with ⟨ks, hK, hn⟩ | ⟨ns, rfl, hn⟩
    · refine q_when (tn hS hK hz) (fun _ H2 e2 => qE H2 e2) fun hb => ?_
      rw [hn] at hb
      cases hb
    · rw [List.length_map] at hz
      refine q_when (tn hS (allK_ints ns) (by rw [List.length_map]; exact hz)) (fun _ H2 e2 => qE H2 e2) fun hb H1 e1 => ?_
      refine s_when (b := !decide ((setLen ns : Int) = (ns.length : Int))) (et_test (ev_neInt (ev_lenSetG (ev_var rfl) (ex_l e1 hS) hz) (ev_lenS (ev_var rfl) (ex_l e1 hS) (by rw [List.length_map])))) (fun _ H2 e2 => qE H2 (e1.trans e2)) fun hb2 => ?_
      have h3 : (setLen ns : Int) = (ns.length : Int) := by simpa using hb2
      exact absurd (setLen_nd.mp (by omega)) hn
  obtain ⟨a, st, rfl, hS, S, hl, q⟩ := h
  unfold der_asked_standing; dsimp only
  have hI : SqL K H a (vi (st.map fun (n : Nat) => (n : Int))) := by have := hS; rw [vn_vi] at this; exact this
  have hnd : setLen (st.map fun (n : Nat) => (n : Int)) = st.length := by
    have h1 : (st.map fun (n : Nat) => (n : Int)).Nodup := List.Pairwise.map _ (fun x y (hxy : x ≠ y) => fun e => hxy (Int.ofNat.inj e)) S.nd
    rw [setLen_nd.mpr h1, List.length_map]
  refine q_when (tn hI (allK_ints _) (by rw [List.length_map, List.length_map]; exact hl)) (fun hb => ?_) fun _ H1 e1 => ?_
  · have : allN 0 (((vi (st.map fun (n : Nat) => (n : Int))).length : Int) - 1) ((st.map fun (n : Nat) => (n : Int)).map Kd.int) = true := by
      unfold allN
      rw [List.all_eq_true]
      intro k hk
      obtain ⟨i, hi, rfl⟩ := List.mem_map.mp hk
      obtain ⟨n, hn, rfl⟩ := List.mem_map.mp hi
      have := S.lo n hn
      rw [List.length_map, List.length_map]
      exact decide_eq_true ⟨by omega, by omega⟩
    rw [this] at hb
    cases hb
  have t5 := ev_lenSetG (K := K) (σ := L2.start N_asked_standing [.ref a]) (H := H1) (ta := tVar 0) (a := a) (ev_var rfl) (ex_l e1 hI) (by rw [List.length_map]; exact hl)
  rw [hnd] at t5
  refine s_when (b := !decide ((st.length : Int) = (st.length : Int))) (et_test (ev_neInt t5 (ev_lenS (ev_var rfl) (ex_l e1 hS) (by rw [List.length_map])))) (fun h => by simp at h) fun _ H2 e2 => q H2 (e1.trans e2)
theorem sv_askedSt {H : Hp} {a : Addr} {st : List Nat} (h : SqL K H a (vn st)) (S : IsSt st) (hl : st.length ≤ 4000) : SpV (orBadSt K (spAskedSt K)) [.ref a] H .non := orBadSt_v fun H1 e Q q E => ⟨a, st, rfl, ex_l e h, S, hl, q⟩
/-! ### reaches -/
def spReaches (K : PySem.W.Frag) : Sp := fun vs H Q _ => ∃ (a : Addr) (st : List Nat), vs = [.ref a] ∧ SqL K H a (vn st) ∧ IsSt st ∧ st.length ≤ 4000 ∧ RetL (vn (rchs st)) H Q
theorem s_pop {σ : L2.St} {H : Hp} {ta : TE} {D : Ends} {l : Addr} {xs : List V} {v : V} (hl : H l = some (.lst (xs ++ [v]))) (ha : Ev ta σ H (.ref l)) (k : ∀ H1, Ex H H1 → D.nx σ (upd H1 l (.lst xs))) : tDrop (tBM0 K "list" rPop ta) D σ H := ha H (Ex.refl H) _ fun H1 e1 =>
  ⟨Or.inl ⟨rfl, _, sq_of (e1 l _ hl)⟩, l, xs ++ [v], v, rfl, rfl, e1 l _ hl, by simp, by rw [List.dropLast_concat]; exact k H1 e1⟩
theorem ev_last {σ : L2.St} {H : Hp} {ta tb : TE} {p : Addr} {xs : List V} {v : V} (ha : Ev ta σ H (.ref p)) (hb : Ev tb σ H (.int (-1))) (h : SqL K H p (xs ++ [v])) : Ev (tOp (rIxL K) ta tb) σ H v := ev_op ha hb (rv_ixL h (atI_last _ _))
theorem vn_snoc (ws : List Nat) (x : Nat) : vn (ws ++ [x]) = vn ws ++ [nat x] := by
  unfold vn
  rw [List.map_append]
  rfl
theorem ok_reaches {fd fd1 : FuncData} (F : FnP K "reaches" s_reaches fd) (B : Bi mg) (C1 : Cal P w K mg base (L2N.CX P w) 2 "asked_standing" P_asked_standing (orBadSt K (spAskedSt K)) fd1) : FnOk P w K mg base (L2N.CX P w) 3 (ga K "reaches") fd P_reaches (orBadSt K (spReaches K)) := by
  refine F.okX sc_reaches (fun vs H Q E h => ?_) (fun cdv A outer s H vs Q E hr h => ⟨der_reaches B C1 hr, ?_⟩)
  · rcases h with ⟨a, st, rfl, _⟩ | ⟨x, rfl, _⟩ <;> rfl
  rcases h with h | ⟨x, rfl, hbad, qE⟩
  rotate_left
  · unfold der_reaches; dsimp only
    exact q_callX (vs := [x]) (ea_cons (ev_var rfl) ea_nil) fun H1 e1 => .inr ⟨x, rfl, hbad.ex e1, fun H2 e2 => qE H2 (e1.trans e2)⟩
  obtain ⟨a, st, rfl, hS, S, hl, q⟩ := h
  unfold der_reaches; dsimp only
  refine q_drop (ev_call (ea_cons (ev_var rfl) ea_nil) (sv_askedSt hS S hl)) fun H1 e1 => ?_
  refine q_asgL (el_lst (vs := vn []) ea_nil (Nat.zero_le _)) fun lf H2 hlf e2 h2 => ?_
  refine q_asgL (el_lst (vs := vn []) ea_nil (Nat.zero_le _)) fun ll H3 hll e3 h3 => ?_
  have hfn : H lf = none := fresh_back e1 hlf
  have hln : H ll = none := fresh_back (e1.trans e2) hll
  have hne : lf ≠ ll := ne_of_none h2 hll
  refine q_forE nat (ev_var rfl) (ex_l ((e1.trans e2).trans e3) hS) (fun i σ' H' => i ≤ st.length ∧ ∃ v3 v4, σ' = [some (.ref a), some (.ref lf), some (.ref ll), v3, v4] ∧ Ex H H' ∧ H' lf = some (.lst (vn ((List.range i).map (reach st)))) ∧ H' ll = some (.lst (vn (chain st i)))) (fun H4 e4 => ?_) (fun i σ' H' hI => ?_) (fun i y σ' H' hy hI H5 e5 => ?_) (fun σ' H' hI => ?_)
  · refine ⟨Nat.zero_le _, none, none, rfl, ((e1.trans e2).trans e3).trans e4, (e3.trans e4) lf _ h2, ?_⟩
    rw [chain_zero]
    exact e4 ll _ h3
  · obtain ⟨_, v3, v4, rfl, e, _⟩ := hI
    exact ex_l e hS
  · obtain ⟨_, v3, v4, rfl, e, h4, h5⟩ := hI
    have hi : i < st.length := (List.getElem?_eq_some_iff.mp hy).1
    have hyd : st.getD i 0 = y := by rw [List.getD_eq_getElem?_getD, hy]; rfl
    refine q_while (fun m σ' H' => m ≤ i ∧ σ' = [some (.ref a), some (.ref lf), some (.ref ll), some (nat i), some (nat y)] ∧ Ex H H' ∧ H' lf = some (.lst (vn ((List.range i).map (reach st)))) ∧ H' ll = some (.lst (vn (chain st m))) ∧ back st y i = back st y m) i ⟨Nat.le_refl _, rfl, e.trans e5, e5 lf _ h4, e5 ll _ h5, rfl⟩ fun m σ' H' hW => ?_
    obtain ⟨hm, rfl, e6, h6, h7, hb⟩ := hW
    cases m with
    | zero =>
      rw [chain_zero] at h7
      refine ⟨false && false, et_and (et_test (ev_is (ev_neLN (ns := []) (ms := []) (ev_var rfl) (sq_of h7) (el_lst ea_nil (Nat.zero_le _))) (by simp))) (fun z => by cases z), (fun z => by cases z), fun _ H8 e8 => ?_⟩
      refine q_if (b := true) (et_test (ev_is (ev_eqLN (ns := []) (ms := []) (ev_var rfl) (sq_of (e8 ll _ h7)) (el_lst ea_nil (Nat.zero_le _))) (by simp))) (fun _ H9 e9 => ?_) (fun z => by cases z)
      refine s_app (e9 lf _ (e8 lf _ h6)) (ev_var rfl) (v := nat 0) ev_c (by rw [List.length_map, List.length_map, List.length_range]; omega) fun H10 e10 => ?_
      have e610 := e6.trans (e8.trans (e9.trans e10))
      refine s_app (l := ll) (xs := vn []) (by rw [upd_ne hne.symm]; exact e10 ll _ (e9 ll _ (e8 ll _ h7))) (ev_var rfl) (ev_var rfl) (by decide) fun H11 e11 => ?_
      have hr0 : reach st i = 0 := by unfold reach; rw [hyd, hb]; rfl
      refine ⟨hi, _, _, rfl, Ex.mut ((Ex.mut e610 hfn).trans e11) hln, ?_, ?_⟩
      · rw [upd_ne hne, e11 lf _ upd_same, List.range_succ, List.map_append, List.map_singleton, vn_snoc]
        show _ = some (HO.lst (vn _ ++ [nat (reach st i)]))
        rw [hr0]
      · rw [upd_same, chain_succ, hyd, hb]
        show _ = some (HO.lst (vn (chain st 0 ++ [i])))
        rw [chain_zero]
        rfl
    | succ k =>
      rw [chain_succ, vn_snoc] at h7
      have hne2 : chain st (back st (st.getD k 0) k) ++ [k] ≠ [] := by simp
      have hk : (vn st)[k]? = some (nat (st.getD k 0)) := by
        have : k < st.length := by omega
        rw [List.getElem?_map, List.getElem?_eq_getElem this, List.getD_eq_getElem?_getD, List.getElem?_eq_getElem this]
        rfl
      have tN : ∀ {H8 : Hp}, Ex H' H8 → Ev (tOp (rNeD K) (tVar 2) (tLst tNil)) [some (.ref a), some (.ref lf), some (.ref ll), some (nat i), some (nat y)] H8 (.bl true) := fun {H8} e8 =>
        ev_is (ev_neLN (ns := chain st (back st (st.getD k 0) k) ++ [k]) (ms := []) (ev_var rfl) (sq_of (by rw [vn_snoc]; exact e8 ll _ h7)) (el_lst ea_nil (Nat.zero_le _))) (by simp)
      refine ⟨true && decide (st.getD k 0 < y), et_and (et_test (tN (Ex.refl H'))) (fun _ => et_test (ev_cmp (i := (st.getD k 0 : Nat)) (j := (y : Int)) (ev_ixN (i := k) (ev_var rfl) (ev_last (ev_var rfl) (ev_un ev_c ru_neg) (sq_of h7)) (ex_l e6 hS) hk) (ev_var rfl) (by rw [decide_eq_decide]; omega))), (fun hb2 H8 e8 => ?_), fun hb2 H8 e8 => ?_⟩
      · have hlt : st.getD k 0 < y := by simpa using hb2
        refine ⟨fun σ2 H2 => σ2 = [some (.ref a), some (.ref lf), some (.ref ll), some (nat i), some (nat y)] ∧ Ex H H2 ∧ H2 lf = some (.lst (vn ((List.range i).map (reach st)))) ∧ H2 ll = some (.lst (vn (chain st (back st (st.getD k 0) k)))), fun σ2 H2 hN => ?_, ?_⟩
        · obtain ⟨rfl, e9, h9, h10⟩ := hN
          have hbl := back_le st (st.getD k 0) k
          refine ⟨back st (st.getD k 0) k, by omega, by omega, rfl, e9, h9, h10, ?_⟩
          rw [hb]
          show (if st.getD k 0 < y then back st y k else k + 1) = _
          rw [if_pos hlt]
          exact back_back (Nat.le_of_lt hlt) k
        · refine s_pop (e8 ll _ h7) (ev_var rfl) fun H9 e9 => ⟨rfl, Ex.mut (e6.trans (e8.trans e9)) hln, ?_, upd_same⟩
          rw [upd_ne hne]
          exact e9 lf _ (e8 lf _ h6)
      · have hge : ¬ st.getD k 0 < y := by simpa using hb2
        have hbk : back st y (k + 1) = k + 1 := if_neg hge
        have hr0 : reach st i = k + 1 := by unfold reach; rw [hyd, hb, hbk]
        refine q_if (b := false) (et_test (ev_is (ev_eqLN (ns := chain st (back st (st.getD k 0) k) ++ [k]) (ms := []) (ev_var rfl) (sq_of (by rw [vn_snoc]; exact e8 ll _ h7)) (el_lst ea_nil (Nat.zero_le _))) (by simp))) (fun z => by cases z) (fun _ H9 e9 => ?_)
        refine s_app (e9 lf _ (e8 lf _ h6)) (ev_var rfl) (v := nat (k + 1)) (ev_add (ev_last (v := nat k) (ev_var rfl) (ev_un ev_c ru_neg) (sq_of (e9 ll _ (e8 ll _ h7)))) ev_c (by omega)) (by rw [List.length_map, List.length_map, List.length_range]; omega) fun H10 e10 => ?_
        have e610 := e6.trans (e8.trans (e9.trans e10))
        have hcl := chain_len st (k + 1)
        rw [chain_succ] at hcl
        refine s_app (l := ll) (xs := vn (chain st (back st (st.getD k 0) k)) ++ [nat k]) (by rw [upd_ne hne.symm]; exact e10 ll _ (e9 ll _ (e8 ll _ h7))) (ev_var rfl) (ev_var rfl) (by rw [← vn_snoc, List.length_map]; omega) fun H11 e11 => ?_
        refine ⟨hi, _, _, rfl, Ex.mut ((Ex.mut e610 hfn).trans e11) hln, ?_, ?_⟩
        · rw [upd_ne hne, e11 lf _ upd_same, List.range_succ, List.map_append, List.map_singleton, vn_snoc]
          show _ = some (HO.lst (vn _ ++ [nat (reach st i)]))
          rw [hr0]
        · rw [upd_same, chain_succ st i, hyd, hb, hbk, chain_succ st k, vn_snoc, vn_snoc]
  · obtain ⟨_, v3, v4, rfl, e, h4, h5⟩ := hI
    exact s_ret (ev_var rfl) fun H6 e6 => q lf H6 hfn (e.trans e6) (e6 lf _ h4)
theorem sl_reaches {H : Hp} {a : Addr} {st : List Nat} (h : SqL K H a (vn st)) (S : IsSt st) (hl : st.length ≤ 4000) : SpL (orBadSt K (spReaches K)) [.ref a] H (vn (rchs st)) := orBadSt_l fun H1 e Q q E => ⟨a, st, rfl, ex_l e h, S, hl, q⟩
/-! ### how_many -/
def spHowMany (K : PySem.W.Frag) : Sp := fun vs H Q _ => ∃ (a : Addr) (st : List Nat), vs = [.ref a] ∧ SqL K H a (vn st) ∧ IsSt st ∧ st.length ≤ 4000 ∧ RetV (nat (prodR (reach st) st.length)) H Q
theorem rchs_get {st : List Nat} {i : Nat} (hi : i < st.length) : (rchs st)[i]? = some (reach st i) := by
  unfold rchs
  rw [List.getElem?_map, List.getElem?_range hi]
  rfl
theorem rchs_len (st : List Nat) : (rchs st).length = st.length := by
  unfold rchs
  rw [List.length_map, List.length_range]
theorem ok_how_many {fd fd1 : FuncData} (F : FnP K "how_many" s_how_many fd) (B : Bi mg) (C1 : Cal P w K mg base (L2N.CX P w) 3 "reaches" P_reaches (orBadSt K (spReaches K)) fd1) : FnOk P w K mg base (L2N.CX P w) 4 (ga K "how_many") fd P_how_many (orBadSt K (spHowMany K)) := by
  refine F.okX sc_how_many (fun vs H Q E h => ?_) (fun cdv A outer s H vs Q E hr h => ⟨der_how_many B C1 hr, ?_⟩)
  · rcases h with ⟨a, st, rfl, _⟩ | ⟨x, rfl, _⟩ <;> rfl
  rcases h with h | ⟨x, rfl, hbad, qE⟩
  rotate_left
  · unfold der_how_many; dsimp only
    exact q_asg ev_c fun H1 e1 => xq_forE (xa_cons (xe_call (vs := [x]) (ea_cons (ev_var rfl) ea_nil) fun H2 e2 Q => .inr ⟨x, rfl, hbad.ex (e1.trans e2), fun H3 e3 => qE H3 ((e1.trans e2).trans e3)⟩))
  obtain ⟨a, st, rfl, hS, S, hl, q⟩ := h
  unfold der_how_many; dsimp only
  refine q_asg ev_c fun H1 e1 => ?_
  refine q_forEN nat (el_call (ea_cons (ev_var rfl) ea_nil) (sl_reaches (ex_l e1 hS) S hl)) (fun p i σ' H' => ∃ v2 v3, σ' = [some (.ref a), some (nat (prodR (reach st) i)), v2, v3] ∧ Ex H H' ∧ H' p = some (.lst (vn (rchs st)))) (fun p H2 hp e2 h2 => ?_) (fun p i σ' H' hI => ?_) (fun p i y σ' H' hy hI H3 e3 => ?_) (fun p σ' H' hI => ?_)
  · exact ⟨none, none, rfl, e1.trans e2, h2⟩
  · obtain ⟨v2, v3, rfl, e, h2⟩ := hI
    exact sq_of h2
  · obtain ⟨v2, v3, rfl, e, h2⟩ := hI
    have hi : i < st.length := by have := (List.getElem?_eq_some_iff.mp hy).1; rw [rchs_len] at this; exact this
    have hyr : y = reach st i := by rw [rchs_get hi] at hy; exact (Option.some.inj hy).symm
    have hle := reach_le st i
    refine s_asg (v := nat (prodR (reach st) (i + 1))) (ev_mul (i := (prodR (reach st) i : Nat)) (j := ((i - reach st i + 1 : Nat) : Int)) (ev_var rfl) (ev_add (i := ((i - reach st i : Nat) : Int)) (j := 1) (ev_sub (i := (i : Int)) (j := (y : Int)) (ev_var rfl) (ev_var rfl) (by omega)) ev_c (by omega)) (.inr ⟨by omega, by omega⟩) ?_) fun H4 e4 => ⟨_, _, rfl, (e.trans e3).trans e4, e4 p _ (e3 p _ h2)⟩
    show (((prodR (reach st) i * (i - reach st i + 1) : Nat)) : Int) = _
    push_cast
    rfl
  · obtain ⟨v2, v3, rfl, e, h2⟩ := hI
    rw [rchs_len]
    exact s_ret (ev_var rfl) fun H4 e4 => q H4 (e.trans e4)
/-! ### from_steps -/
def OkSteps (st : List Nat) (ss : List Int) : Prop := ∀ p, p < st.length → 0 ≤ ss.getD p 0 ∧ ss.getD p 0 ≤ (p : Int) - (reach st p : Int)
def spFromSteps (K : PySem.W.Frag) : Sp := fun vs H Q E => ∃ (a b : Addr) (st : List Nat) (ss : List Int), vs = [.ref a, .ref b] ∧ SqL K H a (vn st) ∧ SqL K H b (vi ss) ∧ IsSt st ∧ st.length ≤ 4000 ∧ ss.length = st.length ∧ (OkSteps st ss → RetL (vn (fsteps st ss)) H Q) ∧ (¬ OkSteps st ss → RetT K "BadStanding" H E)
def BadSteps (K : PySem.W.Frag) (H : Hp) (st : List Nat) (k : Kd) : Prop := k.isL = false ∨ ∃ ys ks, k = .lst ys ∧ AllK K H ys ks ∧ (ys.length ≠ st.length ∨ ∃ j, j < st.length ∧ (ks.getD j .non).num 0 ((j : Int) - (reach st j : Int)) = false)
def spFromStepsK (K : PySem.W.Frag) : Sp := fun vs H Q E => spFromSteps K vs H Q E ∨ ∃ x y, vs = [x, y] ∧ RetT K "BadStanding" H E ∧ (BadSt K H x ∨ ∃ (a : Addr) (st : List Nat) (k : Kd), x = .ref a ∧ SqL K H a (vn st) ∧ IsSt st ∧ st.length ≤ 4000 ∧ IsK K H y k ∧ BadSteps K H st k)
theorem num_int {k : Kd} {lo hi : Int} (h : k.num lo hi = true) : ∃ i : Int, k = .int i ∧ lo ≤ i ∧ i ≤ hi := by
  cases k with
  | int i => exact ⟨i, rfl, of_decide_eq_true h⟩
  | _ => cases h
theorem ok_from_steps {fd fd1 fd2 : FuncData} (F : FnP K "from_steps" s_from_steps fd) (B : Bi mg) (C1 : Cal P w K mg base CX0 1 "is_number" P_is_number (spIsNumberK K) fd1) (C2 : Cal P w K mg base (L2N.CX P w) 3 "reaches" P_reaches (orBadSt K (spReaches K)) fd2) (X1 : ExcF K mg "BadStanding") :
    FnOk P w K mg base (L2N.CX P w) 4 (ga K "from_steps") fd P_from_steps (spFromStepsK K) := by
  refine F.okX sc_from_steps (fun vs H Q E h => ?_) (fun cdv A outer s H vs Q E hr h => ⟨der_from_steps B C1 C2 X1 hr, ?_⟩)
  · rcases h with ⟨a, b, st, ss, rfl, _⟩ | ⟨x, y, rfl, _⟩ <;> rfl
  rcases h with h | ⟨x, y, rfl, qE, h⟩
  rotate_left
  · unfold der_from_steps; dsimp only
    rcases h with hbad | ⟨a, st, k, rfl, hS, S, hl, hk, hb⟩
    · exact xq_asg (xe_call (vs := [x]) (ea_cons (ev_var rfl) ea_nil) fun H2 e2 Q => .inr ⟨x, rfl, hbad.ex e2, fun H3 e3 => qE H3 (e2.trans e3)⟩)
    refine q_asgL (el_call (ea_cons (ev_var rfl) ea_nil) (sl_reaches hS S hl)) fun lr H1 hlr e1 h1 => ?_
    have hk1 := hk.ex e1
    have tl := ev_cb (σ := [some (.ref a), some y, some (.ref lr), none, none, none]) (H := H1) (ea_cons (ev_var (i := 1) rfl) (ea_cons ev_c ea_nil)) (isi_k hk1 "list" (kit_list k))
    rcases hb with hb | ⟨ys, ks, rfl, hK, hb⟩
    · rw [hb] at tl
      exact q_when (b := (!false) || false) (et_or (et_not (et_B tl)) fun z => by cases z) (fun _ H2 e2 => qE H2 (e1.trans e2)) fun z => by cases z
    obtain ⟨b, rfl, hB⟩ := hk
    refine q_when (b := (!true) || !decide ((ys.length : Int) = (st.length : Int))) (et_or (et_not (et_B tl)) fun _ => et_test (ev_neInt (ev_lenS (ev_var rfl) (ex_l e1 hB) rfl) (ev_lenS (ev_var rfl) (ex_l e1 hS) (by rw [List.length_map])))) (fun _ H2 e2 => qE H2 (e1.trans e2)) fun hb0 H2 e2 => ?_
    have hys : ys.length = st.length := by
      have : (ys.length : Int) = (st.length : Int) := by simpa using hb0
      omega
    rcases hb with hb | ⟨j, hj, hjn⟩
    · exact absurd hys hb
    have hkl : ks.length = st.length := by rw [← hK.1]; exact hys
    refine q_asgL (el_ls nat (fun _ => nat 0) (ev_var rfl) (ex_l (e1.trans e2) hS) (by omega) (fun _ => rfl) fun i y H3 e3 hy => ev_c) fun lw H3 hlw e3 h3 => ?_
    have hwn : H lw = none := fresh_back (e1.trans e2) hlw
    have hr3 : H3 lr = some (.lst (vn (rchs st))) := e3 lr _ (e2 lr _ h1)
    refine q_forE nat (ev_var rfl) (ex_l ((e1.trans e2).trans e3) hS) (fun i σ' H' => i ≤ st.length ∧ (∀ p, p < i → (ks.getD p .non).num 0 ((p : Int) - (reach st p : Int)) = true) ∧ ∃ v4 v5 zs, σ' = [some (.ref a), some (.ref b), some (.ref lr), some (.ref lw), v4, v5] ∧ Ex H H' ∧ H' lr = some (.lst (vn (rchs st))) ∧ H' lw = some (.lst zs) ∧ zs.length = st.length) (fun H4 e4 => ?_) (fun i σ' H' hI => ?_) (fun i y σ' H' hy hI H5 e5 => ?_) (fun σ' H' hI => ?_)
    · exact ⟨Nat.zero_le _, (fun p hp => absurd hp (Nat.not_lt_zero p)), none, none, _, rfl, ((e1.trans e2).trans e3).trans e4, e4 lr _ hr3, e4 lw _ h3, by rw [List.length_map]⟩
    · obtain ⟨_, _, v4, v5, zs, rfl, e, _⟩ := hI
      exact ex_l e hS
    · obtain ⟨_, hok, v4, v5, zs, rfl, e, h4, h5, hzl⟩ := hI
      have hi : i < st.length := (List.getElem?_eq_some_iff.mp hy).1
      have hyd : st.getD i 0 = y := by rw [List.getD_eq_getElem?_getD, hy]; rfl
      have hyi : ys[i]? = some (ys[i]'(by omega)) := List.getElem?_eq_getElem (by omega)
      have hki : ks[i]? = some (ks.getD i .non) := by rw [List.getD_eq_getElem?_getD, List.getElem?_eq_getElem (by omega)]; rfl
      have hle := reach_le st i
      have e05 := e.trans e5
      have hkx := (hK.2 i _ _ hyi hki).ex e05
      generalize ys[i]'(by omega) = yi at hyi hkx
      refine q_when (b := !((ks.getD i .non).num 0 ((i : Int) - (reach st i : Int)))) (et_not (et_B (ev_call (vs := [yi, .int 0, .int ((i : Int) - (reach st i : Int))]) (ea_cons (ev_ixN (ev_var rfl) (ev_var rfl) (ex_l e05 hB) hyi) (ea_cons ev_c (ea_cons (ev_sub (ev_var rfl) (ev_ixN (ev_var rfl) (ev_var rfl) (sq_of (e5 lr _ h4)) (vn_get (rchs_get hi))) rfl) ea_nil))) (sv_numK hkx)))) (fun _ H6 e6 => qE H6 (e05.trans e6)) fun hb6 H6 e6 => ?_
      have e06 := e05.trans e6
      have hnum : (ks.getD i .non).num 0 ((i : Int) - (reach st i : Int)) = true := by simpa using hb6
      obtain ⟨s, hs, hs1, hs2⟩ := num_int hnum
      rw [hs] at hkx
      have hyi' : yi = .int s := hkx
      subst hyi'
      refine s_setL (j := y) (xs := zs) (v := .int ((i : Int) - s)) (e6 lw _ (e5 lw _ h5)) (ev_sub (i := (i : Int)) (j := s) (ev_var rfl) (ev_ixN (ev_var rfl) (ev_var rfl) (ex_l e06 hB) hyi) rfl) (ev_var rfl) (ev_var rfl) (by rw [hzl, ← hyd]; exact st_lt S hi) fun H7 e7 => ?_
      refine ⟨hi, fun p hp => ?_, _, _, _, rfl, Ex.mut (e06.trans e7) hwn, ?_, upd_same, by rw [List.length_set]; exact hzl⟩
      · by_cases ep : p = i
        · subst ep
          exact hnum
        · exact hok p (by omega)
      · rw [upd_ne (ne_of_none (e2 lr _ h1) hlw)]
        exact e7 lr _ (e6 lr _ (e5 lr _ h4))
    · obtain ⟨_, hok, _⟩ := hI
      have := hok j hj
      rw [hjn] at this
      cases this
  obtain ⟨a, b, st, ss, rfl, hS, hB, S, hl, hss, q, qE⟩ := h
  unfold der_from_steps; dsimp only
  refine q_asgL (el_call (ea_cons (ev_var rfl) ea_nil) (sl_reaches hS S hl)) fun lr H1 hlr e1 h1 => ?_
  refine q_when (b := (!true) || !decide ((ss.length : Int) = (st.length : Int))) (et_or (et_not (et_B (ev_cb (ea_cons (ev_var rfl) (ea_cons ev_c ea_nil)) (isi_list (k := true) (ex_l e1 hB) "list" (by decide +kernel))))) fun _ => et_test (ev_neInt (ev_lenS (ev_var rfl) (ex_l e1 hB) (by rw [List.length_map])) (ev_lenS (ev_var rfl) (ex_l e1 hS) (by rw [List.length_map])))) (fun hb => by rw [hss] at hb; simp at hb) fun _ H2 e2 => ?_
  refine q_asgL (el_ls nat (fun _ => nat 0) (ev_var rfl) (ex_l (e1.trans e2) hS) (by omega) (fun _ => rfl) fun i y H3 e3 hy => ev_c) fun lw H3 hlw e3 h3 => ?_
  have hwn : H lw = none := fresh_back (e1.trans e2) hlw
  have hr3 : H3 lr = some (.lst (vn (rchs st))) := e3 lr _ (e2 lr _ h1)
  refine q_forE nat (ev_var rfl) (ex_l ((e1.trans e2).trans e3) hS) (fun i σ' H' => i ≤ st.length ∧ (∀ p, p < i → 0 ≤ ss.getD p 0 ∧ ss.getD p 0 ≤ (p : Int) - (reach st p : Int)) ∧ ∃ v4 v5, σ' = [some (.ref a), some (.ref b), some (.ref lr), some (.ref lw), v4, v5] ∧ Ex H H' ∧ H' lr = some (.lst (vn (rchs st))) ∧ H' lw = some (.lst (vn (fstep st ss i)))) (fun H4 e4 => ?_) (fun i σ' H' hI => ?_) (fun i y σ' H' hy hI H5 e5 => ?_) (fun σ' H' hI => ?_)
  · refine ⟨Nat.zero_le _, (fun p hp => absurd hp (Nat.not_lt_zero p)), none, none, rfl, ((e1.trans e2).trans e3).trans e4, e4 lr _ hr3, ?_⟩
    rw [e4 lw _ h3]
    congr 2
    unfold fstep vn
    rw [List.map_replicate, List.eq_replicate_iff]
    exact ⟨by rw [List.length_map], fun x hx => by obtain ⟨_, _, rfl⟩ := List.mem_map.mp hx; rfl⟩
  · obtain ⟨_, _, v4, v5, rfl, e, _⟩ := hI
    exact ex_l e hS
  · obtain ⟨_, hok, v4, v5, rfl, e, h4, h5⟩ := hI
    have hi : i < st.length := (List.getElem?_eq_some_iff.mp hy).1
    have hyd : st.getD i 0 = y := by rw [List.getD_eq_getElem?_getD, hy]; rfl
    have hsi : (vi ss)[i]? = some (.int (ss.getD i 0)) := by
      rw [List.getElem?_map, List.getElem?_eq_getElem (by omega), List.getD_eq_getElem?_getD, List.getElem?_eq_getElem (by omega)]
      rfl
    have hle := reach_le st i
    have e05 := e.trans e5
    have tn : Ev (tCall (spIsNumberK K) [] E0 (tCons (tOp (rIxL K) (tVar 1) (tVar 4)) (tCons (tC (.int 0)) (tCons (tOp (rI0 fun i j => .int (i - j)) (tVar 4) (tOp (rIxL K) (tVar 2) (tVar 4))) tNil)))) [some (.ref a), some (.ref b), some (.ref lr), some (.ref lw), some (nat i), some (nat y)] H5 (.bl (decide (0 ≤ ss.getD i 0 ∧ ss.getD i 0 ≤ (i : Int) - (reach st i : Int)))) :=
      ev_call (vs := [.int (ss.getD i 0), .int 0, .int ((i : Int) - (reach st i : Int))]) (ea_cons (ev_ixN (ev_var rfl) (ev_var rfl) (ex_l e05 hB) hsi) (ea_cons ev_c (ea_cons (ev_sub (ev_var rfl) (ev_ixN (ev_var rfl) (ev_var rfl) (sq_of (e5 lr _ h4)) (vn_get (rchs_get hi))) rfl) ea_nil))) sv_num
    refine q_when (et_not (et_B tn)) (fun hb H6 e6 => ?_) fun hb H6 e6 => ?_
    · refine qE (fun hall => ?_) H6 (e05.trans e6)
      rw [decide_eq_true (hall i hi)] at hb
      cases hb
    · have hcond : 0 ≤ ss.getD i 0 ∧ ss.getD i 0 ≤ (i : Int) - (reach st i : Int) := by simpa using hb
      have e06 := e05.trans e6
      refine s_setL (j := y) (xs := vn (fstep st ss i)) (v := nat ((i : Int) - ss.getD i 0).toNat) (e6 lw _ (e5 lw _ h5)) (ev_sub (i := (i : Int)) (j := ss.getD i 0) (ev_var rfl) (ev_ixN (ev_var rfl) (ev_var rfl) (ex_l e06 hB) hsi) (by omega)) (ev_var rfl) (ev_var rfl) (by rw [List.length_map, fstep_len]; rw [← hyd]; exact st_lt S hi) fun H7 e7 => ?_
      refine ⟨hi, fun p hp => ?_, _, _, rfl, Ex.mut (e06.trans e7) hwn, ?_, ?_⟩
      · by_cases ep : p = i
        · subst ep
          exact hcond
        · exact hok p (by omega)
      · rw [upd_ne (ne_of_none (e2 lr _ h1) hlw)]
        exact e7 lr _ (e6 lr _ (e5 lr _ h4))
      · rw [upd_same]
        show some (HO.lst ((vn (fstep st ss i)).set y _)) = some (HO.lst (vn ((fstep st ss i).set (st.getD i 0) ((i : Int) - ss.getD i 0).toNat)))
        rw [hyd]
        unfold vn
        rw [List.map_set]
  · obtain ⟨_, hok, v4, v5, rfl, e, h4, h5⟩ := hI
    exact s_ret (ev_var rfl) fun H6 e6 => q hok lw H6 hwn (e.trans e6) (e6 lw _ h5)
/-! ### wishes_of -/
theorem tr_of {ps : List Nat} (hw : ∀ x ∈ ps, x < ps.length + 1) (h : ps.length < (qAll ps).length) : Tr ps := by
  refine ⟨fun c hc => Nat.le_of_lt_succ (hw _ (List.mem_of_getElem? (getD_of hc))), fun v hv => ?_⟩
  have Q := qi ps (ps.length + 1)
  have S : IsSt (qAll ps) := ⟨fun x hx => by have h1 : x ≤ ps.length := Q.le x hx
                                             omega, Q.nd⟩
  obtain ⟨p, hp, e⟩ := st_has S (c := v) (by omega)
  rw [← e]
  exact List.mem_of_getElem? (getD_of hp)
def spWishesOf (K : PySem.W.Frag) : Sp := fun vs H Q E => ∃ (a : Addr) (ps : List Nat), vs = [.ref a] ∧ SqL K H a (vn ps) ∧ ps.length ≤ 20000 ∧ (∀ x ∈ ps, x < ps.length + 1) ∧ (Tr ps → RetL (vn (wishL ps)) H Q) ∧ (¬ Tr ps → RetT K "BadTree" H E)
def orBadTr (K : PySem.W.Frag) (sp : Sp) : Sp := fun vs H Q E => sp vs H Q E ∨ ∃ x, vs = [x] ∧ BadL K H x mT ∧ RetT K "BadTree" H E
theorem ok_wishes_of {fd fd1 fd2 : FuncData} (F : FnP K "wishes_of" s_wishes_of fd) (B : Bi mg) (C1 : Cal P w K mg base CX0 1 "is_number" P_is_number (spIsNumberK K) fd1) (C2 : Cal P w K mg base CX0 1 "served_by" P_served_by (spServed K) fd2) (X1 : ExcF K mg "BadTree") :
    FnOk P w K mg base (L2N.CX P w) 2 (ga K "wishes_of") fd P_wishes_of (orBadTr K (spWishesOf K)) := by
  refine F.okX sc_wishes_of (fun vs H Q E h => ?_) (fun cdv A outer s H vs Q E hr h => ⟨der_wishes_of B C1 C2 X1 hr, ?_⟩)
  · rcases h with ⟨a, ps, rfl, _⟩ | ⟨x, rfl, _⟩ <;> rfl
  rcases h with h | ⟨x, rfl, ⟨k, hk, hb⟩, qE⟩
  rotate_left
  · unfold der_wishes_of; dsimp only
    have tl := ev_cb (σ := L2.start N_wishes_of [x]) (H := H) (ea_cons (ev_var (i := 0) rfl) (ea_cons ev_c ea_nil)) (isi_k hk "list" (kit_list k))
    rcases hb with hb | ⟨xs, ks, rfl, hK, hz, hn⟩
    · rw [hb] at tl
      exact q_when (b := (!false) || false) (et_or (et_not (et_B tl)) fun z => by cases z) (fun _ H2 e2 => qE H2 e2) fun z => by cases z
    · obtain ⟨a, rfl, hS⟩ := hk
      have t2 := el_numK (K := K) (σ := L2.start N_wishes_of [.ref a]) (H := H) (tl := tVar 0) (tlo := tC (.int 0)) (thi := tCB (rLenS K) (tCons (tVar 0) tNil)) (j := 5) (lo := 0) (hi := mT xs.length) (ev_var rfl) hS (by omega) hK (fun _ => rfl) (fun _ => rfl) (fun x H2 e2 => ev_c) (fun x H2 e2 => ev_lenS (n := xs.length) (ev_var rfl) (ex_l e2 hS) rfl)
      refine q_when (b := (!true) || !((ks.map (Kd.num 0 (mT xs.length))).all id)) (et_or (et_not (et_B tl)) fun _ => et_not (et_B (ev_allN t2))) (fun _ H2 e2 => qE H2 e2) fun hb => ?_
      have : ((ks.map (Kd.num 0 (mT xs.length))).all id) = allN 0 (mT xs.length) ks := by
        unfold allN
        rw [List.all_map]
        rfl
      rw [this, hn] at hb
      cases hb
  obtain ⟨a, ps, rfl, hS, hl, hw, q, qE⟩ := h
  unfold der_wishes_of; dsimp only
  have t2 : EvL (tLc (iList K (tVar 0)) (gName 5) tYes (tCall (spIsNumberK K) [] E0 (tCons (tVar 5) (tCons (tC (.int 0)) (tCons (tCB (rLenS K) (tCons (tVar 0) tNil)) tNil)))) [5]) (L2.start N_wishes_of [.ref a]) H ((ps.map fun _ => true).map V.bl) := by
    rw [List.map_map]
    refine el_ls nat (V.bl ∘ fun _ => true) (ev_var rfl) hS (by omega) (fun _ => rfl) fun i y H2 e2 hy => ?_
    have hyp := hw y (List.mem_of_getElem? hy)
    refine ev_is (ev_call (ea_cons (ev_var rfl) (ea_cons ev_c (ea_cons (ev_lenS (n := ps.length) (ev_var rfl) (ex_l e2 hS) (by rw [List.length_map])) ea_nil))) sv_num) ?_
    show V.bl (decide _) = V.bl true
    congr 1
    exact decide_eq_true ⟨by omega, by omega⟩
  have t3 : ((ps.map fun _ => true).all id) = true := by
    rw [List.all_map, List.all_eq_true]
    intro x _
    rfl
  refine q_when (et_or (et_not (et_B (ev_cb (ea_cons (ev_var rfl) (ea_cons ev_c ea_nil)) (isi_list (k := true) hS "list" (by decide +kernel))))) fun _ => et_not (et_B (ev_allN t2))) (fun h => ?_) fun _ H1 e1 => ?_
  · rw [t3] at h
    cases h
  refine q_asgL (el_call (ea_cons (ev_var rfl) ea_nil) (sl_served (ex_l e1 hS) hl hw)) fun lq H2 hlq e2 h2 => ?_
  have e12 := e1.trans e2
  have hql : (qAll ps).length ≤ ps.length + 1 := qw_len ps _
  refine q_when (b := decide ((qAll ps).length ≤ ps.length)) (et_test (ev_cmp (i := ((qAll ps).length : Int)) (j := (ps.length : Int)) (ev_lenS (ev_var rfl) (sq_of h2) (by rw [List.length_map])) (ev_lenS (ev_var rfl) (ex_l e12 hS) (by rw [List.length_map])) (by rw [decide_eq_decide]; omega))) (fun hb H3 e3 => qE (fun T => ?_) H3 (e12.trans e3)) fun hb H3 e3 => ?_
  · have := T.len
    have := of_decide_eq_true hb
    omega
  have T : Tr ps := tr_of hw (by have := of_decide_eq_false hb; omega)
  have e13 := e12.trans e3
  have h3 := e3 lq _ h2
  have PL := T.perm
  have hTl := T.len
  refine q_asgL (xs := vn (stdK (qAll ps) 0)) ?_ fun lt H4 hlt e4 h4 => ?_
  · have e : vn (stdK (qAll ps) 0) = (qAll ps).map fun _ => nat 0 := by
      show (List.replicate (qAll ps).length 0).map nat = _
      rw [List.map_replicate]
      refine (List.eq_replicate_iff.mpr ⟨by rw [List.length_map], fun x hx => ?_⟩).symm
      obtain ⟨_, _, rfl⟩ := List.mem_map.mp hx
      rfl
    rw [e]
    exact el_ls nat (fun _ => nat 0) (ev_var rfl) (sq_of h3) (by omega) (fun _ => rfl) fun i y H3 e3 hy => ev_c
  have htn : H lt = none := fresh_back e13 hlt
  refine q_forE nat (ev_var rfl) (sq_of (e4 lq _ h3)) (fun i σ' H' => i ≤ (qAll ps).length ∧ ∃ v3 v4, σ' = [some (.ref a), some (.ref lq), some (.ref lt), v3, v4, none] ∧ Ex H3 H' ∧ H' lt = some (.lst (vn (stdK (qAll ps) i)))) (fun H5 e5 => ?_) (fun i σ' H' hI => ?_) (fun i y σ' H' hy hI H5 e5 => ?_) (fun σ' H' hI => ?_)
  · exact ⟨Nat.zero_le _, none, none, rfl, e4.trans e5, e5 lt _ h4⟩
  · obtain ⟨_, v3, v4, rfl, e, _⟩ := hI
    exact sq_of (e lq _ h3)
  · obtain ⟨_, v3, v4, rfl, e, h5⟩ := hI
    have hi : i < (qAll ps).length := (List.getElem?_eq_some_iff.mp hy).1
    have hyd : (qAll ps).getD i 0 = y := by rw [List.getD_eq_getElem?_getD, hy]; rfl
    have hyl : y < (qAll ps).length := by rw [← hyd]; exact PL.lo i hi
    refine s_setL (j := y) (v := nat i) (e5 lt _ h5) (ev_var rfl) (ev_var rfl) (ev_var rfl) (by rw [List.length_map, stdK_len]; exact hyl) fun H6 e6 => ?_
    refine ⟨hi, _, _, rfl, Ex.mut (e.trans (e5.trans e6)) hlt, ?_⟩
    rw [upd_same]
    show some (HO.lst ((vn (stdK (qAll ps) i)).set y (nat i))) = some (HO.lst (vn ((stdK (qAll ps) i).set ((qAll ps).getD i 0) i)))
    unfold vn
    rw [List.map_set, hyd]
  · obtain ⟨_, v3, v4, rfl, e, h5⟩ := hI
    have h5' : H' lt = some (.lst (vn (turnsOf ps))) := h5
    have htl : (turnsOf ps).length = ps.length + 1 := by unfold turnsOf; rw [stdOf_len, hTl]
    refine s_retL (xs := vn (wishL ps)) ?_ fun p H6 hp e6 h6 => q T p H6 (fresh_back (e13.trans e) hp) (e13.trans (e.trans e6)) h6
    unfold vn wishL
    rw [List.map_map]
    refine el_ls nat _ (ev_var rfl) (ex_l (e13.trans e) hS) (by omega) (fun _ => rfl) fun i y H6 e6 hy => ?_
    have hyp := hw y (List.mem_of_getElem? hy)
    exact ev_ixN (i := y) (ev_var rfl) (ev_var rfl) (sq_of (e6 lt _ h5')) (vn_get (getD_get (by omega)))
theorem sl_wishesOf {H : Hp} {a : Addr} {ps : List Nat} (h : SqL K H a (vn ps)) (hl : ps.length ≤ 20000) (hw : ∀ x ∈ ps, x < ps.length + 1) (T : Tr ps) : SpL (spWishesOf K) [.ref a] H (vn (wishL ps)) := fun H1 e Q q E => ⟨a, ps, rfl, ex_l e h, hl, hw, fun _ => q, fun n => absurd T n⟩
theorem sl_tree {H : Hp} {a : Addr} {ws : List Nat} (h : SqL K H a (vn ws)) (hl : ws.length ≤ 20000) (F : Full ws) : SpL (spTree K) [.ref a] H (vn (treeL ws)) := fun H1 e Q q E => ⟨a, ws, rfl, ex_l e h, hl, F.lo, fun _ => q, fun n => absurd F n⟩
end
end Pk
namespace Pk
open PySem PySem.Spec PyProof.Rows L2 Evl He
section
variable {P : Program} {w : World} {K : PySem.W.Frag} {mg : Str → Option Value} {base : Heap}
open SX (S)
/-! ### written -/
def txtL (p : Nat) (ws : List Nat) : List Nat := TL.joinL [32] ((TL.numL p ++ [58]) :: ws.map TL.numL)
theorem numL_7 {n : Nat} (h : n ≤ 1000000) : (TL.numL n).length ≤ 7 := TL.numL_len (by decide) (by omega)
theorem sum_7 : ∀ {ws : List Nat}, (∀ x ∈ ws, x ≤ 1000000) → ((ws.map TL.numL).map (·.length)).sum ≤ 7 * ws.length
  | [], _ => Nat.zero_le _
  | x :: r, h => by
    have h1 := numL_7 (h x List.mem_cons_self)
    have h2 := sum_7 (ws := r) fun y hy => h y (List.mem_cons_of_mem _ hy)
    rw [List.map_cons, List.map_cons, List.sum_cons, List.length_cons]
    omega
theorem el_cat3 {σ : L2.St} {H : Hp} {ta tb : TE} {xs ys : List V} (ha : EvL ta σ H xs) (hb : EvL tb σ H ys) (hz : xs.length + ys.length ≤ 100000) : EvL (tOp rCat ta tb) σ H (xs ++ ys) := fun H1 e Q q =>
  ha H1 e _ fun p H2 hp e2 h2 => hb H2 (e.trans e2) _ fun b H3 _ e3 h3 => ⟨p, b, xs, ys, rfl, rfl, e3 p _ h2, h3, sz_of hz, fun d hd => q d _ (fresh_back (e2.trans e3) hd) ((e2.trans e3).trans (Ex.new hd)) upd_same⟩
/-- ' '.join([str(places) + ':'] + [str(wish) for wish in wishes]) -/
theorem ev_txt {σ : L2.St} {H : Hp} {a : Addr} {p : Nat} {ws : List Nat} {i j k : Nat} (hp : p ≤ 1000000) (hw : ∀ x ∈ ws, x ≤ 1000000) (hl : ws.length ≤ 10000) (hi : σ[i]? = some (some (nat p))) (hj : σ[j]? = some (some (.ref a))) (hS : SqL K H a (vn ws)) (hw2 : ∀ x, wipe ((wipe σ [k]).set k (some x)) [k] = wipe σ [k]) (hk : ∀ x : V, ((wipe σ [k]).set k (some x))[k]? = some (some x)) :
    Ev (tM1 (rJoin K) (tC (.str (Str.ofString " "))) (tOp rCat (tLst (tCons (tOp (fun x y H Q => ∃ i j, x = .str i ∧ y = .str j ∧ i.length + j.length ≤ sizeLine ∧ Q (.str (i ++ j)) H) (tCB (fun xs H Q => ∃ i, xs = [.int i] ∧ i.natAbs.log2 < 1920 ∧ Q (.str (toString i)) H) (tCons (tVar i) tNil)) (tC (.str (Str.ofString ":")))) tNil)) (tLc (iList K (tVar j)) (gName k) tYes (tCB (fun xs H Q => ∃ i, xs = [.int i] ∧ i.natAbs.log2 < 1920 ∧ Q (.str (toString i)) H) (tCons (tVar k) tNil)) [k]))) σ H (.str (S (txtL p ws))) := by
  have h1 : EvL (tLst (tCons (tOp (fun x y H Q => ∃ i j, x = .str i ∧ y = .str j ∧ i.length + j.length ≤ sizeLine ∧ Q (.str (i ++ j)) H) (tCB (fun xs H Q => ∃ i, xs = [.int i] ∧ i.natAbs.log2 < 1920 ∧ Q (.str (toString i)) H) (tCons (tVar i) tNil)) (tC (.str (Str.ofString ":")))) tNil)) σ H [V.str (S (TL.numL p ++ [58]))] :=
    el_lst (ea_cons (ev_catS (ev_cb (ea_cons (ev_var hi) ea_nil) (rc_strN (by omega))) (ev_lit lit_co) (by have := numL_7 hp; show _ + 1 ≤ _; omega)) ea_nil) (Nat.le_of_ble_eq_true rfl)
  have h2 : EvL (tLc (iList K (tVar j)) (gName k) tYes (tCB (fun xs H Q => ∃ i, xs = [.int i] ∧ i.natAbs.log2 < 1920 ∧ Q (.str (toString i)) H) (tCons (tVar k) tNil)) [k]) σ H (ws.map fun w => V.str (S (TL.numL w))) :=
    el_ls nat _ (ev_var hj) hS (by omega) hw2 fun i y H2 e2 hy => ev_cb (ea_cons (ev_var (hk _)) ea_nil) (rc_strN (by have := hw y (List.mem_of_getElem? hy); omega))
  have h3 := el_cat3 h1 h2 (by rw [List.length_map, List.length_singleton]; omega)
  have e : [V.str (S (TL.numL p ++ [58]))] ++ (ws.map fun w => V.str (S (TL.numL w))) = ((TL.numL p ++ [58]) :: ws.map TL.numL).map fun y => V.str (S y) := by
    rw [List.map_cons, List.map_map]
    rfl
  rw [e] at h3
  refine ev_joinL (ev_lit lit_sp) h3 ?_
  have h4 := sum_7 hw
  have h5 := numL_7 hp
  rw [List.map_cons, List.sum_cons, List.length_append, List.length_singleton, List.length_cons, List.length_map, List.length_singleton]
  omega
def spWritten (K : PySem.W.Frag) : Sp := fun vs H Q _ => ∃ (p : Nat) (a : Addr) (ws : List Nat), vs = [nat p, .ref a] ∧ 1 ≤ p ∧ p ≤ 1000000 ∧ SqL K H a (vn ws) ∧ ws.length ≤ 10000 ∧ (∀ x ∈ ws, x < p) ∧ RetV (.str (S (txtL p ws))) H Q
theorem ok_written {fd fd1 : FuncData} (F : FnP K "written" s_written fd) (B : Bi mg) (C1 : Cal P w K mg base (L2N.CX P w) 2 "asked_wishes" P_asked_wishes (spAsked K) fd1) : FnOk P w K mg base (L2N.CX P w) 3 (ga K "written") fd P_written (spWritten K) := by
  refine F.okX sc_written (fun vs H Q E h => ?_) (fun cdv A outer s H vs Q E hr h => ⟨der_written B C1 hr, ?_⟩)
  · obtain ⟨p, a, ws, rfl, _⟩ := h; rfl
  obtain ⟨p, a, ws, rfl, hp1, hp2, hS, hl, hw, q⟩ := h
  unfold der_written; dsimp only
  refine q_drop (ev_call (ea_cons (ev_var rfl) (ea_cons (ev_var rfl) ea_nil)) (sv_asked hp1 hp2 hS (by omega) hw)) fun H1 e1 => ?_
  exact s_ret (ev_txt hp2 (fun x hx => by have := hw x hx; omega) hl rfl rfl (ex_l e1 hS) (fun _ => rfl) fun _ => rfl) fun H2 e2 => q H2 (e1.trans e2)
theorem sv_written {H : Hp} {a : Addr} {p : Nat} {ws : List Nat} (h1 : 1 ≤ p) (h2 : p ≤ 1000000) (h : SqL K H a (vn ws)) (hl : ws.length ≤ 10000) (hw : ∀ x ∈ ws, x < p) : SpV (spWritten K) [nat p, .ref a] H (.str (S (txtL p ws))) := fun H1 e Q q E => ⟨p, a, ws, rfl, h1, h2, ex_l e h, hl, hw, q⟩
/-! ### number_in -/
def spNumIn (K : PySem.W.Frag) : Sp := fun vs H Q E => ∃ w : List Nat, vs = [.str (S w)] ∧ w.length ≤ 5000 ∧ (NumOk w → RetV (nat (dv w)) H Q) ∧ (¬ NumOk w → RetT K "BadText" H E)
theorem ok_number_in {fd : FuncData} {tk1 tk2 : Tok} (F : FnP K "number_in" s_number_in fd) (B : Bi mg) (g1 : mg "FIGURES" = some (.str "0123456789" tk1)) (g2 : mg "LONGEST" = some (.int 7 tk2)) (X1 : ExcF K mg "BadText") : FnOk P w K mg base (L2N.CX P w) 1 (ga K "number_in") fd P_number_in (spNumIn K) := by
  refine F.okX sc_number_in (fun vs H Q E h => ?_) (fun cdv A outer s H vs Q E hr h => ⟨der_number_in B g1 g2 X1 hr, ?_⟩)
  · obtain ⟨w, rfl, _⟩ := h; rfl
  obtain ⟨w, rfl, hl, q, qE⟩ := h
  unfold der_number_in; dsimp only
  refine q_when (b := (!(decide (1 ≤ w.length) && decide (w.length ≤ 7))) || ((!(w.all isDg)) || (decide (w.head? = some 48) && !decide (w = [48])))) (et_or (et_not (et_test (ev_chain (i := 1) (j := (w.length : Int)) (k := 7) ev_c (ev_lenT (ev_var rfl) (by omega)) ev_c ?_))) fun _ => et_or (et_test (ev_notDg (ev_var rfl) (ev_lit lit_dg) (ev_lit lit_nil) (by omega))) fun _ => et_and (et_B (ev_starts (ev_var rfl) (ev_lit lit_0))) fun _ => et_test (ev_neS (ev_var rfl) (ev_lit lit_0))) (fun hb H1 e1 => qE (fun hn => ?_) H1 e1) fun hb H1 e1 => ?_
  · have e1 : decide (1 ≤ w.length) = decide ((1 : Int) ≤ (w.length : Int)) := by rw [decide_eq_decide]; omega
    have e2 : decide (w.length ≤ 7) = decide ((w.length : Int) ≤ 7) := by rw [decide_eq_decide]; omega
    rw [e1, e2]
  · have := isNum_iff.mpr hn
    unfold isNum at this
    revert hb this
    cases decide (1 ≤ w.length) <;> cases decide (w.length ≤ 7) <;> cases w.all isDg <;> cases decide (w.head? = some 48) <;> cases decide (w = [48]) <;> decide
  · have hn : NumOk w := by
      rw [← isNum_iff]
      unfold isNum
      revert hb
      cases decide (1 ≤ w.length) <;> cases decide (w.length ≤ 7) <;> cases w.all isDg <;> cases decide (w.head? = some 48) <;> cases decide (w = [48]) <;> decide
    exact s_ret (ev_cb (ea_cons (ev_var rfl) ea_nil) (rc_int hn)) fun H2 e2 => q hn H2 (e1.trans e2)
/-! ### read -/
def IsPW (H0 H : Hp) (v : V) (p : Nat) (ws : List Nat) : Prop := ∃ t l, v = .ref t ∧ H0 t = none ∧ H t = some (.tup [nat p, .ref l]) ∧ H0 l = none ∧ H l = some (.lst (vn ws))
def spRead (K : PySem.W.Frag) : Sp := fun vs H Q E => (∃ (x : V) (k : Kd), vs = [x] ∧ IsK K H x k ∧ k.isS = false ∧ RetT K "BadText" H E) ∨ ∃ cs : List Nat, vs = [.str (S cs)] ∧ cs.length ≤ 5000 ∧ (TextOk cs → ∀ v H2, Ex H H2 → IsPW H H2 v (placesOf cs) (wishesOf cs) → Q v H2) ∧ (¬ TextOk cs → RetT K "BadText" H E)
theorem FnP.okT {P : Program} {w : World} {K : PySem.W.Frag} {mg : Str → Option Value} {base : Heap} {x : Str} {st : Stmt} {fd : FuncData} {N ps : List Str} {k : Nat} {sp : Sp} (F : FnP K x st fd) (S : FnScope N ps (defScope st)) (len : ∀ vs H Q E, sp vs H Q E → vs.length = ps.length)
    (hbody : ∀ (cdv : Value) (A : Around) (outer : List Env) (s : Shared) (H : Hp) (vs : List V) (Q : VK) (E : XK), Room k (A.deeper (envOfC x (defScope st) s.heap.objs.size (ga K x) cdv)) → sp vs H Q E →
      ∃ t : {t : TS // PSs (cxOf (CXt P w) P w K mg base N x (defScope st) (ga K x) cdv A outer s H E) (defBody st) t}, t.1 { nx := fun _ H' => Q .non H', rt := Q } (start N vs) H) : FnOk P w K mg base (CXt P w) (k + 1) (ga K x) fd ps sp :=
  FunD.ok F S len fun cdv A outer s H vs Q E hr hsp => by
    obtain ⟨t, q⟩ := hbody cdv A outer s H vs Q E hr hsp
    exact ⟨t.1, t.2, q⟩
theorem q_asgQ {te : TE} {i : Nat} {tz : TS} {D : Ends} {σ : L2.St} {H : Hp} (h : te σ H fun v H1 => tz D (σ.set i (some v)) H1) : tSeq (tAsg te (gName i)) tz D σ H := h
theorem q_seq {D : Ends} {σ : L2.St} {H : Hp} {t u : TS} (h : t { D with nx := u D } σ H) : tSeq t u D σ H := h
theorem s_dropX2 {D : Ends} {σ : L2.St} {H : Hp} {sp : Sp} {E : L2.St → XK} {ta : TA} {vs : List V} (ha : EvA ta σ H vs) (k : ∀ H1, Ex H H1 → sp vs H1 (fun _ H2 => D.nx σ H2) (E σ)) : tDrop (tCallS sp E ta) D σ H := ha H (Ex.refl H) _ fun H1 e => k H1 e
theorem vt_get {cs : List Nat} : (vt (words cs))[0]? = some (.str (S (w0 cs))) := by
  unfold vt
  rw [words_eq]
  rfl
theorem vt_tail {cs : List Nat} : cutV (vt (words cs)) (some ((1 : Nat) : Int)) none = vt (wr cs) := by
  have h : 1 ≤ (vt (words cs)).length := by unfold vt; rw [List.length_map, words_eq, List.length_cons]; omega
  have e : (vt (words cs)).drop 1 = vt (wr cs) := by
    unfold vt
    rw [words_eq]
    rfl
  rw [← e]
  unfold cutV
  rw [HT.sIx_none, show HT.sIx (vt (words cs)).length 0 (some ((1 : Nat) : Int)) = min 1 (vt (words cs)).length from HT.sIx_nat _ 0 1, show min 1 (vt (words cs)).length = 1 by omega]
  exact List.take_of_length_le (by rw [List.length_drop]; exact Nat.le_refl _)
theorem wr_len (cs : List Nat) : (wr cs).length ≤ cs.length := by
  have h := words_len cs
  rw [words_eq, List.length_cons] at h
  omega
theorem w0_len (cs : List Nat) : (w0 cs).length ≤ cs.length := words_each (by rw [words_eq]; exact List.mem_cons_self)
theorem wr_each {cs w : List Nat} (h : w ∈ wr cs) : w.length ≤ cs.length := words_each (by rw [words_eq]; exact List.mem_cons_of_mem _ h)
theorem vt_at {ws : List (List Nat)} {i : Nat} {x : V} (h : (vt ws)[i]? = some x) : x = .str (S (ws.getD i [])) ∧ ws.getD i [] ∈ ws := by
  obtain ⟨w, hw, rfl⟩ := vmap_get h
  rw [List.getD_eq_getElem?_getD, hw]
  exact ⟨rfl, List.mem_of_getElem? hw⟩
theorem range_vt (ws : List (List Nat)) (f : List Nat → V) : (List.range (vt ws).length).map (fun i => f (ws.getD i [])) = ws.map f := by
  refine List.ext_getElem? fun i => ?_
  rw [List.getElem?_map, List.getElem?_map, show (vt ws).length = ws.length from List.length_map ..]
  by_cases h : i < ws.length
  · rw [List.getElem?_range h, List.getElem?_eq_getElem h]
    show some (f (ws.getD i [])) = _
    rw [List.getD_eq_getElem?_getD, List.getElem?_eq_getElem h]
    rfl
  · rw [List.getElem?_eq_none (by rw [List.length_range]; omega), List.getElem?_eq_none (by omega)]
    rfl
theorem all_getD {ws : List (List Nat)} {P : List Nat → Prop} (h : ∀ i, i < (vt ws).length → P (ws.getD i [])) : ∀ w ∈ ws, P w := fun w hw => by
  obtain ⟨i, hi⟩ := List.getElem?_of_mem hw
  have hl : i < ws.length := (List.getElem?_eq_some_iff.mp hi).1
  have := h i (by unfold vt; rw [List.length_map]; exact hl)
  rw [List.getD_eq_getElem?_getD, hi] at this
  exact this
theorem ok_read {fd fd1 fd2 : FuncData} (F : FnP K "read" s_read fd) (B : Bi mg) (C1 : Cal P w K mg base (L2N.CX P w) 2 "asked_wishes" P_asked_wishes (spAsked K) fd1) (C2 : Cal P w K mg base (L2N.CX P w) 1 "number_in" P_number_in (spNumIn K) fd2) (X1 : ExcF K mg "BadText") (X2 : ExcF K mg "BadWishes") (hE : PySem.W.exmOne K (.ref (ga K "BadWishes")) (.ref (ga K "BadWishes")) = some true) :
    FnOk P w K mg base (CXt P w) 3 (ga K "read") fd P_read (spRead K) := by
  refine F.okT sc_read (fun vs H Q E h => ?_) (fun cdv A outer s H vs Q E hr h => ⟨der_read B C1 C2 X1 X2 hr, ?_⟩)
  · rcases h with ⟨x, k, rfl, _⟩ | ⟨cs, rfl, _⟩ <;> rfl
  rcases h with ⟨x, k, rfl, hk, hb, qE⟩ | ⟨cs, rfl, hl, q, qE⟩
  · unfold der_read; dsimp only
    have tl := ev_cb (σ := L2.start N_read [x]) (H := H) (ea_cons (ev_var (i := 0) rfl) (ea_cons ev_c ea_nil)) (isi_k hk "str" (kit_str k))
    rw [hb] at tl
    exact q_when (b := !false) (et_not (et_B tl)) (fun _ H1 e1 => qE H1 e1) fun z => by cases z
  unfold der_read; dsimp only
  have hwl := words_len cs
  have hrl := wr_len cs
  have h0l := w0_len cs
  refine q_when (et_not (et_B (ev_cb (ea_cons (ev_var rfl) (ea_cons ev_c ea_nil)) (isi_str (k := true) "str" (by decide +kernel))))) (fun h => by cases h) fun _ H1 e1 => ?_
  refine q_asgL (el_split (ev_var rfl) (ev_lit lit_sp) (by omega)) fun l H2 hl2 e2 h2 => ?_
  have e12 := e1.trans e2
  refine q_when (et_not (et_B (ev_ends (w := w0 cs) (k := 58) (ev_ixN (i := 0) (ev_var rfl) ev_c (sq_of h2) vt_get) (ev_lit lit_co)))) (fun hb H3 e3 => qE (fun T => ?_) H3 (e12.trans e3)) fun hb H3 e3 => ?_
  · rw [decide_eq_true T.co] at hb
    cases hb
  have hco : (w0 cs).getLast? = some 58 := by simpa using hb
  have h3 := e3 _ _ h2
  have e13 := e12.trans e3
  refine q_asgX (vs := [.str (S (w0 cs).dropLast)]) (ea_cons (ev_is (ev_slT (ev_ixN (i := 0) (ev_var rfl) ev_c (sq_of h3) vt_get) eo_none (eo_m1 ev_c) (by omega)) (by rw [but_last])) ea_nil) fun H4 e4 => ?_
  have e14 := e13.trans e4
  refine ⟨_, rfl, by rw [List.length_dropLast]; omega, fun hn0 H5 e5 => ?_, fun hn H5 e5 => qE (fun T => hn T.n0) H5 (e14.trans e5)⟩
  have e15 := e14.trans e5
  have h5 := e5 _ _ (e4 _ _ h3)
  refine q_asgQ (lcX (xs := vt (wr cs)) (fun i => NumOk ((wr cs).getD i [])) (fun i => nat (dv ((wr cs).getD i []))) ?_ (by unfold vt; rw [List.length_map]; omega) (fun _ => rfl) (fun i x H6 Q1 e6 hx k => ?_) fun hall lw H6 hlw e6 h6 => ?_)
  · have g := el_sl (K := K) (te := tVar 1) (tl := tPart (tC (.int ((1 : Nat) : Int)))) (th := tNoPart) (σ := [some (.str (S cs)), some (.ref l), some (nat (dv (w0 cs).dropLast)), none, none]) (ev_var rfl) (eo_some ev_c) eo_none (sq_of h5)
    rw [vt_tail] at g
    exact g
  · obtain ⟨rfl, hm⟩ := vt_at hx
    have := wr_each hm
    refine ea_cons (ev_var rfl) ea_nil H6 (Ex.refl H6) _ fun H7 e7 => ?_
    exact ⟨_, rfl, by omega, fun hn H8 e8 => k hn H8 (e7.trans e8), fun hn H8 e8 => qE (fun T => hn (T.nr _ hm)) H8 (e15.trans (e6.trans (e7.trans e8)))⟩
  have hr := all_getD hall
  have e16 := e15.trans e6
  rw [range_vt (wr cs) fun w => nat (dv w)] at h6
  have h6' : H6 lw = some (.lst (vn (wishesOf cs))) := by
    rw [h6]
    unfold wishesOf vn
    rw [List.map_map]
    rfl
  have hwn : H lw = none := fresh_back e15 hlw
  have hwlen : (wishesOf cs).length ≤ 5000 := by unfold wishesOf; rw [List.length_map]; omega
  refine q_seq ?_
  dsimp only
  refine s_dropX2 (vs := [nat (placesOf cs), .ref lw]) (ea_cons (ev_var rfl) (ea_cons (ev_var rfl) ea_nil)) fun H7 e7 => ?_
  have h7 := e7 _ _ h6'
  have e17 := e16.trans e7
  by_cases hok : (1 ≤ placesOf cs ∧ placesOf cs ≤ 1000000) ∧ ∀ x ∈ wishesOf cs, x < placesOf cs
  · obtain ⟨⟨hp1, hp2⟩, hlt⟩ := hok
    have T : TextOk cs := ⟨hco, hn0, hr, hp1, hp2, fun w hw => hlt _ (List.mem_map.mpr ⟨w, hw, rfl⟩)⟩
    refine .inl ⟨placesOf cs, lw, wishesOf cs, rfl, hp1, hp2, sq_of h7, by omega, hlt, fun H8 e8 => ?_⟩
    refine s_retP (ep_tup (eap_cons (v := nat (placesOf cs)) (ev_var rfl) (eap_cons (v := .ref lw) (ev_var rfl) eap_nil)) (fun vs H9 hv => ?_) (fun vs H9 H10 e hv => hv)) fun v H9 e9 hv => ?_
    · obtain ⟨_, rfl, _, rfl, rfl⟩ := hv
      show 2 ≤ 100000
      decide
    · obtain ⟨t, vs, rfl, ht, h9, _, rfl, _, rfl, rfl⟩ := hv
      exact q T _ H9 (e17.trans (e8.trans e9)) ⟨t, lw, rfl, fresh_back (e17.trans e8) ht, h9, hwn, e9 _ _ (e8 _ _ h7)⟩
  · have hnT : ¬ TextOk cs := fun T => hok ⟨⟨T.p1, T.p2⟩, fun x hx => by
      obtain ⟨w, hw, rfl⟩ := List.mem_map.mp hx
      exact T.lt w hw⟩
    refine .inr ⟨nat (placesOf cs), .ref lw, rfl, ?_, fun H8 e8 => ⟨hE, qE hnT H8 (e17.trans e8)⟩⟩
    by_cases hp : 1 ≤ placesOf cs ∧ placesOf cs ≤ 1000000
    · refine ⟨.int (placesOf cs : Int), .lst (vn (wishesOf cs)), rfl, ⟨lw, rfl, sq_of h7⟩, .inr ⟨_, rfl, .inr ⟨_, (wishesOf cs).map fun (n : Nat) => Kd.int (n : Int), rfl, ?_, by rw [List.length_map]; omega, ?_⟩⟩⟩
      · have g := allK_ints (K := K) (H := H7) ((wishesOf cs).map fun (n : Nat) => (n : Int))
        rw [← vn_vi, List.map_map] at g
        exact g
      · cases hz : allN 0 ((placesOf cs : Int) - 1) ((wishesOf cs).map fun (n : Nat) => Kd.int (n : Int)) with
        | false => rfl
        | true =>
          refine absurd ⟨hp, fun x hx => ?_⟩ hok
          have := List.all_eq_true.mp hz (.int (x : Int)) (List.mem_map.mpr ⟨x, hx, rfl⟩)
          have h2 := of_decide_eq_true (show decide ((0 : Int) ≤ (x : Int) ∧ (x : Int) ≤ (placesOf cs : Int) - 1) = true from this)
          omega
    · refine ⟨.int (placesOf cs : Int), .lst (vn (wishesOf cs)), rfl, ⟨lw, rfl, sq_of h7⟩, .inl ?_⟩
      exact decide_eq_false (by omega)
end
end Pk
namespace Pk
open PySem PySem.Spec PyProof.Rows L2 Evl He
section
variable {P : Program} {w : World} {K : PySem.W.Frag} {mg : Str → Option Value} {base : Heap}
open SX (S)
/-! ### what is bad of what was written -/
def badM (m : Nat → Int) : PyData → Bool
  | .list ds => !(dAllN 0 (m ds.length) ds)
  | _ => true
def dSmall : PyData → Prop
  | .list ds => ds.length ≤ 4000
  | _ => True
theorem dw_l {H : Hp} {x : V} {d : PyData} (h : Dw H x d) : (∃ a xs ds, d = .list ds ∧ x = .ref a ∧ H a = some (.lst xs) ∧ DwAll H xs ds) ∨ ∃ k, IsK K H x k ∧ k.isL = false := by
  cases h with
  | @lst a xs ds h1 h2 => exact .inl ⟨a, xs, ds, rfl, rfl, h1, h2⟩
  | non => exact .inr ⟨.non, rfl, rfl⟩
  | bl b => exact .inr ⟨.bl b, rfl, rfl⟩
  | int i => exact .inr ⟨.int i, rfl, rfl⟩
  | str x => exact .inr ⟨.str x, rfl, rfl⟩
  | @tup a xs ds h1 h2 => exact .inr ⟨.tup xs, ⟨a, rfl, st_of h1⟩, rfl⟩
theorem kds_alln {lo hi : Int} {ks : List Kd} {ds : List PyData} (h : ∀ lo hi, ks.map (Kd.num lo hi) = ds.map (dNum lo hi)) : allN lo hi ks = dAllN lo hi ds := by
  have e : ∀ {α : Type} (f : α → Bool) (l : List α), l.all f = (l.map f).all id := fun f l => by rw [List.all_map]; rfl
  show ks.all (Kd.num lo hi) = ds.all (dNum lo hi)
  rw [e (Kd.num lo hi) ks, e (dNum lo hi) ds, h]
theorem badL_of {H : Hp} {x : V} {d : PyData} {m : Nat → Int} (hx : Dw H x d) (h : badM m d = true) (hz : dSmall d) : BadL K H x m := by
  rcases dw_l (K := K) hx with ⟨a, xs, ds, rfl, rfl, h1, h2⟩ | ⟨k, k1, k2⟩
  · obtain ⟨ks, k3, k4, k5⟩ := DwAll.kds (K := K) h2
    have hl := h2.len
    refine ⟨.lst xs, ⟨a, rfl, sq_of h1⟩, .inr ⟨xs, ks, rfl, k3, ?_, ?_⟩⟩
    · have : ds.length ≤ 4000 := hz
      omega
    · rw [kds_alln k5, hl]
      have h' : (!(dAllN 0 (m ds.length) ds)) = true := h
      simpa using h'
  · exact ⟨k, k1, .inl k2⟩
theorem badAsk_x {H : Hp} {x y : V} {dx dy : PyData} (hx : Dw H x dx) (hy : Dw H y dy) (h : dNum 1 1000000 dx = false) : BadAsk K H x y := by
  obtain ⟨kx, k1, k2⟩ := Dw.kd (K := K) hx
  obtain ⟨ky, k3, _⟩ := Dw.kd (K := K) hy
  exact ⟨kx, ky, k1, k3, .inl (by rw [k2.n]; exact h)⟩
theorem badAsk_y {H : Hp} {p : Int} {y : V} {dy : PyData} (hy : Dw H y dy) (h : badM (fun _ => p - 1) dy = true) (hz : dSmall dy) : BadAsk K H (.int p) y := by
  obtain ⟨k, k1, h | ⟨xs, ks, rfl, k2, k3, k4⟩⟩ := badL_of (K := K) hy h hz
  · exact ⟨.int p, k, rfl, k1, .inr ⟨p, rfl, .inl h⟩⟩
  · exact ⟨.int p, .lst xs, rfl, k1, .inr ⟨p, rfl, .inr ⟨xs, ks, rfl, k2, by omega, k4⟩⟩⟩
def mS (n : Nat) : Int := (n : Int) - 1
theorem badSt_of {H : Hp} {x : V} {d : PyData} (hx : Dw H x d) (h : badM mS d = true) (hz : dSmall d) : BadSt K H x := by
  rcases dw_l (K := K) hx with ⟨a, xs, ds, rfl, rfl, h1, h2⟩ | ⟨k, k1, k2⟩
  · obtain ⟨ks, k3, k4, k5⟩ := DwAll.kds (K := K) h2
    have hl := h2.len
    refine ⟨.lst xs, ⟨a, rfl, sq_of h1⟩, .inr ⟨xs, rfl, ?_, .inl ⟨ks, k3, ?_⟩⟩⟩
    · have : ds.length ≤ 4000 := hz
      omega
    · rw [kds_alln k5, hl]
      have h' : (!(dAllN 0 (mS ds.length) ds)) = true := h
      simpa [mS] using h'
  · exact ⟨k, k1, .inl k2⟩
theorem badSt_dup {H : Hp} {x : V} {ns : List Int} (hx : Dw H x (.list (ns.map PyData.int))) (h : ¬ ns.Nodup) (hz : ns.length ≤ 4000) : BadSt K H x := by
  obtain ⟨a, rfl, h1⟩ := hx.ints
  exact ⟨.lst (vi ns), ⟨a, rfl, sq_of h1⟩, .inr ⟨_, rfl, by rw [List.length_map]; exact hz, .inr ⟨ns, rfl, h⟩⟩⟩
theorem DwAll.one {H : Hp} {vs : List V} {d : PyData} (h : DwAll H vs [d]) : ∃ x, vs = [x] ∧ Dw H x d := by
  cases h with
  | cons h1 h2 => cases h2; exact ⟨_, rfl, h1⟩
theorem DwAll.two {H : Hp} {vs : List V} {d e : PyData} (h : DwAll H vs [d, e]) : ∃ x y, vs = [x, y] ∧ Dw H x d ∧ Dw H y e := by
  cases h with
  | cons h1 h2 =>
    obtain ⟨y, rfl, h3⟩ := h2.one
    exact ⟨_, y, rfl, h1, h3⟩
theorem DwAll.three {H : Hp} {vs : List V} {d e f : PyData} (h : DwAll H vs [d, e, f]) : ∃ x y z, vs = [x, y, z] ∧ Dw H x d ∧ Dw H y e ∧ Dw H z f := by
  cases h with
  | cons h1 h2 =>
    obtain ⟨y, z, rfl, h3, h4⟩ := h2.two
    exact ⟨_, y, z, rfl, h1, h3, h4⟩
theorem dw_int {H : Hp} {x : V} {i : Int} (h : Dw H x (.int i)) : x = .int i := by cases h; rfl
/-- more that never goes on -/
theorem xe_if {t : TT} {ta tb : TE} {b : Bool} {σ : L2.St} {H : Hp} (h : EvT t σ H b) (h1 : b = true → ∀ H1, Ex H H1 → XE ta σ H1) (h2 : b = false → ∀ H1, Ex H H1 → XE tb σ H1) : XE (tIf t ta tb) σ H := fun Q => h H (Ex.refl H) _ fun H1 e => by
  cases b with
  | true =>
    show ta σ H1 Q
    exact h1 rfl H1 e Q
  | false =>
    show tb σ H1 Q
    exact h2 rfl H1 e Q
theorem xe_callI {tf : TE} {SP : Addr → Sp → Prop} {E : XK} {t : TA} {f : Addr} {sp : Sp} {Φ : List V → Hp → Prop} {σ : L2.St} {H : Hp} (hf : Ev tf σ H (.ref f)) (hs : SP f sp) (ha : EvAP t σ H Φ) (k : ∀ vs H1, Ex H H1 → Φ vs H1 → ∀ Q, sp vs H1 Q E) : XE (tCallI tf SP E t) σ H := fun Q =>
  hf H (Ex.refl H) _ fun H1 e1 => ⟨f, sp, rfl, hs, ha H1 e1 _ fun vs H2 e2 hv => k vs H2 (e1.trans e2) hv Q⟩
theorem xe_callD {sp : Sp} {E : XK} {ta : TA} {ds : List PyData} {σ : L2.St} {H : Hp} (h : EvDs ta σ H ds) (k : ∀ vs H1, Ex H H1 → DwAll H1 vs ds → ∀ Q, sp vs H1 Q E) : XE (tCall sp [] E ta) σ H := fun Q => h H (Ex.refl H) _ fun vs H1 e hv => by
  show sp (vs ++ []) H1 _ E
  rw [List.append_nil]
  exact k vs H1 e hv Q
/-- numbers of a cell -/
theorem ev_modN {σ : L2.St} {H : Hp} {te : TE} {i : Nat} (a : Nat) (h : Ev te σ H (nat i)) (ha : 0 < a) : Ev (tOp (rI (fun _ j => 0 < j) fun i j => .int (i % j)) te (tC (.int (a : Int)))) σ H (nat (i % a)) := ev_mod (i := (i : Int)) (j := (a : Int)) h ev_c (by omega) (by push_cast; rfl)
theorem ev_divN {σ : L2.St} {H : Hp} {te : TE} {i : Nat} (a : Nat) (h : Ev te σ H (nat i)) (ha : 0 < a ∧ a < 1000000) : Ev (tOp (rI CDiv fun i j => .int (i / j)) te (tC (.int (a : Int)))) σ H (nat (i / a)) := ev_div (i := (i : Int)) (j := (a : Int)) h ev_c ⟨by omega, by omega⟩ (by push_cast; rfl)
theorem et_eqN {σ : L2.St} {H : Hp} {te : TE} {i : Nat} (a : Nat) (h : Ev te σ H (nat i)) : EvT (tTest (tOp rEq te (tC (.int (a : Int))))) σ H (decide (i = a)) := et_test (ev_is (ev_eqInt (i := (i : Int)) (j := (a : Int)) h ev_c) (by congr 1; rw [decide_eq_decide]; omega))
theorem et_ltN {σ : L2.St} {H : Hp} {te : TE} {i : Nat} (a : Nat) (h : Ev te σ H (nat i)) : EvT (tTest (tOp (rI0 fun i j => .bl (decide (i < j))) te (tC (.int (a : Int))))) σ H (decide (i < a)) := et_test (ev_cmp (i := (i : Int)) (j := (a : Int)) h ev_c (by rw [decide_eq_decide]; omega))
theorem cut_hi {xs : List V} {n : Nat} (h : xs.length ≤ n) : cutV xs none (some (n : Int)) = xs := by
  unfold cutV
  rw [HT.sIx_none, show HT.sIx xs.length xs.length (some (n : Int)) = min n xs.length from HT.sIx_nat xs.length xs.length n]
  rw [show min n xs.length - 0 = xs.length by omega]
  show (xs.drop 0).take xs.length = xs
  rw [List.drop_zero, List.take_length]
/-- script[:1000] -/
theorem el_cut {σ : L2.St} {H : Hp} {te : TE} {a : Addr} {xs : List V} (ha : Ev te σ H (.ref a)) (h : SqL K H a xs) (hl : xs.length ≤ 1000) : EvL (tSl (rSlL K) te tNoPart (tPart (tC (.int 1000)))) σ H xs := by
  have k := el_sl ha eo_none (eo_some (i := 1000) (te := tC (.int 1000)) ev_c) h
  rw [show ((1000 : Int)) = ((1000 : Nat) : Int) from rfl, cut_hi hl] at k
  exact k
theorem vn_cells (ns : List Int) {m : Nat} (hm : 0 < m) : (ns.map fun c => V.int (c % (m : Int))) = vn (cells ns m) := by
  unfold vn cells
  rw [List.map_map]
  refine List.map_congr_left fun c _ => ?_
  show V.int _ = V.int (((c % (m : Int)).toNat : Nat) : Int)
  have := Int.emod_nonneg c (show (m : Int) ≠ 0 from by omega)
  congr 1
  omega
def spFull (K : PySem.W.Frag) : Sp := fun vs H Q _ => ∃ (a : Addr) (ns : List Int), vs = [.ref a] ∧ SqL K H a (vi ns) ∧ ns.length ≤ 1000 ∧ RetL (vn (lawFull ns)) H Q
theorem ok_law_full {fd : FuncData} (F : FnP K "_law_full" s_law_full fd) (B : Bi mg) : FnOk P w K mg base CX0 1 (ga K "_law_full") fd P_law_full (spFull K) := by
  refine F.ok sc_law_full (fun vs H Q E h => ?_) (fun cdv A outer s H vs Q E hr h => ⟨der_law_full B hr, ?_⟩)
  · obtain ⟨a, ns, rfl, _⟩ := h; rfl
  obtain ⟨a, ns, rfl, hS, hl, q⟩ := h
  have hlv : (vi ns).length ≤ 1000 := by rw [List.length_map]; exact hl
  unfold der_law_full; dsimp only
  refine q_asg (v := nat ns.length) (ev_is (ev_lenN (el_cut (ev_var rfl) hS hlv)) (by rw [List.length_map]; rfl)) fun H1 e1 => ?_
  refine q_asgL (xs := vn (cells ns (ns.length + 1))) ?_ fun lw H2 hlw e2 hw2 => ?_
  · rw [← vn_cells ns (m := ns.length + 1) (by omega)]
    exact el_nl V.int _ (el_cut (ev_var rfl) (ex_l e1 hS) hlv) (by omega) (fun _ => rfl) fun i y H2 e2 hy => ev_mod (ev_var rfl) (ev_add (ev_var rfl) ev_c rfl) (by omega) (by push_cast; rfl)
  have hcl := cells_length ns (ns.length + 1)
  have hcb : ∀ x ∈ cells ns (ns.length + 1), x < ns.length + 1 := cells_lt (Nat.succ_pos _)
  generalize hws : cells ns (ns.length + 1) = ws at hw2 hcl hcb
  have e12 := e1.trans e2
  refine q_asgL (el_rng (n := ns.length + 1) (fun _ => nat 0) (ea_cons (ev_add (k := ((ns.length + 1 : Nat) : Int)) (ev_var rfl) ev_c (by omega)) ea_nil) (by omega) (fun _ => rfl) (fun i H1 e hi => ev_c)) fun l H3 hl3 e3 h3 => ?_
  have hne : lw ≠ l := ne_of_none hw2 hl3
  have hln := fresh_back e12 hl3
  have hw3 : SqL K H3 lw (vn ws) := sq_of (e3 lw _ hw2)
  refine q_forP nat (ev_var rfl) hw3 (fun pre σ' H' => ∃ v, σ' = [some (.ref a), some (nat ns.length), some (.ref lw), some (.ref l), v, none, none, none, none, none] ∧ Ex H2 H' ∧ H' l = some (.lst (vn (cnts (ns.length + 1) pre)))) (fun H4 e4 => ?_) (fun pre σ' H' hI => ?_) (fun pre y post σ' H' hy hI => ?_) (fun σ' H' hI => ?_)
  · refine ⟨none, rfl, e3.trans e4, ?_⟩
    rw [e4 l _ h3, cnts_nil]
    unfold vn
    rw [List.map_map]
    rfl
  · obtain ⟨v, rfl, e, _⟩ := hI
    exact sq_of (e lw _ hw2)
  · obtain ⟨v, rfl, e, h2⟩ := hI
    have hyp : y < ns.length + 1 := hcb y (by rw [hy]; simp)
    have g := vn_get (cnts_get (ws := pre) hyp)
    refine s_setL (j := y) h2 (v := nat (pre.count y + 1)) ?_ (ev_var rfl) (ev_var rfl) (by rw [List.length_map, cnts_len]; exact hyp) fun H3 e3 => ?_
    · exact ev_add (ev_ixN (ev_var rfl) (ev_var rfl) (sq_of h2) g) ev_c (by omega)
    · refine ⟨_, rfl, Ex.mut (e.trans e3) hl3, ?_⟩
      rw [upd_same, ← cnts_add hyp]
      unfold vn
      rw [List.map_set]
  obtain ⟨v, rfl, e, h5⟩ := hI
  refine q_asg ev_c fun H6 e6 => ?_
  refine q_asg ev_c fun H7 e7 => ?_
  refine q_asg ev_c fun H8 e8 => ?_
  have h8 : H8 l = some (.lst (vn (cnts (ns.length + 1) ws))) := e8 l _ (e7 l _ (e6 l _ h5))
  have e28 := e.trans ((e6.trans e7).trans e8)
  refine q_forR (n := ns.length + 1) (ea_cons (ev_add (k := ((ns.length + 1 : Nat) : Int)) (ev_var rfl) ev_c (by omega)) ea_nil) (by omega) (fun k σ' H' => ∃ v2, σ' = [some (.ref a), some (nat ns.length), some (.ref lw), some (.ref l), v, some (.int (fwalk ws k).1), some (.int (fwalk ws k).2.1), some (nat (fwalk ws k).2.2), v2, none] ∧ Ex H8 H') (fun H9 e9 => ?_) (fun i σ' H' hi hI => ?_) (fun σ' H' hI => ?_)
  · exact ⟨none, rfl, e9⟩
  · obtain ⟨v2, rfl, e9⟩ := hI
    have g := vn_get (cnts_get (ws := ws) hi)
    refine q_asg (v := .int ((fwalk ws i).1 + (ws.count i : Int) - 1)) (ev_sub (ev_add (ev_var rfl) (ev_ixN (ev_var rfl) (ev_var rfl) (sq_of (e9 l _ h8)) g) rfl) ev_c rfl) fun H10 e10 => ?_
    refine s_when (b := decide ((fwalk ws i).1 + (ws.count i : Int) - 1 < (fwalk ws i).2.1)) (et_test (ev_cmp (ev_var rfl) (ev_var rfl) rfl)) (fun hb H11 e11 => ?_) (fun hb H11 e11 => ?_)
    · refine q_asg (ev_var rfl) fun H12 e12 => s_asg (ev_var rfl) fun H13 e13 => ?_
      have ef : fwalk ws (i + 1) = ((fwalk ws i).1 + (ws.count i : Int) - 1, (fwalk ws i).1 + (ws.count i : Int) - 1, i) := if_pos (of_decide_eq_true hb)
      exact ⟨some (nat i), by rw [ef]; rfl, (e9.trans e10).trans ((e11.trans e12).trans e13)⟩
    · have ef : fwalk ws (i + 1) = ((fwalk ws i).1 + (ws.count i : Int) - 1, (fwalk ws i).2.1, (fwalk ws i).2.2) := if_neg (of_decide_eq_false hb)
      exact ⟨some (nat i), by rw [ef]; rfl, (e9.trans e10).trans e11⟩
  · obtain ⟨v2, rfl, e9⟩ := hI
    have he := (emptyOf_is (ws := ws) (by rw [hcl]; exact hcb)).lt
    have hE : (fwalk ws (ns.length + 1)).2.2 = emptyOf ws := by
      unfold emptyOf
      rw [hcl]
    rw [hE]
    have hlf : lawFull ns = ws.map fun w => (w + ns.length - emptyOf ws) % (ns.length + 1) := by
      unfold lawFull fullN
      rw [hws, hcl]
    refine s_retL (xs := vn (lawFull ns)) ?_ fun p H14 hp e14 h14 => q p H14 (fresh_back (e12.trans (e28.trans e9)) hp) ((e12.trans (e28.trans e9)).trans e14) h14
    rw [hlf]
    unfold vn
    rw [List.map_map]
    refine el_ls nat _ (ev_var rfl) (sq_of (e9 lw _ (e28 lw _ hw2))) (by rw [hcl]; omega) (fun _ => rfl) fun i y H15 e15 hy => ?_
    show Ev _ _ _ (.int (((y + ns.length - emptyOf ws) % (ns.length + 1) : Nat) : Int))
    refine ev_mod (i := ((y + ns.length - emptyOf ws : Nat) : Int)) (j := ((ns.length + 1 : Nat) : Int)) (ev_sub (i := ((y : Int) + (ns.length : Int))) (j := (emptyOf ws : Int)) (ev_add (ev_var rfl) (ev_var rfl) rfl) (ev_var rfl) (by omega)) (ev_add (ev_var rfl) ev_c (by omega)) (by omega) (by omega)
theorem sl_full {H : Hp} {a : Addr} {ns : List Int} (h : SqL K H a (vi ns)) (hl : ns.length ≤ 1000) : SpL (spFull K) [.ref a] H (vn (lawFull ns)) := fun H1 e Q q E => ⟨a, ns, rfl, ex_l e h, hl, q⟩
/-! ### _law_numbers -/
def spNumbers (K : PySem.W.Frag) : Sp := fun vs H Q _ => ∃ (a : Addr) (ns : List Int), vs = [.ref a] ∧ SqL K H a (vi ns) ∧ ns.length ≤ 40000 ∧ RetV (.bl true) H Q
theorem ok_law_numbers {fd : FuncData} (F : FnP K "_law_numbers" s_law_numbers fd) (B : Bi mg) : FnOk P w K mg base CX0 1 (ga K "_law_numbers") fd P_law_numbers (spNumbers K) := by
  refine F.ok sc_law_numbers (fun vs H Q E h => ?_) (fun cdv A outer s H vs Q E hr h => ⟨der_law_numbers B hr, ?_⟩)
  · obtain ⟨a, ns, rfl, _⟩ := h; rfl
  obtain ⟨a, ns, rfl, hS, hl, q⟩ := h
  unfold der_law_numbers; dsimp only
  refine q_when (et_not (et_B (ev_cb (ea_cons (ev_var rfl) (ea_cons ev_c ea_nil)) (isi_list (k := true) hS "list" (by decide +kernel))))) (fun h => by cases h) fun _ H1 e1 => ?_
  have t3 : ((ns.map fun _ => true).all id) = true := by
    rw [List.all_map, List.all_eq_true]
    intro x _
    rfl
  refine s_ret (v := .bl ((ns.map fun _ => true).all id)) (ev_allN ?_) fun H2 e2 => by
    rw [t3]
    exact q H2 (e1.trans e2)
  rw [List.map_map]
  refine el_ls V.int _ (ev_var rfl) (ex_l e1 hS) hl (fun _ => rfl) fun i y H2 e2 hy => ?_
  show Ev _ _ _ (.bl (true && !false))
  exact ev_andV (ev_cb (ea_cons (ev_var rfl) (ea_cons ev_c ea_nil)) (isi_int "int" (by decide +kernel))) fun _ => ev_notV (ev_cb (ea_cons (ev_var rfl) (ea_cons ev_c ea_nil)) (isi_int "bool" (by decide +kernel)))
theorem sv_numbers {H : Hp} {a : Addr} {ns : List Int} (h : SqL K H a (vi ns)) (hl : ns.length ≤ 40000) : SpV (spNumbers K) [.ref a] H (.bl true) := fun H1 e Q q E => ⟨a, ns, rfl, ex_l e h, hl, q⟩
theorem sv_numbersN {H : Hp} {a : Addr} {ws : List Nat} (h : SqL K H a (vn ws)) (hl : ws.length ≤ 40000) : SpV (spNumbers K) [.ref a] H (.bl true) := sv_numbers (by rw [← vn_vi]; exact h) (by rw [List.length_map]; exact hl)
end
end Pk
namespace Pk
open PySem PySem.Spec PyProof.Rows L2 Evl He
section
variable {P : Program} {w : World} {K : PySem.W.Frag} {mg : Str → Option Value} {base : Heap}
open SX (S)
/-! ### _law_no_of -/
abbrev isN (K : PySem.W.Frag) (x : Str) (a : Addr) (y : Str) : TE := tCB (rIsE2 K (.ref (ga K x)) none a) (tCons (tVar 1) (tCons (tC (.ref (ga K y))) tNil))
def wordsZ : List Str := ["wishes", "many", "tree", "path", "standing", "text"]
def noB (x : Str) : List Bool := errNames.map fun y => decide (x = y)
theorem no_idx {x : Str} (h : x ∈ errNames) : ∃ j : Nat, (noB x)[j]? = some true ∧ (∀ m, m < j → (noB x)[m]? = some false) ∧ wordsZ[j]? = some (nameOf x) ∧ ((noB x).map V.bl).countP (fun z => eqV z (.bl true)) = 1 := by
  simp only [errNames, List.mem_cons, List.not_mem_nil, or_false] at h
  rcases h with rfl | rfl | rfl | rfl | rfl | rfl
  · exact ⟨0, by decide, by decide, by decide, by decide⟩
  · exact ⟨1, by decide, by decide, by decide, by decide⟩
  · exact ⟨2, by decide, by decide, by decide, by decide⟩
  · exact ⟨3, by decide, by decide, by decide, by decide⟩
  · exact ⟨4, by decide, by decide, by decide, by decide⟩
  · exact ⟨5, by decide, by decide, by decide, by decide⟩
theorem no_hnd {D : Ends} {H : Hp} {x : Str} {a : Addr} {v0 v2 v3 : Option V} (X : ErrX K x) (hm : x ∈ errNames) (q : ∀ H2, Ex H H2 → D.rt (.str (nameOf x)) H2) :
    tSeq (tAsg (tLst (tCons (isN K x a "BadWishes") (tCons (isN K x a "TooMany") tNil))) (gName 2)) (tSeq (tAsg (tOp rCat (tVar 2) (tLst (tCons (isN K x a "BadTree") (tCons (isN K x a "BadPath") tNil)))) (gName 2)) (tSeq (tAsg (tOp rCat (tVar 2) (tLst (tCons (isN K x a "BadStanding") (tCons (isN K x a "BadText") tNil)))) (gName 2))
      (tSeq (tAsg (tLst (tCons (tC (.str (Str.ofString "wishes"))) (tCons (tC (.str (Str.ofString "many"))) (tCons (tC (.str (Str.ofString "tree"))) (tCons (tC (.str (Str.ofString "path"))) (tCons (tC (.str (Str.ofString "standing"))) (tCons (tC (.str (Str.ofString "text"))) tNil))))))) (gName 3)) (tRet (tIf (tTest (tOp rEq (tBM K "list" (rCountF K) (tVar 2) (tCons (tC (.bl true)) tNil)) (tC (.int 1)))) (tOp (rIxL K) (tVar 3) (tBM K "list" (rIndex K) (tVar 2) (tCons (tC (.bl true)) tNil))) (tC (.str "other")))))))
      D [v0, some (.ref a), v2, v3] H := by
  obtain ⟨j, j1, j2, j3, j4⟩ := no_idx hm
  have is : ∀ {σ : L2.St} {G : Hp} {y : Str} {b : Bool}, σ[1]? = some (some (.ref a)) → y ∈ errNames → decide (x = y) = b → Ev (isN K x a y) σ G (.bl b) := fun hσ hy hb => ev_cb (ea_cons (ev_var hσ) (ea_cons ev_c ea_nil)) (rc_isE X hy hb)
  refine q_asgL (xs := [decide (x = "BadWishes"), decide (x = "TooMany")].map V.bl) (el_lst (ea_cons (is rfl (by decide) rfl) (ea_cons (is rfl (by decide) rfl) ea_nil)) (Nat.le_of_ble_eq_true rfl)) fun l1 H3 hl1 e3 h3 => ?_
  refine q_asgL (el_cat (ys := [decide (x = "BadTree"), decide (x = "BadPath")].map V.bl) (ev_var rfl) h3 (el_lst (ea_cons (is rfl (by decide) rfl) (ea_cons (is rfl (by decide) rfl) ea_nil)) (Nat.le_of_ble_eq_true rfl)) (Nat.le_of_ble_eq_true rfl)) fun l2 H4 hl2 e4 h4 => ?_
  refine q_asgL (el_cat (ys := [decide (x = "BadStanding"), decide (x = "BadText")].map V.bl) (ev_var rfl) h4 (el_lst (ea_cons (is rfl (by decide) rfl) (ea_cons (is rfl (by decide) rfl) ea_nil)) (Nat.le_of_ble_eq_true rfl)) (Nat.le_of_ble_eq_true rfl)) fun l3 H5 hl3 e5 h5 => ?_
  refine q_asgL (xs := wordsZ.map V.str) (el_lst (ea_cons ev_c (ea_cons ev_c (ea_cons ev_c (ea_cons ev_c (ea_cons ev_c (ea_cons ev_c ea_nil)))))) (Nat.le_of_ble_eq_true rfl)) fun l4 H6 hl4 e6 h6 => ?_
  have h5' : H5 l3 = some (.lst ((noB x).map V.bl)) := h5
  have h5a : H6 l3 = some (.lst ((noB x).map V.bl)) := e6 _ _ h5'
  have fl : ((noB x).map V.bl).all flatV = true := by
    rw [List.all_map]
    exact List.all_eq_true.mpr fun _ _ => rfl
  have bm : ∀ {r : V → List V → Hp → VK → Prop} {u : V} {H9 : Hp} {v9 : Option V}, Ex H5 H9 → (∀ G (Q : VK), G l3 = some (.lst ((noB x).map V.bl)) → Q u G → r (.ref l3) [.bl true] G Q) → Ev (tBM K "list" r (tVar 2) (tCons (tC (.bl true)) tNil)) [v0, some (.ref a), some (.ref l3), v9] H9 u := fun e9 hr G eG Q q => by
    have hg := (e9.trans eG) _ _ h5'
    exact ⟨_, rfl, .inl ⟨rfl, _, sq_of hg⟩, hr G Q hg (q G (Ex.refl G))⟩
  refine s_ret (ev_if (b := true) (et_is (et_eqN 1 (i := 1) (bm e6 fun G Q hg q => ?_)) rfl) (fun _ => ev_ixN (i := j) (ev_var rfl) (bm e6 fun G Q hg q => ?_) (sq_of h6) (by rw [List.getElem?_map, j3]; rfl)) fun z => nomatch z) fun H7 e7 => q H7 (e3.trans (e4.trans (e5.trans (e6.trans e7))))
  · refine ⟨l3, _, _, rfl, rfl, sq_of hg, rfl, fl, ?_⟩
    rw [j4]
    exact q
  · refine ⟨l3, _, _, j, .bl true, rfl, rfl, sq_of hg, rfl, fl, by rw [List.getElem?_map, j1]; rfl, rfl, fun m z hm hz => ?_, q⟩
    rw [List.getElem?_map, j2 m hm] at hz
    cases hz
    rfl
theorem pe_weak {X : Cx} {e : Expr} {t : TE} (h : PE X e t) : PE X e (fun σ H Q => ∃ Q1 : VK, (∀ v H, Q1 v H → Q v H) ∧ t σ H Q1) := ⟨fun pins s σ H Q I ⟨Q1, hq, h1⟩ => wpAny_mono (h.run pins s σ H Q1 I h1) (fun v s1 ⟨x, H1, I1, r1, q1⟩ => ⟨x, H1, I1, r1, hq _ _ q1⟩) (fun _ _ z => z)⟩
theorem takes_len {X : Cx} {W : WX} (tk : L2.Takes X W) : L2.Takes X (fun cls d σ H => σ.length = X.N.length → W cls d σ H) := fun u s' ⟨a, B, sI, pins, σ, H, cls, d, e, I, nb, up, sky, na, os, ag, w⟩ =>
  tk u s' ⟨a, B, sI, pins, σ, H, cls, d, e, I, nb, up, sky, na, os, ag, w I.len⟩
theorem no_of_gives {X : Cx} {g : Addr} {cdg : Value} {q : Str} (hK : X.K = K) (hm : X.mg = mg) (B : Bi mg) (X1 : ExcF K mg "BadWishes") (X2 : ExcF K mg "TooMany") (X3 : ExcF K mg "BadTree") (X4 : ExcF K mg "BadPath") (X5 : ExcF K mg "BadStanding") (X6 : ExcF K mg "BadText") (X7 : ExcF K mg "StreetError") :
    LamX.GivesTo X N_law_no_of "_law_no_of" (defScope s_law_no_of) g cdg (defBody s_law_no_of) "ask" q (TNo K) := by
  subst hK hm
  intro f c' s H Q tl act hc h
  refine ⟨_, pss_one (L2.ps_try_as (X := (cxOf C8.CX0 X.prog X.w X.K X.mg X.base N_law_no_of "_law_no_of" (defScope s_law_no_of) g cdg X.A X.stack s H C8.E0).nox) (c := .ref (ga X.K "StreetError")) (i := 1)
      (tb := fun W D σ H => ∃ Ech : XK, (∀ cls d σ' H', Ech cls d H' → σ'.length = N_law_no_of.length → W cls d σ' H') ∧ σ[0]? = some (some (.ref f)) ∧ H c' = some (LamX.CodeO c' q) ∧ tl Ech H fun _ H' => ∀ H2, Ex H' H2 → D.rt (.str (Str.ofString "")) H2)
      rfl rfl sc_law_no_of.nd rfl rfl ⟨rfl, by decide, .inl X7.gl⟩ LamX.takes0 (fun W pn xe tk _ => ?_) (fun a oe cls d pn hz hf =>
        (pss_cons (ps_set (i := 2) sc_law_no_of.nd rfl (Or.inl rfl) (pe_lst (pa_cons (pe_callB (id := "isinstance") (r := rIsE2 X.K cls d a) (call_isE3 hz hf) (by rfl) B.isinstance (by decide +kernel) (pa_cons (pv 1) (pa_cons (pe_glob (v := .ref (ga X.K "BadWishes")) rfl X1.gl rfl) pa_nil))) (pa_cons (pe_callB (id := "isinstance") (r := rIsE2 X.K cls d a) (call_isE3 hz hf) (by rfl) B.isinstance (by decide +kernel) (pa_cons (pv 1) (pa_cons (pe_glob (v := .ref (ga X.K "TooMany")) rfl X2.gl rfl) pa_nil))) pa_nil))))
        (pss_cons (ps_set (i := 2) sc_law_no_of.nd rfl (Or.inl rfl) (pe_op op_cat (pv 2) (pe_lst (pa_cons (pe_callB (id := "isinstance") (r := rIsE2 X.K cls d a) (call_isE3 hz hf) (by rfl) B.isinstance (by decide +kernel) (pa_cons (pv 1) (pa_cons (pe_glob (v := .ref (ga X.K "BadTree")) rfl X3.gl rfl) pa_nil))) (pa_cons (pe_callB (id := "isinstance") (r := rIsE2 X.K cls d a) (call_isE3 hz hf) (by rfl) B.isinstance (by decide +kernel) (pa_cons (pv 1) (pa_cons (pe_glob (v := .ref (ga X.K "BadPath")) rfl X4.gl rfl) pa_nil))) pa_nil)))))
        (pss_cons (ps_set (i := 2) sc_law_no_of.nd rfl (Or.inl rfl) (pe_op op_cat (pv 2) (pe_lst (pa_cons (pe_callB (id := "isinstance") (r := rIsE2 X.K cls d a) (call_isE3 hz hf) (by rfl) B.isinstance (by decide +kernel) (pa_cons (pv 1) (pa_cons (pe_glob (v := .ref (ga X.K "BadStanding")) rfl X5.gl rfl) pa_nil))) (pa_cons (pe_callB (id := "isinstance") (r := rIsE2 X.K cls d a) (call_isE3 hz hf) (by rfl) B.isinstance (by decide +kernel) (pa_cons (pv 1) (pa_cons (pe_glob (v := .ref (ga X.K "BadText")) rfl X6.gl rfl) pa_nil))) pa_nil)))))
        (pss_cons (ps_set (i := 3) sc_law_no_of.nd rfl (Or.inl rfl) (pe_lst (pa_cons pe_str (pa_cons pe_str (pa_cons pe_str (pa_cons pe_str (pa_cons pe_str (pa_cons pe_str pa_nil))))))))
        (pss_one (ps_ret (te := tIf (tTest (tOp rEq (tBM X.K "list" (rCountF X.K) (tVar 2) (tCons (tC (.bl true)) tNil)) (tC (.int 1)))) (tOp (rIxL X.K) (tVar 3) (tBM X.K "list" (rIndex X.K) (tVar 2) (tCons (tC (.bl true)) tNil))) (tC (.str "other"))) (by
          refine pe_ifExp (pt_cmpR op_eq ?a pe_int (nomark _)) ?b pe_str
          · exact (pe_bm PySem.F.plainAttrs_list PySem.F.slot_list_count PySem.F.type_list_count mt_countF (pv 2) (pa_cons pe_bl pa_nil))
          · exact (pe_ix (r := rIxL X.K) ix_list (pv 3) (pe_bm PySem.F.plainAttrs_list PySem.F.slot_list_index PySem.F.type_list_index mt_index (pv 2) (pa_cons pe_bl pa_nil)) (fun _ _ => rfl)))))))))))
    , ?_⟩
  · refine ⟨fun pins s' σ H' D I h' => ?_⟩
    obtain ⟨Ech, hW, h1, h2, h3⟩ := h'
    have hp := fun p1 p2 => act _ pn xe Ech p1 p2 (takes_len tk) hW
    exact (pss_cons (ps_expr (pe_weak (hp _ _))) (pss_one (ps_ret pe_str))).run pins s' σ H' D I ⟨_, fun _ H9 z => z H9 (Ex.refl H9), h1, h2, h3⟩
  · refine ⟨fun cls d H' => ∃ x, x ∈ errNames ∧ cls = .ref (ga X.K x) ∧ d = none ∧ ErrX X.K x ∧ ∀ H2, Ex H' H2 → Q (.str (nameOf x)) H2, ?_, rfl, hc, h⟩
    rintro cls d σ' H' ⟨x, hm, rfl, rfl, EX, q⟩ hlen
    refine ⟨true, EX.exm, fun _ a ha => ?_, fun z => nomatch z⟩
    obtain ⟨v0, v1, v2, v3, rfl⟩ : ∃ v0 v1 v2 v3, σ' = [v0, v1, v2, v3] := by
      match σ', hlen with
      | [v0, v1, v2, v3], _ => exact ⟨v0, v1, v2, v3, rfl⟩
    exact no_hnd EX hm q
end
end Pk
namespace Pk
open PySem PySem.Spec PyProof.Rows L2 Evl He
section
variable {P : Program} {w : World} {K : PySem.W.Frag} {mg : Str → Option Value} {base : Heap}
open SX (S)
/-! ### _law_parents -/
theorem el_cat2' {σ : L2.St} {H : Hp} {ta tb : TE} {xs ys : List V} (ha : EvL ta σ H xs) (hb : EvL tb σ H ys) (hz : xs.length + ys.length ≤ 100000) : EvL (tOp rCat ta tb) σ H (xs ++ ys) := fun H1 e Q q =>
  ha H1 e _ fun p H2 hp e2 h2 => hb H2 (e.trans e2) _ fun b H3 _ e3 h3 => ⟨p, b, xs, ys, rfl, rfl, e3 p _ h2, h3, sz_of hz, fun d hd => q d _ (fresh_back (e2.trans e3) hd) ((e2.trans e3).trans (Ex.new hd)) upd_same⟩
def zsK (ws : List Nat) : Nat → List (Int × Int)
  | 0 => []
  | k + 1 => zsK ws k ++ (chl ws k).map fun (c : Nat) => (((k : Nat) : Int), ((c : Nat) : Int))
theorem sv_zs (ws : List Nat) : ∀ k, vn (sv ws k) = [V.int 0] ++ (zsK ws k).map fun p => V.int p.2
  | 0 => rfl
  | k + 1 => by
    show vn (sv ws k ++ chl ws k) = _ ++ List.map _ (zsK ws k ++ _)
    rw [List.map_append, ← List.append_assoc, ← sv_zs ws k, List.map_map]
    show List.map _ _ = List.map _ _ ++ List.map _ _
    rw [List.map_append]
    rfl
theorem mem_zs {ws : List Nat} {p : Int × Int} : ∀ {k : Nat}, p ∈ zsK ws k ↔ ∃ c, c < ws.length ∧ ws.getD c 0 < k ∧ p = ((ws.getD c 0 : Int), (c : Int) + 1)
  | 0 => ⟨fun h => (List.not_mem_nil h).elim, fun ⟨_, _, h, _⟩ => (Nat.not_lt_zero _ h).elim⟩
  | k + 1 => by
    show p ∈ zsK ws k ++ _ ↔ _
    rw [List.mem_append, mem_zs, List.mem_map]
    constructor
    · rintro (⟨c, h1, h2, h3⟩ | ⟨x, hx, rfl⟩)
      · exact ⟨c, h1, by omega, h3⟩
      · obtain ⟨c, h1, h2, rfl⟩ := mem_chl.mp hx
        exact ⟨c, h1, by omega, by rw [h2]; rfl⟩
    · rintro ⟨c, h1, h2, rfl⟩
      by_cases q : ws.getD c 0 < k
      · exact .inl ⟨c, h1, q, rfl⟩
      · have e : ws.getD c 0 = k := by omega
        exact .inr ⟨c + 1, mem_chl.mpr ⟨c, h1, e, rfl⟩, by rw [e]; rfl⟩
theorem zs_lt {ws : List Nat} : ∀ k, (zsK ws k).Pairwise fun a b => a.1 < b.1 ∨ (a.1 = b.1 ∧ a.2 < b.2)
  | 0 => .nil
  | k + 1 => by
    refine List.pairwise_append.mpr ⟨zs_lt k, List.pairwise_map.mpr ?_, fun a ha b hb => ?_⟩
    · unfold chl chlK
      refine List.pairwise_map.mpr ((List.Pairwise.filter _ List.pairwise_lt_range).imp fun {a b} h => Or.inr ⟨rfl, ?_⟩)
      show ((a + 1 : Nat) : Int) < ((b + 1 : Nat) : Int)
      omega
    · obtain ⟨c, _, h2, rfl⟩ := mem_zs.mp ha
      obtain ⟨x, _, rfl⟩ := List.mem_map.mp hb
      exact .inl (by show ((ws.getD c 0 : Nat) : Int) < (k : Int); omega)
theorem zs_perm {ws : List Nat} (hw : ∀ x ∈ ws, x < ws.length) : (zsK ws ws.length).Perm ((List.range ws.length).map fun i => ((ws.getD i 0 : Int), (i : Int) + 1)) := by
  refine (List.perm_ext_iff_of_nodup ((zs_lt _).imp fun {a b} h e => ?_) ?_).mpr fun p => ?_
  · subst e; omega
  · refine List.pairwise_map.mpr (List.pairwise_lt_range.imp fun {a b} h e => ?_)
    have := congrArg Prod.snd e
    simp only at this
    omega
  · rw [mem_zs, List.mem_map]
    constructor
    · rintro ⟨c, h1, _, rfl⟩
      exact ⟨c, List.mem_range.mpr h1, rfl⟩
    · rintro ⟨c, h1, rfl⟩
      have hc := List.mem_range.mp h1
      exact ⟨c, hc, hw _ (List.mem_of_getElem? (getD_of hc)), rfl⟩
theorem zs_len {ws : List Nat} (hw : ∀ x ∈ ws, x < ws.length) : (zsK ws ws.length).length = ws.length := by rw [(zs_perm hw).length_eq, List.length_map, List.length_range]
def spParents (K : PySem.W.Frag) : Sp := fun vs H Q _ => ∃ (a : Addr) (ws : List Nat), vs = [.ref a] ∧ SqL K H a (vn ws) ∧ ws.length ≤ 20000 ∧ (∀ x ∈ ws, x < ws.length) ∧ RetL (vn (treeL ws)) H Q
theorem ok_law_parents {fd : FuncData} (F : FnP K "_law_parents" s_law_parents fd) (B : Bi mg) : FnOk P w K mg base CX0 1 (ga K "_law_parents") fd P_law_parents (spParents K) := by
  refine F.ok sc_law_parents (fun vs H Q E h => ?_) (fun cdv A outer s H vs Q E hr h => ⟨der_law_parents B hr, ?_⟩)
  · obtain ⟨a, ws, rfl, _⟩ := h; rfl
  obtain ⟨a, ws, rfl, ha, hl, hw, q⟩ := h
  have hn : (zsK ws ws.length).length = ws.length := zs_len hw
  unfold der_law_parents; dsimp only
  refine q_asgP (ep_sortedP (zs := zsK ws ws.length) (ep_enumP (fun i y => ((y : Int), (i : Int) + 1)) (ev_var rfl) ha (by omega) (fun _ _ => rfl) (fun i y H2 e hy => ev_var rfl) (fun i y H2 e hy => ev_add (ev_var rfl) ev_c rfl)) (zs_perm hw) ((zs_lt _).imp fun {a b} h => ?_)) fun v H1 e1 hv => ?_
  · cases hb : SrtO.lexB b a with
    | false => rfl
    | true =>
      have := SrtO.lexB_iff.mp hb
      omega
  obtain ⟨l, xs, rfl, hl1, hx⟩ := hv
  refine q_asgL (el_cat2' (xs := [.int 0]) (el_lst (ea_cons ev_c ea_nil) (by decide)) (el_lcPr (ev_var rfl) hl1 hx (by omega) (fun _ _ => rfl) fun x y H2 => ev_var rfl) (by rw [List.length_map, hn]; show 1 + _ ≤ _; omega)) fun l2 H3 hl3 e3 h3 => ?_
  rw [← sv_zs] at h3
  refine s_retL (el_ls nat (fun w => nat ((sv ws ws.length).getD w 0)) (ev_var rfl) (ex_l (e1.trans e3) ha) (by omega) (fun _ => rfl) fun i y H4 e4 hy => ev_ixN (i := y) (ev_var rfl) (ev_var rfl) (ex_l e4 (sq_of h3)) ?_) fun l5 H5 hl5 e5 h5 => q l5 H5 (fresh_back (e1.trans e3) hl5) ((e1.trans e3).trans e5) (by rw [h5]; unfold treeL vn; rw [List.map_map]; rfl)
  have hy2 := hw y (List.mem_of_getElem? hy)
  refine vn_get (getD_of ?_)
  rw [sv_len, lt_all hw]
  omega
end
end Pk
namespace Pk
open PySem PySem.Spec PyProof.Rows L2 Evl He
section
variable {P : Program} {w : World} {K : PySem.W.Frag} {mg : Str → Option Value} {base : Heap}
open SX (S)
/-! ### what the promises share -/
theorem dp_pw {H : Hp} {t l : Addr} {p : Nat} {ws : List Nat} (h1 : H t = some (.tup [nat p, .ref l])) (h2 : H l = some (.lst (vn ws))) : Dp K H (.ref t) (.tuple [.int (p : Int), pdi (ws.map fun (n : Nat) => (n : Int))]) :=
  .tup (st_of h1) (.cons (.int _) (.cons (dp_ints (by rw [← vn_vi]; exact sq_of h2)) .nil))
theorem shaped_pw (p : Int) (ns : List Int) : SeqAt.shaped (.tuple [.int p, pdi ns]) = true := by
  have h := depth_ints ns
  have h2 := canLay_ints ns
  unfold SeqAt.shaped pdi
  rw [Bool.and_eq_true_iff]
  refine ⟨by simp [PyData.canLay0, PyData.canLayAll0, h2], decide_eq_true ?_⟩
  simp only [PyData.depth, PyData.depthAll]
  omega
theorem eqv_pw (p : Int) (ns : List Int) : PyData.eqv (.tuple [.int p, pdi ns]) (.tuple [.int p, pdi ns]) = true := by
  show (PyData.eqv (.int p) (.int p) && (PyData.eqv (pdi ns) (pdi ns) && true)) = true
  rw [eqv_ints]
  show ((p == p) && (decide (ns = ns) && true)) = true
  simp
theorem IsPW.back {H0 H1 H2 : Hp} {v : V} {p : Nat} {ws : List Nat} (h : IsPW H1 H2 v p ws) (e : Ex H0 H1) : IsPW H0 H2 v p ws := by
  obtain ⟨t, l, rfl, h1, h2, h3, h4⟩ := h
  exact ⟨t, l, rfl, fresh_back e h1, h2, fresh_back e h3, h4⟩
theorem ev_neZ {σ : L2.St} {H : Hp} {ta tb : TE} {a b : Str} (ha : Ev ta σ H (.str a)) (hb : Ev tb σ H (.str b)) : Ev (tOp rNe ta tb) σ H (.bl (!decide (V.str a = V.str b))) := ev_op ha hb (rv_ne rfl)
theorem str_S (z : Str) : z = S z.cps.toList := TL.ext_tl (by rfl)
def cz (z : Str) : List Nat := z.cps.toList
theorem ev_z {σ : L2.St} {H : Hp} {z : Str} : Ev (tC (.str z)) σ H (.str (S (cz z))) := ev_lit (str_S z)
theorem orBadL_l {m : Nat → Int} {sp : Sp} {vs : List V} {H : Hp} {xs : List V} (h : SpL sp vs H xs) : SpL (orBadL K m sp) vs H xs := fun H1 e Q q E => .inl (h H1 e Q q E)
theorem orBadL_v {m : Nat → Int} {sp : Sp} {vs : List V} {H : Hp} {z : V} (h : SpV sp vs H z) : SpV (orBadL K m sp) vs H z := fun H1 e Q q E => .inl (h H1 e Q q E)
theorem orBadS_l {sp : Sp} {vs : List V} {H : Hp} {xs : List V} (h : SpL sp vs H xs) : SpL (orBadS K sp) vs H xs := fun H1 e Q q E => .inl (h H1 e Q q E)
theorem orBadS_v {sp : Sp} {vs : List V} {H : Hp} {z : V} (h : SpV sp vs H z) : SpV (orBadS K sp) vs H z := fun H1 e Q q E => .inl (h H1 e Q q E)
theorem EvAP.to {σ : L2.St} {H : Hp} {ta : TA} {Φ Ψ : List V → Hp → Prop} (h : EvAP ta σ H Φ) (k : ∀ vs H2, Φ vs H2 → Ψ vs H2) : EvAP ta σ H Ψ := fun H1 e Q q => h H1 e Q fun vs H2 e2 hv => q vs H2 e2 (k vs H2 hv)
theorem sv_drives0 {H : Hp} {a : Addr} {ws : List Nat} (h : SqL K H a (vn ws)) (hl : ws.length ≤ 20000) (F : Full ws) : SpV (orBadL K mW (spDrives K)) [.ref a] H (.int (drv ws)) := orBadL_v fun H1 e Q q E => ⟨a, ws, rfl, ex_l e h, by omega, F.lo, fun _ => q, fun n => absurd F n⟩
theorem sv_path0 {H : Hp} {a : Addr} {ws : List Nat} (h : SqL K H a (vn ws)) (hl : ws.length ≤ 20000) (F : Full ws) : SpV (orBadL K mW (spPath K)) [.ref a] H (.str (S (pathL (cnts ws.length ws)))) := orBadL_v fun H1 e Q q E => ⟨a, ws, rfl, ex_l e h, hl, F.lo, fun _ => q, fun n => absurd F n⟩
theorem sl_wishesOf0 {H : Hp} {a : Addr} {ps : List Nat} (h : SqL K H a (vn ps)) (hl : ps.length ≤ 20000) (hw : ∀ x ∈ ps, x < ps.length + 1) (T : Tr ps) : SpL (orBadTr K (spWishesOf K)) [.ref a] H (vn (wishL ps)) := fun H1 e Q q E => .inl (sl_wishesOf h hl hw T H1 e Q q E)
theorem sv_howMany0 {H : Hp} {a : Addr} {st : List Nat} (h : SqL K H a (vn st)) (S : IsSt st) (hl : st.length ≤ 4000) : SpV (orBadSt K (spHowMany K)) [.ref a] H (nat (prodR (reach st) st.length)) := orBadSt_v fun H1 e Q q E => ⟨a, st, rfl, ex_l e h, S, hl, q⟩
theorem sl_from0 {H : Hp} {a b : Addr} {st : List Nat} {ss : List Int} (h : SqL K H a (vn st)) (h2 : SqL K H b (vi ss)) (S : IsSt st) (hl : st.length ≤ 4000) (hss : ss.length = st.length) (ok : OkSteps st ss) : SpL (spFromStepsK K) [.ref a, .ref b] H (vn (fsteps st ss)) := fun H1 e Q q E => .inl ⟨a, b, st, ss, rfl, ex_l e h, ex_l e h2, S, hl, hss, fun _ => q, fun n => absurd ok n⟩
theorem sl_rising0 {H : Hp} {cs hs : List Nat} (hl : cs.length ≤ 90000) (h : hgo cs 0 = some hs) : SpL (orBadS K (spRising K)) [.str (S cs)] H (vn (ris cs 0)) := orBadS_l fun H1 e Q q E => ⟨cs, rfl, hl, fun _ => q, fun n => by rw [h] at n; cases n⟩
theorem sv_beneath0 {H : Hp} {cs hs : List Nat} (hl : cs.length ≤ 90000) (h : hgo cs 0 = some hs) : SpV (orBadS K (spBeneath K)) [.str (S cs)] H (nat hs.sum) := orBadS_v fun H1 e Q q E => ⟨cs, rfl, hl, fun hs' h' => by rw [h] at h'; cases h'; exact q, fun n => by rw [h] at n; cases n⟩
theorem sl_turned0 {H : Hp} {a : Addr} {b : Int} {ws : List Nat} (h : SqL K H a (vn ws)) (hl : ws.length ≤ 20000) (hw : ∀ x ∈ ws, x < ws.length + 1) : SpL (spTurnedK K) [.ref a, .int b] H (vn (turnI ws b)) := fun H1 e Q q E => .inl (sl_turned h hl hw H1 e Q q E)
theorem no_mem {α : Type} {P : α → Prop} : ∀ x ∈ ([] : List α), P x := fun x hx => by cases hx
theorem el_nilN {σ : L2.St} {H : Hp} : EvL (tLst tNil) σ H (vn []) := el_lst (vs := vn []) ea_nil (Nat.zero_le _)

def spXN (T : TabT) : Sp := fun vs H Q _ => vs = [] ∧ Tabs T H ∧ ∀ H2, ExtN H H2 → Tabs T H2 → Q (.bl true) H2
theorem ed_neg {σ : L2.St} {H : Hp} {i : Int} : EvD (tUn (rU fun i => .int (-i)) (tC (.int i))) σ H (.int (-i)) := ed_int (ev_un ev_c ru_neg)
theorem eap_of {σ : L2.St} {H : Hp} {ta : TA} {vs : List V} (h : EvA ta σ H vs) : EvAP ta σ H (fun ws _ => ws = vs) := fun H1 e Q q => h H1 e _ fun H2 e2 => q vs H2 e2 rfl
theorem s_lamNe {σ : L2.St} {H : Hp} {D : Ends} {T : TabT} {sp : Sp} {ta : TA} {x z : Str} {Φ : List V → Hp → Prop} (hT : Tabs T H) (X : ErrX K x) (hm : x ∈ errNames) (hz : nameOf x = z) (ha : ∀ H1, ExtN H H1 → EvAP ta σ H1 Φ) (k : ∀ vs H2 Q E, ExtN H H2 → Φ vs H2 → RetT K x H2 E → sp vs H2 Q E) (c : ∀ H2, ExtN H H2 → Tabs T H2 → D.nx σ H2) :
    tIfS (tTest (tOp rNe (LamX.tLam T (TNo K) fun E => tCall sp [] E ta) (tC (.str z)))) (tRet (tC (.bl false))) tNext D σ H := q_lamNe (tz := fun D => D.nx) hT X hm hz ha k c
theorem dN_pdi (ws : List Nat) : PyData.list (dN ws) = pdi (ws.map fun (n : Nat) => (n : Int)) := by unfold dN pdi; rw [List.map_map]; rfl
theorem fls {b : Bool} {σ : L2.St} {H : Hp} {te : TE} (h : Ev te σ H (.bl b)) (hb : b = false) : EvT (tTest te) σ H false := et_test (ev_is h (by rw [hb]))
/-! ### what can be decided -/
def fullB (ws : List Nat) : Bool := (ws.all fun x => decide (x < ws.length)) && (List.range (ws.length + 1)).all fun i => decide (i ≤ lt ws i)
theorem fullB_iff {ws : List Nat} : fullB ws = true ↔ Full ws := by
  unfold fullB
  rw [Bool.and_eq_true, List.all_eq_true, List.all_eq_true]
  exact ⟨fun h => ⟨fun x hx => of_decide_eq_true (h.1 x hx), fun i hi => of_decide_eq_true (h.2 i (List.mem_range.mpr (by omega)))⟩, fun F => ⟨fun x hx => decide_eq_true (F.lo x hx), fun i hi => decide_eq_true (F.up i (by have := List.mem_range.mp hi; omega))⟩⟩
def ltB (n : Nat) (ws : List Nat) : Bool := ws.all fun x => decide (x < n)
theorem ltB_iff {n : Nat} {ws : List Nat} : ltB n ws = true ↔ ∀ x ∈ ws, x < n := by
  unfold ltB
  rw [List.all_eq_true]
  exact ⟨fun h x hx => of_decide_eq_true (h x hx), fun h x hx => decide_eq_true (h x hx)⟩
def trB (ps : List Nat) : Bool := (ltB (ps.length + 1) ps) && (List.range (ps.length + 1)).all fun v => decide (v ∈ qAll ps)
theorem trB_iff {ps : List Nat} : trB ps = true ↔ Tr ps := by
  unfold trB
  rw [Bool.and_eq_true, List.all_eq_true, ltB_iff]
  constructor
  · intro h
    exact ⟨fun c hc => Nat.le_of_lt_succ (h.1 _ (List.mem_of_getElem? (getD_of hc))), fun v hv => of_decide_eq_true (h.2 v (List.mem_range.mpr (by omega)))⟩
  · intro T
    refine ⟨fun x hx => ?_, fun v hv => decide_eq_true (T.all v (by have := List.mem_range.mp hv; omega))⟩
    obtain ⟨i, hi⟩ := List.getElem?_of_mem hx
    have hl := (List.getElem?_eq_some_iff.mp hi).1
    have h2 := T.le i hl
    rw [List.getD_eq_getElem?_getD, hi] at h2
    exact Nat.lt_succ_of_le h2
def stB (st : List Nat) : Bool := ltB st.length st && decide st.Nodup
theorem stB_iff {st : List Nat} : stB st = true ↔ IsSt st := by
  unfold stB
  rw [Bool.and_eq_true, ltB_iff, decide_eq_true_iff]
  exact ⟨fun h => ⟨h.1, h.2⟩, fun h => ⟨h.lo, h.nd⟩⟩
def textB (cs : List Nat) : Bool := decide ((w0 cs).getLast? = some 58) && (isNum (w0 cs).dropLast && ((wr cs).all isNum && (decide (1 ≤ placesOf cs) && (decide (placesOf cs ≤ 1000000) && (wr cs).all fun w => decide (dv w < placesOf cs)))))
theorem textB_iff {cs : List Nat} : textB cs = true ↔ TextOk cs := by
  unfold textB
  simp only [Bool.and_eq_true, List.all_eq_true, decide_eq_true_iff, isNum_iff]
  exact ⟨fun ⟨a, b, c, d, e, f⟩ => ⟨a, b, c, d, e, f⟩, fun h => ⟨h.co, h.n0, h.nr, h.p1, h.p2, h.lt⟩⟩
/-! ### _law_standings_promises_more1 -/
theorem ev_readNe {σ : L2.St} {H : Hp} {E : XK} {z : Str} {tb : TE} {p : Nat} {ws : List Nat} (hz : textB (cz z) = true ∧ (cz z).length ≤ 5000 ∧ placesOf (cz z) = p ∧ wishesOf (cz z) = ws) (hb : EvD tb σ H (.tuple [.int (p : Int), .list (dN ws)])) :
    Ev (tOp (rNeD K) (tCall (spRead K) [] E (tCons (tC (.str z)) tNil)) tb) σ H (.bl false) := fun H1 e Q q => by
  obtain ⟨h1, h2, rfl, rfl⟩ := hz
  show spRead K [.str z] H1 _ E
  rw [str_S z]
  refine .inr ⟨cz z, rfl, h2, fun _ v H2 e2 hv => hb H2 (e.trans e2) _ fun y H3 e3 hy => ?_, fun n => absurd (textB_iff.mp h1) n⟩
  obtain ⟨t, l, rfl, _, g1, _, g2⟩ := hv
  have hd := Dw.dp (K := K) _ _ hy
  rw [dN_pdi] at hd
  exact ⟨_, _, dp_pw (e3 _ _ g1) (e3 _ _ g2), hd, shaped_pw _ _, shaped_pw _ _, by rw [eqv_pw]; exact q H3 (e2.trans e3)⟩
def txts1 : List Str := ["3: 0  1", "0:", "1: 1", " 1:", "1: ", "1", "01:", "2: 00", "2: -1", "2:0", "2: 0\n"]
def txts2 : List Str := ["1000001:", "", "2: +0"]
theorem txts_no : ∀ z ∈ txts1 ++ txts2, textB (cz z) = false ∧ (cz z).length ≤ 5000 := by decide +kernel
theorem txts_nm : nameOf "BadText" = Str.ofString "text" := by decide
theorem ok_law_standings_promises_more1 {T : TabT} {fd fd1 fd2 : FuncData} (F : FnP K "_law_standings_promises_more1" s_law_standings_promises_more1 fd) (C1 : Cal P w K mg base (CXt P w) 3 "read" P_read (spRead K) fd1) (C2 : Cal P w K mg base (L2N.CX P w) 3 "written" P_written (spWritten K) fd2)
    (NO : NoD K mg base s_law_no_of N_law_no_of) (LT : LamT K mg base T "_law_standings_promises_more1" s_law_standings_promises_more1) (EX : ErrX K "BadText") : FnOk P w K mg base CX0 6 (ga K "_law_standings_promises_more1") fd P_law_standings_promises_more1 (spXN T) := by
  refine FnP.okL F sc_law_standings_promises_more1 (fun vs H Q E h => ?_) (fun A outer s H vs Q E hr h => ⟨der_law_standings_promises_more1 C1 C2 NO LT hr, ?_⟩)
  · obtain ⟨rfl, _⟩ := h; rfl
  obtain ⟨rfl, hT, q⟩ := h
  unfold der_law_standings_promises_more1; dsimp only
  refine q_when (b := false || (false || false)) (et_or (fls (ev_neS (a := txtL 1 []) (ev_callVL (v := nat 1) ev_c el_nilN fun p H1 e hp => sv_written (by decide) (by decide) (sq_of hp) (by decide) no_mem) ev_z) (by decide +kernel)) fun _ => et_or (et_test (ev_readNe (p := 1) (ws := []) (by decide +kernel) (by repeat (first | exact eds_nil | exact ed_i | exact ed_s | exact ed_b | exact ed_n | exact ed_neg | refine eds_cons ?_ ?_ | refine ed_lst ?_ | refine ed_tup ?_)))) fun _ => fls (ev_neS (a := txtL 5 [0, 3, 3]) (ev_callVL (v := nat 5) ev_c (el_lst (vs := vn [0, 3, 3]) (ea_cons ev_c (ea_cons ev_c (ea_cons ev_c ea_nil))) (by decide)) fun p H1 e hp => sv_written (by decide) (by decide) (sq_of hp) (by decide) (by decide)) ev_z) (by decide +kernel)) (fun z => nomatch z) fun _ H1 e1 => ?_
  refine q_when (b := false || false) (et_or (et_test (ev_readNe (p := 5) (ws := [0, 3, 3]) (by decide +kernel) (by repeat (first | exact eds_nil | exact ed_i | exact ed_s | exact ed_b | exact ed_n | exact ed_neg | refine eds_cons ?_ ?_ | refine ed_lst ?_ | refine ed_tup ?_)))) fun _ => et_test (ev_readNe (p := 1000000) (ws := [999999]) (by decide +kernel) (by repeat (first | exact eds_nil | exact ed_i | exact ed_s | exact ed_b | exact ed_n | exact ed_neg | refine eds_cons ?_ ?_ | refine ed_lst ?_ | refine ed_tup ?_)))) (fun z => nomatch z) fun _ H2 e2 => ?_
  refine q_asgD (d := .list (txts1.map PyData.str)) (by repeat (first | exact eds_nil | exact ed_i | exact ed_s | exact ed_b | exact ed_n | exact ed_neg | refine eds_cons ?_ ?_ | refine ed_lst ?_ | refine ed_tup ?_)) fun v H3 e3 hv => ?_
  have e13 := e1.trans (e2.trans e3)
  refine q_forDN (ds := (txts1 ++ txts2).map PyData.str) (J := fun σ => σ.length = 2) (tabs_ex hT e13) (by rw [List.map_append]; exact ed_cat (ed_var rfl hv) (by repeat (first | exact eds_nil | exact ed_i | exact ed_s | exact ed_b | exact ed_n | exact ed_neg | refine eds_cons ?_ ?_ | refine ed_lst ?_ | refine ed_tup ?_)) (by decide)) rfl (fun d hd v σ' H' N hv hJ eN hT' hN => ?_) fun σ' H' hJ eN hT' => ?_
  · obtain ⟨z, hz, rfl⟩ := List.mem_map.mp hd
    cases hv
    obtain ⟨v0, v1, rfl⟩ : ∃ v0 v1, σ' = [v0, v1] := by
      match σ', hJ with
      | [v0, v1], _ => exact ⟨v0, v1, rfl⟩
    obtain ⟨z1, z2⟩ := txts_no z hz
    refine s_lamNe hT' EX (by decide) txts_nm (fun H4 e4 => eap_of (ea_cons (ev_var rfl) ea_nil)) (fun vs H4 Q4 E4 e4 hvs qE => ?_) fun H4 e4 T4 => hN _ _ rfl e4 T4
    subst hvs
    rw [str_S z]
    exact .inr ⟨cz z, rfl, z2, fun ok => (by rw [textB_iff.mpr ok] at z1; cases z1), fun _ => qE⟩
  · exact q H' ((Ex.n e13).trans eN) hT'
end
end Pk
namespace Pk
open PySem PySem.Spec PyProof.Rows L2 Evl He
section
variable {P : Program} {w : World} {K : PySem.W.Frag} {mg : Str → Option Value} {base : Heap}
open SX (S)
/-! ### _law_standings_promises -/
theorem sl_tree0 {H : Hp} {a : Addr} {ws : List Nat} (h : SqL K H a (vn ws)) (hl : ws.length ≤ 20000) (F : Full ws) : SpL (orBadL K mW (spTree K)) [.ref a] H (vn (treeL ws)) := orBadL_l fun H1 e Q q E => ⟨a, ws, rfl, ex_l e h, hl, F.lo, fun _ => q, fun n => absurd F n⟩
theorem len8 {σ : L2.St} (h : σ.length = 8) : ∃ v0 v1 v2 v3 v4 v5 v6 v7, σ = [v0, v1, v2, v3, v4, v5, v6, v7] := by
  match σ, h with
  | [v0, v1, v2, v3, v4, v5, v6, v7], _ => exact ⟨v0, v1, v2, v3, v4, v5, v6, v7, rfl⟩
theorem nb {p : Prop} [Decidable p] (h : p) : (!decide p) = false := by rw [decide_eq_true h]; rfl
def cs1 : List (List Nat × List Nat) := [([], []), ([0], [0]), ([0, 0], [0, 0]), ([0, 1], [0, 1]), ([1, 0], [2, 0])]
def cs2 : List (List Nat × List Nat) := [([0, 0, 0], [0, 0, 0]), ([0, 1, 2], [0, 1, 2]), ([0, 0, 2], [0, 0, 2])]
def dCs (c : List Nat × List Nat) : PyData := .tuple [.list (dN c.1), .list (dN c.2)]
theorem cs_ok : ∀ c ∈ cs1 ++ cs2, fullB c.1 = true ∧ treeL c.1 = c.2 ∧ trB c.2 = true ∧ wishL c.2 = c.1 ∧ c.1.length ≤ 20000 ∧ c.2.length ≤ 20000 := by decide +kernel
def noTr : List PyData := [.list [.int 1], .list [.int 2, .int 1], .list [.int 2], .list [.int 0, .int (-1)], .list [.int 0, .int 3, .int 2], .list [.bool true]]
theorem noTr_ok : ∀ d ∈ noTr, (badM mT d = true ∧ dSmall d) ∨ ∃ ps : List Nat, d = .list (dN ps) ∧ ltB (ps.length + 1) ps = true ∧ trB ps = false ∧ ps.length ≤ 20000 := by
  intro d hd
  simp only [noTr, List.mem_cons, List.not_mem_nil, or_false] at hd
  rcases hd with rfl | rfl | rfl | rfl | rfl | rfl
  · exact .inr ⟨[1], rfl, by decide, by decide +kernel, by decide⟩
  · exact .inr ⟨[2, 1], rfl, by decide, by decide +kernel, by decide⟩
  · exact .inl ⟨by decide, Nat.le_of_ble_eq_true rfl⟩
  · exact .inl ⟨by decide, Nat.le_of_ble_eq_true rfl⟩
  · exact .inr ⟨[0, 3, 2], rfl, by decide, by decide +kernel, by decide⟩
  · exact .inl ⟨by decide, Nat.le_of_ble_eq_true rfl⟩
def cs3 : List (List Nat × (Str × Nat)) := [([], ("", 0)), ([0, 0], ("uudd", 1)), ([0, 1], ("udud", 0)), ([1, 0], ("udud", 0))]
def cs4 : List (List Nat × (Str × Nat)) := [([0, 0, 0], ("uuuddd", 3)), ([0, 2, 0], ("uuddud", 1))]
def dCt (c : List Nat × (Str × Nat)) : PyData := .tuple [.list (dN c.1), .str c.2.1, .int (c.2.2 : Nat)]
theorem ct_ok : ∀ c ∈ cs3 ++ cs4, fullB c.1 = true ∧ pathL (cnts c.1.length c.1) = cz c.2.1 ∧ hgo (cz c.2.1) 0 = some ((hgo (cz c.2.1) 0).getD []) ∧ ((hgo (cz c.2.1) 0).getD []).sum = c.2.2 ∧ drv c.1 = (c.2.2 : Int) ∧ (ris (cz c.2.1) 0).Perm c.1 ∧ (ris (cz c.2.1) 0).Pairwise (fun a b => a ≤ b) ∧ c.1.length ≤ 20000 ∧ (cz c.2.1).length ≤ 20000 := by decide +kernel
def noPa : List PyData := [.str "du", .str "u", .str "uudx", .str "udd", .str "ud ", .none]
theorem noPa_ok : ∀ d ∈ noPa, (∃ z : Str, d = .str z ∧ hgo (cz z) 0 = none ∧ (cz z).length ≤ 90000) ∨ dIsS d = false := by
  intro d hd
  simp only [noPa, List.mem_cons, List.not_mem_nil, or_false] at hd
  rcases hd with rfl | rfl | rfl | rfl | rfl | rfl
  · exact .inl ⟨_, rfl, by decide +kernel, by decide +kernel⟩
  · exact .inl ⟨_, rfl, by decide +kernel, by decide +kernel⟩
  · exact .inl ⟨_, rfl, by decide +kernel, by decide +kernel⟩
  · exact .inl ⟨_, rfl, by decide +kernel, by decide +kernel⟩
  · exact .inl ⟨_, rfl, by decide +kernel, by decide +kernel⟩
  · exact .inr rfl
def cs5 : List (List Nat × (List Nat × Nat)) := [([], ([], 1)), ([0], ([0], 1)), ([0, 1], ([0, 0], 2)), ([1, 0], ([0, 1], 1))]
def cs6 : List (List Nat × (List Nat × Nat)) := [([0, 1, 2], ([0, 0, 0], 6)), ([2, 1, 0], ([0, 1, 2], 1)), ([1, 2, 0], ([0, 0, 2], 2))]
def dCr (c : List Nat × (List Nat × Nat)) : PyData := .tuple [.list (dN c.1), .list (dN c.2.1), .int (c.2.2 : Nat)]
theorem cr_ok : ∀ c ∈ cs5 ++ cs6, stB c.1 = true ∧ rchs c.1 = c.2.1 ∧ prodR (reach c.1) c.1.length = c.2.2 ∧ c.1.length ≤ 4000 := by decide +kernel
def cs7 : List (List Nat × List Int) := [([1, 0], [0, 1]), ([0, 1], [0, -1]), ([0, 1], [0]), ([0, 1], [1, 0]), ([0, 0], [0, 0])]
def cs8 : List (List Nat × List Int) := [([0, 1], [0, 2])]
def dCf (c : List Nat × List Int) : PyData := .tuple [.list (dN c.1), .list (c.2.map PyData.int)]
def okB (st : List Nat) (ss : List Int) : Bool := (List.range st.length).all fun p => decide (0 ≤ ss.getD p 0 ∧ ss.getD p 0 ≤ (p : Int) - (reach st p : Int))
theorem okB_iff {st : List Nat} {ss : List Int} : okB st ss = true ↔ OkSteps st ss := by
  unfold okB OkSteps
  rw [List.all_eq_true]
  exact ⟨fun h p hp => of_decide_eq_true (h p (List.mem_range.mpr hp)), fun h p hp => decide_eq_true (h p (List.mem_range.mp hp))⟩
theorem cf_ok : ∀ c ∈ cs7 ++ cs8, ((stB c.1 = true ∧ c.2.length = c.1.length ∧ okB c.1 c.2 = false) ∨ (stB c.1 = true ∧ c.2.length ≠ c.1.length) ∨ ¬ (c.1.map fun (n : Nat) => (n : Int)).Nodup) ∧ c.1.length ≤ 4000 := by decide +kernel
theorem ok_law_standings_promises {T : TabT} {fd fd0 fd1 fd2 fd3 fd4 fd5 fd6 fd7 fd8 fd9 : FuncData} (F : FnP K "_law_standings_promises" s_law_standings_promises fd) (B : Bi mg) (C0 : Cal P w K mg base CX0 6 "_law_standings_promises_more1" P_law_standings_promises_more1 (spXN T) fd0)
    (C1 : Cal P w K mg base (L2N.CX P w) 2 "beneath" P_beneath (orBadS K (spBeneath K)) fd1) (C2 : Cal P w K mg base (L2N.CX P w) 4 "drives" P_drives (orBadL K mW (spDrives K)) fd2) (C3 : Cal P w K mg base (L2N.CX P w) 4 "from_steps" P_from_steps (spFromStepsK K) fd3) (C4 : Cal P w K mg base (L2N.CX P w) 4 "how_many" P_how_many (orBadSt K (spHowMany K)) fd4)
    (C5 : Cal P w K mg base (L2N.CX P w) 4 "path" P_path (orBadL K mW (spPath K)) fd5) (C6 : Cal P w K mg base (L2N.CX P w) 3 "reaches" P_reaches (orBadSt K (spReaches K)) fd6) (C7 : Cal P w K mg base (L2N.CX P w) 2 "rising" P_rising (orBadS K (spRising K)) fd7) (C8 : Cal P w K mg base (L2N.CX P w) 4 "tree" P_tree (orBadL K mW (spTree K)) fd8) (C9 : Cal P w K mg base (L2N.CX P w) 2 "wishes_of" P_wishes_of (orBadTr K (spWishesOf K)) fd9)
    (NO : NoD K mg base s_law_no_of N_law_no_of) (LT : LamT K mg base T "_law_standings_promises" s_law_standings_promises) (X1 : ErrX K "BadTree") (X2 : ErrX K "BadPath") (X3 : ErrX K "BadStanding") : FnOk P w K mg base CX0 7 (ga K "_law_standings_promises") fd P_law_standings_promises (spXN T) := by
  refine FnP.okL F sc_law_standings_promises (fun vs H Q E h => ?_) (fun A outer s H vs Q E hr h => ⟨der_law_standings_promises B C0 C1 C2 C3 C4 C5 C6 C7 C8 C9 NO LT hr, ?_⟩)
  · obtain ⟨rfl, _⟩ := h; rfl
  obtain ⟨rfl, hT, q⟩ := h
  unfold der_law_standings_promises; dsimp only
  refine q_asgD (d := .list (cs1.map dCs)) (by repeat (first | exact eds_nil | exact ed_i | exact ed_s | exact ed_b | exact ed_n | exact ed_neg | refine eds_cons ?_ ?_ | refine ed_lst ?_ | refine ed_tup ?_)) fun v1 H1 e1 hv1 => ?_
  refine q_asgD (d := .list ((cs1 ++ cs2).map dCs)) (by rw [List.map_append]; exact ed_cat (ed_var rfl hv1) (by repeat (first | exact eds_nil | exact ed_i | exact ed_s | exact ed_b | exact ed_n | exact ed_neg | refine eds_cons ?_ ?_ | refine ed_lst ?_ | refine ed_tup ?_)) (by decide)) fun v2 H2 e2 hv2 => ?_
  refine q_forDN (J := fun σ => σ.length = 8) (tabs_ex hT (e1.trans e2)) (ed_var rfl hv2) rfl (fun d hd v σ' H' N hv hJ eN hT' hN => ?_) fun σA HA hJA eA hTA => ?_
  · obtain ⟨c, hc, rfl⟩ := List.mem_map.mp hd
    obtain ⟨v0, v1, v2, v3, v4, v5, v6, v7, rfl⟩ := len8 hJ
    obtain ⟨c1, c2, c3, c4, c5, c6⟩ := cs_ok c hc
    refine g_tup2 hv fun x y hx hy => ?_
    obtain ⟨a, rfl, ha⟩ := Dw.nats hx
    obtain ⟨b, rfl, hb⟩ := Dw.nats hy
    refine s_when (b := false || false) (et_or (fls (ev_neNL (ms := c.2) (el_call (vs := [.ref a]) (ea_cons (ev_var rfl) ea_nil) (sl_tree0 (sq_of ha) c5 (fullB_iff.mp c1))) (ev_var rfl) (sq_of hb)) (nb c2)) fun _ => fls (ev_neNL (ms := c.1) (el_call (vs := [.ref b]) (ea_cons (ev_var rfl) ea_nil) (sl_wishesOf0 (sq_of hb) c6 (fun x hx => Nat.lt_succ_of_le (by
      obtain ⟨i, hi⟩ := List.getElem?_of_mem hx
      have h2 := (trB_iff.mp c3).le i (List.getElem?_eq_some_iff.mp hi).1
      rw [List.getD_eq_getElem?_getD, hi] at h2
      exact h2)) (trB_iff.mp c3))) (ev_var rfl) (sq_of ha)) (nb c4)) (fun z => nomatch z) fun _ H4 e4 => hN _ _ rfl (Ex.n e4) (tabs_ex hT' e4)
  refine q_forDN (ds := noTr) (J := fun σ => σ.length = 8) hTA (by repeat (first | exact eds_nil | exact ed_i | exact ed_s | exact ed_b | exact ed_n | exact ed_neg | refine eds_cons ?_ ?_ | refine ed_lst ?_ | refine ed_tup ?_)) hJA (fun d hd v σ' H' N hv hJ eN hT' hN => ?_) fun σB HB hJB eB hTB => ?_
  · obtain ⟨v0, v1, v2, v3, v4, v5, v6, v7, rfl⟩ := len8 hJ
    refine s_lamNe hT' X1 (by decide) (by decide) (fun H4 e4 => eap_of (ea_cons (ev_var rfl) ea_nil)) (fun vs H4 Q4 E4 e4 hvs qE => ?_) fun H4 e4 T4 => hN _ _ rfl e4 T4
    subst hvs
    rcases noTr_ok d hd with ⟨b1, b2⟩ | ⟨ps, rfl, b1, b2, b3⟩
    · exact .inr ⟨v, rfl, badL_of (Dw.exN e4 _ _ hv) b1 b2, qE⟩
    · obtain ⟨a, rfl, ha⟩ := Dw.nats hv
      exact .inl ⟨a, ps, rfl, sq_of (exn_lst e4 ha), b3, ltB_iff.mp b1, (fun t => by rw [trB_iff.mpr t] at b2; cases b2), fun _ => qE⟩
  have eAB := (Ex.n (e1.trans e2)).trans (eA.trans eB)
  obtain ⟨w0, w1, w2, w3, w4, w5, w6, w7, rfl⟩ := len8 hJB
  refine q_asgD (d := .list (cs3.map dCt)) (by repeat (first | exact eds_nil | exact ed_i | exact ed_s | exact ed_b | exact ed_n | exact ed_neg | refine eds_cons ?_ ?_ | refine ed_lst ?_ | refine ed_tup ?_)) fun v1 H1 e1 hv1 => ?_
  refine q_asgD (d := .list ((cs3 ++ cs4).map dCt)) (by rw [List.map_append]; exact ed_cat (ed_var rfl hv1) (by repeat (first | exact eds_nil | exact ed_i | exact ed_s | exact ed_b | exact ed_n | exact ed_neg | refine eds_cons ?_ ?_ | refine ed_lst ?_ | refine ed_tup ?_)) (by decide)) fun v2 H2 e2 hv2 => ?_
  refine q_forDN (J := fun σ => σ.length = 8) (tabs_ex hTB (e1.trans e2)) (ed_var rfl hv2) rfl (fun d hd v σ' H' N hv hJ eN hT' hN => ?_) fun σC HC hJC eC hTC => ?_
  · obtain ⟨c, hc, rfl⟩ := List.mem_map.mp hd
    obtain ⟨v0, v1, v2, v3, v4, v5, v6, v7, rfl⟩ := len8 hJ
    obtain ⟨c1, c2, c3, c4, c5, c6, c7, c8, c9⟩ := ct_ok c hc
    refine g_tup3 hv fun x y z hx hy hz => ?_
    obtain ⟨a, rfl, ha⟩ := Dw.nats hx
    cases hy
    cases hz
    have tv : ∀ {σ : L2.St} {G : Hp}, σ[3]? = some (some (.str c.2.1)) → Ev (tVar 3) σ G (.str (S (cz c.2.1))) := fun h => ev_is (ev_var h) (congrArg V.str (str_S c.2.1))
    have F := fullB_iff.mp c1
    refine s_when (b := false || (false || (false || false))) (et_or (fls (ev_neS (ev_call (vs := [.ref a]) (ea_cons (ev_var rfl) ea_nil) (sv_path0 (sq_of ha) c8 F)) (tv rfl)) (nb c2)) fun _ => et_or (fls (ev_neInt (i := ((((hgo (cz c.2.1) 0).getD []).sum : Nat) : Int)) (j := ((c.2.2 : Nat) : Int)) (ev_call (vs := [.str (S (cz c.2.1))]) (ea_cons (tv rfl) ea_nil) (sv_beneath0 (by omega) c3)) (ev_var rfl)) (nb (by rw [c4]))) fun _ => et_or (fls (ev_neInt (ev_call (vs := [.ref a]) (ea_cons (ev_var rfl) ea_nil) (sv_drives0 (sq_of ha) c8 F)) (ev_var rfl)) (nb c5)) fun _ =>
      fls (b := !decide ((ris (cz c.2.1) 0).map (fun (n : Nat) => (n : Int)) = isort (c.1.map fun (n : Nat) => (n : Int)))) (ev_opLL (el_call (vs := [.str (S (cz c.2.1))]) (ea_cons (tv rfl) ea_nil) (sl_rising0 (by omega) c3)) (el_sorted (ns := c.1.map fun (n : Nat) => (n : Int)) (ev_var rfl) (by rw [← vn_vi]; exact sq_of ha)) fun p q G hp hq e => rv_neI (by rw [← vn_vi]; exact sq_of hp) (sq_of hq)) (nb (isort_is (c6.map _) (List.pairwise_map.mpr (c7.imp fun {a b} h => Int.ofNat_le.mpr h))).symm)) (fun z => nomatch z) fun _ H4 e4 => hN _ _ rfl (Ex.n e4) (tabs_ex hT' e4)
  refine q_forDN (ds := noPa) (J := fun σ => σ.length = 8) hTC (by repeat (first | exact eds_nil | exact ed_i | exact ed_s | exact ed_b | exact ed_n | exact ed_neg | refine eds_cons ?_ ?_ | refine ed_lst ?_ | refine ed_tup ?_)) hJC (fun d hd v σ' H' N hv hJ eN hT' hN => ?_) fun σD HD hJD eD hTD => ?_
  · obtain ⟨v0, v1, v2, v3, v4, v5, v6, v7, rfl⟩ := len8 hJ
    have bad : ∀ {G : Hp}, ExtN H' G → dIsS d = false → ∃ k, IsK K G v k ∧ k.isS = false := fun eG h => by
      obtain ⟨k, k1, k2⟩ := Dw.kd (K := K) (Dw.exN eG _ _ hv)
      exact ⟨k, k1, by rw [k2.s]; exact h⟩
    refine q_lamNe hT' X2 (by decide) (by decide) (fun H4 e4 => eap_of (ea_cons (ev_var rfl) ea_nil)) (fun vs H4 Q4 E4 e4 hvs qE => ?_) fun H5 e5 T5 => s_lamNe T5 X2 (by decide) (by decide) (fun H4 e4 => eap_of (ea_cons (ev_var rfl) ea_nil)) (fun vs H4 Q4 E4 e4 hvs qE => ?_) fun H4 e4 T4 => hN _ _ rfl (e5.trans e4) T4
    · subst hvs
      rcases noPa_ok d hd with ⟨z, rfl, b1, b2⟩ | b1
      · cases hv
        rw [str_S z]
        exact .inl ⟨cz z, rfl, b2, (fun hs h => by rw [b1] at h; cases h), fun _ => qE⟩
      · obtain ⟨k, k1, k2⟩ := bad e4 b1
        exact .inr ⟨v, k, rfl, k1, k2, qE⟩
    · subst hvs
      rcases noPa_ok d hd with ⟨z, rfl, b1, b2⟩ | b1
      · cases hv
        rw [str_S z]
        exact .inl ⟨cz z, rfl, b2, (fun ⟨hs, h⟩ => by rw [b1] at h; cases h), fun _ => qE⟩
      · obtain ⟨k, k1, k2⟩ := bad (e5.trans e4) b1
        exact .inr ⟨v, k, rfl, k1, k2, qE⟩
  have eBD := eAB.trans ((Ex.n (e1.trans e2)).trans (eC.trans eD))
  obtain ⟨w0, w1, w2, w3, w4, w5, w6, w7, rfl⟩ := len8 hJD
  refine q_asgD (d := .list (cs5.map dCr)) (by repeat (first | exact eds_nil | exact ed_i | exact ed_s | exact ed_b | exact ed_n | exact ed_neg | refine eds_cons ?_ ?_ | refine ed_lst ?_ | refine ed_tup ?_)) fun v1 H1 e1 hv1 => ?_
  refine q_asgD (d := .list ((cs5 ++ cs6).map dCr)) (by rw [List.map_append]; exact ed_cat (ed_var rfl hv1) (by repeat (first | exact eds_nil | exact ed_i | exact ed_s | exact ed_b | exact ed_n | exact ed_neg | refine eds_cons ?_ ?_ | refine ed_lst ?_ | refine ed_tup ?_)) (by decide)) fun v2 H2 e2 hv2 => ?_
  refine q_forDN (J := fun σ => σ.length = 8) (tabs_ex hTD (e1.trans e2)) (ed_var rfl hv2) rfl (fun d hd v σ' H' N hv hJ eN hT' hN => ?_) fun σE HE hJE eE hTE => ?_
  · obtain ⟨c, hc, rfl⟩ := List.mem_map.mp hd
    obtain ⟨v0, v1, v2, v3, v4, v5, v6, v7, rfl⟩ := len8 hJ
    obtain ⟨c1, c2, c3, c4⟩ := cr_ok c hc
    refine g_tup3 hv fun x y z hx hy hz => ?_
    obtain ⟨a, rfl, ha⟩ := Dw.nats hx
    obtain ⟨b, rfl, hb⟩ := Dw.nats hy
    cases hz
    have S0 := stB_iff.mp c1
    refine s_when (b := false || false) (et_or (fls (ev_neNL (ms := c.2.1) (el_call (vs := [.ref a]) (ea_cons (ev_var rfl) ea_nil) (sl_reaches (sq_of ha) S0 c4)) (ev_var rfl) (sq_of hb)) (nb c2)) fun _ => fls (ev_neInt (i := ((prodR (reach c.1) c.1.length : Nat) : Int)) (j := ((c.2.2 : Nat) : Int)) (ev_call (vs := [.ref a]) (ea_cons (ev_var rfl) ea_nil) (sv_howMany0 (sq_of ha) S0 c4)) (ev_var rfl)) (nb (by rw [c3]))) (fun z => nomatch z) fun _ H4 e4 => hN _ _ rfl (Ex.n e4) (tabs_ex hT' e4)
  have l2 : ∀ {σ : L2.St} {G : Hp} {i j : Int} {m n : Nat}, V.int i = nat m → V.int j = nat n → EvL (tLst (tCons (tC (.int i)) (tCons (tC (.int j)) tNil))) σ G (vn [m, n]) := fun h1 h2 => el_lst (vs := vn [_, _]) (ea_cons (ev_is ev_c h1) (ea_cons (ev_is ev_c h2) ea_nil)) (by show 2 ≤ 100000; decide)
  have fr : ∀ {σ : L2.St} {G : Hp} {E : XK} {ta tb : TE} {st us : List Nat}, EvL ta σ G (vn st) → EvL tb σ G (vn us) → stB st = true ∧ okB st (us.map fun (n : Nat) => (n : Int)) = true ∧ us.length = st.length ∧ st.length ≤ 4000 → EvL (tCall (spFromStepsK K) [] E (tCons ta (tCons tb tNil))) σ G (vn (fsteps st (us.map fun (n : Nat) => (n : Int)))) := fun h1 h2 ⟨b1, b2, b3, b4⟩ => el_callL2 h1 h2 fun p q G2 e hp hq => sl_from0 (sq_of hp) (by rw [← vn_vi]; exact sq_of hq) (stB_iff.mp b1) b4 (by rw [List.length_map]; exact b3) (okB_iff.mp b2)
  refine q_when (b := false || false) (et_or (fls (ev_neNLL (ms := [0, 0]) (fr (st := [0, 1]) (us := [0, 1]) (l2 rfl rfl) (l2 rfl rfl) (by decide +kernel)) (l2 rfl rfl)) (by decide +kernel)) fun _ => fls (ev_neNLL (ms := [0, 1]) (fr (st := [0, 1]) (us := [0, 0]) (l2 rfl rfl) (l2 rfl rfl) (by decide +kernel)) (l2 rfl rfl)) (by decide +kernel)) (fun z => nomatch z) fun _ H3 e3 => ?_
  refine q_when (b := false || false) (et_or (fls (ev_neNLL (ms := [1, 0]) (fr (st := [1, 0]) (us := [0, 0]) (l2 rfl rfl) (l2 rfl rfl) (by decide +kernel)) (l2 rfl rfl)) (by decide +kernel)) fun _ => fls (ev_neNLL (ms := []) (fr (st := []) (us := []) el_nilN el_nilN (by decide +kernel)) el_nilN) (by decide +kernel)) (fun z => nomatch z) fun _ H4 e4 => ?_
  obtain ⟨w0, w1, w2, w3, w4, w5, w6, w7, rfl⟩ := len8 hJE
  have eDE := eBD.trans ((Ex.n (e1.trans e2)).trans (eE.trans (Ex.n (e3.trans e4))))
  refine q_asgD (d := .list (cs7.map dCf)) (by repeat (first | exact eds_nil | exact ed_i | exact ed_s | exact ed_b | exact ed_n | exact ed_neg | refine eds_cons ?_ ?_ | refine ed_lst ?_ | refine ed_tup ?_)) fun v5 H5 e5 hv5 => ?_
  refine q_asgD (d := .list ((cs7 ++ cs8).map dCf)) (by rw [List.map_append]; exact ed_cat (ed_var rfl hv5) (by repeat (first | exact eds_nil | exact ed_i | exact ed_s | exact ed_b | exact ed_n | exact ed_neg | refine eds_cons ?_ ?_ | refine ed_lst ?_ | refine ed_tup ?_)) (by decide)) fun v6 H6 e6 hv6 => ?_
  refine q_forDN (J := fun σ => σ.length = 8) (tabs_ex hTE ((e3.trans e4).trans (e5.trans e6))) (ed_var rfl hv6) rfl (fun d hd v σ' H' N hv hJ eN hT' hN => ?_) fun σF HF hJF eF hTF => ?_
  · obtain ⟨c, hc, rfl⟩ := List.mem_map.mp hd
    obtain ⟨v0, v1, v2, v3, v4, v5, v6, v7, rfl⟩ := len8 hJ
    obtain ⟨h, c5⟩ := cf_ok c hc
    refine g_tup2 hv fun x y hx hy => ?_
    obtain ⟨a, rfl, ha⟩ := Dw.nats hx
    obtain ⟨b, rfl, hb⟩ := Dw.ints hy
    refine s_lamNe hT' X3 (by decide) (by decide) (fun H4 e4 => eap_of (ea_cons (ev_var rfl) (ea_cons (ev_var rfl) ea_nil))) (fun vs H4 Q4 E4 e4 hvs qE => ?_) fun H4 e4 T4 => hN _ _ rfl e4 T4
    subst hvs
    have ha4 := exn_lst e4 ha
    have hb4 := exn_lst e4 hb
    rcases h with ⟨c1, c2, c3⟩ | ⟨c1, c2⟩ | c1
    · exact .inl ⟨a, b, c.1, c.2, rfl, sq_of ha4, sq_of hb4, stB_iff.mp c1, c5, c2, (fun o => by rw [okB_iff.mpr o] at c3; cases c3), fun _ => qE⟩
    · exact .inr ⟨_, _, rfl, qE, .inr ⟨a, c.1, .lst (vi c.2), rfl, sq_of ha4, stB_iff.mp c1, c5, ⟨b, rfl, sq_of hb4⟩, .inr ⟨_, _, rfl, allK_ints c.2, .inl (by rw [List.length_map]; exact c2)⟩⟩⟩
    · exact .inr ⟨_, _, rfl, qE, .inl ⟨.lst (vn c.1), ⟨a, rfl, sq_of ha4⟩, .inr ⟨_, rfl, by rw [List.length_map]; exact c5, .inr ⟨_, vn_vi c.1, c1⟩⟩⟩⟩
  have eEF := eDE.trans ((Ex.n (e5.trans e6)).trans eF)
  exact ⟨rfl, hTF, fun H9 e9 T9 => q H9 (eEF.trans e9) T9⟩
end
end Pk
namespace Pk
open PySem PySem.Spec PyProof.Rows L2 Evl He
section
variable {P : Program} {w : World} {K : PySem.W.Frag} {mg : Str → Option Value} {base : Heap}
open SX (S)
/-! ### _law_promises_right_more1 -/
theorem dwOne {H : Hp} {vs : List V} {d : PyData} (h : DwAll H vs [d]) : ∃ x, vs = [x] ∧ Dw H x d := by
  cases h with
  | cons h1 h2 => cases h2; exact ⟨_, rfl, h1⟩
theorem dwTwo {H : Hp} {vs : List V} {d e : PyData} (h : DwAll H vs [d, e]) : ∃ x y, vs = [x, y] ∧ Dw H x d ∧ Dw H y e := by
  cases h with
  | cons h1 h2 => cases h2 with
    | cons h3 h4 => cases h4; exact ⟨_, _, rfl, h1, h3⟩
theorem el_callLV {σ : L2.St} {H : Hp} {te tb : TE} {v : V} {sp : Sp} {E : XK} {xs ys : List V} (h : EvL te σ H xs) (h2 : Ev tb σ H v) (hs : ∀ p H1, Ex H H1 → H1 p = some (.lst xs) → SpL sp [.ref p, v] H1 ys) : EvL (tCall sp [] E (tCons te (tCons tb tNil))) σ H ys :=
  el_callP (eap_consL h (eap_cons h2 eap_nil)) fun vs H1 e hv => by
    obtain ⟨p, ws, rfl, _, hp, ws2, rfl, rfl⟩ := hv
    exact hs p H1 e hp
theorem and_go {σ : L2.St} {H : Hp} {ta tb : TE} {Q : VK} (h : Ev ta σ H (.bl true)) (k : ∀ H1, Ex H H1 → tb σ H1 Q) : tAndV ta tb σ H Q := h H (Ex.refl H) _ fun H1 e => ⟨true, rfl, by rw [if_pos rfl]; exact k H1 e⟩
theorem el_p2 {σ : L2.St} {G : Hp} {i j : Int} {m n : Nat} (h1 : V.int i = nat m) (h2 : V.int j = nat n) : EvL (tLst (tCons (tC (.int i)) (tCons (tC (.int j)) tNil))) σ G (vn [m, n]) := el_lst (vs := vn [_, _]) (ea_cons (ev_is ev_c h1) (ea_cons (ev_is ev_c h2) ea_nil)) (by show 2 ≤ 100000; decide)
theorem ev_fldP' {σ : L2.St} {H : Hp} {ta : TE} {f : Str} {v : V} {Φ : V → Hp → Prop} (ha : EvP ta σ H Φ) (hf : ∀ x H1, Ex H H1 → Φ x H1 → ∃ a C dx fs, x = .ref a ∧ H1 a = some (.ins C dx fs) ∧ Cls K C ∧ NoAttr K C f ∧ fs.lookup f = some v) : Ev (tFld K ta f) σ H v := fun H1 e Q q =>
  ha H1 e _ fun x H2 e2 hx => by
    obtain ⟨a, C, dx, fs, rfl, h1, h2, h3, h4⟩ := hf x H2 (e.trans e2) hx
    exact ⟨a, C, dx, fs, v, rfl, h1, h2, h3, h4, q H2 e2⟩
def csT : List (List Nat × Nat) := [([2, 2], 1), ([0, 0], 0), ([], 0), ([1, 2], 2), ([1], 1), ([0], 0), ([3, 3, 3], 1)]
def dCu (c : List Nat × Nat) : PyData := .tuple [.list (dN c.1), .int (c.2 : Nat)]
theorem cu_ok : ∀ c ∈ csT, ltB (c.1.length + 1) c.1 = true ∧ c.1.length - emptyOf c.1 = c.2 ∧ fullB (turnI c.1 (c.2 : Nat)) = true ∧ ¬ (drv (turnI c.1 (c.2 : Nat)) < 0) ∧ c.1.length ≤ 100 := by decide +kernel
theorem tooD {H : Hp} {v : V} {ws : List Nat} {sp : Sp} {Q : VK} {E : XK} (hv : Dw H v (.list (dN ws))) (hl : ltB ws.length ws = true ∧ fullB ws = false) (hs : ∀ a, v = .ref a → SqL K H a (vn ws) → (∀ x ∈ ws, x < ws.length) → ¬ Full ws → sp [v] H Q E) : sp [v] H Q E := by
  obtain ⟨a, rfl, ha⟩ := hv.nats
  exact hs a rfl (sq_of ha) (ltB_iff.mp hl.1) fun F => by rw [fullB_iff.mpr F] at hl; cases hl.2
theorem ok_law_promises_right_more1 {T : TabT} {fd fd0 fd1 fd2 fd3 fd4 fd5 fd6 fd7 fd8 : FuncData} (F : FnP K "_law_promises_right_more1" s_law_promises_right_more1 fd) (C0 : Cal P w K mg base CX0 7 "_law_standings_promises" P_law_standings_promises (spXN T) fd0)
    (C1 : Cal P w K mg base (L2N.CX P w) 4 "drives" P_drives (orBadL K mW (spDrives K)) fd1) (C2 : Cal P w K mg base (L2N.CX P w) 4 "path" P_path (orBadL K mW (spPath K)) fd2) (C3 : Cal P w K mg base (L2N.CX P w) 3 "ring" P_ring (orBad K (spRing K)) fd3) (C4 : Cal P w K mg base (L2N.CX P w) 4 "tree" P_tree (orBadL K mW (spTree K)) fd4)
    (C5 : Cal P w K mg base (L2N.CX P w) 3 "turned" P_turned (spTurnedK K) fd5) (C6 : Cal P w K mg base (L2N.CX P w) 4 "turning" P_turning (orBadL K mT (spTurning K)) fd6) (NO : NoD K mg base s_law_no_of N_law_no_of) (LT : LamT K mg base T "_law_promises_right_more1" s_law_promises_right_more1)
    (M1 : MkF P w K mg base "Crowd" 1 P_Crowd_init (spCrowdI K) fd7) (M2 : MkF P w K mg base "Parked" 1 P_Parked_init (spParkedI K) fd8) (TW : Two K) (X1 : ErrX K "BadWishes") (X2 : ErrX K "TooMany") : FnOk P w K mg base CX0 8 (ga K "_law_promises_right_more1") fd P_law_promises_right_more1 (spXN T) := by
  refine FnP.okL F sc_law_promises_right_more1 (fun vs H Q E h => ?_) (fun A outer s H vs Q E hr h => ⟨der_law_promises_right_more1 C0 C1 C2 C3 C4 C5 C6 NO LT M1 M2 hr, ?_⟩)
  · obtain ⟨rfl, _⟩ := h; rfl
  obtain ⟨rfl, hT, q⟩ := h
  unfold der_law_promises_right_more1; dsimp only
  refine q_lamNe (Φ := fun vs H2 => DwAll H2 vs [.int 1, .list (dN [0, 1])]) hT X1 (by decide) (by decide) (fun H4 e4 => by repeat (first | exact eds_nil | exact ed_i | exact ed_s | exact ed_b | exact ed_n | exact ed_neg | refine eds_cons ?_ ?_ | refine ed_lst ?_ | refine ed_tup ?_)) (fun vs H4 Q4 E4 e4 hvs qE => ?_) fun H0 e0 T0 => ?_
  · obtain ⟨x, y, rfl, hx, hy⟩ := dwTwo hvs
    cases hx
    exact .inr ⟨_, _, rfl, badAsk_y hy (by decide) (Nat.le_of_ble_eq_true rfl), qE⟩
  refine q_forDN (ds := csT.map dCu) (J := fun σ => σ.length = 2) T0 (by repeat (first | exact eds_nil | exact ed_i | exact ed_s | exact ed_b | exact ed_n | exact ed_neg | refine eds_cons ?_ ?_ | refine ed_lst ?_ | refine ed_tup ?_)) rfl (fun d hd v σ' H' N hv hJ eN hT' hN => ?_) fun σA HA hJA eA hTA => ?_
  · obtain ⟨c, hc, rfl⟩ := List.mem_map.mp hd
    obtain ⟨v0, v1, rfl⟩ : ∃ v0 v1, σ' = [v0, v1] := by
      match σ', hJ with
      | [v0, v1], _ => exact ⟨v0, v1, rfl⟩
    obtain ⟨c1, c2, c3, c4, c5⟩ := cu_ok c hc
    refine g_tup2 hv fun x y hx hy => ?_
    obtain ⟨a, rfl, ha⟩ := Dw.nats hx
    cases hy
    have hw := ltB_iff.mp c1
    have FT := fullB_iff.mp c3
    refine s_when (b := false || false) (et_or (fls (ev_neInt (i := ((c.1.length - emptyOf c.1 : Nat) : Int)) (j := ((c.2 : Nat) : Int)) (ev_call (vs := [.ref a]) (ea_cons (ev_var rfl) ea_nil) (orBadL_v (sv_turning (sq_of ha) (by omega) hw))) (ev_var rfl)) (nb (by rw [c2]))) fun _ => fls (ev_cmp (i := drv (turnI c.1 (c.2 : Nat))) (j := 0) (ev_callL1 (el_call (vs := [.ref a, .int (c.2 : Nat)]) (ea_cons (ev_var rfl) (ea_cons (ev_var rfl) ea_nil)) (sl_turned0 (sq_of ha) (by omega) hw)) fun p H1 e hp => sv_drives0 (sq_of hp) (by rw [turnI_len]; omega) FT) ev_c rfl) (decide_eq_false c4)) (fun z => nomatch z) fun _ H4 e4 => hN _ _ rfl (Ex.n e4) (tabs_ex hT' e4)
  have tn : ∀ {σ : L2.St} {G : Hp} {E : XK} {ta tb : TE} {b : Int} {ws ms : List Nat}, EvL ta σ G (vn ws) → Ev tb σ G (.int b) → ltB (ws.length + 1) ws = true ∧ ws.length ≤ 20000 ∧ turnI ws b = ms → EvL (tCall (spTurnedK K) [] E (tCons ta (tCons tb tNil))) σ G (vn ms) := fun h1 h2 ⟨b1, b2, b3⟩ => el_callLV h1 h2 fun p H1 e hp => by
    subst b3
    exact sl_turned0 (sq_of hp) b2 (ltB_iff.mp b1)
  refine q_when (b := false || (false || false)) (et_or (fls (ev_neNLL (ns := [0, 1]) (ms := [0, 1]) (tn (ws := [1, 2]) (b := 2) (el_p2 rfl rfl) ev_c (by decide +kernel)) (el_p2 rfl rfl)) (by decide)) fun _ => et_or (fls (ev_neNLL (ns := [2, 2]) (ms := [2, 2]) (tn (ws := [0, 0]) (b := -1) (el_p2 rfl rfl) (ev_un ev_c ru_neg) (by decide +kernel)) (el_p2 rfl rfl)) (by decide)) fun _ => fls (ev_neNLL (ns := [0, 0]) (ms := [0, 0]) (tn (ws := [0, 0]) (b := 3) (el_p2 rfl rfl) ev_c (by decide +kernel)) (el_p2 rfl rfl)) (by decide)) (fun z => nomatch z) fun _ H1 e1 => ?_
  refine q_when (b := false || false) (et_or (fls (ev_neNLL (ns := [1, 1]) (ms := [1, 1]) (tn (ws := [0, 0]) (b := 10 ^ (30 : Int).toNat) (el_p2 rfl rfl) (ev_op ev_c ev_c (rv_I ⟨by decide, by decide, by decide⟩)) (by decide +kernel)) (el_p2 rfl rfl)) (by decide)) fun _ => fls (ev_neNLL (ns := []) (ms := []) (tn (ws := []) (b := 5) el_nilN ev_c (by decide +kernel)) el_nilN) (by decide)) (fun z => nomatch z) fun _ H2 e2 => ?_
  have eZ := e0.trans (eA.trans (Ex.n (e1.trans e2)))
  refine q_lamNe (Φ := fun vs H2 => DwAll H2 vs [.list (dN [1, 1])]) (tabs_ex hTA (e1.trans e2)) X2 (by decide) (by decide) (fun H4 e4 => by repeat (first | exact eds_nil | exact ed_i | exact ed_s | exact ed_b | exact ed_n | exact ed_neg | refine eds_cons ?_ ?_ | refine ed_lst ?_ | refine ed_tup ?_)) (fun vs H4 Q4 E4 e4 hvs qE => ?_) fun H3 e3 T3 => ?_
  · obtain ⟨x, rfl, hx⟩ := dwOne hvs
    exact tooD hx (by decide +kernel) fun a ha hS hw nF => by subst ha; exact .inl ⟨a, [1, 1], rfl, hS, by decide, hw, (fun F => absurd F nF), fun _ => qE⟩
  refine q_lamNe (Φ := fun vs H2 => DwAll H2 vs [.list (dN [2, 0])]) T3 X1 (by decide) (by decide) (fun H4 e4 => by repeat (first | exact eds_nil | exact ed_i | exact ed_s | exact ed_b | exact ed_n | exact ed_neg | refine eds_cons ?_ ?_ | refine ed_lst ?_ | refine ed_tup ?_)) (fun vs H4 Q4 E4 e4 hvs qE => ?_) fun H4 e4 T4 => ?_
  · obtain ⟨x, rfl, hx⟩ := dwOne hvs
    exact .inr ⟨x, rfl, badL_of hx (by decide) (Nat.le_of_ble_eq_true rfl), qE⟩
  refine q_lamNe (Φ := fun vs H2 => DwAll H2 vs [.list (dN [1, 1])]) T4 X2 (by decide) (by decide) (fun H4 e4 => by repeat (first | exact eds_nil | exact ed_i | exact ed_s | exact ed_b | exact ed_n | exact ed_neg | refine eds_cons ?_ ?_ | refine ed_lst ?_ | refine ed_tup ?_)) (fun vs H4 Q4 E4 e4 hvs qE => ?_) fun H5 e5 T5 => ?_
  · obtain ⟨x, rfl, hx⟩ := dwOne hvs
    exact tooD hx (by decide +kernel) fun a ha hS hw nF => by subst ha; exact .inl ⟨a, [1, 1], rfl, hS, by decide, hw, (fun F => absurd F nF), fun _ => qE⟩
  refine q_lamNe (Φ := fun vs H2 => DwAll H2 vs [.list (dN [5, 5])]) T5 X1 (by decide) (by decide) (fun H4 e4 => by repeat (first | exact eds_nil | exact ed_i | exact ed_s | exact ed_b | exact ed_n | exact ed_neg | refine eds_cons ?_ ?_ | refine ed_lst ?_ | refine ed_tup ?_)) (fun vs H4 Q4 E4 e4 hvs qE => ?_) fun H6 e6 T6 => ?_
  · obtain ⟨x, rfl, hx⟩ := dwOne hvs
    exact .inr ⟨x, rfl, badL_of hx (by decide) (Nat.le_of_ble_eq_true rfl), qE⟩
  have l9 : ∀ {σ : L2.St} {G : Hp}, EvL (tLst (tCons (tC (.int 9)) (tCons (tUn (rU fun i => .int (-i)) (tC (.int 1))) tNil))) σ G (vi [9, -1]) := el_lst (vs := vi [9, -1]) (ea_cons ev_c (ea_cons (ev_un ev_c ru_neg) ea_nil)) (by decide)
  refine and_go (fun G1 g1 Q1 k1 => ?_) fun H7 e7 => and_go (ev_is (ev_eqInt (i := -7) (j := -7) (ev_fldP' (v := .int (-7)) (ep_makeC (i := -7) (ea_cons (ev_un ev_c ru_neg) ea_nil)) fun x H5 e5 hc => by
    obtain ⟨y, dy, rfl, hy⟩ := hc
    exact ⟨y, _, dy, _, rfl, hy, TW.cC, TW.nC, rfl⟩) (ev_un ev_c ru_neg)) rfl) fun H8 e8 => ?_
  · unfold tOp tFld
    refine ep_makeP (K := K) (σ := σA) (H := H6) (xs := vi [9, -1]) ((eap_consL l9 eap_nil).to fun vs H2 hv => ?_) G1 g1 _ fun v G2 g2 hv => ?_
    · obtain ⟨p, ws, rfl, _, hp, rfl⟩ := hv
      exact ⟨p, rfl, sq_of hp⟩
    · obtain ⟨x, l, _, _, rfl, dx, h3, h4⟩ := hv
      exact ⟨x, _, dx, _, .ref l, rfl, h3, TW.cP, TW.nP, rfl, (l9 (σ := σA) (G := G2)) G2 (Ex.refl G2) _ fun p G3 hp g3 h5 => rv_eqI (sq_of (g3 _ _ h4)) (sq_of h5) G3 (Ex.refl G3) _ fun G4 g4 => k1 G4 (g2.trans (g3.trans g4))⟩
  · have e78 := e7.trans e8
    have eX := eZ.trans (e3.trans (e4.trans (e5.trans (e6.trans (Ex.n e78)))))
    exact ⟨rfl, tabs_ex T6 e78, fun H9 e9 T9 => q H9 (eX.trans e9) T9⟩
end
end Pk
namespace Pk
open PySem PySem.Spec PyProof.Rows L2 Evl He
section
variable {P : Program} {w : World} {K : PySem.W.Frag} {mg : Str → Option Value} {base : Heap}
open SX (S)
/-! ### _law_promises_right -/
def GotF (K : PySem.W.Frag) (H0 H : Hp) (v : V) (p : Nat) (ws : List Nat) : Prop := (crowd p ws < 0 ∧ ∃ x l, H0 x = none ∧ H0 l = none ∧ IsParked K H v x l (vn (whereL p ws))) ∨ (0 ≤ crowd p ws ∧ IsCrowd K H v (crowd p ws))
theorem ep_parkedK {σ : L2.St} {H : Hp} {E : XK} {ta : TA} {p : Nat} {a : Addr} {ws : List Nat} (ha : EvA ta σ H [nat p, .ref a]) (h : SqL K H a (vn ws)) (hp1 : 1 ≤ p) (hp : p ≤ 30000) (hl : ws.length ≤ 40000) (hw : ∀ x ∈ ws, x < p) : EvP (tCall (orBad K (spParked K)) [] E ta) σ H (fun v H2 => GotF K H H2 v p ws) :=
  ep_call ha fun H1 e Q q E => .inl ⟨p, a, ws, rfl, ex_l e h, hp1, hp, hl, hw, fun hc x l v H2 e2 hx hl2 hP => q v H2 e2 (.inl ⟨hc, x, l, fresh_back e hx, fresh_back e hl2, hP⟩), fun hc v H2 e2 hC => q v H2 e2 (.inr ⟨hc, hC⟩)⟩
theorem ev_isV {σ : L2.St} {H : Hp} {ta : TE} {x y : Str} {b : Bool} {a dx : Addr} {fs : List (Str × V)} {ys : List (Str × Bool)} (h : Ev ta σ H (.ref a)) (h1 : H a = some (.ins (ga K x) dx fs)) (I : InsX K x ys) (hm : (y, b) ∈ ys) : Ev (tCB (rIsI K) (tCons ta (tCons (tC (.ref (ga K y))) tNil))) σ H (.bl b) := fun H1 e Q q =>
  h H1 e _ fun H2 e2 => ⟨a, x, ys, dx, fs, y, b, rfl, (e.trans e2) _ _ h1, I, hm, q H2 e2⟩
theorem ev_lenEL {σ : L2.St} {H : Hp} {te : TE} {xs : List V} {n : Nat} (h : EvL te σ H xs) (hn : xs.length = n) : Ev (tCB (rLenS K) (tCons te tNil)) σ H (nat n) := fun H1 e Q q =>
  h H1 e _ fun p H2 hp e2 h2 => (ev_lenS (K := K) (ta := tC (.ref p)) (σ := σ) (H := H2) ev_c (sq_of h2) hn) H2 (Ex.refl H2) Q fun H3 e3 => q H3 (e2.trans e3)
theorem ev_notNone {σ : L2.St} {H : Hp} {ta tb : TE} {x : V} (ha : Ev ta σ H x) (hb : Ev tb σ H .non) : Ev (tOp (fun x y H Q => y = .non ∧ Q (.bl (!decide (x = .non))) H) ta tb) σ H (.bl (!decide (x = .non))) := ev_op ha hb fun H1 e Q q => ⟨rfl, q H1 (Ex.refl H1)⟩
theorem len7 {σ : L2.St} (h : σ.length = 7) : ∃ v0 v1 v2 v3 v4 v5 v6, σ = [v0, v1, v2, v3, v4, v5, v6] := by
  match σ, h with
  | [v0, v1, v2, v3, v4, v5, v6], _ => exact ⟨v0, v1, v2, v3, v4, v5, v6, rfl⟩
def plD : Option Nat → PyData
  | some i => .int (i : Nat)
  | none => .none
def cp1 : List (Nat × (List Nat × Option Nat)) := [(2, ([0, 0, 0], some 0)), (3, ([2, 2], some 2)), (1, ([0, 0], some 0)), (4, ([3, 1, 3], some 3))]
def cp2 : List (Nat × (List Nat × Option Nat)) := [(3, ([2, 1, 2], none))]
def dCp (c : Nat × (List Nat × Option Nat)) : PyData := .tuple [.int (c.1 : Nat), .list (dN c.2.1), plD c.2.2]
theorem cp_ok : ∀ c ∈ cp1 ++ cp2, 1 ≤ c.1 ∧ c.1 ≤ 30000 ∧ c.2.1.length ≤ 40000 ∧ ltB c.1 c.2.1 = true ∧ 0 ≤ crowd c.1 c.2.1 ∧ (c.2.2 = none ∨ (c.2.2 = some (crowd c.1 c.2.1).toNat ∧ ((crowd c.1 c.2.1).toNat : Int) = crowd c.1 c.2.1)) ∧ decide ((((c.2.1.filter fun (w : Nat) => decide (crowd c.1 c.2.1 ≤ (w : Int))).length : Nat) : Int) ≤ (c.1 : Int) - crowd c.1 c.2.1) = false := by decide +kernel
def cq1 : List (Nat × (List Nat × List Nat)) := [(3, ([], [])), (3, ([2], [2])), (3, ([0, 0, 0], [0, 1, 2])), (2, ([1, 0], [1, 0]))]
def cq2 : List (Nat × (List Nat × List Nat)) := [(5, ([1, 1, 0, 1], [1, 2, 0, 3])), (2000, ([1999], [1999]))]
def dCq (c : Nat × (List Nat × List Nat)) : PyData := .tuple [.int (c.1 : Nat), .list (dN c.2.1), .list (dN c.2.2)]
theorem cq_ok : ∀ c ∈ cq1 ++ cq2, 1 ≤ c.1 ∧ c.1 ≤ 30000 ∧ c.2.1.length ≤ 40000 ∧ ltB c.1 c.2.1 = true ∧ crowd c.1 c.2.1 < 0 ∧ whereL c.1 c.2.1 = c.2.2 ∧ (tkn c.2.1 c.1).Perm c.2.2 ∧ (tkn c.2.1 c.1).Pairwise (fun a b => a ≤ b) ∧ offL c.1 (whereL c.1 c.2.1) = [] := by decide +kernel
def lim (p : Nat) (ws : List Nat) : Prop := 1 ≤ p ∧ p ≤ 30000 ∧ ws.length ≤ 40000 ∧ ltB p ws = true
instance (p : Nat) (ws : List Nat) : Decidable (lim p ws) := by unfold lim; infer_instance
theorem ok_law_promises_right {T : TabT} {fd fd0 fd1 fd2 fd3 fd4 fd5 : FuncData} (F : FnP K "_law_promises_right" s_law_promises_right fd) (B : Bi mg) (C0 : Cal P w K mg base CX0 8 "_law_promises_right_more1" P_law_promises_right_more1 (spXN T) fd0)
    (C1 : Cal P w K mg base (L2N.CX P w) 3 "driven_off" P_driven_off (orBad K (spOff K)) fd1) (C2 : Cal P w K mg base (L2N.CX P w) 3 "lucky" P_lucky (orBad K (spLuck K)) fd2) (C3 : Cal P w K mg base (L2N.CX P w) 3 "parked" P_parked (orBad K (spParked K)) fd3) (C4 : Cal P w K mg base (L2N.CX P w) 3 "ring" P_ring (orBad K (spRing K)) fd4) (C5 : Cal P w K mg base (L2N.CX P w) 3 "taken" P_taken (orBad K (spTaken K)) fd5)
    (NO : NoD K mg base s_law_no_of N_law_no_of) (LT : LamT K mg base T "_law_promises_right" s_law_promises_right) (g1 : mg "Crowd" = some (.ref (ga K "Crowd"))) (g2 : mg "Parked" = some (.ref (ga K "Parked"))) (TW : Two K) (X2 : ErrX K "TooMany") : FnOk P w K mg base CX0 9 (ga K "_law_promises_right") fd P_law_promises_right (spXN T) := by
  refine FnP.okL F sc_law_promises_right (fun vs H Q E h => ?_) (fun A outer s H vs Q E hr h => ⟨der_law_promises_right B C0 C1 C2 C3 C4 C5 NO LT g1 g2 hr, ?_⟩)
  · obtain ⟨rfl, _⟩ := h; rfl
  obtain ⟨rfl, hT, q⟩ := h
  unfold der_law_promises_right; dsimp only
  refine q_asgD (d := .list (cp1.map dCp)) (by repeat (first | exact eds_nil | exact ed_i | exact ed_s | exact ed_b | exact ed_n | exact ed_neg | refine eds_cons ?_ ?_ | refine ed_lst ?_ | refine ed_tup ?_)) fun v1 H1 e1 hv1 => ?_
  refine q_asgD (d := .list ((cp1 ++ cp2).map dCp)) (by rw [List.map_append]; exact ed_cat (ed_var rfl hv1) (by repeat (first | exact eds_nil | exact ed_i | exact ed_s | exact ed_b | exact ed_n | exact ed_neg | refine eds_cons ?_ ?_ | refine ed_lst ?_ | refine ed_tup ?_)) (by decide)) fun v2 H2 e2 hv2 => ?_
  refine q_forDN (J := fun σ => σ.length = 7) (tabs_ex hT (e1.trans e2)) (ed_var rfl hv2) rfl (fun d hd v σ' H' N hv hJ eN hT' hN => ?_) fun σA HA hJA eA hTA => ?_
  · obtain ⟨c, hc, rfl⟩ := List.mem_map.mp hd
    obtain ⟨v0, v1, v2, v3, v4, v5, v6, rfl⟩ := len7 hJ
    obtain ⟨c1, c2, c3, c4, c5, c6, c7⟩ := cp_ok c hc
    refine g_tup3 hv fun x y z hx hy hz => ?_
    cases hx
    obtain ⟨a, rfl, ha⟩ := Dw.nats hy
    refine q_asgP (ep_parkedK (p := c.1) (ws := c.2.1) (ea_cons (ev_var rfl) (ea_cons (ev_var rfl) ea_nil)) (sq_of ha) c1 c2 c3 (ltB_iff.mp c4)) fun u H3 e3 hu => ?_
    rcases hu with ⟨n, _⟩ | ⟨_, x, dx, rfl, hx⟩
    · omega
    have ha3 := e3 _ _ ha
    have tz : ∃ bb, (!true || bb) = false ∧ EvT (tAnd (tTest (tOp (fun x y H Q => y = .non ∧ Q (.bl (!decide (x = .non))) H) (tVar 3) (tC .non))) (tTest (tOp rNe (tFld K (tVar 4) "place") (tVar 3)))) [v0, some (.int (c.1 : Nat)), some (.ref a), some z, some (.ref x), v5, v6] H3 bb := by
      rcases c6 with c6 | ⟨c6, c8⟩
      · rw [c6] at hz
        cases hz
        exact ⟨_, rfl, et_and (a := false) (b := false) (et_test (ev_is (ev_notNone (x := .non) (ev_var rfl) ev_c) (by decide))) fun z => nomatch z⟩
      · rw [c6] at hz
        cases hz
        exact ⟨_, rfl, et_and (a := true) (b := false) (et_test (ev_is (ev_notNone (x := .int _) (ev_var rfl) ev_c) (by rw [decide_eq_false (fun z => by cases z)]; rfl))) fun _ => fls (ev_neInt (i := crowd c.1 c.2.1) (ev_fld (ev_var rfl) hx TW.cC TW.nC rfl) (ev_var rfl)) (nb c8.symm)⟩
    obtain ⟨bb, hbb, tz⟩ := tz
    refine q_when (b := !true || bb) (et_or (et_not (et_B (ev_isV (ev_var rfl) hx TW.iC (by decide)))) fun _ => tz) (fun z => by rw [hbb] at z; cases z) fun _ H4 e4 => ?_
    refine s_when (b := false) (fls (ev_cmp (i := (((c.2.1.filter fun (w : Nat) => decide (crowd c.1 c.2.1 ≤ (w : Int))).length : Nat) : Int)) (j := (c.1 : Int) - crowd c.1 c.2.1) (ev_lenEL (el_lsF nat (fun (w : Nat) => decide (crowd c.1 c.2.1 ≤ (w : Int))) nat (ev_var rfl) (ex_l e4 (sq_of ha3)) c3 (fun _ => rfl) (fun i y H5 e5 hy => et_test (ev_cmp (i := (y : Int)) (j := crowd c.1 c.2.1) (ev_var rfl) (ev_fld (ev_var rfl) ((e4.trans e5) _ _ hx) TW.cC TW.nC rfl) rfl)) fun i y H5 e5 hy _ => ev_var rfl) (List.length_map ..)) (ev_sub (ev_var rfl) (ev_fld (ev_var rfl) (e4 _ _ hx) TW.cC TW.nC rfl) rfl) rfl) c7) (fun z => nomatch z) fun _ H5 e5 => hN _ _ rfl (Ex.n (e3.trans (e4.trans e5))) (tabs_ex hT' (e3.trans (e4.trans e5)))
  obtain ⟨w0, w1, w2, w3, w4, w5, w6, rfl⟩ := len7 hJA
  have eA' := (Ex.n (e1.trans e2)).trans eA
  refine q_asgD (d := .list (cq1.map dCq)) (by repeat (first | exact eds_nil | exact ed_i | exact ed_s | exact ed_b | exact ed_n | exact ed_neg | refine eds_cons ?_ ?_ | refine ed_lst ?_ | refine ed_tup ?_)) fun v1 H1 e1 hv1 => ?_
  refine q_asgD (d := .list ((cq1 ++ cq2).map dCq)) (by rw [List.map_append]; exact ed_cat (ed_var rfl hv1) (by repeat (first | exact eds_nil | exact ed_i | exact ed_s | exact ed_b | exact ed_n | exact ed_neg | refine eds_cons ?_ ?_ | refine ed_lst ?_ | refine ed_tup ?_)) (by decide)) fun v2 H2 e2 hv2 => ?_
  refine q_forDN (J := fun σ => σ.length = 7) (tabs_ex hTA (e1.trans e2)) (ed_var rfl hv2) rfl (fun d hd v σ' H' N hv hJ eN hT' hN => ?_) fun σB HB hJB eB hTB => ?_
  · obtain ⟨c, hc, rfl⟩ := List.mem_map.mp hd
    obtain ⟨v0, v1, v2, v3, v4, v5, v6, rfl⟩ := len7 hJ
    obtain ⟨c1, c2, c3, c4, c5, c6, c7, c8, c9⟩ := cq_ok c hc
    have hw := ltB_iff.mp c4
    refine g_tup3 hv fun x y z hx hy hz => ?_
    cases hx
    obtain ⟨a, rfl, ha⟩ := Dw.nats hy
    obtain ⟨b, rfl, hb⟩ := Dw.nats hz
    refine q_asgP (ep_parkedK (p := c.1) (ws := c.2.1) (ea_cons (ev_var rfl) (ea_cons (ev_var rfl) ea_nil)) (sq_of ha) c1 c2 c3 hw) fun u H3 e3 hu => ?_
    rcases hu with ⟨_, x, l, _, _, rfl, dx, hx, hl⟩ | ⟨n, _⟩
    rotate_left
    · omega
    have ha3 := e3 _ _ ha
    have hb3 := e3 _ _ hb
    refine q_when (b := !true || (false || false)) (et_or (et_not (et_B (ev_isV (ev_var rfl) hx TW.iP (by decide)))) fun _ => et_or (fls (ev_neN (ev_fld (ev_var rfl) hx TW.cP TW.nP rfl) (ev_var rfl) (sq_of hl) (sq_of hb3)) (nb c6)) fun _ =>
      fls (b := !decide ((tkn c.2.1 c.1).map (fun (n : Nat) => (n : Int)) = isort (c.2.2.map fun (n : Nat) => (n : Int)))) (ev_opLL (el_call (vs := [nat c.1, .ref a]) (ea_cons (ev_var rfl) (ea_cons (ev_var rfl) ea_nil)) (orBad_l (sl_taken (sq_of ha3) c1 (by omega) c3 hw))) (el_sorted (ns := c.2.2.map fun (n : Nat) => (n : Int)) (ev_var rfl) (by rw [← vn_vi]; exact sq_of hb3)) fun p q G hp hq e => rv_neI (by rw [← vn_vi]; exact sq_of hp) (sq_of hq)) (nb (isort_is (c7.map _) (List.pairwise_map.mpr (c8.imp fun {a b} h => Int.ofNat_le.mpr h))).symm)) (fun z => nomatch z) fun _ H4 e4 => ?_
    refine s_when (b := false) (fls (ev_neNLL (ms := []) (el_call (vs := [nat c.1, .ref a]) (ea_cons (ev_var rfl) (ea_cons (ev_var rfl) ea_nil)) (orBad_l (sl_off (ex_l e4 (sq_of ha3)) c1 c2 c3 hw))) el_nilN) (nb c9)) (fun z => nomatch z) fun _ H5 e5 => hN _ _ rfl (Ex.n (e3.trans (e4.trans e5))) (tabs_ex hT' (e3.trans (e4.trans e5)))
  have tk : ∀ {σ : L2.St} {G : Hp} {E : XK} {ta tb tc : TE} {p : Nat} {ws ms : List Nat}, Ev ta σ G (nat p) → EvL tb σ G (vn ws) → EvL tc σ G (vn ms) → lim p ws ∧ tkn ws p = ms → EvT (tTest (tOp (rNeD K) (tCall (orBad K (spTaken K)) [] E (tCons ta (tCons tb tNil))) tc)) σ G false := fun h1 h2 h3 ⟨⟨b1, b2, b3, b4⟩, b5⟩ => fls (ev_neNLL (el_callVL h1 h2 fun p H1 e hp => orBad_l (sl_taken (sq_of hp) b1 (by omega) b3 (ltB_iff.mp b4))) h3) (nb b5)
  have of : ∀ {σ : L2.St} {G : Hp} {E : XK} {ta tb tc : TE} {p : Nat} {ws ms : List Nat}, Ev ta σ G (nat p) → EvL tb σ G (vn ws) → EvL tc σ G (vn ms) → lim p ws ∧ offL p (whereL p ws) = ms → EvT (tTest (tOp (rNeD K) (tCall (orBad K (spOff K)) [] E (tCons ta (tCons tb tNil))) tc)) σ G false := fun h1 h2 h3 ⟨⟨b1, b2, b3, b4⟩, b5⟩ => fls (ev_neNLL (el_callVL h1 h2 fun p H1 e hp => orBad_l (sl_off (sq_of hp) b1 (by omega) b3 (ltB_iff.mp b4))) h3) (nb b5)
  have lu : ∀ {σ : L2.St} {G : Hp} {E : XK} {ta tb tc : TE} {p : Nat} {ws ms : List Nat}, Ev ta σ G (nat p) → EvL tb σ G (vn ws) → EvL tc σ G (vn ms) → lim p ws ∧ luckL ws (whereL p ws) = ms → EvT (tTest (tOp (rNeD K) (tCall (orBad K (spLuck K)) [] E (tCons ta (tCons tb tNil))) tc)) σ G false := fun h1 h2 h3 ⟨⟨b1, b2, b3, b4⟩, b5⟩ => fls (ev_neNLL (el_callVL h1 h2 fun p H1 e hp => orBad_l (sl_luck (sq_of hp) b1 (by omega) b3 (ltB_iff.mp b4))) h3) (nb b5)
  have ri : ∀ {σ : L2.St} {G : Hp} {E : XK} {ta tb tc : TE} {p : Nat} {ws ms : List Nat}, Ev ta σ G (nat p) → EvL tb σ G (vn ws) → EvL tc σ G (vn ms) → (lim p ws ∧ ws.length ≤ p) ∧ whereR p ws = ms → EvT (tTest (tOp (rNeD K) (tCall (orBad K (spRing K)) [] E (tCons ta (tCons tb tNil))) tc)) σ G false := fun h1 h2 h3 ⟨⟨⟨b1, b2, b3, b4⟩, b6⟩, b5⟩ => fls (ev_neNLL (el_callVL h1 h2 fun p H1 e hp => orBad_l (sl_ring (sq_of hp) b1 (by omega) b6 (ltB_iff.mp b4))) h3) (nb b5)
  refine q_when (b := false || (false || false)) (et_or (tk (p := 3) (ws := [1, 1]) (ms := [1, 2]) ev_c (by exact el_lst (by repeat (first | exact ea_nil | refine ea_cons ev_c ?_)) (Nat.le_of_ble_eq_true rfl)) (by exact el_lst (by repeat (first | exact ea_nil | refine ea_cons ev_c ?_)) (Nat.le_of_ble_eq_true rfl)) (by decide +kernel)) fun _ => et_or (of (p := 3) (ws := [2, 2, 0]) (ms := [1]) ev_c (by exact el_lst (by repeat (first | exact ea_nil | refine ea_cons ev_c ?_)) (Nat.le_of_ble_eq_true rfl)) (by exact el_lst (by repeat (first | exact ea_nil | refine ea_cons ev_c ?_)) (Nat.le_of_ble_eq_true rfl)) (by decide +kernel)) fun _ => lu (p := 3) (ws := [2, 2, 0]) (ms := [0, 2]) ev_c (by exact el_lst (by repeat (first | exact ea_nil | refine ea_cons ev_c ?_)) (Nat.le_of_ble_eq_true rfl)) (by exact el_lst (by repeat (first | exact ea_nil | refine ea_cons ev_c ?_)) (Nat.le_of_ble_eq_true rfl)) (by decide +kernel)) (fun z => nomatch z) fun _ H3 e3 => ?_
  refine q_when (b := false || (false || false)) (et_or (lu (p := 3) (ws := [0, 0, 1]) (ms := [0]) ev_c (by exact el_lst (by repeat (first | exact ea_nil | refine ea_cons ev_c ?_)) (Nat.le_of_ble_eq_true rfl)) (by exact el_lst (by repeat (first | exact ea_nil | refine ea_cons ev_c ?_)) (Nat.le_of_ble_eq_true rfl)) (by decide +kernel)) fun _ => et_or (tk (p := 3) (ws := [2, 2, 0]) (ms := [0, 2]) ev_c (by exact el_lst (by repeat (first | exact ea_nil | refine ea_cons ev_c ?_)) (Nat.le_of_ble_eq_true rfl)) (by exact el_lst (by repeat (first | exact ea_nil | refine ea_cons ev_c ?_)) (Nat.le_of_ble_eq_true rfl)) (by decide +kernel)) fun _ => lu (p := 1) (ws := []) (ms := []) ev_c (by exact el_lst (by repeat (first | exact ea_nil | refine ea_cons ev_c ?_)) (Nat.le_of_ble_eq_true rfl)) (by exact el_lst (by repeat (first | exact ea_nil | refine ea_cons ev_c ?_)) (Nat.le_of_ble_eq_true rfl)) (by decide +kernel)) (fun z => nomatch z) fun _ H4 e4 => ?_
  refine q_when (b := false || (false || false)) (et_or (tk (p := 2) (ws := [0, 0, 0]) (ms := [0, 1]) ev_c (by exact el_lst (by repeat (first | exact ea_nil | refine ea_cons ev_c ?_)) (Nat.le_of_ble_eq_true rfl)) (by exact el_lst (by repeat (first | exact ea_nil | refine ea_cons ev_c ?_)) (Nat.le_of_ble_eq_true rfl)) (by decide +kernel)) fun _ => et_or (of (p := 2) (ws := [0, 0, 0]) (ms := [2]) ev_c (by exact el_lst (by repeat (first | exact ea_nil | refine ea_cons ev_c ?_)) (Nat.le_of_ble_eq_true rfl)) (by exact el_lst (by repeat (first | exact ea_nil | refine ea_cons ev_c ?_)) (Nat.le_of_ble_eq_true rfl)) (by decide +kernel)) fun _ => of (p := 2) (ws := [1, 1, 1]) (ms := [1, 2]) ev_c (by exact el_lst (by repeat (first | exact ea_nil | refine ea_cons ev_c ?_)) (Nat.le_of_ble_eq_true rfl)) (by exact el_lst (by repeat (first | exact ea_nil | refine ea_cons ev_c ?_)) (Nat.le_of_ble_eq_true rfl)) (by decide +kernel)) (fun z => nomatch z) fun _ H5 e5 => ?_
  refine q_when (b := false) (tk (p := 2) (ws := [1, 1, 1]) (ms := [1]) ev_c (by exact el_lst (by repeat (first | exact ea_nil | refine ea_cons ev_c ?_)) (Nat.le_of_ble_eq_true rfl)) (by exact el_lst (by repeat (first | exact ea_nil | refine ea_cons ev_c ?_)) (Nat.le_of_ble_eq_true rfl)) (by decide +kernel)) (fun z => nomatch z) fun _ H6 e6 => ?_
  refine q_when (b := false || (false || (false || false))) (et_or (ri (p := 3) (ws := [2, 2]) (ms := [2, 0]) ev_c (by exact el_lst (by repeat (first | exact ea_nil | refine ea_cons ev_c ?_)) (Nat.le_of_ble_eq_true rfl)) (by exact el_lst (by repeat (first | exact ea_nil | refine ea_cons ev_c ?_)) (Nat.le_of_ble_eq_true rfl)) (by decide +kernel)) fun _ => et_or (ri (p := 3) (ws := [2, 2, 2]) (ms := [2, 0, 1]) ev_c (by exact el_lst (by repeat (first | exact ea_nil | refine ea_cons ev_c ?_)) (Nat.le_of_ble_eq_true rfl)) (by exact el_lst (by repeat (first | exact ea_nil | refine ea_cons ev_c ?_)) (Nat.le_of_ble_eq_true rfl)) (by decide +kernel)) fun _ => et_or (ri (p := 1) (ws := [0]) (ms := [0]) ev_c (by exact el_lst (by repeat (first | exact ea_nil | refine ea_cons ev_c ?_)) (Nat.le_of_ble_eq_true rfl)) (by exact el_lst (by repeat (first | exact ea_nil | refine ea_cons ev_c ?_)) (Nat.le_of_ble_eq_true rfl)) (by decide +kernel)) fun _ => ri (p := 3) (ws := []) (ms := []) ev_c (by exact el_lst (by repeat (first | exact ea_nil | refine ea_cons ev_c ?_)) (Nat.le_of_ble_eq_true rfl)) (by exact el_lst (by repeat (first | exact ea_nil | refine ea_cons ev_c ?_)) (Nat.le_of_ble_eq_true rfl)) (by decide +kernel)) (fun z => nomatch z) fun _ H7 e7 => ?_
  have e37 := e3.trans (e4.trans (e5.trans (e6.trans e7)))
  refine q_lamNe (Φ := fun vs H2 => DwAll H2 vs [.int 1, .list (dN [0, 0])]) (tabs_ex hTB e37) X2 (by decide) (by decide) (fun H4 e4 => by repeat (first | exact eds_nil | exact ed_i | exact ed_s | exact ed_b | exact ed_n | exact ed_neg | refine eds_cons ?_ ?_ | refine ed_lst ?_ | refine ed_tup ?_)) (fun vs H4 Q4 E4 e4 hvs qE => ?_) fun H8 e8 T8 => ?_
  · obtain ⟨x, y, rfl, hx, hy⟩ := dwTwo hvs
    cases hx
    obtain ⟨a, rfl, ha⟩ := Dw.nats hy
    exact .inl ⟨1, a, [0, 0], rfl, sq_of ha, by decide, by decide, by decide, by decide, (fun h => absurd h (by decide)), fun _ => qE⟩
  have eX := eA'.trans ((Ex.n (e1.trans e2)).trans (eB.trans ((Ex.n e37).trans e8)))
  exact ⟨rfl, T8, fun H9 e9 T9 => q H9 (eX.trans e9) T9⟩
end
end Pk
namespace Pk
open PySem PySem.Spec PyProof.Rows L2 Evl He
section
variable {P : Program} {w : World} {K : PySem.W.Frag} {mg : Str → Option Value} {base : Heap}
open SX (S)
/-! ### a full list's tree leads back to it -/
theorem mem_sv {ws : List Nat} {x : Nat} : ∀ {k : Nat}, x ∈ sv ws k ↔ x = 0 ∨ ∃ c, c < ws.length ∧ ws.getD c 0 < k ∧ x = c + 1
  | 0 => by
    constructor
    · intro h
      exact .inl (by simpa [sv] using h)
    · rintro (h | ⟨c, _, h, _⟩)
      · simp [sv, h]
      · omega
  | k + 1 => by
    show x ∈ sv ws k ++ chl ws k ↔ _
    rw [List.mem_append, mem_sv, mem_chl]
    constructor
    · rintro ((h | ⟨c, h1, h2, h3⟩) | ⟨c, h1, h2, h3⟩)
      · exact .inl h
      · exact .inr ⟨c, h1, by omega, h3⟩
      · exact .inr ⟨c, h1, by omega, h3.symm⟩
    · rintro (h | ⟨c, h1, h2, h3⟩)
      · exact .inl (.inl h)
      · by_cases q : ws.getD c 0 < k
        · exact .inl (.inr ⟨c, h1, q, h3⟩)
        · exact .inr ⟨c, h1, by omega, h3.symm⟩
theorem sv_nd (ws : List Nat) : ∀ k, (sv ws k).Nodup
  | 0 => by simp [sv]
  | k + 1 => by
    refine List.nodup_append.mpr ⟨sv_nd ws k, chl_nd _ _, fun x hx y hy e => ?_⟩
    subst e
    obtain ⟨d, d1, d2, d3⟩ := mem_chl.mp hy
    rcases mem_sv.mp hx with h | ⟨c, c1, c2, c3⟩
    · omega
    · obtain rfl : c = d := by omega
      omega
theorem treeL_len (ws : List Nat) : (treeL ws).length = ws.length := by unfold treeL; rw [List.length_map]
theorem treeL_get {ws : List Nat} {c : Nat} (hc : c < ws.length) : (treeL ws).getD c 0 = (sv ws ws.length).getD (ws.getD c 0) 0 := by
  unfold treeL
  rw [List.getD_eq_getElem?_getD, List.getElem?_map, getD_of hc]
  rfl
theorem svN_len {ws : List Nat} (F : Full ws) : (sv ws ws.length).length = ws.length + 1 := by
  rw [sv_len, lt_all F.lo]
  omega
theorem full_chl {ws : List Nat} (F : Full ws) {k : Nat} (hk : k ≤ ws.length) : chl (treeL ws) ((sv ws ws.length).getD k 0) = chl ws k := by
  unfold chl chlK
  rw [treeL_len]
  congr 1
  refine List.filter_congr fun c hc => ?_
  have hc2 := List.mem_range.mp hc
  rw [treeL_get hc2, decide_eq_decide]
  have h1 := F.lo _ (List.mem_of_getElem? (getD_of hc2))
  have h2 := svN_len F
  exact ⟨fun e => nd_get (sv_nd ws _) (by omega) (by omega) e, fun e => by rw [e]⟩
theorem full_qw {ws : List Nat} (F : Full ws) : ∀ k, k ≤ ws.length + 1 → qw (treeL ws) k = sv ws k
  | 0, _ => rfl
  | k + 1, hk => by
    have ih := full_qw F k (by omega)
    have h1 := F.up k (by omega)
    have hlt : k < (sv ws k).length := by rw [sv_len]; omega
    rw [qw_yes (by rw [ih]; exact hlt), ih, ← sv_get (k' := ws.length) (by omega) hlt, full_chl F (by omega)]
    rfl
theorem full_tr {ws : List Nat} (F : Full ws) : Tr (treeL ws) := by
  refine ⟨fun c hc => ?_, fun v hv => ?_⟩
  · rw [treeL_len] at hc ⊢
    rw [treeL_get hc]
    have h1 := F.lo _ (List.mem_of_getElem? (getD_of hc))
    have h2 := svN_len F
    have h3 := List.mem_of_getElem? (getD_of (ws := sv ws ws.length) (c := ws.getD c 0) (by omega))
    rcases mem_sv.mp h3 with h | ⟨d, d1, _, d3⟩
    · omega
    · omega
  · rw [treeL_len] at hv
    show v ∈ qw (treeL ws) ((treeL ws).length + 1)
    rw [treeL_len, full_qw F _ (Nat.le_refl _), mem_sv]
    cases v with
    | zero => exact .inl rfl
    | succ c => exact .inr ⟨c, hv, by have := F.lo _ (List.mem_of_getElem? (getD_of (ws := ws) (c := c) hv)); omega, rfl⟩
theorem full_back {ws : List Nat} (F : Full ws) : wishL (treeL ws) = ws := by
  refine List.ext_getElem? fun c => ?_
  by_cases hc : c < ws.length
  · rw [getD_of (ws := wishL (treeL ws)) (by rw [wishL_len, treeL_len]; exact hc), getD_of hc, wishL_get (by rw [treeL_len]; exact hc), treeL_get hc]
    have h1 := F.lo _ (List.mem_of_getElem? (getD_of hc))
    have h2 := svN_len F
    have h3 : (sv ws ws.length).getD (ws.getD c 0) 0 = (qAll (treeL ws)).getD (ws.getD c 0) 0 := by
      show _ = (qw (treeL ws) ((treeL ws).length + 1)).getD _ 0
      rw [treeL_len, full_qw F _ (Nat.le_refl _), sv_get (Nat.le_succ _) (by omega)]
    rw [h3, turns_at (full_tr F) (by rw [treeL_len]; omega)]
  · rw [List.getElem?_eq_none (by rw [wishL_len, treeL_len]; omega), List.getElem?_eq_none (by omega)]
/-! ### the law -/
def spLaw (T : TabT) (K : PySem.W.Frag) : Sp := fun vs H Q _ => ∃ (a : Addr) (ns : List Int), vs = [.ref a] ∧ SqL K H a (vi ns) ∧ ns.length ≤ 63 ∧ Tabs T H ∧ ∀ H', Q (.bl true) H'
theorem ok_law {T : TabT} {fd fd1 fd2 fd3 fd4 fd5 fd6 : FuncData} (F : FnP K "law" s_law fd) (B : Bi mg) (C1 : Cal P w K mg base CX0 1 "_law_full" P_law_full (spFull K) fd1) (C2 : Cal P w K mg base CX0 1 "_law_numbers" P_law_numbers (spNumbers K) fd2) (C3 : Cal P w K mg base CX0 1 "_law_parents" P_law_parents (spParents K) fd3) (C4 : Cal P w K mg base CX0 9 "_law_promises_right" P_law_promises_right (spXN T) fd4)
    (C5 : Cal P w K mg base (L2N.CX P w) 4 "tree" P_tree (orBadL K mW (spTree K)) fd5) (C6 : Cal P w K mg base (L2N.CX P w) 2 "wishes_of" P_wishes_of (orBadTr K (spWishesOf K)) fd6) : FnOk P w K mg base CX0 10 (ga K "law") fd P_law (spLaw T K) := by
  refine F.ok sc_law (fun vs H Q E h => ?_) (fun cdv A outer s H vs Q E hr h => ⟨der_law B C1 C2 C3 C4 C5 C6 hr, ?_⟩)
  · obtain ⟨a, ns, rfl, _⟩ := h; rfl
  obtain ⟨a, ns, rfl, hS0, hl, hT, q⟩ := h
  unfold der_law; dsimp only
  refine ⟨rfl, hT, fun H1 n1 T1 => ⟨true, rfl, ?_⟩⟩
  have hS := exn_l n1 hS0
  have hFu := lawFull_full ns
  have hlen := lawFull_length ns
  have hLF : EvL (tCall (spFull K) [] E0 (tCons (tVar 0) tNil)) [some (.ref a), none, none, none, none, none, none] H1 (vn (lawFull ns)) := el_call (vs := [.ref a]) (ea_cons (ev_var rfl) ea_nil) fun G e Q' q' E' => ⟨a, ns, rfl, ex_l e hS, by omega, q'⟩
  generalize lawFull ns = ws at hFu hlen hLF
  have hb := full_back hFu
  have T := full_tr hFu
  have htl := treeL_len ws
  have hz : ws.length ≤ 63 := by omega
  have hlt : ∀ x ∈ treeL ws, x < (treeL ws).length + 1 := fun x hx => by
    obtain ⟨i, hi⟩ := List.getElem?_of_mem hx
    have h2 := T.le i (List.getElem?_eq_some_iff.mp hi).1
    rw [List.getD_eq_getElem?_getD, hi] at h2
    exact Nat.lt_succ_of_le h2
  refine q_asgL hLF fun lw H2 hlw e2 h2 => ?_
  refine q_asgL (el_list (ev_var rfl) (sq_of h2)) fun lh H3 hlh e3 h3 => ?_
  have h23 := e3 lw _ h2
  refine q_asgL (xs := vn (treeL ws)) (el_call (vs := [.ref lw]) (ea_cons (ev_var rfl) ea_nil) fun G e Q' q' E' => ⟨lw, ws, rfl, ex_l e (sq_of h23), by omega, hFu.lo, q'⟩) fun ld H4 hld e4 h4 => ?_
  have h24 := e4 lw _ h23
  have h34 := e4 lh _ h3
  refine q_forR (n := 2) (ea_cons ev_c ea_nil) (by omega) (fun k σ'' H'' => ∃ v4 v5 v6, σ'' = [some (.ref a), some (.ref lw), some (.ref lh), some (.ref ld), v4, v5, v6] ∧ Ex H4 H'') (fun H6 e6 => ⟨none, none, none, rfl, e6⟩) (fun i σ'' H'' hi hI => ?_) (fun σ'' H'' hI => ?_)
  · obtain ⟨v4, v5, v6, rfl, e6⟩ := hI
    have hw6 := e6 lw _ h24
    have hh6 := e6 lh _ h34
    have hd6 := e6 ld _ h4
    refine q_asgL (el_call (vs := [.ref lh]) (ea_cons (ev_var rfl) ea_nil) (sl_tree0 (sq_of hh6) (by omega) hFu)) fun lf H7 hlf e7 h7 => ?_
    refine q_when (b := (!true) || ((!decide (treeL ws = treeL ws)) || !decide (ws = ws))) (et_or (et_not (et_B (ev_call (vs := [.ref lf]) (ea_cons (ev_var rfl) ea_nil) (sv_numbersN (sq_of h7) (by omega))))) fun _ => et_or (et_test (ev_neN (ev_var rfl) (ev_var rfl) (sq_of h7) (sq_of (e7 ld _ hd6)))) fun _ => et_test (ev_neN (ev_var rfl) (ev_var rfl) (sq_of (e7 lh _ hh6)) (sq_of (e7 lw _ hw6)))) (fun hb => by simp at hb) fun _ H8 e8 => ?_
    have h78 := e8 lf _ h7
    refine q_asgL (el_call (vs := [.ref lf]) (ea_cons (ev_var rfl) ea_nil) (sl_wishesOf0 (sq_of h78) (by omega) hlt T)) fun lb H9 hlb e9 h9 => ?_
    rw [hb] at h9
    have h79 := e9 lf _ h78
    have e89 := e8.trans e9
    refine q_when (b := (!true) || ((!decide (ws = ws)) || !decide (treeL ws = treeL ws))) (et_or (et_not (et_B (ev_call (vs := [.ref lb]) (ea_cons (ev_var rfl) ea_nil) (sv_numbersN (sq_of h9) (by omega))))) fun _ => et_or (et_test (ev_neN (ev_var rfl) (ev_var rfl) (sq_of h9) (sq_of (e89 lw _ (e7 lw _ hw6))))) fun _ => et_test (ev_neN (ev_var rfl) (ev_var rfl) (sq_of h79) (sq_of (e89 ld _ (e7 ld _ hd6))))) (fun hb => by simp at hb) fun _ H10 e10 => ?_
    have nbf : lf ≠ lb := fun z => by rw [← z, h78] at hlb; cases hlb
    refine q_app (xs := vn ws) (e10 lb _ h9) (ev_var rfl) (v := .int 0) ev_c (by rw [List.length_map]; omega) fun H11 e11 => ?_
    have eN := e6.trans (e7.trans (e8.trans (e9.trans (e10.trans e11))))
    have eM := Ex.mut (o := .lst (vn ws ++ [V.int 0])) eN (fresh_back (e6.trans (e7.trans e8)) hlb)
    have hf11 : upd H11 lb (.lst (vn ws ++ [V.int 0])) lf = some (.lst (vn (treeL ws))) := by
      rw [upd_ne nbf]
      exact e11 lf _ (e10 lf _ h79)
    generalize upd H11 lb (.lst (vn ws ++ [V.int 0])) = G at hf11 eM
    refine s_app (xs := vn (treeL ws)) hf11 (ev_var rfl) (v := .int 0) ev_c (by rw [List.length_map]; omega) fun H12 e12 => ?_
    exact ⟨_, _, _, rfl, Ex.mut (eM.trans e12) (fresh_back e6 hlf)⟩
  · obtain ⟨v4, v5, v6, rfl, e6⟩ := hI
    exact s_ret ev_c fun H10 _ => q H10
end
end Pk
namespace Pk
open PySem PySem.Spec PyProof.Rows L2 Evl He
section
variable {P : Program} {w : World} {K : PySem.W.Frag} {mg : Str → Option Value} {base : Heap}
open SX (S)
/-! ### the tables of those whose defs make lambdas -/
def tfL : List Defn := [("_law_standings_promises", none), ("_law_standings_promises_more1", none), ("_law_promises_right", none), ("_law_promises_right_more1", none)]
def TL (K : PySem.W.Frag) : TabT := tfL.map fun p => (tabOf K (codeOf K p), (envOfC p.1 (defScope s_law) 0 0 .none).qual ++ "<lambda>")
theorem nd_eq {α β : Type} {f : α → β} : ∀ {l : List α} {a b : α}, (l.map f).Nodup → a ∈ l → b ∈ l → f a = f b → a = b
  | x :: l, a, b, h, ha, hb, e => by
    rw [List.map_cons, List.nodup_cons] at h
    rcases List.mem_cons.mp ha with ea | ka
    · rcases List.mem_cons.mp hb with eb | kb
      · rw [ea, eb]
      · exact absurd (List.mem_map.mpr ⟨b, kb, by rw [← e, ea]⟩) h.1
    · rcases List.mem_cons.mp hb with eb | kb
      · exact absurd (List.mem_map.mpr ⟨a, ka, by rw [e, eb]⟩) h.1
      · exact nd_eq h.2 ka kb e
theorem lamT_of {x : Str} {st : Stmt} (hB : ∀ p ∈ tfL.map (cT K), LamX.TabB base mg p.1 p.2) (hN : (tfL.map fun p => (cT K p).2).Nodup) (hx : (x, none) ∈ tfL) : LamT K mg base (TL K) x st :=
  ⟨hB (cT K (x, none)) (List.mem_map.mpr ⟨_, hx, rfl⟩), List.mem_map.mpr ⟨(x, none), hx, rfl⟩, fun p hp e => by
    obtain ⟨d, hd, rfl⟩ := List.mem_map.mp hp
    have z := nd_eq (f := fun p => (cT K p).2) hN hd hx e
    subst z
    rfl⟩
theorem tabsL {H : Hp} (hH : ∀ p ∈ tfL.map (cT K), H p.2 = some (.tbl #[])) : Tabs (TL K) H := fun q hq => by
  obtain ⟨d, hd, rfl⟩ := List.mem_map.mp hq
  exact LamX.TabS.nil (hH (cT K d) (List.mem_map.mpr ⟨d, hd, rfl⟩))
end
end Pk
namespace Pk
open PySem PySem.Spec PyProof.Rows L2 Evl He
/-! ### the end: what the top has left, by names -/
def d_is_number : DefD := ⟨("is_number", none), "is_number", "is_number", defArgs s_is_number, defBody s_is_number, defScope s_is_number, [], []⟩
def d_free_from : DefD := ⟨("free_from", none), "free_from", "free_from", defArgs s_free_from, defBody s_free_from, defScope s_free_from, [], []⟩
def d_counted : DefD := ⟨("counted", none), "counted", "counted", defArgs s_counted, defBody s_counted, defScope s_counted, [], []⟩
def d_as_list : DefD := ⟨("as_list", none), "as_list", "as_list", defArgs s_as_list, defBody s_as_list, defScope s_as_list, [], []⟩
def d_served_by : DefD := ⟨("served_by", none), "served_by", "served_by", defArgs s_served_by, defBody s_served_by, defScope s_served_by, [], []⟩
def d_heights : DefD := ⟨("heights", none), "heights", "heights", defArgs s_heights, defBody s_heights, defScope s_heights, [], []⟩
def d_number_in : DefD := ⟨("number_in", none), "number_in", "number_in", defArgs s_number_in, defBody s_number_in, defScope s_number_in, [], []⟩
def d_law_full : DefD := ⟨("_law_full", none), "_law_full", "_law_full", defArgs s_law_full, defBody s_law_full, defScope s_law_full, [], []⟩
def d_law_numbers : DefD := ⟨("_law_numbers", none), "_law_numbers", "_law_numbers", defArgs s_law_numbers, defBody s_law_numbers, defScope s_law_numbers, [], []⟩
def d_law_parents : DefD := ⟨("_law_parents", none), "_law_parents", "_law_parents", defArgs s_law_parents, defBody s_law_parents, defScope s_law_parents, [], []⟩
def d_law_no_of : DefD := ⟨("_law_no_of", none), "_law_no_of", "_law_no_of", defArgs s_law_no_of, defBody s_law_no_of, defScope s_law_no_of, [], []⟩
def d_asked_wishes : DefD := ⟨("asked_wishes", none), "asked_wishes", "asked_wishes", defArgs s_asked_wishes, defBody s_asked_wishes, defScope s_asked_wishes, [], []⟩
def d_stood : DefD := ⟨("stood", none), "stood", "stood", defArgs s_stood, defBody s_stood, defScope s_stood, [], []⟩
def d_crowd_of : DefD := ⟨("crowd_of", none), "crowd_of", "crowd_of", defArgs s_crowd_of, defBody s_crowd_of, defScope s_crowd_of, [], []⟩
def d_wishes_of : DefD := ⟨("wishes_of", none), "wishes_of", "wishes_of", defArgs s_wishes_of, defBody s_wishes_of, defScope s_wishes_of, [], []⟩
def d_beneath : DefD := ⟨("beneath", none), "beneath", "beneath", defArgs s_beneath, defBody s_beneath, defScope s_beneath, [], []⟩
def d_rising : DefD := ⟨("rising", none), "rising", "rising", defArgs s_rising, defBody s_rising, defScope s_rising, [], []⟩
def d_asked_standing : DefD := ⟨("asked_standing", none), "asked_standing", "asked_standing", defArgs s_asked_standing, defBody s_asked_standing, defScope s_asked_standing, [], []⟩
def d_parked : DefD := ⟨("parked", none), "parked", "parked", defArgs s_parked, defBody s_parked, defScope s_parked, [], []⟩
def d_taken : DefD := ⟨("taken", none), "taken", "taken", defArgs s_taken, defBody s_taken, defScope s_taken, [], []⟩
def d_driven_off : DefD := ⟨("driven_off", none), "driven_off", "driven_off", defArgs s_driven_off, defBody s_driven_off, defScope s_driven_off, [], []⟩
def d_lucky : DefD := ⟨("lucky", none), "lucky", "lucky", defArgs s_lucky, defBody s_lucky, defScope s_lucky, [], []⟩
def d_all_parked : DefD := ⟨("all_parked", none), "all_parked", "all_parked", defArgs s_all_parked, defBody s_all_parked, defScope s_all_parked, [], []⟩
def d_ring : DefD := ⟨("ring", none), "ring", "ring", defArgs s_ring, defBody s_ring, defScope s_ring, [], []⟩
def d_turned : DefD := ⟨("turned", none), "turned", "turned", defArgs s_turned, defBody s_turned, defScope s_turned, [], []⟩
def d_reaches : DefD := ⟨("reaches", none), "reaches", "reaches", defArgs s_reaches, defBody s_reaches, defScope s_reaches, [], []⟩
def d_written : DefD := ⟨("written", none), "written", "written", defArgs s_written, defBody s_written, defScope s_written, [], []⟩
def d_read : DefD := ⟨("read", none), "read", "read", defArgs s_read, defBody s_read, defScope s_read, [], []⟩
def d_drives : DefD := ⟨("drives", none), "drives", "drives", defArgs s_drives, defBody s_drives, defScope s_drives, [], []⟩
def d_tree : DefD := ⟨("tree", none), "tree", "tree", defArgs s_tree, defBody s_tree, defScope s_tree, [], []⟩
def d_path : DefD := ⟨("path", none), "path", "path", defArgs s_path, defBody s_path, defScope s_path, [], []⟩
def d_turning : DefD := ⟨("turning", none), "turning", "turning", defArgs s_turning, defBody s_turning, defScope s_turning, [], []⟩
def d_how_many : DefD := ⟨("how_many", none), "how_many", "how_many", defArgs s_how_many, defBody s_how_many, defScope s_how_many, [], []⟩
def d_from_steps : DefD := ⟨("from_steps", none), "from_steps", "from_steps", defArgs s_from_steps, defBody s_from_steps, defScope s_from_steps, [], []⟩
def d_law_standings_promises_more1 : DefD := ⟨("_law_standings_promises_more1", none), "_law_standings_promises_more1", "_law_standings_promises_more1", defArgs s_law_standings_promises_more1, defBody s_law_standings_promises_more1, defScope s_law_standings_promises_more1, [], []⟩
def d_law_standings_promises : DefD := ⟨("_law_standings_promises", none), "_law_standings_promises", "_law_standings_promises", defArgs s_law_standings_promises, defBody s_law_standings_promises, defScope s_law_standings_promises, [], []⟩
def d_law_promises_right_more1 : DefD := ⟨("_law_promises_right_more1", none), "_law_promises_right_more1", "_law_promises_right_more1", defArgs s_law_promises_right_more1, defBody s_law_promises_right_more1, defScope s_law_promises_right_more1, [], []⟩
def d_law_promises_right : DefD := ⟨("_law_promises_right", none), "_law_promises_right", "_law_promises_right", defArgs s_law_promises_right, defBody s_law_promises_right, defScope s_law_promises_right, [], []⟩
def d_law : DefD := ⟨("law", none), "law", "law", defArgs s_law, defBody s_law, defScope s_law, [], []⟩
def d_Parked_init : DefD := ⟨("Parked", some "__init__"), "__init__", "Parked.__init__", defArgs s_Parked_init, defBody s_Parked_init, defScope s_Parked_init, [], []⟩
def d_Crowd_init : DefD := ⟨("Crowd", some "__init__"), "__init__", "Crowd.__init__", defArgs s_Crowd_init, defBody s_Crowd_init, defScope s_Crowd_init, [], []⟩
def fnL : List DefD := [d_is_number, d_free_from, d_counted, d_as_list, d_served_by, d_heights, d_number_in, d_law_full, d_law_numbers, d_law_parents, d_law_no_of, d_asked_wishes, d_stood, d_crowd_of, d_wishes_of, d_beneath, d_rising, d_asked_standing, d_parked, d_taken, d_driven_off, d_lucky, d_all_parked, d_ring, d_turned, d_reaches, d_written, d_read, d_drives, d_tree, d_path, d_turning, d_how_many, d_from_steps, d_law_standings_promises_more1, d_law_standings_promises, d_law_promises_right_more1, d_law_promises_right, d_law, d_Parked_init, d_Crowd_init]
def faL : List Fa := [.glo "is_number", .glo "free_from", .glo "counted", .glo "as_list", .glo "served_by", .glo "heights", .glo "number_in", .glo "_law_full", .glo "_law_numbers", .glo "_law_parents", .glo "_law_no_of", .glo "asked_wishes", .glo "stood", .glo "crowd_of", .glo "wishes_of", .glo "beneath", .glo "rising", .glo "asked_standing", .glo "parked", .glo "taken", .glo "driven_off", .glo "lucky", .glo "all_parked", .glo "ring", .glo "turned", .glo "reaches", .glo "written", .glo "read", .glo "drives", .glo "tree", .glo "path", .glo "turning", .glo "how_many", .glo "from_steps", .glo "_law_standings_promises_more1", .glo "_law_standings_promises", .glo "_law_promises_right_more1", .glo "_law_promises_right", .glo "law", .free "len", .free "range", .free "max", .free "min", .free "sum", .free "all", .free "any", .free "list", .free "sorted", .free "isinstance", .free "enumerate", .free "reversed", .free "set", .free "str", .free "int", .free "bool", .free "tuple", .free "ValueError", .int "PLACES" 1000000, .str "FIGURES" "0123456789", .int "LONGEST" 7, .glo "BadPath", .exc "BadPath", .glo "BadStanding", .exc "BadStanding", .glo "BadText", .exc "BadText", .glo "BadTree", .exc "BadTree", .glo "BadWishes", .exc "BadWishes", .glo "StreetError", .exc "StreetError", .glo "TooMany", .exc "TooMany", .glo "Answer", .glo "Parked", .glo "Crowd", .cls "Parked", .mkr "Parked", .noat "Parked" "where", .cls "Crowd", .mkr "Crowd", .noat "Crowd" "place"]
abbrev RowL : PySem.W.OpenRow := PySem.W.OpenLaw.row PySem.Challenge.rw_parkrow_k05_whole_tree
def exL (K : PySem.W.Frag) : Bool := ([("BadWishes" : Str), ("TooMany" : Str), ("BadTree" : Str), ("BadPath" : Str), ("BadStanding" : Str), ("BadText" : Str)] : List Str).all (errB K) && (insB K "Parked" insP && (insB K "Crowd" insC && (decide (PySem.W.exmOne K (.ref (ga K "BadWishes")) (.ref (ga K "BadWishes")) = some true) && decide ((tfL.map fun p => (cT K p).2).Nodup))))
abbrev hkL : PySem.W.Hook := hookX 5 faL fnL [] tfL exL
def obL (s : PySem.W.SharedT) : AlX := obsX 5 faL fnL [] tfL exL (HandSHeadRun.getT s)
theorem obL_eq (s : PySem.W.SharedT) : obL s = hkL.obs s.abs := obsX_eq (HandSHeadRun.getT_eq s)
def looseL : List Str := ("StreetError" : Str) :: ("BadWishes" : Str) :: ("TooMany" : Str) :: ("BadTree" : Str) :: ("BadPath" : Str) :: ("BadStanding" : Str) :: ("BadText" : Str) :: ("PLACES" : Str) :: ("is_number" : Str) :: ("asked_wishes" : Str) :: ("free_from" : Str) :: ("stood" : Str) :: ("Answer" : Str) :: ("Parked" : Str) :: ("Crowd" : Str) :: ("crowd_of" : Str) :: ("counted" : Str) :: ("parked" : Str) :: ("taken" : Str) :: ("driven_off" : Str) :: ("lucky" : Str) :: ("all_parked" : Str) :: ("drives" : Str) :: ("as_list" : Str) :: ("tree" : Str) :: ("served_by" : Str) :: ("wishes_of" : Str) :: ("path" : Str) :: ("heights" : Str) :: ("beneath" : Str) :: ("rising" : Str) :: ("ring" : Str) :: ("turning" : Str) :: ("turned" : Str) :: ("asked_standing" : Str) :: ("reaches" : Str) :: ("how_many" : Str) :: ("from_steps" : Str) :: ("FIGURES" : Str) :: ("LONGEST" : Str) :: ("written" : Str) :: ("number_in" : Str) :: ("read" : Str) :: ("_law_full" : Str) :: ("_law_numbers" : Str) :: ("_law_parents" : Str) :: ("_law_no_of" : Str) :: ("_law_standings_promises" : Str) :: ("_law_standings_promises_more1" : Str) :: ("_law_promises_right" : Str) :: ("_law_promises_right_more1" : Str) :: []
theorem runL (w : World) : HandSHeadRun.RunEq RowL (PySem.W.view RowL.prog [59]) hkL obL 6000 looseL w := by
  intro os
  kernel_rfl
theorem factsL {P : Program} {w : World} {K : PySem.W.Frag} {h : Heap} {mg : Str → Option Value} {f : Addr} (X : K.In h) (G : h.Ns mainGlobals mg) (hfa : mg ("law" : Str) = some (.ref f)) (c : SaysD faL fnL K) (hx : exL K = true) :
    ∃ fd : FuncData, (∀ (s : Shared) (v : Value), BindsTo s fd ⟨[v], []⟩ [("script", v)]) ∧ ∀ base : Heap, K.In base → base.Ns mainGlobals mg → (∀ p ∈ tfL.map (cT K), LamX.TabB base mg p.1 p.2) → FnOk P w K mg base CX0 10 f fd ["script"] (spLaw (TL K) K) := by
  obtain ⟨fd_is_number, F_is_number⟩ := c.def_ 0 (d := d_is_number) rfl
  have F_is_number : FnP K "is_number" s_is_number fd_is_number := F_is_number
  obtain ⟨fd_free_from, F_free_from⟩ := c.def_ 1 (d := d_free_from) rfl
  have F_free_from : FnP K "free_from" s_free_from fd_free_from := F_free_from
  obtain ⟨fd_counted, F_counted⟩ := c.def_ 2 (d := d_counted) rfl
  have F_counted : FnP K "counted" s_counted fd_counted := F_counted
  obtain ⟨fd_as_list, F_as_list⟩ := c.def_ 3 (d := d_as_list) rfl
  have F_as_list : FnP K "as_list" s_as_list fd_as_list := F_as_list
  obtain ⟨fd_served_by, F_served_by⟩ := c.def_ 4 (d := d_served_by) rfl
  have F_served_by : FnP K "served_by" s_served_by fd_served_by := F_served_by
  obtain ⟨fd_heights, F_heights⟩ := c.def_ 5 (d := d_heights) rfl
  have F_heights : FnP K "heights" s_heights fd_heights := F_heights
  obtain ⟨fd_number_in, F_number_in⟩ := c.def_ 6 (d := d_number_in) rfl
  have F_number_in : FnP K "number_in" s_number_in fd_number_in := F_number_in
  obtain ⟨fd_law_full, F_law_full⟩ := c.def_ 7 (d := d_law_full) rfl
  have F_law_full : FnP K "_law_full" s_law_full fd_law_full := F_law_full
  obtain ⟨fd_law_numbers, F_law_numbers⟩ := c.def_ 8 (d := d_law_numbers) rfl
  have F_law_numbers : FnP K "_law_numbers" s_law_numbers fd_law_numbers := F_law_numbers
  obtain ⟨fd_law_parents, F_law_parents⟩ := c.def_ 9 (d := d_law_parents) rfl
  have F_law_parents : FnP K "_law_parents" s_law_parents fd_law_parents := F_law_parents
  obtain ⟨fd_law_no_of, F_law_no_of⟩ := c.def_ 10 (d := d_law_no_of) rfl
  have F_law_no_of : FnP K "_law_no_of" s_law_no_of fd_law_no_of := F_law_no_of
  obtain ⟨fd_asked_wishes, F_asked_wishes⟩ := c.def_ 11 (d := d_asked_wishes) rfl
  have F_asked_wishes : FnP K "asked_wishes" s_asked_wishes fd_asked_wishes := F_asked_wishes
  obtain ⟨fd_stood, F_stood⟩ := c.def_ 12 (d := d_stood) rfl
  have F_stood : FnP K "stood" s_stood fd_stood := F_stood
  obtain ⟨fd_crowd_of, F_crowd_of⟩ := c.def_ 13 (d := d_crowd_of) rfl
  have F_crowd_of : FnP K "crowd_of" s_crowd_of fd_crowd_of := F_crowd_of
  obtain ⟨fd_wishes_of, F_wishes_of⟩ := c.def_ 14 (d := d_wishes_of) rfl
  have F_wishes_of : FnP K "wishes_of" s_wishes_of fd_wishes_of := F_wishes_of
  obtain ⟨fd_beneath, F_beneath⟩ := c.def_ 15 (d := d_beneath) rfl
  have F_beneath : FnP K "beneath" s_beneath fd_beneath := F_beneath
  obtain ⟨fd_rising, F_rising⟩ := c.def_ 16 (d := d_rising) rfl
  have F_rising : FnP K "rising" s_rising fd_rising := F_rising
  obtain ⟨fd_asked_standing, F_asked_standing⟩ := c.def_ 17 (d := d_asked_standing) rfl
  have F_asked_standing : FnP K "asked_standing" s_asked_standing fd_asked_standing := F_asked_standing
  obtain ⟨fd_parked, F_parked⟩ := c.def_ 18 (d := d_parked) rfl
  have F_parked : FnP K "parked" s_parked fd_parked := F_parked
  obtain ⟨fd_taken, F_taken⟩ := c.def_ 19 (d := d_taken) rfl
  have F_taken : FnP K "taken" s_taken fd_taken := F_taken
  obtain ⟨fd_driven_off, F_driven_off⟩ := c.def_ 20 (d := d_driven_off) rfl
  have F_driven_off : FnP K "driven_off" s_driven_off fd_driven_off := F_driven_off
  obtain ⟨fd_lucky, F_lucky⟩ := c.def_ 21 (d := d_lucky) rfl
  have F_lucky : FnP K "lucky" s_lucky fd_lucky := F_lucky
  obtain ⟨fd_all_parked, F_all_parked⟩ := c.def_ 22 (d := d_all_parked) rfl
  have F_all_parked : FnP K "all_parked" s_all_parked fd_all_parked := F_all_parked
  obtain ⟨fd_ring, F_ring⟩ := c.def_ 23 (d := d_ring) rfl
  have F_ring : FnP K "ring" s_ring fd_ring := F_ring
  obtain ⟨fd_turned, F_turned⟩ := c.def_ 24 (d := d_turned) rfl
  have F_turned : FnP K "turned" s_turned fd_turned := F_turned
  obtain ⟨fd_reaches, F_reaches⟩ := c.def_ 25 (d := d_reaches) rfl
  have F_reaches : FnP K "reaches" s_reaches fd_reaches := F_reaches
  obtain ⟨fd_written, F_written⟩ := c.def_ 26 (d := d_written) rfl
  have F_written : FnP K "written" s_written fd_written := F_written
  obtain ⟨fd_read, F_read⟩ := c.def_ 27 (d := d_read) rfl
  have F_read : FnP K "read" s_read fd_read := F_read
  obtain ⟨fd_drives, F_drives⟩ := c.def_ 28 (d := d_drives) rfl
  have F_drives : FnP K "drives" s_drives fd_drives := F_drives
  obtain ⟨fd_tree, F_tree⟩ := c.def_ 29 (d := d_tree) rfl
  have F_tree : FnP K "tree" s_tree fd_tree := F_tree
  obtain ⟨fd_path, F_path⟩ := c.def_ 30 (d := d_path) rfl
  have F_path : FnP K "path" s_path fd_path := F_path
  obtain ⟨fd_turning, F_turning⟩ := c.def_ 31 (d := d_turning) rfl
  have F_turning : FnP K "turning" s_turning fd_turning := F_turning
  obtain ⟨fd_how_many, F_how_many⟩ := c.def_ 32 (d := d_how_many) rfl
  have F_how_many : FnP K "how_many" s_how_many fd_how_many := F_how_many
  obtain ⟨fd_from_steps, F_from_steps⟩ := c.def_ 33 (d := d_from_steps) rfl
  have F_from_steps : FnP K "from_steps" s_from_steps fd_from_steps := F_from_steps
  obtain ⟨fd_law_standings_promises_more1, F_law_standings_promises_more1⟩ := c.def_ 34 (d := d_law_standings_promises_more1) rfl
  have F_law_standings_promises_more1 : FnP K "_law_standings_promises_more1" s_law_standings_promises_more1 fd_law_standings_promises_more1 := F_law_standings_promises_more1
  obtain ⟨fd_law_standings_promises, F_law_standings_promises⟩ := c.def_ 35 (d := d_law_standings_promises) rfl
  have F_law_standings_promises : FnP K "_law_standings_promises" s_law_standings_promises fd_law_standings_promises := F_law_standings_promises
  obtain ⟨fd_law_promises_right_more1, F_law_promises_right_more1⟩ := c.def_ 36 (d := d_law_promises_right_more1) rfl
  have F_law_promises_right_more1 : FnP K "_law_promises_right_more1" s_law_promises_right_more1 fd_law_promises_right_more1 := F_law_promises_right_more1
  obtain ⟨fd_law_promises_right, F_law_promises_right⟩ := c.def_ 37 (d := d_law_promises_right) rfl
  have F_law_promises_right : FnP K "_law_promises_right" s_law_promises_right fd_law_promises_right := F_law_promises_right
  obtain ⟨fd_law, F_law⟩ := c.def_ 38 (d := d_law) rfl
  have F_law : FnP K "law" s_law fd_law := F_law
  have B : Bi mg := ⟨free_ok X G (c.fact 39 (f := .free "len") rfl), free_ok X G (c.fact 40 (f := .free "range") rfl), free_ok X G (c.fact 41 (f := .free "max") rfl), free_ok X G (c.fact 42 (f := .free "min") rfl), free_ok X G (c.fact 43 (f := .free "sum") rfl), free_ok X G (c.fact 44 (f := .free "all") rfl), free_ok X G (c.fact 45 (f := .free "any") rfl), free_ok X G (c.fact 46 (f := .free "list") rfl), free_ok X G (c.fact 47 (f := .free "sorted") rfl), free_ok X G (c.fact 48 (f := .free "isinstance") rfl), free_ok X G (c.fact 49 (f := .free "enumerate") rfl), free_ok X G (c.fact 50 (f := .free "reversed") rfl), free_ok X G (c.fact 51 (f := .free "set") rfl), free_ok X G (c.fact 52 (f := .free "str") rfl), free_ok X G (c.fact 53 (f := .free "int") rfl), free_ok X G (c.fact 54 (f := .free "bool") rfl), free_ok X G (c.fact 55 (f := .free "tuple") rfl), free_ok X G (c.fact 56 (f := .free "ValueError") rfl)⟩
  obtain ⟨tk_PLACES, gc_PLACES⟩ := int_ok X G (c.fact 57 (f := .int "PLACES" 1000000) rfl)
  obtain ⟨tk_FIGURES, gc_FIGURES⟩ := str_ok X G (c.fact 58 (f := .str "FIGURES" "0123456789") rfl)
  obtain ⟨tk_LONGEST, gc_LONGEST⟩ := int_ok X G (c.fact 59 (f := .int "LONGEST" 7) rfl)
  have X_BadPath : ExcF K mg "BadPath" := by
    obtain ⟨a1, a2, a3, a4⟩ := exc_ok (c.fact 61 (f := .exc "BadPath") rfl)
    exact ⟨a1, glo_ok X G (c.fact 60 (f := .glo "BadPath") rfl), a2, a3, a4⟩
  have X_BadStanding : ExcF K mg "BadStanding" := by
    obtain ⟨a1, a2, a3, a4⟩ := exc_ok (c.fact 63 (f := .exc "BadStanding") rfl)
    exact ⟨a1, glo_ok X G (c.fact 62 (f := .glo "BadStanding") rfl), a2, a3, a4⟩
  have X_BadText : ExcF K mg "BadText" := by
    obtain ⟨a1, a2, a3, a4⟩ := exc_ok (c.fact 65 (f := .exc "BadText") rfl)
    exact ⟨a1, glo_ok X G (c.fact 64 (f := .glo "BadText") rfl), a2, a3, a4⟩
  have X_BadTree : ExcF K mg "BadTree" := by
    obtain ⟨a1, a2, a3, a4⟩ := exc_ok (c.fact 67 (f := .exc "BadTree") rfl)
    exact ⟨a1, glo_ok X G (c.fact 66 (f := .glo "BadTree") rfl), a2, a3, a4⟩
  have X_BadWishes : ExcF K mg "BadWishes" := by
    obtain ⟨a1, a2, a3, a4⟩ := exc_ok (c.fact 69 (f := .exc "BadWishes") rfl)
    exact ⟨a1, glo_ok X G (c.fact 68 (f := .glo "BadWishes") rfl), a2, a3, a4⟩
  have X_StreetError : ExcF K mg "StreetError" := by
    obtain ⟨a1, a2, a3, a4⟩ := exc_ok (c.fact 71 (f := .exc "StreetError") rfl)
    exact ⟨a1, glo_ok X G (c.fact 70 (f := .glo "StreetError") rfl), a2, a3, a4⟩
  have X_TooMany : ExcF K mg "TooMany" := by
    obtain ⟨a1, a2, a3, a4⟩ := exc_ok (c.fact 73 (f := .exc "TooMany") rfl)
    exact ⟨a1, glo_ok X G (c.fact 72 (f := .glo "TooMany") rfl), a2, a3, a4⟩
  obtain ⟨hxe, hxm⟩ := ba hx
  have EX_BadWishes : ErrX K "BadWishes" := errX_of (List.all_eq_true.mp hxe "BadWishes" (by decide))
  have EX_TooMany : ErrX K "TooMany" := errX_of (List.all_eq_true.mp hxe "TooMany" (by decide))
  have EX_BadTree : ErrX K "BadTree" := errX_of (List.all_eq_true.mp hxe "BadTree" (by decide))
  have EX_BadPath : ErrX K "BadPath" := errX_of (List.all_eq_true.mp hxe "BadPath" (by decide))
  have EX_BadStanding : ErrX K "BadStanding" := errX_of (List.all_eq_true.mp hxe "BadStanding" (by decide))
  have EX_BadText : ErrX K "BadText" := errX_of (List.all_eq_true.mp hxe "BadText" (by decide))
  have G_Answer := glo_ok X G (c.fact 74 (f := .glo "Answer") rfl)
  have G_Parked := glo_ok X G (c.fact 75 (f := .glo "Parked") rfl)
  have G_Crowd := glo_ok X G (c.fact 76 (f := .glo "Crowd") rfl)
  obtain ⟨fd_Parked_init, F_Parked_init⟩ := c.def_ 39 (d := d_Parked_init) rfl
  have F_Parked_init : MeP K "Parked" "Parked.__init__" s_Parked_init fd_Parked_init := F_Parked_init
  have cls_Parked := cls_ok (c.fact 77 (f := .cls "Parked") rfl)
  have mk_Parked := mkr_ok (c.fact 78 (f := .mkr "Parked") rfl)
  have no_Parked_where := noat_ok (c.fact 79 (f := .noat "Parked" "where") rfl)
  obtain ⟨fd_Crowd_init, F_Crowd_init⟩ := c.def_ 40 (d := d_Crowd_init) rfl
  have F_Crowd_init : MeP K "Crowd" "Crowd.__init__" s_Crowd_init fd_Crowd_init := F_Crowd_init
  have cls_Crowd := cls_ok (c.fact 80 (f := .cls "Crowd") rfl)
  have mk_Crowd := mkr_ok (c.fact 81 (f := .mkr "Crowd") rfl)
  have no_Crowd_place := noat_ok (c.fact 82 (f := .noat "Crowd" "place") rfl)
  obtain ⟨hx1, hxm2⟩ := ba hxm
  obtain ⟨hx2, hxm3⟩ := ba hxm2
  obtain ⟨hx3, hx4⟩ := ba hxm3
  have hE := of_decide_eq_true hx3
  have hNd := of_decide_eq_true hx4
  have T : Two K := ⟨cls_Parked, no_Parked_where, cls_Crowd, no_Crowd_place, insX_of cls_Parked hx1, insX_of cls_Crowd hx2⟩
  have e := hfa.symm.trans (glo_ok X G (c.fact 38 (f := .glo "law") rfl))
  cases e
  have b := FunD.bindsA (ps := ["script"]) F_law fun _ _ _ _ _ _ us hl => match us, hl with | [_], _ => rfl
  refine ⟨fd_law, fun s v => b s [v] rfl, fun base _ _ hB => ?_⟩
  have LT_law_standings_promises : LamT K mg base (TL K) "_law_standings_promises" s_law_standings_promises := lamT_of (st := s_law_standings_promises) hB hNd (by decide)
  have LT_law_standings_promises_more1 : LamT K mg base (TL K) "_law_standings_promises_more1" s_law_standings_promises_more1 := lamT_of (st := s_law_standings_promises_more1) hB hNd (by decide)
  have LT_law_promises_right : LamT K mg base (TL K) "_law_promises_right" s_law_promises_right := lamT_of (st := s_law_promises_right) hB hNd (by decide)
  have LT_law_promises_right_more1 : LamT K mg base (TL K) "_law_promises_right_more1" s_law_promises_right_more1 := lamT_of (st := s_law_promises_right_more1) hB hNd (by decide)
  have M_Parked := MkF.of (P := P) (w := w) (base := base) (ps := P_Parked_init) mk_Parked (ok_Parked_init F_Parked_init B T) G_Parked (FunD.bindsN F_Parked_init fun _ _ _ _ _ _ us hl => match us, hl with | [_, _], _ => rfl)
  have M_Crowd := MkF.of (P := P) (w := w) (base := base) (ps := P_Crowd_init) mk_Crowd (ok_Crowd_init F_Crowd_init T) G_Crowd (FunD.bindsN F_Crowd_init fun _ _ _ _ _ _ us hl => match us, hl with | [_, _], _ => rfl)
  have C_is_number := Cal.mk (P := P) (w := w) (base := base) (x := "is_number") (ps := P_is_number) (ok_is_number F_is_number B ) (glo_ok X G (c.fact 0 (f := .glo "is_number") rfl)) F_is_number.kp (FunD.bindsN F_is_number fun _ _ _ _ _ _ us hl => match us, hl with | [_, _, _], _ => rfl)
  have C_free_from := Cal.mk (P := P) (w := w) (base := base) (x := "free_from") (ps := P_free_from) (ok_free_from F_free_from ) (glo_ok X G (c.fact 1 (f := .glo "free_from") rfl)) F_free_from.kp (FunD.bindsN F_free_from fun _ _ _ _ _ _ us hl => match us, hl with | [_, _], _ => rfl)
  have C_counted := Cal.mk (P := P) (w := w) (base := base) (x := "counted") (ps := P_counted) (ok_counted F_counted B ) (glo_ok X G (c.fact 2 (f := .glo "counted") rfl)) F_counted.kp (FunD.bindsN F_counted fun _ _ _ _ _ _ us hl => match us, hl with | [_, _], _ => rfl)
  have C_as_list := Cal.mk (P := P) (w := w) (base := base) (x := "as_list") (ps := P_as_list) (ok_as_list F_as_list B X_BadWishes ) (glo_ok X G (c.fact 3 (f := .glo "as_list") rfl)) F_as_list.kp (FunD.bindsN F_as_list fun _ _ _ _ _ _ us hl => match us, hl with | [_], _ => rfl)
  have C_served_by := Cal.mk (P := P) (w := w) (base := base) (x := "served_by") (ps := P_served_by) (ok_served_by F_served_by B ) (glo_ok X G (c.fact 4 (f := .glo "served_by") rfl)) F_served_by.kp (FunD.bindsN F_served_by fun _ _ _ _ _ _ us hl => match us, hl with | [_], _ => rfl)
  have C_heights := Cal.mk (P := P) (w := w) (base := base) (x := "heights") (ps := P_heights) (ok_heights F_heights B X_BadPath ) (glo_ok X G (c.fact 5 (f := .glo "heights") rfl)) F_heights.kp (FunD.bindsN F_heights fun _ _ _ _ _ _ us hl => match us, hl with | [_], _ => rfl)
  have C_number_in := Cal.mk (P := P) (w := w) (base := base) (x := "number_in") (ps := P_number_in) (ok_number_in F_number_in B gc_FIGURES gc_LONGEST X_BadText ) (glo_ok X G (c.fact 6 (f := .glo "number_in") rfl)) F_number_in.kp (FunD.bindsN F_number_in fun _ _ _ _ _ _ us hl => match us, hl with | [_], _ => rfl)
  have C_law_full := Cal.mk (P := P) (w := w) (base := base) (x := "_law_full") (ps := P_law_full) (ok_law_full F_law_full B ) (glo_ok X G (c.fact 7 (f := .glo "_law_full") rfl)) F_law_full.kp (FunD.bindsN F_law_full fun _ _ _ _ _ _ us hl => match us, hl with | [_], _ => rfl)
  have C_law_numbers := Cal.mk (P := P) (w := w) (base := base) (x := "_law_numbers") (ps := P_law_numbers) (ok_law_numbers F_law_numbers B ) (glo_ok X G (c.fact 8 (f := .glo "_law_numbers") rfl)) F_law_numbers.kp (FunD.bindsN F_law_numbers fun _ _ _ _ _ _ us hl => match us, hl with | [_], _ => rfl)
  have C_law_parents := Cal.mk (P := P) (w := w) (base := base) (x := "_law_parents") (ps := P_law_parents) (ok_law_parents F_law_parents B ) (glo_ok X G (c.fact 9 (f := .glo "_law_parents") rfl)) F_law_parents.kp (FunD.bindsN F_law_parents fun _ _ _ _ _ _ us hl => match us, hl with | [_], _ => rfl)
  obtain ⟨oc, od, dV, kV, doc, pm, an, cdn, ct, osl, efd, lkn, hcn, _, _⟩ := F_law_no_of.ex
  have NO : NoD K mg base s_law_no_of N_law_no_of := ⟨oc, od, dV, kV, doc, pm, an, cdn, ct, osl, glo_ok X G (c.fact 10 (f := .glo "_law_no_of") rfl), F_law_no_of.kp, by rw [← efd]; exact lkn, hcn, by rw [← efd]; exact FunD.bindsN F_law_no_of fun _ _ _ _ _ _ us hl => match us, hl with | [_], _ => rfl, fun X' q' hK hm _ => no_of_gives hK hm B X_BadWishes X_TooMany X_BadTree X_BadPath X_BadStanding X_BadText X_StreetError⟩
  have C_asked_wishes := Cal.mk (P := P) (w := w) (base := base) (x := "asked_wishes") (ps := P_asked_wishes) (ok_asked_wishes F_asked_wishes B C_is_number gc_PLACES X_BadWishes ) (glo_ok X G (c.fact 11 (f := .glo "asked_wishes") rfl)) F_asked_wishes.kp (FunD.bindsN F_asked_wishes fun _ _ _ _ _ _ us hl => match us, hl with | [_, _], _ => rfl)
  have C_stood := Cal.mk (P := P) (w := w) (base := base) (x := "stood") (ps := P_stood) (ok_stood F_stood B C_free_from ) (glo_ok X G (c.fact 12 (f := .glo "stood") rfl)) F_stood.kp (FunD.bindsN F_stood fun _ _ _ _ _ _ us hl => match us, hl with | [_, _], _ => rfl)
  have C_crowd_of := Cal.mk (P := P) (w := w) (base := base) (x := "crowd_of") (ps := P_crowd_of) (ok_crowd_of F_crowd_of B C_counted ) (glo_ok X G (c.fact 13 (f := .glo "crowd_of") rfl)) F_crowd_of.kp (FunD.bindsN F_crowd_of fun _ _ _ _ _ _ us hl => match us, hl with | [_, _], _ => rfl)
  have C_wishes_of := Cal.mk (P := P) (w := w) (base := base) (x := "wishes_of") (ps := P_wishes_of) (ok_wishes_of F_wishes_of B C_is_number C_served_by X_BadTree ) (glo_ok X G (c.fact 14 (f := .glo "wishes_of") rfl)) F_wishes_of.kp (FunD.bindsN F_wishes_of fun _ _ _ _ _ _ us hl => match us, hl with | [_], _ => rfl)
  have C_beneath := Cal.mk (P := P) (w := w) (base := base) (x := "beneath") (ps := P_beneath) (ok_beneath F_beneath B C_heights ) (glo_ok X G (c.fact 15 (f := .glo "beneath") rfl)) F_beneath.kp (FunD.bindsN F_beneath fun _ _ _ _ _ _ us hl => match us, hl with | [_], _ => rfl)
  have C_rising := Cal.mk (P := P) (w := w) (base := base) (x := "rising") (ps := P_rising) (ok_rising F_rising C_heights ) (glo_ok X G (c.fact 16 (f := .glo "rising") rfl)) F_rising.kp (FunD.bindsN F_rising fun _ _ _ _ _ _ us hl => match us, hl with | [_], _ => rfl)
  have C_asked_standing := Cal.mk (P := P) (w := w) (base := base) (x := "asked_standing") (ps := P_asked_standing) (ok_asked_standing F_asked_standing B C_is_number X_BadStanding ) (glo_ok X G (c.fact 17 (f := .glo "asked_standing") rfl)) F_asked_standing.kp (FunD.bindsN F_asked_standing fun _ _ _ _ _ _ us hl => match us, hl with | [_], _ => rfl)
  have C_parked := Cal.mk (P := P) (w := w) (base := base) (x := "parked") (ps := P_parked) (ok_parked F_parked C_asked_wishes C_crowd_of C_stood M_Crowd M_Parked ) (glo_ok X G (c.fact 18 (f := .glo "parked") rfl)) F_parked.kp (FunD.bindsN F_parked fun _ _ _ _ _ _ us hl => match us, hl with | [_, _], _ => rfl)
  have C_taken := Cal.mk (P := P) (w := w) (base := base) (x := "taken") (ps := P_taken) (ok_taken F_taken B C_asked_wishes C_counted ) (glo_ok X G (c.fact 19 (f := .glo "taken") rfl)) F_taken.kp (FunD.bindsN F_taken fun _ _ _ _ _ _ us hl => match us, hl with | [_, _], _ => rfl)
  have C_driven_off := Cal.mk (P := P) (w := w) (base := base) (x := "driven_off") (ps := P_driven_off) (ok_driven_off F_driven_off B C_asked_wishes C_stood ) (glo_ok X G (c.fact 20 (f := .glo "driven_off") rfl)) F_driven_off.kp (FunD.bindsN F_driven_off fun _ _ _ _ _ _ us hl => match us, hl with | [_, _], _ => rfl)
  have C_lucky := Cal.mk (P := P) (w := w) (base := base) (x := "lucky") (ps := P_lucky) (ok_lucky F_lucky B C_asked_wishes C_stood ) (glo_ok X G (c.fact 21 (f := .glo "lucky") rfl)) F_lucky.kp (FunD.bindsN F_lucky fun _ _ _ _ _ _ us hl => match us, hl with | [_, _], _ => rfl)
  have C_all_parked := Cal.mk (P := P) (w := w) (base := base) (x := "all_parked") (ps := P_all_parked) (ok_all_parked F_all_parked B C_asked_wishes C_crowd_of X_TooMany ) (glo_ok X G (c.fact 22 (f := .glo "all_parked") rfl)) F_all_parked.kp (FunD.bindsN F_all_parked fun _ _ _ _ _ _ us hl => match us, hl with | [_], _ => rfl)
  have C_ring := Cal.mk (P := P) (w := w) (base := base) (x := "ring") (ps := P_ring) (ok_ring F_ring B C_asked_wishes C_free_from X_TooMany ) (glo_ok X G (c.fact 23 (f := .glo "ring") rfl)) F_ring.kp (FunD.bindsN F_ring fun _ _ _ _ _ _ us hl => match us, hl with | [_, _], _ => rfl)
  have C_turned := Cal.mk (P := P) (w := w) (base := base) (x := "turned") (ps := P_turned) (ok_turned F_turned B C_as_list C_asked_wishes X_BadWishes ) (glo_ok X G (c.fact 24 (f := .glo "turned") rfl)) F_turned.kp (FunD.bindsN F_turned fun _ _ _ _ _ _ us hl => match us, hl with | [_, _], _ => rfl)
  have C_reaches := Cal.mk (P := P) (w := w) (base := base) (x := "reaches") (ps := P_reaches) (ok_reaches F_reaches B C_asked_standing ) (glo_ok X G (c.fact 25 (f := .glo "reaches") rfl)) F_reaches.kp (FunD.bindsN F_reaches fun _ _ _ _ _ _ us hl => match us, hl with | [_], _ => rfl)
  have C_written := Cal.mk (P := P) (w := w) (base := base) (x := "written") (ps := P_written) (ok_written F_written B C_asked_wishes ) (glo_ok X G (c.fact 26 (f := .glo "written") rfl)) F_written.kp (FunD.bindsN F_written fun _ _ _ _ _ _ us hl => match us, hl with | [_, _], _ => rfl)
  have C_read := Cal.mk (P := P) (w := w) (base := base) (x := "read") (ps := P_read) (ok_read F_read B C_asked_wishes C_number_in X_BadText X_BadWishes hE) (glo_ok X G (c.fact 27 (f := .glo "read") rfl)) F_read.kp (FunD.bindsN F_read fun _ _ _ _ _ _ us hl => match us, hl with | [_], _ => rfl)
  have C_drives := Cal.mk (P := P) (w := w) (base := base) (x := "drives") (ps := P_drives) (ok_drives F_drives B C_all_parked C_as_list ) (glo_ok X G (c.fact 28 (f := .glo "drives") rfl)) F_drives.kp (FunD.bindsN F_drives fun _ _ _ _ _ _ us hl => match us, hl with | [_], _ => rfl)
  have C_tree := Cal.mk (P := P) (w := w) (base := base) (x := "tree") (ps := P_tree) (ok_tree F_tree B C_all_parked C_as_list ) (glo_ok X G (c.fact 29 (f := .glo "tree") rfl)) F_tree.kp (FunD.bindsN F_tree fun _ _ _ _ _ _ us hl => match us, hl with | [_], _ => rfl)
  have C_path := Cal.mk (P := P) (w := w) (base := base) (x := "path") (ps := P_path) (ok_path F_path B C_all_parked C_as_list C_counted ) (glo_ok X G (c.fact 30 (f := .glo "path") rfl)) F_path.kp (FunD.bindsN F_path fun _ _ _ _ _ _ us hl => match us, hl with | [_], _ => rfl)
  have C_turning := Cal.mk (P := P) (w := w) (base := base) (x := "turning") (ps := P_turning) (ok_turning F_turning B C_as_list C_ring ) (glo_ok X G (c.fact 31 (f := .glo "turning") rfl)) F_turning.kp (FunD.bindsN F_turning fun _ _ _ _ _ _ us hl => match us, hl with | [_], _ => rfl)
  have C_how_many := Cal.mk (P := P) (w := w) (base := base) (x := "how_many") (ps := P_how_many) (ok_how_many F_how_many B C_reaches ) (glo_ok X G (c.fact 32 (f := .glo "how_many") rfl)) F_how_many.kp (FunD.bindsN F_how_many fun _ _ _ _ _ _ us hl => match us, hl with | [_], _ => rfl)
  have C_from_steps := Cal.mk (P := P) (w := w) (base := base) (x := "from_steps") (ps := P_from_steps) (ok_from_steps F_from_steps B C_is_number C_reaches X_BadStanding ) (glo_ok X G (c.fact 33 (f := .glo "from_steps") rfl)) F_from_steps.kp (FunD.bindsN F_from_steps fun _ _ _ _ _ _ us hl => match us, hl with | [_, _], _ => rfl)
  have C_law_standings_promises_more1 := Cal.mk (P := P) (w := w) (base := base) (x := "_law_standings_promises_more1") (ps := P_law_standings_promises_more1) (ok_law_standings_promises_more1 F_law_standings_promises_more1 C_read C_written NO LT_law_standings_promises_more1 EX_BadText) (glo_ok X G (c.fact 34 (f := .glo "_law_standings_promises_more1") rfl)) F_law_standings_promises_more1.kp (FunD.bindsN F_law_standings_promises_more1 fun _ _ _ _ _ _ us hl => match us, hl with | [], _ => rfl)
  have C_law_standings_promises := Cal.mk (P := P) (w := w) (base := base) (x := "_law_standings_promises") (ps := P_law_standings_promises) (ok_law_standings_promises F_law_standings_promises B C_law_standings_promises_more1 C_beneath C_drives C_from_steps C_how_many C_path C_reaches C_rising C_tree C_wishes_of NO LT_law_standings_promises EX_BadTree EX_BadPath EX_BadStanding) (glo_ok X G (c.fact 35 (f := .glo "_law_standings_promises") rfl)) F_law_standings_promises.kp (FunD.bindsN F_law_standings_promises fun _ _ _ _ _ _ us hl => match us, hl with | [], _ => rfl)
  have C_law_promises_right_more1 := Cal.mk (P := P) (w := w) (base := base) (x := "_law_promises_right_more1") (ps := P_law_promises_right_more1) (ok_law_promises_right_more1 F_law_promises_right_more1 C_law_standings_promises C_drives C_path C_ring C_tree C_turned C_turning NO LT_law_promises_right_more1 M_Crowd M_Parked T EX_BadWishes EX_TooMany) (glo_ok X G (c.fact 36 (f := .glo "_law_promises_right_more1") rfl)) F_law_promises_right_more1.kp (FunD.bindsN F_law_promises_right_more1 fun _ _ _ _ _ _ us hl => match us, hl with | [], _ => rfl)
  have C_law_promises_right := Cal.mk (P := P) (w := w) (base := base) (x := "_law_promises_right") (ps := P_law_promises_right) (ok_law_promises_right F_law_promises_right B C_law_promises_right_more1 C_driven_off C_lucky C_parked C_ring C_taken NO LT_law_promises_right G_Crowd G_Parked T EX_TooMany) (glo_ok X G (c.fact 37 (f := .glo "_law_promises_right") rfl)) F_law_promises_right.kp (FunD.bindsN F_law_promises_right fun _ _ _ _ _ _ us hl => match us, hl with | [], _ => rfl)
  exact ok_law F_law B C_law_full C_law_numbers C_law_parents C_law_promises_right C_tree C_wishes_of 
end Pk
open PySem PySem.W PySem.Calls PyProof.Rows
set_option maxHeartbeats 0 in
theorem PySem.Challenge.cw_parkrow_k05_whole_tree_holds : PySem.Challenge.rw_parkrow_k05_whole_tree.Holds := by
  w_on; o_law
  refine HandSHeadRun.head_any (r := OpenLaw.row PySem.Challenge.rw_parkrow_k05_whole_tree) (q := view (OpenLaw.row PySem.Challenge.rw_parkrow_k05_whole_tree).prog [59]) (H := Pk.hkL) (ob := Pk.obL) (M := 6000) (loose := Pk.looseL) (d := HandSHeadRun.topDef (OpenLaw.row PySem.Challenge.rw_parkrow_k05_whole_tree).prog 59) (kwd := []) Pk.obL_eq
    (by kernel_rfl) (fun s => by kernel_rfl) Pk.runL (by kernel_rfl) (by kernel_rfl) (by kernel_rfl) (by rfl) (by first | assumption | decide +kernel) (by decide +kernel) ⟨rfl, rfl, rfl, rfl, rfl, by decide +kernel⟩ ?hw ?hc
  case hw => w_witness2
  case hc =>
    refine LamX.walk_ofTsE (l := PySem.Challenge.rw_parkrow_k05_whole_tree) (n := 63) (k := 10) (x := "script") (CX := fun _ => L2.CX0) rfl (by decide) (by kernel_rfl) ⟨rfl, by decide, by decide⟩ ?F (fun _ _ _ _ _ z => z)
    intro w mg fa h Y G hmg0
    obtain ⟨K, KX, c⟩ := Y
    have hmg : mg ("law" : PySem.Str) = some (.ref fa) := by
      have e : (HandSHeadRun.topDef (OpenLaw.row PySem.Challenge.rw_parkrow_k05_whole_tree).prog 59).name = ("law" : PySem.Str) := by kernel_rfl
      rw [← e]
      exact hmg0
    obtain ⟨fd, hb, hF⟩ := Pk.factsL (P := (PySem.Challenge.rw_parkrow_k05_whole_tree).prog) (w := w) KX G hmg c.t.d c.more
    have hm : ∀ p ∈ Pk.tfL.map (He.cT K), ∃ d ∈ Pk.tfL, p = He.cT K d := fun p hp => by
      obtain ⟨d, hd, e⟩ := List.mem_map.mp hp
      exact ⟨d, hd, e.symm⟩
    refine ⟨K, KX, fd, Pk.tfL.map (He.cT K), Pk.spLaw (Pk.TL K) K, (fun p hp => ?_), (fun p hp => ?_), (fun p hp => ?_), hb, fun H a ns hl _ hH hS => ⟨a, ns, rfl, hS, hl, Pk.tabsL hH, fun _ => rfl⟩, hF⟩
    · obtain ⟨d, hd, rfl⟩ := hm p hp
      exact c.empty d hd
    · obtain ⟨d, hd, rfl⟩ := hm p hp
      exact c.out d hd
    · obtain ⟨d, hd, rfl⟩ := hm p hp
      exact codeHd_of_K KX (c.hd d hd)
