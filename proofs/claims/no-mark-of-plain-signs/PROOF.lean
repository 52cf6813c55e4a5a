import PyProof.Rows.All
import Wide.All
import OpenK.AllK
import Wide.FinOn
import KE.KStateDown
import Lean
import HandS.Head0
import HandS.Head1
import HandS.Head2
import HandS.HeadEnd
import HandS.Base
import HandS.Call
import HandS.List
import HandS.Comp
import HandS.Ends
import HandS.Dict
import HandS.Iter
import HandS.Text
import HandS.More
import HandS.Words
import HandS.WordsList
import HandS.WordsDict
import HandS.WordsExc
import HandS.Exc
import HandS.ExcOwn
import HandS.TryOnly
import HandS.Evl
import HandS.IsInst
import HandS.TupAny
import HandS.NoneIn
import HandS.Replace
import HandS.Strs
import HandS.Defaults
import HandS.HeadHook1
import HandS.HeadHook2
import HandS.HeadHook3
import HandS.ExcInit
import HandS.WideBits
import HandS.Zip
import KE.GoesMore
import KE.GoesZip
import PyProof.EnumMake
import PyProof.Draws
import HandS.Style
import HandS.ReCall
import KE.KUnpackStar
import HandS.ExcCtx
import HandS.ExcField
import HandS.HotCalls
import KE.GoesEnum
import HandS.DictComp
import PySem.Challenge.RW_sealedreach_k80_whole_no_mark_of_plain_s
set_option Elab.async false
set_option linter.all false
set_option maxRecDepth 100000
set_option maxHeartbeats 4000000
/-! The data layer: expressions and blocks of pure defs, told by the data that they give. -/
namespace Sr
open PySem PySem.Spec PyProof.Rows L2
open Evl (Ex)
abbrev Dl := List (Option PyData)

/-! ### data stay as the heap grows -/
section
variable {K : PySem.W.Frag} {H H' : Hp}
mutual
theorem dp_ex (e : Ex H H') : ∀ (d : PyData) (v : V), Dp K H v d → Dp K H' v d
  | .none, _, h => by cases h; exact .non
  | .bool b, _, h => by cases h; exact .bl b
  | .int i, _, h => by cases h; exact .int i
  | .str x, _, h => by cases h; exact .str x
  | .list ds, _, h => by
    cases h with
    | lst hs ha => exact .lst (Evl.ex_l e hs) (dps_ex e ds _ ha)
  | .tuple ds, _, h => by
    cases h with
    | tup hs ha => exact .tup (Evl.ex_t e hs) (dps_ex e ds _ ha)
  | .dict _, _, h => by cases h
theorem dps_ex (e : Ex H H') : ∀ (ds : List PyData) (vs : List V), DpAll K H vs ds → DpAll K H' vs ds
  | [], _, h => by cases h; exact .nil
  | d :: ds, _, h => by
    cases h with
    | cons h1 h2 => exact .cons (dp_ex e d _ h1) (dps_ex e ds _ h2)
end
theorem dpa_len : ∀ {vs : List V} {ds : List PyData}, DpAll K H vs ds → vs.length = ds.length
  | _, _, .nil => rfl
  | _, _, .cons _ t => congrArg Nat.succ (dpa_len t)
theorem dpa_get : ∀ {vs : List V} {ds : List PyData} {i : Nat} {d : PyData}, DpAll K H vs ds → ds[i]? = some d → ∃ v, vs[i]? = some v ∧ Dp K H v d
  | _, _, 0, _, .cons h _, e => ⟨_, rfl, by rw [← Option.some.inj e]; exact h⟩
  | _, _, i + 1, d, .cons _ t, e => dpa_get (i := i) (d := d) t (by simpa using e)
  | _, _, _, _, .nil, e => by simp at e
theorem dpa_get' : ∀ {vs : List V} {ds : List PyData} {i : Nat} {v : V}, DpAll K H vs ds → vs[i]? = some v → ∃ d, ds[i]? = some d ∧ Dp K H v d
  | _, _, 0, _, .cons h _, e => ⟨_, rfl, by rw [← Option.some.inj e]; exact h⟩
  | _, _, i + 1, v, .cons _ t, e => dpa_get' (i := i) (v := v) t (by simpa using e)
  | _, _, _, _, .nil, e => by simp at e
theorem dpa_app : ∀ {vs ws : List V} {ds es : List PyData}, DpAll K H vs ds → DpAll K H ws es → DpAll K H (vs ++ ws) (ds ++ es)
  | _, _, _, _, .nil, s => s
  | _, _, _, _, .cons h t, s => .cons h (dpa_app t s)
theorem dpa_take : ∀ {vs : List V} {ds : List PyData} (n : Nat), DpAll K H vs ds → DpAll K H (vs.take n) (ds.take n)
  | _, _, 0, _ => .nil
  | _, _, _ + 1, .nil => .nil
  | _, _, n + 1, .cons h t => .cons h (dpa_take n t)
theorem dpa_drop : ∀ {vs : List V} {ds : List PyData} (n : Nat), DpAll K H vs ds → DpAll K H (vs.drop n) (ds.drop n)
  | _, _, 0, h => h
  | _, _, _ + 1, .nil => .nil
  | _, _, n + 1, .cons _ t => dpa_drop n t
theorem dp_int {v : V} {i : Int} (h : Dp K H v (.int i)) : v = .int i := by cases h; rfl
theorem dp_bl {v : V} {b : Bool} (h : Dp K H v (.bool b)) : v = .bl b := by cases h; rfl
theorem dp_str {v : V} {x : Str} (h : Dp K H v (.str x)) : v = .str x := by cases h; rfl
theorem dp_non {v : V} (h : Dp K H v .none) : v = .non := by cases h; rfl
theorem dp_tup {v : V} {ds : List PyData} (h : Dp K H v (.tuple ds)) : ∃ a xs, v = .ref a ∧ SqT K H a xs ∧ DpAll K H xs ds := by
  cases h with
  | tup hs ha => exact ⟨_, _, rfl, hs, ha⟩
theorem dp_lst {v : V} {ds : List PyData} (h : Dp K H v (.list ds)) : ∃ a xs, v = .ref a ∧ SqL K H a xs ∧ DpAll K H xs ds := by
  cases h with
  | lst hs ha => exact ⟨_, _, rfl, hs, ha⟩
end

/-! ### slots -/
/-- a standing fact of the heap -/
class SJ where
  p : L2.St → Hp → Prop
  ok : Nat → Prop
  st : ∀ {σ : L2.St} {H H' : Hp}, Ex H H' → p σ H → p σ H'
  set : ∀ {σ : L2.St} {H : Hp} {i : Nat} {x : Option V}, ok i → p σ H → p (σ.set i x) H
instance (priority := low) sjT : SJ := ⟨fun _ _ => True, fun _ => True, fun _ _ => trivial, fun _ _ => trivial⟩
def Sl [SJ] (K : PySem.W.Frag) (H : Hp) (σ : L2.St) (Δ : Dl) : Prop := (SJ.p σ H ∧ σ.length = Δ.length) ∧ ∀ (i : Nat) (d : PyData), Δ[i]? = some (some d) → ∃ v, σ[i]? = some (some v) ∧ Dp K H v d
section
variable {K : PySem.W.Frag} {H H' : Hp} {σ : L2.St} {Δ : Dl}
theorem Sl.ex [SJ] (s : Sl K H σ Δ) (e : Ex H H') : Sl K H' σ Δ := ⟨⟨SJ.st e s.1.1, s.1.2⟩, fun i d h => let ⟨v, a, r⟩ := s.2 i d h; ⟨v, a, dp_ex e _ _ r⟩⟩
theorem Sl.set [SJ] (s : Sl K H σ Δ) {i : Nat} {v : V} {d : PyData} (r : Dp K H v d) (h0 : SJ.ok i) : Sl K H (σ.set i (some v)) (Δ.set i (some d)) := by
  refine ⟨⟨SJ.set h0 s.1.1, by simp [s.1.2]⟩, fun j e h => ?_⟩
  rw [List.getElem?_set] at h
  by_cases q : i = j
  · subst q
    rw [if_pos rfl] at h
    split at h
    · rename_i hl
      cases h
      exact ⟨v, by rw [List.getElem?_set_self (by rw [s.1.2]; exact hl)], r⟩
    · cases h
  · rw [if_neg q] at h
    obtain ⟨w, a, b⟩ := s.2 j e h
    exact ⟨w, by rw [List.getElem?_set_ne q]; exact a, b⟩
theorem sl_start [J : SJ] {N : List Str} {vs : List V} (hJ : J.p (L2.start N vs) H) {ds : List PyData} (h : DpAll K H vs ds) (n : Nat) (hn : N.length - vs.length = n) : Sl K H (L2.start N vs) (ds.map some ++ List.replicate n none) := by
  refine ⟨⟨hJ, ?_⟩, fun i d e => ?_⟩
  · unfold L2.start
    rw [List.length_append, List.length_append, List.length_map, List.length_map, List.length_replicate, List.length_replicate, dpa_len h, ← hn, dpa_len h]
  · by_cases hi : i < ds.length
    · rw [List.getElem?_append_left (by simpa using hi), List.getElem?_map] at e
      cases q : ds[i]? with
      | none => rw [q] at e; cases e
      | some d' =>
        rw [q] at e
        have e2 : d' = d := by simpa using e
        obtain ⟨v, a, r⟩ := dpa_get h q
        refine ⟨v, ?_, e2 ▸ r⟩
        unfold L2.start
        rw [List.getElem?_append_left (by simpa [dpa_len h] using hi), List.getElem?_map, a]
        rfl
    · rw [List.getElem?_append_right (by simpa using Nat.le_of_not_lt hi), List.getElem?_replicate] at e
      split at e <;> cases e
end

/-! ### judgements -/
def GE [SJ] (K : PySem.W.Frag) (te : TE) (Δ : Dl) (d : PyData) : Prop := ∀ σ H, Sl K H σ Δ → ∀ Q : VK, (∀ v H', Ex H H' → Dp K H' v d → Q v H') → te σ H Q
def GT [SJ] (K : PySem.W.Frag) (tt : TT) (Δ : Dl) (b : Bool) : Prop := ∀ σ H, Sl K H σ Δ → ∀ Q : Bool → Hp → Prop, (∀ H', Ex H H' → Q b H') → tt σ H Q
def GA [SJ] (K : PySem.W.Frag) (ta : TA) (Δ : Dl) (ds : List PyData) : Prop := ∀ σ H, Sl K H σ Δ → ∀ Q : List V → Hp → Prop, (∀ vs H', Ex H H' → DpAll K H' vs ds → Q vs H') → ta σ H Q
structure ED [SJ] (X : Cx) (e : Expr) (Δ : Dl) (d : PyData) : Prop where
  ex : ∃ t, PE X e t ∧ GE X.K t Δ d
structure TD [SJ] (X : Cx) (e : Expr) (Δ : Dl) (b : Bool) : Prop where
  ex : ∃ t, PT X e t ∧ GT X.K t Δ b
structure WD [SJ] (X : Cx) (e : Expr) (Δ : Dl) (b : Bool) : Prop where
  ex : ∃ t, PW X e t ∧ GT X.K t Δ b
structure AD [SJ] (X : Cx) (es : List Expr) (Δ : Dl) (ds : List PyData) : Prop where
  ex : ∃ t, PA X es t ∧ GA X.K t Δ ds
section
variable {X : Cx} {Δ : Dl} {a b c e : Expr} {es rest : List Expr} {d d1 d2 : PyData} {ds : List PyData} {pos : Pos}

theorem ed_is [SJ] (h : ED X e Δ d) (q : d = d1) : ED X e Δ d1 := q ▸ h
theorem td_is [SJ] {p q : Bool} (h : TD X e Δ p) (z : p = q) : TD X e Δ q := z ▸ h
theorem ed_var [SJ] (i : Nat) {x : Str} (h : Δ[i]? = some (some d) := by rfl) (hN : X.N[i]? = some x := by rfl) (hv : Vis X.env.scope x := by first | exact Or.inl rfl | exact Or.inr (Or.inl rfl) | exact Or.inr (Or.inr rfl))
    (hd : (x == ("__debug__" : Str)) = false := by decide) (hcd : (x == ("__classdict__" : Str)) = false := by decide) : ED X (.Name x pos) Δ d :=
  ⟨_, pv i hN hv hd hcd, fun _ H s _ q => let ⟨v, e, r⟩ := s.2 i d h; ⟨v, e, q v H (Ex.refl H) r⟩⟩
theorem ed_int [SJ] {i : Int} {j} : ED X (.Constant (.int i) j pos) Δ (.int i) := ⟨_, pe_int, fun _ H _ _ q => q _ H (Ex.refl H) (.int i)⟩
theorem ed_bl [SJ] {i : Bool} {j} : ED X (.Constant (.bool i) j pos) Δ (.bool i) := ⟨_, pe_bl, fun _ H _ _ q => q _ H (Ex.refl H) (.bl i)⟩
theorem ed_non [SJ] {j} : ED X (.Constant .none j pos) Δ .none := ⟨_, pe_non, fun _ H _ _ q => q _ H (Ex.refl H) .non⟩
theorem ed_str [SJ] {x : Str} {j} : ED X (.Constant (.str x) j pos) Δ (.str x) := ⟨_, pe_str, fun _ H _ _ q => q _ H (Ex.refl H) (.str x)⟩
/-- a constant of the module -/
structure Glb (K : PySem.W.Frag) (mg : Str → Option Value) (x : Str) (d : PyData) : Prop where
  ex : ∃ u v, mg x = some u ∧ RelV v u ∧ ∀ H, Dp K H v d
theorem ed_glob [SJ] {x : Str} (g : Glb X.K X.mg x d) (hg : Gl X x := by rfl) (hd : (x == ("__debug__" : Str)) = false := by decide) : ED X (.Name x pos) Δ d :=
  let ⟨_, _, hm, r, h⟩ := g.ex
  ⟨_, pe_glob hg hm r hd, fun _ H _ _ q => q _ H (Ex.refl H) (h H)⟩

/-! operators -/
/-- what a two-place operation gives on data -/
def RD (K : PySem.W.Frag) (r : R2) (d1 d2 d : PyData) : Prop := ∀ x y H, Dp K H x d1 → Dp K H y d2 → ∀ Q : VK, (∀ v H', Ex H H' → Dp K H' v d → Q v H') → r x y H Q
theorem ge_op [SJ] {r : R2} {ta tb : TE} (ga : GE X.K ta Δ d1) (gb : GE X.K tb Δ d2) (hr : RD X.K r d1 d2 d) : GE X.K (tOp r ta tb) Δ d := fun σ H s Q q =>
  ga σ H s _ fun x H1 e1 r1 => gb σ H1 (s.ex e1) _ fun y H2 e2 r2 => hr x y H2 (dp_ex e2 _ _ r1) r2 Q fun v H3 e3 r3 => q v H3 ((e1.trans e2).trans e3) r3
theorem ed_op [SJ] {op : Operator} {r : R2} (ho : OpR X (binaryOp op) r) (hr : RD X.K r d1 d2 d) (ha : ED X a Δ d1) (hb : ED X b Δ d2) : ED X (.BinOp a op b pos) Δ d :=
  let ⟨_, pa, ga⟩ := ha.ex
  let ⟨_, pb, gb⟩ := hb.ex
  ⟨_, pe_op ho pa pb, ge_op ga gb hr⟩
theorem rd_I0 {g : Int → Int → V} {i j : Int} (h : ∀ H, Dp X.K H (g i j) d) : RD X.K (rI0 g) (.int i) (.int j) d := fun x y H h1 h2 Q q => ⟨i, j, dp_int h1, dp_int h2, q _ H (Ex.refl H) (h H)⟩
theorem rd_I {C : Int → Int → Prop} {g : Int → Int → V} {i j : Int} (hc : C i j) (h : ∀ H, Dp X.K H (g i j) d) : RD X.K (rI C g) (.int i) (.int j) d := fun x y H h1 h2 Q q => ⟨i, j, dp_int h1, dp_int h2, hc, q _ H (Ex.refl H) (h H)⟩
variable {i j : Int}
theorem ed_add [SJ] (ha : ED X a Δ (.int i)) (hb : ED X b Δ (.int j)) : ED X (.BinOp a .Add b pos) Δ (.int (i + j)) := ed_op op_add (rd_I0 fun _ => .int _) ha hb
theorem ed_sub [SJ] (ha : ED X a Δ (.int i)) (hb : ED X b Δ (.int j)) : ED X (.BinOp a .Sub b pos) Δ (.int (i - j)) := ed_op op_sub (rd_I0 fun _ => .int _) ha hb
theorem ed_mul [SJ] (ha : ED X a Δ (.int i)) (hb : ED X b Δ (.int j)) (hc : CMul i j) : ED X (.BinOp a .Mult b pos) Δ (.int (i * j)) := ed_op op_mul (rd_I hc fun _ => .int _) ha hb
theorem ed_fdiv [SJ] (ha : ED X a Δ (.int i)) (hb : ED X b Δ (.int j)) (hc : CDiv i j) : ED X (.BinOp a .FloorDiv b pos) Δ (.int (i / j)) := ed_op op_fdiv (rd_I hc fun _ => .int _) ha hb
theorem ed_mod [SJ] (ha : ED X a Δ (.int i)) (hb : ED X b Δ (.int j)) (hc : 0 < j) : ED X (.BinOp a .Mod b pos) Δ (.int (i % j)) := ed_op op_mod (rd_I hc fun _ => .int _) ha hb
theorem ed_shl [SJ] (ha : ED X a Δ (.int i)) (hb : ED X b Δ (.int j)) (hc : CPow i j) : ED X (.BinOp a .LShift b pos) Δ (.int (i * 2 ^ j.toNat)) := ed_op op_shl (rd_I hc fun _ => .int _) ha hb
theorem ed_shr [SJ] (ha : ED X a Δ (.int i)) (hb : ED X b Δ (.int j)) (hc : 0 ≤ j) : ED X (.BinOp a .RShift b pos) Δ (.int (i / 2 ^ j.toNat)) := ed_op op_shr (rd_I hc fun _ => .int _) ha hb
theorem ed_and_ [SJ] (ha : ED X a Δ (.int i)) (hb : ED X b Δ (.int j)) : ED X (.BinOp a .BitAnd b pos) Δ (.int (Builtin.bitAnd i j)) := ed_op op_and (rd_I0 fun _ => .int _) ha hb
theorem ed_or_ [SJ] (ha : ED X a Δ (.int i)) (hb : ED X b Δ (.int j)) : ED X (.BinOp a .BitOr b pos) Δ (.int (Builtin.bitOr i j)) := ed_op op_or (rd_I0 fun _ => .int _) ha hb
theorem ed_xor_ [SJ] (ha : ED X a Δ (.int i)) (hb : ED X b Δ (.int j)) : ED X (.BinOp a .BitXor b pos) Δ (.int (Builtin.bitXor i j)) := ed_op op_xor (rd_I0 fun _ => .int _) ha hb
theorem ed_neg [SJ] (ha : ED X a Δ (.int i)) : ED X (.UnaryOp .USub a pos) Δ (.int (-i)) :=
  let ⟨_, pa, ga⟩ := ha.ex
  ⟨_, pe_un un_neg pa, fun σ H s Q q => ga σ H s _ fun x H1 e r => ⟨i, dp_int r, q _ H1 e (.int _)⟩⟩

/-! comparisons -/
theorem ed_cmp [SJ] {op : CmpOp} {r : R2} (ho : OpR X (compareOp op) r) (hr : RD X.K r d1 d2 d) (ha : ED X a Δ d1) (hb : ED X b Δ d2) (hm : behindInMarks op b = false) : ED X (.Compare a [op] [b] pos) Δ d :=
  let ⟨_, pa, ga⟩ := ha.ex
  let ⟨_, pb, gb⟩ := hb.ex
  ⟨_, pe_cmpR ho pa pb hm, ge_op ga gb hr⟩
theorem gt_test [SJ] {t : TE} {p : Bool} (g : GE X.K t Δ (.bool p)) : GT X.K (tTest t) Δ p := fun σ H s Q q => g σ H s _ fun v H1 e r => ⟨p, dp_bl r, q H1 e⟩
theorem gt_B [SJ] {t : TE} {p : Bool} (g : GE X.K t Δ (.bool p)) : GT X.K (tB t) Δ p := fun σ H s Q q => g σ H s _ fun v H1 e r => ⟨p, dp_bl r, q H1 e⟩
theorem td_cmp [SJ] {op : CmpOp} {r : R2} {p : Bool} (ho : OpR X (compareOp op) r) (hr : RD X.K r d1 d2 (.bool p)) (ha : ED X a Δ d1) (hb : ED X b Δ d2) (hm : behindInMarks op b = false) : TD X (.Compare a [op] [b] pos) Δ p :=
  let ⟨_, pa, ga⟩ := ha.ex
  let ⟨_, pb, gb⟩ := hb.ex
  ⟨_, pt_cmpR ho pa pb hm, gt_test (ge_op ga gb hr)⟩
theorem td_val [SJ] {p : Bool} (h : ED X e Δ (.bool p)) (he : ∀ whole, isTrue e X.env whole = (do let v ← whole; standAt e.pos; holding [v] (truthy v)) := by intro _; rfl) : TD X e Δ p :=
  let ⟨_, pa, ga⟩ := h.ex
  ⟨_, pt_val pa he, gt_B ga⟩
theorem ed_lt [SJ] (ha : ED X a Δ (.int i)) (hb : ED X b Δ (.int j)) : ED X (.Compare a [.Lt] [b] pos) Δ (.bool (decide (i < j))) := ed_cmp op_lt (rd_I0 fun _ => .bl _) ha hb (nomark _)
theorem ed_le [SJ] (ha : ED X a Δ (.int i)) (hb : ED X b Δ (.int j)) : ED X (.Compare a [.LtE] [b] pos) Δ (.bool (decide (i ≤ j))) := ed_cmp op_le (rd_I0 fun _ => .bl _) ha hb (nomark _)
theorem ed_gt [SJ] (ha : ED X a Δ (.int i)) (hb : ED X b Δ (.int j)) : ED X (.Compare a [.Gt] [b] pos) Δ (.bool (decide (j < i))) := ed_cmp op_gt (rd_I0 fun _ => .bl _) ha hb (nomark _)
theorem ed_ge [SJ] (ha : ED X a Δ (.int i)) (hb : ED X b Δ (.int j)) : ED X (.Compare a [.GtE] [b] pos) Δ (.bool (decide (j ≤ i))) := ed_cmp op_ge (rd_I0 fun _ => .bl _) ha hb (nomark _)
theorem td_lt [SJ] (ha : ED X a Δ (.int i)) (hb : ED X b Δ (.int j)) : TD X (.Compare a [.Lt] [b] pos) Δ (decide (i < j)) := td_cmp op_lt (rd_I0 fun _ => .bl _) ha hb (nomark _)
theorem td_le [SJ] (ha : ED X a Δ (.int i)) (hb : ED X b Δ (.int j)) : TD X (.Compare a [.LtE] [b] pos) Δ (decide (i ≤ j)) := td_cmp op_le (rd_I0 fun _ => .bl _) ha hb (nomark _)
theorem td_gt [SJ] (ha : ED X a Δ (.int i)) (hb : ED X b Δ (.int j)) : TD X (.Compare a [.Gt] [b] pos) Δ (decide (j < i)) := td_cmp op_gt (rd_I0 fun _ => .bl _) ha hb (nomark _)
theorem td_ge [SJ] (ha : ED X a Δ (.int i)) (hb : ED X b Δ (.int j)) : TD X (.Compare a [.GtE] [b] pos) Δ (decide (j ≤ i)) := td_cmp op_ge (rd_I0 fun _ => .bl _) ha hb (nomark _)
theorem rd_eqD (s1 : SeqAt.shaped d1 = true) (s2 : SeqAt.shaped d2 = true) : RD X.K (rEqD X.K) d1 d2 (.bool (PyData.eqv d1 d2)) := fun x y H h1 h2 Q q => ⟨d1, d2, h1, h2, s1, s2, q _ H (Ex.refl H) (.bl _)⟩
theorem rd_neD (s1 : SeqAt.shaped d1 = true) (s2 : SeqAt.shaped d2 = true) : RD X.K (rNeD X.K) d1 d2 (.bool (!PyData.eqv d1 d2)) := fun x y H h1 h2 Q q => ⟨d1, d2, h1, h2, s1, s2, q _ H (Ex.refl H) (.bl _)⟩
theorem ed_eq [SJ] (hu : X.A.units + 64 < cLine) (ha : ED X a Δ d1) (hb : ED X b Δ d2) (s1 : SeqAt.shaped d1 = true := by rfl) (s2 : SeqAt.shaped d2 = true := by rfl) : ED X (.Compare a [.Eq] [b] pos) Δ (.bool (PyData.eqv d1 d2)) := ed_cmp (op_eqD hu) (rd_eqD s1 s2) ha hb (nomark _)
theorem ed_ne [SJ] (hu : X.A.units + 64 < cLine) (ha : ED X a Δ d1) (hb : ED X b Δ d2) (s1 : SeqAt.shaped d1 = true := by rfl) (s2 : SeqAt.shaped d2 = true := by rfl) : ED X (.Compare a [.NotEq] [b] pos) Δ (.bool (!PyData.eqv d1 d2)) := ed_cmp (op_neD hu) (rd_neD s1 s2) ha hb (nomark _)
theorem td_eq [SJ] (hu : X.A.units + 64 < cLine) (ha : ED X a Δ d1) (hb : ED X b Δ d2) (s1 : SeqAt.shaped d1 = true := by rfl) (s2 : SeqAt.shaped d2 = true := by rfl) : TD X (.Compare a [.Eq] [b] pos) Δ (PyData.eqv d1 d2) := td_cmp (op_eqD hu) (rd_eqD s1 s2) ha hb (nomark _)
theorem td_ne [SJ] (hu : X.A.units + 64 < cLine) (ha : ED X a Δ d1) (hb : ED X b Δ d2) (s1 : SeqAt.shaped d1 = true := by rfl) (s2 : SeqAt.shaped d2 = true := by rfl) : TD X (.Compare a [.NotEq] [b] pos) Δ (!PyData.eqv d1 d2) := td_cmp (op_neD hu) (rd_neD s1 s2) ha hb (nomark _)
/-- is None, is not None -/
def isN : PyData → Bool
  | .none => true
  | _ => false
theorem dp_isN {K : PySem.W.Frag} {H : Hp} {v : V} (h : Dp K H v d) : decide (v = .non) = isN d := by
  cases h <;> simp [isN]
theorem ed_isN [SJ] (ha : ED X a Δ d) {j p} : ED X (.Compare a [.Is] [.Constant .none j p] pos) Δ (.bool (isN d)) :=
  ed_cmp (d2 := .none) op_isN (fun x y H h1 h2 Q q => ⟨dp_non h2, by rw [dp_isN h1]; exact q _ H (Ex.refl H) (.bl _)⟩) ha ed_non (nomark _)
theorem td_isN [SJ] (ha : ED X a Δ d) {j p} : TD X (.Compare a [.Is] [.Constant .none j p] pos) Δ (isN d) :=
  td_cmp (d2 := .none) op_isN (fun x y H h1 h2 Q q => ⟨dp_non h2, by rw [dp_isN h1]; exact q _ H (Ex.refl H) (.bl _)⟩) ha ed_non (nomark _)
theorem td_notN [SJ] (ha : ED X a Δ d) {j p} : TD X (.Compare a [.IsNot] [.Constant .none j p] pos) Δ (!isN d) :=
  td_cmp (d2 := .none) op_notN (fun x y H h1 h2 Q q => ⟨dp_non h2, by rw [dp_isN h1]; exact q _ H (Ex.refl H) (.bl _)⟩) ha ed_non (nomark _)
theorem ed_notN [SJ] (ha : ED X a Δ d) {j p} : ED X (.Compare a [.IsNot] [.Constant .none j p] pos) Δ (.bool (!isN d)) :=
  ed_cmp (d2 := .none) op_notN (fun x y H h1 h2 Q q => ⟨dp_non h2, by rw [dp_isN h1]; exact q _ H (Ex.refl H) (.bl _)⟩) ha ed_non (nomark _)
/-- one text in another -/
def inS (x y : Str) : Bool := !(Builtin.Str.occurrences y x 0 y.length 1).isEmpty
theorem rd_inS {x y : Str} : RD X.K (fun x y H Q => ∃ i j, x = .str i ∧ y = .str j ∧ Q (.bl (!(Builtin.Str.occurrences j i 0 j.length 1).isEmpty)) H) (.str x) (.str y) (.bool (inS x y)) :=
  fun _ _ H h1 h2 Q q => ⟨x, y, dp_str h1, dp_str h2, q _ H (Ex.refl H) (.bl _)⟩
theorem rd_niS {x y : Str} : RD X.K (fun x y H Q => ∃ i j, x = .str i ∧ y = .str j ∧ Q (.bl (!(!(Builtin.Str.occurrences j i 0 j.length 1).isEmpty))) H) (.str x) (.str y) (.bool (!inS x y)) :=
  fun _ _ H h1 h2 Q q => ⟨x, y, dp_str h1, dp_str h2, q _ H (Ex.refl H) (.bl _)⟩
theorem ed_inS [SJ] {x y : Str} (ha : ED X a Δ (.str x)) (hb : ED X b Δ (.str y)) (hm : behindInMarks .In b = false := by rfl) : ED X (.Compare a [.In] [b] pos) Δ (.bool (inS x y)) := ed_cmp op_in_str rd_inS ha hb hm
theorem td_inS [SJ] {x y : Str} (ha : ED X a Δ (.str x)) (hb : ED X b Δ (.str y)) (hm : behindInMarks .In b = false := by rfl) : TD X (.Compare a [.In] [b] pos) Δ (inS x y) := td_cmp op_in_str rd_inS ha hb hm
theorem ed_niS [SJ] {x y : Str} (ha : ED X a Δ (.str x)) (hb : ED X b Δ (.str y)) (hm : behindInMarks .NotIn b = false := by rfl) : ED X (.Compare a [.NotIn] [b] pos) Δ (.bool (!inS x y)) := ed_cmp op_notin_str rd_niS ha hb hm
theorem td_niS [SJ] {x y : Str} (ha : ED X a Δ (.str x)) (hb : ED X b Δ (.str y)) (hm : behindInMarks .NotIn b = false := by rfl) : TD X (.Compare a [.NotIn] [b] pos) Δ (!inS x y) := td_cmp op_notin_str rd_niS ha hb hm

/-! and, or, not, if -/
theorem ed_one [SJ] {op} (h : ED X a Δ d) : ED X (.BoolOp op [a] pos) Δ d := let ⟨_, p, g⟩ := h.ex; ⟨_, pe_one p, g⟩
theorem ed_and [SJ] {p q : Bool} (ha : ED X a Δ (.bool p)) (hb : p = true → ED X (.BoolOp .And (b :: rest) pos) Δ (.bool q)) (hn : p = false → ∃ t, PE X (.BoolOp .And (b :: rest) pos) t) : ED X (.BoolOp .And (a :: b :: rest) pos) Δ (.bool (p && q)) := by
  obtain ⟨_, pa, ga⟩ := ha.ex
  cases p with
  | true =>
    obtain ⟨_, pb, gb⟩ := (hb rfl).ex
    exact ⟨_, pe_and pa pb, fun σ H s Q k => ga σ H s _ fun v H1 e1 r1 => ⟨true, dp_bl r1, gb σ H1 (s.ex e1) _ fun w H2 e2 r2 => k w H2 (e1.trans e2) r2⟩⟩
  | false =>
    obtain ⟨_, pb⟩ := hn rfl
    exact ⟨_, pe_and pa pb, fun σ H s Q k => ga σ H s _ fun v H1 e1 r1 => ⟨false, dp_bl r1, k _ H1 e1 (.bl _)⟩⟩
/-- code that the proof never comes to -/
theorem pe_never : PE X e (fun _ _ _ => False) := ⟨fun _ _ _ _ _ _ h => h.elim⟩
theorem pt_never : PT X e (fun _ _ _ => False) := ⟨fun _ _ _ _ _ _ h => h.elim⟩
theorem pw_never : PW X e (fun _ _ _ => False) := ⟨fun _ _ _ _ _ _ _ h => h.elim⟩
theorem ed_and' [SJ] {p q : Bool} (ha : ED X a Δ (.bool p)) (hb : p = true → ED X (.BoolOp .And (b :: rest) pos) Δ (.bool q)) : ED X (.BoolOp .And (a :: b :: rest) pos) Δ (.bool (p && q)) := ed_and ha hb fun _ => ⟨_, pe_never⟩
theorem ed_or' [SJ] {p q : Bool} (ha : ED X a Δ (.bool p)) (hb : p = false → ED X (.BoolOp .Or (b :: rest) pos) Δ (.bool q)) : ED X (.BoolOp .Or (a :: b :: rest) pos) Δ (.bool (p || q)) := by
  obtain ⟨_, pa, ga⟩ := ha.ex
  cases p with
  | false =>
    obtain ⟨_, pb, gb⟩ := (hb rfl).ex
    exact ⟨_, pe_or pa pb, fun σ H s Q k => ga σ H s _ fun v H1 e1 r1 => ⟨false, dp_bl r1, gb σ H1 (s.ex e1) _ fun w H2 e2 r2 => k w H2 (e1.trans e2) r2⟩⟩
  | true => exact ⟨_, pe_or pa pe_never, fun σ H s Q k => ga σ H s _ fun v H1 e1 r1 => ⟨true, dp_bl r1, k _ H1 e1 (.bl _)⟩⟩
theorem ed_not [SJ] {p : Bool} (ha : ED X a Δ (.bool p)) : ED X (.UnaryOp .Not a pos) Δ (.bool (!p)) :=
  let ⟨_, pa, ga⟩ := ha.ex
  ⟨_, pe_not pa, fun σ H s Q k => ga σ H s _ fun v H1 e1 r1 => ⟨p, dp_bl r1, k _ H1 e1 (.bl _)⟩⟩
theorem td_not [SJ] {p : Bool} (ha : TD X a Δ p) : TD X (.UnaryOp .Not a pos) Δ (!p) :=
  let ⟨_, pa, ga⟩ := ha.ex
  ⟨_, pt_not pa, fun σ H s Q k => ga σ H s _ fun H1 e1 => k H1 e1⟩
theorem wd_and1 [SJ] {p : Bool} (ha : TD X a Δ p) : WD X (.BoolOp .And [a] pos) Δ p := let ⟨_, pa, ga⟩ := ha.ex; ⟨_, pw_and1 pa, ga⟩
theorem wd_or1 [SJ] {p : Bool} (ha : TD X a Δ p) : WD X (.BoolOp .Or [a] pos) Δ p := let ⟨_, pa, ga⟩ := ha.ex; ⟨_, pw_or1 pa, ga⟩
theorem wd_and [SJ] {p q : Bool} (ha : TD X a Δ p) (hb : p = true → WD X (.BoolOp .And (b :: rest) pos) Δ q) : WD X (.BoolOp .And (a :: b :: rest) pos) Δ (p && q) := by
  obtain ⟨_, pa, ga⟩ := ha.ex
  cases p with
  | true =>
    obtain ⟨_, pb, gb⟩ := (hb rfl).ex
    exact ⟨_, pw_and pa pb, fun σ H s Q k => ga σ H s _ fun H1 e1 => gb σ H1 (s.ex e1) _ fun H2 e2 => k H2 (e1.trans e2)⟩
  | false => exact ⟨_, pw_and pa pw_never, fun σ H s Q k => ga σ H s _ fun H1 e1 => k H1 e1⟩
theorem wd_or [SJ] {p q : Bool} (ha : TD X a Δ p) (hb : p = false → WD X (.BoolOp .Or (b :: rest) pos) Δ q) : WD X (.BoolOp .Or (a :: b :: rest) pos) Δ (p || q) := by
  obtain ⟨_, pa, ga⟩ := ha.ex
  cases p with
  | false =>
    obtain ⟨_, pb, gb⟩ := (hb rfl).ex
    exact ⟨_, pw_or pa pb, fun σ H s Q k => ga σ H s _ fun H1 e1 => gb σ H1 (s.ex e1) _ fun H2 e2 => k H2 (e1.trans e2)⟩
  | true => exact ⟨_, pw_or pa pw_never, fun σ H s Q k => ga σ H s _ fun H1 e1 => k H1 e1⟩
theorem WD.t [SJ] {p : Bool} (h : WD X e Δ p) : TD X e Δ p := let ⟨_, pa, ga⟩ := h.ex; ⟨_, pa.pt, ga⟩
theorem ed_if [SJ] {p : Bool} (hc : TD X c Δ p) (ha : p = true → ED X a Δ d) (hb : p = false → ED X b Δ d) : ED X (.IfExp c a b pos) Δ d := by
  obtain ⟨_, pc, gc⟩ := hc.ex
  cases p with
  | true =>
    obtain ⟨_, pa, ga⟩ := (ha rfl).ex
    exact ⟨_, pe_ifExp pc pa pe_never, fun σ H s Q k => gc σ H s _ fun H1 e1 => ga σ H1 (s.ex e1) _ fun w H2 e2 r2 => k w H2 (e1.trans e2) r2⟩
  | false =>
    obtain ⟨_, pb, gb⟩ := (hb rfl).ex
    exact ⟨_, pe_ifExp pc pe_never pb, fun σ H s Q k => gc σ H s _ fun H1 e1 => gb σ H1 (s.ex e1) _ fun w H2 e2 r2 => k w H2 (e1.trans e2) r2⟩

/-! argument lists, tuples, lists -/
theorem ad_nil [SJ] : AD X [] Δ [] := ⟨_, pa_nil, fun _ H _ _ q => q [] H (Ex.refl H) .nil⟩
theorem ad_cons [SJ] (h : ED X e Δ d) (hr : AD X es Δ ds) (hs : starEach (e :: es) X.env = (false, eval e X.env) :: starEach es X.env := by rfl) : AD X (e :: es) Δ (d :: ds) :=
  let ⟨_, p, g⟩ := h.ex
  let ⟨_, pr, gr⟩ := hr.ex
  ⟨_, pa_cons p pr hs, fun σ H s Q q => g σ H s _ fun v H1 e1 r1 => gr σ H1 (s.ex e1) _ fun vs H2 e2 r2 => q (v :: vs) H2 (e1.trans e2) (.cons (dp_ex e2 _ _ r1) r2)⟩
theorem ed_tup [SJ] {k} (h : AD X es Δ ds) (hl : ds.length ≤ 100 := by exact Nat.le_of_ble_eq_true rfl) : ED X (.Tuple es k pos) Δ (.tuple ds) :=
  let ⟨_, p, g⟩ := h.ex
  ⟨_, pe_tup p, fun σ H s Q q => g σ H s _ fun vs H1 e1 r1 => ⟨by rw [dpa_len r1]; exact Nat.le_trans hl (by decide), fun t ht => q _ _ (e1.trans (Ex.new ht)) (.tup (SqT.of upd_same) (dps_ex (Ex.new ht) _ _ r1))⟩⟩
theorem ed_lst [SJ] (h : AD X es Δ ds) (hl : ds.length ≤ 100 := by exact Nat.le_of_ble_eq_true rfl) : ED X (.List es pos) Δ (.list ds) :=
  let ⟨_, p, g⟩ := h.ex
  ⟨_, pe_lst p, fun σ H s Q q => g σ H s _ fun vs H1 e1 r1 => ⟨by rw [dpa_len r1]; exact Nat.le_trans hl (by decide), fun t ht => q _ _ (e1.trans (Ex.new ht)) (.lst (SqL.of upd_same) (dps_ex (Ex.new ht) _ _ r1))⟩⟩
end
end Sr

set_option Elab.async false
set_option linter.all false
set_option maxRecDepth 100000
set_option maxHeartbeats 4000000
/-! The data layer, further: subscripts, slices, calls, built-ins, comprehensions, statements. -/
namespace Sr
open PySem PySem.Spec PyProof.Rows L2
open Evl (Ex)

/-! ### readings of small things, by data -/
section
variable {K : PySem.W.Frag} {Δ : Dl} {d d1 d2 : PyData} {te ta tb : TE} {b : Bool}
theorem ge_var [SJ] {i : Nat} (h : Δ[i]? = some (some d)) : GE K (tVar i) Δ d := fun _ H s _ q => let ⟨v, e, r⟩ := s.2 i d h; ⟨v, e, q v H (Ex.refl H) r⟩
theorem ge_c [SJ] {v : V} (h : ∀ H, Dp K H v d) : GE K (tC v) Δ d := fun _ H _ _ q => q v H (Ex.refl H) (h H)
theorem ge_op' [SJ] {r : R2} (ga : GE K ta Δ d1) (gb : GE K tb Δ d2) (hr : RD K r d1 d2 d) : GE K (tOp r ta tb) Δ d := fun σ H s Q q =>
  ga σ H s _ fun x H1 e1 r1 => gb σ H1 (s.ex e1) _ fun y H2 e2 r2 => hr x y H2 (dp_ex e2 _ _ r1) r2 Q fun v H3 e3 r3 => q v H3 ((e1.trans e2).trans e3) r3
theorem gt_test' [SJ] {t : TE} {p : Bool} (g : GE K t Δ (.bool p)) : GT K (tTest t) Δ p := fun σ H s Q q => g σ H s _ fun v H1 e r => ⟨p, dp_bl r, q H1 e⟩
theorem rd_I0' {g : Int → Int → V} {i j : Int} (h : ∀ H, Dp K H (g i j) d) : RD K (rI0 g) (.int i) (.int j) d := fun x y H h1 h2 Q q => ⟨i, j, dp_int h1, dp_int h2, q _ H (Ex.refl H) (h H)⟩
theorem rd_I' {C : Int → Int → Prop} {g : Int → Int → V} {i j : Int} (hc : C i j) (h : ∀ H, Dp K H (g i j) d) : RD K (rI C g) (.int i) (.int j) d := fun x y H h1 h2 Q q => ⟨i, j, dp_int h1, dp_int h2, hc, q _ H (Ex.refl H) (h H)⟩
theorem ga_nil [SJ] : GA K tNil Δ [] := fun _ H _ _ q => q [] H (Ex.refl H) .nil
theorem ga_cons [SJ] {tr : TA} {ds : List PyData} (g : GE K te Δ d) (gr : GA K tr Δ ds) : GA K (tCons te tr) Δ (d :: ds) := fun σ H s Q q =>
  g σ H s _ fun v H1 e1 r1 => gr σ H1 (s.ex e1) _ fun vs H2 e2 r2 => q (v :: vs) H2 (e1.trans e2) (.cons (dp_ex e2 _ _ r1) r2)
end

section
variable {X : Cx} {Δ : Dl} {a b c e : Expr} {es rest : List Expr} {d d1 d2 : PyData} {ds : List PyData} {pos : Pos}
/-! ### subscripts, slices -/
theorem atI_dp {K : PySem.W.Frag} {H : Hp} {xs : List V} {ds : List PyData} {i : Int} {d : PyData} (r : DpAll K H xs ds) (h : atI ds i = some d) : ∃ v, atI xs i = some v ∧ Dp K H v d := by
  unfold atI at h ⊢
  rw [dpa_len r]
  cases q : ixN ds.length i with
  | none => rw [q] at h; cases h
  | some j =>
    rw [q] at h
    exact dpa_get r h
theorem rd_ixT {K : PySem.W.Frag} {i : Int} (h : atI ds i = some d) : RD K (rIxT K) (.tuple ds) (.int i) d := fun x y H h1 h2 Q q =>
  let ⟨p, xs, e, hs, r⟩ := dp_tup h1
  let ⟨v, hv, rv⟩ := atI_dp r h
  ⟨p, xs, i, v, e, dp_int h2, hs, hv, q v H (Ex.refl H) rv⟩
theorem rd_ixL {K : PySem.W.Frag} {i : Int} (h : atI ds i = some d) : RD K (rIxL K) (.list ds) (.int i) d := fun x y H h1 h2 Q q =>
  let ⟨p, xs, e, hs, r⟩ := dp_lst h1
  let ⟨v, hv, rv⟩ := atI_dp r h
  ⟨p, xs, i, v, e, dp_int h2, hs, hv, q v H (Ex.refl H) rv⟩
theorem ed_ixT [SJ] {i : Int} (ha : ED X a Δ (.tuple ds)) (hb : ED X b Δ (.int i)) (h : atI ds i = some d := by rfl) (hs : PlainIx b := by exact fun _ _ => rfl) : ED X (.Subscript a b pos) Δ d :=
  let ⟨_, pa, ga⟩ := ha.ex
  let ⟨_, pb, gb⟩ := hb.ex
  ⟨_, pe_ix ix_tup pa pb hs, ge_op ga gb (rd_ixT h)⟩
theorem ed_ixL [SJ] {i : Int} (ha : ED X a Δ (.list ds)) (hb : ED X b Δ (.int i)) (h : atI ds i = some d := by rfl) (hs : PlainIx b := by exact fun _ _ => rfl) : ED X (.Subscript a b pos) Δ d :=
  let ⟨_, pa, ga⟩ := ha.ex
  let ⟨_, pb, gb⟩ := hb.ex
  ⟨_, pe_ix ix_list pa pb hs, ge_op ga gb (rd_ixL h)⟩
/-- t[:n] -/
theorem sIx_lo (n : Nat) : HT.sIx n 0 none = 0 := rfl
def cutD (ds : List PyData) (lo hi : Option Int) : List PyData := (ds.drop (HT.sIx ds.length 0 lo)).take (HT.sIx ds.length ds.length hi - HT.sIx ds.length 0 lo)
theorem dpa_cut {K : PySem.W.Frag} {H : Hp} {xs : List V} {ds : List PyData} {lo hi : Option Int} (r : DpAll K H xs ds) : DpAll K H (cutV xs lo hi) (cutD ds lo hi) := by
  unfold cutV cutD
  rw [dpa_len r]
  exact dpa_take _ (dpa_drop _ r)
theorem cutD_all {ds : List PyData} {lo hi : Option Int} (h : HT.sIx ds.length 0 lo = 0 ∧ HT.sIx ds.length ds.length hi = ds.length) : cutD ds lo hi = ds := by
  unfold cutD
  rw [h.1, h.2, List.drop_zero, Nat.sub_zero, List.take_length]
/-- a part of a slice: left out, or an int -/
structure OD [SJ] (X : Cx) (o : Option Expr) (Δ : Dl) (n : Option Int) : Prop where
  ex : ∃ t : TO, PO X o t ∧ ∀ σ H, Sl X.K H σ Δ → ∀ Q : Option Int → Hp → Prop, (∀ H', Ex H H' → Q n H') → t σ H Q
theorem od_none [SJ] : OD X none Δ none := ⟨_, po_none, fun _ H _ _ q => q H (Ex.refl H)⟩
theorem od_int [SJ] {i : Int} (h : ED X e Δ (.int i)) : OD X (some e) Δ (some i) :=
  let ⟨_, p, g⟩ := h.ex
  ⟨_, po_some p, fun σ H s Q q => g σ H s _ fun v H1 e1 r => ⟨i, dp_int r, q H1 e1⟩⟩
theorem ed_slT [SJ] {lo hi : Option Expr} {l u : Option Int} {p2 : Pos} (ha : ED X a Δ (.tuple ds)) (hl : OD X lo Δ l) (hu : OD X hi Δ u) : ED X (.Subscript a (.Slice lo hi none p2) pos) Δ (.tuple (cutD ds l u)) :=
  let ⟨_, pa, ga⟩ := ha.ex
  let ⟨_, pl, gl⟩ := hl.ex
  let ⟨_, pu, gu⟩ := hu.ex
  ⟨_, pe_slice sl_tupA pa pl pu, fun σ H s Q q => ga σ H s _ fun x H1 e1 r1 => gl σ H1 (s.ex e1) _ fun H2 e2 => gu σ H2 (s.ex (e1.trans e2)) _ fun H3 e3 => by
    obtain ⟨p, xs, e, hs, r⟩ := dp_tup (dp_ex (e2.trans e3) _ _ r1)
    subst e
    have len := dpa_len r
    refine ⟨p, xs, rfl, hs, fun hw => ?_, fun _ t ht => ?_⟩
    · refine q _ H3 ((e1.trans e2).trans e3) (.tup hs ?_)
      rw [len] at hw
      rw [cutD_all hw]
      exact r
    · exact q _ _ (((e1.trans e2).trans e3).trans (Ex.new ht)) (.tup (SqT.of upd_same) (dps_ex (Ex.new ht) _ _ (dpa_cut r)))⟩

/-! ### calls of defs -/
/-- a def that is a function of data -/
def spD (K : PySem.W.Frag) (R : List PyData → PyData → Prop) : Sp := fun vs H Q _ => ∃ ds d, DpAll K H vs ds ∧ R ds d ∧ ∀ v H', Ex H H' → Dp K H' v d → Q v H'
structure PF (P : Program) (w : World) (K : PySem.W.Frag) (mg : Str → Option Value) (base : Heap) (k : Nat) (x : Str) (R : List PyData → PyData → Prop) : Prop where
  ex : ∃ (f : Addr) (fd : FuncData) (ps : List Str) (dvs : List V) (us : List Value) (R' : List PyData → PyData → Prop), FnOk P w K mg base CX0 k f fd ps (spD K R') ∧ mg x = some (.ref f) ∧ PySem.W.keepIn K (.ref f) = true ∧ Binds K fd ps us ∧ Vals dvs us ∧
    ∀ ds d, R ds d → ∃ es, (∀ H, DpAll K H dvs es) ∧ R' (ds ++ es) d
theorem ed_call [SJ] {x : Str} {p : Pos} {k : Nat} {R : List PyData → PyData → Prop} (pf : PF X.prog X.w X.K X.mg X.base k x R) (hr : Room k X.A) (ha : AD X (e :: es) Δ ds) (h : R ds d) (hg : Gl X x := by rfl)
    (hdb : (x == ("__debug__" : Str)) = false := by decide) (he : starEach (e :: es) X.env = (false, eval e X.env) :: starEach es X.env := by rfl) (hpl : (backTo pos (starEach es X.env)).any (·.1) = false := by rfl) : ED X (.Call (.Name x p) (e :: es) [] pos) Δ d :=
  let ⟨_, _, _, dvs, _, _, F, hm, hk, hb, hv, hR⟩ := pf.ex
  let ⟨_, pa, ga⟩ := ha.ex
  ⟨_, pe_call F hr hg hm hk hb hv pass0 pa hdb he hpl, fun σ H s Q q => ga σ H s _ fun vs H1 e1 r1 =>
    let ⟨es', h1, h2⟩ := hR ds d h
    ⟨ds ++ es', d, dpa_app r1 (h1 H1), h2, fun v H2 e2 r2 => q v H2 (e1.trans e2) r2⟩⟩
/-- .. with keywords, all parameters written -/
structure KD [SJ] (X : Cx) (kws : List Keyword) (Δ : Dl) (ds : List PyData) : Prop where
  ex : ∃ t, PK X kws t ∧ GA X.K t Δ ds
theorem kd_nil [SJ] : KD X [] Δ [] := ⟨_, pk_nil, ga_nil⟩
theorem kd_cons [SJ] {nm : Option Str} {kpos : Pos} {kws : List Keyword} (h : ED X e Δ d) (hr : KD X kws Δ ds) : KD X (⟨nm, e, kpos⟩ :: kws) Δ (d :: ds) :=
  let ⟨_, p, g⟩ := h.ex
  let ⟨_, pr, gr⟩ := hr.ex
  ⟨_, pk_cons p pr, ga_cons g gr⟩
structure PFk (P : Program) (w : World) (K : PySem.W.Frag) (mg : Str → Option Value) (base : Heap) (k : Nat) (x : Str) (n : Nat) (ks : List Str) (R : List PyData → PyData → Prop) : Prop where
  ex : ∃ (f : Addr) (fd : FuncData) (ps : List Str), FnOk P w K mg base CX0 k f fd ps (spD K R) ∧ mg x = some (.ref f) ∧ PySem.W.keepIn K (.ref f) = true ∧ KBn K fd ps n ks (fun us ws => us ++ ws) (fun us ws => us ++ ws)
theorem ed_callk [SJ] {x : Str} {p : Pos} {k n : Nat} {ks : List Str} {kws : List Keyword} {zs : List PyData} {R : List PyData → PyData → Prop} (pf : PFk X.prog X.w X.K X.mg X.base k x n ks R) (hr : Room k X.A) (ha : AD X (e :: es) Δ ds) (hz : KD X kws Δ zs) (h : R (ds ++ zs) d)
    (ln : ds.length = n) (lz : zs.length = ks.length) (hg : Gl X x := by rfl) (hall : (backToKw pos (keywordEach kws X.env)).all (·.1.isSome) = true := by rfl) (hks : (backToKw pos (keywordEach kws X.env)).filterMap (·.1) = ks := by rfl)
    (hdb : (x == ("__debug__" : Str)) = false := by decide) (he : starEach (e :: es) X.env = (false, eval e X.env) :: starEach es X.env := by rfl)
    (hpl : ((backTo pos (starEach (e :: es) X.env)).any (·.1) || (backToKw pos (keywordEach kws X.env)).any (·.1.isNone)) = false := by rfl) : ED X (.Call (.Name x p) (e :: es) kws pos) Δ d :=
  let ⟨_, _, _, F, hm, hk, hb⟩ := pf.ex
  let ⟨_, pa, ga⟩ := ha.ex
  let ⟨_, pz, gz⟩ := hz.ex
  ⟨_, pe_callN F hr hg hm hk hb pass0 pa pz hall hks hdb he hpl, fun σ H s Q q => ga σ H s _ fun vs H1 e1 r1 => gz σ H1 (s.ex e1) _ fun us H2 e2 r2 =>
    ⟨(dpa_len r1).trans ln, (dpa_len r2).trans lz, ds ++ zs, d, dpa_app (dps_ex e2 _ _ r1) r2, h, fun v H3 e3 r3 => q v H3 ((e1.trans e2).trans e3) r3⟩⟩

/-! ### built-ins -/
theorem ed_len [SJ] {p : Pos} (hm : X.mg "len" = none) (ha : ED X a Δ d) (hd : d = .list ds ∨ d = .tuple ds) (hg : Gl X "len" := by rfl) (hs : starEach [a] X.env = (false, eval a X.env) :: starEach [] X.env := by rfl) :
    ED X (.Call (.Name "len" p) [a] [] pos) Δ (.int ds.length) :=
  let ⟨_, pa, ga⟩ := ha.ex
  ⟨_, pe_callB call_len_seq hg hm boot_len (pa_cons pa pa_nil hs) (he := hs), fun σ H s Q q => ga σ H s _ fun x H1 e1 r1 => by
    rcases hd with hd | hd
    · subst hd
      obtain ⟨p, xs, e, hq, r⟩ := dp_lst r1
      exact ⟨p, xs, by rw [e], .inl hq, by rw [dpa_len r]; exact q _ H1 e1 (.int _)⟩
    · subst hd
      obtain ⟨p, xs, e, hq, r⟩ := dp_tup r1
      exact ⟨p, xs, by rw [e], .inr hq, by rw [dpa_len r]; exact q _ H1 e1 (.int _)⟩⟩
theorem ed_lenS [SJ] {p : Pos} {x : Str} (hm : X.mg "len" = none) (ha : ED X a Δ (.str x)) (hl : x.length ≤ sizeLine) (hg : Gl X "len" := by rfl) (hs : starEach [a] X.env = (false, eval a X.env) :: starEach [] X.env := by rfl) :
    ED X (.Call (.Name "len" p) [a] [] pos) Δ (.int x.length) :=
  let ⟨_, pa, ga⟩ := ha.ex
  ⟨_, pe_callB call_len hg hm boot_len (pa_cons pa pa_nil hs) (he := hs), fun σ H s Q q => ga σ H s _ fun y H1 e1 r1 => by
    have e := dp_str r1
    subst e
    exact ⟨.str x, _, rfl, ⟨hl, rfl⟩, q _ H1 e1 (.int _)⟩⟩
/-- a datum's type -/
def tyD : PyData → String
  | .none => "NoneType"
  | .bool _ => "bool"
  | .int _ => "int"
  | .str _ => "str"
  | .list _ => "list"
  | .tuple _ => "tuple"
  | .dict _ => "dict"
theorem tyx_dp {K : PySem.W.Frag} {H : Hp} {v : V} {d : PyData} (h : Dp K H v d) : TyX K H v (.type (tyD d)) := by
  cases h with
  | non => exact .base .non
  | bl b => exact .base (.bl b)
  | int i => exact .base (.int i)
  | str x => exact .base (.str x)
  | lst hs ha =>
    rcases hs with (h | ⟨o, h⟩) | ⟨o, its, n, hk, hc, _⟩
    · exact .base (.lst h)
    · exact .base (.frz h)
    · exact .kList hk hc
  | tup hs ha =>
    rcases hs with (h | ⟨o, h⟩) | ⟨o, its, n, hk, hc, _⟩
    · exact .base (.tup h)
    · exact .fTuple h
    · exact .kTuple hk hc
/-- isinstance(x, T), T a built-in type by its name -/
theorem ed_isi [SJ] {p p2 : Pos} {T : Str} {t : String} {r : Bool} (hm : X.mg "isinstance" = none) (hT : X.mg T = none) (hv : bootBuiltins T = some (.type t)) (ha : ED X a Δ d) (hr : kitB (tyD d) t = some r)
    (hg : Gl X "isinstance" := by rfl) (hg2 : Gl X T := by rfl) (hn : T ≠ "__name__" := by decide) (hd : (T == ("__debug__" : Str)) = false := by decide)
    (hs : starEach [a, .Name T p2] X.env = (false, eval a X.env) :: starEach [.Name T p2] X.env := by rfl) (hs2 : starEach [.Name T p2] X.env = (false, eval (.Name T p2) X.env) :: starEach [] X.env := by rfl) (hpl : (backTo pos (starEach [.Name T p2] X.env)).any (·.1) = false := by rfl) :
    ED X (.Call (.Name "isinstance" p) [a, .Name T p2] [] pos) Δ (.bool r) :=
  let ⟨_, pa, ga⟩ := ha.ex
  ⟨_, pe_callB call_isi hg hm (by decide +kernel) (pa_cons pa (pa_cons (pe_bltn (v := .ty t) hg2 hT hv rfl hn hd) pa_nil hs2) hs) (he := hs) (hpl := hpl), fun σ H s Q q => ga σ H s _ fun x H1 e1 r1 =>
    ⟨x, .ty t, .type (tyD d), .type t, r, rfl, .ty t, tyx_dp r1, kit_ty hr, q _ H1 e1 (.bl _)⟩⟩
/-- any([..]), all([..]) of truths -/
theorem dpa_bools {K : PySem.W.Frag} {H : Hp} : ∀ {xs : List V} {bs : List Bool}, DpAll K H xs (bs.map .bool) → xs = bs.map V.bl
  | _, [], .nil => rfl
  | _, b :: bs, .cons h t => by rw [dp_bl h, dpa_bools t]; rfl
theorem dpa_ints {K : PySem.W.Frag} {H : Hp} : ∀ {xs : List V} {bs : List Int}, DpAll K H xs (bs.map .int) → xs = bs.map V.int
  | _, [], .nil => rfl
  | _, b :: bs, .cons h t => by rw [dp_int h, dpa_ints t]; rfl
theorem dpa_strs {K : PySem.W.Frag} {H : Hp} : ∀ {xs : List V} {bs : List Str}, DpAll K H xs (bs.map .str) → xs = bs.map V.str
  | _, [], .nil => rfl
  | _, b :: bs, .cons h t => by rw [dp_str h, dpa_strs t]; rfl
theorem dpa_of_bools {K : PySem.W.Frag} {H : Hp} : ∀ bs : List Bool, DpAll K H (bs.map V.bl) (bs.map .bool)
  | [] => .nil
  | b :: bs => .cons (.bl b) (dpa_of_bools bs)
theorem dpa_of_ints {K : PySem.W.Frag} {H : Hp} : ∀ bs : List Int, DpAll K H (bs.map V.int) (bs.map .int)
  | [] => .nil
  | b :: bs => .cons (.int b) (dpa_of_ints bs)
theorem dpa_of_strs {K : PySem.W.Frag} {H : Hp} : ∀ bs : List Str, DpAll K H (bs.map V.str) (bs.map .str)
  | [] => .nil
  | b :: bs => .cons (.str b) (dpa_of_strs bs)
theorem ed_any [SJ] {p : Pos} {bs : List Bool} (hc : X.calm = true) (hm : X.mg "any" = none) (ha : ED X a Δ (.list (bs.map .bool))) (hg : Gl X "any" := by rfl) (hs : starEach [a] X.env = (false, eval a X.env) :: starEach [] X.env := by rfl) :
    ED X (.Call (.Name "any" p) [a] [] pos) Δ (.bool (bs.any id)) :=
  let ⟨_, pa, ga⟩ := ha.ex
  ⟨_, pe_callB (cr_any hc) hg hm (by decide +kernel) (pa_cons pa pa_nil hs) (he := hs), fun σ H s Q q => ga σ H s _ fun x H1 e1 r1 => by
    obtain ⟨p, xs, e, hq, r⟩ := dp_lst r1
    subst e
    rw [dpa_bools r] at hq
    exact ⟨p, bs, rfl, hq, q _ H1 e1 (.bl _)⟩⟩
theorem ed_all [SJ] {p : Pos} {bs : List Bool} (hc : X.calm = true) (hm : X.mg "all" = none) (ha : ED X a Δ (.list (bs.map .bool))) (hg : Gl X "all" := by rfl) (hs : starEach [a] X.env = (false, eval a X.env) :: starEach [] X.env := by rfl) :
    ED X (.Call (.Name "all" p) [a] [] pos) Δ (.bool (bs.all id)) :=
  let ⟨_, pa, ga⟩ := ha.ex
  ⟨_, pe_callB (cr_all hc) hg hm (by decide +kernel) (pa_cons pa pa_nil hs) (he := hs), fun σ H s Q q => ga σ H s _ fun x H1 e1 r1 => by
    obtain ⟨p, xs, e, hq, r⟩ := dp_lst r1
    subst e
    rw [dpa_bools r] at hq
    exact ⟨p, bs, rfl, hq, q _ H1 e1 (.bl _)⟩⟩
theorem ed_sum [SJ] {p : Pos} {ns : List Int} (hc : X.calm = true) (hm : X.mg "sum" = none) (ha : ED X a Δ (.list (ns.map .int))) (hg : Gl X "sum" := by rfl) (hs : starEach [a] X.env = (false, eval a X.env) :: starEach [] X.env := by rfl) :
    ED X (.Call (.Name "sum" p) [a] [] pos) Δ (.int ns.sum) :=
  let ⟨_, pa, ga⟩ := ha.ex
  ⟨_, pe_callB (cr_sum hc) hg hm (by decide +kernel) (pa_cons pa pa_nil hs) (he := hs), fun σ H s Q q => ga σ H s _ fun x H1 e1 r1 => by
    obtain ⟨p, xs, e, hq, r⟩ := dp_lst r1
    subst e
    rw [dpa_ints r] at hq
    exact ⟨p, ns, rfl, hq, q _ H1 e1 (.int _)⟩⟩
theorem ed_join [SJ] {apos : Pos} {sep : Str} {ys : List Str} (ho : ED X a Δ (.str sep)) (ha : ED X b Δ (.list (ys.map .str))) (hz : (ys.map (·.length)).sum + ys.length * sep.length ≤ 16777216)
    (hs : starEach [b] X.env = [(false, eval b X.env)] := by rfl) (hbase : attributeBase a "join" X.env (eval a X.env) = eval a X.env := by rfl) (hline : (apos.endLine == pos.line) = true := by rfl) :
    ED X (.Call (.Attribute a "join" apos) [b] [] pos) Δ (.str (Txt.join sep ys)) :=
  let ⟨_, po, go⟩ := ho.ex
  let ⟨_, pa, ga⟩ := ha.ex
  ⟨_, pe_join po pa hs hbase hline, fun σ H s Q q => go σ H s _ fun x H1 e1 r1 => by
    have e := dp_str r1
    subst e
    refine ⟨⟨_, rfl⟩, ga σ H1 (s.ex e1) _ fun y H2 e2 r2 => ?_⟩
    obtain ⟨p, xs, e, hq, r⟩ := dp_lst r2
    subst e
    rw [dpa_strs r] at hq
    exact ⟨sep, p, ys, rfl, rfl, .inl hq, hz, q _ H2 (e1.trans e2) (.str _)⟩⟩
/-- x in (a, b, ..): flat data -/
def flatD : PyData → Bool
  | .none => true
  | .bool _ => true
  | .int _ => true
  | .str _ => true
  | _ => false
def vD : PyData → V
  | .none => .non
  | .bool b => .bl b
  | .int i => .int i
  | .str x => .str x
  | _ => .non
theorem dp_flat {K : PySem.W.Frag} {H : Hp} {v : V} {d : PyData} (h : Dp K H v d) (hf : flatD d = true) : v = vD d := by
  cases h <;> first | rfl | cases hf
theorem dp_of_flat {K : PySem.W.Frag} {H : Hp} {d : PyData} (hf : flatD d = true) : Dp K H (vD d) d := by
  cases d <;> first | exact .non | exact .bl _ | exact .int _ | exact .str _ | cases hf
theorem dpa_flat {K : PySem.W.Frag} {H : Hp} : ∀ {xs : List V} {ds : List PyData}, DpAll K H xs ds → ds.all flatD = true → xs = ds.map vD
  | _, [], .nil, _ => rfl
  | _, d :: ds, .cons h t, hf => by
    rw [List.all_cons, Bool.and_eq_true] at hf
    rw [dp_flat h hf.1, dpa_flat t hf.2]
    rfl
theorem dpa_of_flat {K : PySem.W.Frag} {H : Hp} : ∀ {ds : List PyData}, ds.all flatD = true → DpAll K H (ds.map vD) ds
  | [], _ => .nil
  | d :: ds, hf => by
    rw [List.all_cons, Bool.and_eq_true] at hf
    exact .cons (dp_of_flat hf.1) (dpa_of_flat hf.2)
theorem flatV_vD (d : PyData) (h : flatD d = true) : flatV (vD d) = true := by cases d <;> first | rfl | cases h
theorem flatV_all : ∀ (ds : List PyData), ds.all flatD = true → (ds.map vD).all flatV = true
  | [], _ => rfl
  | d :: ds, hf => by
    rw [List.all_cons, Bool.and_eq_true] at hf
    rw [List.map_cons, List.all_cons, flatV_vD d hf.1, flatV_all ds hf.2]
    rfl
theorem rd_in {K : PySem.W.Frag} {neg : Bool} (hd : d2 = .tuple ds ∨ d2 = .list ds) (hf : flatD d1 = true) (ha : ds.all flatD = true) :
    RD K (rIn K neg) d1 d2 (.bool (if neg then !inV (vD d1) (ds.map vD) else inV (vD d1) (ds.map vD))) := fun x y H h1 h2 Q q => by
  have e1 := dp_flat h1 hf
  subst e1
  rcases hd with hd | hd
  · subst hd
    obtain ⟨p, xs, e, hs, r⟩ := dp_tup h2
    subst e
    rw [dpa_flat r ha] at hs
    exact ⟨p, _, rfl, .inr hs, flatV_vD _ hf, flatV_all _ ha, q _ H (Ex.refl H) (.bl _)⟩
  · subst hd
    obtain ⟨p, xs, e, hs, r⟩ := dp_lst h2
    subst e
    rw [dpa_flat r ha] at hs
    exact ⟨p, _, rfl, .inl hs, flatV_vD _ hf, flatV_all _ ha, q _ H (Ex.refl H) (.bl _)⟩
theorem ed_in [SJ] (ha : ED X a Δ d1) (hb : ED X b Δ d2) (hd : d2 = .tuple ds ∨ d2 = .list ds) (hf : flatD d1 = true := by rfl) (hfa : ds.all flatD = true := by rfl) (hm : behindInMarks .In b = false := by rfl) :
    ED X (.Compare a [.In] [b] pos) Δ (.bool (inV (vD d1) (ds.map vD))) := ed_cmp op_in_seq (rd_in (neg := false) hd hf hfa) ha hb hm
theorem td_in [SJ] (ha : ED X a Δ d1) (hb : ED X b Δ d2) (hd : d2 = .tuple ds ∨ d2 = .list ds) (hf : flatD d1 = true := by rfl) (hfa : ds.all flatD = true := by rfl) (hm : behindInMarks .In b = false := by rfl) :
    TD X (.Compare a [.In] [b] pos) Δ (inV (vD d1) (ds.map vD)) := td_cmp op_in_seq (rd_in (neg := false) hd hf hfa) ha hb hm
theorem td_ni [SJ] (ha : ED X a Δ d1) (hb : ED X b Δ d2) (hd : d2 = .tuple ds ∨ d2 = .list ds) (hf : flatD d1 = true := by rfl) (hfa : ds.all flatD = true := by rfl) (hm : behindInMarks .NotIn b = false := by rfl) :
    TD X (.Compare a [.NotIn] [b] pos) Δ (!inV (vD d1) (ds.map vD)) := td_cmp op_notIn_seq (rd_in (neg := true) hd hf hfa) ha hb hm
end

/-! ### targets -/
/-- a datum given to a target; vs: the slots that may change -/
structure GD [SJ] (X : Cx) (tg : Expr) (Δ : Dl) (d : PyData) (Δ' : Dl) : Prop where
  ex : ∃ g, PG X tg g ∧ ∀ σ H v, Sl X.K H σ Δ → Dp X.K H v d → ∀ Q : L2.St → Hp → Prop, (∀ σ' H', Ex H H' → Sl X.K H' σ' Δ' → Q σ' H') → g v σ H Q
structure GDs [SJ] (X : Cx) (tgs : List Expr) (Δ : Dl) (ds : List PyData) (Δ' : Dl) : Prop where
  ex : ∃ g, PGs X tgs g ∧ ∀ σ H vs, Sl X.K H σ Δ → DpAll X.K H vs ds → ∀ Q : L2.St → Hp → Prop, (∀ σ' H', Ex H H' → Sl X.K H' σ' Δ' → Q σ' H') → g vs σ H Q
section
variable {X : Cx} {Δ Δ1 Δ2 : Dl} {tg e : Expr} {tgs : List Expr} {d : PyData} {ds : List PyData} {pos : Pos}
theorem gd_name [SJ] (i : Nat) {x : Str} (hN : X.N.Nodup) (hi : X.N[i]? = some x := by rfl) (hx : Loc X.env.scope x := by first | exact Or.inl rfl | exact Or.inr rfl) (hf : X.fn x = true ∨ X.env.scope.names.lookup x = some .local := by first | exact .inl rfl | exact .inr rfl) (h0 : SJ.ok i := by first | exact True.intro | exact Nat.succ_ne_zero _) : GD X (.Name x pos) Δ d (Δ.set i (some d)) :=
  ⟨_, pg_name hN hi hx hf, fun σ H v s r Q q => q _ H (Ex.refl H) (s.set r h0)⟩
theorem gds_nil [SJ] : GDs X [] Δ [] Δ := ⟨_, pgs_nil, fun σ H vs s r Q q => ⟨by cases r; rfl, q σ H (Ex.refl H) s⟩⟩
theorem gds_cons [SJ] (h : GD X e Δ d Δ1) (hr : GDs X tgs Δ1 ds Δ2) (hs : (assignEach (e :: tgs) X.env).map (·.2) = assign e X.env :: (assignEach tgs X.env).map (·.2) := by rfl) : GDs X (e :: tgs) Δ (d :: ds) Δ2 :=
  let ⟨_, p, g⟩ := h.ex
  let ⟨_, pr, gr⟩ := hr.ex
  ⟨_, pgs_cons p pr hs, fun σ H vs s r Q q => by
    cases r with
    | cons r1 r2 => exact ⟨_, _, rfl, g σ H _ s r1 _ fun σ' H' e1 s1 => gr σ' H' _ s1 (dps_ex e1 _ _ r2) Q fun σ2 H2 e2 s2 => q σ2 H2 (e1.trans e2) s2⟩⟩
theorem gd_tup [SJ] {k : Nat} {n : Nat} (hc : X.calm = true) (h : GDs X tgs Δ ds Δ1) (hl : ds.length = n := by rfl) (hn : (assignEach tgs X.env).length = n := by rfl) (hst : (assignEach tgs X.env).findIdx? (·.1) = none := by rfl) : GD X (.Tuple tgs k pos) Δ (.tuple ds) Δ1 :=
  let ⟨_, p, g⟩ := h.ex
  ⟨_, pg_tup hc p hn hst, fun σ H v s r Q q => by
    obtain ⟨a, xs, e, hs, rs⟩ := dp_tup r
    exact ⟨a, xs, e, hs, (dpa_len rs).trans hl, g σ H xs s rs Q q⟩⟩
end

/-! ### statements -/
inductive Rs where
  | nx (Δ : Dl)
  | rt (d : PyData)
  | ex (w : Str)
/-- what an end asks -/
def Fin_ [SJ] (K : PySem.W.Frag) (E : XK) (CF : Addr) (D : Ends) (H : Hp) : Rs → Prop
  | .nx Δ => ∀ σ' H', Ex H H' → Sl K H' σ' Δ → D.nx σ' H'
  | .rt d => ∀ v H', Ex H H' → Dp K H' v d → D.rt v H'
  | .ex w => ∀ p H', Ex H H' → H p = none → H' p = some (.xd [(("word" : Str), .str w)]) → E (.ref CF) (some p) H'
theorem fin_ex [SJ] {K : PySem.W.Frag} {E : XK} {CF : Addr} {D : Ends} {H H' : Hp} {r : Rs} (h : Fin_ K E CF D H r) (e : Ex H H') : Fin_ K E CF D H' r := by
  cases r with
  | nx Δ => exact fun σ2 H2 e2 s2 => h σ2 H2 (e.trans e2) s2
  | rt d => exact fun v H2 e2 r2 => h v H2 (e.trans e2) r2
  | ex w => exact fun p H2 e2 n2 x2 => h p H2 (e.trans e2) (Evl.fresh_back e n2) x2
def GS [SJ] (K : PySem.W.Frag) (E : XK) (CF : Addr) (t : TS) (Δ : Dl) (r : Rs) : Prop := ∀ D σ H, Sl K H σ Δ → Fin_ K E CF D H r → t D σ H
structure SD [SJ] (X : Cx) (E : XK) (CF : Addr) (st : Stmt) (Δ : Dl) (r : Rs) : Prop where
  ex : ∃ t, PS X st t ∧ GS X.K E CF t Δ r
structure BD [SJ] (X : Cx) (E : XK) (CF : Addr) (sts : List Stmt) (Δ : Dl) (r : Rs) : Prop where
  ex : ∃ t, PSs X sts t ∧ GS X.K E CF t Δ r
section
variable {X : Cx} {E : XK} {CF : Addr} {Δ Δ1 Δ2 : Dl} {tg e c : Expr} {st : Stmt} {sts A B : List Stmt} {d d1 : PyData} {ds : List PyData} {pos : Pos} {r : Rs}
theorem bd_nil [SJ] : BD X E CF [] Δ (.nx Δ) := ⟨_, pss_nil, fun D σ H s q => q σ H (Ex.refl H) s⟩
theorem bd_cons [SJ] (h : SD X E CF st Δ (.nx Δ1)) (hr : BD X E CF sts Δ1 r) : BD X E CF (st :: sts) Δ r :=
  let ⟨_, p, g⟩ := h.ex
  let ⟨_, pr, gr⟩ := hr.ex
  ⟨_, pss_cons p pr, fun D σ H s q => g _ σ H s fun σ1 H1 e1 s1 => gr D σ1 H1 s1 (fin_ex q e1)⟩
theorem bd_one [SJ] (h : SD X E CF st Δ r) : BD X E CF [st] Δ r := let ⟨_, p, g⟩ := h.ex; ⟨_, pss_one p, g⟩
/-- a return, a raise: the rest is never come to -/
theorem bd_end [SJ] (h : SD X E CF st Δ r) (hr : ∀ Δ, r ≠ .nx Δ) : BD X E CF (st :: sts) Δ r :=
  let ⟨_, p, g⟩ := h.ex
  ⟨_, pss_cons p pss_never, fun D σ H s q => g _ σ H s (by
    cases r with
    | nx Δ' => exact absurd rfl (hr Δ')
    | rt d => exact q
    | ex w => exact q)⟩
theorem sd_ret [SJ] (h : ED X e Δ d) (z : d = d1) : SD X E CF (.Return (some e) pos) Δ (.rt d1) :=
  let ⟨_, p, g⟩ := h.ex
  ⟨_, ps_ret p, fun D σ H s q => g σ H s _ fun v H1 e1 r1 => q v H1 e1 (z ▸ r1)⟩
theorem sd_pass [SJ] : SD X E CF (.Pass pos) Δ (.nx Δ) := ⟨_, ps_pass, fun D σ H s q => q σ H (Ex.refl H) s⟩
theorem sd_expr [SJ] (h : ED X e Δ d) (hs : swapsWith e none pos.line X.env = pure false := by rfl) : SD X E CF (.Expr e pos) Δ (.nx Δ) :=
  let ⟨_, p, g⟩ := h.ex
  ⟨_, ps_expr p hs, fun D σ H s q => g σ H s _ fun v H1 e1 r1 => q σ H1 e1 (s.ex e1)⟩
theorem sd_asg [SJ] (h : ED X e Δ d) (hg : GD X tg Δ d Δ1) (hs : swapsWithSole [tg] e pos.line X.env = pure false := by rfl) (hw : swappedStores [tg] e X.env = pure none := by rfl) (h1 : (assignEach [tg] X.env).map (·.2) = [assign tg X.env] := by rfl) :
    SD X E CF (.Assign [tg] e pos) Δ (.nx Δ1) :=
  let ⟨_, p, g⟩ := h.ex
  let ⟨_, pt, gt⟩ := hg.ex
  ⟨_, ps_asg p pt hs hw h1, fun D σ H s q => g σ H s _ fun v H1 e1 r1 => gt σ H1 v (s.ex e1) r1 _ fun σ2 H2 e2 s2 => q σ2 H2 (e1.trans e2) s2⟩
theorem sd_set [SJ] (i : Nat) {x : Str} {pos' : Pos} (hN : X.N.Nodup) (h : ED X e Δ d) (hi : X.N[i]? = some x := by rfl) (hx : Loc X.env.scope x := by first | exact Or.inl rfl | exact Or.inr rfl) (hs : swapsWith e (some (.Name x pos')) pos.line X.env = pure false := by rfl)
    (hf : X.fn x = true ∨ X.env.scope.names.lookup x = some .local := by first | exact .inl rfl | exact .inr rfl) (h0 : SJ.ok i := by first | exact True.intro | exact Nat.succ_ne_zero _) : SD X E CF (.Assign [.Name x pos'] e pos) Δ (.nx (Δ.set i (some d))) :=
  let ⟨_, p, g⟩ := h.ex
  ⟨_, ps_set hN hi hx p hs hf, fun D σ H s q => g σ H s _ fun v H1 e1 r1 => q _ H1 e1 ((s.ex e1).set r1 h0)⟩
theorem sd_if [SJ] {p : Bool} (hc : TD X c Δ p) (h1 : p = true → BD X E CF A Δ r) (h2 : p = false → BD X E CF B Δ r) : SD X E CF (.If c A B pos) Δ r := by
  obtain ⟨_, pc, gc⟩ := hc.ex
  cases p with
  | true =>
    obtain ⟨_, pa, ga⟩ := (h1 rfl).ex
    exact ⟨_, ps_if pc pa pss_never, fun D σ H s q => gc σ H s _ fun H1 e1 => ga D σ H1 (s.ex e1) (fin_ex q e1)⟩
  | false =>
    obtain ⟨_, pb, gb⟩ := (h2 rfl).ex
    exact ⟨_, ps_if pc pss_never pb, fun D σ H s q => gc σ H s _ fun H1 e1 => gb D σ H1 (s.ex e1) (fin_ex q e1)⟩
/-- if c: (leaves) ; the rest -/
theorem bd_ifx [SJ] {p : Bool} (hc : TD X c Δ p) (hr : ∀ Δ, r ≠ .nx Δ) (h1 : p = true → BD X E CF A Δ r) (h2 : p = false → BD X E CF sts Δ r) : BD X E CF (.If c A [] pos :: sts) Δ r := by
  cases p with
  | true => exact bd_end (sd_if hc h1 fun z => Bool.noConfusion z) hr
  | false => exact bd_cons (sd_if hc (fun z => Bool.noConfusion z) fun _ => bd_nil) (h2 rfl)
theorem sd_aug [SJ] (i : Nat) {x : Str} {op : Operator} {f : Int → Int → Int} {m n : Int} {pos' : Pos} (hN : X.N.Nodup) (hx0 : Δ[i]? = some (some (.int m))) (h : ED X e Δ (.int n)) (ho : ∀ X : Cx, OpR X (inplaceOp op) (rI0 fun i j => .int (f i j)))
    (hi : X.N[i]? = some x := by rfl) (hx : Loc X.env.scope x := by first | exact Or.inl rfl | exact Or.inr rfl) (hf : X.fn x = true ∨ X.env.scope.names.lookup x = some .local := by first | exact .inl rfl | exact .inr rfl) (h0 : SJ.ok i := by first | exact True.intro | exact Nat.succ_ne_zero _) :
    SD X E CF (.AugAssign (.Name x pos') op e pos) Δ (.nx (Δ.set i (some (.int (f m n))))) :=
  let ⟨_, p, g⟩ := h.ex
  ⟨_, ps_aug hN hi hx p (fun pins s σ H x y v u Q I rx ry q => augR (ho X) I rx ry q) hf, fun D σ H s q => by
    obtain ⟨v, e0, r0⟩ := s.2 i _ hx0
    have e := dp_int r0
    subst e
    exact ⟨_, e0, g σ H s _ fun y H1 e1 r1 => ⟨m, n, rfl, dp_int r1, q _ H1 e1 ((s.ex e1).set (.int _) h0)⟩⟩⟩
/-- a while of n turns -/
theorem sd_while [SJ] (hp : PassesOwn (model X.prog X.w) X.A X.env X.xe) (f : Nat → Dl) (n : Nat) (hc : ∃ t, PT X c t ∧ ∀ i, i ≤ n → GT X.K t (f i) (decide (i < n))) (hb : ∃ t, PSs X A t ∧ ∀ i, i < n → GS X.K E CF t (f i) (.nx (f (i + 1)))) :
    SD X E CF (.While c A [] pos) (f 0) (.nx (f n)) := by
  obtain ⟨tc, pc, gc⟩ := hc
  obtain ⟨tb, pb, gb⟩ := hb
  refine ⟨_, ps_while hp pc pb, fun D σ H s q => ⟨fun m σ' H' => ∃ i, i + m = n ∧ Sl X.K H' σ' (f i) ∧ Ex H H', ⟨n, 0, by omega, s, Ex.refl H⟩, ?_⟩⟩
  rintro m σ' H' ⟨i, hi, s', e'⟩
  refine gc i (by omega) σ' H' s' _ fun H1 e1 => ?_
  by_cases hlt : i < n
  · rw [decide_eq_true hlt, if_pos rfl]
    refine ⟨fun σ2 H2 => Sl X.K H2 σ2 (f (i + 1)) ∧ Ex H H2, fun σ2 H2 ⟨s2, e2⟩ => ⟨m - 1, by omega, i + 1, by omega, s2, e2⟩, ?_⟩
    exact gb i hlt _ σ' H1 (s'.ex e1) fun σ2 H2 e2 s2 => ⟨s2, (e'.trans e1).trans e2⟩
  · rw [decide_eq_false hlt, if_neg Bool.false_ne_true]
    have e : i = n := by omega
    subst e
    exact q σ' H1 (e'.trans e1) (s'.ex e1)
end

/-! ### what is walked -/
/-- J yields items, each a datum -/
def Runs (K : PySem.W.Frag) (J : It) (H0 : Hp) (items : List PyData) : Prop := ∀ i H, Ex H0 H → (∀ d, items[i]? = some d → J.go i H ∧ ∀ x H', J.yld i H x H' → Ex H H' ∧ Dp K H' x d) ∧ (i = items.length → J.stop i H)
structure ID [SJ] (X : Cx) (tg iter : Expr) (Δ : Dl) (items : List PyData) : Prop where
  ex : ∃ wi, PI X tg iter wi ∧ ∀ σ H, Sl X.K H σ Δ → ∀ R : It → Hp → Prop, (∀ J H1, Ex H H1 → Runs X.K J H1 items → R J H1) → wi σ H R
section
variable {X : Cx} {E : XK} {CF : Addr} {Δ Δ1 Δ2 : Dl} {tg e iter : Expr} {A : List Stmt} {d d1 : PyData} {ds items : List PyData} {pos : Pos}
theorem id_list [SJ] (h : ED X e Δ (.list ds)) : ID X tg e Δ ds :=
  let ⟨_, p, g⟩ := h.ex
  ⟨_, pi_list p, fun σ H s R q => g σ H s _ fun v H1 e1 r1 => by
    obtain ⟨a, xs, ea, hs, r⟩ := dp_lst r1
    refine ⟨a, ea, ⟨xs, hs⟩, q _ H1 e1 fun i H2 e2 => ⟨fun d hd => ?_, fun hl => ⟨xs, Evl.ex_l e2 hs, by rw [dpa_len r]; omega⟩⟩⟩
    obtain ⟨v, hv, rv⟩ := dpa_get r hd
    refine ⟨⟨xs, v, Evl.ex_l e2 hs, hv⟩, fun x H' ⟨eq, y⟩ => ?_⟩
    subst eq
    have z := y xs (Evl.ex_l e2 hs)
    rw [hv] at z
    cases z
    exact ⟨Ex.refl _, dp_ex e2 _ _ rv⟩⟩
theorem id_tup [SJ] (h : ED X e Δ (.tuple ds)) : ID X tg e Δ ds :=
  let ⟨_, p, g⟩ := h.ex
  ⟨_, pi_tup p, fun σ H s R q => g σ H s _ fun v H1 e1 r1 => by
    obtain ⟨a, xs, ea, hs, r⟩ := dp_tup r1
    refine ⟨a, ea, ⟨xs, hs⟩, q _ H1 e1 fun i H2 e2 => ⟨fun d hd => ?_, fun hl => ⟨xs, Evl.ex_t e2 hs, by rw [dpa_len r]; omega⟩⟩⟩
    obtain ⟨v, hv, rv⟩ := dpa_get r hd
    refine ⟨⟨xs, v, Evl.ex_t e2 hs, hv⟩, fun x H' ⟨eq, y⟩ => ?_⟩
    subst eq
    have z := y xs (Evl.ex_t e2 hs)
    rw [hv] at z
    cases z
    exact ⟨Ex.refl _, dp_ex e2 _ _ rv⟩⟩
/-- the signs of a text -/
def signs (x : Str) : List PyData := x.cps.toList.map fun c => .str ⟨#[c]⟩
theorem id_str [SJ] {x : Str} (h : ED X e Δ (.str x)) : ID X tg e Δ (signs x) :=
  let ⟨_, p, g⟩ := h.ex
  ⟨_, pi_str p, fun σ H s R q => g σ H s _ fun v H1 e1 r1 => by
    refine ⟨x, dp_str r1, q _ H1 e1 fun i H2 e2 => ⟨fun d hd => ?_, fun hl => by
      show x.cps.size ≤ i
      have hl2 : i = x.cps.size := by simpa [signs] using hl
      omega⟩⟩
    unfold signs at hd
    rw [List.getElem?_map, Array.getElem?_toList] at hd
    cases hq : x.cps[i]? with
    | none => rw [hq] at hd; cases hd
    | some c =>
      rw [hq] at hd
      cases hd
      refine ⟨(Array.getElem?_eq_some_iff.mp hq).1, fun y H' ⟨eq, c', hc', ey⟩ => ?_⟩
      subst eq ey
      rw [hq] at hc'
      cases hc'
      exact ⟨Ex.refl _, .str _⟩⟩
/-- enumerate of a list -/
def enumD (ds : List PyData) : List PyData := ds.zipIdx.map fun p => .tuple [.int (p.2 : Nat), p.1]
theorem id_enum [SJ] {p : Pos} {elts : List Expr} {kk : Nat} {tpos : Pos} (hm : X.mg "enumerate" = none) (h : ED X e Δ (.list ds)) (hg : Gl X "enumerate" := by rfl) (hs : starEach [e] X.env = [(false, eval e X.env)] := by rfl) :
    ID X (.Tuple elts kk tpos) (.Call (.Name "enumerate" p) [e] [] pos) Δ (enumD ds) :=
  let ⟨_, pe, g⟩ := h.ex
  ⟨_, pi_enum hg hm (pa_cons pe pa_nil (hs.trans rfl)) hs, fun σ H s R q => g σ H s _ fun v H1 e1 r1 => by
    obtain ⟨a, xs, ea, hs, r⟩ := dp_lst r1
    subst ea
    refine ⟨a, xs, rfl, hs, q _ H1 e1 fun i H2 e2 => ⟨fun d hd => ?_, fun hl => ⟨xs, Evl.ex_l e2 hs, by
      rw [dpa_len r]
      have hl2 : i = ds.length := by simpa [enumD] using hl
      omega⟩⟩⟩
    unfold enumD at hd
    rw [List.getElem?_map, List.getElem?_zipIdx] at hd
    cases hq : ds[i]? with
    | none => rw [hq] at hd; cases hd
    | some d0 =>
      rw [hq] at hd
      obtain ⟨v, hv, rv⟩ := dpa_get r hq
      refine ⟨⟨xs, v, Evl.ex_l e2 hs, hv⟩, fun x H' ⟨T, y, ex, hT, eH, hy⟩ => ?_⟩
      subst ex eH
      have z := hy xs (Evl.ex_l e2 hs)
      rw [hv] at z
      cases z
      have en : Ex H2 (upd H2 T (.tup [.int (i : Nat), v])) := Ex.new hT
      refine ⟨en, ?_⟩
      have ed : d = .tuple [.int (i : Nat), d0] := by simpa using hd.symm
      subst ed
      exact .tup (SqT.of upd_same) (.cons (.int _) (.cons (dp_ex (e2.trans en) _ _ rv) .nil))⟩
/-- a for loop whose body goes on: f tells the slots by the turn -/
theorem sd_for [SJ] (hp : PassesOwn (model X.prog X.w) X.A X.env X.xe) (hc : X.calm = true) (hi : ID X tg iter Δ items) (f g : Nat → Dl) (h0 : f 0 = Δ)
    (hg : ∃ gt, PG X tg gt ∧ ∀ i d, items[i]? = some d → ∀ σ H v, Sl X.K H σ (f i) → Dp X.K H v d → ∀ Q : L2.St → Hp → Prop, (∀ σ' H', Ex H H' → Sl X.K H' σ' (g i) → Q σ' H') → gt v σ H Q)
    (hb : ∃ t, PSs X A t ∧ ∀ i, i < items.length → GS X.K E CF t (g i) (.nx (f (i + 1)))) (hs : ∀ x, foldedSetIterable iter X.env x = pure x := by intro _; rfl) : SD X E CF (.For tg iter A [] pos) Δ (.nx (f items.length)) := by
  obtain ⟨wi, pi, gi⟩ := hi.ex
  obtain ⟨gt, pg, gg⟩ := hg
  obtain ⟨tb, pb, gb⟩ := hb
  refine ⟨_, ps_for hp hc pi pg pb hs, fun D σ H s q => gi σ H s _ fun J H1 e1 run => ?_⟩
  refine ⟨fun i m σ' H' => i + m = items.length ∧ Sl X.K H' σ' (f i) ∧ Ex H1 H', ⟨items.length, by omega, by rw [h0]; exact s.ex e1, Ex.refl H1⟩, ?_⟩
  rintro i m σ' H' ⟨hi, s', e'⟩
  obtain ⟨r1, r2⟩ := run i H' e'
  by_cases hlt : i < items.length
  · obtain ⟨go, y⟩ := r1 _ (List.getElem?_eq_getElem hlt)
    refine .inr ⟨go, fun σ2 H2 => Sl X.K H2 σ2 (f (i + 1)) ∧ Ex H1 H2, fun σ2 H2 ⟨s2, e2⟩ => ⟨m - 1, by omega, by omega, s2, e2⟩, fun x H2 hy => ?_⟩
    obtain ⟨e2, rx⟩ := y x H2 hy
    refine gg i _ (List.getElem?_eq_getElem hlt) σ' H2 x (s'.ex e2) rx _ fun σ3 H3 e3 s3 => ?_
    exact gb i hlt _ σ3 H3 s3 fun σ4 H4 e4 s4 => ⟨s4, ((e'.trans e2).trans e3).trans e4⟩
  · have e : i = items.length := by omega
    subst e
    exact .inl ⟨r2 rfl, q σ' H' (e1.trans e') s'⟩

/-! ### list comprehensions of flat data, one for -/
def wipeD (Δ : Dl) : List Nat → Dl
  | [] => Δ
  | v :: vs => (wipeD Δ vs).set v none
theorem Sl.setN [SJ] {K : PySem.W.Frag} {H : Hp} {σ : L2.St} {Δ : Dl} (s : Sl K H σ Δ) (i : Nat) (h0 : SJ.ok i) : Sl K H (σ.set i none) (Δ.set i none) := by
  refine ⟨⟨SJ.set h0 s.1.1, by simp [s.1.2]⟩, fun j e h => ?_⟩
  rw [List.getElem?_set] at h
  by_cases q : i = j
  · subst q
    rw [if_pos rfl] at h
    split at h <;> cases h
  · rw [if_neg q] at h
    obtain ⟨w, a, b⟩ := s.2 j e h
    exact ⟨w, by rw [List.getElem?_set_ne q]; exact a, b⟩
theorem Sl.wipe [SJ] {K : PySem.W.Frag} {H : Hp} {σ : L2.St} {Δ : Dl} (s : Sl K H σ Δ) (hk : ∀ i, SJ.ok i) : ∀ vs, Sl K H (L2.wipe σ vs) (wipeD Δ vs)
  | [] => s
  | v :: vs => (Sl.wipe s hk vs).setN v (hk v)
end
end Sr

set_option Elab.async false
set_option linter.all false
set_option maxRecDepth 100000
set_option maxHeartbeats 4000000
/-! The data layer, further: list comprehensions of flat data; a def's promise by its body. -/
namespace Sr
open PySem PySem.Spec PyProof.Rows L2
open Evl (Ex)
section
variable {X : Cx} {E : XK} {CF : Addr} {Δ Δ1 Δ2 : Dl} {tg e iter : Expr} {A : List Stmt} {d d1 : PyData} {ds items : List PyData} {pos : Pos}
theorem filter_take_succ {α : Type} (l : List α) (p : α → Bool) (i : Nat) (x : α) (h : l[i]? = some x) : (l.take (i + 1)).filter p = (l.take i).filter p ++ (if p x = true then [x] else []) := by
  rw [List.take_succ, h, List.filter_append]
  congr 1
  show List.filter p [x] = _
  rw [List.filter_cons]
  split <;> rfl
theorem wipe_in {σ : L2.St} {i : Nat} : ∀ {vs : List Nat}, i ∈ vs → (L2.wipe σ vs)[i]? = if i < σ.length then some none else none
  | v :: vs, h => by
    unfold L2.wipe
    rw [List.getElem?_set, wipe_length]
    by_cases e : v = i
    · subst e
      rw [if_pos rfl]
    · rw [if_neg e]
      have h2 : i ∈ vs := by
        rcases List.mem_cons.mp h with q | q
        · exact absurd q.symm e
        · exact q
      exact wipe_in h2
theorem wipe_wipe (σ : L2.St) (vs : List Nat) : L2.wipe (L2.wipe σ vs) vs = L2.wipe σ vs := by
  refine List.ext_getElem? fun i => ?_
  by_cases h : i ∈ vs
  · rw [wipe_in h, wipe_in h, wipe_length]
  · rw [wipe_out h]
/-- what a comprehension's target does to an item -/
def GW [SJ] (K : PySem.W.Frag) (g : TG) (vs : List Nat) (Δ : Dl) (d : PyData) (Δ' : Dl) : Prop := ∀ σ H v, Sl K H σ Δ → L2.wipe σ vs = σ → Dp K H v d → ∀ Q : L2.St → Hp → Prop, (∀ σ' H', Ex H H' → Sl K H' σ' Δ' → L2.wipe σ' vs = σ → Q σ' H') → g v σ H Q
theorem ed_lc [SJ] {elt : Expr} {ifs : List Expr} {scope : Scope} {own : List (Str × Nat)} {g : TG} {tt : TT} {te : TE} {p : PyData → Bool} {out : PyData → PyData} (Δt : PyData → Dl) (hc : X.calm = true) (hN : X.N.Nodup) (hi : ID X tg iter Δ items) (ok : BlkOk X.N X.env.scope scope own)
    (hg : ∀ (s : Shared) (H : Hp) (C : Addr) (cl : List (Str × Addr)) (fp : List Addr), PG (X.blk s H scope (compEnvC scope cl C X.env) fp) tg g) (gg : ∀ d ∈ items, GW X.K g (own.map (·.2)) (wipeD Δ (own.map (·.2))) d (Δt d))
    (ht : ∀ (s : Shared) (H : Hp) (C : Addr) (cl : List (Str × Addr)) (fp : List Addr), PTs (X.blk s H scope (compEnvC scope cl C X.env) fp) ifs tt) (gt : ∀ d ∈ items, GT X.K tt (Δt d) (p d))
    (he : ∀ (s : Shared) (H : Hp) (C : Addr) (cl : List (Str × Addr)) (fp : List Addr), PE (X.blk s H scope (compEnvC scope cl C X.env) fp) elt te) (ge : ∀ d ∈ items, p d = true → GE X.K te (Δt d) (out d)) (hf : ∀ d ∈ items, p d = true → flatD (out d) = true)
    (hl : items.length < sizeLine) (hk : ∀ i, SJ.ok i := by exact fun _ => True.intro) (hs : ∀ x, foldedSetIterable iter X.env x = pure x := by intro _; rfl) : ED X (.ListComp elt [⟨tg, iter, ifs, 0⟩] scope pos) Δ (.list ((items.filter p).map out)) := by
  obtain ⟨wi, pi, gi⟩ := hi.ex
  refine ⟨_, pe_lc hc hN pi ok hg ht he hs, fun σ H s Q q => gi σ H s _ fun J H1 e1 run => ?_⟩
  intro D hD
  have fresh : ∀ {H2 : Hp} {l : List V}, Ex H1 H2 → Ex H1 (upd H2 D (.lst l)) := fun e2 => e2.mut hD
  refine ⟨fun i m H2 => i + m = items.length ∧ Ex H1 H2 ∧ H2 D = some (.lst (((items.take i).filter p).map fun d => vD (out d))), ⟨items.length, by omega, Ex.new hD, by rw [upd_same]; rfl⟩, ?_⟩
  rintro i m H2 ⟨hi, e2, hD2⟩
  obtain ⟨r1, r2⟩ := run i H2 e2
  by_cases hlt : i < items.length
  · have hx := List.getElem?_eq_getElem hlt
    have hm : items[i] ∈ items := List.getElem_mem hlt
    obtain ⟨go, y⟩ := r1 _ hx
    refine .inr ⟨go, fun H3 => Ex H1 H3 ∧ H3 D = some (.lst (((items.take (i + 1)).filter p).map fun d => vD (out d))), fun H3 ⟨a, b⟩ => ⟨m - 1, by omega, by omega, a, b⟩, fun x H3 hy => ?_⟩
    obtain ⟨e3, rx⟩ := y x H3 hy
    have e13 := e2.trans e3
    refine gg _ hm (L2.wipe σ (own.map (·.2))) H3 x ((s.ex (e1.trans e13)).wipe hk _) (wipe_wipe _ _) rx _ fun σ4 H4 e4 s4 hw => ?_
    refine ⟨hw, gt _ hm σ4 H4 s4 _ fun H5 e5 => ?_⟩
    have keepD : ∀ {H6 : Hp}, Ex H5 H6 → H6 D = some (.lst (((items.take i).filter p).map fun d => vD (out d))) := fun e6 => e6 _ _ (e5 _ _ (e4 _ _ (e3 _ _ hD2)))
    cases hp : p items[i] with
    | false =>
      rw [if_neg Bool.false_ne_true]
      refine ⟨(e13.trans e4).trans e5, ?_⟩
      rw [keepD (Ex.refl _), filter_take_succ _ _ _ _ hx, hp, if_neg Bool.false_ne_true, List.append_nil]
    | true =>
      rw [if_pos rfl]
      refine ge _ hm hp σ4 H5 (s4.ex e5) _ fun v H6 e6 r6 => ⟨_, keepD e6, ?_, fresh (((e13.trans e4).trans e5).trans e6), ?_⟩
      · rw [List.length_map]
        refine Nat.lt_of_le_of_lt (Nat.le_trans (List.length_filter_le _ _) ?_) hl
        rw [List.length_take]
        omega
      · rw [upd_same, filter_take_succ _ _ _ _ hx, hp, if_pos rfl, List.map_append, dp_flat r6 (hf _ hm hp)]
        rfl
  · have e : i = items.length := by omega
    subst e
    refine .inl ⟨r2 rfl, q _ H2 (e1.trans e2) (.lst (SqL.of hD2) ?_)⟩
    rw [List.take_length]
    have hall : ∀ l : List PyData, (∀ d ∈ l, d ∈ items) → DpAll X.K H2 ((l.filter p).map fun d => vD (out d)) ((l.filter p).map out) := by
      intro l
      induction l with
      | nil => intro _; exact .nil
      | cons a l ih =>
        intro h
        have ih' := ih fun d hd => h d (List.mem_cons_of_mem _ hd)
        rw [List.filter_cons]
        split
        · rename_i hp
          exact .cons (dp_of_flat (hf a (h a List.mem_cons_self) hp)) ih'
        · exact ih'
    exact hall items fun _ h => h
end
end Sr

set_option Elab.async false
set_option linter.all false
set_option maxRecDepth 100000
set_option maxHeartbeats 4000000
/-! The facts of the program's top, by names (printed by gen_T.py). -/
namespace Sr
open PySem PySem.Spec PyProof.Rows L2
open Evl (Ex)
def top (i : Nat) : Stmt := PySem.Challenge.pw_sealedreach_k80_whole_no_mark_of_plain_s.main.body.getD i (.Pass ⟨0, 0, 0, 0⟩)
/-! ### the defs -/
abbrev t_is_whole : Stmt := (top 19)
def d_is_whole : He.DefD := ⟨("is_whole", none), "is_whole", "is_whole", defArgs t_is_whole, defBody t_is_whole, defScope t_is_whole, [], []⟩
abbrev t_look_at_bounds : Stmt := (top 20)
def d_look_at_bounds : He.DefD := ⟨("look_at_bounds", none), "look_at_bounds", "look_at_bounds", defArgs t_look_at_bounds, defBody t_look_at_bounds, defScope t_look_at_bounds, [], []⟩
abbrev t_least_in_bits : Stmt := (top 21)
def d_least_in_bits : He.DefD := ⟨("least_in_bits", none), "least_in_bits", "least_in_bits", defArgs t_least_in_bits, defBody t_least_in_bits, defScope t_least_in_bits, [], []⟩
abbrev t_from_bits : Stmt := (top 22)
def d_from_bits : He.DefD := ⟨("from_bits", none), "from_bits", "from_bits", defArgs t_from_bits, defBody t_from_bits, defScope t_from_bits, [], []⟩
abbrev t_least_held : Stmt := (top 23)
def d_least_held : He.DefD := ⟨("least_held", none), "least_held", "least_held", defArgs t_least_held, defBody t_least_held, defScope t_least_held, [], []⟩
abbrev t_room_of : Stmt := (top 24)
def d_room_of : He.DefD := ⟨("room_of", none), "room_of", "room_of", defArgs t_room_of, defBody t_room_of, defScope t_room_of, [], []⟩
abbrev t_is_word : Stmt := (top 31)
def d_is_word : He.DefD := ⟨("is_word", none), "is_word", "is_word", defArgs t_is_word, defBody t_is_word, defScope t_is_word, [], []⟩
abbrev t_is_rights : Stmt := (top 32)
def d_is_rights : He.DefD := ⟨("is_rights", none), "is_rights", "is_rights", defArgs t_is_rights, defBody t_is_rights, defScope t_is_rights, [], []⟩
abbrev t_are_lawful : Stmt := (top 33)
def d_are_lawful : He.DefD := ⟨("are_lawful", none), "are_lawful", "are_lawful", defArgs t_are_lawful, defBody t_are_lawful, defScope t_are_lawful, [], []⟩
abbrev t_rights_in : Stmt := (top 34)
def d_rights_in : He.DefD := ⟨("rights_in", none), "rights_in", "rights_in", defArgs t_rights_in, defBody t_rights_in, defScope t_rights_in, [], []⟩
abbrev t_fields_of : Stmt := (top 35)
def d_fields_of : He.DefD := ⟨("fields_of", none), "fields_of", "fields_of", defArgs t_fields_of, defBody t_fields_of, defScope t_fields_of, [], []⟩
abbrev t_is_lawful : Stmt := (top 36)
def d_is_lawful : He.DefD := ⟨("is_lawful", none), "is_lawful", "is_lawful", defArgs t_is_lawful, defBody t_is_lawful, defScope t_is_lawful, [], []⟩
abbrev t_are_fields : Stmt := (top 37)
def d_are_fields : He.DefD := ⟨("are_fields", none), "are_fields", "are_fields", defArgs t_are_fields, defBody t_are_fields, defScope t_are_fields, [], []⟩
abbrev t_word_of : Stmt := (top 38)
def d_word_of : He.DefD := ⟨("word_of", none), "word_of", "word_of", defArgs t_word_of, defBody t_word_of, defScope t_word_of, [], [("marked", .bl true)]⟩
abbrev t_plain : Stmt := (top 39)
def d_plain : He.DefD := ⟨("plain", none), "plain", "plain", defArgs t_plain, defBody t_plain, defScope t_plain, [], []⟩
abbrev t_number_done : Stmt := (top 41)
def d_number_done : He.DefD := ⟨("number_done", none), "number_done", "number_done", defArgs t_number_done, defBody t_number_done, defScope t_number_done, [], []⟩
abbrev t_number_asked : Stmt := (top 42)
def d_number_asked : He.DefD := ⟨("number_asked", none), "number_asked", "number_asked", defArgs t_number_asked, defBody t_number_asked, defScope t_number_asked, [], []⟩
abbrev t_is_so : Stmt := (top 43)
def d_is_so : He.DefD := ⟨("is_so", none), "is_so", "is_so", defArgs t_is_so, defBody t_is_so, defScope t_is_so, [], []⟩
abbrev t_bare : Stmt := (top 48)
def d_bare : He.DefD := ⟨("bare", none), "bare", "bare", defArgs t_bare, defBody t_bare, defScope t_bare, [], []⟩
abbrev t_is_open : Stmt := (top 49)
def d_is_open : He.DefD := ⟨("is_open", none), "is_open", "is_open", defArgs t_is_open, defBody t_is_open, defScope t_is_open, [], []⟩
abbrev t_walked : Stmt := (top 50)
def d_walked : He.DefD := ⟨("walked", none), "walked", "walked", defArgs t_walked, defBody t_walked, defScope t_walked, [], []⟩
abbrev t_with_bounds : Stmt := (top 51)
def d_with_bounds : He.DefD := ⟨("with_bounds", none), "with_bounds", "with_bounds", defArgs t_with_bounds, defBody t_with_bounds, defScope t_with_bounds, [], []⟩
abbrev t_narrowed : Stmt := (top 52)
def d_narrowed : He.DefD := ⟨("narrowed", none), "narrowed", "narrowed", defArgs t_narrowed, defBody t_narrowed, defScope t_narrowed, [], [("exact", .bl false)]⟩
abbrev t_with_rights : Stmt := (top 53)
def d_with_rights : He.DefD := ⟨("with_rights", none), "with_rights", "with_rights", defArgs t_with_rights, defBody t_with_rights, defScope t_with_rights, [], []⟩
abbrev t_lessened : Stmt := (top 54)
def d_lessened : He.DefD := ⟨("lessened", none), "lessened", "lessened", defArgs t_lessened, defBody t_lessened, defScope t_lessened, [], []⟩
abbrev t_with_kind : Stmt := (top 55)
def d_with_kind : He.DefD := ⟨("with_kind", none), "with_kind", "with_kind", defArgs t_with_kind, defBody t_with_kind, defScope t_with_kind, [], []⟩
abbrev t_kind_told : Stmt := (top 56)
def d_kind_told : He.DefD := ⟨("kind_told", none), "kind_told", "kind_told", defArgs t_kind_told, defBody t_kind_told, defScope t_kind_told, [], []⟩
abbrev t_sealed : Stmt := (top 57)
def d_sealed : He.DefD := ⟨("sealed", none), "sealed", "sealed", defArgs t_sealed, defBody t_sealed, defScope t_sealed, [], []⟩
abbrev t_opened_by : Stmt := (top 58)
def d_opened_by : He.DefD := ⟨("opened_by", none), "opened_by", "opened_by", defArgs t_opened_by, defBody t_opened_by, defScope t_opened_by, [], []⟩
abbrev t_opened : Stmt := (top 59)
def d_opened : He.DefD := ⟨("opened", none), "opened", "opened", defArgs t_opened, defBody t_opened, defScope t_opened, [], []⟩
abbrev t_entry : Stmt := (top 60)
def d_entry : He.DefD := ⟨("entry", none), "entry", "entry", defArgs t_entry, defBody t_entry, defScope t_entry, [], []⟩
abbrev t_look_at_offset : Stmt := (top 66)
def d_look_at_offset : He.DefD := ⟨("look_at_offset", none), "look_at_offset", "look_at_offset", defArgs t_look_at_offset, defBody t_look_at_offset, defScope t_look_at_offset, [], []⟩
abbrev t_is_address : Stmt := (top 67)
def d_is_address : He.DefD := ⟨("is_address", none), "is_address", "is_address", defArgs t_is_address, defBody t_is_address, defScope t_is_address, [], []⟩
abbrev t_address_by : Stmt := (top 68)
def d_address_by : He.DefD := ⟨("address_by", none), "address_by", "address_by", defArgs t_address_by, defBody t_address_by, defScope t_address_by, [], [("sealed", .bl false)]⟩
abbrev t_Cells_init : Stmt := (inClass (top 69) 0)
def d_Cells_init : He.DefD := ⟨("Cells", some "__init__"), "__init__", "Cells.__init__", defArgs t_Cells_init, defBody t_Cells_init, defScope t_Cells_init, [], []⟩
abbrev t_Cells_cell : Stmt := (inClass (top 69) 1)
def d_Cells_cell : He.DefD := ⟨("Cells", some "cell"), "cell", "Cells.cell", defArgs t_Cells_cell, defBody t_Cells_cell, defScope t_Cells_cell, [], []⟩
abbrev t_Cells_put : Stmt := (inClass (top 69) 2)
def d_Cells_put : He.DefD := ⟨("Cells", some "put"), "put", "Cells.put", defArgs t_Cells_put, defBody t_Cells_put, defScope t_Cells_put, [], []⟩
abbrev t_Cells_lay : Stmt := (inClass (top 69) 3)
def d_Cells_lay : He.DefD := ⟨("Cells", some "lay"), "lay", "Cells.lay", defArgs t_Cells_lay, defBody t_Cells_lay, defScope t_Cells_lay, [], []⟩
abbrev t_Cells_put_lowest : Stmt := (inClass (top 69) 7)
def d_Cells_put_lowest : He.DefD := ⟨("Cells", some "put_lowest"), "put_lowest", "Cells.put_lowest", defArgs t_Cells_put_lowest, defBody t_Cells_put_lowest, defScope t_Cells_put_lowest, [], []⟩
abbrev t_look_at_stored : Stmt := (top 70)
def d_look_at_stored : He.DefD := ⟨("look_at_stored", none), "look_at_stored", "look_at_stored", defArgs t_look_at_stored, defBody t_look_at_stored, defScope t_look_at_stored, [], []⟩
abbrev t_is_from : Stmt := (top 81)
def d_is_from : He.DefD := ⟨("is_from", none), "is_from", "is_from", defArgs t_is_from, defBody t_is_from, defScope t_is_from, [], []⟩
abbrev t_is_by : Stmt := (top 82)
def d_is_by : He.DefD := ⟨("is_by", none), "is_by", "is_by", defArgs t_is_by, defBody t_is_by, defScope t_is_by, [], []⟩
abbrev t_is_one_of : Stmt := (top 83)
def d_is_one_of : He.DefD := ⟨("is_one_of", none), "is_one_of", "is_one_of", defArgs t_is_one_of, defBody t_is_one_of, defScope t_is_one_of, [], []⟩
abbrev t_is_sort : Stmt := (top 84)
def d_is_sort : He.DefD := ⟨("is_sort", none), "is_sort", "is_sort", defArgs t_is_sort, defBody t_is_sort, defScope t_is_sort, [], []⟩
abbrev t_is_row : Stmt := (top 85)
def d_is_row : He.DefD := ⟨("is_row", none), "is_row", "is_row", defArgs t_is_row, defBody t_is_row, defScope t_is_row, [], []⟩
abbrev t_look_at_rows : Stmt := (top 86)
def d_look_at_rows : He.DefD := ⟨("look_at_rows", none), "look_at_rows", "look_at_rows", defArgs t_look_at_rows, defBody t_look_at_rows, defScope t_look_at_rows, [], []⟩
abbrev t_is_name : Stmt := (top 92)
def d_is_name : He.DefD := ⟨("is_name", none), "is_name", "is_name", defArgs t_is_name, defBody t_is_name, defScope t_is_name, [], []⟩
abbrev t_are_rows : Stmt := (top 93)
def d_are_rows : He.DefD := ⟨("are_rows", none), "are_rows", "are_rows", defArgs t_are_rows, defBody t_are_rows, defScope t_are_rows, [], []⟩
abbrev t_are_doors : Stmt := (top 94)
def d_are_doors : He.DefD := ⟨("are_doors", none), "are_doors", "are_doors", defArgs t_are_doors, defBody t_are_doors, defScope t_are_doors, [], []⟩
abbrev t_first_part : Stmt := (top 95)
def d_first_part : He.DefD := ⟨("first_part", none), "first_part", "first_part", defArgs t_first_part, defBody t_first_part, defScope t_first_part, [], []⟩
abbrev t_look_at_compartments : Stmt := (top 97)
def d_look_at_compartments : He.DefD := ⟨("look_at_compartments", none), "look_at_compartments", "look_at_compartments", defArgs t_look_at_compartments, defBody t_look_at_compartments, defScope t_look_at_compartments, [], []⟩
abbrev t_placed : Stmt := (top 105)
def d_placed : He.DefD := ⟨("placed", none), "placed", "placed", defArgs t_placed, defBody t_placed, defScope t_placed, [], []⟩
abbrev t_places : Stmt := (top 106)
def d_places : He.DefD := ⟨("places", none), "places", "places", defArgs t_places, defBody t_places, defScope t_places, [], []⟩
abbrev t_gate_to : Stmt := (top 107)
def d_gate_to : He.DefD := ⟨("gate_to", none), "gate_to", "gate_to", defArgs t_gate_to, defBody t_gate_to, defScope t_gate_to, [], []⟩
abbrev t_words_by_names : Stmt := (top 108)
def d_words_by_names : He.DefD := ⟨("words_by_names", none), "words_by_names", "words_by_names", defArgs t_words_by_names, defBody t_words_by_names, defScope t_words_by_names, [], []⟩
abbrev t_cells_of : Stmt := (top 109)
def d_cells_of : He.DefD := ⟨("cells_of", none), "cells_of", "cells_of", defArgs t_cells_of, defBody t_cells_of, defScope t_cells_of, [], []⟩
abbrev t_loaded : Stmt := (top 110)
def d_loaded : He.DefD := ⟨("loaded", none), "loaded", "loaded", defArgs t_loaded, defBody t_loaded, defScope t_loaded, [], [("stack", .int 64)]⟩
abbrev t_is_shut : Stmt := (top 124)
def d_is_shut : He.DefD := ⟨("is_shut", none), "is_shut", "is_shut", defArgs t_is_shut, defBody t_is_shut, defScope t_is_shut, [], []⟩
abbrev t_kept_kind : Stmt := (top 125)
def d_kept_kind : He.DefD := ⟨("kept_kind", none), "kept_kind", "kept_kind", defArgs t_kept_kind, defBody t_kept_kind, defScope t_kept_kind, [], []⟩
abbrev t_walked_so : Stmt := (top 126)
def d_walked_so : He.DefD := ⟨("walked_so", none), "walked_so", "walked_so", defArgs t_walked_so, defBody t_walked_so, defScope t_walked_so, [], []⟩
abbrev t_widened : Stmt := (top 127)
def d_widened : He.DefD := ⟨("widened", none), "widened", "widened", defArgs t_widened, defBody t_widened, defScope t_widened, [], []⟩
abbrev t_narrowed_so : Stmt := (top 128)
def d_narrowed_so : He.DefD := ⟨("narrowed_so", none), "narrowed_so", "narrowed_so", defArgs t_narrowed_so, defBody t_narrowed_so, defScope t_narrowed_so, [], []⟩
abbrev t_lessened_so : Stmt := (top 129)
def d_lessened_so : He.DefD := ⟨("lessened_so", none), "lessened_so", "lessened_so", defArgs t_lessened_so, defBody t_lessened_so, defScope t_lessened_so, [], []⟩
abbrev t_rights_bits : Stmt := (top 130)
def d_rights_bits : He.DefD := ⟨("rights_bits", none), "rights_bits", "rights_bits", defArgs t_rights_bits, defBody t_rights_bits, defScope t_rights_bits, [], []⟩
abbrev t_opened_so : Stmt := (top 131)
def d_opened_so : He.DefD := ⟨("opened_so", none), "opened_so", "opened_so", defArgs t_opened_so, defBody t_opened_so, defScope t_opened_so, [], []⟩
abbrev t_address_so : Stmt := (top 132)
def d_address_so : He.DefD := ⟨("address_so", none), "address_so", "address_so", defArgs t_address_so, defBody t_address_so, defScope t_address_so, [], []⟩
abbrev t_is_named : Stmt := (top 133)
def d_is_named : He.DefD := ⟨("is_named", none), "is_named", "is_named", defArgs t_is_named, defBody t_is_named, defScope t_is_named, [], []⟩
abbrev t_Heap_init : Stmt := (inClass (top 135) 0)
def d_Heap_init : He.DefD := ⟨("Heap", some "__init__"), "__init__", "Heap.__init__", defArgs t_Heap_init, defBody t_Heap_init, defScope t_Heap_init, [], []⟩
abbrev t_Heap_is_stale : Stmt := (inClass (top 135) 6)
def d_Heap_is_stale : He.DefD := ⟨("Heap", some "is_stale"), "is_stale", "Heap.is_stale", defArgs t_Heap_is_stale, defBody t_Heap_is_stale, defScope t_Heap_is_stale, [], []⟩
abbrev t_stack_word : Stmt := (top 140)
def d_stack_word : He.DefD := ⟨("stack_word", none), "stack_word", "stack_word", defArgs t_stack_word, defBody t_stack_word, defScope t_stack_word, [], []⟩
abbrev t_fault_number : Stmt := (top 142)
def d_fault_number : He.DefD := ⟨("fault_number", none), "fault_number", "fault_number", defArgs t_fault_number, defBody t_fault_number, defScope t_fault_number, [], []⟩
abbrev t_is_to : Stmt := (top 147)
def d_is_to : He.DefD := ⟨("is_to", none), "is_to", "is_to", defArgs t_is_to, defBody t_is_to, defScope t_is_to, [], []⟩
abbrev t_Machine_init : Stmt := (inClass (top 148) 0)
def d_Machine_init : He.DefD := ⟨("Machine", some "__init__"), "__init__", "Machine.__init__", defArgs t_Machine_init, defBody t_Machine_init, defScope t_Machine_init, [], [("stack", .int 64), ("hands", .non), ("without", .non)]⟩
abbrev t_Machine_take_hands : Stmt := (inClass (top 148) 1)
def d_Machine_take_hands : He.DefD := ⟨("Machine", some "take_hands"), "take_hands", "Machine.take_hands", defArgs t_Machine_take_hands, defBody t_Machine_take_hands, defScope t_Machine_take_hands, [], []⟩
abbrev t_Machine_step : Stmt := (inClass (top 148) 2)
def d_Machine_step : He.DefD := ⟨("Machine", some "step"), "step", "Machine.step", defArgs t_Machine_step, defBody t_Machine_step, defScope t_Machine_step, [], []⟩
abbrev t_Machine_row_now : Stmt := (inClass (top 148) 4)
def d_Machine_row_now : He.DefD := ⟨("Machine", some "row_now"), "row_now", "Machine.row_now", defArgs t_Machine_row_now, defBody t_Machine_row_now, defScope t_Machine_row_now, [], []⟩
abbrev t_Machine_row_at : Stmt := (inClass (top 148) 5)
def d_Machine_row_at : He.DefD := ⟨("Machine", some "row_at"), "row_at", "Machine.row_at", defArgs t_Machine_row_at, defBody t_Machine_row_at, defScope t_Machine_row_at, [], []⟩
abbrev t_Machine_number_by : Stmt := (inClass (top 148) 6)
def d_Machine_number_by : He.DefD := ⟨("Machine", some "number_by"), "number_by", "Machine.number_by", defArgs t_Machine_number_by, defBody t_Machine_number_by, defScope t_Machine_number_by, [], []⟩
abbrev t_Machine_do : Stmt := (inClass (top 148) 7)
def d_Machine_do : He.DefD := ⟨("Machine", some "do"), "do", "Machine.do", defArgs t_Machine_do, defBody t_Machine_do, defScope t_Machine_do, [], []⟩
abbrev t_Machine_made : Stmt := (inClass (top 148) 8)
def d_Machine_made : He.DefD := ⟨("Machine", some "made"), "made", "Machine.made", defArgs t_Machine_made, defBody t_Machine_made, defScope t_Machine_made, [], []⟩
abbrev t_Machine_made_of : Stmt := (inClass (top 148) 9)
def d_Machine_made_of : He.DefD := ⟨("Machine", some "made_of"), "made_of", "Machine.made_of", defArgs t_Machine_made_of, defBody t_Machine_made_of, defScope t_Machine_made_of, [], []⟩
abbrev t_Machine_name_now : Stmt := (inClass (top 148) 10)
def d_Machine_name_now : He.DefD := ⟨("Machine", some "name_now"), "name_now", "Machine.name_now", defArgs t_Machine_name_now, defBody t_Machine_name_now, defScope t_Machine_name_now, [], []⟩
abbrev t_Machine_touch : Stmt := (inClass (top 148) 11)
def d_Machine_touch : He.DefD := ⟨("Machine", some "touch"), "touch", "Machine.touch", defArgs t_Machine_touch, defBody t_Machine_touch, defScope t_Machine_touch, [], []⟩
abbrev t_Machine_is_loaded : Stmt := (inClass (top 148) 12)
def d_Machine_is_loaded : He.DefD := ⟨("Machine", some "is_loaded"), "is_loaded", "Machine.is_loaded", defArgs t_Machine_is_loaded, defBody t_Machine_is_loaded, defScope t_Machine_is_loaded, [], []⟩
abbrev t_Machine_store : Stmt := (inClass (top 148) 13)
def d_Machine_store : He.DefD := ⟨("Machine", some "store"), "store", "Machine.store", defArgs t_Machine_store, defBody t_Machine_store, defScope t_Machine_store, [], []⟩
abbrev t_Machine_poke : Stmt := (inClass (top 148) 14)
def d_Machine_poke : He.DefD := ⟨("Machine", some "poke"), "poke", "Machine.poke", defArgs t_Machine_poke, defBody t_Machine_poke, defScope t_Machine_poke, [], []⟩
abbrev t_Machine_entered : Stmt := (inClass (top 148) 15)
def d_Machine_entered : He.DefD := ⟨("Machine", some "entered"), "entered", "Machine.entered", defArgs t_Machine_entered, defBody t_Machine_entered, defScope t_Machine_entered, [], []⟩
abbrev t_Machine_called : Stmt := (inClass (top 148) 17)
def d_Machine_called : He.DefD := ⟨("Machine", some "called"), "called", "Machine.called", defArgs t_Machine_called, defBody t_Machine_called, defScope t_Machine_called, [], []⟩
abbrev t_Machine_clear : Stmt := (inClass (top 148) 18)
def d_Machine_clear : He.DefD := ⟨("Machine", some "clear"), "clear", "Machine.clear", defArgs t_Machine_clear, defBody t_Machine_clear, defScope t_Machine_clear, [], []⟩
abbrev t_Machine_gone_back : Stmt := (inClass (top 148) 19)
def d_Machine_gone_back : He.DefD := ⟨("Machine", some "gone_back"), "gone_back", "Machine.gone_back", defArgs t_Machine_gone_back, defBody t_Machine_gone_back, defScope t_Machine_gone_back, [], []⟩
abbrev t_Machine_fall : Stmt := (inClass (top 148) 20)
def d_Machine_fall : He.DefD := ⟨("Machine", some "fall"), "fall", "Machine.fall", defArgs t_Machine_fall, defBody t_Machine_fall, defScope t_Machine_fall, [], []⟩
abbrev t_Machine_room : Stmt := (inClass (top 148) 21)
def d_Machine_room : He.DefD := ⟨("Machine", some "room"), "room", "Machine.room", defArgs t_Machine_room, defBody t_Machine_room, defScope t_Machine_room, [], []⟩
abbrev t_Machine_give : Stmt := (inClass (top 148) 22)
def d_Machine_give : He.DefD := ⟨("Machine", some "give"), "give", "Machine.give", defArgs t_Machine_give, defBody t_Machine_give, defScope t_Machine_give, [], []⟩
abbrev t_Machine_boxes : Stmt := (inClass (top 148) 27)
def d_Machine_boxes : He.DefD := ⟨("Machine", some "boxes"), "boxes", "Machine.boxes", defArgs t_Machine_boxes, defBody t_Machine_boxes, defScope t_Machine_boxes, [], []⟩
abbrev t_Machine_cell : Stmt := (inClass (top 148) 29)
def d_Machine_cell : He.DefD := ⟨("Machine", some "cell"), "cell", "Machine.cell", defArgs t_Machine_cell, defBody t_Machine_cell, defScope t_Machine_cell, [], []⟩
abbrev t_Machine_touches : Stmt := (inClass (top 148) 33)
def d_Machine_touches : He.DefD := ⟨("Machine", some "touches"), "touches", "Machine.touches", defArgs t_Machine_touches, defBody t_Machine_touches, defScope t_Machine_touches, [], []⟩
abbrev t__law_pool : Stmt := (top 150)
def d__law_pool : He.DefD := ⟨("_law_pool", none), "_law_pool", "_law_pool", defArgs t__law_pool, defBody t__law_pool, defScope t__law_pool, [], []⟩
abbrev t__law_take : Stmt := (top 151)
def d__law_take : He.DefD := ⟨("_law_take", none), "_law_take", "_law_take", defArgs t__law_take, defBody t__law_take, defScope t__law_take, [], []⟩
abbrev t__law_by : Stmt := (top 152)
def d__law_by : He.DefD := ⟨("_law_by", none), "_law_by", "_law_by", defArgs t__law_by, defBody t__law_by, defScope t__law_by, [], []⟩
abbrev t__law_row : Stmt := (top 153)
def d__law_row : He.DefD := ⟨("_law_row", none), "_law_row", "_law_row", defArgs t__law_row, defBody t__law_row, defScope t__law_row, [], []⟩
abbrev t__law_rows_of : Stmt := (top 156)
def d__law_rows_of : He.DefD := ⟨("_law_rows_of", none), "_law_rows_of", "_law_rows_of", defArgs t__law_rows_of, defBody t__law_rows_of, defScope t__law_rows_of, [], []⟩
abbrev t__law_all_plain : Stmt := (top 157)
def d__law_all_plain : He.DefD := ⟨("_law_all_plain", none), "_law_all_plain", "_law_all_plain", defArgs t__law_all_plain, defBody t__law_all_plain, defScope t__law_all_plain, [], []⟩
abbrev t__law_is_safe : Stmt := (top 158)
def d__law_is_safe : He.DefD := ⟨("_law_is_safe", none), "_law_is_safe", "_law_is_safe", defArgs t__law_is_safe, defBody t__law_is_safe, defScope t__law_is_safe, [], []⟩
abbrev t_law : Stmt := (top 159)
def d_law : He.DefD := ⟨("law", none), "law", "law", defArgs t_law, defBody t_law, defScope t_law, [], []⟩
abbrev t_Fault_init : Stmt := (inClass (top 11) 0)
def d_Fault_init : He.DefD := ⟨("Fault", some "__init__"), "__init__", "Fault.__init__", defArgs t_Fault_init, defBody t_Fault_init, defScope t_Fault_init, [], []⟩
def fn : List He.DefD := [d_is_whole, d_look_at_bounds, d_least_in_bits, d_from_bits, d_least_held, d_room_of, d_is_word, d_is_rights, d_are_lawful, d_rights_in, d_fields_of, d_is_lawful, d_are_fields, d_word_of, d_plain, d_number_done, d_number_asked, d_is_so, d_bare, d_is_open, d_walked, d_with_bounds, d_narrowed, d_with_rights, d_lessened, d_with_kind, d_kind_told, d_sealed, d_opened_by, d_opened, d_entry, d_look_at_offset, d_is_address, d_address_by, d_Cells_init, d_Cells_cell, d_Cells_put, d_Cells_lay, d_Cells_put_lowest, d_look_at_stored, d_is_from, d_is_by, d_is_one_of, d_is_sort, d_is_row, d_look_at_rows, d_is_name, d_are_rows, d_are_doors, d_first_part, d_look_at_compartments, d_placed, d_places, d_gate_to, d_words_by_names, d_cells_of, d_loaded, d_is_shut, d_kept_kind, d_walked_so, d_widened, d_narrowed_so, d_lessened_so, d_rights_bits, d_opened_so, d_address_so, d_is_named, d_Heap_init, d_Heap_is_stale, d_stack_word, d_fault_number, d_is_to, d_Machine_init, d_Machine_take_hands, d_Machine_step, d_Machine_row_now, d_Machine_row_at, d_Machine_number_by, d_Machine_do, d_Machine_made, d_Machine_made_of, d_Machine_name_now, d_Machine_touch, d_Machine_is_loaded, d_Machine_store, d_Machine_poke, d_Machine_entered, d_Machine_called, d_Machine_clear, d_Machine_gone_back, d_Machine_fall, d_Machine_room, d_Machine_give, d_Machine_boxes, d_Machine_cell, d_Machine_touches, d__law_pool, d__law_take, d__law_by, d__law_row, d__law_rows_of, d__law_all_plain, d__law_is_safe, d_law, d_Fault_init]
def fa0 : List He.Fa := [.glo "is_whole", .glo "look_at_bounds", .glo "least_in_bits", .glo "from_bits", .glo "least_held", .glo "room_of", .glo "is_word", .glo "is_rights", .glo "are_lawful", .glo "rights_in", .glo "fields_of", .glo "is_lawful", .glo "are_fields", .glo "word_of", .glo "plain", .glo "number_done", .glo "number_asked", .glo "is_so", .glo "bare", .glo "is_open", .glo "walked", .glo "with_bounds", .glo "narrowed", .glo "with_rights", .glo "lessened", .glo "with_kind", .glo "kind_told", .glo "sealed", .glo "opened_by", .glo "opened"]
def fa1 : List He.Fa := [.glo "entry", .glo "look_at_offset", .glo "is_address", .glo "address_by", .glo "look_at_stored", .glo "is_from", .glo "is_by", .glo "is_one_of", .glo "is_sort", .glo "is_row", .glo "look_at_rows", .glo "is_name", .glo "are_rows", .glo "are_doors", .glo "first_part", .glo "look_at_compartments", .glo "placed", .glo "places", .glo "gate_to", .glo "words_by_names", .glo "cells_of", .glo "loaded", .glo "is_shut", .glo "kept_kind", .glo "walked_so", .glo "widened", .glo "narrowed_so", .glo "lessened_so", .glo "rights_bits", .glo "opened_so"]
def fa2 : List He.Fa := [.glo "address_so", .glo "is_named", .glo "stack_word", .glo "fault_number", .glo "is_to", .glo "_law_pool", .glo "_law_take", .glo "_law_by", .glo "_law_row", .glo "_law_rows_of", .glo "_law_all_plain", .glo "_law_is_safe", .glo "law", .glo "Machine", .glo "Cells", .glo "Heap", .glo "Fault", .glo "NoRows", .glo "NoFields", .glo "NoBounds", .glo "NoOffset", .glo "NoAddress", .glo "NoWord", .glo "NoHands", .glo "NoRule", .glo "NoNumber", .glo "NoCompartment", .glo "NoName", .glo "ReachError", .glo "FORMS"]
def fa3 : List He.Fa := [.glo "NOTHING", .glo "DEEDS", .glo "ASKS", .glo "WHATS", .glo "LEFT_OUT", .glo "FAULTS", .free "len", .free "isinstance", .free "any", .free "all", .free "sum", .free "enumerate", .free "range", .free "zip", .free "int", .free "bool", .free "str", .free "tuple", .free "list", .free "dict", .free "abs", .free "max", .free "min", .free "ValueError", .free "sorted", .int "CELLS" (4096), .int "MOST_COUNT" (16), .int "MOST_STEP" (8), .int "WORDS" (35184372088832), .int "KINDS" (16)]
def fa4 : List He.Fa := [.int "ENTRY_lesser" (1), .int "LEAST_KIND_lesser" (3), .int "MOST_KIND" (15), .int "LEAST_OFFSET_cells" (-8), .int "MOST_OFFSET_cells" (15), .int "POKED" (268435456), .int "BOXES_rows" (8), .int "MOST_WORTH" (65535), .int "LEAST_OFFSET_rows" (-8), .int "MOST_OFFSET_rows" (15), .int "MOST_ROWS" (64), .int "MOST_THERE" (8), .int "MOST_OWN" (64), .int "MOST_LETTERS" (8), .int "STACK" (64), .int "MOST_STACK" (256), .int "FIRST_CELL" (16), .int "LEAST_KIND_loader" (3), .int "GATE" (2), .int "HEAP_STEP" (4), .int "MOST_DEEP" (8), .int "BOXES_machine" (8), .int "HANDED" (6), .str "RIGHTS" "rwlsnfxco", .str "CELL_GROUP" "rwlsn", .str "LETTERS" "abcdefghijklmnopqrstuvwxyz", .str "POKE" "poke", .str "NARROW" "narrow", .str "LESS" "less", .str "OPEN" "open"]
def fa5 : List He.Fa := [.str "SEALED" "sealed", .str "LOAD" "load", .str "NEAR" "near", .str "ENTRY_loose" "entry", .str "CLEAR" "clear", .str "STRIKE" "strike", .str "BARRIER" "barrier", .str "STACK_RIGHTS" "rwlsn", .str "CELL_RIGHTS" "rwlsf", .cls "Machine", .mkr "Machine", .noat "Machine" "rows", .noat "Machine" "cells", .noat "Machine" "words", .noat "Machine" "stack_bounds", .noat "Machine" "heap", .noat "Machine" "own_boxes", .noat "Machine" "rule", .noat "Machine" "own_row", .noat "Machine" "shelf", .noat "Machine" "touched", .noat "Machine" "handed_out", .noat "Machine" "many_steps", .noat "Machine" "outcome", .noat "Machine" "sweep_at", .cls "Cells", .mkr "Cells", .noat "Cells" "own_cells", .cls "Heap", .mkr "Heap"]
def fa6 : List He.Fa := [.noat "Heap" "heap_low", .noat "Heap" "heap_high", .noat "Heap" "rooms_there", .noat "Heap" "rooms_gone", .noat "Heap" "rooms_noted", .meth "Cells" "cell", .meth "Cells" "put", .meth "Cells" "lay", .meth "Cells" "put_lowest", .meth "Heap" "is_stale", .meth "Machine" "take_hands", .meth "Machine" "step", .meth "Machine" "row_now", .meth "Machine" "row_at", .meth "Machine" "number_by", .meth "Machine" "do", .meth "Machine" "made", .meth "Machine" "made_of", .meth "Machine" "name_now", .meth "Machine" "touch", .meth "Machine" "is_loaded", .meth "Machine" "store", .meth "Machine" "poke", .meth "Machine" "entered", .meth "Machine" "called", .meth "Machine" "clear", .meth "Machine" "gone_back", .meth "Machine" "fall", .meth "Machine" "room", .meth "Machine" "give"]
def fa7 : List He.Fa := [.meth "Machine" "boxes", .meth "Machine" "cell", .meth "Machine" "touches"]
def fa : List He.Fa := fa0 ++ (fa1 ++ (fa2 ++ (fa3 ++ (fa4 ++ (fa5 ++ (fa6 ++ (fa7)))))))
def ts : List He.Tab := [(fun K => He.ga K "FORMS", ["set", "move", "do", "walk", "narrow", "exact", "less", "seal", "open", "entry", "ask", "here", "load", "store", "poke", "jump", "go", "enter", "call", "back", "room", "give"])]
def formsD : List (Str × He.Dv) := [("set", .str "bn"), ("move", .str "bb"), ("do", .str "dby"), ("walk", .str "by"), ("narrow", .str "by"), ("exact", .str "by"), ("less", .str "br"), ("seal", .str "bb"), ("open", .str "bb"), ("entry", .str "b"), ("ask", .str "bkb"), ("here", .str "b"), ("load", .str "bbo"), ("store", .str "bob"), ("poke", .str "bob"), ("jump", .str "jbyt"), ("go", .str "t"), ("enter", .str "b"), ("call", .str "b"), ("back", .str ""), ("room", .str "by"), ("give", .str "b")]
def tv_NOTHING : List He.Dv := [.bl false, .int 0]
def tv_DEEDS : List He.Dv := [.str "plus", .str "minus", .str "times", .str "and", .str "or", .str "either"]
def tv_ASKS : List He.Dv := [.str "same", .str "unlike", .str "under", .str "from"]
def tv_WHATS : List He.Dv := [.str "mark", .str "bits", .str "at", .str "low", .str "high", .str "rights", .str "kind"]
def tv_LEFT_OUT : List He.Dv := [.str "poke", .str "narrow", .str "less", .str "open", .str "sealed", .str "load", .str "near", .str "entry", .str "clear", .str "strike", .str "barrier"]
def tv_FAULTS : List He.Dv := [.str "mark", .str "seal", .str "right", .str "bounds", .str "store", .str "near", .str "rows", .str "gate", .str "stack", .str "deep", .str "room"]
/-- the bases of a class right under ReachError -/
def reachTail (K : PySem.W.Frag) : List Value := .ref (He.ga K "ReachError") :: He.veBase
/-- an exception's class, its bases as written -/
def xclsB (K : PySem.W.Frag) (C : Addr) (bm : List Value) : Bool := match K.lookup C with
  | some ⟨.type "type", _, .cls cd, sl⟩ => (match cd.mro, sl.toList with
    | .ref C' :: bm', [_, _, _, _, some (.builtin n), _] => decide (C' = C) && (decide (n = "ValueError.__new__") && (!cd.hasDel && (cd.hasDict && decide (bm' = bm))))
    | _, _ => false)
  | _ => false
/-- what a class gives by a name, read of the class -/
def valB (K : PySem.W.Frag) (C : Addr) (m : Str) (n : String) : Bool := match PySem.W.findCls K (.ref C) (.type "type") m with
  | some (.val (.builtin x)) => decide (x = n)
  | _ => false
def nodB (K : PySem.W.Frag) (x : Str) : Bool := match K.lookup (He.ga K x) with
  | some ⟨_, none, _, _⟩ => true
  | _ => false
def exL (K : PySem.W.Frag) : List Bool := [He.tupB K "NOTHING" tv_NOTHING, He.tupB K "DEEDS" tv_DEEDS, He.tupB K "ASKS" tv_ASKS, He.tupB K "WHATS" tv_WHATS, He.tupB K "LEFT_OUT" tv_LEFT_OUT, He.tupB K "FAULTS" tv_FAULTS, He.valsB K (He.ga K "FORMS") formsD, xclsB K (He.ga K "Fault") (reachTail K), He.eqO (PySem.W.findIn K (.ref (He.ga K "Fault")) "__setattr__") (some (some (.builtin "object.__setattr__"))), He.eqO (PySem.W.findIn K (.ref (He.ga K "Fault")) "__getattribute__") (some (some (.builtin "BaseException.__getattribute__"))), He.eqO (PySem.W.findIn K (.ref (He.ga K "Fault")) "__getattr__") (some none), He.eqO (PySem.W.findIn K (.ref (He.ga K "Fault")) "word") (some none), He.eqO (PySem.W.findIn K (.ref (He.ga K "Fault")) "__init__") (some (some (.ref (He.ma K (He.ga K "Fault") "__init__")))), decide (PySem.W.typeIn K (.ref (He.ma K (He.ga K "Fault") "__init__")) = some (.type "function")), PySem.W.keepIn K (.ref (He.ga K "Fault")), decide (PySem.W.subIn K (.ref (He.ga K "Fault")) (.type "BaseException") = some true), decide (PySem.W.typeIn K (.ref (He.ga K "Fault")) = some (.type "type")), PySem.W.hasDictIn K (He.ga K "Fault"), decide (PySem.W.exmOne K (.ref (He.ga K "Fault")) (.ref (He.ga K "Fault")) = some true), He.eqO (PySem.W.findIn K (.ref (He.ga K "ReachError")) "__init__") (some (some (.builtin "ValueError.__init__"))), decide (PySem.W.typeIn K (.ref (He.ga K "ReachError")) = some (.type "type")), PySem.W.readsIn K (He.ga K "ReachError") (.type "type"), He.eqO (PySem.W.specialIn K (.ref (He.ga K "ReachError")) "__getattribute__") (some (some (.builtin "type.__getattribute__"))), valB K (He.ga K "ReachError") "__init__" "ValueError.__init__", nodB K "FAULTS"]
def exB (K : PySem.W.Frag) : Bool := (exL K).all id
def as0 : List Addr := [3, 2, 31, 44, 56, 68, 80, 92, 104, 116, 128, 147, 166, 185, 204, 535, 814, 1153, 30, 43, 55, 67, 79, 91, 103, 115, 127, 146, 165, 184]
def as1 : List Addr := [203, 534, 813, 1152, 144, 143, 214, 213, 221, 220, 228, 227, 235, 234, 242, 241, 249, 248, 263, 262, 268, 267, 273, 272, 278, 277, 285, 284, 292, 291]
def as2 : List Addr := [297, 296, 303, 302, 298, 310, 309, 317, 316, 324, 323, 331, 330, 338, 337, 345, 344, 352, 351, 359, 358, 367, 366, 360, 374, 373, 379, 378, 386, 385]
def as3 : List Addr := [393, 392, 400, 399, 405, 404, 412, 411, 419, 418, 427, 426, 434, 433, 442, 441, 435, 456, 455, 463, 462, 470, 469, 477, 476, 505, 504, 546, 545, 558]
def as4 : List Addr := [557, 565, 564, 572, 571, 579, 578, 584, 583, 591, 590, 596, 595, 603, 602, 608, 607, 615, 614, 627, 626, 634, 633, 641, 640, 646, 645, 653, 652, 660]
def as5 : List Addr := [659, 666, 665, 661, 674, 673, 681, 680, 688, 687, 695, 694, 702, 701, 709, 708, 714, 713, 721, 720, 728, 727, 735, 734, 749, 748, 785, 784, 826, 825]
def as6 : List Addr := [840, 839, 845, 844, 858, 857, 853, 863, 862, 870, 869, 884, 883, 891, 890, 898, 897, 905, 904, 912, 911, 919, 918, 926, 925, 933, 932, 940, 939, 947]
def as7 : List Addr := [946, 954, 953, 961, 960, 975, 974, 982, 981, 989, 988, 996, 995, 1003, 1002, 1010, 1009, 1045, 1044, 1059, 1058, 1087, 1086, 1164, 1163, 1171, 1170, 1178, 1177, 1185]
def as8 : List Addr := [1184, 1204, 1203, 1209, 1208, 1216, 1215, 1221, 1220, 140, 159, 183, 197, 217, 224, 245, 281, 288, 348, 370, 382, 389, 420, 459, 480, 494, 501, 508, 513, 528]
def as9 : List Addr := [547, 548, 549, 568, 575, 611, 618, 637, 667, 670, 677, 691, 698, 724, 757, 807, 819, 822, 829, 866, 880, 894, 908, 915, 943, 957, 971, 992, 1006, 1013]
def as10 : List Addr := [1027, 1055, 1132, 1146, 1188, 1195, 550]
def as_ : List Addr := as0 ++ (as1 ++ (as2 ++ (as3 ++ (as4 ++ (as5 ++ (as6 ++ (as7 ++ (as8 ++ (as9 ++ (as10))))))))))
/-! ### the Hook -/
abbrev Al_ : Type := He.AlT × Bool
def obsM (K : PySem.W.Frag) : Al_ := (He.obsT fa fn ts K, exB K)
def valM (w : World) : Al_ := (He.valT fn ts w, true)
def SaysM (w : World) (K : PySem.W.Frag) : Prop := obsM K = valM w
def hookM : PySem.W.Hook where
  α := Al_
  obs := fun s => obsM (He.frG s.heap.get? as_)
  val := fun w => valM w
  says := fun w h => ∃ K : PySem.W.Frag, K.In h ∧ SaysM w K
  of := fun _ _ e => ⟨_, He.frG_in, e⟩
  keeps := fun _ _ _ ⟨K, hK, c⟩ k => ⟨K, PySem.W.Frag.In.keeps hK k, c⟩
/-- what every def's proof stands on -/
structure Tx (P : Program) (w : World) (K : PySem.W.Frag) (mg : Str → Option Value) (base : Heap) : Prop where
  kin : K.In base
  ns : base.Ns mainGlobals mg
  says : SaysM w K
section
variable {P : Program} {w : World} {K : PySem.W.Frag} {mg : Str → Option Value} {base : Heap}
theorem Tx.t (T : Tx P w K mg base) : He.SaysT fa fn ts w K := congrArg (fun z : Al_ => z.1) T.says
theorem Tx.d (T : Tx P w K mg base) : He.SaysD fa fn K := T.t.d
theorem Tx.x (T : Tx P w K mg base) (i : Nat) {b : Bool} (h : (exL K)[i]? = some b := by rfl) : b = true := by
  have e : exB K = true := congrArg (fun z : Al_ => z.2) T.says
  exact List.all_eq_true.mp e b (List.mem_of_getElem? h)
variable (T : Tx P w K mg base)
include T
theorem fd_is_whole : ∃ fd, FunD K "is_whole" "is_whole" (defArgs t_is_whole) (defBody t_is_whole) (defScope t_is_whole) [] [] (He.fAd K d_is_whole.at_) fd := T.d.def_ 0 (d := d_is_whole) rfl
theorem fd_look_at_bounds : ∃ fd, FunD K "look_at_bounds" "look_at_bounds" (defArgs t_look_at_bounds) (defBody t_look_at_bounds) (defScope t_look_at_bounds) [] [] (He.fAd K d_look_at_bounds.at_) fd := T.d.def_ 1 (d := d_look_at_bounds) rfl
theorem fd_least_in_bits : ∃ fd, FunD K "least_in_bits" "least_in_bits" (defArgs t_least_in_bits) (defBody t_least_in_bits) (defScope t_least_in_bits) [] [] (He.fAd K d_least_in_bits.at_) fd := T.d.def_ 2 (d := d_least_in_bits) rfl
theorem fd_from_bits : ∃ fd, FunD K "from_bits" "from_bits" (defArgs t_from_bits) (defBody t_from_bits) (defScope t_from_bits) [] [] (He.fAd K d_from_bits.at_) fd := T.d.def_ 3 (d := d_from_bits) rfl
theorem fd_least_held : ∃ fd, FunD K "least_held" "least_held" (defArgs t_least_held) (defBody t_least_held) (defScope t_least_held) [] [] (He.fAd K d_least_held.at_) fd := T.d.def_ 4 (d := d_least_held) rfl
theorem fd_room_of : ∃ fd, FunD K "room_of" "room_of" (defArgs t_room_of) (defBody t_room_of) (defScope t_room_of) [] [] (He.fAd K d_room_of.at_) fd := T.d.def_ 5 (d := d_room_of) rfl
theorem fd_is_word : ∃ fd, FunD K "is_word" "is_word" (defArgs t_is_word) (defBody t_is_word) (defScope t_is_word) [] [] (He.fAd K d_is_word.at_) fd := T.d.def_ 6 (d := d_is_word) rfl
theorem fd_is_rights : ∃ fd, FunD K "is_rights" "is_rights" (defArgs t_is_rights) (defBody t_is_rights) (defScope t_is_rights) [] [] (He.fAd K d_is_rights.at_) fd := T.d.def_ 7 (d := d_is_rights) rfl
theorem fd_are_lawful : ∃ fd, FunD K "are_lawful" "are_lawful" (defArgs t_are_lawful) (defBody t_are_lawful) (defScope t_are_lawful) [] [] (He.fAd K d_are_lawful.at_) fd := T.d.def_ 8 (d := d_are_lawful) rfl
theorem fd_rights_in : ∃ fd, FunD K "rights_in" "rights_in" (defArgs t_rights_in) (defBody t_rights_in) (defScope t_rights_in) [] [] (He.fAd K d_rights_in.at_) fd := T.d.def_ 9 (d := d_rights_in) rfl
theorem fd_fields_of : ∃ fd, FunD K "fields_of" "fields_of" (defArgs t_fields_of) (defBody t_fields_of) (defScope t_fields_of) [] [] (He.fAd K d_fields_of.at_) fd := T.d.def_ 10 (d := d_fields_of) rfl
theorem fd_is_lawful : ∃ fd, FunD K "is_lawful" "is_lawful" (defArgs t_is_lawful) (defBody t_is_lawful) (defScope t_is_lawful) [] [] (He.fAd K d_is_lawful.at_) fd := T.d.def_ 11 (d := d_is_lawful) rfl
theorem fd_are_fields : ∃ fd, FunD K "are_fields" "are_fields" (defArgs t_are_fields) (defBody t_are_fields) (defScope t_are_fields) [] [] (He.fAd K d_are_fields.at_) fd := T.d.def_ 12 (d := d_are_fields) rfl
theorem fd_word_of : ∃ fd, FunD K "word_of" "word_of" (defArgs t_word_of) (defBody t_word_of) (defScope t_word_of) [] [("marked", V.bl true)] (He.fAd K d_word_of.at_) fd := T.d.def_ 13 (d := d_word_of) rfl
theorem fd_plain : ∃ fd, FunD K "plain" "plain" (defArgs t_plain) (defBody t_plain) (defScope t_plain) [] [] (He.fAd K d_plain.at_) fd := T.d.def_ 14 (d := d_plain) rfl
theorem fd_number_done : ∃ fd, FunD K "number_done" "number_done" (defArgs t_number_done) (defBody t_number_done) (defScope t_number_done) [] [] (He.fAd K d_number_done.at_) fd := T.d.def_ 15 (d := d_number_done) rfl
theorem fd_number_asked : ∃ fd, FunD K "number_asked" "number_asked" (defArgs t_number_asked) (defBody t_number_asked) (defScope t_number_asked) [] [] (He.fAd K d_number_asked.at_) fd := T.d.def_ 16 (d := d_number_asked) rfl
theorem fd_is_so : ∃ fd, FunD K "is_so" "is_so" (defArgs t_is_so) (defBody t_is_so) (defScope t_is_so) [] [] (He.fAd K d_is_so.at_) fd := T.d.def_ 17 (d := d_is_so) rfl
theorem fd_bare : ∃ fd, FunD K "bare" "bare" (defArgs t_bare) (defBody t_bare) (defScope t_bare) [] [] (He.fAd K d_bare.at_) fd := T.d.def_ 18 (d := d_bare) rfl
theorem fd_is_open : ∃ fd, FunD K "is_open" "is_open" (defArgs t_is_open) (defBody t_is_open) (defScope t_is_open) [] [] (He.fAd K d_is_open.at_) fd := T.d.def_ 19 (d := d_is_open) rfl
theorem fd_walked : ∃ fd, FunD K "walked" "walked" (defArgs t_walked) (defBody t_walked) (defScope t_walked) [] [] (He.fAd K d_walked.at_) fd := T.d.def_ 20 (d := d_walked) rfl
theorem fd_with_bounds : ∃ fd, FunD K "with_bounds" "with_bounds" (defArgs t_with_bounds) (defBody t_with_bounds) (defScope t_with_bounds) [] [] (He.fAd K d_with_bounds.at_) fd := T.d.def_ 21 (d := d_with_bounds) rfl
theorem fd_narrowed : ∃ fd, FunD K "narrowed" "narrowed" (defArgs t_narrowed) (defBody t_narrowed) (defScope t_narrowed) [] [("exact", V.bl false)] (He.fAd K d_narrowed.at_) fd := T.d.def_ 22 (d := d_narrowed) rfl
theorem fd_with_rights : ∃ fd, FunD K "with_rights" "with_rights" (defArgs t_with_rights) (defBody t_with_rights) (defScope t_with_rights) [] [] (He.fAd K d_with_rights.at_) fd := T.d.def_ 23 (d := d_with_rights) rfl
theorem fd_lessened : ∃ fd, FunD K "lessened" "lessened" (defArgs t_lessened) (defBody t_lessened) (defScope t_lessened) [] [] (He.fAd K d_lessened.at_) fd := T.d.def_ 24 (d := d_lessened) rfl
theorem fd_with_kind : ∃ fd, FunD K "with_kind" "with_kind" (defArgs t_with_kind) (defBody t_with_kind) (defScope t_with_kind) [] [] (He.fAd K d_with_kind.at_) fd := T.d.def_ 25 (d := d_with_kind) rfl
theorem fd_kind_told : ∃ fd, FunD K "kind_told" "kind_told" (defArgs t_kind_told) (defBody t_kind_told) (defScope t_kind_told) [] [] (He.fAd K d_kind_told.at_) fd := T.d.def_ 26 (d := d_kind_told) rfl
theorem fd_sealed : ∃ fd, FunD K "sealed" "sealed" (defArgs t_sealed) (defBody t_sealed) (defScope t_sealed) [] [] (He.fAd K d_sealed.at_) fd := T.d.def_ 27 (d := d_sealed) rfl
theorem fd_opened_by : ∃ fd, FunD K "opened_by" "opened_by" (defArgs t_opened_by) (defBody t_opened_by) (defScope t_opened_by) [] [] (He.fAd K d_opened_by.at_) fd := T.d.def_ 28 (d := d_opened_by) rfl
theorem fd_opened : ∃ fd, FunD K "opened" "opened" (defArgs t_opened) (defBody t_opened) (defScope t_opened) [] [] (He.fAd K d_opened.at_) fd := T.d.def_ 29 (d := d_opened) rfl
theorem fd_entry : ∃ fd, FunD K "entry" "entry" (defArgs t_entry) (defBody t_entry) (defScope t_entry) [] [] (He.fAd K d_entry.at_) fd := T.d.def_ 30 (d := d_entry) rfl
theorem fd_look_at_offset : ∃ fd, FunD K "look_at_offset" "look_at_offset" (defArgs t_look_at_offset) (defBody t_look_at_offset) (defScope t_look_at_offset) [] [] (He.fAd K d_look_at_offset.at_) fd := T.d.def_ 31 (d := d_look_at_offset) rfl
theorem fd_is_address : ∃ fd, FunD K "is_address" "is_address" (defArgs t_is_address) (defBody t_is_address) (defScope t_is_address) [] [] (He.fAd K d_is_address.at_) fd := T.d.def_ 32 (d := d_is_address) rfl
theorem fd_address_by : ∃ fd, FunD K "address_by" "address_by" (defArgs t_address_by) (defBody t_address_by) (defScope t_address_by) [] [("sealed", V.bl false)] (He.fAd K d_address_by.at_) fd := T.d.def_ 33 (d := d_address_by) rfl
theorem fd_Cells_init : ∃ fd, FunD K "__init__" "Cells.__init__" (defArgs t_Cells_init) (defBody t_Cells_init) (defScope t_Cells_init) [] [] (He.fAd K d_Cells_init.at_) fd := T.d.def_ 34 (d := d_Cells_init) rfl
theorem fd_Cells_cell : ∃ fd, FunD K "cell" "Cells.cell" (defArgs t_Cells_cell) (defBody t_Cells_cell) (defScope t_Cells_cell) [] [] (He.fAd K d_Cells_cell.at_) fd := T.d.def_ 35 (d := d_Cells_cell) rfl
theorem fd_Cells_put : ∃ fd, FunD K "put" "Cells.put" (defArgs t_Cells_put) (defBody t_Cells_put) (defScope t_Cells_put) [] [] (He.fAd K d_Cells_put.at_) fd := T.d.def_ 36 (d := d_Cells_put) rfl
theorem fd_Cells_lay : ∃ fd, FunD K "lay" "Cells.lay" (defArgs t_Cells_lay) (defBody t_Cells_lay) (defScope t_Cells_lay) [] [] (He.fAd K d_Cells_lay.at_) fd := T.d.def_ 37 (d := d_Cells_lay) rfl
theorem fd_Cells_put_lowest : ∃ fd, FunD K "put_lowest" "Cells.put_lowest" (defArgs t_Cells_put_lowest) (defBody t_Cells_put_lowest) (defScope t_Cells_put_lowest) [] [] (He.fAd K d_Cells_put_lowest.at_) fd := T.d.def_ 38 (d := d_Cells_put_lowest) rfl
theorem fd_look_at_stored : ∃ fd, FunD K "look_at_stored" "look_at_stored" (defArgs t_look_at_stored) (defBody t_look_at_stored) (defScope t_look_at_stored) [] [] (He.fAd K d_look_at_stored.at_) fd := T.d.def_ 39 (d := d_look_at_stored) rfl
theorem fd_is_from : ∃ fd, FunD K "is_from" "is_from" (defArgs t_is_from) (defBody t_is_from) (defScope t_is_from) [] [] (He.fAd K d_is_from.at_) fd := T.d.def_ 40 (d := d_is_from) rfl
theorem fd_is_by : ∃ fd, FunD K "is_by" "is_by" (defArgs t_is_by) (defBody t_is_by) (defScope t_is_by) [] [] (He.fAd K d_is_by.at_) fd := T.d.def_ 41 (d := d_is_by) rfl
theorem fd_is_one_of : ∃ fd, FunD K "is_one_of" "is_one_of" (defArgs t_is_one_of) (defBody t_is_one_of) (defScope t_is_one_of) [] [] (He.fAd K d_is_one_of.at_) fd := T.d.def_ 42 (d := d_is_one_of) rfl
theorem fd_is_sort : ∃ fd, FunD K "is_sort" "is_sort" (defArgs t_is_sort) (defBody t_is_sort) (defScope t_is_sort) [] [] (He.fAd K d_is_sort.at_) fd := T.d.def_ 43 (d := d_is_sort) rfl
theorem fd_is_row : ∃ fd, FunD K "is_row" "is_row" (defArgs t_is_row) (defBody t_is_row) (defScope t_is_row) [] [] (He.fAd K d_is_row.at_) fd := T.d.def_ 44 (d := d_is_row) rfl
theorem fd_look_at_rows : ∃ fd, FunD K "look_at_rows" "look_at_rows" (defArgs t_look_at_rows) (defBody t_look_at_rows) (defScope t_look_at_rows) [] [] (He.fAd K d_look_at_rows.at_) fd := T.d.def_ 45 (d := d_look_at_rows) rfl
theorem fd_is_name : ∃ fd, FunD K "is_name" "is_name" (defArgs t_is_name) (defBody t_is_name) (defScope t_is_name) [] [] (He.fAd K d_is_name.at_) fd := T.d.def_ 46 (d := d_is_name) rfl
theorem fd_are_rows : ∃ fd, FunD K "are_rows" "are_rows" (defArgs t_are_rows) (defBody t_are_rows) (defScope t_are_rows) [] [] (He.fAd K d_are_rows.at_) fd := T.d.def_ 47 (d := d_are_rows) rfl
theorem fd_are_doors : ∃ fd, FunD K "are_doors" "are_doors" (defArgs t_are_doors) (defBody t_are_doors) (defScope t_are_doors) [] [] (He.fAd K d_are_doors.at_) fd := T.d.def_ 48 (d := d_are_doors) rfl
theorem fd_first_part : ∃ fd, FunD K "first_part" "first_part" (defArgs t_first_part) (defBody t_first_part) (defScope t_first_part) [] [] (He.fAd K d_first_part.at_) fd := T.d.def_ 49 (d := d_first_part) rfl
theorem fd_look_at_compartments : ∃ fd, FunD K "look_at_compartments" "look_at_compartments" (defArgs t_look_at_compartments) (defBody t_look_at_compartments) (defScope t_look_at_compartments) [] [] (He.fAd K d_look_at_compartments.at_) fd := T.d.def_ 50 (d := d_look_at_compartments) rfl
theorem fd_placed : ∃ fd, FunD K "placed" "placed" (defArgs t_placed) (defBody t_placed) (defScope t_placed) [] [] (He.fAd K d_placed.at_) fd := T.d.def_ 51 (d := d_placed) rfl
theorem fd_places : ∃ fd, FunD K "places" "places" (defArgs t_places) (defBody t_places) (defScope t_places) [] [] (He.fAd K d_places.at_) fd := T.d.def_ 52 (d := d_places) rfl
theorem fd_gate_to : ∃ fd, FunD K "gate_to" "gate_to" (defArgs t_gate_to) (defBody t_gate_to) (defScope t_gate_to) [] [] (He.fAd K d_gate_to.at_) fd := T.d.def_ 53 (d := d_gate_to) rfl
theorem fd_words_by_names : ∃ fd, FunD K "words_by_names" "words_by_names" (defArgs t_words_by_names) (defBody t_words_by_names) (defScope t_words_by_names) [] [] (He.fAd K d_words_by_names.at_) fd := T.d.def_ 54 (d := d_words_by_names) rfl
theorem fd_cells_of : ∃ fd, FunD K "cells_of" "cells_of" (defArgs t_cells_of) (defBody t_cells_of) (defScope t_cells_of) [] [] (He.fAd K d_cells_of.at_) fd := T.d.def_ 55 (d := d_cells_of) rfl
theorem fd_loaded : ∃ fd, FunD K "loaded" "loaded" (defArgs t_loaded) (defBody t_loaded) (defScope t_loaded) [] [("stack", V.int 64)] (He.fAd K d_loaded.at_) fd := T.d.def_ 56 (d := d_loaded) rfl
theorem fd_is_shut : ∃ fd, FunD K "is_shut" "is_shut" (defArgs t_is_shut) (defBody t_is_shut) (defScope t_is_shut) [] [] (He.fAd K d_is_shut.at_) fd := T.d.def_ 57 (d := d_is_shut) rfl
theorem fd_kept_kind : ∃ fd, FunD K "kept_kind" "kept_kind" (defArgs t_kept_kind) (defBody t_kept_kind) (defScope t_kept_kind) [] [] (He.fAd K d_kept_kind.at_) fd := T.d.def_ 58 (d := d_kept_kind) rfl
theorem fd_walked_so : ∃ fd, FunD K "walked_so" "walked_so" (defArgs t_walked_so) (defBody t_walked_so) (defScope t_walked_so) [] [] (He.fAd K d_walked_so.at_) fd := T.d.def_ 59 (d := d_walked_so) rfl
theorem fd_widened : ∃ fd, FunD K "widened" "widened" (defArgs t_widened) (defBody t_widened) (defScope t_widened) [] [] (He.fAd K d_widened.at_) fd := T.d.def_ 60 (d := d_widened) rfl
theorem fd_narrowed_so : ∃ fd, FunD K "narrowed_so" "narrowed_so" (defArgs t_narrowed_so) (defBody t_narrowed_so) (defScope t_narrowed_so) [] [] (He.fAd K d_narrowed_so.at_) fd := T.d.def_ 61 (d := d_narrowed_so) rfl
theorem fd_lessened_so : ∃ fd, FunD K "lessened_so" "lessened_so" (defArgs t_lessened_so) (defBody t_lessened_so) (defScope t_lessened_so) [] [] (He.fAd K d_lessened_so.at_) fd := T.d.def_ 62 (d := d_lessened_so) rfl
theorem fd_rights_bits : ∃ fd, FunD K "rights_bits" "rights_bits" (defArgs t_rights_bits) (defBody t_rights_bits) (defScope t_rights_bits) [] [] (He.fAd K d_rights_bits.at_) fd := T.d.def_ 63 (d := d_rights_bits) rfl
theorem fd_opened_so : ∃ fd, FunD K "opened_so" "opened_so" (defArgs t_opened_so) (defBody t_opened_so) (defScope t_opened_so) [] [] (He.fAd K d_opened_so.at_) fd := T.d.def_ 64 (d := d_opened_so) rfl
theorem fd_address_so : ∃ fd, FunD K "address_so" "address_so" (defArgs t_address_so) (defBody t_address_so) (defScope t_address_so) [] [] (He.fAd K d_address_so.at_) fd := T.d.def_ 65 (d := d_address_so) rfl
theorem fd_is_named : ∃ fd, FunD K "is_named" "is_named" (defArgs t_is_named) (defBody t_is_named) (defScope t_is_named) [] [] (He.fAd K d_is_named.at_) fd := T.d.def_ 66 (d := d_is_named) rfl
theorem fd_Heap_init : ∃ fd, FunD K "__init__" "Heap.__init__" (defArgs t_Heap_init) (defBody t_Heap_init) (defScope t_Heap_init) [] [] (He.fAd K d_Heap_init.at_) fd := T.d.def_ 67 (d := d_Heap_init) rfl
theorem fd_Heap_is_stale : ∃ fd, FunD K "is_stale" "Heap.is_stale" (defArgs t_Heap_is_stale) (defBody t_Heap_is_stale) (defScope t_Heap_is_stale) [] [] (He.fAd K d_Heap_is_stale.at_) fd := T.d.def_ 68 (d := d_Heap_is_stale) rfl
theorem fd_stack_word : ∃ fd, FunD K "stack_word" "stack_word" (defArgs t_stack_word) (defBody t_stack_word) (defScope t_stack_word) [] [] (He.fAd K d_stack_word.at_) fd := T.d.def_ 69 (d := d_stack_word) rfl
theorem fd_fault_number : ∃ fd, FunD K "fault_number" "fault_number" (defArgs t_fault_number) (defBody t_fault_number) (defScope t_fault_number) [] [] (He.fAd K d_fault_number.at_) fd := T.d.def_ 70 (d := d_fault_number) rfl
theorem fd_is_to : ∃ fd, FunD K "is_to" "is_to" (defArgs t_is_to) (defBody t_is_to) (defScope t_is_to) [] [] (He.fAd K d_is_to.at_) fd := T.d.def_ 71 (d := d_is_to) rfl
theorem fd_Machine_init : ∃ fd, FunD K "__init__" "Machine.__init__" (defArgs t_Machine_init) (defBody t_Machine_init) (defScope t_Machine_init) [] [("stack", V.int 64), ("hands", V.non), ("without", V.non)] (He.fAd K d_Machine_init.at_) fd := T.d.def_ 72 (d := d_Machine_init) rfl
theorem fd_Machine_take_hands : ∃ fd, FunD K "take_hands" "Machine.take_hands" (defArgs t_Machine_take_hands) (defBody t_Machine_take_hands) (defScope t_Machine_take_hands) [] [] (He.fAd K d_Machine_take_hands.at_) fd := T.d.def_ 73 (d := d_Machine_take_hands) rfl
theorem fd_Machine_step : ∃ fd, FunD K "step" "Machine.step" (defArgs t_Machine_step) (defBody t_Machine_step) (defScope t_Machine_step) [] [] (He.fAd K d_Machine_step.at_) fd := T.d.def_ 74 (d := d_Machine_step) rfl
theorem fd_Machine_row_now : ∃ fd, FunD K "row_now" "Machine.row_now" (defArgs t_Machine_row_now) (defBody t_Machine_row_now) (defScope t_Machine_row_now) [] [] (He.fAd K d_Machine_row_now.at_) fd := T.d.def_ 75 (d := d_Machine_row_now) rfl
theorem fd_Machine_row_at : ∃ fd, FunD K "row_at" "Machine.row_at" (defArgs t_Machine_row_at) (defBody t_Machine_row_at) (defScope t_Machine_row_at) [] [] (He.fAd K d_Machine_row_at.at_) fd := T.d.def_ 76 (d := d_Machine_row_at) rfl
theorem fd_Machine_number_by : ∃ fd, FunD K "number_by" "Machine.number_by" (defArgs t_Machine_number_by) (defBody t_Machine_number_by) (defScope t_Machine_number_by) [] [] (He.fAd K d_Machine_number_by.at_) fd := T.d.def_ 77 (d := d_Machine_number_by) rfl
theorem fd_Machine_do : ∃ fd, FunD K "do" "Machine.do" (defArgs t_Machine_do) (defBody t_Machine_do) (defScope t_Machine_do) [] [] (He.fAd K d_Machine_do.at_) fd := T.d.def_ 78 (d := d_Machine_do) rfl
theorem fd_Machine_made : ∃ fd, FunD K "made" "Machine.made" (defArgs t_Machine_made) (defBody t_Machine_made) (defScope t_Machine_made) [] [] (He.fAd K d_Machine_made.at_) fd := T.d.def_ 79 (d := d_Machine_made) rfl
theorem fd_Machine_made_of : ∃ fd, FunD K "made_of" "Machine.made_of" (defArgs t_Machine_made_of) (defBody t_Machine_made_of) (defScope t_Machine_made_of) [] [] (He.fAd K d_Machine_made_of.at_) fd := T.d.def_ 80 (d := d_Machine_made_of) rfl
theorem fd_Machine_name_now : ∃ fd, FunD K "name_now" "Machine.name_now" (defArgs t_Machine_name_now) (defBody t_Machine_name_now) (defScope t_Machine_name_now) [] [] (He.fAd K d_Machine_name_now.at_) fd := T.d.def_ 81 (d := d_Machine_name_now) rfl
theorem fd_Machine_touch : ∃ fd, FunD K "touch" "Machine.touch" (defArgs t_Machine_touch) (defBody t_Machine_touch) (defScope t_Machine_touch) [] [] (He.fAd K d_Machine_touch.at_) fd := T.d.def_ 82 (d := d_Machine_touch) rfl
theorem fd_Machine_is_loaded : ∃ fd, FunD K "is_loaded" "Machine.is_loaded" (defArgs t_Machine_is_loaded) (defBody t_Machine_is_loaded) (defScope t_Machine_is_loaded) [] [] (He.fAd K d_Machine_is_loaded.at_) fd := T.d.def_ 83 (d := d_Machine_is_loaded) rfl
theorem fd_Machine_store : ∃ fd, FunD K "store" "Machine.store" (defArgs t_Machine_store) (defBody t_Machine_store) (defScope t_Machine_store) [] [] (He.fAd K d_Machine_store.at_) fd := T.d.def_ 84 (d := d_Machine_store) rfl
theorem fd_Machine_poke : ∃ fd, FunD K "poke" "Machine.poke" (defArgs t_Machine_poke) (defBody t_Machine_poke) (defScope t_Machine_poke) [] [] (He.fAd K d_Machine_poke.at_) fd := T.d.def_ 85 (d := d_Machine_poke) rfl
theorem fd_Machine_entered : ∃ fd, FunD K "entered" "Machine.entered" (defArgs t_Machine_entered) (defBody t_Machine_entered) (defScope t_Machine_entered) [] [] (He.fAd K d_Machine_entered.at_) fd := T.d.def_ 86 (d := d_Machine_entered) rfl
theorem fd_Machine_called : ∃ fd, FunD K "called" "Machine.called" (defArgs t_Machine_called) (defBody t_Machine_called) (defScope t_Machine_called) [] [] (He.fAd K d_Machine_called.at_) fd := T.d.def_ 87 (d := d_Machine_called) rfl
theorem fd_Machine_clear : ∃ fd, FunD K "clear" "Machine.clear" (defArgs t_Machine_clear) (defBody t_Machine_clear) (defScope t_Machine_clear) [] [] (He.fAd K d_Machine_clear.at_) fd := T.d.def_ 88 (d := d_Machine_clear) rfl
theorem fd_Machine_gone_back : ∃ fd, FunD K "gone_back" "Machine.gone_back" (defArgs t_Machine_gone_back) (defBody t_Machine_gone_back) (defScope t_Machine_gone_back) [] [] (He.fAd K d_Machine_gone_back.at_) fd := T.d.def_ 89 (d := d_Machine_gone_back) rfl
theorem fd_Machine_fall : ∃ fd, FunD K "fall" "Machine.fall" (defArgs t_Machine_fall) (defBody t_Machine_fall) (defScope t_Machine_fall) [] [] (He.fAd K d_Machine_fall.at_) fd := T.d.def_ 90 (d := d_Machine_fall) rfl
theorem fd_Machine_room : ∃ fd, FunD K "room" "Machine.room" (defArgs t_Machine_room) (defBody t_Machine_room) (defScope t_Machine_room) [] [] (He.fAd K d_Machine_room.at_) fd := T.d.def_ 91 (d := d_Machine_room) rfl
theorem fd_Machine_give : ∃ fd, FunD K "give" "Machine.give" (defArgs t_Machine_give) (defBody t_Machine_give) (defScope t_Machine_give) [] [] (He.fAd K d_Machine_give.at_) fd := T.d.def_ 92 (d := d_Machine_give) rfl
theorem fd_Machine_boxes : ∃ fd, FunD K "boxes" "Machine.boxes" (defArgs t_Machine_boxes) (defBody t_Machine_boxes) (defScope t_Machine_boxes) [] [] (He.fAd K d_Machine_boxes.at_) fd := T.d.def_ 93 (d := d_Machine_boxes) rfl
theorem fd_Machine_cell : ∃ fd, FunD K "cell" "Machine.cell" (defArgs t_Machine_cell) (defBody t_Machine_cell) (defScope t_Machine_cell) [] [] (He.fAd K d_Machine_cell.at_) fd := T.d.def_ 94 (d := d_Machine_cell) rfl
theorem fd_Machine_touches : ∃ fd, FunD K "touches" "Machine.touches" (defArgs t_Machine_touches) (defBody t_Machine_touches) (defScope t_Machine_touches) [] [] (He.fAd K d_Machine_touches.at_) fd := T.d.def_ 95 (d := d_Machine_touches) rfl
theorem fd__law_pool : ∃ fd, FunD K "_law_pool" "_law_pool" (defArgs t__law_pool) (defBody t__law_pool) (defScope t__law_pool) [] [] (He.fAd K d__law_pool.at_) fd := T.d.def_ 96 (d := d__law_pool) rfl
theorem fd__law_take : ∃ fd, FunD K "_law_take" "_law_take" (defArgs t__law_take) (defBody t__law_take) (defScope t__law_take) [] [] (He.fAd K d__law_take.at_) fd := T.d.def_ 97 (d := d__law_take) rfl
theorem fd__law_by : ∃ fd, FunD K "_law_by" "_law_by" (defArgs t__law_by) (defBody t__law_by) (defScope t__law_by) [] [] (He.fAd K d__law_by.at_) fd := T.d.def_ 98 (d := d__law_by) rfl
theorem fd__law_row : ∃ fd, FunD K "_law_row" "_law_row" (defArgs t__law_row) (defBody t__law_row) (defScope t__law_row) [] [] (He.fAd K d__law_row.at_) fd := T.d.def_ 99 (d := d__law_row) rfl
theorem fd__law_rows_of : ∃ fd, FunD K "_law_rows_of" "_law_rows_of" (defArgs t__law_rows_of) (defBody t__law_rows_of) (defScope t__law_rows_of) [] [] (He.fAd K d__law_rows_of.at_) fd := T.d.def_ 100 (d := d__law_rows_of) rfl
theorem fd__law_all_plain : ∃ fd, FunD K "_law_all_plain" "_law_all_plain" (defArgs t__law_all_plain) (defBody t__law_all_plain) (defScope t__law_all_plain) [] [] (He.fAd K d__law_all_plain.at_) fd := T.d.def_ 101 (d := d__law_all_plain) rfl
theorem fd__law_is_safe : ∃ fd, FunD K "_law_is_safe" "_law_is_safe" (defArgs t__law_is_safe) (defBody t__law_is_safe) (defScope t__law_is_safe) [] [] (He.fAd K d__law_is_safe.at_) fd := T.d.def_ 102 (d := d__law_is_safe) rfl
theorem fd_law : ∃ fd, FunD K "law" "law" (defArgs t_law) (defBody t_law) (defScope t_law) [] [] (He.fAd K d_law.at_) fd := T.d.def_ 103 (d := d_law) rfl
theorem fd_Fault_init : ∃ fd, FunD K "__init__" "Fault.__init__" (defArgs t_Fault_init) (defBody t_Fault_init) (defScope t_Fault_init) [] [] (He.fAd K d_Fault_init.at_) fd := T.d.def_ 104 (d := d_Fault_init) rfl
theorem gl_is_whole : mg "is_whole" = some (.ref (He.ga K "is_whole")) := He.glo_ok T.kin T.ns (T.d.fact 0 (f := .glo "is_whole") rfl)
theorem gl_look_at_bounds : mg "look_at_bounds" = some (.ref (He.ga K "look_at_bounds")) := He.glo_ok T.kin T.ns (T.d.fact 1 (f := .glo "look_at_bounds") rfl)
theorem gl_least_in_bits : mg "least_in_bits" = some (.ref (He.ga K "least_in_bits")) := He.glo_ok T.kin T.ns (T.d.fact 2 (f := .glo "least_in_bits") rfl)
theorem gl_from_bits : mg "from_bits" = some (.ref (He.ga K "from_bits")) := He.glo_ok T.kin T.ns (T.d.fact 3 (f := .glo "from_bits") rfl)
theorem gl_least_held : mg "least_held" = some (.ref (He.ga K "least_held")) := He.glo_ok T.kin T.ns (T.d.fact 4 (f := .glo "least_held") rfl)
theorem gl_room_of : mg "room_of" = some (.ref (He.ga K "room_of")) := He.glo_ok T.kin T.ns (T.d.fact 5 (f := .glo "room_of") rfl)
theorem gl_is_word : mg "is_word" = some (.ref (He.ga K "is_word")) := He.glo_ok T.kin T.ns (T.d.fact 6 (f := .glo "is_word") rfl)
theorem gl_is_rights : mg "is_rights" = some (.ref (He.ga K "is_rights")) := He.glo_ok T.kin T.ns (T.d.fact 7 (f := .glo "is_rights") rfl)
theorem gl_are_lawful : mg "are_lawful" = some (.ref (He.ga K "are_lawful")) := He.glo_ok T.kin T.ns (T.d.fact 8 (f := .glo "are_lawful") rfl)
theorem gl_rights_in : mg "rights_in" = some (.ref (He.ga K "rights_in")) := He.glo_ok T.kin T.ns (T.d.fact 9 (f := .glo "rights_in") rfl)
theorem gl_fields_of : mg "fields_of" = some (.ref (He.ga K "fields_of")) := He.glo_ok T.kin T.ns (T.d.fact 10 (f := .glo "fields_of") rfl)
theorem gl_is_lawful : mg "is_lawful" = some (.ref (He.ga K "is_lawful")) := He.glo_ok T.kin T.ns (T.d.fact 11 (f := .glo "is_lawful") rfl)
theorem gl_are_fields : mg "are_fields" = some (.ref (He.ga K "are_fields")) := He.glo_ok T.kin T.ns (T.d.fact 12 (f := .glo "are_fields") rfl)
theorem gl_word_of : mg "word_of" = some (.ref (He.ga K "word_of")) := He.glo_ok T.kin T.ns (T.d.fact 13 (f := .glo "word_of") rfl)
theorem gl_plain : mg "plain" = some (.ref (He.ga K "plain")) := He.glo_ok T.kin T.ns (T.d.fact 14 (f := .glo "plain") rfl)
theorem gl_number_done : mg "number_done" = some (.ref (He.ga K "number_done")) := He.glo_ok T.kin T.ns (T.d.fact 15 (f := .glo "number_done") rfl)
theorem gl_number_asked : mg "number_asked" = some (.ref (He.ga K "number_asked")) := He.glo_ok T.kin T.ns (T.d.fact 16 (f := .glo "number_asked") rfl)
theorem gl_is_so : mg "is_so" = some (.ref (He.ga K "is_so")) := He.glo_ok T.kin T.ns (T.d.fact 17 (f := .glo "is_so") rfl)
theorem gl_bare : mg "bare" = some (.ref (He.ga K "bare")) := He.glo_ok T.kin T.ns (T.d.fact 18 (f := .glo "bare") rfl)
theorem gl_is_open : mg "is_open" = some (.ref (He.ga K "is_open")) := He.glo_ok T.kin T.ns (T.d.fact 19 (f := .glo "is_open") rfl)
theorem gl_walked : mg "walked" = some (.ref (He.ga K "walked")) := He.glo_ok T.kin T.ns (T.d.fact 20 (f := .glo "walked") rfl)
theorem gl_with_bounds : mg "with_bounds" = some (.ref (He.ga K "with_bounds")) := He.glo_ok T.kin T.ns (T.d.fact 21 (f := .glo "with_bounds") rfl)
theorem gl_narrowed : mg "narrowed" = some (.ref (He.ga K "narrowed")) := He.glo_ok T.kin T.ns (T.d.fact 22 (f := .glo "narrowed") rfl)
theorem gl_with_rights : mg "with_rights" = some (.ref (He.ga K "with_rights")) := He.glo_ok T.kin T.ns (T.d.fact 23 (f := .glo "with_rights") rfl)
theorem gl_lessened : mg "lessened" = some (.ref (He.ga K "lessened")) := He.glo_ok T.kin T.ns (T.d.fact 24 (f := .glo "lessened") rfl)
theorem gl_with_kind : mg "with_kind" = some (.ref (He.ga K "with_kind")) := He.glo_ok T.kin T.ns (T.d.fact 25 (f := .glo "with_kind") rfl)
theorem gl_kind_told : mg "kind_told" = some (.ref (He.ga K "kind_told")) := He.glo_ok T.kin T.ns (T.d.fact 26 (f := .glo "kind_told") rfl)
theorem gl_sealed : mg "sealed" = some (.ref (He.ga K "sealed")) := He.glo_ok T.kin T.ns (T.d.fact 27 (f := .glo "sealed") rfl)
theorem gl_opened_by : mg "opened_by" = some (.ref (He.ga K "opened_by")) := He.glo_ok T.kin T.ns (T.d.fact 28 (f := .glo "opened_by") rfl)
theorem gl_opened : mg "opened" = some (.ref (He.ga K "opened")) := He.glo_ok T.kin T.ns (T.d.fact 29 (f := .glo "opened") rfl)
theorem gl_entry : mg "entry" = some (.ref (He.ga K "entry")) := He.glo_ok T.kin T.ns (T.d.fact 30 (f := .glo "entry") rfl)
theorem gl_look_at_offset : mg "look_at_offset" = some (.ref (He.ga K "look_at_offset")) := He.glo_ok T.kin T.ns (T.d.fact 31 (f := .glo "look_at_offset") rfl)
theorem gl_is_address : mg "is_address" = some (.ref (He.ga K "is_address")) := He.glo_ok T.kin T.ns (T.d.fact 32 (f := .glo "is_address") rfl)
theorem gl_address_by : mg "address_by" = some (.ref (He.ga K "address_by")) := He.glo_ok T.kin T.ns (T.d.fact 33 (f := .glo "address_by") rfl)
theorem gl_look_at_stored : mg "look_at_stored" = some (.ref (He.ga K "look_at_stored")) := He.glo_ok T.kin T.ns (T.d.fact 34 (f := .glo "look_at_stored") rfl)
theorem gl_is_from : mg "is_from" = some (.ref (He.ga K "is_from")) := He.glo_ok T.kin T.ns (T.d.fact 35 (f := .glo "is_from") rfl)
theorem gl_is_by : mg "is_by" = some (.ref (He.ga K "is_by")) := He.glo_ok T.kin T.ns (T.d.fact 36 (f := .glo "is_by") rfl)
theorem gl_is_one_of : mg "is_one_of" = some (.ref (He.ga K "is_one_of")) := He.glo_ok T.kin T.ns (T.d.fact 37 (f := .glo "is_one_of") rfl)
theorem gl_is_sort : mg "is_sort" = some (.ref (He.ga K "is_sort")) := He.glo_ok T.kin T.ns (T.d.fact 38 (f := .glo "is_sort") rfl)
theorem gl_is_row : mg "is_row" = some (.ref (He.ga K "is_row")) := He.glo_ok T.kin T.ns (T.d.fact 39 (f := .glo "is_row") rfl)
theorem gl_look_at_rows : mg "look_at_rows" = some (.ref (He.ga K "look_at_rows")) := He.glo_ok T.kin T.ns (T.d.fact 40 (f := .glo "look_at_rows") rfl)
theorem gl_is_name : mg "is_name" = some (.ref (He.ga K "is_name")) := He.glo_ok T.kin T.ns (T.d.fact 41 (f := .glo "is_name") rfl)
theorem gl_are_rows : mg "are_rows" = some (.ref (He.ga K "are_rows")) := He.glo_ok T.kin T.ns (T.d.fact 42 (f := .glo "are_rows") rfl)
theorem gl_are_doors : mg "are_doors" = some (.ref (He.ga K "are_doors")) := He.glo_ok T.kin T.ns (T.d.fact 43 (f := .glo "are_doors") rfl)
theorem gl_first_part : mg "first_part" = some (.ref (He.ga K "first_part")) := He.glo_ok T.kin T.ns (T.d.fact 44 (f := .glo "first_part") rfl)
theorem gl_look_at_compartments : mg "look_at_compartments" = some (.ref (He.ga K "look_at_compartments")) := He.glo_ok T.kin T.ns (T.d.fact 45 (f := .glo "look_at_compartments") rfl)
theorem gl_placed : mg "placed" = some (.ref (He.ga K "placed")) := He.glo_ok T.kin T.ns (T.d.fact 46 (f := .glo "placed") rfl)
theorem gl_places : mg "places" = some (.ref (He.ga K "places")) := He.glo_ok T.kin T.ns (T.d.fact 47 (f := .glo "places") rfl)
theorem gl_gate_to : mg "gate_to" = some (.ref (He.ga K "gate_to")) := He.glo_ok T.kin T.ns (T.d.fact 48 (f := .glo "gate_to") rfl)
theorem gl_words_by_names : mg "words_by_names" = some (.ref (He.ga K "words_by_names")) := He.glo_ok T.kin T.ns (T.d.fact 49 (f := .glo "words_by_names") rfl)
theorem gl_cells_of : mg "cells_of" = some (.ref (He.ga K "cells_of")) := He.glo_ok T.kin T.ns (T.d.fact 50 (f := .glo "cells_of") rfl)
theorem gl_loaded : mg "loaded" = some (.ref (He.ga K "loaded")) := He.glo_ok T.kin T.ns (T.d.fact 51 (f := .glo "loaded") rfl)
theorem gl_is_shut : mg "is_shut" = some (.ref (He.ga K "is_shut")) := He.glo_ok T.kin T.ns (T.d.fact 52 (f := .glo "is_shut") rfl)
theorem gl_kept_kind : mg "kept_kind" = some (.ref (He.ga K "kept_kind")) := He.glo_ok T.kin T.ns (T.d.fact 53 (f := .glo "kept_kind") rfl)
theorem gl_walked_so : mg "walked_so" = some (.ref (He.ga K "walked_so")) := He.glo_ok T.kin T.ns (T.d.fact 54 (f := .glo "walked_so") rfl)
theorem gl_widened : mg "widened" = some (.ref (He.ga K "widened")) := He.glo_ok T.kin T.ns (T.d.fact 55 (f := .glo "widened") rfl)
theorem gl_narrowed_so : mg "narrowed_so" = some (.ref (He.ga K "narrowed_so")) := He.glo_ok T.kin T.ns (T.d.fact 56 (f := .glo "narrowed_so") rfl)
theorem gl_lessened_so : mg "lessened_so" = some (.ref (He.ga K "lessened_so")) := He.glo_ok T.kin T.ns (T.d.fact 57 (f := .glo "lessened_so") rfl)
theorem gl_rights_bits : mg "rights_bits" = some (.ref (He.ga K "rights_bits")) := He.glo_ok T.kin T.ns (T.d.fact 58 (f := .glo "rights_bits") rfl)
theorem gl_opened_so : mg "opened_so" = some (.ref (He.ga K "opened_so")) := He.glo_ok T.kin T.ns (T.d.fact 59 (f := .glo "opened_so") rfl)
theorem gl_address_so : mg "address_so" = some (.ref (He.ga K "address_so")) := He.glo_ok T.kin T.ns (T.d.fact 60 (f := .glo "address_so") rfl)
theorem gl_is_named : mg "is_named" = some (.ref (He.ga K "is_named")) := He.glo_ok T.kin T.ns (T.d.fact 61 (f := .glo "is_named") rfl)
theorem gl_stack_word : mg "stack_word" = some (.ref (He.ga K "stack_word")) := He.glo_ok T.kin T.ns (T.d.fact 62 (f := .glo "stack_word") rfl)
theorem gl_fault_number : mg "fault_number" = some (.ref (He.ga K "fault_number")) := He.glo_ok T.kin T.ns (T.d.fact 63 (f := .glo "fault_number") rfl)
theorem gl_is_to : mg "is_to" = some (.ref (He.ga K "is_to")) := He.glo_ok T.kin T.ns (T.d.fact 64 (f := .glo "is_to") rfl)
theorem gl__law_pool : mg "_law_pool" = some (.ref (He.ga K "_law_pool")) := He.glo_ok T.kin T.ns (T.d.fact 65 (f := .glo "_law_pool") rfl)
theorem gl__law_take : mg "_law_take" = some (.ref (He.ga K "_law_take")) := He.glo_ok T.kin T.ns (T.d.fact 66 (f := .glo "_law_take") rfl)
theorem gl__law_by : mg "_law_by" = some (.ref (He.ga K "_law_by")) := He.glo_ok T.kin T.ns (T.d.fact 67 (f := .glo "_law_by") rfl)
theorem gl__law_row : mg "_law_row" = some (.ref (He.ga K "_law_row")) := He.glo_ok T.kin T.ns (T.d.fact 68 (f := .glo "_law_row") rfl)
theorem gl__law_rows_of : mg "_law_rows_of" = some (.ref (He.ga K "_law_rows_of")) := He.glo_ok T.kin T.ns (T.d.fact 69 (f := .glo "_law_rows_of") rfl)
theorem gl__law_all_plain : mg "_law_all_plain" = some (.ref (He.ga K "_law_all_plain")) := He.glo_ok T.kin T.ns (T.d.fact 70 (f := .glo "_law_all_plain") rfl)
theorem gl__law_is_safe : mg "_law_is_safe" = some (.ref (He.ga K "_law_is_safe")) := He.glo_ok T.kin T.ns (T.d.fact 71 (f := .glo "_law_is_safe") rfl)
theorem gl_law : mg "law" = some (.ref (He.ga K "law")) := He.glo_ok T.kin T.ns (T.d.fact 72 (f := .glo "law") rfl)
theorem gl_Machine : mg "Machine" = some (.ref (He.ga K "Machine")) := He.glo_ok T.kin T.ns (T.d.fact 73 (f := .glo "Machine") rfl)
theorem gl_Cells : mg "Cells" = some (.ref (He.ga K "Cells")) := He.glo_ok T.kin T.ns (T.d.fact 74 (f := .glo "Cells") rfl)
theorem gl_Heap : mg "Heap" = some (.ref (He.ga K "Heap")) := He.glo_ok T.kin T.ns (T.d.fact 75 (f := .glo "Heap") rfl)
theorem gl_Fault : mg "Fault" = some (.ref (He.ga K "Fault")) := He.glo_ok T.kin T.ns (T.d.fact 76 (f := .glo "Fault") rfl)
theorem gl_NoRows : mg "NoRows" = some (.ref (He.ga K "NoRows")) := He.glo_ok T.kin T.ns (T.d.fact 77 (f := .glo "NoRows") rfl)
theorem gl_NoFields : mg "NoFields" = some (.ref (He.ga K "NoFields")) := He.glo_ok T.kin T.ns (T.d.fact 78 (f := .glo "NoFields") rfl)
theorem gl_NoBounds : mg "NoBounds" = some (.ref (He.ga K "NoBounds")) := He.glo_ok T.kin T.ns (T.d.fact 79 (f := .glo "NoBounds") rfl)
theorem gl_NoOffset : mg "NoOffset" = some (.ref (He.ga K "NoOffset")) := He.glo_ok T.kin T.ns (T.d.fact 80 (f := .glo "NoOffset") rfl)
theorem gl_NoAddress : mg "NoAddress" = some (.ref (He.ga K "NoAddress")) := He.glo_ok T.kin T.ns (T.d.fact 81 (f := .glo "NoAddress") rfl)
theorem gl_NoWord : mg "NoWord" = some (.ref (He.ga K "NoWord")) := He.glo_ok T.kin T.ns (T.d.fact 82 (f := .glo "NoWord") rfl)
theorem gl_NoHands : mg "NoHands" = some (.ref (He.ga K "NoHands")) := He.glo_ok T.kin T.ns (T.d.fact 83 (f := .glo "NoHands") rfl)
theorem gl_NoRule : mg "NoRule" = some (.ref (He.ga K "NoRule")) := He.glo_ok T.kin T.ns (T.d.fact 84 (f := .glo "NoRule") rfl)
theorem gl_NoNumber : mg "NoNumber" = some (.ref (He.ga K "NoNumber")) := He.glo_ok T.kin T.ns (T.d.fact 85 (f := .glo "NoNumber") rfl)
theorem gl_NoCompartment : mg "NoCompartment" = some (.ref (He.ga K "NoCompartment")) := He.glo_ok T.kin T.ns (T.d.fact 86 (f := .glo "NoCompartment") rfl)
theorem gl_NoName : mg "NoName" = some (.ref (He.ga K "NoName")) := He.glo_ok T.kin T.ns (T.d.fact 87 (f := .glo "NoName") rfl)
theorem gl_ReachError : mg "ReachError" = some (.ref (He.ga K "ReachError")) := He.glo_ok T.kin T.ns (T.d.fact 88 (f := .glo "ReachError") rfl)
theorem gl_FORMS : mg "FORMS" = some (.ref (He.ga K "FORMS")) := He.glo_ok T.kin T.ns (T.d.fact 89 (f := .glo "FORMS") rfl)
theorem gl_NOTHING : mg "NOTHING" = some (.ref (He.ga K "NOTHING")) := He.glo_ok T.kin T.ns (T.d.fact 90 (f := .glo "NOTHING") rfl)
theorem gl_DEEDS : mg "DEEDS" = some (.ref (He.ga K "DEEDS")) := He.glo_ok T.kin T.ns (T.d.fact 91 (f := .glo "DEEDS") rfl)
theorem gl_ASKS : mg "ASKS" = some (.ref (He.ga K "ASKS")) := He.glo_ok T.kin T.ns (T.d.fact 92 (f := .glo "ASKS") rfl)
theorem gl_WHATS : mg "WHATS" = some (.ref (He.ga K "WHATS")) := He.glo_ok T.kin T.ns (T.d.fact 93 (f := .glo "WHATS") rfl)
theorem gl_LEFT_OUT : mg "LEFT_OUT" = some (.ref (He.ga K "LEFT_OUT")) := He.glo_ok T.kin T.ns (T.d.fact 94 (f := .glo "LEFT_OUT") rfl)
theorem gl_FAULTS : mg "FAULTS" = some (.ref (He.ga K "FAULTS")) := He.glo_ok T.kin T.ns (T.d.fact 95 (f := .glo "FAULTS") rfl)
theorem fr_len : mg "len" = none := He.free_ok T.kin T.ns (T.d.fact 96 (f := .free "len") rfl)
theorem fr_isinstance : mg "isinstance" = none := He.free_ok T.kin T.ns (T.d.fact 97 (f := .free "isinstance") rfl)
theorem fr_any : mg "any" = none := He.free_ok T.kin T.ns (T.d.fact 98 (f := .free "any") rfl)
theorem fr_all : mg "all" = none := He.free_ok T.kin T.ns (T.d.fact 99 (f := .free "all") rfl)
theorem fr_sum : mg "sum" = none := He.free_ok T.kin T.ns (T.d.fact 100 (f := .free "sum") rfl)
theorem fr_enumerate : mg "enumerate" = none := He.free_ok T.kin T.ns (T.d.fact 101 (f := .free "enumerate") rfl)
theorem fr_range : mg "range" = none := He.free_ok T.kin T.ns (T.d.fact 102 (f := .free "range") rfl)
theorem fr_zip : mg "zip" = none := He.free_ok T.kin T.ns (T.d.fact 103 (f := .free "zip") rfl)
theorem fr_int : mg "int" = none := He.free_ok T.kin T.ns (T.d.fact 104 (f := .free "int") rfl)
theorem fr_bool : mg "bool" = none := He.free_ok T.kin T.ns (T.d.fact 105 (f := .free "bool") rfl)
theorem fr_str : mg "str" = none := He.free_ok T.kin T.ns (T.d.fact 106 (f := .free "str") rfl)
theorem fr_tuple : mg "tuple" = none := He.free_ok T.kin T.ns (T.d.fact 107 (f := .free "tuple") rfl)
theorem fr_list : mg "list" = none := He.free_ok T.kin T.ns (T.d.fact 108 (f := .free "list") rfl)
theorem fr_dict : mg "dict" = none := He.free_ok T.kin T.ns (T.d.fact 109 (f := .free "dict") rfl)
theorem fr_abs : mg "abs" = none := He.free_ok T.kin T.ns (T.d.fact 110 (f := .free "abs") rfl)
theorem fr_max : mg "max" = none := He.free_ok T.kin T.ns (T.d.fact 111 (f := .free "max") rfl)
theorem fr_min : mg "min" = none := He.free_ok T.kin T.ns (T.d.fact 112 (f := .free "min") rfl)
theorem fr_ValueError : mg "ValueError" = none := He.free_ok T.kin T.ns (T.d.fact 113 (f := .free "ValueError") rfl)
theorem fr_sorted : mg "sorted" = none := He.free_ok T.kin T.ns (T.d.fact 114 (f := .free "sorted") rfl)
theorem c_CELLS : Glb K mg "CELLS" (.int (4096)) := let ⟨t, h⟩ := He.int_ok T.kin T.ns (T.d.fact 115 (f := .int "CELLS" (4096)) rfl); ⟨_, .int _, h, ⟨t, rfl⟩, fun _ => .int _⟩
theorem c_MOST_COUNT : Glb K mg "MOST_COUNT" (.int (16)) := let ⟨t, h⟩ := He.int_ok T.kin T.ns (T.d.fact 116 (f := .int "MOST_COUNT" (16)) rfl); ⟨_, .int _, h, ⟨t, rfl⟩, fun _ => .int _⟩
theorem c_MOST_STEP : Glb K mg "MOST_STEP" (.int (8)) := let ⟨t, h⟩ := He.int_ok T.kin T.ns (T.d.fact 117 (f := .int "MOST_STEP" (8)) rfl); ⟨_, .int _, h, ⟨t, rfl⟩, fun _ => .int _⟩
theorem c_WORDS : Glb K mg "WORDS" (.int (35184372088832)) := let ⟨t, h⟩ := He.int_ok T.kin T.ns (T.d.fact 118 (f := .int "WORDS" (35184372088832)) rfl); ⟨_, .int _, h, ⟨t, rfl⟩, fun _ => .int _⟩
theorem c_KINDS : Glb K mg "KINDS" (.int (16)) := let ⟨t, h⟩ := He.int_ok T.kin T.ns (T.d.fact 119 (f := .int "KINDS" (16)) rfl); ⟨_, .int _, h, ⟨t, rfl⟩, fun _ => .int _⟩
theorem c_ENTRY_lesser : Glb K mg "ENTRY_lesser" (.int (1)) := let ⟨t, h⟩ := He.int_ok T.kin T.ns (T.d.fact 120 (f := .int "ENTRY_lesser" (1)) rfl); ⟨_, .int _, h, ⟨t, rfl⟩, fun _ => .int _⟩
theorem c_LEAST_KIND_lesser : Glb K mg "LEAST_KIND_lesser" (.int (3)) := let ⟨t, h⟩ := He.int_ok T.kin T.ns (T.d.fact 121 (f := .int "LEAST_KIND_lesser" (3)) rfl); ⟨_, .int _, h, ⟨t, rfl⟩, fun _ => .int _⟩
theorem c_MOST_KIND : Glb K mg "MOST_KIND" (.int (15)) := let ⟨t, h⟩ := He.int_ok T.kin T.ns (T.d.fact 122 (f := .int "MOST_KIND" (15)) rfl); ⟨_, .int _, h, ⟨t, rfl⟩, fun _ => .int _⟩
theorem c_LEAST_OFFSET_cells : Glb K mg "LEAST_OFFSET_cells" (.int (-8)) := let ⟨t, h⟩ := He.int_ok T.kin T.ns (T.d.fact 123 (f := .int "LEAST_OFFSET_cells" (-8)) rfl); ⟨_, .int _, h, ⟨t, rfl⟩, fun _ => .int _⟩
theorem c_MOST_OFFSET_cells : Glb K mg "MOST_OFFSET_cells" (.int (15)) := let ⟨t, h⟩ := He.int_ok T.kin T.ns (T.d.fact 124 (f := .int "MOST_OFFSET_cells" (15)) rfl); ⟨_, .int _, h, ⟨t, rfl⟩, fun _ => .int _⟩
theorem c_POKED : Glb K mg "POKED" (.int (268435456)) := let ⟨t, h⟩ := He.int_ok T.kin T.ns (T.d.fact 125 (f := .int "POKED" (268435456)) rfl); ⟨_, .int _, h, ⟨t, rfl⟩, fun _ => .int _⟩
theorem c_BOXES_rows : Glb K mg "BOXES_rows" (.int (8)) := let ⟨t, h⟩ := He.int_ok T.kin T.ns (T.d.fact 126 (f := .int "BOXES_rows" (8)) rfl); ⟨_, .int _, h, ⟨t, rfl⟩, fun _ => .int _⟩
theorem c_MOST_WORTH : Glb K mg "MOST_WORTH" (.int (65535)) := let ⟨t, h⟩ := He.int_ok T.kin T.ns (T.d.fact 127 (f := .int "MOST_WORTH" (65535)) rfl); ⟨_, .int _, h, ⟨t, rfl⟩, fun _ => .int _⟩
theorem c_LEAST_OFFSET_rows : Glb K mg "LEAST_OFFSET_rows" (.int (-8)) := let ⟨t, h⟩ := He.int_ok T.kin T.ns (T.d.fact 128 (f := .int "LEAST_OFFSET_rows" (-8)) rfl); ⟨_, .int _, h, ⟨t, rfl⟩, fun _ => .int _⟩
theorem c_MOST_OFFSET_rows : Glb K mg "MOST_OFFSET_rows" (.int (15)) := let ⟨t, h⟩ := He.int_ok T.kin T.ns (T.d.fact 129 (f := .int "MOST_OFFSET_rows" (15)) rfl); ⟨_, .int _, h, ⟨t, rfl⟩, fun _ => .int _⟩
theorem c_MOST_ROWS : Glb K mg "MOST_ROWS" (.int (64)) := let ⟨t, h⟩ := He.int_ok T.kin T.ns (T.d.fact 130 (f := .int "MOST_ROWS" (64)) rfl); ⟨_, .int _, h, ⟨t, rfl⟩, fun _ => .int _⟩
theorem c_MOST_THERE : Glb K mg "MOST_THERE" (.int (8)) := let ⟨t, h⟩ := He.int_ok T.kin T.ns (T.d.fact 131 (f := .int "MOST_THERE" (8)) rfl); ⟨_, .int _, h, ⟨t, rfl⟩, fun _ => .int _⟩
theorem c_MOST_OWN : Glb K mg "MOST_OWN" (.int (64)) := let ⟨t, h⟩ := He.int_ok T.kin T.ns (T.d.fact 132 (f := .int "MOST_OWN" (64)) rfl); ⟨_, .int _, h, ⟨t, rfl⟩, fun _ => .int _⟩
theorem c_MOST_LETTERS : Glb K mg "MOST_LETTERS" (.int (8)) := let ⟨t, h⟩ := He.int_ok T.kin T.ns (T.d.fact 133 (f := .int "MOST_LETTERS" (8)) rfl); ⟨_, .int _, h, ⟨t, rfl⟩, fun _ => .int _⟩
theorem c_STACK : Glb K mg "STACK" (.int (64)) := let ⟨t, h⟩ := He.int_ok T.kin T.ns (T.d.fact 134 (f := .int "STACK" (64)) rfl); ⟨_, .int _, h, ⟨t, rfl⟩, fun _ => .int _⟩
theorem c_MOST_STACK : Glb K mg "MOST_STACK" (.int (256)) := let ⟨t, h⟩ := He.int_ok T.kin T.ns (T.d.fact 135 (f := .int "MOST_STACK" (256)) rfl); ⟨_, .int _, h, ⟨t, rfl⟩, fun _ => .int _⟩
theorem c_FIRST_CELL : Glb K mg "FIRST_CELL" (.int (16)) := let ⟨t, h⟩ := He.int_ok T.kin T.ns (T.d.fact 136 (f := .int "FIRST_CELL" (16)) rfl); ⟨_, .int _, h, ⟨t, rfl⟩, fun _ => .int _⟩
theorem c_LEAST_KIND_loader : Glb K mg "LEAST_KIND_loader" (.int (3)) := let ⟨t, h⟩ := He.int_ok T.kin T.ns (T.d.fact 137 (f := .int "LEAST_KIND_loader" (3)) rfl); ⟨_, .int _, h, ⟨t, rfl⟩, fun _ => .int _⟩
theorem c_GATE : Glb K mg "GATE" (.int (2)) := let ⟨t, h⟩ := He.int_ok T.kin T.ns (T.d.fact 138 (f := .int "GATE" (2)) rfl); ⟨_, .int _, h, ⟨t, rfl⟩, fun _ => .int _⟩
theorem c_HEAP_STEP : Glb K mg "HEAP_STEP" (.int (4)) := let ⟨t, h⟩ := He.int_ok T.kin T.ns (T.d.fact 139 (f := .int "HEAP_STEP" (4)) rfl); ⟨_, .int _, h, ⟨t, rfl⟩, fun _ => .int _⟩
theorem c_MOST_DEEP : Glb K mg "MOST_DEEP" (.int (8)) := let ⟨t, h⟩ := He.int_ok T.kin T.ns (T.d.fact 140 (f := .int "MOST_DEEP" (8)) rfl); ⟨_, .int _, h, ⟨t, rfl⟩, fun _ => .int _⟩
theorem c_BOXES_machine : Glb K mg "BOXES_machine" (.int (8)) := let ⟨t, h⟩ := He.int_ok T.kin T.ns (T.d.fact 141 (f := .int "BOXES_machine" (8)) rfl); ⟨_, .int _, h, ⟨t, rfl⟩, fun _ => .int _⟩
theorem c_HANDED : Glb K mg "HANDED" (.int (6)) := let ⟨t, h⟩ := He.int_ok T.kin T.ns (T.d.fact 142 (f := .int "HANDED" (6)) rfl); ⟨_, .int _, h, ⟨t, rfl⟩, fun _ => .int _⟩
theorem c_RIGHTS : Glb K mg "RIGHTS" (.str "rwlsnfxco") := let ⟨t, h⟩ := He.str_ok T.kin T.ns (T.d.fact 143 (f := .str "RIGHTS" "rwlsnfxco") rfl); ⟨_, .str _, h, ⟨t, rfl⟩, fun _ => .str _⟩
theorem c_CELL_GROUP : Glb K mg "CELL_GROUP" (.str "rwlsn") := let ⟨t, h⟩ := He.str_ok T.kin T.ns (T.d.fact 144 (f := .str "CELL_GROUP" "rwlsn") rfl); ⟨_, .str _, h, ⟨t, rfl⟩, fun _ => .str _⟩
theorem c_LETTERS : Glb K mg "LETTERS" (.str "abcdefghijklmnopqrstuvwxyz") := let ⟨t, h⟩ := He.str_ok T.kin T.ns (T.d.fact 145 (f := .str "LETTERS" "abcdefghijklmnopqrstuvwxyz") rfl); ⟨_, .str _, h, ⟨t, rfl⟩, fun _ => .str _⟩
theorem c_POKE : Glb K mg "POKE" (.str "poke") := let ⟨t, h⟩ := He.str_ok T.kin T.ns (T.d.fact 146 (f := .str "POKE" "poke") rfl); ⟨_, .str _, h, ⟨t, rfl⟩, fun _ => .str _⟩
theorem c_NARROW : Glb K mg "NARROW" (.str "narrow") := let ⟨t, h⟩ := He.str_ok T.kin T.ns (T.d.fact 147 (f := .str "NARROW" "narrow") rfl); ⟨_, .str _, h, ⟨t, rfl⟩, fun _ => .str _⟩
theorem c_LESS : Glb K mg "LESS" (.str "less") := let ⟨t, h⟩ := He.str_ok T.kin T.ns (T.d.fact 148 (f := .str "LESS" "less") rfl); ⟨_, .str _, h, ⟨t, rfl⟩, fun _ => .str _⟩
theorem c_OPEN : Glb K mg "OPEN" (.str "open") := let ⟨t, h⟩ := He.str_ok T.kin T.ns (T.d.fact 149 (f := .str "OPEN" "open") rfl); ⟨_, .str _, h, ⟨t, rfl⟩, fun _ => .str _⟩
theorem c_SEALED : Glb K mg "SEALED" (.str "sealed") := let ⟨t, h⟩ := He.str_ok T.kin T.ns (T.d.fact 150 (f := .str "SEALED" "sealed") rfl); ⟨_, .str _, h, ⟨t, rfl⟩, fun _ => .str _⟩
theorem c_LOAD : Glb K mg "LOAD" (.str "load") := let ⟨t, h⟩ := He.str_ok T.kin T.ns (T.d.fact 151 (f := .str "LOAD" "load") rfl); ⟨_, .str _, h, ⟨t, rfl⟩, fun _ => .str _⟩
theorem c_NEAR : Glb K mg "NEAR" (.str "near") := let ⟨t, h⟩ := He.str_ok T.kin T.ns (T.d.fact 152 (f := .str "NEAR" "near") rfl); ⟨_, .str _, h, ⟨t, rfl⟩, fun _ => .str _⟩
theorem c_ENTRY_loose : Glb K mg "ENTRY_loose" (.str "entry") := let ⟨t, h⟩ := He.str_ok T.kin T.ns (T.d.fact 153 (f := .str "ENTRY_loose" "entry") rfl); ⟨_, .str _, h, ⟨t, rfl⟩, fun _ => .str _⟩
theorem c_CLEAR : Glb K mg "CLEAR" (.str "clear") := let ⟨t, h⟩ := He.str_ok T.kin T.ns (T.d.fact 154 (f := .str "CLEAR" "clear") rfl); ⟨_, .str _, h, ⟨t, rfl⟩, fun _ => .str _⟩
theorem c_STRIKE : Glb K mg "STRIKE" (.str "strike") := let ⟨t, h⟩ := He.str_ok T.kin T.ns (T.d.fact 155 (f := .str "STRIKE" "strike") rfl); ⟨_, .str _, h, ⟨t, rfl⟩, fun _ => .str _⟩
theorem c_BARRIER : Glb K mg "BARRIER" (.str "barrier") := let ⟨t, h⟩ := He.str_ok T.kin T.ns (T.d.fact 156 (f := .str "BARRIER" "barrier") rfl); ⟨_, .str _, h, ⟨t, rfl⟩, fun _ => .str _⟩
theorem c_STACK_RIGHTS : Glb K mg "STACK_RIGHTS" (.str "rwlsn") := let ⟨t, h⟩ := He.str_ok T.kin T.ns (T.d.fact 157 (f := .str "STACK_RIGHTS" "rwlsn") rfl); ⟨_, .str _, h, ⟨t, rfl⟩, fun _ => .str _⟩
theorem c_CELL_RIGHTS : Glb K mg "CELL_RIGHTS" (.str "rwlsf") := let ⟨t, h⟩ := He.str_ok T.kin T.ns (T.d.fact 158 (f := .str "CELL_RIGHTS" "rwlsf") rfl); ⟨_, .str _, h, ⟨t, rfl⟩, fun _ => .str _⟩
theorem cl_Machine : Cls K (He.ga K "Machine") := He.cls_ok (x := "Machine") (T.d.fact 159 (f := .cls "Machine") rfl)
theorem mk_Machine : Mk K (He.ga K "Machine") (He.ma K (He.ga K "Machine") "__init__") := He.mkr_ok (x := "Machine") (T.d.fact 160 (f := .mkr "Machine") rfl)
theorem no_Machine_rows : NoAttr K (He.ga K "Machine") "rows" := He.noat_ok (x := "Machine") (f := "rows") (T.d.fact 161 (f := .noat "Machine" "rows") rfl)
theorem no_Machine_cells : NoAttr K (He.ga K "Machine") "cells" := He.noat_ok (x := "Machine") (f := "cells") (T.d.fact 162 (f := .noat "Machine" "cells") rfl)
theorem no_Machine_words : NoAttr K (He.ga K "Machine") "words" := He.noat_ok (x := "Machine") (f := "words") (T.d.fact 163 (f := .noat "Machine" "words") rfl)
theorem no_Machine_stack_bounds : NoAttr K (He.ga K "Machine") "stack_bounds" := He.noat_ok (x := "Machine") (f := "stack_bounds") (T.d.fact 164 (f := .noat "Machine" "stack_bounds") rfl)
theorem no_Machine_heap : NoAttr K (He.ga K "Machine") "heap" := He.noat_ok (x := "Machine") (f := "heap") (T.d.fact 165 (f := .noat "Machine" "heap") rfl)
theorem no_Machine_own_boxes : NoAttr K (He.ga K "Machine") "own_boxes" := He.noat_ok (x := "Machine") (f := "own_boxes") (T.d.fact 166 (f := .noat "Machine" "own_boxes") rfl)
theorem no_Machine_rule : NoAttr K (He.ga K "Machine") "rule" := He.noat_ok (x := "Machine") (f := "rule") (T.d.fact 167 (f := .noat "Machine" "rule") rfl)
theorem no_Machine_own_row : NoAttr K (He.ga K "Machine") "own_row" := He.noat_ok (x := "Machine") (f := "own_row") (T.d.fact 168 (f := .noat "Machine" "own_row") rfl)
theorem no_Machine_shelf : NoAttr K (He.ga K "Machine") "shelf" := He.noat_ok (x := "Machine") (f := "shelf") (T.d.fact 169 (f := .noat "Machine" "shelf") rfl)
theorem no_Machine_touched : NoAttr K (He.ga K "Machine") "touched" := He.noat_ok (x := "Machine") (f := "touched") (T.d.fact 170 (f := .noat "Machine" "touched") rfl)
theorem no_Machine_handed_out : NoAttr K (He.ga K "Machine") "handed_out" := He.noat_ok (x := "Machine") (f := "handed_out") (T.d.fact 171 (f := .noat "Machine" "handed_out") rfl)
theorem no_Machine_many_steps : NoAttr K (He.ga K "Machine") "many_steps" := He.noat_ok (x := "Machine") (f := "many_steps") (T.d.fact 172 (f := .noat "Machine" "many_steps") rfl)
theorem no_Machine_outcome : NoAttr K (He.ga K "Machine") "outcome" := He.noat_ok (x := "Machine") (f := "outcome") (T.d.fact 173 (f := .noat "Machine" "outcome") rfl)
theorem no_Machine_sweep_at : NoAttr K (He.ga K "Machine") "sweep_at" := He.noat_ok (x := "Machine") (f := "sweep_at") (T.d.fact 174 (f := .noat "Machine" "sweep_at") rfl)
theorem cl_Cells : Cls K (He.ga K "Cells") := He.cls_ok (x := "Cells") (T.d.fact 175 (f := .cls "Cells") rfl)
theorem mk_Cells : Mk K (He.ga K "Cells") (He.ma K (He.ga K "Cells") "__init__") := He.mkr_ok (x := "Cells") (T.d.fact 176 (f := .mkr "Cells") rfl)
theorem no_Cells_own_cells : NoAttr K (He.ga K "Cells") "own_cells" := He.noat_ok (x := "Cells") (f := "own_cells") (T.d.fact 177 (f := .noat "Cells" "own_cells") rfl)
theorem cl_Heap : Cls K (He.ga K "Heap") := He.cls_ok (x := "Heap") (T.d.fact 178 (f := .cls "Heap") rfl)
theorem mk_Heap : Mk K (He.ga K "Heap") (He.ma K (He.ga K "Heap") "__init__") := He.mkr_ok (x := "Heap") (T.d.fact 179 (f := .mkr "Heap") rfl)
theorem no_Heap_heap_low : NoAttr K (He.ga K "Heap") "heap_low" := He.noat_ok (x := "Heap") (f := "heap_low") (T.d.fact 180 (f := .noat "Heap" "heap_low") rfl)
theorem no_Heap_heap_high : NoAttr K (He.ga K "Heap") "heap_high" := He.noat_ok (x := "Heap") (f := "heap_high") (T.d.fact 181 (f := .noat "Heap" "heap_high") rfl)
theorem no_Heap_rooms_there : NoAttr K (He.ga K "Heap") "rooms_there" := He.noat_ok (x := "Heap") (f := "rooms_there") (T.d.fact 182 (f := .noat "Heap" "rooms_there") rfl)
theorem no_Heap_rooms_gone : NoAttr K (He.ga K "Heap") "rooms_gone" := He.noat_ok (x := "Heap") (f := "rooms_gone") (T.d.fact 183 (f := .noat "Heap" "rooms_gone") rfl)
theorem no_Heap_rooms_noted : NoAttr K (He.ga K "Heap") "rooms_noted" := He.noat_ok (x := "Heap") (f := "rooms_noted") (T.d.fact 184 (f := .noat "Heap" "rooms_noted") rfl)
theorem me_Cells_cell : Meth K (He.ga K "Cells") "cell" (He.ma K (He.ga K "Cells") "cell") := He.meth_ok (x := "Cells") (m := "cell") (T.d.fact 185 (f := .meth "Cells" "cell") rfl)
theorem me_Cells_put : Meth K (He.ga K "Cells") "put" (He.ma K (He.ga K "Cells") "put") := He.meth_ok (x := "Cells") (m := "put") (T.d.fact 186 (f := .meth "Cells" "put") rfl)
theorem me_Cells_lay : Meth K (He.ga K "Cells") "lay" (He.ma K (He.ga K "Cells") "lay") := He.meth_ok (x := "Cells") (m := "lay") (T.d.fact 187 (f := .meth "Cells" "lay") rfl)
theorem me_Cells_put_lowest : Meth K (He.ga K "Cells") "put_lowest" (He.ma K (He.ga K "Cells") "put_lowest") := He.meth_ok (x := "Cells") (m := "put_lowest") (T.d.fact 188 (f := .meth "Cells" "put_lowest") rfl)
theorem me_Heap_is_stale : Meth K (He.ga K "Heap") "is_stale" (He.ma K (He.ga K "Heap") "is_stale") := He.meth_ok (x := "Heap") (m := "is_stale") (T.d.fact 189 (f := .meth "Heap" "is_stale") rfl)
theorem me_Machine_take_hands : Meth K (He.ga K "Machine") "take_hands" (He.ma K (He.ga K "Machine") "take_hands") := He.meth_ok (x := "Machine") (m := "take_hands") (T.d.fact 190 (f := .meth "Machine" "take_hands") rfl)
theorem me_Machine_step : Meth K (He.ga K "Machine") "step" (He.ma K (He.ga K "Machine") "step") := He.meth_ok (x := "Machine") (m := "step") (T.d.fact 191 (f := .meth "Machine" "step") rfl)
theorem me_Machine_row_now : Meth K (He.ga K "Machine") "row_now" (He.ma K (He.ga K "Machine") "row_now") := He.meth_ok (x := "Machine") (m := "row_now") (T.d.fact 192 (f := .meth "Machine" "row_now") rfl)
theorem me_Machine_row_at : Meth K (He.ga K "Machine") "row_at" (He.ma K (He.ga K "Machine") "row_at") := He.meth_ok (x := "Machine") (m := "row_at") (T.d.fact 193 (f := .meth "Machine" "row_at") rfl)
theorem me_Machine_number_by : Meth K (He.ga K "Machine") "number_by" (He.ma K (He.ga K "Machine") "number_by") := He.meth_ok (x := "Machine") (m := "number_by") (T.d.fact 194 (f := .meth "Machine" "number_by") rfl)
theorem me_Machine_do : Meth K (He.ga K "Machine") "do" (He.ma K (He.ga K "Machine") "do") := He.meth_ok (x := "Machine") (m := "do") (T.d.fact 195 (f := .meth "Machine" "do") rfl)
theorem me_Machine_made : Meth K (He.ga K "Machine") "made" (He.ma K (He.ga K "Machine") "made") := He.meth_ok (x := "Machine") (m := "made") (T.d.fact 196 (f := .meth "Machine" "made") rfl)
theorem me_Machine_made_of : Meth K (He.ga K "Machine") "made_of" (He.ma K (He.ga K "Machine") "made_of") := He.meth_ok (x := "Machine") (m := "made_of") (T.d.fact 197 (f := .meth "Machine" "made_of") rfl)
theorem me_Machine_name_now : Meth K (He.ga K "Machine") "name_now" (He.ma K (He.ga K "Machine") "name_now") := He.meth_ok (x := "Machine") (m := "name_now") (T.d.fact 198 (f := .meth "Machine" "name_now") rfl)
theorem me_Machine_touch : Meth K (He.ga K "Machine") "touch" (He.ma K (He.ga K "Machine") "touch") := He.meth_ok (x := "Machine") (m := "touch") (T.d.fact 199 (f := .meth "Machine" "touch") rfl)
theorem me_Machine_is_loaded : Meth K (He.ga K "Machine") "is_loaded" (He.ma K (He.ga K "Machine") "is_loaded") := He.meth_ok (x := "Machine") (m := "is_loaded") (T.d.fact 200 (f := .meth "Machine" "is_loaded") rfl)
theorem me_Machine_store : Meth K (He.ga K "Machine") "store" (He.ma K (He.ga K "Machine") "store") := He.meth_ok (x := "Machine") (m := "store") (T.d.fact 201 (f := .meth "Machine" "store") rfl)
theorem me_Machine_poke : Meth K (He.ga K "Machine") "poke" (He.ma K (He.ga K "Machine") "poke") := He.meth_ok (x := "Machine") (m := "poke") (T.d.fact 202 (f := .meth "Machine" "poke") rfl)
theorem me_Machine_entered : Meth K (He.ga K "Machine") "entered" (He.ma K (He.ga K "Machine") "entered") := He.meth_ok (x := "Machine") (m := "entered") (T.d.fact 203 (f := .meth "Machine" "entered") rfl)
theorem me_Machine_called : Meth K (He.ga K "Machine") "called" (He.ma K (He.ga K "Machine") "called") := He.meth_ok (x := "Machine") (m := "called") (T.d.fact 204 (f := .meth "Machine" "called") rfl)
theorem me_Machine_clear : Meth K (He.ga K "Machine") "clear" (He.ma K (He.ga K "Machine") "clear") := He.meth_ok (x := "Machine") (m := "clear") (T.d.fact 205 (f := .meth "Machine" "clear") rfl)
theorem me_Machine_gone_back : Meth K (He.ga K "Machine") "gone_back" (He.ma K (He.ga K "Machine") "gone_back") := He.meth_ok (x := "Machine") (m := "gone_back") (T.d.fact 206 (f := .meth "Machine" "gone_back") rfl)
theorem me_Machine_fall : Meth K (He.ga K "Machine") "fall" (He.ma K (He.ga K "Machine") "fall") := He.meth_ok (x := "Machine") (m := "fall") (T.d.fact 207 (f := .meth "Machine" "fall") rfl)
theorem me_Machine_room : Meth K (He.ga K "Machine") "room" (He.ma K (He.ga K "Machine") "room") := He.meth_ok (x := "Machine") (m := "room") (T.d.fact 208 (f := .meth "Machine" "room") rfl)
theorem me_Machine_give : Meth K (He.ga K "Machine") "give" (He.ma K (He.ga K "Machine") "give") := He.meth_ok (x := "Machine") (m := "give") (T.d.fact 209 (f := .meth "Machine" "give") rfl)
theorem me_Machine_boxes : Meth K (He.ga K "Machine") "boxes" (He.ma K (He.ga K "Machine") "boxes") := He.meth_ok (x := "Machine") (m := "boxes") (T.d.fact 210 (f := .meth "Machine" "boxes") rfl)
theorem me_Machine_cell : Meth K (He.ga K "Machine") "cell" (He.ma K (He.ga K "Machine") "cell") := He.meth_ok (x := "Machine") (m := "cell") (T.d.fact 211 (f := .meth "Machine" "cell") rfl)
theorem me_Machine_touches : Meth K (He.ga K "Machine") "touches" (He.ma K (He.ga K "Machine") "touches") := He.meth_ok (x := "Machine") (m := "touches") (T.d.fact 212 (f := .meth "Machine" "touches") rfl)
theorem tu_NOTHING (H : Hp) : SqT K H (He.ga K "NOTHING") (tv_NOTHING.map (He.Dv.v K)) := He.tupB_ok (T.x 0 (b := He.tupB K "NOTHING" tv_NOTHING) rfl) H
theorem c_NOTHING : Glb K mg "NOTHING" (.tuple [.bool false, .int 0]) := ⟨_, .ref _, gl_NOTHING T, rfl, fun H => .tup (tu_NOTHING T H) (.cons (.bl _) (.cons (.int _) (.nil)))⟩
theorem tu_DEEDS (H : Hp) : SqT K H (He.ga K "DEEDS") (tv_DEEDS.map (He.Dv.v K)) := He.tupB_ok (T.x 1 (b := He.tupB K "DEEDS" tv_DEEDS) rfl) H
theorem c_DEEDS : Glb K mg "DEEDS" (.tuple [.str "plus", .str "minus", .str "times", .str "and", .str "or", .str "either"]) := ⟨_, .ref _, gl_DEEDS T, rfl, fun H => .tup (tu_DEEDS T H) (.cons (.str _) (.cons (.str _) (.cons (.str _) (.cons (.str _) (.cons (.str _) (.cons (.str _) (.nil)))))))⟩
theorem tu_ASKS (H : Hp) : SqT K H (He.ga K "ASKS") (tv_ASKS.map (He.Dv.v K)) := He.tupB_ok (T.x 2 (b := He.tupB K "ASKS" tv_ASKS) rfl) H
theorem c_ASKS : Glb K mg "ASKS" (.tuple [.str "same", .str "unlike", .str "under", .str "from"]) := ⟨_, .ref _, gl_ASKS T, rfl, fun H => .tup (tu_ASKS T H) (.cons (.str _) (.cons (.str _) (.cons (.str _) (.cons (.str _) (.nil)))))⟩
theorem tu_WHATS (H : Hp) : SqT K H (He.ga K "WHATS") (tv_WHATS.map (He.Dv.v K)) := He.tupB_ok (T.x 3 (b := He.tupB K "WHATS" tv_WHATS) rfl) H
theorem c_WHATS : Glb K mg "WHATS" (.tuple [.str "mark", .str "bits", .str "at", .str "low", .str "high", .str "rights", .str "kind"]) := ⟨_, .ref _, gl_WHATS T, rfl, fun H => .tup (tu_WHATS T H) (.cons (.str _) (.cons (.str _) (.cons (.str _) (.cons (.str _) (.cons (.str _) (.cons (.str _) (.cons (.str _) (.nil))))))))⟩
theorem tu_LEFT_OUT (H : Hp) : SqT K H (He.ga K "LEFT_OUT") (tv_LEFT_OUT.map (He.Dv.v K)) := He.tupB_ok (T.x 4 (b := He.tupB K "LEFT_OUT" tv_LEFT_OUT) rfl) H
theorem c_LEFT_OUT : Glb K mg "LEFT_OUT" (.tuple [.str "poke", .str "narrow", .str "less", .str "open", .str "sealed", .str "load", .str "near", .str "entry", .str "clear", .str "strike", .str "barrier"]) := ⟨_, .ref _, gl_LEFT_OUT T, rfl, fun H => .tup (tu_LEFT_OUT T H) (.cons (.str _) (.cons (.str _) (.cons (.str _) (.cons (.str _) (.cons (.str _) (.cons (.str _) (.cons (.str _) (.cons (.str _) (.cons (.str _) (.cons (.str _) (.cons (.str _) (.nil))))))))))))⟩
theorem tu_FAULTS (H : Hp) : SqT K H (He.ga K "FAULTS") (tv_FAULTS.map (He.Dv.v K)) := He.tupB_ok (T.x 5 (b := He.tupB K "FAULTS" tv_FAULTS) rfl) H
theorem c_FAULTS : Glb K mg "FAULTS" (.tuple [.str "mark", .str "seal", .str "right", .str "bounds", .str "store", .str "near", .str "rows", .str "gate", .str "stack", .str "deep", .str "room"]) := ⟨_, .ref _, gl_FAULTS T, rfl, fun H => .tup (tu_FAULTS T H) (.cons (.str _) (.cons (.str _) (.cons (.str _) (.cons (.str _) (.cons (.str _) (.cons (.str _) (.cons (.str _) (.cons (.str _) (.cons (.str _) (.cons (.str _) (.cons (.str _) (.nil))))))))))))⟩
theorem fv_FORMS {q : Str × He.Dv} (hq : q ∈ formsD) : ∃ u, PySem.W.nsIn K (He.ga K "FORMS") q.1 = some (some u) ∧ RelV (q.2.v K) u := He.valsB_ok (T.x 6 (b := He.valsB K (He.ga K "FORMS") formsD) rfl) hq
theorem kd_FORMS : ∃ es n, KDict K w (He.ga K "FORMS") es n := T.t.tab 0 (t := (fun K => He.ga K "FORMS", ["set", "move", "do", "walk", "narrow", "exact", "less", "seal", "open", "entry", "ask", "here", "load", "store", "poke", "jump", "go", "enter", "call", "back", "room", "give"])) rfl
end
end Sr

set_option Elab.async false
set_option linter.all false
set_option maxRecDepth 100000
set_option maxHeartbeats 0
/-! The head: the top's run, and what it leaves (printed by gen_T.py). -/
namespace Sr
open PySem PySem.Spec PyProof.Rows L2 PySem.Calls
def names0 : List PySem.Str := ["_wall", "ReachError", "NoFields", "NoBounds", "NoOffset", "NoAddress", "NoWord", "NoHands", "NoRule", "NoNumber", "Fault", "NoRows", "NoCompartment", "NoName", "CELLS", "MOST_COUNT", "MOST_STEP", "is_whole", "look_at_bounds", "least_in_bits", "from_bits", "least_held", "room_of", "greatest_high", "RIGHTS", "WORDS", "KINDS", "CELL_GROUP", "is_word", "is_rights"]
def names1 : List PySem.Str := ["are_lawful", "rights_in", "fields_of", "is_lawful", "are_fields", "word_of", "plain", "number_done", "number_asked", "is_so", "ENTRY_lesser", "LEAST_KIND_lesser", "MOST_KIND", "bare", "is_open", "walked", "with_bounds", "narrowed", "with_rights", "lessened", "with_kind", "kind_told", "sealed", "opened_by", "opened", "entry", "NOTHING", "LEAST_OFFSET_cells", "MOST_OFFSET_cells", "POKED"]
def names2 : List PySem.Str := ["look_at_offset", "is_address", "address_by", "Cells", "look_at_stored", "BOXES_rows", "MOST_WORTH", "LEAST_OFFSET_rows", "MOST_OFFSET_rows", "MOST_ROWS", "DEEDS", "ASKS", "WHATS", "FORMS", "is_from", "is_by", "is_one_of", "is_sort", "is_row", "look_at_rows", "MOST_THERE", "MOST_OWN", "MOST_LETTERS", "LETTERS", "is_name", "are_rows", "are_doors", "first_part", "is_use", "look_at_compartments"]
def names3 : List PySem.Str := ["STACK", "MOST_STACK", "FIRST_CELL", "LEAST_KIND_loader", "GATE", "HEAP_STEP", "placed", "places", "gate_to", "words_by_names", "cells_of", "loaded", "POKE", "NARROW", "LESS", "OPEN", "SEALED", "LOAD", "NEAR", "ENTRY_loose", "CLEAR", "STRIKE", "BARRIER", "LEFT_OUT", "is_shut", "kept_kind", "walked_so", "widened", "narrowed_so", "lessened_so"]
def names4 : List PySem.Str := ["rights_bits", "opened_so", "address_so", "is_named", "Heap", "MOST_DEEP", "STACK_RIGHTS", "FAULTS", "stack_word", "free_part", "fault_number", "BOXES_machine", "HANDED", "CELL_RIGHTS", "is_to", "Machine", "_law_pool", "_law_take", "_law_by", "_law_row", "_law_fragment", "_law_rows", "_law_rows_of", "_law_all_plain", "_law_is_safe"]
def names : List PySem.Str := names0 ++ (names1 ++ (names2 ++ (names3 ++ (names4))))
abbrev R : PySem.W.OpenRow := PySem.W.OpenLaw.row PySem.Challenge.rw_sealedreach_k80_whole_no_mark_of_plain_s
def ob (s : PySem.W.SharedT) : Al_ := obsM (He.frG (HandSHeadRun.getT s) as_)
theorem ob_eq (s : PySem.W.SharedT) : ob s = hookM.obs s.abs := by
  have e : HandSHeadRun.getT s = s.abs.heap.get? := funext (HandSHeadRun.getT_eq s)
  show obsM (He.frG (HandSHeadRun.getT s) as_) = obsM (He.frG s.abs.heap.get? as_)
  rw [e]
/-- two looks at one run -/
theorem map2 {α β γ δ : Type} {m : Option α} {f : α → β} {g : α → γ} {h : α → δ} {b : β} {c : γ} {d : δ} (h1 : m.map (fun s => (f s, g s)) = some (b, c)) (h2 : m.map h = some d) : m.map (fun s => (f s, g s, h s)) = some (b, c, d) := by
  cases m with
  | none => cases h1
  | some a =>
    have e1 : (f a, g a) = (b, c) := Option.some.inj h1
    have e2 : h a = d := Option.some.inj h2
    injection e1 with e3 e4
    show some (f a, g a, h a) = _
    rw [e3, e4, e2]
def RunA (w : World) : Prop := ∀ os : OsState, (HandSHeadRun.endF (HandSHeadRun.stepQ (HandSHeadRun.denQ HandSHeadRun.tabQ) R.prog w) 12000 R.prog w os).map (fun s => (HandSHeadRun.looksF R.prog (PySem.W.boot_heap w.params) s.abs, HandSHeadRun.seenQ (PySem.W.view R.prog [159]) names (importedModules R.prog.main.body) (fun s => PySem.W.xlAt (PySem.W.view R.prog [159]) [] s && PySem.W.recOk R.toRowW.records s) s.abs)) = some (true, PySem.W.openGood (PySem.W.view R.prog [159]) names)
def RunB (w : World) : Prop := ∀ os : OsState, (HandSHeadRun.endF (HandSHeadRun.stepQ (HandSHeadRun.denQ HandSHeadRun.tabQ) R.prog w) 12000 R.prog w os).map ob = some (valM w)
theorem runAF (w : World) : RunA (w.withFollow "special-get-raises" false) := by
  intro os
  kernel_rfl
theorem runAT (w : World) : RunA (w.withFollow "special-get-raises" true) := by
  intro os
  kernel_rfl
theorem runBF (w : World) : RunB (w.withFollow "special-get-raises" false) := by
  intro os
  kernel_rfl
theorem runBT (w : World) : RunB (w.withFollow "special-get-raises" true) := by
  intro os
  kernel_rfl
theorem run (w : World) : HandSHeadRun.RunEq R (PySem.W.view R.prog [159]) hookM ob 12000 names w := fun os =>
  map2 (PySem.W.byRow2 "special-get-raises" (P := RunA) runAF runAT w os) (PySem.W.byRow2 "special-get-raises" (P := RunB) runBF runBT w os)
end Sr

set_option Elab.async false
set_option linter.all false
set_option maxRecDepth 100000
set_option maxHeartbeats 4000000
/-! A pure def's promise from its body; the first defs. -/
namespace Sr
open PySem PySem.Spec PyProof.Rows L2
open Evl (Ex)
section
variable {P : Program} {w : World} {K : PySem.W.Frag} {mg : Str → Option Value} {base : Heap}
/-- what a pure def's body shows -/
def BodyD (P : Program) (w : World) (K : PySem.W.Frag) (mg : Str → Option Value) (base : Heap) (N : List Str) (qual : Str) (st : Stmt) (n k : Nat) (R : List PyData → PyData → Prop) : Prop :=
  ∀ (f : Addr) (cdv : Value) (A : Around) (outer : List Env) (s : Shared) (H : Hp) (E : XK), Room k (cxOf CX0 P w K mg base N qual (defScope st) f cdv A outer s H E).nox.A → ∀ ds d, R ds d →
    ∃ r, BD (cxOf CX0 P w K mg base N qual (defScope st) f cdv A outer s H E).nox E0 0 (defBody st) (ds.map some ++ List.replicate n none) r ∧ (r = .rt d ∨ ∃ Δ', r = .nx Δ' ∧ d = .none)
theorem fnok_of {x qual : Str} {st : Stmt} {f : Addr} {fd : FuncData} {N ps : List Str} {n k : Nat} {kws : List (Str × V)} {R : List PyData → PyData → Prop} (F : FunD K x qual (defArgs st) (defBody st) (defScope st) [] kws f fd)
    (S : FnScope N ps (defScope st)) (hn : N.length - ps.length = n) (len : ∀ ds d, R ds d → ds.length = ps.length) (hb : BodyD P w K mg base N qual st n k R) : FnOk P w K mg base CX0 (k + 1) f fd ps (spD K R) := by
  refine F.ok S (fun vs H Q E h => ?_) fun cdv A outer s H vs Q E hr h => ?_
  · obtain ⟨ds, d, r, hR, _⟩ := h
    rw [dpa_len r]
    exact len _ _ hR
  · obtain ⟨ds, d, r, hR, q⟩ := h
    obtain ⟨r', ⟨t, p, g⟩, z⟩ := hb f cdv A outer s H E hr ds d hR
    have hs : Sl K H (L2.start N vs) (ds.map some ++ List.replicate n none) := sl_start trivial r n (by rw [dpa_len r, len _ _ hR]; exact hn)
    refine ⟨t, p.nox, g _ _ H hs ?_⟩
    rcases z with z | ⟨Δ', z, e⟩
    · subst z
      exact fun v H' e' r' => q v H' e' r'
    · subst z e
      exact fun σ' H' e' s' => q .non H' e' .non
theorem pf_of {x qual : Str} {st : Stmt} {f : Addr} {N ps : List Str} {n k : Nat} {R : List PyData → PyData → Prop} (F : ∃ fd, FunD K x qual (defArgs st) (defBody st) (defScope st) [] [] f fd)
    (S : FnScope N ps (defScope st)) (hm : mg x = some (.ref f)) (hn : N.length - ps.length = n) (len : ∀ ds d, R ds d → ds.length = ps.length)
    (h : ∀ (kV doc pm : Value) (an : Option Addr) (cdv ct : Value) (us : List Value), us.length = ps.length → bindArgs (PySem.W.fnOf x qual (defArgs st) (defBody st) (defScope st) .none kV doc pm an cdv ct) ⟨us, []⟩ = pure (ps.zip us))
    (hb : BodyD P w K mg base N qual st n k R) : PF P w K mg base (k + 1) x R := by
  obtain ⟨fd, F⟩ := F
  exact ⟨f, fd, ps, [], [], R, fnok_of F S hn len hb, hm, F.kp, F.bindsN h, .nil, fun ds d hR => ⟨[], fun _ => .nil, by rw [List.append_nil]; exact hR⟩⟩
/-- .. with keyword-only parameters that keep their defaults -/
theorem pf_of_kw {x qual : Str} {st : Stmt} {f : Addr} {N ps : List Str} {n k m : Nat} {kws : List (Str × V)} {es : List PyData} {R : List PyData → PyData → Prop} {R' : List PyData → PyData → Prop} (F : ∃ fd, FunD K x qual (defArgs st) (defBody st) (defScope st) [] kws f fd)
    (S : FnScope N ps (defScope st)) (hm : mg x = some (.ref f)) (hn : N.length - ps.length = n) (len : ∀ ds d, R' ds d → ds.length = ps.length) (hk : kws ≠ []) (hl : m + kws.length = ps.length)
    (h : ∀ (D : Addr) (doc pm : Value) (an : Option Addr) (cdv ct : Value) (us ks : List Value), us.length = m → ks.length = kws.length →
      KwChain D ((kws.map (·.1)).zip ks) (bindArgs (PySem.W.fnOf x qual (defArgs st) (defBody st) (defScope st) .none (.ref D) doc pm an cdv ct) ⟨us, []⟩) (ps.zip (us ++ ks)))
    (he : ∀ H, DpAll K H (kws.map (·.2)) es) (hR : ∀ ds d, R ds d → R' (ds ++ es) d)
    (hb : BodyD P w K mg base N qual st n k R') : PF P w K mg base (k + 1) x R := by
  obtain ⟨fd, F⟩ := F
  obtain ⟨us, rv, hbd⟩ := F.binds0 (ps := ps) m hk hl h
  exact ⟨f, fd, ps, _, us, R', fnok_of F S hn len hb, hm, F.kp, hbd, rv, fun ds d q => ⟨es, he, hR ds d q⟩⟩
/-- .. with keyword-only parameters that are all written -/
theorem pfk_of {x qual : Str} {st : Stmt} {f : Addr} {N ps ks : List Str} {n k m : Nat} {kws : List (Str × V)} {R : List PyData → PyData → Prop} (F : ∃ fd, FunD K x qual (defArgs st) (defBody st) (defScope st) [] kws f fd)
    (S : FnScope N ps (defScope st)) (hm : mg x = some (.ref f)) (hn : N.length - ps.length = n) (len : ∀ ds d, R ds d → ds.length = ps.length)
    (h : ∀ (kV doc pm : Value) (an : Option Addr) (cdv ct : Value) (us ws : List Value), us.length = m → ws.length = ks.length → bindArgs (PySem.W.fnOf x qual (defArgs st) (defBody st) (defScope st) .none kV doc pm an cdv ct) ⟨us, ks.zip ws⟩ = pure (ps.zip (us ++ ws)))
    (hb : BodyD P w K mg base N qual st n k R) : PFk P w K mg base (k + 1) x m ks R := by
  obtain ⟨fd, F⟩ := F
  refine ⟨f, fd, ps, fnok_of F S hn len hb, hm, F.kp, ⟨fun s us ws X l1 l2 => ?_, fun r1 r2 => r1.append r2⟩⟩
  obtain ⟨oc, od, dV, kV, doc, pm, an, cdv, ct, osl, rfl, lk, hcd, hD, hK⟩ := F.ex
  rcases hD with ⟨_, rfl⟩ | ⟨e, _⟩
  · exact BindsTo.of_eq (h kV doc pm an cdv ct us ws l1 l2)
  · exact absurd rfl e
end

/-! ### isinstance -/
theorem kit_NoneType_int : kitB "NoneType" "int" = some false := by decide +kernel
theorem kit_bool_int : kitB "bool" "int" = some true := by decide +kernel
theorem kit_int_int : kitB "int" "int" = some true := by decide +kernel
theorem kit_str_int : kitB "str" "int" = some false := by decide +kernel
theorem kit_list_int : kitB "list" "int" = some false := by decide +kernel
theorem kit_tuple_int : kitB "tuple" "int" = some false := by decide +kernel
theorem kit_dict_int : kitB "dict" "int" = some false := by decide +kernel
def is_int : PyData → Bool
  | .bool _ => true
  | .int _ => true
  | _ => false
theorem kit_int (d : PyData) : kitB (tyD d) "int" = some (is_int d) := by
  cases d with
  | none => exact kit_NoneType_int
  | bool _ => exact kit_bool_int
  | int _ => exact kit_int_int
  | str _ => exact kit_str_int
  | list _ => exact kit_list_int
  | tuple _ => exact kit_tuple_int
  | dict _ => exact kit_dict_int
theorem kit_NoneType_bool : kitB "NoneType" "bool" = some false := by decide +kernel
theorem kit_bool_bool : kitB "bool" "bool" = some true := by decide +kernel
theorem kit_int_bool : kitB "int" "bool" = some false := by decide +kernel
theorem kit_str_bool : kitB "str" "bool" = some false := by decide +kernel
theorem kit_list_bool : kitB "list" "bool" = some false := by decide +kernel
theorem kit_tuple_bool : kitB "tuple" "bool" = some false := by decide +kernel
theorem kit_dict_bool : kitB "dict" "bool" = some false := by decide +kernel
def is_bool : PyData → Bool
  | .bool _ => true
  | _ => false
theorem kit_bool (d : PyData) : kitB (tyD d) "bool" = some (is_bool d) := by
  cases d with
  | none => exact kit_NoneType_bool
  | bool _ => exact kit_bool_bool
  | int _ => exact kit_int_bool
  | str _ => exact kit_str_bool
  | list _ => exact kit_list_bool
  | tuple _ => exact kit_tuple_bool
  | dict _ => exact kit_dict_bool
theorem kit_NoneType_str : kitB "NoneType" "str" = some false := by decide +kernel
theorem kit_bool_str : kitB "bool" "str" = some false := by decide +kernel
theorem kit_int_str : kitB "int" "str" = some false := by decide +kernel
theorem kit_str_str : kitB "str" "str" = some true := by decide +kernel
theorem kit_list_str : kitB "list" "str" = some false := by decide +kernel
theorem kit_tuple_str : kitB "tuple" "str" = some false := by decide +kernel
theorem kit_dict_str : kitB "dict" "str" = some false := by decide +kernel
def is_str : PyData → Bool
  | .str _ => true
  | _ => false
theorem kit_str (d : PyData) : kitB (tyD d) "str" = some (is_str d) := by
  cases d with
  | none => exact kit_NoneType_str
  | bool _ => exact kit_bool_str
  | int _ => exact kit_int_str
  | str _ => exact kit_str_str
  | list _ => exact kit_list_str
  | tuple _ => exact kit_tuple_str
  | dict _ => exact kit_dict_str
theorem kit_NoneType_tuple : kitB "NoneType" "tuple" = some false := by decide +kernel
theorem kit_bool_tuple : kitB "bool" "tuple" = some false := by decide +kernel
theorem kit_int_tuple : kitB "int" "tuple" = some false := by decide +kernel
theorem kit_str_tuple : kitB "str" "tuple" = some false := by decide +kernel
theorem kit_list_tuple : kitB "list" "tuple" = some false := by decide +kernel
theorem kit_tuple_tuple : kitB "tuple" "tuple" = some true := by decide +kernel
theorem kit_dict_tuple : kitB "dict" "tuple" = some false := by decide +kernel
def is_tuple : PyData → Bool
  | .tuple _ => true
  | _ => false
theorem kit_tuple (d : PyData) : kitB (tyD d) "tuple" = some (is_tuple d) := by
  cases d with
  | none => exact kit_NoneType_tuple
  | bool _ => exact kit_bool_tuple
  | int _ => exact kit_int_tuple
  | str _ => exact kit_str_tuple
  | list _ => exact kit_list_tuple
  | tuple _ => exact kit_tuple_tuple
  | dict _ => exact kit_dict_tuple
theorem kit_NoneType_list : kitB "NoneType" "list" = some false := by decide +kernel
theorem kit_bool_list : kitB "bool" "list" = some false := by decide +kernel
theorem kit_int_list : kitB "int" "list" = some false := by decide +kernel
theorem kit_str_list : kitB "str" "list" = some false := by decide +kernel
theorem kit_list_list : kitB "list" "list" = some true := by decide +kernel
theorem kit_tuple_list : kitB "tuple" "list" = some false := by decide +kernel
theorem kit_dict_list : kitB "dict" "list" = some false := by decide +kernel
def is_list : PyData → Bool
  | .list _ => true
  | _ => false
theorem kit_list (d : PyData) : kitB (tyD d) "list" = some (is_list d) := by
  cases d with
  | none => exact kit_NoneType_list
  | bool _ => exact kit_bool_list
  | int _ => exact kit_int_list
  | str _ => exact kit_str_list
  | list _ => exact kit_list_list
  | tuple _ => exact kit_tuple_list
  | dict _ => exact kit_dict_list
theorem kit_NoneType_dict : kitB "NoneType" "dict" = some false := by decide +kernel
theorem kit_bool_dict : kitB "bool" "dict" = some false := by decide +kernel
theorem kit_int_dict : kitB "int" "dict" = some false := by decide +kernel
theorem kit_str_dict : kitB "str" "dict" = some false := by decide +kernel
theorem kit_list_dict : kitB "list" "dict" = some false := by decide +kernel
theorem kit_tuple_dict : kitB "tuple" "dict" = some false := by decide +kernel
theorem kit_dict_dict : kitB "dict" "dict" = some true := by decide +kernel
def is_dict : PyData → Bool
  | .dict _ => true
  | _ => false
theorem kit_dict (d : PyData) : kitB (tyD d) "dict" = some (is_dict d) := by
  cases d with
  | none => exact kit_NoneType_dict
  | bool _ => exact kit_bool_dict
  | int _ => exact kit_int_dict
  | str _ => exact kit_str_dict
  | list _ => exact kit_list_dict
  | tuple _ => exact kit_tuple_dict
  | dict _ => exact kit_dict_dict

/-! ### is_whole -/
def isWhole : PyData → Bool
  | .int _ => true
  | _ => false
theorem isWhole_eq (x : PyData) : (is_int x && !is_bool x) = isWhole x := by cases x <;> rfl
def R_is_whole : List PyData → PyData → Prop := fun ds d => ∃ x, ds = [x] ∧ d = .bool (isWhole x)
section
variable {P : Program} {w : World} {K : PySem.W.Frag} {mg : Str → Option Value} {base : Heap}
theorem sc_is_whole : FnScope ["thing"] ["thing"] (defScope t_is_whole) := ⟨rfl, rfl, rfl, by decide +kernel, rfl, by decide +kernel, by decide +kernel⟩
theorem bt_int : bootBuiltins "int" = some (.type "int") := by decide +kernel
theorem bt_bool : bootBuiltins "bool" = some (.type "bool") := by decide +kernel
theorem bt_str : bootBuiltins "str" = some (.type "str") := by decide +kernel
theorem bt_tuple : bootBuiltins "tuple" = some (.type "tuple") := by decide +kernel
theorem bt_list : bootBuiltins "list" = some (.type "list") := by decide +kernel
theorem bt_dict : bootBuiltins "dict" = some (.type "dict") := by decide +kernel
theorem pf_is_whole (T : Tx P w K mg base) : PF P w K mg base 1 "is_whole" R_is_whole := by
  refine pf_of (n := 0) (k := 0) (fd_is_whole T) sc_is_whole (gl_is_whole T) rfl (fun ds d h => by obtain ⟨x, rfl, _⟩ := h; rfl) (fun _ _ _ _ _ _ us hl => match us, hl with | [_], _ => rfl) ?_
  intro f cdv A outer s H E hr ds d h
  obtain ⟨x, rfl, rfl⟩ := h
  refine ⟨_, ?_, .inl rfl⟩
  exact bd_one (sd_ret (ed_and' (ed_isi (fr_isinstance T) (fr_int T) bt_int (ed_var 0) (kit_int x)) fun _ => ed_one (ed_not (ed_isi (fr_isinstance T) (fr_bool T) bt_bool (ed_var 0) (kit_bool x)))) (by rw [isWhole_eq]))
end
end Sr

set_option Elab.async false
set_option linter.all false
set_option maxRecDepth 100000
set_option maxHeartbeats 4000000
/-! The data layer, further: equality of ints and texts, chains, int(truth), bits. -/
namespace Sr
open PySem PySem.Spec PyProof.Rows L2
open Evl (Ex)
section
variable {X : Cx} {Δ : Dl} {a b c e f : Expr} {es rest : List Expr} {d d1 d2 : PyData} {ds : List PyData} {pos : Pos} {i j k l : Int}
theorem dec_V {i j : Int} : decide (V.int i = V.int j) = decide (i = j) := by
  by_cases h : i = j
  · rw [decide_eq_true h, decide_eq_true (by rw [h])]
  · rw [decide_eq_false h, decide_eq_false (fun z => h (V.int.inj z))]
theorem dec_S {i j : Str} : decide (V.str i = V.str j) = decide (i = j) := by
  by_cases h : i = j
  · rw [decide_eq_true h, decide_eq_true (by rw [h])]
  · rw [decide_eq_false h, decide_eq_false (fun z => h (V.str.inj z))]
theorem rd_eqI {K : PySem.W.Frag} : RD K rEq (.int i) (.int j) (.bool (decide (i = j))) := fun x y H h1 h2 Q q => by
  rw [dp_int h1, dp_int h2]
  exact ⟨rfl, q _ H (Ex.refl H) (by rw [dec_V]; exact .bl _)⟩
theorem rd_neI {K : PySem.W.Frag} : RD K rNe (.int i) (.int j) (.bool (!decide (i = j))) := fun x y H h1 h2 Q q => by
  rw [dp_int h1, dp_int h2]
  exact ⟨rfl, q _ H (Ex.refl H) (by rw [dec_V]; exact .bl _)⟩
theorem rd_eqS {K : PySem.W.Frag} {x y : Str} : RD K rEq (.str x) (.str y) (.bool (decide (x = y))) := fun _ _ H h1 h2 Q q => by
  rw [dp_str h1, dp_str h2]
  exact ⟨rfl, q _ H (Ex.refl H) (by rw [dec_S]; exact .bl _)⟩
theorem rd_neS {K : PySem.W.Frag} {x y : Str} : RD K rNe (.str x) (.str y) (.bool (!decide (x = y))) := fun _ _ H h1 h2 Q q => by
  rw [dp_str h1, dp_str h2]
  exact ⟨rfl, q _ H (Ex.refl H) (by rw [dec_S]; exact .bl _)⟩
theorem ed_eqI [SJ] (ha : ED X a Δ (.int i)) (hb : ED X b Δ (.int j)) : ED X (.Compare a [.Eq] [b] pos) Δ (.bool (decide (i = j))) := ed_cmp op_eq rd_eqI ha hb (nomark _)
theorem td_eqI [SJ] (ha : ED X a Δ (.int i)) (hb : ED X b Δ (.int j)) : TD X (.Compare a [.Eq] [b] pos) Δ (decide (i = j)) := td_cmp op_eq rd_eqI ha hb (nomark _)
theorem ed_neI [SJ] (ha : ED X a Δ (.int i)) (hb : ED X b Δ (.int j)) : ED X (.Compare a [.NotEq] [b] pos) Δ (.bool (!decide (i = j))) := ed_cmp op_ne rd_neI ha hb (nomark _)
theorem td_neI [SJ] (ha : ED X a Δ (.int i)) (hb : ED X b Δ (.int j)) : TD X (.Compare a [.NotEq] [b] pos) Δ (!decide (i = j)) := td_cmp op_ne rd_neI ha hb (nomark _)
variable {x y : Str}
theorem ed_eqS [SJ] (ha : ED X a Δ (.str x)) (hb : ED X b Δ (.str y)) : ED X (.Compare a [.Eq] [b] pos) Δ (.bool (decide (x = y))) := ed_cmp op_eq rd_eqS ha hb (nomark _)
theorem td_eqS [SJ] (ha : ED X a Δ (.str x)) (hb : ED X b Δ (.str y)) : TD X (.Compare a [.Eq] [b] pos) Δ (decide (x = y)) := td_cmp op_eq rd_eqS ha hb (nomark _)
theorem ed_neS [SJ] (ha : ED X a Δ (.str x)) (hb : ED X b Δ (.str y)) : ED X (.Compare a [.NotEq] [b] pos) Δ (.bool (!decide (x = y))) := ed_cmp op_ne rd_neS ha hb (nomark _)
theorem td_neS [SJ] (ha : ED X a Δ (.str x)) (hb : ED X b Δ (.str y)) : TD X (.Compare a [.NotEq] [b] pos) Δ (!decide (x = y)) := td_cmp op_ne rd_neS ha hb (nomark _)
theorem ed_eqX [SJ] (ha : ED X a Δ (.str x)) (hb : ED X b Δ (.str y)) : ED X (.Compare a [.Eq] [b] pos) Δ (.bool (decide (x = y))) := ed_eqS ha hb
theorem td_eqX [SJ] (ha : ED X a Δ (.str x)) (hb : ED X b Δ (.str y)) : TD X (.Compare a [.Eq] [b] pos) Δ (decide (x = y)) := td_eqS ha hb
/-! chains of ints -/
abbrev OI (X : Cx) (op : CmpOp) (p : Int → Int → Bool) : Prop := OpR X (compareOp op) (rI0 fun i j => .bl (p i j))
theorem ed_chain2 [SJ] {o1 o2 : CmpOp} {p1 p2 : Int → Int → Bool} (h1 : OI X o1 p1) (h2 : OI X o2 p2) (ha : ED X a Δ (.int i)) (hb : ED X b Δ (.int j)) (hc : ED X c Δ (.int k)) (hm : lastMarks [o1, o2] [b, c] = false) :
    ED X (.Compare a [o1, o2] [b, c] pos) Δ (.bool (p1 i j && p2 j k)) := by
  obtain ⟨_, pa, ga⟩ := ha.ex
  obtain ⟨_, pb, gb⟩ := hb.ex
  obtain ⟨_, pc, gc⟩ := hc.ex
  refine ⟨_, pe_chain h1 h2 pa pb pc hm, fun σ H s Q q => ga σ H s _ fun x H1 e1 r1 => gb σ H1 (s.ex e1) _ fun y H2 e2 r2 => ⟨i, j, dp_int r1, dp_int r2, p1 i j, rfl, ?_⟩⟩
  cases hp : p1 i j with
  | false =>
    rw [hp] at q
    exact q _ H2 (e1.trans e2) (.bl _)
  | true =>
    rw [hp] at q
    exact gc σ H2 (s.ex (e1.trans e2)) _ fun z H3 e3 r3 => ⟨j, k, dp_int r2, dp_int r3, q _ H3 ((e1.trans e2).trans e3) (.bl _)⟩
theorem td_chain2 [SJ] {o1 o2 : CmpOp} {p1 p2 : Int → Int → Bool} (h1 : OI X o1 p1) (h2 : OI X o2 p2) (ha : ED X a Δ (.int i)) (hb : ED X b Δ (.int j)) (hc : ED X c Δ (.int k)) (hm : lastMarks [o1, o2] [b, c] = false) :
    TD X (.Compare a [o1, o2] [b, c] pos) Δ (p1 i j && p2 j k) := by
  obtain ⟨_, pa, ga⟩ := ha.ex
  obtain ⟨_, pb, gb⟩ := hb.ex
  obtain ⟨_, pc, gc⟩ := hc.ex
  refine ⟨_, pt_chain h1 h2 pa pb pc hm, fun σ H s Q q => ga σ H s _ fun x H1 e1 r1 => gb σ H1 (s.ex e1) _ fun y H2 e2 r2 => ⟨i, j, dp_int r1, dp_int r2, p1 i j, rfl, ?_⟩⟩
  cases hp : p1 i j with
  | false =>
    rw [hp] at q
    exact ⟨_, rfl, q H2 (e1.trans e2)⟩
  | true =>
    rw [hp] at q
    exact gc σ H2 (s.ex (e1.trans e2)) _ fun z H3 e3 r3 => ⟨j, k, dp_int r2, dp_int r3, _, rfl, q H3 ((e1.trans e2).trans e3)⟩
/-- three comparisons -/
def tChain3 (r1 r2 r3 : R2) (ta tb tc td : TE) : TE := fun σ H Q => ta σ H fun x H1 => tb σ H1 fun y H2 => r1 x y H2 fun z H3 => ∃ k, z = .bl k ∧
  (if k = true then tc σ H3 fun y' H4 => r2 y y' H4 fun z' H5 => ∃ k', z' = .bl k' ∧ (if k' = true then td σ H5 fun w' H6 => r3 y' w' H6 Q else Q (.bl false) H5) else Q (.bl false) H3)
theorem pe_chain3 {o1 o2 o3 : CmpOp} {r1 r2 r3 : R2} {ta tb tc td : TE} {dd : Expr} (h1 : OpR X (compareOp o1) r1) (h2 : OpR X (compareOp o2) r2) (h3 : OpR X (compareOp o3) r3) (ha : PE X a ta) (hb : PE X b tb) (hc : PE X c tc) (hd : PE X dd td)
    (hm : lastMarks [o1, o2, o3] [b, c, dd] = false) : PE X (.Compare a [o1, o2, o3] [b, c, dd] pos) (tChain3 r1 r2 r3 ta tb tc td) := by
  refine ⟨fun pins s σ H Q I h => ?_⟩
  refine Compare_chain (thn (ha.run pins s σ H _ I h) fun v s1 ⟨x, H1, I1, q1, w1⟩ => chain_link (thn (hb.run pins s1 σ H1 _ I1 w1) fun u s2 ⟨y, H2, I2, q2, w2⟩ =>
    thn (h1 pins s2 σ H2 x y v u _ I2 q1 q2 w2) fun d s3 ⟨z, H3, I3, q3, k, e, w3⟩ => ?_)) hm
  subst e
  cases q3
  refine wpAny_truthy_bool ?_
  cases k with
  | false => exact ite_ff ⟨.bl false, H3, I3, rfl, w3⟩
  | true =>
    refine ite_tt (chain_link (thn (hc.run pins s3 σ H3 _ I3 w3) fun u' s4 ⟨y', H4, I4, q4, w4⟩ => thn (h2 pins s4 σ H4 y y' u u' _ I4 q2 q4 w4) fun d' s5 ⟨z', H5, I5, q5, k', e', w5⟩ => ?_))
    subst e'
    cases q5
    refine wpAny_truthy_bool ?_
    cases k' with
    | false => exact ite_ff ⟨.bl false, H5, I5, rfl, w5⟩
    | true => exact ite_tt (chain_last (thn (hd.run pins s5 σ H5 _ I5 w5) fun w' s6 ⟨z2, H6, I6, q6, w6⟩ => h3 pins s6 σ H6 y' z2 u' w' Q I6 q4 q6 w6))
theorem pt_chain3 {o1 o2 o3 : CmpOp} {r1 r2 r3 : R2} {ta tb tc td : TE} {dd : Expr} (h1 : OpR X (compareOp o1) r1) (h2 : OpR X (compareOp o2) r2) (h3 : OpR X (compareOp o3) r3) (ha : PE X a ta) (hb : PE X b tb) (hc : PE X c tc) (hd : PE X dd td)
    (hm : lastMarks [o1, o2, o3] [b, c, dd] = false) : PT X (.Compare a [o1, o2, o3] [b, c, dd] pos) (tTest (tChain3 r1 r2 r3 ta tb tc td)) := by
  refine ⟨fun pins s σ H Q I h => ?_⟩
  refine isTrue_chain (thn (ha.run pins s σ H _ I h) fun v s1 ⟨x, H1, I1, q1, w1⟩ => test_link (thn (hb.run pins s1 σ H1 _ I1 w1) fun u s2 ⟨y, H2, I2, q2, w2⟩ =>
    thn (h1 pins s2 σ H2 x y v u _ I2 q1 q2 w2) fun d s3 ⟨z, H3, I3, q3, k, e, w3⟩ => ?_)) hm
  subst e
  cases q3
  refine wpAny_truthy_bool ?_
  cases k with
  | false =>
    obtain ⟨k', e', q'⟩ := w3
    cases e'
    exact ite_ff ⟨H3, I3, q'⟩
  | true =>
    refine ite_tt (test_link (thn (hc.run pins s3 σ H3 _ I3 w3) fun u' s4 ⟨y', H4, I4, q4, w4⟩ => thn (h2 pins s4 σ H4 y y' u u' _ I4 q2 q4 w4) fun d' s5 ⟨z', H5, I5, q5, k', e', w5⟩ => ?_))
    subst e'
    cases q5
    refine wpAny_truthy_bool ?_
    cases k' with
    | false =>
      obtain ⟨k2, e2, q'⟩ := w5
      cases e2
      exact ite_ff ⟨H5, I5, q'⟩
    | true =>
      refine ite_tt (test_last (thn (hd.run pins s5 σ H5 _ I5 w5) fun w' s6 ⟨z2, H6, I6, q6, w6⟩ => thn (h3 pins s6 σ H6 y' z2 u' w' _ I6 q4 q6 w6) fun d2 s7 ⟨z3, H7, I7, q7, k2, e2, w7⟩ => ?_))
      subst e2
      cases q7
      exact wpAny_truthy_bool ⟨H7, I7, w7⟩
theorem ge_chain3 [SJ] {K : PySem.W.Frag} {p1 p2 p3 : Int → Int → Bool} {ta tb tc td : TE} (ga : GE K ta Δ (.int i)) (gb : GE K tb Δ (.int j)) (gc : GE K tc Δ (.int k)) (gd : GE K td Δ (.int l)) :
    GE K (tChain3 (rI0 fun i j => .bl (p1 i j)) (rI0 fun i j => .bl (p2 i j)) (rI0 fun i j => .bl (p3 i j)) ta tb tc td) Δ (.bool (p1 i j && (p2 j k && p3 k l))) := fun σ H s Q q =>
  ga σ H s _ fun x H1 e1 r1 => gb σ H1 (s.ex e1) _ fun y H2 e2 r2 => ⟨i, j, dp_int r1, dp_int r2, p1 i j, rfl, by
    cases hp : p1 i j with
    | false =>
      rw [hp] at q
      exact q _ H2 (e1.trans e2) (.bl _)
    | true =>
      rw [hp] at q
      refine gc σ H2 (s.ex (e1.trans e2)) _ fun z H3 e3 r3 => ⟨j, k, dp_int r2, dp_int r3, p2 j k, rfl, ?_⟩
      cases hp2 : p2 j k with
      | false =>
        rw [hp2] at q
        exact q _ H3 ((e1.trans e2).trans e3) (.bl _)
      | true =>
        rw [hp2] at q
        exact gd σ H3 (s.ex ((e1.trans e2).trans e3)) _ fun z H4 e4 r4 => ⟨k, l, dp_int r3, dp_int r4, q _ H4 (((e1.trans e2).trans e3).trans e4) (.bl _)⟩⟩
theorem ed_chain3 [SJ] {o1 o2 o3 : CmpOp} {p1 p2 p3 : Int → Int → Bool} (h1 : OI X o1 p1) (h2 : OI X o2 p2) (h3 : OI X o3 p3) (ha : ED X a Δ (.int i)) (hb : ED X b Δ (.int j)) (hc : ED X c Δ (.int k)) (hd : ED X f Δ (.int l)) (hm : lastMarks [o1, o2, o3] [b, c, f] = false) :
    ED X (.Compare a [o1, o2, o3] [b, c, f] pos) Δ (.bool (p1 i j && (p2 j k && p3 k l))) :=
  let ⟨_, pa, ga⟩ := ha.ex
  let ⟨_, pb, gb⟩ := hb.ex
  let ⟨_, pc, gc⟩ := hc.ex
  let ⟨_, pd, gd⟩ := hd.ex
  ⟨_, pe_chain3 h1 h2 h3 pa pb pc pd hm, ge_chain3 ga gb gc gd⟩
theorem td_chain3 [SJ] {o1 o2 o3 : CmpOp} {p1 p2 p3 : Int → Int → Bool} (h1 : OI X o1 p1) (h2 : OI X o2 p2) (h3 : OI X o3 p3) (ha : ED X a Δ (.int i)) (hb : ED X b Δ (.int j)) (hc : ED X c Δ (.int k)) (hd : ED X f Δ (.int l)) (hm : lastMarks [o1, o2, o3] [b, c, f] = false) :
    TD X (.Compare a [o1, o2, o3] [b, c, f] pos) Δ (p1 i j && (p2 j k && p3 k l)) :=
  let ⟨_, pa, ga⟩ := ha.ex
  let ⟨_, pb, gb⟩ := hb.ex
  let ⟨_, pc, gc⟩ := hc.ex
  let ⟨_, pd, gd⟩ := hd.ex
  ⟨_, pt_chain3 h1 h2 h3 pa pb pc pd hm, gt_test (ge_chain3 ga gb gc gd)⟩
theorem ed_ch2et [SJ] (ha : ED X a Δ (.int i)) (hb : ED X b Δ (.int j)) (hc : ED X c Δ (.int k)) (hm : lastMarks [.LtE, .Lt] [b, c] = false := by with_unfolding_all rfl) : ED X (.Compare a [.LtE, .Lt] [b, c] pos) Δ (.bool (decide (i ≤ j) && decide (j < k))) := ed_chain2 op_le op_lt ha hb hc hm
theorem td_ch2et [SJ] (ha : ED X a Δ (.int i)) (hb : ED X b Δ (.int j)) (hc : ED X c Δ (.int k)) (hm : lastMarks [.LtE, .Lt] [b, c] = false := by with_unfolding_all rfl) : TD X (.Compare a [.LtE, .Lt] [b, c] pos) Δ (decide (i ≤ j) && decide (j < k)) := td_chain2 op_le op_lt ha hb hc hm
theorem ed_ch2ee [SJ] (ha : ED X a Δ (.int i)) (hb : ED X b Δ (.int j)) (hc : ED X c Δ (.int k)) (hm : lastMarks [.LtE, .LtE] [b, c] = false := by with_unfolding_all rfl) : ED X (.Compare a [.LtE, .LtE] [b, c] pos) Δ (.bool (decide (i ≤ j) && decide (j ≤ k))) := ed_chain2 op_le op_le ha hb hc hm
theorem td_ch2ee [SJ] (ha : ED X a Δ (.int i)) (hb : ED X b Δ (.int j)) (hc : ED X c Δ (.int k)) (hm : lastMarks [.LtE, .LtE] [b, c] = false := by with_unfolding_all rfl) : TD X (.Compare a [.LtE, .LtE] [b, c] pos) Δ (decide (i ≤ j) && decide (j ≤ k)) := td_chain2 op_le op_le ha hb hc hm
theorem ed_ch3ete [SJ] (ha : ED X a Δ (.int i)) (hb : ED X b Δ (.int j)) (hc : ED X c Δ (.int k)) (hd : ED X f Δ (.int l)) (hm : lastMarks [.LtE, .Lt, .LtE] [b, c, f] = false := by with_unfolding_all rfl) :
    ED X (.Compare a [.LtE, .Lt, .LtE] [b, c, f] pos) Δ (.bool (decide (i ≤ j) && (decide (j < k) && decide (k ≤ l)))) := ed_chain3 op_le op_lt op_le ha hb hc hd hm
theorem td_ch3ete [SJ] (ha : ED X a Δ (.int i)) (hb : ED X b Δ (.int j)) (hc : ED X c Δ (.int k)) (hd : ED X f Δ (.int l)) (hm : lastMarks [.LtE, .Lt, .LtE] [b, c, f] = false := by with_unfolding_all rfl) :
    TD X (.Compare a [.LtE, .Lt, .LtE] [b, c, f] pos) Δ (decide (i ≤ j) && (decide (j < k) && decide (k ≤ l))) := td_chain3 op_le op_lt op_le ha hb hc hd hm
/-- int(a truth) -/
theorem ed_intb [SJ] {p : Pos} {t : Bool} (hm : X.mg "int" = none) (ha : ED X a Δ (.bool t)) (hg : Gl X "int" := by rfl) (hs : starEach [a] X.env = (false, eval a X.env) :: starEach [] X.env := by rfl) :
    ED X (.Call (.Name "int" p) [a] [] pos) Δ (.int (if t then 1 else 0)) :=
  let ⟨_, pa, ga⟩ := ha.ex
  ⟨_, pe_callTy call_int1 hg hm bt_int (pa_cons pa pa_nil hs) (he := hs), fun σ H s Q q => ga σ H s _ fun x H1 e1 r1 => by
    rw [dp_bl r1]
    exact .inr ⟨t, rfl, q _ H1 e1 (.int _)⟩⟩
/-! shifts and masks by written numbers -/
theorem ed_shrc [SJ] {m : Int} {kk : Int} {jj} {pp : Pos} (hk : 0 ≤ kk) (hm : (2 : Int) ^ kk.toNat = m) (ha : ED X a Δ (.int i)) : ED X (.BinOp a .RShift (.Constant (.int kk) jj pp) pos) Δ (.int (i / m)) := hm ▸ ed_shr ha ed_int hk
theorem ed_shlc [SJ] {m : Int} {kk : Int} {jj} {pp : Pos} (hk : 0 ≤ kk ∧ kk ≤ 1000000) (hm : (2 : Int) ^ kk.toNat = m) (ha : ED X a Δ (.int i)) (hc : i.natAbs < 2 ^ 64) : ED X (.BinOp a .LShift (.Constant (.int kk) jj pp) pos) Δ (.int (i * m)) := hm ▸ ed_shl ha ed_int ⟨hk.1, hk.2, hc⟩
theorem rd_andM {K : PySem.W.Frag} {k : Nat} {m n : Int} (h1 : n = 2 ^ k - 1) (h2 : m = 2 ^ k) : RD K (fun x y H Q => ∃ (i : Int) (k : Nat), x = .int i ∧ y = .int (2 ^ k - 1) ∧ Q (.int (i % 2 ^ k)) H) (.int i) (.int n) (.int (i % m)) := fun x y H r1 r2 Q q => by
  subst h1 h2
  exact ⟨i, k, dp_int r1, dp_int r2, q _ H (Ex.refl H) (.int _)⟩
theorem ed_andc [SJ] {m n : Int} {jj} {pp : Pos} (k : Nat) (h1 : n = 2 ^ k - 1) (h2 : m = 2 ^ k) (ha : ED X a Δ (.int i)) : ED X (.BinOp a .BitAnd (.Constant (.int n) jj pp) pos) Δ (.int (i % m)) := ed_op op_andM (rd_andM h1 h2) ha ed_int
end
end Sr

set_option Elab.async false
set_option linter.all false
set_option maxRecDepth 100000
set_option maxHeartbeats 4000000
/-! Walks that the hand layer lacks: enumerate of a text, zip of a text and a tuple. -/
namespace Sr
open PySem PySem.Spec PyProof.Rows L2
open Evl (Ex)
theorem draws_str {prog : Program} {w : World} {A : Around} (hh : A.handled = none) (it : Addr) (x : Str) (t : Tok) :
    Draws prog w A it [it] x.cps.size (fun i v => ∃ c u, x.cps[i]? = some c ∧ v = .str ⟨#[c]⟩ u) (fun i h => h.IsStrIter it (strIterType x) x t i) := by
  unfold strIterType
  split
  · exact Draws.strAscii hh it x t
  · exact Draws.strWide hh it x t
/-- a text's signs with their places, each in a new pair -/
def ItE (z : Str) : It := ⟨fun i _ => i < z.cps.size, fun i H v H' => ∃ T c, v = .ref T ∧ H T = none ∧ z.cps[i]? = some c ∧ H' = upd H T (.tup [.int (i : Nat), .str ⟨#[c]⟩]), fun i _ => i = z.cps.size⟩
theorem turn_enumS {P : Program} {w : World} {K : PySem.W.Frag} {elts : List Expr} {kk : Nat} {tpos : Pos} (z : Str) (t : Tok) (e it : Addr) :
    Turn P w K (.Tuple elts kk tpos) (ItE z) [e, it] e (fun i h => (∃ old, IsEnum h e it ((i : Nat) : Int) old) ∧ h.IsStrIter it (strIterType z) z t i ∧ e ≠ it) where
  mem := by simp
  obj := fun i h st b hb => by
    obtain ⟨⟨old, he⟩, ⟨o, ho, hc, hd⟩, _⟩ := st
    have e' : b = e ∨ b = it := by simpa using hb
    rcases e' with z | z
    · rw [z]; exact ⟨_, he, fun v q => nomatch q⟩
    · rw [z]; exact ⟨o, ho, fun v q => by rw [hd] at q; cases q⟩
  keep := fun i h h' st k => let ⟨⟨old, he⟩, ⟨o, ho, r⟩, hne⟩ := st; ⟨⟨old, k e (by simp) _ he⟩, ⟨o, k it (by simp) o ho, r⟩, hne⟩
  item := by
    intro X hP hw hK hc i pins s σ H E I hf st hg
    subst hP hw hK
    obtain ⟨⟨old, he⟩, hit, hne⟩ := st
    have hel : e < s.heap.objs.size := Heap.lt_size he
    have hil : it < s.heap.objs.size := by obtain ⟨_, q, _⟩ := hit; exact Heap.lt_size q
    refine wpAny_pyNext_enum_itemD (draws_str (A := X.A.in1) (I.ok.hd hc) it z t) he hit hg hne (by simpa using hne) fun x h' tk hP ho hit' hT hsz hk => ?_
    obtain ⟨c, u, hcx, rfl⟩ := hP
    refine ⟨_, rfl, wpAny_letOwnedTupleGo_enum (s := { s with heap := h', toks := tk + 1 }) ho fun h'' he' sb => ?_⟩
    have hT2 : h''.get? s.heap.objs.size = some { cls := .type "tuple", data := .seq #[.int i tk, .str ⟨#[c]⟩ u] } := (sb.2 _ (Nat.ne_of_gt hel)).trans hT
    have new : ObjOk X.prog X.w (upd H s.heap.objs.size (.tup [.int (i : Nat), .str ⟨#[c]⟩])) h'' s.heap.objs.size (.tup [.int (i : Nat), .str ⟨#[c]⟩]) :=
      ⟨by show 2 ≤ sizeLine; decide, [.int i tk, .str ⟨#[c]⟩ u], .cons ⟨_, rfl⟩ (.cons ⟨_, rfl⟩ .nil), ⟨_, hT2, rfl, _, rfl⟩⟩
    have I1 : Inv X pins σ (upd H s.heap.objs.size (.tup [.int (i : Nat), .str ⟨#[c]⟩])) { s with heap := h'', toks := tk + 1 } :=
      I.turnedNew (ch := [e, it]) (fun b ob hb q => (sb.2 b (fun z => hb (by simp [z]))).trans (hk b ob (fun z => hb (by simp [z])) (fun z => hb (by simp [z])) q)) hf (Nat.le_refl _) new
    refine ⟨.ref s.heap.objs.size, _, I1, rfl, ⟨_, c, rfl, I.hok.fresh (Nat.le_refl _), hcx, rfl⟩, ⟨⟨.str ⟨#[c]⟩ u, ?_⟩, ?_, hne⟩, fun b hb => ?_⟩
    · have e1 : ((i + 1 : Nat) : Int) = (i : Int) + 1 := by omega
      rw [e1]; exact he'
    · obtain ⟨o, h1, h2⟩ := hit'
      exact ⟨o, (sb.2 it (Ne.symm hne)).trans h1, h2⟩
    · have hb' : b < s.heap.objs.size := by
        have e' : b = e ∨ b = it := by simpa using hb
        rcases e' with z | z
        · rw [z]; exact hel
        · rw [z]; exact hil
      rw [upd_ne (Nat.ne_of_lt hb')]
      exact (hf b hb).1
  done := by
    intro X hP hw hK hc i pins s σ H E I hf st hg
    subst hP hw hK
    obtain ⟨⟨old, he⟩, hit, hne⟩ := st
    obtain ⟨f0, f1, f2, f3, f4, f5⟩ := hf it (by simp)
    have hg' : i = z.cps.size := hg
    subst hg'
    exact wpAny_pyNext_enum_endD (draws_str (A := X.A.in1) (I.ok.hd hc) it z t) he hit fun h' eb => ⟨rfl, I.turned (t' := s.toks) (fun b o hb q => eb b o hb q) f0 f1 f3 f4 f5⟩
  self := fun A i s Q E st h => let ⟨⟨_, he⟩, _⟩ := st; wpAny_pyIter_enum he h
def iEnumS (ta : TA) : TI := fun σ H R => ta σ H fun vs H1 => ∃ z, vs = [.str z] ∧ R (ItE z) H1
theorem pi_enumS {X : Cx} {e : Expr} {ta : TA} {p pos tpos : Pos} {elts : List Expr} {kk : Nat} (hg : Gl X "enumerate") (hm : X.mg "enumerate" = none) (ha : PA X [e] ta) (hs : starEach [e] X.env = [(false, eval e X.env)] := by rfl) :
    PI X (.Tuple elts kk tpos) (.Call (.Name "enumerate" p) [e] [] pos) (iEnumS ta) := by
  refine ⟨fun pins s σ H R I h => ?_⟩
  refine Call_ (ld_blt I hg hm boot_enumerate (PyProof.Rows.callWith_type1 (thn (ha.run pos pins s σ H _ I h) fun us s1 ⟨vs, H1, I1, r1, q1⟩ => ?_) hs rfl))
  obtain ⟨z, ex, q⟩ := q1
  subst ex
  cases r1 with
  | cons r rr =>
    cases rr
    obtain ⟨t, rfl⟩ := r
    refine call_enumerate_str fun h' he hit hsz hk => wpAny_pyIter_enum he ?_
    have I2 : Inv X pins σ H1 { s1 with heap := h' } := I1.kept (t' := s1.toks) hk
    refine ⟨s1.heap.objs.size + 1, [s1.heap.objs.size + 1, s1.heap.objs.size], _, _, H1, rfl, I2, turn_enumS z t (s1.heap.objs.size + 1) s1.heap.objs.size, ⟨⟨.none, he⟩, hit, Nat.succ_ne_self _⟩, fun b hb => ?_, q⟩
    have e' : b = s1.heap.objs.size + 1 ∨ b = s1.heap.objs.size := by simpa using hb
    have hle : s1.heap.objs.size ≤ b := by
      rcases e' with z | z
      · rw [z]; exact Nat.le_add_right _ _
      · rw [z]; exact Nat.le_refl _
    exact I1.fpOk hle (I1.hok.fresh hle)
/-- data: the signs of a text with their places -/
def enumS (z : Str) : List PyData := z.cps.toList.zipIdx.map fun p => .tuple [.int (p.2 : Nat), .str ⟨#[p.1]⟩]
theorem id_enumS [SJ] {X : Cx} {Δ : Dl} {e : Expr} {pos : Pos} {p : Pos} {elts : List Expr} {kk : Nat} {tpos : Pos} {z : Str} (hm : X.mg "enumerate" = none) (h : ED X e Δ (.str z)) (hg : Gl X "enumerate" := by rfl) (hs : starEach [e] X.env = [(false, eval e X.env)] := by rfl) :
    ID X (.Tuple elts kk tpos) (.Call (.Name "enumerate" p) [e] [] pos) Δ (enumS z) :=
  let ⟨_, pe, g⟩ := h.ex
  ⟨_, pi_enumS hg hm (pa_cons pe pa_nil (hs.trans rfl)) hs, fun σ H s R q => g σ H s _ fun v H1 e1 r1 => by
    rw [dp_str r1]
    refine ⟨z, rfl, q _ H1 e1 fun i H2 e2 => ⟨fun d hd => ?_, fun hl => ?_⟩⟩
    · unfold enumS at hd
      rw [List.getElem?_map, List.getElem?_zipIdx, Array.getElem?_toList] at hd
      cases hq : z.cps[i]? with
      | none => rw [hq] at hd; cases hd
      | some c =>
        rw [hq] at hd
        refine ⟨(Array.getElem?_eq_some_iff.mp hq).1, fun x H' ⟨T, c', ex, hT, hc', eH⟩ => ?_⟩
        subst ex eH
        rw [hq] at hc'
        cases hc'
        have ed : d = .tuple [.int (i : Nat), .str ⟨#[c]⟩] := by simpa using hd.symm
        subst ed
        exact ⟨Ex.new hT, .tup (SqT.of upd_same) (.cons (.int _) (.cons (.str _) .nil))⟩
    · show i = z.cps.size
      simpa [enumS] using hl⟩
/-- a text's signs beside a tuple's items, each in a new pair -/
def ItZ (K : PySem.W.Frag) (z : Str) (b : Addr) : It :=
  ⟨fun i H => ∃ (ys : List V) (y : V), SqT K H b ys ∧ i < z.cps.size ∧ ys[i]? = some y,
    fun i H v H' => ∃ T c y, v = .ref T ∧ H T = none ∧ z.cps[i]? = some c ∧ H' = upd H T (.tup [.str ⟨#[c]⟩, y]) ∧ ∀ ys, SqT K H b ys → ys[i]? = some y,
    fun i H => ∃ ys : List V, SqT K H b ys ∧ i ≤ z.cps.size ∧ i ≤ ys.length ∧ (i = z.cps.size ∨ i = ys.length)⟩
theorem zsep {b zz TI TO i1 i2 : Addr} (D : ZipApart zz TI TO i1 i2 b b) : ZipSep2 zz TI TO i1 i2 [i1] [i2, b] where
  TIz := D.TIz
  TOz := D.TOz
  TITO := D.TITO
  TIi1 := D.TIi1
  mem1 := by simp
  zf1 := by simpa using D.i1z.symm
  Tf1 := by simpa using D.TOi1
  TIi2 := D.TIi2
  mem2 := by simp
  zf2 := by simpa using ⟨D.i2z.symm, D.l1z.symm⟩
  Tf2 := by simpa using ⟨D.TOi2, D.l1TO.symm⟩
  sep1_2 := by simpa using ⟨D.i12, D.l1i1.symm⟩
  sep2_1 := by simpa using D.i12.symm
theorem turn_zipS {P : Program} {w : World} {K : PySem.W.Frag} {elts : List Expr} {kk : Nat} {tpos : Pos} (z : Str) (t : Tok) {b zz TI TO i1 i2 : Addr} (D : ZipApart zz TI TO i1 i2 b b) :
    Turn P w K (.Tuple elts kk tpos) (ItZ K z b) [zz, TI, TO, i1, i2] zz (fun i h => IsZip h zz TI TO .none ∧ IsPair h TI (.ref i1) (.ref i2) ∧ (∃ x y, IsPair h TO x y) ∧ h.IsStrIter i1 (strIterType z) z t i ∧ h.IsTupleIter i2 b i) where
  mem := by simp
  obj := fun i h st c hc => by
    obtain ⟨hz, hTI, ⟨x, y, hTO⟩, ⟨o1, e1, _, d1⟩, ⟨o2, e2, _, d2⟩⟩ := st
    have e' : c = zz ∨ c = TI ∨ c = TO ∨ c = i1 ∨ c = i2 := by simpa using hc
    rcases e' with q | q | q | q | q
    · rw [q]; exact ⟨_, hz, fun v q => nomatch q⟩
    · rw [q]; exact ⟨_, hTI, fun v q => nomatch q⟩
    · rw [q]; exact ⟨_, hTO, fun v q => nomatch q⟩
    · rw [q]; exact ⟨o1, e1, fun v q => by rw [d1] at q; cases q⟩
    · rw [q]; exact ⟨o2, e2, fun v q => by rw [d2] at q; cases q⟩
  keep := fun i h h' st k => by
    obtain ⟨hz, hTI, ⟨x, y, hTO⟩, ⟨o1, e1, r1⟩, h2⟩ := st
    exact ⟨k zz (by simp) _ hz, k TI (by simp) _ hTI, ⟨x, y, k TO (by simp) _ hTO⟩, ⟨o1, k i1 (by simp) o1 e1, r1⟩, h2.at fun o q => k i2 (by simp) o q⟩
  item := by
    intro X hP hw hK hc i pins s σ H E I hf st hg
    subst hP hw hK
    obtain ⟨hz, hTI, ⟨x0, y0, hTO⟩, h1, h2⟩ := st
    obtain ⟨ys, y, hqy, hlt, hy⟩ := hg
    obtain ⟨its2, rv2, p2, _⟩ := I.tuple hqy
    have p2' : s.heap.IsTuple b its2.toArray := p2
    have hyl : i < its2.length := by rw [← rv2.length]; exact (List.getElem?_eq_some_iff.mp hy).1
    have hzl : zz < s.heap.objs.size := Heap.lt_size hz
    have hl1 : i1 < s.heap.objs.size := by obtain ⟨_, e1, _⟩ := h1; exact Heap.lt_size e1
    have hl2 : i2 < s.heap.objs.size := by obtain ⟨_, e2, _⟩ := h2; exact Heap.lt_size e2
    have S : ZipSep2 zz TI TO i1 i2 [i1] [i2, b] := zsep D
    refine wpAny_pyNext_zipD2_item S (draws_str (A := X.A.in1) (I.ok.hd hc) i1 z t) (Draws.tuple (A := X.A.in1) (I.ok.hd hc) i2 b D.l1i2 its2.toArray) hz hTI hTO h1 ⟨h2, p2'⟩ hlt (by simpa using hyl) fun x1 x2 h' tk hP1 hP2 z' TO' h1' h2' hT hsz hk => ?_
    obtain ⟨c, u, hcx, rfl⟩ := hP1
    obtain ⟨u2, hu2, ru2⟩ := rv2.get hy
    have e2 : x2 = u2 := by
      have q : its2.toArray[i]? = some u2 := by simpa using hu2
      rw [q] at hP2
      exact (Option.some.inj hP2).symm
    subst e2
    refine ⟨_, rfl, wpAny_letOwnedTupleGo_zip (s := { s with heap := h', toks := tk }) z' fun h'' z'' sb => ?_⟩
    have hT2 : h''.get? s.heap.objs.size = some { cls := .type "tuple", data := .seq #[.str ⟨#[c]⟩ u, x2] } := (sb.2 _ (Nat.ne_of_gt hzl)).trans hT
    have new : ObjOk X.prog X.w (upd H s.heap.objs.size (.tup [.str ⟨#[c]⟩, y])) h'' s.heap.objs.size (.tup [.str ⟨#[c]⟩, y]) :=
      ⟨by show 2 ≤ sizeLine; decide, [.str ⟨#[c]⟩ u, x2], .cons ⟨_, rfl⟩ (.cons ru2 .nil), ⟨_, hT2, rfl, _, rfl⟩⟩
    have I1 : Inv X pins σ (upd H s.heap.objs.size (.tup [.str ⟨#[c]⟩, y])) { s with heap := h'', toks := tk } :=
      I.turnedNew (t' := tk) (ch := [zz, TI, TO, i1, i2]) (fun c o hb q => (sb.2 c (fun q' => hb (by simp [q']))).trans (hk c o (fun q' => hb (by simp [q'])) (fun q' => hb (by simp [q'])) (fun q' => hb (by simp [q'])) (fun q' => hb (by simp [q'])) q)) hf (Nat.le_refl _) new
    refine ⟨.ref s.heap.objs.size, _, I1, rfl, ⟨_, c, y, rfl, I.hok.fresh (Nat.le_refl _), hcx, rfl, fun l hl => by rw [I.tuple_inj hl hqy]; exact hy⟩, ⟨z'', ?_, ⟨.str ⟨#[c]⟩ u, x2, ?_⟩, ?_, ?_⟩, fun c hcm => ?_⟩
    · exact (sb.2 _ D.TIz).trans (hk _ _ D.TIz D.TITO D.TIi1 D.TIi2 hTI)
    · exact (sb.2 _ D.TOz).trans TO'
    · obtain ⟨o, a1, a2⟩ := h1'
      exact ⟨o, (sb.2 _ D.i1z).trans a1, a2⟩
    · exact h2'.1.at fun o q => (sb.2 _ D.i2z).trans q
    · have hlt : c < s.heap.objs.size := by
        have e' : c = zz ∨ c = TI ∨ c = TO ∨ c = i1 ∨ c = i2 := by simpa using hcm
        rcases e' with q | q | q | q | q
        · rw [q]; exact hzl
        · rw [q]; exact Heap.lt_size hTI
        · rw [q]; exact Heap.lt_size hTO
        · rw [q]; exact hl1
        · rw [q]; exact hl2
      rw [upd_ne (Nat.ne_of_lt hlt)]
      exact (hf c hcm).1
  done := by
    intro X hP hw hK hc i pins s σ H E I hf st hg
    subst hP hw hK
    obtain ⟨hz, hTI, ⟨x0, y0, hTO⟩, h1, h2⟩ := st
    obtain ⟨ys, hqy, hle1, hle2, hend⟩ := hg
    obtain ⟨its2, rv2, p2, _⟩ := I.tuple hqy
    have p2' : s.heap.IsTuple b its2.toArray := p2
    have l2 := rv2.length
    have S : ZipSep2 zz TI TO i1 i2 [i1] [i2, b] := zsep D
    exact wpAny_pyNext_zipD2_end S (draws_str (A := X.A.in1) (I.ok.hd hc) i1 z t) (Draws.tuple (A := X.A.in1) (I.ok.hd hc) i2 b D.l1i2 its2.toArray) hz hTI hTO h1 ⟨h2, p2'⟩ hle1 (by simp; omega) (by simp; omega) fun h' tk hk => ⟨rfl, I.turnedL (t' := tk) (ch := [zz, TI, TO, i1, i2]) (fun c o hb q =>
      hk c o (fun q' => hb (by simp [q'])) (fun q' => hb (by simp [q'])) (fun q' => hb (by simp [q'])) (fun q' => hb (by simp [q'])) q) hf⟩
  self := fun A i s Q E st h => wpAny_pyIter_zip st.1 h
def iZipS (K : PySem.W.Frag) (ta : TA) : TI := fun σ H R => ta σ H fun vs H1 => ∃ z b ys, vs = [.str z, .ref b] ∧ SqT K H1 b ys ∧ R (ItZ K z b) H1
theorem pi_zipS {X : Cx} {e e2 : Expr} {ta : TA} {p pos tpos : Pos} {elts : List Expr} {kk : Nat} (hg : Gl X "zip") (hm : X.mg "zip" = none) (ha : PA X [e, e2] ta)
    (hs : starEach [e, e2] X.env = (false, eval e X.env) :: starEach [e2] X.env := by rfl) (hpl : (backTo pos (starEach [e2] X.env)).any (·.1) = false := by rfl) :
    PI X (.Tuple elts kk tpos) (.Call (.Name "zip" p) [e, e2] [] pos) (iZipS X.K ta) := by
  refine ⟨fun pins s σ H R I h => ?_⟩
  refine Call_ (ld_blt I hg hm PyProof.Rows.boot_zip (PyProof.Rows.callWith_type1 (thn (ha.run pos pins s σ H _ I h) fun us s1 ⟨vs, H1, I1, r1, q1⟩ => ?_) hs hpl))
  obtain ⟨z, b, ys, ex, hqy, q⟩ := q1
  subst ex
  cases r1 with
  | cons r rr =>
    cases rr with
    | cons r' rr =>
      cases rr
      obtain ⟨t, rfl⟩ := r
      cases r'
      have fresh5 : ∀ c, c ∈ [s1.heap.objs.size + 4, s1.heap.objs.size + 2, s1.heap.objs.size + 3, s1.heap.objs.size, s1.heap.objs.size + 1] → FpOk X pins H1 c := fun c hcm => by
        have e' : c = s1.heap.objs.size + 4 ∨ c = s1.heap.objs.size + 2 ∨ c = s1.heap.objs.size + 3 ∨ c = s1.heap.objs.size ∨ c = s1.heap.objs.size + 1 := by simpa using hcm
        have hle : s1.heap.objs.size ≤ c := by
          rcases e' with z | z | z | z | z
          · rw [z]; exact Nat.le_add_right _ _
          · rw [z]; exact Nat.le_add_right _ _
          · rw [z]; exact Nat.le_add_right _ _
          · rw [z]; exact Nat.le_refl _
          · rw [z]; exact Nat.le_add_right _ _
        exact I1.fpOk hle (I1.hok.fresh hle)
      obtain ⟨its2, rv2, p2, _⟩ := I1.tuple hqy
      have p2' : s1.heap.IsTuple b its2.toArray := p2
      obtain ⟨o2, ho2, _⟩ := id p2
      have lb : b < s1.heap.objs.size := Heap.lt_size ho2
      refine zip_begins2 (begins_text z t) (begins_tuple b its2.toArray) trivial p2' fun h' hz hTI hTO h1 h2 hsz hk => wpAny_pyIter_zip hz ?_
      have I2 : Inv X pins σ H1 { s1 with heap := h' } := I1.kept (t' := s1.toks) hk
      exact ⟨s1.heap.objs.size + 4, [s1.heap.objs.size + 4, s1.heap.objs.size + 2, s1.heap.objs.size + 3, s1.heap.objs.size, s1.heap.objs.size + 1], _, _, H1, rfl, I2, turn_zipS z t (PySem.W.ktu_apart s1.heap.objs.size b b lb lb), ⟨hz, hTI, ⟨_, _, hTO⟩, ⟨_, h1, rfl, rfl⟩, ⟨_, h2, rfl, rfl⟩⟩, fresh5, q⟩
/-- data: the signs of a text beside a tuple's items -/
def zipS (z : Str) (ds : List PyData) : List PyData := (z.cps.toList.zip ds).map fun p => .tuple [.str ⟨#[p.1]⟩, p.2]
theorem id_zipS [SJ] {X : Cx} {Δ : Dl} {e e2 : Expr} {pos : Pos} {p : Pos} {elts : List Expr} {kk : Nat} {tpos : Pos} {z : Str} {ds : List PyData} (hm : X.mg "zip" = none) (h : ED X e Δ (.str z)) (h2 : ED X e2 Δ (.tuple ds)) (hl : z.cps.size = ds.length) (hg : Gl X "zip" := by rfl)
    (hs : starEach [e, e2] X.env = (false, eval e X.env) :: starEach [e2] X.env := by rfl) (hs2 : starEach [e2] X.env = (false, eval e2 X.env) :: starEach [] X.env := by rfl) (hpl : (backTo pos (starEach [e2] X.env)).any (·.1) = false := by rfl) :
    ID X (.Tuple elts kk tpos) (.Call (.Name "zip" p) [e, e2] [] pos) Δ (zipS z ds) :=
  let ⟨_, pe, g⟩ := h.ex
  let ⟨_, pe2, g2⟩ := h2.ex
  ⟨_, pi_zipS hg hm (pa_cons pe (pa_cons pe2 pa_nil hs2) hs) hs hpl, fun σ H s R q => g σ H s _ fun v H1 e1 r1 => g2 σ H1 (s.ex e1) _ fun v2 H2 e2 r2 => by
    rw [dp_str r1]
    obtain ⟨b, xs, eb, hb, rb⟩ := dp_tup r2
    rw [eb]
    have lb := dpa_len rb
    refine ⟨z, b, xs, rfl, hb, q _ H2 (e1.trans e2) fun i H3 e3 => ⟨fun d hd => ?_, fun hi => ?_⟩⟩
    · unfold zipS at hd
      rw [List.getElem?_map] at hd
      obtain ⟨p, hp, ed⟩ := Option.map_eq_some_iff.mp hd
      obtain ⟨c, d0⟩ := p
      obtain ⟨hc, hd0⟩ := List.getElem?_zip_eq_some.mp hp
      have hc' : z.cps[i]? = some c := by rw [← Array.getElem?_toList]; exact hc
      obtain ⟨v0, hv0, rv0⟩ := dpa_get rb hd0
      refine ⟨⟨xs, v0, Evl.ex_t e3 hb, (Array.getElem?_eq_some_iff.mp hc').1, hv0⟩, fun x H' ⟨T, c', y, ex, hT, hcc, eH, hy⟩ => ?_⟩
      subst ex eH
      rw [hc'] at hcc
      cases hcc
      have ey := hy xs (Evl.ex_t e3 hb)
      rw [hv0] at ey
      cases ey
      subst ed
      have en : Ex H3 (upd H3 T (.tup [.str ⟨#[c]⟩, v0])) := Ex.new hT
      exact ⟨en, .tup (SqT.of upd_same) (.cons (.str _) (.cons (dp_ex (e3.trans en) _ _ rv0) .nil))⟩
    · have hi2 : i = ds.length := by
        have : i = min z.cps.size ds.length := by simpa [zipS] using hi
        omega
      exact ⟨xs, Evl.ex_t e3 hb, by omega, by omega, .inl (by omega)⟩⟩
end Sr

set_option Elab.async false
set_option linter.all false
set_option maxRecDepth 100000
set_option maxHeartbeats 4000000
/-! The mathematics: bounds told in few bits, words' fields. -/
namespace Sr
open PySem PySem.Spec PyProof.Rows L2
/-- a word -/
abbrev W (m : Bool) (b : Int) : PyData := .tuple [.bool m, .int b]
def cdiv (h : Int) (s : Nat) : Int := -((-h) / 2 ^ s)
def cnt (l h : Int) (s : Nat) : Int := cdiv h s - l / 2 ^ s
def stepGo (l h : Int) : Nat → Nat → Nat
  | 0, s => s
  | n + 1, s => if cnt l h s ≤ 16 then s else stepGo l h n (s + 1)
def stepOf (l h : Int) : Nat := stepGo l h 8 0
theorem stepGo_le (l h : Int) : ∀ n s, stepGo l h n s ≤ s + n
  | 0, s => Nat.le_refl _
  | n + 1, s => by
    unfold stepGo
    split
    · omega
    · have := stepGo_le l h n (s + 1); omega
theorem stepGo_ge (l h : Int) : ∀ n s, s ≤ stepGo l h n s
  | 0, s => Nat.le_refl _
  | n + 1, s => by
    unfold stepGo
    split
    · omega
    · have := stepGo_ge l h n (s + 1); omega
theorem stepGo_lt (l h : Int) : ∀ n s i, s ≤ i → i < stepGo l h n s → 16 < cnt l h i
  | 0, s, i, h1, h2 => by unfold stepGo at h2; omega
  | n + 1, s, i, h1, h2 => by
    unfold stepGo at h2
    split at h2
    · omega
    · rename_i hc
      by_cases e : i = s
      · rw [e]; omega
      · exact stepGo_lt l h n (s + 1) i (by omega) h2
theorem stepGo_at (l h : Int) : ∀ n s, cnt l h (s + n) ≤ 16 → cnt l h (stepGo l h n s) ≤ 16
  | 0, s, hc => hc
  | n + 1, s, hc => by
    unfold stepGo
    split
    · assumption
    · refine stepGo_at l h n (s + 1) ?_
      rw [show s + 1 + n = s + (n + 1) by omega]
      exact hc
theorem cnt8 {l h : Int} (h0 : 0 ≤ l) (h1 : h ≤ 4096) : cnt l h 8 ≤ 16 := by
  unfold cnt cdiv
  rw [show (2 : Int) ^ 8 = 256 by decide]
  omega
theorem stepOf_le (l h : Int) : stepOf l h ≤ 8 := by have := stepGo_le l h 8 0; unfold stepOf; omega
theorem stepOf_lt {l h : Int} {i : Nat} (hi : i < stepOf l h) : 16 < cnt l h i := stepGo_lt l h 8 0 i (Nat.zero_le _) hi
theorem stepOf_at {l h : Int} (h0 : 0 ≤ l) (h1 : h ≤ 4096) : cnt l h (stepOf l h) ≤ 16 := stepGo_at l h 8 0 (cnt8 h0 h1)
/-- a step is the least one where it counts at most sixteen, and none below does -/
theorem stepOf_eq {l h : Int} {s : Nat} (hs : cnt l h s ≤ 16) (hl : ∀ i, i < s → 16 < cnt l h i) (h0 : 0 ≤ l) (h1 : h ≤ 4096) : stepOf l h = s := by
  have a : ¬ s < stepOf l h := fun q => by have := stepOf_lt q; omega
  have b : ¬ stepOf l h < s := fun q => by have := hl _ q; have := stepOf_at h0 h1; omega
  omega
def lib (l h : Int) : PyData := .tuple [.int (stepOf l h : Nat), .int (l / 2 ^ stepOf l h), .int (cnt l h (stepOf l h))]
/-- the least bounds that can be told -/
def heldL (l h : Int) : Int := l / 2 ^ stepOf l h * 2 ^ stepOf l h
def heldH (l h : Int) : Int := (l / 2 ^ stepOf l h + cnt l h (stepOf l h)) * 2 ^ stepOf l h
theorem two_pow_pos (s : Nat) : (0 : Int) < 2 ^ s := Int.pow_pos (by decide)
theorem cnt_add (l h : Int) (s : Nat) : l / 2 ^ s + cnt l h s = cdiv h s := by unfold cnt; omega
theorem heldH_eq (l h : Int) : heldH l h = cdiv h (stepOf l h) * 2 ^ stepOf l h := by unfold heldH; rw [cnt_add]
/-- the steps by cases -/
theorem step9 (s : Nat) (h : s ≤ 8) : s = 0 ∨ s = 1 ∨ s = 2 ∨ s = 3 ∨ s = 4 ∨ s = 5 ∨ s = 6 ∨ s = 7 ∨ s = 8 := by omega
theorem pw0 : (2 : Int) ^ 0 = 1 := by decide
theorem pw1 : (2 : Int) ^ 1 = 2 := by decide
theorem pw2 : (2 : Int) ^ 2 = 4 := by decide
theorem pw3 : (2 : Int) ^ 3 = 8 := by decide
theorem pw4 : (2 : Int) ^ 4 = 16 := by decide
theorem pw5 : (2 : Int) ^ 5 = 32 := by decide
theorem pw6 : (2 : Int) ^ 6 = 64 := by decide
theorem pw7 : (2 : Int) ^ 7 = 128 := by decide
theorem pw8 : (2 : Int) ^ 8 = 256 := by decide
/-- what is held lies around -/
theorem held_in {l h : Int} (h0 : 0 ≤ l) (h1 : l < h) (h2 : h ≤ 4096) : 0 ≤ heldL l h ∧ heldL l h ≤ l ∧ h ≤ heldH l h ∧ heldH l h ≤ 4096 := by
  have hs := stepOf_le l h
  rw [heldH_eq]
  unfold heldL cdiv
  generalize stepOf l h = s at hs
  rcases step9 s hs with e | e | e | e | e | e | e | e | e <;> subst e <;> simp only [pw0, pw1, pw2, pw3, pw4, pw5, pw6, pw7, pw8] <;> omega
theorem cnt_held {l h : Int} (h0 : 0 ≤ l) (h1 : l < h) (h2 : h ≤ 4096) : cnt (heldL l h) (heldH l h) (stepOf l h) = cnt l h (stepOf l h) ∧ heldL l h / 2 ^ stepOf l h = l / 2 ^ stepOf l h := by
  rw [heldH_eq]
  unfold heldL cnt
  have p := two_pow_pos (stepOf l h)
  have e1 : l / 2 ^ stepOf l h * 2 ^ stepOf l h / 2 ^ stepOf l h = l / 2 ^ stepOf l h := Int.mul_ediv_cancel _ (by omega)
  have e2 : cdiv (cdiv h (stepOf l h) * 2 ^ stepOf l h) (stepOf l h) = cdiv h (stepOf l h) := by
    show -((-(cdiv h (stepOf l h) * 2 ^ stepOf l h)) / 2 ^ stepOf l h) = _
    rw [← Int.neg_mul, Int.mul_ediv_cancel _ (by omega)]
    omega
  exact ⟨by rw [e1, e2], e1⟩
/-- bounds that hold others count at least as many -/
theorem cnt_mono {l h l' h' : Int} (s : Nat) (hs : s ≤ 8) (a : l' ≤ l) (b : h ≤ h') : cnt l h s ≤ cnt l' h' s := by
  unfold cnt cdiv
  rcases step9 s hs with e | e | e | e | e | e | e | e | e <;> subst e <;> simp only [pw0, pw1, pw2, pw3, pw4, pw5, pw6, pw7, pw8] <;> omega
theorem stepOf_held {l h : Int} (h0 : 0 ≤ l) (h1 : l < h) (h2 : h ≤ 4096) : stepOf (heldL l h) (heldH l h) = stepOf l h := by
  obtain ⟨a, b, c, d⟩ := held_in h0 h1 h2
  refine stepOf_eq ?_ (fun i hi => ?_) a d
  · rw [(cnt_held h0 h1 h2).1]
    exact stepOf_at h0 h2
  · have := stepOf_lt hi
    have := cnt_mono i (by have := stepOf_le l h; omega) b c
    omega
theorem held_held {l h : Int} (h0 : 0 ≤ l) (h1 : l < h) (h2 : h ≤ 4096) : heldL (heldL l h) (heldH l h) = heldL l h ∧ heldH (heldL l h) (heldH l h) = heldH l h := by
  have e := stepOf_held h0 h1 h2
  obtain ⟨c1, c2⟩ := cnt_held h0 h1 h2
  constructor
  · show heldL l h / 2 ^ stepOf (heldL l h) (heldH l h) * 2 ^ stepOf (heldL l h) (heldH l h) = heldL l h
    rw [e, c2]
    rfl
  · show (heldL l h / 2 ^ stepOf (heldL l h) (heldH l h) + cnt (heldL l h) (heldH l h) (stepOf (heldL l h) (heldH l h))) * 2 ^ stepOf (heldL l h) (heldH l h) = heldH l h
    rw [e, c1, c2]
    rfl
/-- bounds that can be told exactly -/
def Exact (l h : Int) : Prop := 0 ≤ l ∧ l < h ∧ h ≤ 4096 ∧ heldL l h = l ∧ heldH l h = h
theorem exact_held {l h : Int} (h0 : 0 ≤ l) (h1 : l < h) (h2 : h ≤ 4096) : Exact (heldL l h) (heldH l h) := by
  obtain ⟨a, b, c, d⟩ := held_in h0 h1 h2
  obtain ⟨e1, e2⟩ := held_held h0 h1 h2
  exact ⟨a, by omega, d, e1, e2⟩
/-- what bits tell: step, first, count -/
def bFirst (b : Int) : Int := b / 4096 % 4096
def bCount (b : Int) : Int := b / 16777216 % 16 + 1
def bStep (b : Int) : Int := b / 268435456 % 16
/-- whether they tell something -/
def tells (b : Int) : Bool := !(decide (8 < bStep b) || (decide (0 < bStep b) && decide (bCount b ≤ 8) || decide (4096 < (bFirst b + bCount b) * 2 ^ (bStep b).toNat)))
def bLow (b : Int) : Int := bFirst b * 2 ^ (bStep b).toNat
def bHigh (b : Int) : Int := (bFirst b + bCount b) * 2 ^ (bStep b).toNat
theorem exact_told {b : Int} (ht : tells b = true) : Exact (bLow b) (bHigh b) ∧ stepOf (bLow b) (bHigh b) = (bStep b).toNat ∧ bLow b / 2 ^ (bStep b).toNat = bFirst b ∧ cnt (bLow b) (bHigh b) (bStep b).toNat = bCount b := by
  have hf : 0 ≤ bFirst b ∧ bFirst b < 4096 := by unfold bFirst; omega
  have hc : 1 ≤ bCount b ∧ bCount b ≤ 16 := by unfold bCount; omega
  have hs0 : 0 ≤ bStep b ∧ bStep b < 16 := by unfold bStep; omega
  unfold tells at ht
  simp only [Bool.not_eq_true', Bool.or_eq_false_iff, Bool.and_eq_false_iff, decide_eq_false_iff_not] at ht
  obtain ⟨t1, t2, t3⟩ := ht
  unfold bLow bHigh
  generalize bFirst b = f at *
  generalize bCount b = c at *
  obtain ⟨s, hs⟩ : ∃ s : Nat, bStep b = s := ⟨(bStep b).toNat, by omega⟩
  rw [hs] at hs0 t1 t2 t3 ⊢
  have es : ((s : Int)).toNat = s := rfl
  rw [es] at t3 ⊢
  have hs8 : s ≤ 8 := by omega
  have p := two_pow_pos s
  have d1 : f * 2 ^ s / 2 ^ s = f := Int.mul_ediv_cancel _ (by omega)
  have d2 : cdiv ((f + c) * 2 ^ s) s = f + c := by
    show -((-((f + c) * 2 ^ s)) / 2 ^ s) = _
    rw [← Int.neg_mul, Int.mul_ediv_cancel _ (by omega)]
    omega
  have hcn : cnt (f * 2 ^ s) ((f + c) * 2 ^ s) s = c := by unfold cnt; rw [d1, d2]; omega
  have h0 : 0 ≤ f * 2 ^ s := Int.mul_nonneg hf.1 (by omega)
  have h1 : f * 2 ^ s < (f + c) * 2 ^ s := Int.mul_lt_mul_of_pos_right (by omega) p
  have h3 : (f + c) * 2 ^ s ≤ 4096 := by omega
  have hst : stepOf (f * 2 ^ s) ((f + c) * 2 ^ s) = s := by
    refine stepOf_eq (by omega) (fun i hi => ?_) h0 (by omega)
    unfold cnt cdiv
    have hc9 : 9 ≤ c := by
      rcases t2 with q | q
      · omega
      · omega
    rcases step9 s hs8 with e | e | e | e | e | e | e | e | e <;> subst e <;> rcases step9 i (by omega) with e | e | e | e | e | e | e | e | e <;> subst e <;> simp only [pw0, pw1, pw2, pw3, pw4, pw5, pw6, pw7, pw8] at * <;> omega
  refine ⟨⟨h0, h1, by omega, ?_, ?_⟩, hst, d1, hcn⟩
  · unfold heldL; rw [hst, d1]
  · unfold heldH; rw [hst, d1, hcn]
end Sr

set_option Elab.async false
set_option linter.all false
set_option maxRecDepth 100000
set_option maxHeartbeats 4000000
/-! Bounds (stage 2). -/
namespace Sr
open PySem PySem.Spec PyProof.Rows L2
open Evl (Ex)
section
variable {P : Program} {w : World} {K : PySem.W.Frag} {mg : Str → Option Value} {base : Heap}
theorem ge_un_neg [SJ] {K : PySem.W.Frag} {Δ : Dl} {ta : TE} {i : Int} (ga : GE K ta Δ (.int i)) : GE K (tUn (rU fun i => .int (-i)) ta) Δ (.int (-i)) := fun σ H s Q q => ga σ H s _ fun x H1 e r => ⟨i, dp_int r, q _ H1 e (.int _)⟩
theorem gs_aug {K : PySem.W.Frag} {Δ : Dl} {te : TE} {i : Nat} {m n : Int} {g : Int → Int → Int} (hx : Δ[i]? = some (some (.int m))) (h : GE K te Δ (.int n)) : GS K E0 0 (tAug i te (rI0 fun i j => .int (g i j))) Δ (.nx (Δ.set i (some (.int (g m n))))) := fun D σ H s q => by
  obtain ⟨v, e0, r0⟩ := s.2 i _ hx
  have e := dp_int r0
  subst e
  exact ⟨_, e0, h σ H s _ fun y H1 e1 r1 => ⟨m, n, rfl, dp_int r1, q _ H1 e1 ((s.ex e1).set (.int _) trivial)⟩⟩
theorem glb_int {K : PySem.W.Frag} {mg : Str → Option Value} {x : Str} {i : Int} (g : Glb K mg x (.int i)) : ∃ t, mg x = some (.int i t) := by
  obtain ⟨u, v, h, r, d⟩ := g.ex
  have e := dp_int (d fun _ => none)
  subst e
  obtain ⟨t, rfl⟩ := r
  exact ⟨t, h⟩
def R_least_in_bits : List PyData → PyData → Prop := fun ds d => ∃ l h : Int, ds = [.int l, .int h] ∧ 0 ≤ l ∧ l < h ∧ h ≤ 4096 ∧ d = lib l h
theorem sc_least_in_bits : FnScope ["low", "high", "step", "first"] ["low", "high"] (defScope t_least_in_bits) := ⟨rfl, rfl, rfl, by decide +kernel, rfl, by decide +kernel, by decide +kernel⟩
theorem pf_least_in_bits (T : Tx P w K mg base) : PF P w K mg base 1 "least_in_bits" R_least_in_bits := by
  refine pf_of (N := ["low", "high", "step", "first"]) (ps := ["low", "high"]) (n := 2) (k := 0) (fd_least_in_bits T) sc_least_in_bits (gl_least_in_bits T) rfl (fun ds d h => by obtain ⟨l, h, rfl, h0, h1, h2, rfl⟩ := h; rfl) (fun _ _ _ _ _ _ us hl => match us, hl with | [_, _], _ => rfl) ?_
  intro f cdv A outer s H E hr ds d h
  obtain ⟨l, h, rfl, h0, h1, h2, rfl⟩ := h
  obtain ⟨t16, g16⟩ := glb_int (c_MOST_COUNT T)
  refine ⟨.rt _, bd_cons (sd_set 2 sc_least_in_bits.nd ed_int) (bd_cons (sd_while PassesOwn.never (fun i => [some (.int l), some (.int h), some (.int (i : Nat)), none]) (stepOf l h)
    ⟨_, pt_cmpR op_gt (pe_op op_sub (pe_un un_neg (pe_op op_shr (pe_un un_neg (pv 1)) (pv 2))) (pe_op op_shr (pv 0) (pv 2))) (pe_glob (v := .int 16) rfl g16 ⟨t16, rfl⟩) (nomark _), fun i hi => ?_⟩
    ⟨_, pss_one (ps_aug (i := 2) sc_least_in_bits.nd rfl (Or.inl rfl) pe_int (fun pins s σ H x y v u Q I rx ry q => augR iop_add I rx ry q)), fun i hi => ?_⟩)
    (bd_cons (sd_set 3 sc_least_in_bits.nd (ed_shr (ed_var 0) (ed_var 2) ?_)) (bd_one (sd_ret (ed_tup (ad_cons (ed_var 2) (ad_cons (ed_var 3) (ad_cons (ed_sub (ed_neg (ed_shr (ed_neg (ed_var 1)) (ed_var 2) ?_)) (ed_var 3)) ad_nil)))) ?_)))), .inl rfl⟩
  · have e : decide (i < stepOf l h) = decide (16 < cnt l h i) := by
      by_cases q : i < stepOf l h
      · rw [decide_eq_true q, decide_eq_true (stepOf_lt q)]
      · have ei : i = stepOf l h := by omega
        rw [decide_eq_false q, decide_eq_false (by rw [ei]; have := stepOf_at h0 h2; omega)]
    rw [e]
    exact gt_test' (ge_op' (ge_op' (ge_un_neg (ge_op' (ge_un_neg (ge_var rfl)) (ge_var rfl) (rd_I' (Int.natCast_nonneg _) fun _ => .int _))) (ge_op' (ge_var rfl) (ge_var rfl) (rd_I' (Int.natCast_nonneg _) fun _ => .int _)) (rd_I0' fun _ => .int _)) (ge_c fun _ => .int _) (rd_I0' fun _ => .bl _))
  · exact gs_aug (Δ := [some (.int l), some (.int h), some (.int (i : Nat)), none]) (i := 2) (m := (i : Nat)) (n := 1) (g := fun a b => a + b) rfl (ge_c fun _ => .int _)
  · exact Int.natCast_nonneg _
  · exact Int.natCast_nonneg _
  · rfl
def R_from_bits : List PyData → PyData → Prop := fun ds d => ∃ (s : Nat) (f c : Int), ds = [.int (s : Nat), .int f, .int c] ∧ s ≤ 1000 ∧ f.natAbs < 5000 ∧ c.natAbs < 5000 ∧ d = .tuple [.int (f * 2 ^ s), .int ((f + c) * 2 ^ s)]
theorem sc_from_bits : FnScope ["step", "first", "count"] ["step", "first", "count"] (defScope t_from_bits) := ⟨rfl, rfl, rfl, by decide +kernel, rfl, by decide +kernel, by decide +kernel⟩
theorem pf_from_bits (T : Tx P w K mg base) : PF P w K mg base 1 "from_bits" R_from_bits := by
  refine pf_of (N := ["step", "first", "count"]) (ps := ["step", "first", "count"]) (n := 0) (k := 0) (fd_from_bits T) sc_from_bits (gl_from_bits T) rfl (fun ds d h => by obtain ⟨s', f', c', rfl, h0, h1, h2, rfl⟩ := h; rfl) (fun _ _ _ _ _ _ us hl => match us, hl with | [_, _, _], _ => rfl) ?_
  intro f cdv A outer s H E hr ds d h
  obtain ⟨s', f', c', rfl, h0, h1, h2, rfl⟩ := h
  refine ⟨.rt _, bd_one (sd_ret (ed_tup (ad_cons (ed_shl (ed_var 1) (ed_var 0) ?_) (ad_cons (ed_shl (ed_add (ed_var 1) (ed_var 2)) (ed_var 0) ?_) ad_nil))) ?_), .inl rfl⟩
  · exact ⟨Int.natCast_nonneg _, by omega, by omega⟩
  · exact ⟨Int.natCast_nonneg _, by omega, by omega⟩
  · rfl
def R_least_held : List PyData → PyData → Prop := fun ds d => ∃ l h : Int, ds = [.int l, .int h] ∧ 0 ≤ l ∧ l < h ∧ h ≤ 4096 ∧ d = .tuple [.int (heldL l h), .int (heldH l h)]
theorem div_small {l : Int} (s : Nat) (h0 : 0 ≤ l) (h1 : l < 5000) : (l / 2 ^ s).natAbs < 5000 := by
  have p := two_pow_pos s
  have a : 0 ≤ l / 2 ^ s := Int.ediv_nonneg h0 (by omega)
  have b : l / 2 ^ s ≤ l := Int.ediv_le_self _ h0
  omega
theorem cnt_pos {l h : Int} (s : Nat) (hs : s ≤ 8) (h1 : l < h) : 1 ≤ cnt l h s := by
  unfold cnt cdiv
  rcases step9 s hs with e | e | e | e | e | e | e | e | e <;> subst e <;> simp only [pw0, pw1, pw2, pw3, pw4, pw5, pw6, pw7, pw8] <;> omega
theorem sc_least_held : FnScope ["low", "high", "step", "first", "count"] ["low", "high"] (defScope t_least_held) := ⟨rfl, rfl, rfl, by decide +kernel, rfl, by decide +kernel, by decide +kernel⟩
theorem pf_least_held (T : Tx P w K mg base) : PF P w K mg base 2 "least_held" R_least_held := by
  refine pf_of (N := ["low", "high", "step", "first", "count"]) (ps := ["low", "high"]) (n := 3) (k := 1) (fd_least_held T) sc_least_held (gl_least_held T) rfl (fun ds d h => by obtain ⟨l, h, rfl, h0, h1, h2, rfl⟩ := h; rfl) (fun _ _ _ _ _ _ us hl => match us, hl with | [_, _], _ => rfl) ?_
  intro f cdv A outer s H E hr ds d h
  obtain ⟨l, h, rfl, h0, h1, h2, rfl⟩ := h
  have q1 := stepOf_le l h
  have q2 := stepOf_at h0 h2
  have q3 := cnt_pos (stepOf l h) q1 h1
  exact ⟨.rt _, bd_cons (sd_asg (ed_call (pf_least_in_bits T) (hr.mono (by decide)) (ad_cons (ed_var 0) (ad_cons (ed_var 1) ad_nil)) (⟨l, h, rfl, h0, h1, h2, rfl⟩)) (gd_tup rfl (gds_cons (gd_name 2 sc_least_held.nd) (gds_cons (gd_name 3 sc_least_held.nd) (gds_cons (gd_name 4 sc_least_held.nd) gds_nil))))) (bd_one (sd_ret (ed_call (pf_from_bits T) (hr.mono (by decide)) (ad_cons (ed_var 2) (ad_cons (ed_var 3) (ad_cons (ed_var 4) ad_nil))) (⟨stepOf l h, _, _, rfl, by omega, div_small _ h0 (by omega), by omega, rfl⟩)) (rfl))), .inl rfl⟩
def R_room_of : List PyData → PyData → Prop := fun ds d => ∃ n : Int, ds = [.int n] ∧ 1 ≤ n ∧ n ≤ 4096 ∧ d = .tuple [.int (cdiv n (stepOf 0 n) * 2 ^ stepOf 0 n), .int (stepOf 0 n : Nat)]
theorem cnt_zero (n : Int) (s : Nat) : cnt 0 n s = cdiv n s := by unfold cnt; rw [Int.zero_ediv]; omega
theorem sc_room_of : FnScope ["many", "step"] ["many"] (defScope t_room_of) := ⟨rfl, rfl, rfl, by decide +kernel, rfl, by decide +kernel, by decide +kernel⟩
theorem pf_room_of (T : Tx P w K mg base) : PF P w K mg base 2 "room_of" R_room_of := by
  refine pf_of (N := ["many", "step"]) (ps := ["many"]) (n := 1) (k := 1) (fd_room_of T) sc_room_of (gl_room_of T) rfl (fun ds d h => by obtain ⟨n, rfl, h1, h2, rfl⟩ := h; rfl) (fun _ _ _ _ _ _ us hl => match us, hl with | [_], _ => rfl) ?_
  intro f cdv A outer s H E hr ds d h
  obtain ⟨n, rfl, h1, h2, rfl⟩ := h
  obtain ⟨t16, g16⟩ := glb_int (c_MOST_COUNT T)
  have hz := stepOf_at (l := 0) (h := n) (by omega) h2
  have hp := cnt_pos (l := 0) (h := n) (stepOf 0 n) (stepOf_le _ _) (by omega)
  rw [cnt_zero] at hz hp
  refine ⟨.rt _, bd_ifx (p := false) (td_is (WD.t (wd_or (td_not (td_val (ed_call (pf_is_whole T) (hr.mono (by decide)) (ad_cons (ed_var 0) ad_nil) (⟨_, rfl, rfl⟩)))) fun hb => (wd_or1 (td_not (td_ch2ee ed_int (ed_var 0) (ed_glob (c_CELLS T))))))) ?_) (fun _ h => nomatch h) (fun h => Bool.noConfusion h) fun _ => bd_cons (sd_set 1 sc_room_of.nd ed_int) (bd_cons (sd_while PassesOwn.never (fun i => [some (.int n), some (.int (i : Nat))]) (stepOf 0 n)
    ⟨_, pt_cmpR op_gt (pe_un un_neg (pe_op op_shr (pe_un un_neg (pv 0)) (pv 1))) (pe_glob (v := .int 16) rfl g16 ⟨t16, rfl⟩) (nomark _), fun i hi => ?_⟩
    ⟨_, pss_one (ps_aug (i := 1) sc_room_of.nd rfl (Or.inl rfl) pe_int (fun pins s σ H x y v u Q I rx ry q => augR iop_add I rx ry q)), fun i hi => ?_⟩)
    (bd_one (sd_ret (ed_tup (ad_cons (ed_shl (ed_neg (ed_shr (ed_neg (ed_var 0)) (ed_var 1) ?_)) (ed_var 1) ?_) (ad_cons (ed_var 1) ad_nil))) ?_))), .inl rfl⟩
  · simp [isWhole, h1, h2]
  · have e : decide (i < stepOf 0 n) = decide (16 < cdiv n i) := by
      by_cases q : i < stepOf 0 n
      · rw [decide_eq_true q, decide_eq_true (by rw [← cnt_zero]; exact stepOf_lt q)]
      · have ei : i = stepOf 0 n := by omega
        rw [decide_eq_false q, decide_eq_false (by rw [ei]; omega)]
    rw [e]
    exact gt_test' (ge_op' (ge_un_neg (ge_op' (ge_un_neg (ge_var rfl)) (ge_var rfl) (rd_I' (Int.natCast_nonneg _) fun _ => .int _))) (ge_c fun _ => .int _) (rd_I0' fun _ => .bl _))
  · exact gs_aug (Δ := [some (.int n), some (.int (i : Nat))]) (i := 1) (m := (i : Nat)) (n := 1) (g := fun a b => a + b) rfl (ge_c fun _ => .int _)
  · exact Int.natCast_nonneg _
  · refine ⟨Int.natCast_nonneg _, ?_, ?_⟩
    · have := stepOf_le 0 n; omega
    · show (cdiv n (stepOf 0 n)).natAbs < 2 ^ 64
      omega
  · rfl
end
end Sr

set_option Elab.async false
set_option linter.all false
set_option maxRecDepth 100000
set_option maxHeartbeats 4000000
/-! Comprehensions' targets; words' mathematics. -/
namespace Sr
open PySem PySem.Spec PyProof.Rows L2
open Evl (Ex)
theorem gw_name [SJ] {K : PySem.W.Frag} {Δ : Dl} {d : PyData} (j : Nat) (hk : ∀ i, SJ.ok i := by exact fun _ => True.intro) : GW K (gName j) [j] Δ d (Δ.set j (some d)) := fun σ H v s hw r Q q => by
  refine q _ H (Ex.refl H) (s.set r (hk _)) ?_
  show (σ.set j (some v)).set j none = σ
  rw [List.set_set]
  exact hw
theorem gw_pair [SJ] {K : PySem.W.Frag} {Δ : Dl} {d1 d2 : PyData} (i j : Nat) (hij : i ≠ j) (hk : ∀ i, SJ.ok i := by exact fun _ => True.intro) : GW K (gTup K 2 (gCons (gName i) (gCons (gName j) gNil))) [i, j] Δ (.tuple [d1, d2]) ((Δ.set i (some d1)).set j (some d2)) := fun σ H v s hw r Q q => by
  obtain ⟨a, xs, e, hs, rs⟩ := dp_tup r
  cases rs with
  | cons r1 rs =>
    cases rs with
    | cons r2 rs =>
      cases rs
      refine ⟨a, _, e, hs, rfl, _, _, rfl, _, _, rfl, rfl, q _ H (Ex.refl H) ((s.set r1 (hk _)).set r2 (hk _)) ?_⟩
      show (((σ.set i (some _)).set j (some _)).set j none).set i none = σ
      rw [List.set_set, List.set_comm _ _ hij, List.set_set]
      exact hw
/-! ### rights -/
def rsgn : List (Nat × Str) := [(0, "r"), (1, "w"), (2, "l"), (3, "s"), (4, "n"), (5, "f"), (6, "x"), (7, "c"), (8, "o")]
def rightsL (m : Int) : List Str := (rsgn.filter fun p => decide (m / 2 ^ p.1 % 2 = 1)).map (·.2)
def rightsM (m : Int) : Str := Txt.join "" (rightsL m)
/-- a word's rights -/
inductive Rt where
  | fx | f | no | cell | stk | sl
  deriving DecidableEq
def Rt.s : Rt → Str
  | .fx => "fx"
  | .f => "f"
  | .no => ""
  | .cell => "rwlsf"
  | .stk => "rwlsn"
  | .sl => "fco"
def Rt.m : Rt → Int
  | .fx => 96
  | .f => 32
  | .no => 0
  | .cell => 47
  | .stk => 31
  | .sl => 416
theorem rightsM_m (r : Rt) : rightsM r.m = r.s := by cases r <;> decide +kernel
theorem Rt.m_lt (r : Rt) : 0 ≤ r.m ∧ r.m < 512 := by cases r <;> decide
theorem bit_of (b : Int) (i : Nat) (hi : i ≤ 8) : b / 2 ^ (32 + i) % 2 = b / 4294967296 % 512 / 2 ^ i % 2 := by
  rcases step9 i hi with e | e | e | e | e | e | e | e | e <;> subst e <;> simp only [show (2 : Int) ^ (32 + 0) = 4294967296 by decide, show (2 : Int) ^ (32 + 1) = 8589934592 by decide, show (2 : Int) ^ (32 + 2) = 17179869184 by decide, show (2 : Int) ^ (32 + 3) = 34359738368 by decide,
    show (2 : Int) ^ (32 + 4) = 68719476736 by decide, show (2 : Int) ^ (32 + 5) = 137438953472 by decide, show (2 : Int) ^ (32 + 6) = 274877906944 by decide, show (2 : Int) ^ (32 + 7) = 549755813888 by decide, show (2 : Int) ^ (32 + 8) = 1099511627776 by decide, pw0, pw1, pw2, pw3, pw4, pw5, pw6, pw7, pw8] <;> omega
theorem rsgn_le : ∀ p ∈ rsgn, p.1 ≤ 8 := by decide +kernel
theorem enumS_rights : enumS "rwlsnfxco" = rsgn.map fun p => PyData.tuple [.int (p.1 : Nat), .str p.2] := by
  unfold enumS rsgn
  have e : (("rwlsnfxco" : Str).cps.toList) = [114, 119, 108, 115, 110, 102, 120, 99, 111] := by decide +kernel
  rw [e]
  rfl
/-- the bits of a marked word's fields -/
def mk (l h at_ m k : Int) : Int := at_ + l / 2 ^ stepOf l h * 4096 + (cnt l h (stepOf l h) - 1) * 16777216 + (stepOf l h : Nat) * 268435456 + k * 2199023255552 + m * 4294967296
/-- fields of a lawful marked word -/
structure Fl (l h at_ m k : Int) : Prop where
  ex : Exact l h
  a0 : 0 ≤ at_
  a1 : at_ < 4096
  m0 : 0 ≤ m
  m1 : m < 512
  k0 : 0 ≤ k
  k1 : k < 16
theorem cnt_big {l h : Int} (h0 : 0 ≤ l) (h1 : l < h) (h2 : h ≤ 4096) (hs : 0 < stepOf l h) : 9 ≤ cnt l h (stepOf l h) := by
  have hq := stepOf_lt (l := l) (h := h) (i := stepOf l h - 1) (by omega)
  have hle := stepOf_le l h
  generalize stepOf l h = s at *
  unfold cnt cdiv at *
  rcases step9 s hle with e | e | e | e | e | e | e | e | e <;> subst e <;> simp only [pw0, pw1, pw2, pw3, pw4, pw5, pw6, pw7, pw8] at * <;> omega
theorem mk_told {l h at_ m k : Int} (F : Fl l h at_ m k) : 0 ≤ mk l h at_ m k ∧ mk l h at_ m k < 35184372088832 ∧ tells (mk l h at_ m k) = true ∧ bLow (mk l h at_ m k) = l ∧ bHigh (mk l h at_ m k) = h ∧
    mk l h at_ m k % 4096 = at_ ∧ mk l h at_ m k / 4294967296 % 512 = m ∧ mk l h at_ m k / 2199023255552 = k := by
  obtain ⟨⟨h0, h1, h2, e1, e2⟩, a0, a1, m0, m1, k0, k1⟩ := F
  have s8 := stepOf_le l h
  have c16 := stepOf_at h0 h2
  have c1 := cnt_pos (stepOf l h) s8 h1
  have c9 := fun hs => cnt_big h0 h1 h2 hs
  have f0 : 0 ≤ l / 2 ^ stepOf l h := Int.ediv_nonneg h0 (by have := two_pow_pos (stepOf l h); omega)
  have f1 : l / 2 ^ stepOf l h ≤ l := Int.ediv_le_self _ h0
  have eb : bFirst (mk l h at_ m k) = l / 2 ^ stepOf l h ∧ bCount (mk l h at_ m k) = cnt l h (stepOf l h) ∧ bStep (mk l h at_ m k) = (stepOf l h : Nat) := by
    unfold bFirst bCount bStep mk
    generalize stepOf l h = s at *
    generalize l / 2 ^ s = f at *
    generalize cnt l h s = c at *
    omega
  have e3 : (l / 2 ^ stepOf l h + cnt l h (stepOf l h)) * 2 ^ stepOf l h = h := e2
  have e4 : l / 2 ^ stepOf l h * 2 ^ stepOf l h = l := e1
  refine ⟨?_, ?_, ?_, ?_, ?_, ?_, ?_, ?_⟩
  · unfold mk
    generalize stepOf l h = s at *
    generalize l / 2 ^ s = f at *
    generalize cnt l h s = c at *
    omega
  · unfold mk
    generalize stepOf l h = s at *
    generalize l / 2 ^ s = f at *
    generalize cnt l h s = c at *
    omega
  · unfold tells
    rw [eb.1, eb.2.1, eb.2.2]
    simp only [Bool.not_eq_true', Bool.or_eq_false_iff, Bool.and_eq_false_iff, decide_eq_false_iff_not]
    refine ⟨by omega, ?_, ?_⟩
    · by_cases hs : 0 < stepOf l h
      · exact .inr (by have := c9 hs; omega)
      · exact .inl (by omega)
    · show ¬ 4096 < (l / 2 ^ stepOf l h + cnt l h (stepOf l h)) * 2 ^ stepOf l h
      rw [e3]; omega
  · unfold bLow
    rw [eb.1, eb.2.2]
    exact e4
  · unfold bHigh
    rw [eb.1, eb.2.1, eb.2.2]
    exact e3
  · unfold mk
    generalize stepOf l h = s at *
    generalize l / 2 ^ s = f at *
    generalize cnt l h s = c at *
    omega
  · unfold mk
    generalize stepOf l h = s at *
    generalize l / 2 ^ s = f at *
    generalize cnt l h s = c at *
    omega
  · unfold mk
    generalize stepOf l h = s at *
    generalize l / 2 ^ s = f at *
    generalize cnt l h s = c at *
    omega
/-- the fields of a word, or None -/
def fieldsD (b : Int) : PyData := if tells b = true then .tuple [.int (bLow b), .int (bHigh b), .int (b % 4096), .str (rightsM (b / 4294967296 % 512)), .int (b / 2199023255552)] else .none
theorem fieldsD_mk {l h at_ k : Int} {r : Rt} (F : Fl l h at_ r.m k) : fieldsD (mk l h at_ r.m k) = .tuple [.int l, .int h, .int at_, .str r.s, .int k] := by
  obtain ⟨_, _, t, e1, e2, e3, e4, e5⟩ := mk_told F
  unfold fieldsD
  rw [if_pos t, e1, e2, e3, e4, e5, rightsM_m]
end Sr

set_option Elab.async false
set_option linter.all false
set_option maxRecDepth 100000
set_option maxHeartbeats 4000000
/-! list.count of data; int << in comprehensions. -/
namespace Sr
open PySem PySem.Spec PyProof.Rows L2
open Evl (Ex)
section
variable {X : Cx}
def rCntD (K : PySem.W.Frag) : V → List V → Hp → VK → Prop := fun x xs H Q => ∃ (a : Addr) (y : V) (d : PyData) (ds : List PyData), x = V.ref a ∧ xs = [y] ∧ Dp K H (V.ref a) (.list ds) ∧ Dp K H y d ∧
  SeqAt.shaped (.list ds) = true ∧ SeqAt.shaped d = true ∧ Q (.int ((ds.countP fun z => PyData.eqv z d : Nat))) H
theorem mt_lcountD (hu : X.A.units + 65 < cLine) : MtR X "list.count" (rCntD X.K) := by
  intro pins s σ H x xs v us Q I rx rxs h
  obtain ⟨a, y, d, ds, rfl, rfl, hl, hy, sl, sd, q⟩ := h
  cases rx
  cases rxs with
  | cons ry rt =>
    rename_i uy ut
    cases rt
    obtain ⟨bs, r1⟩ := Dp.reads I d y uy hy ry
    have hxs : PyData.canLayAll0 ds = true := SeqAt.canLay_of_shaped sl
    have hroom : X.A.units + 1 + min (PyData.depthAll ds) d.depth < cLine := room_in_shaped sd hu
    cases hl with
    | lst hs ha =>
      obtain ⟨its, rv, ⟨⟨cls, dd, data, sls⟩, n, ho, hc, hdn, hdt⟩, hlen⟩ := I.list hs
      simp only at hc hdt
      subst hc hdt
      obtain ⟨as, h4⟩ := Dp.readsAll I ds _ its ha rv
      have hmap : its.map (SeqAt.readOf s.heap) = ds := SeqAt.readsAll_map ds its as hxs h4
      refine call_meets PySem.F.slot_list_count ⟨_, ho, rfl⟩ PySem.F.entry_list_count (PySem.F.args_list_count_2 _ _)
        (SeqAt.list_countAt a its.toArray n dd sls uy (fun u => PyData.eqv (SeqAt.readOf s.heap u) d)) ⟨ho, SeqAt.items_eqAt (vs := its.toArray) (show ReadsAll s.heap its.toArray.toList ds as from h4) r1 hxs (SeqAt.canLay_of_shaped sd) hroom, ?_⟩
      have ec : its.toArray.toList.countP (fun u => PyData.eqv (SeqAt.readOf s.heap u) d) = ds.countP fun z => PyData.eqv z d := by
        rw [← hmap, List.countP_map]
        rfl
      refine ⟨.int ((ds.countP fun z => PyData.eqv z d : Nat)), H, I.tok _, ⟨s.toks, ?_⟩, q⟩
      show Value.int ((its.toArray.toList.countP _ : Nat) : Int) s.toks = _
      rw [ec]
end
section
variable {X : Cx} {Δ : Dl} {a b : Expr} {pos : Pos} {d : PyData} {ds : List PyData}
theorem ed_countD [SJ] {apos : Pos} (hu : X.A.units + 65 < cLine) (ho : ED X a Δ (.list ds)) (ha : ED X b Δ d) (s1 : SeqAt.shaped (.list ds) = true := by rfl) (s2 : SeqAt.shaped d = true := by rfl)
    (hs : starEach (b :: []) X.env = (false, eval b X.env) :: starEach [] X.env := by rfl) (hbase : attributeBase a "count" X.env (eval a X.env) = eval a X.env := by rfl) (hline : (apos.endLine == pos.line) = true := by rfl)
    (hfew : ((backTo pos (starEach (b :: []) X.env)).all (fun x => !x.1) && (backToKw pos (keywordEach [] X.env)).all (fun x => x.1.isSome)
      && decide ((b :: []).length + ([] : List Keyword).length + (if ([] : List Keyword).isEmpty then 0 else 1) < 30)) = true := by rfl) (hplain : (backTo pos (starEach [] X.env)).any (·.1) = false := by rfl) :
    ED X (.Call (.Attribute a "count" apos) [b] [] pos) Δ (.int ((ds.countP fun z => PyData.eqv z d : Nat))) :=
  let ⟨_, po, go⟩ := ho.ex
  let ⟨_, pa, ga⟩ := ha.ex
  ⟨_, pe_bm PySem.F.plainAttrs_list PySem.F.slot_list_count PySem.F.type_list_count (mt_lcountD hu) po (pa_cons pa pa_nil hs) hbase hfew hline hs hplain, fun σ H s Q q => go σ H s _ fun x H1 e1 r1 => by
    obtain ⟨p, xs, e, hq, r⟩ := dp_lst r1
    subst e
    refine ⟨.inl ⟨rfl, _, hq⟩, ga σ H1 (s.ex e1) _ fun y H2 e2 r2 => ?_⟩
    exact ⟨p, y, d, ds, rfl, rfl, dp_ex e2 _ _ r1, r2, s1, s2, q _ H2 (e1.trans e2) (.int _)⟩⟩
end
section
variable {X : Cx} {E : XK} {CF : Addr} {Δ : Dl} {a b c : Expr} {pos px py pz pt pt2 : Pos} {d1 d2 d3 : PyData} {x y z : Str} {kt k2}
theorem sd_par2 [SJ] (i j : Nat) (hc : X.calm = true) (hN : X.N.Nodup) (ha : AD X [a, b] Δ [d1, d2]) (hi : X.N[i]? = some x := by rfl) (hj : X.N[j]? = some y := by rfl) (hij : i ≠ j := by decide)
    (hx : X.env.scope.names.lookup x = some .local := by rfl) (hy : X.env.scope.names.lookup y = some .local := by rfl)
    (hw : swappedStores [.Tuple [.Name x px, .Name y py] kt pt] (.Tuple [a, b] k2 pt2) X.env = pure (some [x, y]) := by rfl)
    (hs : swapsWithSole [.Tuple [.Name x px, .Name y py] kt pt] (.Tuple [a, b] k2 pt2) pos.line X.env = pure false := by rfl) (h0 : SJ.ok i ∧ SJ.ok j := by first | exact ⟨True.intro, True.intro⟩ | exact ⟨Nat.succ_ne_zero _, Nat.succ_ne_zero _⟩) :
    SD X E CF (.Assign [.Tuple [.Name x px, .Name y py] kt pt] (.Tuple [a, b] k2 pt2) pos) Δ (.nx ((Δ.set i (some d1)).set j (some d2))) :=
  let ⟨_, pa, ga⟩ := ha.ex
  ⟨_, ps_par hc hN hi hj hij hx hy pa hw hs, fun D σ H s q => ga σ H s _ fun vs H1 e1 r1 => by
    cases r1 with
    | cons r1 rs =>
      cases rs with
      | cons r2 rs =>
        cases rs
        exact ⟨_, _, rfl, q _ H1 e1 (((s.ex e1).set r1 h0.1).set r2 h0.2)⟩⟩
theorem sd_par3 [SJ] (i j l : Nat) (hc : X.calm = true) (hN : X.N.Nodup) (ha : AD X [a, b, c] Δ [d1, d2, d3]) (hi : X.N[i]? = some x := by rfl) (hj : X.N[j]? = some y := by rfl) (hl : X.N[l]? = some z := by rfl) (hij : i ≠ j := by decide) (hil : i ≠ l := by decide) (hjl : j ≠ l := by decide)
    (hx : X.env.scope.names.lookup x = some .local := by rfl) (hy : X.env.scope.names.lookup y = some .local := by rfl) (hz : X.env.scope.names.lookup z = some .local := by rfl)
    (hw : swappedStores [.Tuple [.Name x px, .Name y py, .Name z pz] kt pt] (.Tuple [a, b, c] k2 pt2) X.env = pure (some [x, y, z]) := by rfl)
    (hs : swapsWithSole [.Tuple [.Name x px, .Name y py, .Name z pz] kt pt] (.Tuple [a, b, c] k2 pt2) pos.line X.env = pure false := by rfl) (h0 : SJ.ok i ∧ SJ.ok j ∧ SJ.ok l := by first | exact ⟨True.intro, True.intro, True.intro⟩ | exact ⟨Nat.succ_ne_zero _, Nat.succ_ne_zero _, Nat.succ_ne_zero _⟩) :
    SD X E CF (.Assign [.Tuple [.Name x px, .Name y py, .Name z pz] kt pt] (.Tuple [a, b, c] k2 pt2) pos) Δ (.nx (((Δ.set i (some d1)).set j (some d2)).set l (some d3))) :=
  let ⟨_, pa, ga⟩ := ha.ex
  ⟨_, ps_par3 hc hN hi hj hl hij hil hjl hx hy hz pa hw hs, fun D σ H s q => ga σ H s _ fun vs H1 e1 r1 => by
    cases r1 with
    | cons r1 rs =>
      cases rs with
      | cons r2 rs =>
        cases rs with
        | cons r3 rs =>
          cases rs
          exact ⟨_, _, _, rfl, q _ H1 e1 ((((s.ex e1).set r1 h0.1).set r2 h0.2.1).set r3 h0.2.2)⟩⟩
end
end Sr

set_option Elab.async false
set_option linter.all false
set_option maxRecDepth 100000
set_option maxHeartbeats 4000000
/-! Words. -/
namespace Sr
open PySem PySem.Spec PyProof.Rows L2
open Evl (Ex)
/-! ### the signs of a text -/
def chars (x : Str) : List Str := x.cps.toList.map fun c => ⟨#[c]⟩
theorem signs_eq (x : Str) : signs x = (chars x).map .str := by unfold signs chars; rw [List.map_map]; rfl
def pin (x : Str) : PyData → Bool
  | .str y => inS y x
  | _ => false
theorem sg_filter (z x : Str) : PyData.list (((signs z).filter (pin x)).map fun d => d) = .list (((chars z).filter fun y => inS y x).map .str) := by
  rw [signs_eq, List.filter_map, List.map_map]
  rfl
theorem chars_one {x : Str} {p : Str → Bool} : (((chars x).filter p).map (·.length)).sum = ((chars x).filter p).length := by
  have h : ∀ l : List Str, (∀ y ∈ l, y.length = 1) → (l.map (·.length)).sum = l.length := by
    intro l
    induction l with
    | nil => intro _; rfl
    | cons a l ih => intro h; rw [List.map_cons, List.sum_cons, h a List.mem_cons_self, ih fun y hy => h y (List.mem_cons_of_mem _ hy), List.length_cons]; omega
  refine h _ fun y hy => ?_
  have hy' := (List.mem_filter.mp hy).1
  obtain ⟨c, _, rfl⟩ := List.mem_map.mp hy'
  rfl
theorem chars_join {x : Str} {p : Str → Bool} (h : x.cps.size ≤ 1000) : (((chars x).filter p).map (·.length)).sum + ((chars x).filter p).length * Str.length "" ≤ 16777216 := by
  rw [chars_one]
  have h1 := List.length_filter_le p (chars x)
  have h2 : (chars x).length = x.cps.size := by unfold chars; rw [List.length_map, Array.length_toList]
  have h3 : Str.length "" = 0 := rfl
  rw [h3]
  omega
theorem mem_signs {x : Str} {d : PyData} (h : d ∈ signs x) : ∃ y : Str, y ∈ chars x ∧ d = .str y := by
  rw [signs_eq] at h
  obtain ⟨y, hy, rfl⟩ := List.mem_map.mp h
  exact ⟨y, hy, rfl⟩
theorem rd_inS' {K : PySem.W.Frag} {x y : Str} : RD K (fun x y H Q => ∃ i j, x = .str i ∧ y = .str j ∧ Q (.bl (!(Builtin.Str.occurrences j i 0 j.length 1).isEmpty)) H) (.str x) (.str y) (.bool (inS x y)) := fun _ _ H h1 h2 Q q => ⟨x, y, dp_str h1, dp_str h2, q _ H (Ex.refl H) (.bl _)⟩
theorem glb_str {K : PySem.W.Frag} {mg : Str → Option Value} {x : Str} {i : Str} (g : Glb K mg x (.str i)) : ∃ t, mg x = some (.str i t) := by
  obtain ⟨u, v, h, r, d⟩ := g.ex
  have e := dp_str (d fun _ => none)
  subst e
  obtain ⟨t, rfl⟩ := r
  exact ⟨t, h⟩
theorem room65 {k : Nat} {A : Around} (r : Room k A) : A.units + 65 < cLine := by have := r.un; omega
theorem id_is [SJ] {X : Cx} {tg e : Expr} {Δ : Dl} {ds ds' : List PyData} (h : ID X tg e Δ ds) (q : ds = ds') : ID X tg e Δ ds' := q ▸ h
def rgt (x : Str) : Str := Txt.join "" ((chars "rwlsnfxco").filter fun y => inS y x)
/-! ### calls in a comprehension -/
theorem pf_blk [SJ] {X : Cx} {k : Nat} {x : Str} {R : List PyData → PyData → Prop} (hr : Room k X.A) (pf : PF X.prog X.w X.K X.mg X.base k x R) : ∃ tm : TA → TE,
    (∀ (s : Shared) (H : Hp) (scope : Scope) (ce : Env) (fp : List Addr) (e : Expr) (es : List Expr) (p pos : Pos) (ta : TA), Gl (X.blk s H scope ce fp) x → PA (X.blk s H scope ce fp) (e :: es) ta → (x == ("__debug__" : Str)) = false →
      starEach (e :: es) ce = (false, eval e ce) :: starEach es ce → (backTo pos (starEach es ce)).any (·.1) = false → PE (X.blk s H scope ce fp) (.Call (.Name x p) (e :: es) [] pos) (tm ta)) ∧
    (∀ Δ ds d ta, GA X.K ta Δ ds → R ds d → GE X.K (tm ta) Δ d) := by
  obtain ⟨_, _, _, dvs, _, _, F, hm, hk, hb, hv, hR⟩ := pf.ex
  refine ⟨_, fun s H scope ce fp e es p pos ta hg pa hdb he hpl => pe_call F hr hg hm hk hb hv pass0 pa hdb he hpl, fun Δ ds d ta ga h σ H s Q q => ga σ H s _ fun vs H1 e1 r1 => ?_⟩
  obtain ⟨es', h1, h2⟩ := hR ds d h
  exact ⟨ds ++ es', d, dpa_app r1 (h1 H1), h2, fun v H2 e2 r2 => q v H2 (e1.trans e2) r2⟩
section
variable {P : Program} {w : World} {K : PySem.W.Frag} {mg : Str → Option Value} {base : Heap}
def R_plain : List PyData → PyData → Prop := fun ds d => ∃ n : Int, ds = [.int n] ∧ d = W false (n % 35184372088832)
theorem sc_plain : FnScope ["number"] ["number"] (defScope t_plain) := ⟨rfl, rfl, rfl, by decide +kernel, rfl, by decide +kernel, by decide +kernel⟩
theorem pf_plain (T : Tx P w K mg base) : PF P w K mg base 1 "plain" R_plain := by
  refine pf_of (N := ["number"]) (ps := ["number"]) (n := 0) (k := 0) (fd_plain T) sc_plain (gl_plain T) rfl (fun ds d h => by obtain ⟨n, rfl, rfl⟩ := h; rfl) (fun _ _ _ _ _ _ us hl => match us, hl with | [_], _ => rfl) ?_
  intro f cdv A outer s H E hr ds d h
  obtain ⟨n, rfl, rfl⟩ := h
  exact ⟨.rt _, bd_one (sd_ret (ed_tup (ad_cons ed_bl (ad_cons (ed_mod (ed_var 0) (ed_glob (c_WORDS T)) (by decide)) ad_nil))) (rfl)), .inl rfl⟩
def R_is_word : List PyData → PyData → Prop := fun ds d => ∃ (t : Bool) (b : Int), ds = [W t b] ∧ d = .bool (decide (0 ≤ b) && decide (b < 35184372088832))
theorem sc_is_word : FnScope ["thing"] ["thing"] (defScope t_is_word) := ⟨rfl, rfl, rfl, by decide +kernel, rfl, by decide +kernel, by decide +kernel⟩
theorem pf_is_word (T : Tx P w K mg base) : PF P w K mg base 2 "is_word" R_is_word := by
  refine pf_of (N := ["thing"]) (ps := ["thing"]) (n := 0) (k := 1) (fd_is_word T) sc_is_word (gl_is_word T) rfl (fun ds d h => by obtain ⟨t, b, rfl, rfl⟩ := h; rfl) (fun _ _ _ _ _ _ us hl => match us, hl with | [_], _ => rfl) ?_
  intro f cdv A outer s H E hr ds d h
  obtain ⟨t, b, rfl, rfl⟩ := h
  refine ⟨.rt _, bd_ifx (p := false) (td_is (WD.t (wd_or (td_not (td_val (ed_isi (fr_isinstance T) (fr_tuple T) bt_tuple (ed_var 0) (kit_tuple _)))) fun hb => (wd_or (td_neI (ed_len (fr_len T) (ed_var 0) (by first | exact .inl rfl | exact .inr rfl)) ed_int) fun hb => (wd_or1 (td_not (td_val (ed_isi (fr_isinstance T) (fr_bool T) bt_bool (ed_ixT (ed_var 0) ed_int) (kit_bool _)))))))) rfl) (fun _ h => nomatch h) (fun h => Bool.noConfusion h) fun _ => bd_one (sd_ret (ed_and' (ed_call (pf_is_whole T) (hr.mono (by decide)) (ad_cons (ed_ixT (ed_var 0) ed_int) ad_nil) (⟨_, rfl, rfl⟩)) fun hb => (ed_one (ed_ch2et ed_int (ed_ixT (ed_var 0) ed_int) (ed_glob (c_WORDS T))))) ?_), .inl rfl⟩
  simp [isWhole]
def R_is_rights : List PyData → PyData → Prop := fun ds d => ∃ x : Str, ds = [.str x] ∧ d = .bool (decide (x = rgt x))
theorem sc_is_rights : FnScope ["thing", "right"] ["thing"] (defScope t_is_rights) := ⟨rfl, rfl, rfl, by decide +kernel, rfl, by decide +kernel, by decide +kernel⟩
theorem pf_is_rights (T : Tx P w K mg base) : PF P w K mg base 1 "is_rights" R_is_rights := by
  refine pf_of (N := ["thing", "right"]) (ps := ["thing"]) (n := 1) (k := 0) (fd_is_rights T) sc_is_rights (gl_is_rights T) rfl (fun ds d h => by obtain ⟨x, rfl, rfl⟩ := h; rfl) (fun _ _ _ _ _ _ us hl => match us, hl with | [_], _ => rfl) ?_
  intro f cdv A outer s H E hr ds d h
  obtain ⟨x, rfl, rfl⟩ := h
  refine ⟨.rt _, bd_one (sd_ret (ed_and' (ed_isi (fr_isinstance T) (fr_str T) bt_str (ed_var 0) (kit_str _)) fun hb => (ed_one (ed_eqS (ed_var 0) (ed_join ed_str (ed_is (ed_lc (own := [("right", 1)]) (p := pin x) (out := fun d => d) (fun d => [some (.str x), some d]) rfl sc_is_rights.nd (id_str (ed_glob (c_RIGHTS T))) (blkOk_by (by rfl)) (fun _ _ _ _ _ => pg_name sc_is_rights.nd rfl (.inl rfl)) (fun d hd => gw_name 1) (fun _ _ _ _ _ => pts_one (pt_cmpR op_in_str (pv 1) (pv 0) rfl)) (fun d hd => by obtain ⟨y, _, rfl⟩ := mem_signs hd; exact gt_test' (ge_op' (ge_var rfl) (ge_var rfl) rd_inS')) (fun _ _ _ _ _ => pv 1) (fun d hd hp => ge_var rfl) (fun d hd hp => by obtain ⟨y, _, rfl⟩ := mem_signs hd; rfl) (by decide +kernel)) (sg_filter _ _)) (chars_join (by decide +kernel)))))) (rfl)), .inl rfl⟩
def lawB (x : Str) : List Bool := (chars x).map fun y => inS y "rwlsn"
def lawG (x : Str) : List PyData := [.bool ((lawB x).any id), .bool (inS "x" x), .bool (inS "c" x || inS "o" x)]
def lawfulS (x : Str) : Bool := decide (((lawG x).countP fun z => PyData.eqv z (.bool true) : Nat) ≤ (1 : Int))
def R_are_lawful : List PyData → PyData → Prop := fun ds d => ∃ x : Str, ds = [.str x] ∧ x.cps.size ≤ 1000 ∧ d = .bool (lawfulS x)
def cgB : PyData → PyData
  | .str y => .bool (inS y "rwlsn")
  | _ => .none
theorem cg_map (x : Str) : PyData.list (((signs x).filter fun _ => true).map cgB) = .list ((lawB x).map .bool) := by
  rw [List.filter_eq_self.mpr (fun _ _ => rfl), signs_eq, List.map_map]
  unfold lawB
  rw [List.map_map]
  rfl
theorem sc_are_lawful : FnScope ["rights", "groups", "right"] ["rights"] (defScope t_are_lawful) := ⟨rfl, rfl, rfl, by decide +kernel, rfl, by decide +kernel, by decide +kernel⟩
theorem pf_are_lawful (T : Tx P w K mg base) : PF P w K mg base 1 "are_lawful" R_are_lawful := by
  refine pf_of (N := ["rights", "groups", "right"]) (ps := ["rights"]) (n := 2) (k := 0) (fd_are_lawful T) sc_are_lawful (gl_are_lawful T) rfl (fun ds d h => by obtain ⟨x, rfl, hx, rfl⟩ := h; rfl) (fun _ _ _ _ _ _ us hl => match us, hl with | [_], _ => rfl) ?_
  intro f cdv A outer s H E hr ds d h
  obtain ⟨x, rfl, hx, rfl⟩ := h
  obtain ⟨tg, hg⟩ := glb_str (c_CELL_GROUP T)
  exact ⟨.rt _, bd_cons (sd_set 1 sc_are_lawful.nd (ed_lst (ad_cons (ed_any rfl (fr_any T) (ed_is (ed_lc (own := [("right", 2)]) (p := fun _ => true) (out := cgB) (fun d => [some (.str x), none, some d]) rfl sc_are_lawful.nd (id_str (ed_var 0)) (blkOk_by (by rfl)) (fun _ _ _ _ _ => pg_name sc_are_lawful.nd rfl (.inl rfl)) (fun d hd => gw_name 2) (fun _ _ _ _ _ => pts_nil) (fun d hd σ H s Q q => q H (Ex.refl H)) (fun _ _ _ _ _ => pe_cmpR op_in_str (pv 2) (pe_glob (v := .str "rwlsn") rfl hg ⟨_, rfl⟩) rfl) (fun d hd hp => by obtain ⟨y, _, rfl⟩ := mem_signs hd; exact ge_op' (ge_var rfl) (ge_c fun _ => .str _) rd_inS') (fun d hd hp => by obtain ⟨y, _, rfl⟩ := mem_signs hd; rfl) (by rw [signs_eq, List.length_map]; unfold chars; rw [List.length_map, Array.length_toList]; exact Nat.lt_of_le_of_lt hx (by decide +kernel))) (cg_map _))) (ad_cons (ed_inS ed_str (ed_var 0)) (ad_cons (ed_or' (ed_inS ed_str (ed_var 0)) fun hb => (ed_one (ed_inS ed_str (ed_var 0)))) ad_nil))))) (bd_one (sd_ret (ed_le (ed_countD (room65 hr) (ed_var 1) ed_bl) ed_int) (rfl))), .inl rfl⟩
def R_rights_in : List PyData → PyData → Prop := fun ds d => ∃ b : Int, ds = [.int b] ∧ d = .str (rightsM (b / 4294967296 % 512))
def rtP (b : Int) : PyData → Bool
  | .tuple [.int i, _] => decide (b / 2 ^ (32 + i).toNat % 2 = 1)
  | _ => false
def rtO : PyData → PyData
  | .tuple [_, y] => y
  | _ => .none
def rtT (b : Int) : PyData → Dl
  | .tuple [i, y] => [some (.int b), some i, some y]
  | _ => []
theorem rt_map (b : Int) : PyData.list (((rsgn.map fun p => PyData.tuple [.int (p.1 : Nat), .str p.2]).filter (rtP b)).map rtO) = .list ((rightsL (b / 4294967296 % 512)).map .str) := by
  rw [List.filter_map, List.map_map]
  unfold rightsL
  rw [List.map_map]
  have e : ∀ l : List (Nat × Str), (∀ p ∈ l, p.1 ≤ 8) → List.filter (rtP b ∘ fun p => PyData.tuple [.int (p.1 : Nat), .str p.2]) l = List.filter (fun p => decide (b / 4294967296 % 512 / 2 ^ p.1 % 2 = 1)) l := by
    intro l hl
    refine List.filter_congr fun p hp => ?_
    show decide (b / 2 ^ ((32 : Int) + (p.1 : Nat)).toNat % 2 = 1) = _
    have e1 : ((32 : Int) + (p.1 : Nat)).toNat = 32 + p.1 := by omega
    rw [e1, bit_of b p.1 (hl p hp)]
  rw [e rsgn rsgn_le]
  rfl
theorem rt_join (m : Int) : ((rightsL m).map (·.length)).sum + (rightsL m).length * Str.length "" ≤ 16777216 := by
  unfold rightsL
  have h : ∀ l : List (Nat × Str), (∀ p ∈ l, p.2.length = 1) → ((l.map (·.2)).map (·.length)).sum = l.length := by
    intro l
    induction l with
    | nil => intro _; rfl
    | cons a l ih => intro h; rw [List.map_cons, List.map_cons, List.sum_cons, h a List.mem_cons_self, ih fun y hy => h y (List.mem_cons_of_mem _ hy), List.length_cons]; omega
  have r1 : ∀ p ∈ rsgn, p.2.length = 1 := by decide +kernel
  rw [h _ fun p hp => r1 p (List.mem_filter.mp hp).1, List.length_map]
  have h1 := List.length_filter_le (fun p : Nat × Str => decide (m / 2 ^ p.1 % 2 = 1)) rsgn
  have h2 : rsgn.length = 9 := rfl
  have h3 : Str.length "" = 0 := rfl
  rw [h3]
  omega
theorem sc_rights_in : FnScope ["bits", "place", "right"] ["bits"] (defScope t_rights_in) := ⟨rfl, rfl, rfl, by decide +kernel, rfl, by decide +kernel, by decide +kernel⟩
theorem pf_rights_in (T : Tx P w K mg base) : PF P w K mg base 1 "rights_in" R_rights_in := by
  refine pf_of (N := ["bits", "place", "right"]) (ps := ["bits"]) (n := 2) (k := 0) (fd_rights_in T) sc_rights_in (gl_rights_in T) rfl (fun ds d h => by obtain ⟨b, rfl, rfl⟩ := h; rfl) (fun _ _ _ _ _ _ us hl => match us, hl with | [_], _ => rfl) ?_
  intro f cdv A outer s H E hr ds d h
  obtain ⟨b, rfl, rfl⟩ := h
  refine ⟨.rt _, bd_one (sd_ret (ed_join ed_str (ed_is (ed_lc (own := [("place", 1), ("right", 2)]) (p := rtP b) (out := rtO) (rtT b) rfl sc_rights_in.nd (id_is (id_enumS (fr_enumerate T) (ed_glob (c_RIGHTS T))) enumS_rights) (blkOk_by (by rfl)) (fun _ _ _ _ _ => pg_tup rfl (pgs_cons (pg_name sc_rights_in.nd rfl (.inl rfl) (.inr rfl)) (pgs_cons (pg_name sc_rights_in.nd rfl (.inl rfl) (.inr rfl)) pgs_nil))) (fun d hd => by obtain ⟨p, hp, rfl⟩ := List.mem_map.mp hd; exact gw_pair 1 2 (by decide)) (fun _ _ _ _ _ => pts_one (pt_cmpR op_eq (pe_op op_andM (pe_op op_shr (pv 0) (pe_op op_add pe_int (pv 1))) pe_int) pe_int (nomark _))) (fun d hd => by obtain ⟨p, hp, rfl⟩ := List.mem_map.mp hd; exact gt_test' (ge_op' (ge_op' (ge_op' (ge_var rfl) (ge_op' (ge_c fun _ => .int _) (ge_var rfl) (rd_I0' fun _ => .int _)) (rd_I' (by show (0 : Int) ≤ 32 + (p.1 : Nat); omega) fun _ => .int _)) (ge_c fun _ => .int _) (rd_andM (k := 1) (m := 2) rfl rfl)) (ge_c fun _ => .int _) rd_eqI)) (fun _ _ _ _ _ => pv 2) (fun d hd hp => by obtain ⟨p, hp, rfl⟩ := List.mem_map.mp hd; exact ge_var rfl) (fun d hd hp => by obtain ⟨p, hp, rfl⟩ := List.mem_map.mp hd; rfl) (by decide +kernel)) (rt_map b)) (rt_join _)) (rfl)), .inl rfl⟩
end
end Sr

set_option Elab.async false
set_option linter.all false
set_option maxRecDepth 100000
set_option maxHeartbeats 4000000
/-! Words: fields. -/
namespace Sr
open PySem PySem.Spec PyProof.Rows L2
open Evl (Ex)
theorem rt_lawful (r : Rt) : lawfulS r.s = true := by cases r <;> decide +kernel
theorem rt_rgt (r : Rt) : rgt r.s = r.s := by cases r <;> decide +kernel
theorem rt_size (r : Rt) : r.s.cps.size ≤ 1000 := by cases r <;> decide +kernel
def rix : PyData → Int
  | .str y => match Builtin.Str.occurrences "rwlsnfxco" y 0 (Str.length "rwlsnfxco") 1 with
    | i :: _ => (i : Nat)
    | [] => 0
  | _ => 0
def rix2 (d : PyData) : PyData := .int (2 ^ ((32 : Int) + rix d).toNat)
theorem rix_ok (r : Rt) : ∀ d ∈ signs r.s, ∃ (y : Str) (i : Nat) (rest : List Nat), d = .str y ∧ Builtin.Str.occurrences "rwlsnfxco" y 0 (Str.length "rwlsnfxco") 1 = i :: rest ∧ i ≤ 8 := by
  intro d hd
  obtain ⟨y, hy, rfl⟩ := mem_signs hd
  have h : ((chars r.s).all fun y => match Builtin.Str.occurrences "rwlsnfxco" y 0 (Str.length "rwlsnfxco") 1 with
    | i :: _ => decide (i ≤ 8)
    | [] => false) = true := by cases r <;> decide +kernel
  have h1 := List.all_eq_true.mp h y hy
  split at h1
  · rename_i i rest e
    exact ⟨y, i, rest, rfl, e, of_decide_eq_true h1⟩
  · cases h1
def rixs (r : Rt) : List Int := (chars r.s).map fun y => 2 ^ ((32 : Int) + rix (.str y)).toNat
theorem rix_map (r : Rt) : PyData.list (((signs r.s).filter fun _ => true).map rix2) = .list ((rixs r).map .int) := by
  rw [List.filter_eq_self.mpr (fun _ _ => rfl), signs_eq, List.map_map]
  unfold rixs
  rw [List.map_map]
  rfl
theorem rix_sum (r : Rt) : (rixs r).sum = r.m * 4294967296 := by cases r <;> decide +kernel
theorem eqv_ii (a b : Int) : PyData.eqv (.tuple [.int a, .int b]) (.tuple [.int a, .int b]) = true := by
  simp [PyData.eqv, PyData.eqvAll]
section
variable {P : Program} {w : World} {K : PySem.W.Frag} {mg : Str → Option Value} {base : Heap}
def R_fields_of : List PyData → PyData → Prop := fun ds d => ∃ (t : Bool) (b : Int), ds = [W t b] ∧ d = fieldsD b
theorem bstep_cast (b : Int) : bStep b = (((bStep b).toNat : Nat) : Int) := by unfold bStep; omega
theorem call_bits (b : Int) : R_from_bits [.int (bStep b), .int (bFirst b), .int (bCount b)] (.tuple [.int (bLow b), .int (bHigh b)]) :=
  ⟨(bStep b).toNat, bFirst b, bCount b, by rw [← bstep_cast], by unfold bStep; omega, by unfold bFirst; omega, by unfold bCount; omega, rfl⟩
theorem sc_fields_of : FnScope ["word", "bits", "first", "count", "step", "low", "high"] ["word"] (defScope t_fields_of) := ⟨rfl, rfl, rfl, by decide +kernel, rfl, by decide +kernel, by decide +kernel⟩
theorem pf_fields_of (T : Tx P w K mg base) : PF P w K mg base 2 "fields_of" R_fields_of := by
  refine pf_of (N := ["word", "bits", "first", "count", "step", "low", "high"]) (ps := ["word"]) (n := 6) (k := 1) (fd_fields_of T) sc_fields_of (gl_fields_of T) rfl (fun ds d h => by obtain ⟨t, b, rfl, rfl⟩ := h; rfl) (fun _ _ _ _ _ _ us hl => match us, hl with | [_], _ => rfl) ?_
  intro f cdv A outer s H E hr ds d h
  obtain ⟨t, b, rfl, rfl⟩ := h
  refine ⟨.rt (fieldsD b), bd_cons (sd_set 1 sc_fields_of.nd (ed_ixT (ed_var 0) ed_int)) (bd_cons (sd_par3 2 3 4 rfl sc_fields_of.nd (ad_cons (ed_andc (m := 4096) 12 (by decide) (by decide) (ed_shrc (m := 4096) (by decide) (by decide) (ed_var 1))) (ad_cons (ed_add (ed_andc (m := 16) 4 (by decide) (by decide) (ed_shrc (m := 16777216) (by decide) (by decide) (ed_var 1))) ed_int) (ad_cons (ed_andc (m := 16) 4 (by decide) (by decide) (ed_shrc (m := 268435456) (by decide) (by decide) (ed_var 1))) ad_nil)))) (bd_ifx (p := !tells b) (td_is (WD.t (wd_or (td_gt (ed_var 4) (ed_glob (c_MOST_STEP T))) fun hb => (wd_or (WD.t (wd_and (td_gt (ed_var 4) ed_int) fun hb => (wd_and1 (td_le (ed_var 3) (ed_fdiv (ed_glob (c_MOST_COUNT T)) ed_int ?_))))) fun hb => (wd_or1 (td_gt (ed_shl (ed_add (ed_var 2) (ed_var 3)) (ed_var 4) ?_) (ed_glob (c_CELLS T))))))) ?_) (fun _ h => nomatch h) (fun h => bd_one (sd_ret ed_non ?_)) fun h => bd_cons (sd_asg (ed_call (pf_from_bits T) (hr.mono (by decide)) (ad_cons (ed_var 4) (ad_cons (ed_var 2) (ad_cons (ed_var 3) ad_nil))) (call_bits b)) (gd_tup rfl (gds_cons (gd_name 5 sc_fields_of.nd) (gds_cons (gd_name 6 sc_fields_of.nd) gds_nil)))) (bd_one (sd_ret (ed_tup (ad_cons (ed_var 5) (ad_cons (ed_var 6) (ad_cons (ed_mod (ed_var 1) (ed_glob (c_CELLS T)) (by decide)) (ad_cons (ed_call (pf_rights_in T) (hr.mono (by decide)) (ad_cons (ed_var 1) ad_nil) (⟨b, rfl, rfl⟩)) (ad_cons (ed_shrc (m := 2199023255552) (by decide) (by decide) (ed_var 1)) ad_nil)))))) ?_)))), .inl rfl⟩
  · exact ⟨by decide, by decide⟩
  · exact ⟨by omega, by omega, by omega⟩
  · unfold tells bStep bCount bFirst
    rw [Bool.not_not]
    rfl
  · unfold fieldsD
    rw [if_neg (by rw [Bool.not_eq_true'] at h; rw [h]; exact Bool.false_ne_true)]
  · unfold fieldsD
    rw [if_pos (by rw [Bool.not_eq_false'] at h; exact h)]
def R_is_lawful : List PyData → PyData → Prop := fun ds d => ∃ (l h a k : Int) (r : Rt), Fl l h a r.m k ∧ ds = [W true (mk l h a r.m k)] ∧ d = .bool true
theorem sc_is_lawful : FnScope ["thing", "fields"] ["thing"] (defScope t_is_lawful) := ⟨rfl, rfl, rfl, by decide +kernel, rfl, by decide +kernel, by decide +kernel⟩
theorem pf_is_lawful (T : Tx P w K mg base) : PF P w K mg base 3 "is_lawful" R_is_lawful := by
  refine pf_of (N := ["thing", "fields"]) (ps := ["thing"]) (n := 1) (k := 2) (fd_is_lawful T) sc_is_lawful (gl_is_lawful T) rfl (fun ds d h => by obtain ⟨l, h, a, k, r, F, rfl, rfl⟩ := h; rfl) (fun _ _ _ _ _ _ us hl => match us, hl with | [_], _ => rfl) ?_
  intro f cdv A outer s H E hr ds d h
  obtain ⟨l, h, a, k, r, F, rfl, rfl⟩ := h
  obtain ⟨m0, m1, _, _, _, _, _, _⟩ := mk_told F
  refine ⟨.rt _, bd_ifx (p := false) (td_is (td_not (td_val (ed_call (pf_is_word T) (hr.mono (by decide)) (ad_cons (ed_var 0) ad_nil) (⟨_, _, rfl, rfl⟩)))) ?_) (fun _ h => nomatch h) (fun h => Bool.noConfusion h) fun _ => bd_cons (sd_set 1 sc_is_lawful.nd (ed_call (pf_fields_of T) (hr.mono (by decide)) (ad_cons (ed_var 0) ad_nil) (⟨_, _, rfl, (fieldsD_mk F).symm⟩))) (bd_one (sd_ret (ed_or' (ed_not (ed_ixT (ed_var 0) ed_int)) fun hb => (ed_one (ed_and' (ed_notN (ed_var 1)) fun hb => (ed_one (ed_call (pf_are_lawful T) (hr.mono (by decide)) (ad_cons (ed_ixT (ed_var 1) ed_int) ad_nil) (⟨_, rfl, rt_size r, rfl⟩)))))) ?_)), .inl rfl⟩
  · simp only [m0, decide_true, Bool.true_and, Bool.not_eq_false', decide_eq_true_eq]; exact m1
  · rw [rt_lawful]; rfl
def FT (l h a : Int) (r : Rt) (k : Int) : PyData := .tuple [.int l, .int h, .int a, .str r.s, .int k]
def R_are_fields : List PyData → PyData → Prop := fun ds d => ∃ (l h a k : Int) (r : Rt), Fl l h a r.m k ∧ ds = [FT l h a r k] ∧ d = .bool true
theorem sc_are_fields : FnScope ["thing", "low", "high", "at", "rights", "kind", "place"] ["thing"] (defScope t_are_fields) := ⟨rfl, rfl, rfl, by decide +kernel, rfl, by decide +kernel, by decide +kernel⟩
theorem pf_are_fields (T : Tx P w K mg base) : PF P w K mg base 3 "are_fields" R_are_fields := by
  refine pf_of (N := ["thing", "low", "high", "at", "rights", "kind", "place"]) (ps := ["thing"]) (n := 6) (k := 2) (fd_are_fields T) sc_are_fields (gl_are_fields T) rfl (fun ds d h => by obtain ⟨l, h, a, k, r, F, rfl, rfl⟩ := h; rfl) (fun _ _ _ _ _ _ us hl => match us, hl with | [_], _ => rfl) ?_
  intro f cdv A outer s H E hr ds d h
  obtain ⟨l, h, a, k, r, F, rfl, rfl⟩ := h
  obtain ⟨⟨h0, h1, h2, e1, e2⟩, a0, a1, _, _, k0, k1⟩ := F
  obtain ⟨tm, q1, q2⟩ := pf_blk (hr.mono (by decide : 1 ≤ 2)) (pf_is_whole T)
  refine ⟨.rt _, bd_ifx (p := false) (td_is (WD.t (wd_or (td_not (td_val (ed_isi (fr_isinstance T) (fr_tuple T) bt_tuple (ed_var 0) (kit_tuple _)))) fun hb => (wd_or (td_neI (ed_len (fr_len T) (ed_var 0) (by first | exact .inl rfl | exact .inr rfl)) ed_int) fun hb => (wd_or1 (td_not (td_val (ed_all rfl (fr_all T) (ed_is (d1 := .list (([true, true, true, true] : List Bool).map .bool)) (ed_lc (te := tm (tCons (tOp (rIxT K) (tVar 0) (tVar 6)) tNil)) (own := [("place", 6)]) (p := fun _ => true) (out := fun _ => .bool true) (fun d => [some (FT l h a r k), none, none, none, none, none, some d]) rfl sc_are_fields.nd (id_tup (ed_tup (ad_cons ed_int (ad_cons ed_int (ad_cons ed_int (ad_cons ed_int ad_nil)))))) (blkOk_by (by rfl)) (fun _ _ _ _ _ => pg_name sc_are_fields.nd rfl (.inl rfl)) (fun d hd => gw_name 6) (fun _ _ _ _ _ => pts_nil) (fun d hd σ H s Q q => q H (Ex.refl H)) (fun _ _ _ _ _ => q1 _ _ _ _ _ _ _ _ _ _ rfl (pa_cons (pe_ix ix_tup (pv 0) (pv 6) (fun _ _ => rfl)) pa_nil) (by decide) rfl rfl) (fun d hd hp => ?_) (fun d hd hp => rfl) (by decide +kernel)) rfl)))))))) rfl) (fun _ h => nomatch h) (fun h => Bool.noConfusion h) fun _ => bd_cons (sd_asg (ed_var 0) (gd_tup rfl (gds_cons (gd_name 1 sc_are_fields.nd) (gds_cons (gd_name 2 sc_are_fields.nd) (gds_cons (gd_name 3 sc_are_fields.nd) (gds_cons (gd_name 4 sc_are_fields.nd) (gds_cons (gd_name 5 sc_are_fields.nd) gds_nil))))))) (bd_ifx (p := false) (td_is (WD.t (wd_or (td_not (td_ch3ete ed_int (ed_var 1) (ed_var 2) (ed_glob (c_CELLS T)))) fun hb => (wd_or (td_not (td_ch2et ed_int (ed_var 3) (ed_glob (c_CELLS T)))) fun hb => (wd_or1 (td_not (td_ch2et ed_int (ed_var 5) (ed_glob (c_KINDS T)))))))) ?_) (fun _ h => nomatch h) (fun h => Bool.noConfusion h) fun _ => bd_one (sd_ret (ed_and' (ed_call (pf_is_rights T) (hr.mono (by decide)) (ad_cons (ed_var 4) ad_nil) (⟨_, rfl, rfl⟩)) fun hb => (ed_and' (ed_call (pf_are_lawful T) (hr.mono (by decide)) (ad_cons (ed_var 4) ad_nil) (⟨_, rfl, rt_size r, rfl⟩)) fun hb => (ed_one (ed_eq hr.units (ed_call (pf_least_held T) (hr.mono (by decide)) (ad_cons (ed_var 1) (ad_cons (ed_var 2) ad_nil)) (⟨l, h, rfl, h0, h1, h2, rfl⟩)) (ed_tup (ad_cons (ed_var 1) (ad_cons (ed_var 2) ad_nil))))))) ?_)), .inl rfl⟩
  · simp only [List.mem_cons, List.not_mem_nil, or_false] at hd
    rcases hd with rfl | rfl | rfl | rfl
    · exact q2 _ [.int l] _ _ (ga_cons (ge_op' (ge_var rfl) (ge_var rfl) (rd_ixT rfl)) ga_nil) ⟨_, rfl, rfl⟩
    · exact q2 _ [.int h] _ _ (ga_cons (ge_op' (ge_var rfl) (ge_var rfl) (rd_ixT rfl)) ga_nil) ⟨_, rfl, rfl⟩
    · exact q2 _ [.int a] _ _ (ga_cons (ge_op' (ge_var rfl) (ge_var rfl) (rd_ixT rfl)) ga_nil) ⟨_, rfl, rfl⟩
    · exact q2 _ [.int k] _ _ (ga_cons (ge_op' (ge_var rfl) (ge_var rfl) (rd_ixT rfl)) ga_nil) ⟨_, rfl, rfl⟩
  · simp [h0, h1, h2, a0, a1, k0, k1]
  · have e3 : heldL l h = l := e1
    have e4 : heldH l h = h := e2
    rw [rt_lawful, rt_rgt, e3, e4, eqv_ii]
    simp
theorem sc_word_of : FnScope ["fields", "marked", "low", "high", "at", "rights", "kind", "step", "first", "count", "bits", "right"] ["fields", "marked"] (defScope t_word_of) := ⟨rfl, rfl, rfl, by decide +kernel, rfl, by decide +kernel, by decide +kernel⟩
def R_word_of' : List PyData → PyData → Prop := fun ds d => ∃ (l h a k : Int) (r : Rt), Fl l h a r.m k ∧ ds = [FT l h a r k, .bool true] ∧ d = W true (mk l h a r.m k)
def R_word_of : List PyData → PyData → Prop := fun ds d => ∃ (l h a k : Int) (r : Rt), Fl l h a r.m k ∧ ds = [FT l h a r k] ∧ d = W true (mk l h a r.m k)
def tRix (K : PySem.W.Frag) : TE := tOp (rI CPow fun i j => .int (i * 2 ^ j.toNat)) (tC (.int 1)) (tOp (rI0 fun i j => .int (i + j)) (tC (.int 32)) (tBM K "str" (fun x xs H Q => ∃ a b i rest, x = .str a ∧ xs = [.str b] ∧ Builtin.Str.occurrences a b 0 a.length 1 = i :: rest ∧ Q (.int (i : Nat)) H) (tC (.str "rwlsnfxco")) (tCons (tVar 11) tNil)))
theorem pf_word_of (T : Tx P w K mg base) : PF P w K mg base 4 "word_of" R_word_of := by
  refine pf_of_kw (N := ["fields", "marked", "low", "high", "at", "rights", "kind", "step", "first", "count", "bits", "right"]) (ps := ["fields", "marked"]) (n := 10) (k := 3) (m := 1) (es := [.bool true]) (R' := R_word_of') (fd_word_of T) sc_word_of (gl_word_of T) rfl (fun ds d h => by obtain ⟨l, h, a, k, r, F, rfl, rfl⟩ := h; rfl) (by simp) rfl (fun _ _ _ _ _ _ us ks hl hk => match us, hl, ks, hk with | [_], _, [_], _ => ⟨_, _, _, _, _, _, rfl, rfl, rfl⟩) (fun H => .cons (.bl _) .nil) (fun ds d h => by obtain ⟨l, h, a, k, r, F, rfl, rfl⟩ := h; exact ⟨l, h, a, k, r, F, rfl, rfl⟩) ?_
  intro f cdv A outer s H E hr ds d h'
  obtain ⟨l, h, a, k, r, F, rfl, rfl⟩ := h'
  have F0 := F
  obtain ⟨⟨h0, h1, h2, e1, e2⟩, a0, a1, _, _, k0, k1⟩ := F
  have s8 := stepOf_le l h
  have c16 := stepOf_at h0 h2
  have c1 := cnt_pos (stepOf l h) s8 h1
  have f0 := div_small (stepOf l h) h0 (by omega)
  obtain ⟨tg, hg⟩ := glb_str (c_RIGHTS T)
  refine ⟨.rt _, bd_ifx (p := false) (td_is (td_not (td_val (ed_call (pf_are_fields T) (hr.mono (by decide)) (ad_cons (ed_var 0) ad_nil) (⟨_, _, _, _, _, F0, rfl, rfl⟩)))) rfl) (fun _ h => nomatch h) (fun h => Bool.noConfusion h) fun _ => bd_cons (sd_asg (ed_var 0) (gd_tup rfl (gds_cons (gd_name 2 sc_word_of.nd) (gds_cons (gd_name 3 sc_word_of.nd) (gds_cons (gd_name 4 sc_word_of.nd) (gds_cons (gd_name 5 sc_word_of.nd) (gds_cons (gd_name 6 sc_word_of.nd) gds_nil))))))) (bd_cons (sd_asg (ed_call (pf_least_in_bits T) (hr.mono (by decide)) (ad_cons (ed_var 2) (ad_cons (ed_var 3) ad_nil)) (⟨l, h, rfl, h0, h1, h2, rfl⟩)) (gd_tup rfl (gds_cons (gd_name 7 sc_word_of.nd) (gds_cons (gd_name 8 sc_word_of.nd) (gds_cons (gd_name 9 sc_word_of.nd) gds_nil))))) (bd_cons (sd_set 10 sc_word_of.nd (ed_add (ed_add (ed_add (ed_add (ed_var 4) (ed_shlc (m := 4096) (by decide) (by decide) (ed_var 8) ?_)) (ed_shlc (m := 16777216) (by decide) (by decide) (ed_sub (ed_var 9) ed_int) ?_)) (ed_shlc (m := 268435456) (by decide) (by decide) (ed_var 7) ?_)) (ed_shlc (m := 2199023255552) (by decide) (by decide) (ed_var 6) ?_))) (bd_one (sd_ret (ed_tup (ad_cons (ed_var 1) (ad_cons (ed_add (ed_var 10) (ed_sum rfl (fr_sum T) (ed_is (ed_lc (te := tRix K) (own := [("right", 11)]) (p := fun _ => true) (out := rix2) (fun d => [some (FT l h a r k), some (.bool true), some (.int l), some (.int h), some (.int a), some (.str r.s), some (.int k), some (.int (stepOf l h : Nat)), some (.int (l / 2 ^ stepOf l h)), some (.int (cnt l h (stepOf l h))), _, some d]) rfl sc_word_of.nd (id_str (ed_var 5)) (blkOk_by (by rfl)) (fun _ _ _ _ _ => pg_name sc_word_of.nd rfl (.inl rfl)) (fun d hd => gw_name 11) (fun _ _ _ _ _ => pts_nil) (fun d hd σ H s Q q => q H (Ex.refl H)) (fun _ _ _ _ _ => pe_op op_shl pe_int (pe_op op_add pe_int (pe_bm PySem.F.plainAttrs_str PySem.F.slot_str_index PySem.F.type_str_index mt_sindex (pe_glob (v := .str "rwlsnfxco") rfl hg ⟨_, rfl⟩) (pa_cons (pv 11) pa_nil)))) ?_ (fun d hd hp => rfl) ?_) (rix_map r)))) ad_nil))) ?_)))), .inl rfl⟩
  · omega
  · omega
  · omega
  · omega
  · intro d hd _
    obtain ⟨y, i, rest, rfl, ho, hi⟩ := rix_ok r d hd
    have hx : rix (.str y) = (i : Nat) := by unfold rix; simp only [ho]
    refine ge_op' (d2 := .int (32 + (i : Nat))) (ge_c fun _ => .int 1) (ge_op' (d2 := .int (i : Nat)) (ge_c fun _ => .int 32) ?_ (rd_I0' fun _ => .int _)) (rd_I' ⟨by omega, by omega, by decide⟩ fun _ => by
      unfold rix2
      rw [hx, Int.one_mul]
      exact .int _)
    intro σ H s Q q
    refine ⟨rfl, (ga_cons (d := .str y) (ge_var rfl) ga_nil) σ H s _ fun vs H1 e1 r1 => ?_⟩
    cases r1 with
    | cons r1 rs =>
      cases rs
      rw [dp_str r1]
      exact ⟨_, y, i, rest, rfl, rfl, ho, q _ H1 e1 (.int _)⟩
  · rw [signs_eq, List.length_map]
    unfold chars
    rw [List.length_map, Array.length_toList]
    exact Nat.lt_of_le_of_lt (rt_size r) (by decide +kernel)
  · rw [rix_sum]
    show W true _ = W true _
    unfold mk
    rfl
end
end Sr

set_option Elab.async false
set_option linter.all false
set_option maxRecDepth 100000
set_option maxHeartbeats 4000000
/-! The words that are come by. -/
namespace Sr
open PySem PySem.Spec PyProof.Rows L2
inductive Wv where
  | pl (b : Int)
  | mk (l h a k : Int) (r : Rt)
def Wv.b : Wv → Int
  | .pl b => b
  | .mk l h a k r => Sr.mk l h a r.m k
def Wv.t : Wv → Bool
  | .pl _ => false
  | .mk _ _ _ _ _ => true
def Wv.d (w : Wv) : PyData := W w.t w.b
def Wv.Ok : Wv → Prop
  | .pl b => 0 ≤ b ∧ b < 35184372088832
  | .mk l h a k r => Fl l h a r.m k
/-- the rights a box's word may have -/
def Rt.mild : Rt → Bool
  | .fx => true
  | .f => true
  | .no => true
  | _ => false
def Wv.mild : Wv → Bool
  | .pl _ => true
  | .mk _ _ _ _ r => r.mild
def Wv.isOpen : Wv → Bool
  | .pl _ => false
  | .mk _ _ _ k _ => decide (k = 0)
def Wv.bare (w : Wv) : Wv := .pl w.b
theorem Wv.Ok.range {w : Wv} (h : w.Ok) : 0 ≤ w.b ∧ w.b < 35184372088832 := by
  cases w with
  | pl b => exact h
  | mk l h' a k r => exact ⟨(mk_told h).1, (mk_told h).2.1⟩
theorem Wv.Ok.bare {w : Wv} (h : w.Ok) : w.bare.Ok := h.range
def Wv.walk (w : Wv) (n : Int) : Wv := match w with
  | .pl b => .pl (b - b % 4096 + (b + n) % 4096)
  | .mk l h a k r => if k = 0 then .mk l h ((a + n) % 4096) 0 r else .pl (Sr.mk l h a r.m k)
theorem mk_walk {l h a k n : Int} {r : Rt} (F : Fl l h a r.m k) : Sr.mk l h a r.m k - Sr.mk l h a r.m k % 4096 + (Sr.mk l h a r.m k + n) % 4096 = Sr.mk l h ((a + n) % 4096) r.m k := by
  have e := (mk_told F).2.2.2.2.2.1
  have e2 : (Sr.mk l h a r.m k + n) % 4096 = (a + n) % 4096 := by omega
  rw [e2, e]
  unfold Sr.mk
  omega
theorem Fl.at_ {l h a m k a' : Int} (F : Fl l h a m k) (h0 : 0 ≤ a') (h1 : a' < 4096) : Fl l h a' m k := ⟨F.ex, h0, h1, F.m0, F.m1, F.k0, F.k1⟩
theorem Fl.kind {l h a m k k' : Int} (F : Fl l h a m k) (h0 : 0 ≤ k') (h1 : k' < 16) : Fl l h a m k' := ⟨F.ex, F.a0, F.a1, F.m0, F.m1, h0, h1⟩
theorem Fl.rts {l h a m k : Int} (F : Fl l h a m k) (r : Rt) : Fl l h a r.m k := ⟨F.ex, F.a0, F.a1, r.m_lt.1, r.m_lt.2, F.k0, F.k1⟩
theorem Fl.bnds {l h a m k l' h' : Int} (F : Fl l h a m k) (e : Exact l' h') : Fl l' h' a m k := ⟨e, F.a0, F.a1, F.m0, F.m1, F.k0, F.k1⟩
theorem Wv.Ok.walk {w : Wv} (h : w.Ok) (n : Int) : (w.walk n).Ok := by
  cases w with
  | pl b =>
    obtain ⟨h0, h1⟩ := h
    show 0 ≤ b - b % 4096 + (b + n) % 4096 ∧ b - b % 4096 + (b + n) % 4096 < 35184372088832
    omega
  | mk l h' a k r =>
    show Wv.Ok (if k = 0 then _ else _)
    have F : Fl l h' a r.m k := h
    split
    · rename_i hk
      subst hk
      exact F.at_ (by omega) (by omega)
    · exact Wv.Ok.range (w := .mk l h' a k r) h
theorem Wv.walk_mild {w : Wv} (h : w.mild = true) (n : Int) : (w.walk n).mild = true := by
  cases w with
  | pl b => rfl
  | mk l h' a k r =>
    show Wv.mild (if k = 0 then _ else _) = true
    split
    · exact h
    · rfl
def narB (l h a n : Int) (ex : Bool) : Bool := (decide (heldL a (a + n) < l) || (decide (h < heldH a (a + n)) || ex && !(PyData.tuple [PyData.int (heldL a (a + n)), PyData.int (heldH a (a + n))]).eqv (PyData.tuple [PyData.int a, PyData.int (a + n)])))
def narA (a n : Int) : Bool := decide (n < 1) || decide (4096 < a + n)
def Wv.narrow (w : Wv) (n : Int) (ex : Bool) : Wv := match w with
  | .pl b => .pl b
  | .mk l h a k r => if k = 0 then if narA a n = true then .pl (Sr.mk l h a r.m k) else if narB l h a n ex = true then .pl (Sr.mk l h a r.m k) else .mk (heldL a (a + n)) (heldH a (a + n)) a k r else .pl (Sr.mk l h a r.m k)
theorem narA_no {a n : Int} (h : narA a n = false) : a < a + n ∧ a + n ≤ 4096 := by
  unfold narA at h
  simp only [Bool.or_eq_false_iff, decide_eq_false_iff_not] at h
  omega
theorem Wv.Ok.narrow {w : Wv} (h : w.Ok) (n : Int) (ex : Bool) : (w.narrow n ex).Ok := by
  cases w with
  | pl b => exact h
  | mk l h' a k r =>
    have F : Fl l h' a r.m k := h
    have R := Wv.Ok.range (w := .mk l h' a k r) h
    show Wv.Ok (if _ then if _ then _ else if _ then _ else _ else _)
    split
    · split
      · exact R
      · split
        · exact R
        · rename_i _ c1 _
          obtain ⟨c2, c3⟩ := narA_no (eq_false_of_ne_true c1)
          exact F.bnds (exact_held F.a0 c2 c3)
    · exact R
theorem Wv.narrow_mild {w : Wv} (h : w.mild = true) (n : Int) (ex : Bool) : (w.narrow n ex).mild = true := by
  cases w with
  | pl b => rfl
  | mk l h' a k r =>
    show Wv.mild (if _ then if _ then _ else if _ then _ else _ else _) = true
    repeat' split
    all_goals first | rfl | exact h
/-- rights that are kept of mild ones -/
def lessT (r : Rt) (y : Str) : Rt := match r with
  | .fx => if inS "x" y then .fx else if inS "f" y then .f else .no
  | .f => if inS "f" y then .f else .no
  | _ => .no
def lessMenu : List Str := ["", "r", "rw", "rwlsf", "fx", "rf", "fco"]
theorem less_join : ∀ r : Rt, r.mild = true → ∀ y ∈ lessMenu, Txt.join "" ((chars r.s).filter fun z => inS z y) = (lessT r y).s := by
  intro r hr
  cases r <;> first | (exact (by decide +kernel)) | cases hr
theorem lessT_mild (r : Rt) (y : Str) : (lessT r y).mild = true := by
  unfold lessT
  split <;> (repeat' split) <;> rfl
def Wv.less (w : Wv) (y : Str) : Wv := match w with
  | .pl b => .pl b
  | .mk l h a k r => if k = 0 then .mk l h a k (lessT r y) else .pl (Sr.mk l h a r.m k)
theorem Wv.Ok.less {w : Wv} (h : w.Ok) (y : Str) : (w.less y).Ok := by
  cases w with
  | pl b => exact h
  | mk l h' a k r =>
    show Wv.Ok (if _ then _ else _)
    split
    · exact Fl.rts h _
    · exact Wv.Ok.range (w := .mk l h' a k r) h
theorem Wv.less_mild {w : Wv} (y : Str) : (w.less y).mild = true := by
  cases w with
  | pl b => rfl
  | mk l h' a k r =>
    show Wv.mild (if _ then _ else _) = true
    split
    · exact lessT_mild _ _
    · rfl
def Wv.entry (w : Wv) : Wv := match w with
  | .pl b => .pl b
  | .mk l h a k r => if k = 0 ∧ r = .fx then .mk l h a 1 r else .pl (Sr.mk l h a r.m k)
theorem Wv.Ok.entry {w : Wv} (h : w.Ok) : w.entry.Ok := by
  cases w with
  | pl b => exact h
  | mk l h' a k r =>
    show Wv.Ok (if _ then _ else _)
    split
    · exact Fl.kind h (by decide) (by decide)
    · exact Wv.Ok.range (w := .mk l h' a k r) h
theorem Wv.entry_mild {w : Wv} (h : w.mild = true) : w.entry.mild = true := by
  cases w with
  | pl b => rfl
  | mk l h' a k r =>
    show Wv.mild (if _ then _ else _) = true
    split
    · exact h
    · rfl
theorem has_x : ∀ r : Rt, r.mild = true → inS "x" r.s = decide (r = .fx) := by
  intro r hr
  cases r <;> first | (exact (by decide +kernel)) | cases hr
theorem no_right : ∀ r : Rt, r.mild = true → ∀ y ∈ ([("r" : Str), "w", "c", "o"] : List Str), inS y r.s = false := by
  intro r hr
  cases r <;> first | (exact (by decide +kernel)) | cases hr
def doneN (x : Str) (i j : Int) : Int := if x = "plus" then i + j else if x = "minus" then i - j else if x = "times" then i * j else if x = "and" then Builtin.bitAnd i j else if x = "or" then Builtin.bitOr i j else Builtin.bitXor i j
def askedN (x : Str) (w : Wv) : Int :=
  if x = "mark" then (if w.t then 1 else 0) else if x = "bits" then w.b else if x = "at" then w.b % 4096 else if x = "low" then (if tells w.b then bLow w.b else 0) else if x = "high" then (if tells w.b then bHigh w.b else 0)
  else if x = "rights" then w.b / 4294967296 % 512 else w.b / 2199023255552
def soB (x : Str) (i j : Int) : Bool := if x = "same" then decide (i = j) else if x = "unlike" then !decide (i = j) else if x = "under" then decide (i < j) else decide (j ≤ i)
end Sr

set_option Elab.async false
set_option linter.all false
set_option maxRecDepth 100000
set_option maxHeartbeats 4000000
/-! Asking and lesser. -/
namespace Sr
open PySem PySem.Spec PyProof.Rows L2
open Evl (Ex)
theorem no_fields {ds : List PyData} (h : false = true) : R_fields_of ds (.tuple [.int 0, .int 0, .int 0, .str "", .int 0]) := nomatch h
theorem mk_fields {l h a k : Int} {r : Rt} (F : Fl l h a r.m k) : R_fields_of [(Wv.mk l h a k r).d] (.tuple [.int l, .int h, .int a, .str r.s, .int k]) := ⟨true, _, rfl, (fieldsD_mk F).symm⟩
section
variable {P : Program} {w : World} {K : PySem.W.Frag} {mg : Str → Option Value} {base : Heap}
def R_number_done : List PyData → PyData → Prop := fun ds d => ∃ (x : Str) (i j : Int), ds = [.str x, .int i, .int j] ∧ 0 ≤ i ∧ i < 35184372088832 ∧ d = .int (doneN x i j)
theorem sc_number_done : FnScope ["word", "one", "other"] ["word", "one", "other"] (defScope t_number_done) := ⟨rfl, rfl, rfl, by decide +kernel, rfl, by decide +kernel, by decide +kernel⟩
theorem pf_number_done (T : Tx P w K mg base) : PF P w K mg base 1 "number_done" R_number_done := by
  refine pf_of (N := ["word", "one", "other"]) (ps := ["word", "one", "other"]) (n := 0) (k := 0) (fd_number_done T) sc_number_done (gl_number_done T) rfl (fun ds d h => by obtain ⟨x, i, j, rfl, i0, i1, rfl⟩ := h; rfl) (fun _ _ _ _ _ _ us hl => match us, hl with | [_, _, _], _ => rfl) ?_
  intro f cdv A outer s H E hr ds d h
  obtain ⟨x, i, j, rfl, i0, i1, rfl⟩ := h
  refine ⟨.rt _, bd_ifx (td_eqS (ed_var 0) ed_str) (fun _ h => nomatch h) (fun h => bd_one (sd_ret (ed_add (ed_var 1) (ed_var 2)) ?_)) fun h1 => bd_ifx (td_eqS (ed_var 0) ed_str) (fun _ h => nomatch h) (fun h => bd_one (sd_ret (ed_sub (ed_var 1) (ed_var 2)) ?_)) fun h2 => bd_ifx (td_eqS (ed_var 0) ed_str) (fun _ h => nomatch h) (fun h => bd_one (sd_ret (ed_mul (ed_var 1) (ed_var 2) ?_) ?_)) fun h3 => bd_ifx (td_eqS (ed_var 0) ed_str) (fun _ h => nomatch h) (fun h => bd_one (sd_ret (ed_and_ (ed_var 1) (ed_var 2)) ?_)) fun h4 => bd_one (sd_ret (ed_if (td_eqS (ed_var 0) ed_str) (fun hi => ed_is (ed_or_ (ed_var 1) (ed_var 2)) ?_) (fun hi => ed_is (ed_xor_ (ed_var 1) (ed_var 2)) ?_)) (rfl)), .inl rfl⟩
  · have h := of_decide_eq_true h; subst h; rfl
  · have h := of_decide_eq_true h; subst h; rfl
  · exact .inl ⟨by omega, by omega⟩
  · have h := of_decide_eq_true h; subst h; rfl
  · have h := of_decide_eq_true h; subst h; rfl
  · have hi := of_decide_eq_true hi; subst hi; rfl
  · unfold doneN
    rw [if_neg (of_decide_eq_false h1), if_neg (of_decide_eq_false h2), if_neg (of_decide_eq_false h3), if_neg (of_decide_eq_false h4), if_neg (of_decide_eq_false hi)]
def R_is_so : List PyData → PyData → Prop := fun ds d => ∃ (x : Str) (i j : Int), ds = [.str x, .int i, .int j] ∧ d = .bool (soB x i j)
theorem sc_is_so : FnScope ["word", "one", "other"] ["word", "one", "other"] (defScope t_is_so) := ⟨rfl, rfl, rfl, by decide +kernel, rfl, by decide +kernel, by decide +kernel⟩
theorem pf_is_so (T : Tx P w K mg base) : PF P w K mg base 1 "is_so" R_is_so := by
  refine pf_of (N := ["word", "one", "other"]) (ps := ["word", "one", "other"]) (n := 0) (k := 0) (fd_is_so T) sc_is_so (gl_is_so T) rfl (fun ds d h => by obtain ⟨x, i, j, rfl, rfl⟩ := h; rfl) (fun _ _ _ _ _ _ us hl => match us, hl with | [_, _, _], _ => rfl) ?_
  intro f cdv A outer s H E hr ds d h
  obtain ⟨x, i, j, rfl, rfl⟩ := h
  refine ⟨.rt _, bd_ifx (td_eqS (ed_var 0) ed_str) (fun _ h => nomatch h) (fun h => bd_one (sd_ret (ed_eqI (ed_var 1) (ed_var 2)) ?_)) fun h1 => bd_ifx (td_eqS (ed_var 0) ed_str) (fun _ h => nomatch h) (fun h => bd_one (sd_ret (ed_neI (ed_var 1) (ed_var 2)) ?_)) fun h2 => bd_one (sd_ret (ed_if (td_eqS (ed_var 0) ed_str) (fun hi => ed_is (ed_lt (ed_var 1) (ed_var 2)) ?_) (fun hi => ed_is (ed_ge (ed_var 1) (ed_var 2)) ?_)) (rfl)), .inl rfl⟩
  · have h := of_decide_eq_true h; subst h; rfl
  · have h := of_decide_eq_true h; subst h; rfl
  · have hi := of_decide_eq_true hi; subst hi; rfl
  · unfold soB
    rw [if_neg (of_decide_eq_false h1), if_neg (of_decide_eq_false h2), if_neg (of_decide_eq_false hi)]
def R_bare : List PyData → PyData → Prop := fun ds d => ∃ v : Wv, ds = [v.d] ∧ d = v.bare.d
theorem sc_bare : FnScope ["word"] ["word"] (defScope t_bare) := ⟨rfl, rfl, rfl, by decide +kernel, rfl, by decide +kernel, by decide +kernel⟩
theorem pf_bare (T : Tx P w K mg base) : PF P w K mg base 1 "bare" R_bare := by
  refine pf_of (N := ["word"]) (ps := ["word"]) (n := 0) (k := 0) (fd_bare T) sc_bare (gl_bare T) rfl (fun ds d h => by obtain ⟨v, rfl, rfl⟩ := h; rfl) (fun _ _ _ _ _ _ us hl => match us, hl with | [_], _ => rfl) ?_
  intro f cdv A outer s H E hr ds d h
  obtain ⟨v, rfl, rfl⟩ := h
  exact ⟨.rt _, bd_one (sd_ret (ed_tup (ad_cons ed_bl (ad_cons (ed_ixT (ed_var 0) ed_int) ad_nil))) (rfl)), .inl rfl⟩
def R_is_open : List PyData → PyData → Prop := fun ds d => ∃ v : Wv, v.Ok ∧ ds = [v.d] ∧ d = .bool v.isOpen
theorem sc_is_open : FnScope ["word"] ["word"] (defScope t_is_open) := ⟨rfl, rfl, rfl, by decide +kernel, rfl, by decide +kernel, by decide +kernel⟩
theorem pf_is_open (T : Tx P w K mg base) : PF P w K mg base 3 "is_open" R_is_open := by
  refine pf_of (N := ["word"]) (ps := ["word"]) (n := 0) (k := 2) (fd_is_open T) sc_is_open (gl_is_open T) rfl (fun ds d h => by obtain ⟨v, hv, rfl, rfl⟩ := h; rfl) (fun _ _ _ _ _ _ us hl => match us, hl with | [_], _ => rfl) ?_
  intro f cdv A outer s H E hr ds d h
  obtain ⟨v, hv, rfl, rfl⟩ := h
  cases v with
  | pl b => exact ⟨.rt _, bd_one (sd_ret (ed_and' (ed_ixT (ed_var 0) ed_int) fun hb => (ed_one (ed_eqI (ed_ixT (ed_call (pf_fields_of T) (hr.mono (by decide)) (ad_cons (ed_var 0) ad_nil) (no_fields hb)) ed_int) ed_int))) (rfl)), .inl rfl⟩
  | mk l h a k r => exact ⟨.rt _, bd_one (sd_ret (ed_and' (ed_ixT (ed_var 0) ed_int) fun hb => (ed_one (ed_eqI (ed_ixT (ed_call (pf_fields_of T) (hr.mono (by decide)) (ad_cons (ed_var 0) ad_nil) (mk_fields hv)) ed_int) ed_int))) (rfl)), .inl rfl⟩
def R_walked : List PyData → PyData → Prop := fun ds d => ∃ (v : Wv) (n : Int), v.Ok ∧ ds = [v.d, .int n] ∧ d = (v.walk n).d
theorem sc_walked : FnScope ["word", "number", "at", "bits"] ["word", "number"] (defScope t_walked) := ⟨rfl, rfl, rfl, by decide +kernel, rfl, by decide +kernel, by decide +kernel⟩
theorem pf_walked (T : Tx P w K mg base) : PF P w K mg base 4 "walked" R_walked := by
  refine pf_of (N := ["word", "number", "at", "bits"]) (ps := ["word", "number"]) (n := 2) (k := 3) (fd_walked T) sc_walked (gl_walked T) rfl (fun ds d h => by obtain ⟨v, n, hv, rfl, rfl⟩ := h; rfl) (fun _ _ _ _ _ _ us hl => match us, hl with | [_, _], _ => rfl) ?_
  intro f cdv A outer s H E hr ds d h
  obtain ⟨v, n, hv, rfl, rfl⟩ := h
  refine ⟨.rt _, bd_cons (sd_set 2 sc_walked.nd (ed_mod (ed_add (ed_ixT (ed_var 0) ed_int) (ed_var 1)) (ed_glob (c_CELLS T)) (by decide))) (bd_cons (sd_set 3 sc_walked.nd (ed_add (ed_sub (ed_ixT (ed_var 0) ed_int) (ed_mod (ed_ixT (ed_var 0) ed_int) (ed_glob (c_CELLS T)) (by decide))) (ed_var 2))) (bd_ifx (p := !v.t) (td_not (td_val (ed_ixT (ed_var 0) ed_int))) (fun _ h => nomatch h) (fun h => bd_one (sd_ret (ed_tup (ad_cons ed_bl (ad_cons (ed_var 3) ad_nil))) ?_)) fun h1 => bd_one (sd_ret (ed_if (td_val (ed_call (pf_is_open T) (hr.mono (by decide)) (ad_cons (ed_var 0) ad_nil) (⟨v, hv, rfl, rfl⟩))) (fun hi => ed_is (ed_tup (ad_cons ed_bl (ad_cons (ed_var 3) ad_nil))) ?_) (fun hi => ed_is (ed_call (pf_bare T) (hr.mono (by decide)) (ad_cons (ed_var 0) ad_nil) (⟨v, rfl, rfl⟩)) ?_)) (rfl)))), .inl rfl⟩
  all_goals cases v
  · rfl
  · exact nomatch h
  · exact nomatch h1
  · rename_i l h' a k r
    have hk : k = 0 := of_decide_eq_true hi
    show W true _ = (Wv.d (if k = 0 then _ else _))
    rw [if_pos hk]
    subst hk
    exact congrArg (W true) (mk_walk hv)
  · exact nomatch h1
  · rename_i l h' a k r
    show _ = (Wv.d (if k = 0 then _ else _))
    rw [if_neg (of_decide_eq_false hi)]
    rfl
def askLo (b : Int) : Int := if tells b then bLow b else 0
def askHi (b : Int) : Int := if tells b then bHigh b else 0
theorem fieldsD_tup {b : Int} (h : (!isN (fieldsD b)) = true) : fieldsD b = .tuple [.int (bLow b), .int (bHigh b), .int (b % 4096), .str (rightsM (b / 4294967296 % 512)), .int (b / 2199023255552)] ∧ tells b = true := by
  unfold fieldsD at *
  by_cases ht : tells b = true
  · rw [if_pos ht]; exact ⟨rfl, ht⟩
  · rw [if_neg ht] at h; exact nomatch h
theorem fieldsD_non {b : Int} (h : (!isN (fieldsD b)) = false) : tells b = false := by
  unfold fieldsD at *
  by_cases ht : tells b = true
  · rw [if_pos ht] at h; exact nomatch h
  · exact eq_false_of_ne_true ht
def R_number_asked : List PyData → PyData → Prop := fun ds d => ∃ (x : Str) (v : Wv), ds = [.str x, v.d] ∧ d = .int (askedN x v)
theorem sc_number_asked : FnScope ["what", "word", "bits", "low", "high"] ["what", "word"] (defScope t_number_asked) := ⟨rfl, rfl, rfl, by decide +kernel, rfl, by decide +kernel, by decide +kernel⟩
theorem pf_number_asked (T : Tx P w K mg base) : PF P w K mg base 3 "number_asked" R_number_asked := by
  refine pf_of (N := ["what", "word", "bits", "low", "high"]) (ps := ["what", "word"]) (n := 3) (k := 2) (fd_number_asked T) sc_number_asked (gl_number_asked T) rfl (fun ds d h => by obtain ⟨x, v, rfl, rfl⟩ := h; rfl) (fun _ _ _ _ _ _ us hl => match us, hl with | [_, _], _ => rfl) ?_
  intro f cdv A outer s H E hr ds d h
  obtain ⟨x, v, rfl, rfl⟩ := h
  refine ⟨.rt _, bd_cons (sd_set 2 sc_number_asked.nd (ed_ixT (ed_var 1) ed_int)) (bd_cons (sd_asg (d := .tuple [.int (askLo v.b), .int (askHi v.b)]) (ed_if (td_notN (ed_call (pf_fields_of T) (hr.mono (by decide)) (ad_cons (ed_var 1) ad_nil) (⟨_, _, rfl, rfl⟩))) (fun hi => ed_is (ed_slT (ed_call (pf_fields_of T) (hr.mono (by decide)) (ad_cons (ed_var 1) ad_nil) (⟨_, _, rfl, (fieldsD_tup hi).1.symm⟩)) od_none (od_int ed_int)) ?_) (fun hi => ed_is (ed_tup (ad_cons ed_int (ad_cons ed_int ad_nil))) ?_)) (gd_tup rfl (gds_cons (gd_name 3 sc_number_asked.nd) (gds_cons (gd_name 4 sc_number_asked.nd) gds_nil)))) (bd_ifx (td_eqS (ed_var 0) ed_str) (fun _ h => nomatch h) (fun h => bd_one (sd_ret (ed_intb (fr_int T) (ed_ixT (ed_var 1) ed_int)) ?_)) fun h1 => bd_ifx (td_eqS (ed_var 0) ed_str) (fun _ h => nomatch h) (fun h => bd_one (sd_ret (ed_var 2) ?_)) fun h2 => bd_ifx (td_eqS (ed_var 0) ed_str) (fun _ h => nomatch h) (fun h => bd_one (sd_ret (ed_mod (ed_var 2) (ed_glob (c_CELLS T)) ?_) ?_)) fun h3 => bd_ifx (td_eqS (ed_var 0) ed_str) (fun _ h => nomatch h) (fun h => bd_one (sd_ret (ed_var 3) ?_)) fun h4 => bd_ifx (td_eqS (ed_var 0) ed_str) (fun _ h => nomatch h) (fun h => bd_one (sd_ret (ed_var 4) ?_)) fun h5 => bd_one (sd_ret (ed_if (td_eqS (ed_var 0) ed_str) (fun hi => ed_is (ed_andc (m := 512) 9 (by decide) (by decide) (ed_shrc (m := 4294967296) (by decide) (by decide) (ed_var 2))) ?_) (fun hi => ed_is (ed_shrc (m := 2199023255552) (by decide) (by decide) (ed_var 2)) ?_)) (rfl)))), .inl rfl⟩
  · show PyData.tuple [.int (bLow v.b), .int (bHigh v.b)] = _
    unfold askLo askHi
    rw [if_pos (fieldsD_tup hi).2, if_pos (fieldsD_tup hi).2]
  · unfold askLo askHi
    rw [fieldsD_non hi]
    rfl
  · have h := of_decide_eq_true h; subst h; rfl
  · have h := of_decide_eq_true h; subst h; rfl
  · decide
  · have h := of_decide_eq_true h; subst h; rfl
  · have h := of_decide_eq_true h; subst h; rfl
  · have h := of_decide_eq_true h; subst h; rfl
  · have hi := of_decide_eq_true hi; subst hi; rfl
  · unfold askedN
    rw [if_neg (of_decide_eq_false h1), if_neg (of_decide_eq_false h2), if_neg (of_decide_eq_false h3), if_neg (of_decide_eq_false h4), if_neg (of_decide_eq_false h5), if_neg (of_decide_eq_false hi)]
def R_with_bounds : List PyData → PyData → Prop := fun ds d => ∃ (l h a k : Int) (r : Rt) (l' h' : Int), Fl l h a r.m k ∧ Exact l' h' ∧ ds = [(Wv.mk l h a k r).d, .int l', .int h'] ∧ d = (Wv.mk l' h' a k r).d
theorem sc_with_bounds : FnScope ["word", "low", "high", "own_low", "own_high", "at", "rights", "kind"] ["word", "low", "high"] (defScope t_with_bounds) := ⟨rfl, rfl, rfl, by decide +kernel, rfl, by decide +kernel, by decide +kernel⟩
theorem pf_with_bounds (T : Tx P w K mg base) : PF P w K mg base 5 "with_bounds" R_with_bounds := by
  refine pf_of (N := ["word", "low", "high", "own_low", "own_high", "at", "rights", "kind"]) (ps := ["word", "low", "high"]) (n := 5) (k := 4) (fd_with_bounds T) sc_with_bounds (gl_with_bounds T) rfl (fun ds d h => by obtain ⟨l, h, a, k, r, l', h', F, e, rfl, rfl⟩ := h; rfl) (fun _ _ _ _ _ _ us hl => match us, hl with | [_, _, _], _ => rfl) ?_
  intro f cdv A outer s H E hr ds d h
  obtain ⟨l, h, a, k, r, l', h', F, e, rfl, rfl⟩ := h
  exact ⟨.rt _, bd_cons (sd_asg (ed_call (pf_fields_of T) (hr.mono (by decide)) (ad_cons (ed_var 0) ad_nil) (mk_fields F)) (gd_tup rfl (gds_cons (gd_name 3 sc_with_bounds.nd) (gds_cons (gd_name 4 sc_with_bounds.nd) (gds_cons (gd_name 5 sc_with_bounds.nd) (gds_cons (gd_name 6 sc_with_bounds.nd) (gds_cons (gd_name 7 sc_with_bounds.nd) gds_nil))))))) (bd_one (sd_ret (ed_call (pf_word_of T) (hr.mono (by decide)) (ad_cons (ed_tup (ad_cons (ed_var 1) (ad_cons (ed_var 2) (ad_cons (ed_var 5) (ad_cons (ed_var 6) (ad_cons (ed_var 7) ad_nil)))))) ad_nil) (⟨l', h', a, k, r, F.bnds e, rfl, rfl⟩)) (rfl))), .inl rfl⟩
def R_with_rights : List PyData → PyData → Prop := fun ds d => ∃ (l h a k : Int) (r r' : Rt), Fl l h a r.m k ∧ ds = [(Wv.mk l h a k r).d, .str r'.s] ∧ d = (Wv.mk l h a k r').d
theorem sc_with_rights : FnScope ["word", "rights", "low", "high", "at", "own_rights", "kind"] ["word", "rights"] (defScope t_with_rights) := ⟨rfl, rfl, rfl, by decide +kernel, rfl, by decide +kernel, by decide +kernel⟩
theorem pf_with_rights (T : Tx P w K mg base) : PF P w K mg base 5 "with_rights" R_with_rights := by
  refine pf_of (N := ["word", "rights", "low", "high", "at", "own_rights", "kind"]) (ps := ["word", "rights"]) (n := 5) (k := 4) (fd_with_rights T) sc_with_rights (gl_with_rights T) rfl (fun ds d h => by obtain ⟨l, h, a, k, r, r', F, rfl, rfl⟩ := h; rfl) (fun _ _ _ _ _ _ us hl => match us, hl with | [_, _], _ => rfl) ?_
  intro f cdv A outer s H E hr ds d h
  obtain ⟨l, h, a, k, r, r', F, rfl, rfl⟩ := h
  exact ⟨.rt _, bd_cons (sd_asg (ed_call (pf_fields_of T) (hr.mono (by decide)) (ad_cons (ed_var 0) ad_nil) (mk_fields F)) (gd_tup rfl (gds_cons (gd_name 2 sc_with_rights.nd) (gds_cons (gd_name 3 sc_with_rights.nd) (gds_cons (gd_name 4 sc_with_rights.nd) (gds_cons (gd_name 5 sc_with_rights.nd) (gds_cons (gd_name 6 sc_with_rights.nd) gds_nil))))))) (bd_one (sd_ret (ed_call (pf_word_of T) (hr.mono (by decide)) (ad_cons (ed_tup (ad_cons (ed_var 2) (ad_cons (ed_var 3) (ad_cons (ed_var 4) (ad_cons (ed_var 1) (ad_cons (ed_var 6) ad_nil)))))) ad_nil) (⟨l, h, a, k, r', F.rts r', rfl, rfl⟩)) (rfl))), .inl rfl⟩
def R_with_kind : List PyData → PyData → Prop := fun ds d => ∃ (l h a k k' : Int) (r : Rt), Fl l h a r.m k ∧ 0 ≤ k' ∧ k' < 16 ∧ ds = [(Wv.mk l h a k r).d, .int k'] ∧ d = (Wv.mk l h a k' r).d
theorem sc_with_kind : FnScope ["word", "kind", "low", "high", "at", "rights", "own_kind"] ["word", "kind"] (defScope t_with_kind) := ⟨rfl, rfl, rfl, by decide +kernel, rfl, by decide +kernel, by decide +kernel⟩
theorem pf_with_kind (T : Tx P w K mg base) : PF P w K mg base 5 "with_kind" R_with_kind := by
  refine pf_of (N := ["word", "kind", "low", "high", "at", "rights", "own_kind"]) (ps := ["word", "kind"]) (n := 5) (k := 4) (fd_with_kind T) sc_with_kind (gl_with_kind T) rfl (fun ds d h => by obtain ⟨l, h, a, k, k', r, F, k0, k1, rfl, rfl⟩ := h; rfl) (fun _ _ _ _ _ _ us hl => match us, hl with | [_, _], _ => rfl) ?_
  intro f cdv A outer s H E hr ds d h
  obtain ⟨l, h, a, k, k', r, F, k0, k1, rfl, rfl⟩ := h
  exact ⟨.rt _, bd_cons (sd_asg (ed_call (pf_fields_of T) (hr.mono (by decide)) (ad_cons (ed_var 0) ad_nil) (mk_fields F)) (gd_tup rfl (gds_cons (gd_name 2 sc_with_kind.nd) (gds_cons (gd_name 3 sc_with_kind.nd) (gds_cons (gd_name 4 sc_with_kind.nd) (gds_cons (gd_name 5 sc_with_kind.nd) (gds_cons (gd_name 6 sc_with_kind.nd) gds_nil))))))) (bd_one (sd_ret (ed_call (pf_word_of T) (hr.mono (by decide)) (ad_cons (ed_tup (ad_cons (ed_var 2) (ad_cons (ed_var 3) (ad_cons (ed_var 4) (ad_cons (ed_var 5) (ad_cons (ed_var 1) ad_nil)))))) ad_nil) (⟨l, h, a, k', r, F.kind k0 k1, rfl, rfl⟩)) (rfl))), .inl rfl⟩
def R_narrowed : List PyData → PyData → Prop := fun ds d => ∃ (v : Wv) (n : Int) (ex : Bool), v.Ok ∧ ds = [v.d, .int n, .bool ex] ∧ d = (v.narrow n ex).d
theorem sc_narrowed : FnScope ["word", "many", "exact", "low", "high", "at", "rights", "kind", "own_low", "own_high"] ["word", "many", "exact"] (defScope t_narrowed) := ⟨rfl, rfl, rfl, by decide +kernel, rfl, by decide +kernel, by decide +kernel⟩
theorem pfk_narrowed (T : Tx P w K mg base) : PFk P w K mg base 6 "narrowed" 2 ["exact"] R_narrowed := by
  refine pfk_of (N := ["word", "many", "exact", "low", "high", "at", "rights", "kind", "own_low", "own_high"]) (ps := ["word", "many", "exact"]) (n := 7) (k := 5) (fd_narrowed T) sc_narrowed (gl_narrowed T) rfl (fun ds d h => by obtain ⟨v, n, ex, hv, rfl, rfl⟩ := h; rfl) (fun _ _ _ _ _ _ us ws hl hk => match us, hl, ws, hk with | [_, _], _, [_], _ => rfl) ?_
  intro f cdv A outer s H E hr ds d h
  obtain ⟨v, n, ex, hv, rfl, rfl⟩ := h
  cases v with
  | pl b => exact ⟨.rt _, bd_ifx (p := true) (td_is (td_not (td_val (ed_call (pf_is_open T) (hr.mono (by decide)) (ad_cons (ed_var 0) ad_nil) (⟨.pl b, hv, rfl, rfl⟩)))) rfl) (fun _ h => nomatch h) (fun _ => bd_one (sd_ret (ed_call (pf_bare T) (hr.mono (by decide)) (ad_cons (ed_var 0) ad_nil) (⟨.pl b, rfl, rfl⟩)) (rfl))) (fun h => nomatch h), .inl rfl⟩
  | mk l h a k r =>
    have F : Fl l h a r.m k := hv
    have a0 := F.a0
    have a1 := F.a1
    refine ⟨.rt _, bd_ifx (td_not (td_val (ed_call (pf_is_open T) (hr.mono (by decide)) (ad_cons (ed_var 0) ad_nil) (⟨_, hv, rfl, rfl⟩)))) (fun _ h => nomatch h) (fun g => bd_one (sd_ret (ed_call (pf_bare T) (hr.mono (by decide)) (ad_cons (ed_var 0) ad_nil) (⟨_, rfl, rfl⟩)) ?_)) fun g1 => bd_cons (sd_asg (ed_call (pf_fields_of T) (hr.mono (by decide)) (ad_cons (ed_var 0) ad_nil) (mk_fields F)) (gd_tup rfl (gds_cons (gd_name 3 sc_narrowed.nd) (gds_cons (gd_name 4 sc_narrowed.nd) (gds_cons (gd_name 5 sc_narrowed.nd) (gds_cons (gd_name 6 sc_narrowed.nd) (gds_cons (gd_name 7 sc_narrowed.nd) gds_nil))))))) (bd_ifx (p := narA a n) (WD.t (wd_or (td_lt (ed_var 1) ed_int) fun hb => (wd_or1 (td_gt (ed_add (ed_var 5) (ed_var 1)) (ed_glob (c_CELLS T)))))) (fun _ h => nomatch h) (fun g => bd_one (sd_ret (ed_call (pf_bare T) (hr.mono (by decide)) (ad_cons (ed_var 0) ad_nil) (⟨.mk l h a k r, rfl, rfl⟩)) ?_)) fun g2 => bd_cons (sd_asg (ed_call (pf_least_held T) (hr.mono (by decide)) (ad_cons (ed_var 5) (ad_cons (ed_add (ed_var 5) (ed_var 1)) ad_nil)) (⟨a, a + n, rfl, a0, (narA_no g2).1, (narA_no g2).2, rfl⟩)) (gd_tup rfl (gds_cons (gd_name 8 sc_narrowed.nd) (gds_cons (gd_name 9 sc_narrowed.nd) gds_nil)))) (bd_ifx (p := narB l h a n ex) (WD.t (wd_or (td_lt (ed_var 8) (ed_var 3)) fun hb => (wd_or (td_gt (ed_var 9) (ed_var 4)) fun hb => (wd_or1 (WD.t (wd_and (td_val (ed_var 2)) fun hb => (wd_and1 (td_ne hr.units (ed_tup (ad_cons (ed_var 8) (ad_cons (ed_var 9) ad_nil))) (ed_tup (ad_cons (ed_var 5) (ad_cons (ed_add (ed_var 5) (ed_var 1)) ad_nil))))))))))) (fun _ h => nomatch h) (fun g => bd_one (sd_ret (ed_call (pf_bare T) (hr.mono (by decide)) (ad_cons (ed_var 0) ad_nil) (⟨.mk l h a k r, rfl, rfl⟩)) ?_)) fun g3 => bd_one (sd_ret (ed_call (pf_with_bounds T) (hr.mono (by decide)) (ad_cons (ed_var 0) (ad_cons (ed_var 8) (ad_cons (ed_var 9) ad_nil))) (⟨l, h, a, k, r, _, _, F, exact_held a0 (narA_no g2).1 (narA_no g2).2, rfl, rfl⟩)) ?_))), .inl rfl⟩
    · have hk : ¬ k = 0 := of_decide_eq_false (by simpa [Wv.isOpen] using g)
      show _ = Wv.d (if k = 0 then _ else _)
      rw [if_neg hk]
      rfl
    all_goals have hk : k = 0 := of_decide_eq_true (by simpa [Wv.isOpen] using g1)
    · show _ = Wv.d (if k = 0 then _ else _)
      rw [if_pos hk, if_pos g]
      rfl
    all_goals have g2' : ¬ narA a n = true := by rw [g2]; exact Bool.false_ne_true
    · show _ = Wv.d (if k = 0 then _ else _)
      rw [if_pos hk, if_neg g2', if_pos g]
      rfl
    · show _ = Wv.d (if k = 0 then _ else _)
      rw [if_pos hk, if_neg g2', if_neg (by rw [g3]; exact Bool.false_ne_true)]
def R_lessened : List PyData → PyData → Prop := fun ds d => ∃ (v : Wv) (y : Str), v.Ok ∧ v.mild = true ∧ y ∈ lessMenu ∧ ds = [v.d, .str y] ∧ d = (v.less y).d
theorem sc_lessened : FnScope ["word", "rights", "right"] ["word", "rights"] (defScope t_lessened) := ⟨rfl, rfl, rfl, by decide +kernel, rfl, by decide +kernel, by decide +kernel⟩
theorem pf_lessened (T : Tx P w K mg base) : PF P w K mg base 6 "lessened" R_lessened := by
  refine pf_of (N := ["word", "rights", "right"]) (ps := ["word", "rights"]) (n := 1) (k := 5) (fd_lessened T) sc_lessened (gl_lessened T) rfl (fun ds d h => by obtain ⟨v, y, hv, hm, hy, rfl, rfl⟩ := h; rfl) (fun _ _ _ _ _ _ us hl => match us, hl with | [_, _], _ => rfl) ?_
  intro f cdv A outer s H E hr ds d h
  obtain ⟨v, y, hv, hm, hy, rfl, rfl⟩ := h
  cases v with
  | pl b => exact ⟨.rt _, bd_ifx (p := true) (td_is (td_not (td_val (ed_call (pf_is_open T) (hr.mono (by decide)) (ad_cons (ed_var 0) ad_nil) (⟨.pl b, hv, rfl, rfl⟩)))) rfl) (fun _ h => nomatch h) (fun _ => bd_one (sd_ret (ed_call (pf_bare T) (hr.mono (by decide)) (ad_cons (ed_var 0) ad_nil) (⟨.pl b, rfl, rfl⟩)) (rfl))) (fun h => nomatch h), .inl rfl⟩
  | mk l h a k r =>
    have F : Fl l h a r.m k := hv
    refine ⟨.rt _, bd_ifx (td_not (td_val (ed_call (pf_is_open T) (hr.mono (by decide)) (ad_cons (ed_var 0) ad_nil) (⟨_, hv, rfl, rfl⟩)))) (fun _ h => nomatch h) (fun g => bd_one (sd_ret (ed_call (pf_bare T) (hr.mono (by decide)) (ad_cons (ed_var 0) ad_nil) (⟨_, rfl, rfl⟩)) ?_)) fun g1 => bd_one (sd_ret (ed_call (pf_with_rights T) (hr.mono (by decide)) (ad_cons (ed_var 0) (ad_cons (ed_join ed_str (ed_is (ed_lc (own := [("right", 2)]) (p := pin y) (out := fun d => d) (fun d => [some (Wv.mk l h a k r).d, some (.str y), some d]) rfl sc_lessened.nd (id_str (ed_ixT (ed_call (pf_fields_of T) (hr.mono (by decide)) (ad_cons (ed_var 0) ad_nil) (mk_fields F)) ed_int)) (blkOk_by (by rfl)) (fun _ _ _ _ _ => pg_name sc_lessened.nd rfl (.inl rfl)) (fun d hd => gw_name 2) (fun _ _ _ _ _ => pts_one (pt_cmpR op_in_str (pv 2) (pv 1) rfl)) (fun d hd => by obtain ⟨z, _, rfl⟩ := mem_signs hd; exact gt_test' (ge_op' (ge_var rfl) (ge_var rfl) rd_inS')) (fun _ _ _ _ _ => pv 2) (fun d hd hp => ge_var rfl) (fun d hd hp => by obtain ⟨z, _, rfl⟩ := mem_signs hd; rfl) (by rw [signs_eq, List.length_map]; unfold chars; rw [List.length_map, Array.length_toList]; exact Nat.lt_of_le_of_lt (rt_size r) (by decide +kernel))) (sg_filter _ _)) (chars_join (rt_size r))) ad_nil)) (⟨l, h, a, k, r, lessT r y, F, by rw [less_join r hm y hy], rfl⟩)) ?_), .inl rfl⟩
    · have hk : ¬ k = 0 := of_decide_eq_false (by simpa [Wv.isOpen] using g)
      show _ = Wv.d (if k = 0 then _ else _)
      rw [if_neg hk]
      rfl
    · have hk : k = 0 := of_decide_eq_true (by simpa [Wv.isOpen] using g1)
      show _ = Wv.d (if k = 0 then _ else _)
      rw [if_pos hk]
theorem no_fieldsN {ds : List PyData} (h : isN PyData.none = false) : R_fields_of ds (.tuple [.int 0, .int 0, .int 0, .str "", .int 0]) := nomatch h
theorem no_fields' {ds : List PyData} (h : true = false) : R_fields_of ds (.tuple [.int 0, .int 0, .int 0, .str "", .int 0]) := nomatch h
def R_kind_told : List PyData → PyData → Prop := fun ds d => ∃ (v : Wv) (y : Str), v.Ok ∧ v.mild = true ∧ y ∈ ([("r" : Str), "w", "c", "o"] : List Str) ∧ ds = [v.d, .str y] ∧ d = .none
theorem sc_kind_told : FnScope ["word", "right", "low", "high", "at", "rights", "kind"] ["word", "right"] (defScope t_kind_told) := ⟨rfl, rfl, rfl, by decide +kernel, rfl, by decide +kernel, by decide +kernel⟩
theorem pf_kind_told (T : Tx P w K mg base) : PF P w K mg base 4 "kind_told" R_kind_told := by
  refine pf_of (N := ["word", "right", "low", "high", "at", "rights", "kind"]) (ps := ["word", "right"]) (n := 5) (k := 3) (fd_kind_told T) sc_kind_told (gl_kind_told T) rfl (fun ds d h => by obtain ⟨v, y, hv, hm, hy, rfl, rfl⟩ := h; rfl) (fun _ _ _ _ _ _ us hl => match us, hl with | [_, _], _ => rfl) ?_
  intro f cdv A outer s H E hr ds d h
  obtain ⟨v, y, hv, hm, hy, rfl, rfl⟩ := h
  cases v with
  | pl b => exact ⟨.rt _, bd_ifx (p := true) (td_is (td_not (td_val (ed_call (pf_is_open T) (hr.mono (by decide)) (ad_cons (ed_var 0) ad_nil) (⟨.pl b, hv, rfl, rfl⟩)))) rfl) (fun _ h => nomatch h) (fun _ => bd_one (sd_ret ed_non (rfl))) (fun h => nomatch h), .inl rfl⟩
  | mk l h a k r =>
    have F : Fl l h a r.m k := hv
    exact ⟨.rt _, bd_ifx (td_not (td_val (ed_call (pf_is_open T) (hr.mono (by decide)) (ad_cons (ed_var 0) ad_nil) (⟨_, hv, rfl, rfl⟩)))) (fun _ h => nomatch h) (fun g => bd_one (sd_ret ed_non (rfl))) fun g1 => bd_cons (sd_asg (ed_call (pf_fields_of T) (hr.mono (by decide)) (ad_cons (ed_var 0) ad_nil) (mk_fields F)) (gd_tup rfl (gds_cons (gd_name 2 sc_kind_told.nd) (gds_cons (gd_name 3 sc_kind_told.nd) (gds_cons (gd_name 4 sc_kind_told.nd) (gds_cons (gd_name 5 sc_kind_told.nd) (gds_cons (gd_name 6 sc_kind_told.nd) gds_nil))))))) (bd_ifx (p := true) (td_is (WD.t (wd_or (td_niS (ed_var 1) (ed_var 5)) fun hb => (wd_or (td_not (td_ch2et (ed_var 2) (ed_var 4) (ed_var 3))) fun hb => (wd_or1 (td_not (td_ch2ee (ed_glob (c_LEAST_KIND_lesser T)) (ed_var 4) (ed_glob (c_MOST_KIND T)))))))) (by rw [no_right r hm y hy]; rfl)) (fun _ h => nomatch h) (fun _ => bd_one (sd_ret ed_non (rfl))) fun h => nomatch h), .inl rfl⟩
def R_sealed : List PyData → PyData → Prop := fun ds d => ∃ (v o : Wv), v.Ok ∧ o.Ok ∧ o.mild = true ∧ ds = [v.d, o.d] ∧ d = v.bare.d
theorem sc_sealed : FnScope ["word", "other", "kind"] ["word", "other"] (defScope t_sealed) := ⟨rfl, rfl, rfl, by decide +kernel, rfl, by decide +kernel, by decide +kernel⟩
theorem pf_sealed (T : Tx P w K mg base) : PF P w K mg base 6 "sealed" R_sealed := by
  refine pf_of (N := ["word", "other", "kind"]) (ps := ["word", "other"]) (n := 1) (k := 5) (fd_sealed T) sc_sealed (gl_sealed T) rfl (fun ds d h => by obtain ⟨v, o, hv, ho, hm, rfl, rfl⟩ := h; rfl) (fun _ _ _ _ _ _ us hl => match us, hl with | [_, _], _ => rfl) ?_
  intro f cdv A outer s H E hr ds d h
  obtain ⟨v, o, hv, ho, hm, rfl, rfl⟩ := h
  exact ⟨.rt _, bd_cons (sd_set 2 sc_sealed.nd (ed_call (pf_kind_told T) (hr.mono (by decide)) (ad_cons (ed_var 1) (ad_cons ed_str ad_nil)) (⟨o, "c", ho, hm, by decide +kernel, rfl, rfl⟩))) (bd_ifx (p := true) (td_is (WD.t (wd_or (td_not (td_val (ed_call (pf_is_open T) (hr.mono (by decide)) (ad_cons (ed_var 0) ad_nil) (⟨v, hv, rfl, rfl⟩)))) fun hb => (wd_or1 (td_isN (ed_var 2))))) (by simp [isN])) (fun _ h => nomatch h) (fun _ => bd_one (sd_ret (ed_call (pf_bare T) (hr.mono (by decide)) (ad_cons (ed_var 0) ad_nil) (⟨v, rfl, rfl⟩)) (rfl))) fun h => nomatch h), .inl rfl⟩
def R_opened : List PyData → PyData → Prop := fun ds d => ∃ (v o : Wv), v.Ok ∧ o.Ok ∧ o.mild = true ∧ ds = [v.d, o.d] ∧ d = v.bare.d
theorem sc_opened : FnScope ["word", "other", "kind"] ["word", "other"] (defScope t_opened) := ⟨rfl, rfl, rfl, by decide +kernel, rfl, by decide +kernel, by decide +kernel⟩
theorem pf_opened (T : Tx P w K mg base) : PF P w K mg base 6 "opened" R_opened := by
  refine pf_of (N := ["word", "other", "kind"]) (ps := ["word", "other"]) (n := 1) (k := 5) (fd_opened T) sc_opened (gl_opened T) rfl (fun ds d h => by obtain ⟨v, o, hv, ho, hm, rfl, rfl⟩ := h; rfl) (fun _ _ _ _ _ _ us hl => match us, hl with | [_, _], _ => rfl) ?_
  intro f cdv A outer s H E hr ds d h
  obtain ⟨v, o, hv, ho, hm, rfl, rfl⟩ := h
  exact ⟨.rt _, bd_cons (sd_set 2 sc_opened.nd (ed_call (pf_kind_told T) (hr.mono (by decide)) (ad_cons (ed_var 1) (ad_cons ed_str ad_nil)) (⟨o, "o", ho, hm, by decide +kernel, rfl, rfl⟩))) (bd_ifx (p := true) (td_is (WD.t (wd_or (td_not (td_val (ed_ixT (ed_var 0) ed_int))) fun hb => (wd_or (td_isN (ed_var 2)) fun hb => (wd_or1 (td_ne hr.units (ed_ixT (ed_call (pf_fields_of T) (hr.mono (by decide)) (ad_cons (ed_var 0) ad_nil) (no_fieldsN hb)) ed_int) (ed_var 2)))))) (by simp [isN])) (fun _ h => nomatch h) (fun _ => bd_one (sd_ret (ed_call (pf_bare T) (hr.mono (by decide)) (ad_cons (ed_var 0) ad_nil) (⟨v, rfl, rfl⟩)) (rfl))) fun h => nomatch h), .inl rfl⟩
def R_entry : List PyData → PyData → Prop := fun ds d => ∃ (v : Wv), v.Ok ∧ v.mild = true ∧ ds = [v.d] ∧ d = v.entry.d
theorem sc_entry : FnScope ["word"] ["word"] (defScope t_entry) := ⟨rfl, rfl, rfl, by decide +kernel, rfl, by decide +kernel, by decide +kernel⟩
theorem pf_entry (T : Tx P w K mg base) : PF P w K mg base 6 "entry" R_entry := by
  refine pf_of (N := ["word"]) (ps := ["word"]) (n := 0) (k := 5) (fd_entry T) sc_entry (gl_entry T) rfl (fun ds d h => by obtain ⟨v, hv, hm, rfl, rfl⟩ := h; rfl) (fun _ _ _ _ _ _ us hl => match us, hl with | [_], _ => rfl) ?_
  intro f cdv A outer s H E hr ds d h
  obtain ⟨v, hv, hm, rfl, rfl⟩ := h
  cases v with
  | pl b => exact ⟨.rt _, bd_ifx (p := true) (td_is (WD.t (wd_or (td_not (td_val (ed_call (pf_is_open T) (hr.mono (by decide)) (ad_cons (ed_var 0) ad_nil) (⟨.pl b, hv, rfl, rfl⟩)))) fun hb => (wd_or1 (td_niS ed_str (ed_ixT (ed_call (pf_fields_of T) (hr.mono (by decide)) (ad_cons (ed_var 0) ad_nil) (no_fields' hb)) ed_int))))) rfl) (fun _ h => nomatch h) (fun _ => bd_one (sd_ret (ed_call (pf_bare T) (hr.mono (by decide)) (ad_cons (ed_var 0) ad_nil) (⟨.pl b, rfl, rfl⟩)) (rfl))) (fun h => nomatch h), .inl rfl⟩
  | mk l h a k r =>
    have F : Fl l h a r.m k := hv
    refine ⟨.rt _, bd_ifx (WD.t (wd_or (td_not (td_val (ed_call (pf_is_open T) (hr.mono (by decide)) (ad_cons (ed_var 0) ad_nil) (⟨_, hv, rfl, rfl⟩)))) fun hb => (wd_or1 (td_niS ed_str (ed_ixT (ed_call (pf_fields_of T) (hr.mono (by decide)) (ad_cons (ed_var 0) ad_nil) (mk_fields F)) ed_int))))) (fun _ h => nomatch h) (fun g => bd_one (sd_ret (ed_call (pf_bare T) (hr.mono (by decide)) (ad_cons (ed_var 0) ad_nil) (⟨.mk l h a k r, rfl, rfl⟩)) ?_)) fun g => bd_one (sd_ret (ed_call (pf_with_kind T) (hr.mono (by decide)) (ad_cons (ed_var 0) (ad_cons (ed_glob (c_ENTRY_lesser T)) ad_nil)) (⟨l, h, a, k, 1, r, F, by decide, by decide, rfl, rfl⟩)) ?_), .inl rfl⟩
    all_goals rw [has_x r hm] at g
    all_goals show _ = Wv.d (if k = 0 ∧ r = .fx then _ else _)
    · rw [if_neg (fun z => by simp [Wv.isOpen, z.1, z.2] at g)]
      rfl
    · rw [if_pos (by simpa [Wv.isOpen] using g)]
end
end Sr

set_option Elab.async false
set_option linter.all false
set_option maxRecDepth 100000
set_option maxHeartbeats 4000000
/-! list(d), d[k] of the module's dict with text keys. -/
namespace Sr
open PySem PySem.Spec PyProof.Rows L2
open Evl (Ex)
structure KKeys (K : PySem.W.Frag) (w : World) (a : Addr) (ks : List Str) : Prop where
  ex : ∃ es n, K.lookup a = some ⟨.type "dict", none, .dict es n, #[]⟩ ∧ es.toList.map He.keyOf = He.keysIn w.params ks
  low : (a == sysModules) = false
  nd : ks.Nodup
theorem kkeys_of {K : PySem.W.Frag} {w : World} {a : Addr} {ks : List Str} (h : He.dicW K a = some (He.keysIn w.params ks)) (nd : ks.Nodup) : KKeys K w a ks := by
  unfold He.dicW at h
  cases q : K.lookup a with
  | none =>
    rw [q] at h
    cases h
  | some o =>
    obtain ⟨oc, od, dt, osl⟩ := o
    rw [q] at h
    cases oc with
    | type c =>
      cases od with
      | none =>
        cases dt with
        | dict es n =>
          have h1 : (match decide (c = "dict") && (osl.isEmpty && !(a == sysModules)) with
            | true => some (es.toList.map He.keyOf)
            | false => none) = some (He.keysIn w.params ks) := h
          cases z : decide (c = "dict") && (osl.isEmpty && !(a == sysModules)) with
          | false =>
            rw [z] at h1
            cases h1
          | true =>
            rw [z] at h1
            simp only [Bool.and_eq_true, Bool.not_eq_true', decide_eq_true_eq] at z
            obtain ⟨e1, z3, z4⟩ := z
            have e2 : osl = #[] := Array.isEmpty_iff.mp z3
            subst e1 e2
            exact ⟨⟨es, n, q, Option.some.inj h1⟩, z4, nd⟩
        | _ => cases h
      | some _ => cases h
    | _ => cases h
theorem kk_pairs {prog : Program} {w : World} : ∀ {l : List DictEntry} {ks : List Str}, l.map He.keyOf = He.keysIn w.params ks →
    Pairs (PySem.strKind prog w) l (ks.zip (l.map (·.val))) ∧ (ks.zip (l.map (·.val))).map (·.1) = ks ∧ ∀ e ∈ l, ∃ k, (PySem.strKind prog w).is k e.key = true ∧ e.hash = (PySem.strKind prog w).hash k
  | [], [], _ => ⟨.nil, rfl, fun e he => nomatch he⟩
  | [], _ :: _, h => by cases h
  | _ :: _, [], h => by cases h
  | e :: r, k :: ks, h => by
    have h1 : He.keyOf e :: r.map He.keyOf = some (k, PyData.keyHash w.params k) :: He.keysIn w.params ks := h
    injection h1 with h2 h3
    obtain ⟨p1, p2, p3⟩ := kk_pairs (prog := prog) h3
    unfold He.keyOf at h2
    split at h2
    · rename_i x t q
      obtain ⟨h5, h6⟩ := Prod.mk.inj (Option.some.inj h2)
      subst h5
      have hi : (PySem.strKind prog w).is x e.key = true := by rw [q]; exact strKind_is prog w x t
      refine ⟨.cons hi rfl p1, ?_, fun e' he => ?_⟩
      · show x :: (ks.zip (r.map (·.val))).map (·.1) = x :: ks
        rw [p2]
      · rcases List.mem_cons.mp he with rfl | he
        · exact ⟨x, hi, h6⟩
        · exact p3 e' he
    · cases h2
section
variable {X : Cx}
theorem call_listK (hcalm : X.calm = true) : CallR X (.type "list") (fun xs H Q => ∃ (a : Addr) (ks : List Str), xs = [.ref a] ∧ KKeys X.K X.w a ks ∧ ks.length ≤ sizeLine ∧ ∀ p, H p = none → Q (.ref p) (upd H p (.lst (ks.map V.str)))) := by
  intro pins s σ H xs us Q I r q
  obtain ⟨a, ks, ex, ⟨⟨es, n, hl, hk⟩, lo, nd⟩, hz, q⟩ := q
  subst ex
  obtain ⟨u, eu, rx⟩ := vals1 r
  subst eu
  cases rx
  obtain ⟨p1, p2, p3⟩ := kk_pairs (prog := X.prog) hk
  have hlen : (ks.zip (es.toList.map (·.val))).length = ks.length := by
    have e := congrArg List.length p2
    rw [List.length_map] at e
    exact e
  have hat : s.heap.DictAt (PySem.strKind X.prog X.w) a (ks.zip (es.toList.map (·.val))) n :=
    ⟨_, es, I.kIn _ _ hl, ⟨rfl, rfl, rfl⟩, rfl, fun e he => p3 e (Array.mem_toList_iff.mpr he), p1, by rw [p2]; exact nd⟩
  refine PySem.W.kdl_call (PySem.W.kdl_dict (knd := PySem.strKind X.prog X.w) (kvs := ks.zip (es.toList.map (·.val))) (ep := n) lo) (I.ok.hd hcalm) hat (by rw [hlen]; exact hz) fun h' tk acc c' hk' hD hacc => ?_
  have hal : acc.toList.length = ks.length := by rw [Array.length_toList, hacc.1, hlen]
  have hS : StrsAre acc.toList ks := strs_at hal fun j v e => by
    obtain ⟨k, x, e1, e2⟩ := hacc.2 j v (by rw [← Array.getElem?_toList]; exact e)
    have e3 : ((ks.zip (es.toList.map (·.val))).map (·.1))[j]? = some k := by rw [List.getElem?_map, e1]; all_goals rfl
    rw [p2] at e3
    obtain ⟨t, ev⟩ := Value.isStrOf_shape (x := k) (v := v) e2
    exact ⟨k, t, e3, ev⟩
  refine ⟨.ref s.heap.objs.size, upd H s.heap.objs.size (.lst (ks.map V.str)), I.laid (t' := tk) hk' (Nat.le_refl _)
    (show ObjOk X.prog X.w _ _ _ (.lst (ks.map V.str)) from ⟨by rw [List.length_map]; exact hz, acc.toList, c', vals_of_strs hS, by rw [Array.toArray_toList]; exact hD⟩), rfl, q _ (I.hok.fresh (Nat.le_refl _))⟩
end
def formsK : List Str := ["set", "move", "do", "walk", "narrow", "exact", "less", "seal", "open", "entry", "ask", "here", "load", "store", "poke", "jump", "go", "enter", "call", "back", "room", "give"]
section
variable {P : Program} {w : World} {K : PySem.W.Frag} {mg : Str → Option Value} {base : Heap}
theorem kk_FORMS (T : Tx P w K mg base) : KKeys K w (He.ga K "FORMS") formsK := by
  have e : ts.map (fun t => He.dicW K (t.1 K)) = ts.map fun t => some (He.keysIn w.params t.2) := congrArg (fun z : He.AlT => z.2) T.t
  have e2 : (ts.map fun t => He.dicW K (t.1 K))[0]? = (ts.map fun t => some (He.keysIn w.params t.2))[0]? := by rw [e]
  exact kkeys_of (Option.some.inj e2) (by decide +kernel)
end
section
variable {X : Cx} {Δ : Dl} {e : Expr} {pos p p2 : Pos}
theorem ed_formsL [SJ] (hc : X.calm = true) (T : Tx X.prog X.w X.K X.mg X.base) (hg : Gl X "list" := by rfl) (hg2 : Gl X "FORMS" := by rfl) (hs : starEach [.Name "FORMS" p2] X.env = (false, eval (.Name "FORMS" p2) X.env) :: starEach [] X.env := by rfl) :
    ED X (.Call (.Name "list" p) [.Name "FORMS" p2] [] pos) Δ (.list (formsK.map .str)) :=
  ⟨_, pe_callTy (call_listK hc) hg (fr_list T) bt_list (pa_cons (pe_glob (v := .ref (He.ga X.K "FORMS")) hg2 (gl_FORMS T) rfl) pa_nil hs) (he := hs), fun σ H s Q q =>
    ⟨_, formsK, rfl, kk_FORMS T, by decide +kernel, fun p' hp => q _ _ (Ex.new hp) (.lst (SqL.of upd_same) (dpa_of_strs formsK))⟩⟩
theorem ed_formsIx [SJ] {x y : Str} (T : Tx X.prog X.w X.K X.mg X.base) (h : ED X e Δ (.str x)) (hx : (x, He.Dv.str y) ∈ formsD) (hg2 : Gl X "FORMS" := by rfl) (hs : PlainIx e := by exact fun _ _ => rfl) : ED X (.Subscript (.Name "FORMS" p2) e pos) Δ (.str y) :=
  let ⟨_, pa, ga⟩ := h.ex
  ⟨_, pe_ix ix_kdict (pe_glob (v := .ref (He.ga X.K "FORMS")) hg2 (gl_FORMS T) rfl) pa hs, fun σ H s Q q => ga σ H s _ fun v H1 e1 r1 => by
    obtain ⟨es, n, D⟩ := kd_FORMS T
    obtain ⟨u, hu, ru⟩ := fv_FORMS T hx
    exact ⟨_, x, .str y, rfl, dp_str r1, ⟨es, n, u, D.at_, D.lit, hu, ru⟩, q _ H1 e1 (.str _)⟩⟩
end
end Sr

set_option Elab.async false
set_option linter.all false
set_option maxRecDepth 100000
set_option maxHeartbeats 4000000
/-! try without a raise; a written dict of three, subscripted; zip of two tuples. -/
namespace Sr
open PySem PySem.Spec PyProof.Rows L2
open Evl (Ex)
section
variable {X : Cx} {E : XK} {CF : Addr} {Δ : Dl} {r : Rs} {pos : Pos}
theorem sd_try [SJ] {body : List Stmt} {h0 : ExceptHandler} {hs : List ExceptHandler} (h : BD X.nox E CF body Δ r) : SD X E CF (.Try body (h0 :: hs) [] [] pos) Δ r :=
  let ⟨_, p, g⟩ := h.ex
  ⟨_, ps_try_thru0 p, g⟩
end
/-! ### data in the heap without its changing things -/
def cut (S : List Addr) (H : Hp) : Hp := fun a => if a ∈ S then none else H a
/-- no list in the data -/
def tupOnly : PyData → Bool
  | .tuple ds => go ds
  | .list _ => false
  | _ => true
where go : List PyData → Bool
  | [] => true
  | d :: ds => tupOnly d && go ds
section
variable {K : PySem.W.Frag} {H : Hp} {S : List Addr}
theorem cut_rd {a : Addr} {u : HO} (hS : ∀ b ∈ S, ¬ Rd H b u) (h : Rd H a u) : Rd (cut S H) a u := by
  have hn : a ∉ S := fun z => hS a z h
  unfold Rd cut at *
  rw [if_neg hn]
  exact h
mutual
theorem dp_cutA (hT : ∀ b ∈ S, ∀ xs, ¬ Rd H b (.tup xs)) (hL : ∀ b ∈ S, ∀ xs, ¬ Rd H b (.lst xs)) : ∀ (d : PyData) (v : V), Dp K H v d → Dp K (cut S H) v d
  | .none, _, h => by cases h; exact .non
  | .bool b, _, h => by cases h; exact .bl b
  | .int i, _, h => by cases h; exact .int i
  | .str x, _, h => by cases h; exact .str x
  | .list ds, _, h => by
    cases h with
    | lst hs ha => exact .lst (hs.imp (cut_rd fun b hb => hL b hb _) id) (dps_cutA hT hL ds _ ha)
  | .tuple ds, _, h => by
    cases h with
    | tup hs ha => exact .tup (hs.imp (cut_rd fun b hb => hT b hb _) id) (dps_cutA hT hL ds _ ha)
  | .dict _, _, h => by cases h
theorem dps_cutA (hT : ∀ b ∈ S, ∀ xs, ¬ Rd H b (.tup xs)) (hL : ∀ b ∈ S, ∀ xs, ¬ Rd H b (.lst xs)) : ∀ (ds : List PyData) (vs : List V), DpAll K H vs ds → DpAll K (cut S H) vs ds
  | [], _, h => by cases h; exact .nil
  | d :: ds, _, h => by
    cases h with
    | cons h1 h2 => exact .cons (dp_cutA hT hL d _ h1) (dps_cutA hT hL ds _ h2)
end
mutual
theorem dp_cutB (hT : ∀ b ∈ S, ∀ xs, ¬ Rd H b (.tup xs)) : ∀ (d : PyData) (v : V), tupOnly d = true → Dp K H v d → Dp K (cut S H) v d
  | .none, _, _, h => by cases h; exact .non
  | .bool b, _, _, h => by cases h; exact .bl b
  | .int i, _, _, h => by cases h; exact .int i
  | .str x, _, _, h => by cases h; exact .str x
  | .list ds, _, t, h => by cases t
  | .tuple ds, _, t, h => by
    cases h with
    | tup hs ha => exact .tup (hs.imp (cut_rd fun b hb => hT b hb _) id) (dps_cutB hT ds _ t ha)
  | .dict _, _, _, h => by cases h
theorem dps_cutB (hT : ∀ b ∈ S, ∀ xs, ¬ Rd H b (.tup xs)) : ∀ (ds : List PyData) (vs : List V), tupOnly.go ds = true → DpAll K H vs ds → DpAll K (cut S H) vs ds
  | [], _, _, h => by cases h; exact .nil
  | d :: ds, _, t, h => by
    have t' : tupOnly d = true ∧ tupOnly.go ds = true := by rw [← Bool.and_eq_true]; exact t
    cases h with
    | cons h1 h2 => exact .cons (dp_cutB hT d _ t'.1 h1) (dps_cutB hT ds _ t'.2 h2)
end
theorem cut_le : Ex (cut S H) H := fun a o h => by
  unfold cut at h
  split at h
  · cases h
  · exact h
theorem cut_ex {H' : Hp} (e : Ex H H') : Ex (cut S H) (cut S H') := fun a o h => by
  unfold cut at *
  split at h
  · cases h
  · rename_i hn
    rw [if_neg hn]
    exact e a o h
theorem cut_upd {p : Addr} {o : HO} (hp : p ∈ S) : cut S (upd H p o) = cut S H := by
  funext a
  unfold cut
  split
  · rfl
  · rename_i hn
    exact upd_ne fun z => hn (z ▸ hp)
end
theorem merge3 {k1 k2 k3 : Str} {a b c : V} (h12 : k1 ≠ k2) (h13 : k1 ≠ k3) (h23 : k2 ≠ k3) : mergeK [] [(Sum.inr k1, a), (Sum.inr k2, b), (Sum.inr k3, c)] = [(Sum.inr k1, a), (Sum.inr k2, b), (Sum.inr k3, c)] := by
  simp [mergeK, putK, h12, h13, h23]
section
variable {X : Cx} {Δ : Dl} {e v1 v2 v3 : Expr} {pos dp q1 q2 q3 : Pos} {j1 j2 j3} {d1 d2 d3 d : PyData} {x k1 k2 k3 : Str}
theorem ed_dispS3 [SJ] (hu : X.A.units + 1 < cLine) (h1 : ED X v1 Δ d1) (h2 : ED X v2 Δ d2) (h3 : ED X v3 Δ d3) (he : ED X e Δ (.str x)) (hx : x = k1 ∧ d = d1 ∨ x = k2 ∧ d = d2 ∨ x = k3 ∧ d = d3) (h12 : k1 ≠ k2 := by decide) (h13 : k1 ≠ k3 := by decide) (h23 : k2 ≠ k3 := by decide) (hs : NoSl e := by exact fun _ _ => rfl) :
    ED X (.Subscript (.Dict [some (.Constant (.str k1) j1 q1), some (.Constant (.str k2) j2 q2), some (.Constant (.str k3) j3 q3)] [v1, v2, v3] dp) e pos) Δ d := by
  obtain ⟨_, p1, g1⟩ := h1.ex
  obtain ⟨_, p2, g2⟩ := h2.ex
  obtain ⟨_, p3, g3⟩ := h3.ex
  obtain ⟨_, pe, ge⟩ := he.ex
  refine ⟨_, pe_dget hu (pe_disp (pps_cons pe_str p1 (pps_cons pe_str p2 (pps_cons pe_str p3 pps_nil))) rfl rfl (by simp) (Nat.le_of_ble_eq_true rfl)) pe hs, fun σ H s Q q => ?_⟩
  intro p hp
  have s0 : Sl X.K (upd H p (.dK [])) σ Δ := s.ex (Ex.new hp)
  refine g1 σ _ s0 _ fun x1 H1 e1 r1 => g2 σ H1 (s0.ex e1) _ fun x2 H2 e2 r2 => g3 σ H2 (s0.ex (e1.trans e2)) _ fun x3 H3 e3 r3 => ?_
  have ep : H3 p = some (.dK []) := e3 _ _ (e2 _ _ (e1 _ _ upd_same))
  refine ⟨ep, [(Sum.inr k1, x1), (Sum.inr k2, x2), (Sum.inr k3, x3)], rfl, Nat.le_of_ble_eq_true rfl, ?_⟩
  rw [merge3 h12 h13 h23]
  have e03 : Ex H H3 := (Ex.new hp).trans (e1.trans (e2.trans e3))
  have e04 : Ex H (upd H3 p (.dK [(Sum.inr k1, x1), (Sum.inr k2, x2), (Sum.inr k3, x3)])) := e03.mut hp
  have keep : ∀ {v : V} {d' : PyData}, Dp X.K H3 v d' → Dp X.K (upd H3 p (.dK [(Sum.inr k1, x1), (Sum.inr k2, x2), (Sum.inr k3, x3)])) v d' := fun r => dp_ex cut_le _ _ (by rw [cut_upd (List.mem_singleton.mpr rfl)]; exact dp_cutA (S := [p]) (fun b hb xs z => by rw [List.mem_singleton.mp hb] at z; rcases z with z | ⟨o, z⟩ <;> rw [ep] at z <;> cases z) (fun b hb xs z => by rw [List.mem_singleton.mp hb] at z; rcases z with z | ⟨o, z⟩ <;> rw [ep] at z <;> cases z) _ _ r)
  refine ge σ _ (s.ex e04) _ fun y H5 e5 r5 => ?_
  have ey := dp_str r5
  subst ey
  have e5p := e5 _ _ (upd_same (H := H3) (a := p) (o := .dK [(Sum.inr k1, x1), (Sum.inr k2, x2), (Sum.inr k3, x3)]))
  rcases hx with ⟨rfl, rfl⟩ | ⟨rfl, rfl⟩ | ⟨rfl, rfl⟩
  · refine ⟨p, x1, rfl, .inl ⟨_, Sum.inr x, .inl e5p, rfl, by simp [valV]⟩, q _ H5 (e04.trans e5) (dp_ex e5 _ _ (keep (dp_ex (e2.trans e3) _ _ r1)))⟩
  · refine ⟨p, x2, rfl, .inl ⟨_, Sum.inr x, .inl e5p, rfl, by simp [valV, h12]⟩, q _ H5 (e04.trans e5) (dp_ex e5 _ _ (keep (dp_ex e3 _ _ r2)))⟩
  · refine ⟨p, x3, rfl, .inl ⟨_, Sum.inr x, .inl e5p, rfl, by simp [valV, h13, h23]⟩, q _ H5 (e04.trans e5) (dp_ex e5 _ _ (keep r3))⟩
end
end Sr

set_option Elab.async false
set_option linter.all false
set_option maxRecDepth 100000
set_option maxHeartbeats 4000000
/-! Rows. -/
namespace Sr
open PySem PySem.Spec PyProof.Rows L2
open Evl (Ex)
/-- a number or a box -/
inductive By where
  | box (n : Int)
  | worth (n : Int)
def By.d : By → PyData
  | .box n => .tuple [.str "box", .int n]
  | .worth n => .tuple [.str "worth", .int n]
def By.ok : By → Prop
  | .box n => 0 ≤ n ∧ n ≤ 7
  | .worth n => 0 ≤ n ∧ n ≤ 65535
def DEEDSl : List Str := ["plus", "minus", "times", "and", "or", "either"]
def ASKSl : List Str := ["same", "unlike", "under", "from"]
def WHATSl : List Str := ["mark", "bits", "at", "low", "high", "rights", "kind"]
/-- a thing of a sort -/
inductive SortOk : Str → PyData → Prop where
  | b {n : Int} : 0 ≤ n → n ≤ 7 → SortOk "b" (.int n)
  | n {n : Int} : 0 ≤ n → n ≤ 65535 → SortOk "n" (.int n)
  | o {n : Int} : -8 ≤ n → n ≤ 15 → SortOk "o" (.int n)
  | t {n : Int} : 0 ≤ n → n ≤ 4095 → SortOk "t" (.int n)
  | y {b : By} : b.ok → SortOk "y" b.d
  | r {x : Str} : x ∈ lessMenu → SortOk "r" (.str x)
  | d {x : Str} : x ∈ DEEDSl → SortOk "d" (.str x)
  | j {x : Str} : x ∈ ASKSl → SortOk "j" (.str x)
  | k {x : Str} : x ∈ WHATSl → SortOk "k" (.str x)
theorem menu_rgt : ∀ x ∈ lessMenu, x = rgt x := by decide +kernel
section
variable {P : Program} {w : World} {K : PySem.W.Frag} {mg : Str → Option Value} {base : Heap}
def R_is_from : List PyData → PyData → Prop := fun ds d => ∃ n l h : Int, ds = [.int n, .int l, .int h] ∧ d = .bool (decide (l ≤ n) && decide (n ≤ h))
theorem sc_is_from : FnScope ["thing", "low", "high"] ["thing", "low", "high"] (defScope t_is_from) := ⟨rfl, rfl, rfl, by decide +kernel, rfl, by decide +kernel, by decide +kernel⟩
theorem pf_is_from (T : Tx P w K mg base) : PF P w K mg base 2 "is_from" R_is_from := by
  refine pf_of (N := ["thing", "low", "high"]) (ps := ["thing", "low", "high"]) (n := 0) (k := 1) (fd_is_from T) sc_is_from (gl_is_from T) rfl (fun ds d h => by obtain ⟨n, l, h, rfl, rfl⟩ := h; rfl) (fun _ _ _ _ _ _ us hl => match us, hl with | [_, _, _], _ => rfl) ?_
  intro f cdv A outer s H E hr ds d h
  obtain ⟨n, l, h, rfl, rfl⟩ := h
  exact ⟨.rt _, bd_one (sd_ret (ed_and' (ed_call (pf_is_whole T) (hr.mono (by decide)) (ad_cons (ed_var 0) ad_nil) (⟨_, rfl, rfl⟩)) fun hb => (ed_one (ed_ch2ee (ed_var 1) (ed_var 0) (ed_var 2)))) (rfl)), .inl rfl⟩
def R_is_by : List PyData → PyData → Prop := fun ds d => ∃ b : By, b.ok ∧ ds = [b.d] ∧ d = .bool true
theorem sc_is_by : FnScope ["thing"] ["thing"] (defScope t_is_by) := ⟨rfl, rfl, rfl, by decide +kernel, rfl, by decide +kernel, by decide +kernel⟩
theorem pf_is_by (T : Tx P w K mg base) : PF P w K mg base 3 "is_by" R_is_by := by
  refine pf_of (N := ["thing"]) (ps := ["thing"]) (n := 0) (k := 2) (fd_is_by T) sc_is_by (gl_is_by T) rfl (fun ds d h => by obtain ⟨b, hb, rfl, rfl⟩ := h; rfl) (fun _ _ _ _ _ _ us hl => match us, hl with | [_], _ => rfl) ?_
  intro f cdv A outer s H E hr ds d h
  obtain ⟨b, hb, rfl, rfl⟩ := h
  cases b with
  | box n =>
    obtain ⟨h0, h1⟩ := hb
    exact ⟨.rt _, bd_ifx (p := false) (td_is (WD.t (wd_or (td_not (td_val (ed_isi (fr_isinstance T) (fr_tuple T) bt_tuple (ed_var 0) (kit_tuple _)))) fun hb => (wd_or (td_neI (ed_len (fr_len T) (ed_var 0) (by first | exact .inl rfl | exact .inr rfl)) ed_int) fun hb => (wd_or1 (td_not (td_val (ed_isi (fr_isinstance T) (fr_str T) bt_str (ed_ixT (ed_var 0) ed_int) (kit_str _)))))))) rfl) (fun _ h => nomatch h) (fun h => Bool.noConfusion h) fun _ => bd_ifx (p := true) (td_is (td_eqX (ed_ixT (ed_var 0) ed_int) ed_str) rfl) (fun _ h => nomatch h) (fun _ => bd_one (sd_ret (ed_call (pf_is_from T) (hr.mono (by decide)) (ad_cons (ed_ixT (ed_var 0) ed_int) (ad_cons ed_int (ad_cons (ed_sub (ed_glob (c_BOXES_rows T)) ed_int) ad_nil))) (⟨n, _, _, rfl, rfl⟩)) ((by rw [decide_eq_true h0, decide_eq_true (show n ≤ 8 - 1 by omega)]; rfl)))) (fun h => Bool.noConfusion h), .inl rfl⟩
  | worth n =>
    obtain ⟨h0, h1⟩ := hb
    exact ⟨.rt _, bd_ifx (p := false) (td_is (WD.t (wd_or (td_not (td_val (ed_isi (fr_isinstance T) (fr_tuple T) bt_tuple (ed_var 0) (kit_tuple _)))) fun hb => (wd_or (td_neI (ed_len (fr_len T) (ed_var 0) (by first | exact .inl rfl | exact .inr rfl)) ed_int) fun hb => (wd_or1 (td_not (td_val (ed_isi (fr_isinstance T) (fr_str T) bt_str (ed_ixT (ed_var 0) ed_int) (kit_str _)))))))) rfl) (fun _ h => nomatch h) (fun h => Bool.noConfusion h) fun _ => bd_ifx (p := false) (td_is (td_eqX (ed_ixT (ed_var 0) ed_int) ed_str) rfl) (fun _ h => nomatch h) (fun h => Bool.noConfusion h) fun _ => bd_one (sd_ret (ed_and' (ed_eqX (ed_ixT (ed_var 0) ed_int) ed_str) fun hb => (ed_one (ed_call (pf_is_from T) (hr.mono (by decide)) (ad_cons (ed_ixT (ed_var 0) ed_int) (ad_cons ed_int (ad_cons (ed_glob (c_MOST_WORTH T)) ad_nil))) (⟨n, _, _, rfl, rfl⟩)))) ((by rw [decide_eq_true h0, decide_eq_true h1]; rfl))), .inl rfl⟩
def R_is_one_of : List PyData → PyData → Prop := fun ds d => ∃ (x : Str) (ws : List Str) (t : PyData), (t = .tuple (ws.map .str) ∨ t = .list (ws.map .str)) ∧ x ∈ ws ∧ ds = [.str x, t] ∧ d = .bool true
theorem flat_strs : ∀ ws : List Str, (ws.map PyData.str).all flatD = true
  | [] => rfl
  | _ :: r => flat_strs r
theorem inV_strs {x : Str} : ∀ {ws : List Str}, x ∈ ws → inV (vD (.str x)) ((ws.map PyData.str).map vD) = true := by
  intro ws h
  rw [List.map_map]
  unfold inV
  refine List.any_eq_true.mpr ⟨V.str x, List.mem_map.mpr ⟨x, h, rfl⟩, ?_⟩
  simp [vD, eqV]
theorem sc_is_one_of : FnScope ["thing", "words"] ["thing", "words"] (defScope t_is_one_of) := ⟨rfl, rfl, rfl, by decide +kernel, rfl, by decide +kernel, by decide +kernel⟩
theorem pf_is_one_of (T : Tx P w K mg base) : PF P w K mg base 1 "is_one_of" R_is_one_of := by
  refine pf_of (N := ["thing", "words"]) (ps := ["thing", "words"]) (n := 0) (k := 0) (fd_is_one_of T) sc_is_one_of (gl_is_one_of T) rfl (fun ds d h => by obtain ⟨x, ws, t, ht, hx, rfl, rfl⟩ := h; rfl) (fun _ _ _ _ _ _ us hl => match us, hl with | [_, _], _ => rfl) ?_
  intro f cdv A outer s H E hr ds d h
  obtain ⟨x, ws, t, ht, hx, rfl, rfl⟩ := h
  exact ⟨.rt _, bd_one (sd_ret (ed_and' (ed_isi (fr_isinstance T) (fr_str T) bt_str (ed_var 0) (kit_str _)) fun _ => ed_one (ed_in (ed_var 0) (ed_var 1) ht rfl (flat_strs ws))) (by rw [inV_strs hx]; rfl)), .inl rfl⟩
theorem fromT {n l h : Int} (h0 : l ≤ n) (h1 : n ≤ h) : PyData.bool (decide (l ≤ n) && decide (n ≤ h)) = .bool true := by rw [decide_eq_true h0, decide_eq_true h1]; rfl
def R_is_sort : List PyData → PyData → Prop := fun ds d => ∃ (s : Str) (x : PyData), SortOk s x ∧ ds = [.str s, x] ∧ d = .bool true
theorem sc_is_sort : FnScope ["sort", "thing"] ["sort", "thing"] (defScope t_is_sort) := ⟨rfl, rfl, rfl, by decide +kernel, rfl, by decide +kernel, by decide +kernel⟩
theorem pf_is_sort (T : Tx P w K mg base) : PF P w K mg base 4 "is_sort" R_is_sort := by
  refine pf_of (N := ["sort", "thing"]) (ps := ["sort", "thing"]) (n := 0) (k := 3) (fd_is_sort T) sc_is_sort (gl_is_sort T) rfl (fun ds d h => by obtain ⟨s, x, h, rfl, rfl⟩ := h; rfl) (fun _ _ _ _ _ _ us hl => match us, hl with | [_, _], _ => rfl) ?_
  intro f cdv A outer s H E hr ds d h
  obtain ⟨s, x, h, rfl, rfl⟩ := h
  cases h with
  | b h0 h1 => exact ⟨.rt _, bd_ifx (p := true) (td_is (td_eqS (ed_var 0) ed_str) rfl) (fun _ h => nomatch h) (fun _ => bd_one (sd_ret (ed_call (pf_is_from T) (hr.mono (by decide)) (ad_cons (ed_var 1) (ad_cons ed_int (ad_cons (ed_sub (ed_glob (c_BOXES_rows T)) ed_int) ad_nil))) (⟨_, _, _, rfl, rfl⟩)) ((fromT h0 (by omega))))) (fun h => Bool.noConfusion h), .inl rfl⟩
  | n h0 h1 => exact ⟨.rt _, bd_ifx (p := false) (td_is (td_eqS (ed_var 0) ed_str) rfl) (fun _ h => nomatch h) (fun h => Bool.noConfusion h) fun _ => bd_ifx (p := true) (td_is (td_eqS (ed_var 0) ed_str) rfl) (fun _ h => nomatch h) (fun _ => bd_one (sd_ret (ed_call (pf_is_from T) (hr.mono (by decide)) (ad_cons (ed_var 1) (ad_cons ed_int (ad_cons (ed_glob (c_MOST_WORTH T)) ad_nil))) (⟨_, _, _, rfl, rfl⟩)) ((fromT h0 (by omega))))) (fun h => Bool.noConfusion h), .inl rfl⟩
  | o h0 h1 => exact ⟨.rt _, bd_ifx (p := false) (td_is (td_eqS (ed_var 0) ed_str) rfl) (fun _ h => nomatch h) (fun h => Bool.noConfusion h) fun _ => bd_ifx (p := false) (td_is (td_eqS (ed_var 0) ed_str) rfl) (fun _ h => nomatch h) (fun h => Bool.noConfusion h) fun _ => bd_ifx (p := true) (td_is (td_eqS (ed_var 0) ed_str) rfl) (fun _ h => nomatch h) (fun _ => bd_one (sd_ret (ed_call (pf_is_from T) (hr.mono (by decide)) (ad_cons (ed_var 1) (ad_cons (ed_glob (c_LEAST_OFFSET_rows T)) (ad_cons (ed_glob (c_MOST_OFFSET_rows T)) ad_nil))) (⟨_, _, _, rfl, rfl⟩)) ((fromT h0 (by omega))))) (fun h => Bool.noConfusion h), .inl rfl⟩
  | t h0 h1 => exact ⟨.rt _, bd_ifx (p := false) (td_is (td_eqS (ed_var 0) ed_str) rfl) (fun _ h => nomatch h) (fun h => Bool.noConfusion h) fun _ => bd_ifx (p := false) (td_is (td_eqS (ed_var 0) ed_str) rfl) (fun _ h => nomatch h) (fun h => Bool.noConfusion h) fun _ => bd_ifx (p := false) (td_is (td_eqS (ed_var 0) ed_str) rfl) (fun _ h => nomatch h) (fun h => Bool.noConfusion h) fun _ => bd_ifx (p := true) (td_is (td_eqS (ed_var 0) ed_str) rfl) (fun _ h => nomatch h) (fun _ => bd_one (sd_ret (ed_call (pf_is_from T) (hr.mono (by decide)) (ad_cons (ed_var 1) (ad_cons ed_int (ad_cons (ed_sub (ed_glob (c_CELLS T)) ed_int) ad_nil))) (⟨_, _, _, rfl, rfl⟩)) ((fromT h0 (by omega))))) (fun h => Bool.noConfusion h), .inl rfl⟩
  | y hb => exact ⟨.rt _, bd_ifx (p := false) (td_is (td_eqS (ed_var 0) ed_str) rfl) (fun _ h => nomatch h) (fun h => Bool.noConfusion h) fun _ => bd_ifx (p := false) (td_is (td_eqS (ed_var 0) ed_str) rfl) (fun _ h => nomatch h) (fun h => Bool.noConfusion h) fun _ => bd_ifx (p := false) (td_is (td_eqS (ed_var 0) ed_str) rfl) (fun _ h => nomatch h) (fun h => Bool.noConfusion h) fun _ => bd_ifx (p := false) (td_is (td_eqS (ed_var 0) ed_str) rfl) (fun _ h => nomatch h) (fun h => Bool.noConfusion h) fun _ => bd_ifx (p := true) (td_is (td_eqS (ed_var 0) ed_str) rfl) (fun _ h => nomatch h) (fun _ => bd_one (sd_ret (ed_call (pf_is_by T) (hr.mono (by decide)) (ad_cons (ed_var 1) ad_nil) (⟨_, hb, rfl, rfl⟩)) (rfl))) (fun h => Bool.noConfusion h), .inl rfl⟩
  | r hx => exact ⟨.rt _, bd_ifx (p := false) (td_is (td_eqS (ed_var 0) ed_str) rfl) (fun _ h => nomatch h) (fun h => Bool.noConfusion h) fun _ => bd_ifx (p := false) (td_is (td_eqS (ed_var 0) ed_str) rfl) (fun _ h => nomatch h) (fun h => Bool.noConfusion h) fun _ => bd_ifx (p := false) (td_is (td_eqS (ed_var 0) ed_str) rfl) (fun _ h => nomatch h) (fun h => Bool.noConfusion h) fun _ => bd_ifx (p := false) (td_is (td_eqS (ed_var 0) ed_str) rfl) (fun _ h => nomatch h) (fun h => Bool.noConfusion h) fun _ => bd_ifx (p := false) (td_is (td_eqS (ed_var 0) ed_str) rfl) (fun _ h => nomatch h) (fun h => Bool.noConfusion h) fun _ => bd_ifx (p := true) (td_is (td_eqS (ed_var 0) ed_str) rfl) (fun _ h => nomatch h) (fun _ => bd_one (sd_ret (ed_call (pf_is_rights T) (hr.mono (by decide)) (ad_cons (ed_var 1) ad_nil) (⟨_, rfl, rfl⟩)) ((by rw [decide_eq_true (menu_rgt _ hx)])))) (fun h => Bool.noConfusion h), .inl rfl⟩
  | d hx => exact ⟨.rt _, bd_ifx (p := false) (td_is (td_eqS (ed_var 0) ed_str) rfl) (fun _ h => nomatch h) (fun h => Bool.noConfusion h) fun _ => bd_ifx (p := false) (td_is (td_eqS (ed_var 0) ed_str) rfl) (fun _ h => nomatch h) (fun h => Bool.noConfusion h) fun _ => bd_ifx (p := false) (td_is (td_eqS (ed_var 0) ed_str) rfl) (fun _ h => nomatch h) (fun h => Bool.noConfusion h) fun _ => bd_ifx (p := false) (td_is (td_eqS (ed_var 0) ed_str) rfl) (fun _ h => nomatch h) (fun h => Bool.noConfusion h) fun _ => bd_ifx (p := false) (td_is (td_eqS (ed_var 0) ed_str) rfl) (fun _ h => nomatch h) (fun h => Bool.noConfusion h) fun _ => bd_ifx (p := false) (td_is (td_eqS (ed_var 0) ed_str) rfl) (fun _ h => nomatch h) (fun h => Bool.noConfusion h) fun _ => bd_one (sd_ret (ed_call (pf_is_one_of T) (hr.mono (by decide)) (ad_cons (ed_var 1) (ad_cons (ed_dispS3 (hu_of hr) (ed_glob (c_DEEDS T)) (ed_glob (c_ASKS T)) (ed_glob (c_WHATS T)) (ed_var 0) (.inl ⟨rfl, rfl⟩)) ad_nil)) (⟨_, DEEDSl, _, .inl rfl, hx, rfl, rfl⟩)) (rfl)), .inl rfl⟩
  | j hx => exact ⟨.rt _, bd_ifx (p := false) (td_is (td_eqS (ed_var 0) ed_str) rfl) (fun _ h => nomatch h) (fun h => Bool.noConfusion h) fun _ => bd_ifx (p := false) (td_is (td_eqS (ed_var 0) ed_str) rfl) (fun _ h => nomatch h) (fun h => Bool.noConfusion h) fun _ => bd_ifx (p := false) (td_is (td_eqS (ed_var 0) ed_str) rfl) (fun _ h => nomatch h) (fun h => Bool.noConfusion h) fun _ => bd_ifx (p := false) (td_is (td_eqS (ed_var 0) ed_str) rfl) (fun _ h => nomatch h) (fun h => Bool.noConfusion h) fun _ => bd_ifx (p := false) (td_is (td_eqS (ed_var 0) ed_str) rfl) (fun _ h => nomatch h) (fun h => Bool.noConfusion h) fun _ => bd_ifx (p := false) (td_is (td_eqS (ed_var 0) ed_str) rfl) (fun _ h => nomatch h) (fun h => Bool.noConfusion h) fun _ => bd_one (sd_ret (ed_call (pf_is_one_of T) (hr.mono (by decide)) (ad_cons (ed_var 1) (ad_cons (ed_dispS3 (hu_of hr) (ed_glob (c_DEEDS T)) (ed_glob (c_ASKS T)) (ed_glob (c_WHATS T)) (ed_var 0) (.inr (.inl ⟨rfl, rfl⟩))) ad_nil)) (⟨_, ASKSl, _, .inl rfl, hx, rfl, rfl⟩)) (rfl)), .inl rfl⟩
  | k hx => exact ⟨.rt _, bd_ifx (p := false) (td_is (td_eqS (ed_var 0) ed_str) rfl) (fun _ h => nomatch h) (fun h => Bool.noConfusion h) fun _ => bd_ifx (p := false) (td_is (td_eqS (ed_var 0) ed_str) rfl) (fun _ h => nomatch h) (fun h => Bool.noConfusion h) fun _ => bd_ifx (p := false) (td_is (td_eqS (ed_var 0) ed_str) rfl) (fun _ h => nomatch h) (fun h => Bool.noConfusion h) fun _ => bd_ifx (p := false) (td_is (td_eqS (ed_var 0) ed_str) rfl) (fun _ h => nomatch h) (fun h => Bool.noConfusion h) fun _ => bd_ifx (p := false) (td_is (td_eqS (ed_var 0) ed_str) rfl) (fun _ h => nomatch h) (fun h => Bool.noConfusion h) fun _ => bd_ifx (p := false) (td_is (td_eqS (ed_var 0) ed_str) rfl) (fun _ h => nomatch h) (fun h => Bool.noConfusion h) fun _ => bd_one (sd_ret (ed_call (pf_is_one_of T) (hr.mono (by decide)) (ad_cons (ed_var 1) (ad_cons (ed_dispS3 (hu_of hr) (ed_glob (c_DEEDS T)) (ed_glob (c_ASKS T)) (ed_glob (c_WHATS T)) (ed_var 0) (.inr (.inr ⟨rfl, rfl⟩))) ad_nil)) (⟨_, WHATSl, _, .inl rfl, hx, rfl, rfl⟩)) (rfl)), .inl rfl⟩
end
end Sr

set_option Elab.async false
set_option linter.all false
set_option maxRecDepth 100000
set_option maxHeartbeats 4000000
/-! Rows (stage 2). -/
namespace Sr
open PySem PySem.Spec PyProof.Rows L2
open Evl (Ex)
theorem atI0 {α : Type} {x : α} {xs : List α} : atI (x :: xs) 0 = some x := by
  unfold atI ixN
  rw [if_pos (by decide), if_pos (by show (0 : Int) < ((xs.length + 1 : Nat) : Int); omega)]
  rfl
theorem cut1 {x : PyData} {xs : List PyData} : cutD (x :: xs) (some 1) none = xs := by
  have e : HT.sIx (x :: xs).length 0 (some 1) = 1 := by
    unfold HT.sIx
    simp
  have e2 : HT.sIx (x :: xs).length (x :: xs).length none = (x :: xs).length := rfl
  unfold cutD
  rw [e, e2]
  simp
/-- a row -/
structure RowOk (x : Str) (args : List PyData) : Prop where
  ex : ∃ z : Str, (x, He.Dv.str z) ∈ formsD ∧ z.cps.size = args.length ∧ (∀ p ∈ z.cps.toList.zip args, SortOk ⟨#[p.1]⟩ p.2)
  sh : SeqAt.shaped (.tuple (.str x :: args)) = true
  few : args.length ≤ 50
theorem forms_in {x : Str} {z : Str} (h : (x, He.Dv.str z) ∈ formsD) : x ∈ formsK := by
  have : ∀ q ∈ formsD, q.1 ∈ formsK := by decide +kernel
  exact this _ h
def zT (z : Str) (th : PyData) : PyData → Dl
  | .tuple [a, b] => [some th, some (.str z), some a, some b]
  | _ => []
theorem pf_tm [SJ] {X : Cx} {k : Nat} {x : Str} {R : List PyData → PyData → Prop} (hr : Room k X.A) (pf : PF X.prog X.w X.K X.mg X.base k x R) : ∃ tm : TA → TE,
    (∀ (e : Expr) (es : List Expr) (p pos : Pos) (ta : TA), Gl X x → PA X (e :: es) ta → (x == ("__debug__" : Str)) = false →
      starEach (e :: es) X.env = (false, eval e X.env) :: starEach es X.env → (backTo pos (starEach es X.env)).any (·.1) = false → PE X (.Call (.Name x p) (e :: es) [] pos) (tm ta)) ∧
    (∀ Δ ds d ta, GA X.K ta Δ ds → R ds d → GE X.K (tm ta) Δ d) := by
  obtain ⟨_, _, _, dvs, _, _, F, hm, hk, hb, hv, hR⟩ := pf.ex
  refine ⟨_, fun e es p pos ta hg pa hdb he hpl => pe_call F hr hg hm hk hb hv pass0 pa hdb he hpl, fun Δ ds d ta ga h σ H s Q q => ga σ H s _ fun vs H1 e1 r1 => ?_⟩
  obtain ⟨es', h1, h2⟩ := hR ds d h
  exact ⟨ds ++ es', d, dpa_app r1 (h1 H1), h2, fun v H2 e2 r2 => q v H2 (e1.trans e2) r2⟩
theorem bd_iff [SJ] {X : Cx} {E : XK} {CF : Addr} {Δ : Dl} {c : Expr} {A sts : List Stmt} {pos : Pos} {r : Rs} (hc : TD X c Δ false) (h2 : BD X E CF sts Δ r) : BD X E CF (.If c A [] pos :: sts) Δ r := bd_cons (sd_if hc (fun z => Bool.noConfusion z) fun _ => bd_nil) h2
def rInSt : R2 := fun x y H Q => ∃ i j, x = .str i ∧ y = .str j ∧ Q (.bl (!(Builtin.Str.occurrences j i 0 j.length 1).isEmpty)) H
theorem gt_B' [SJ] {K : PySem.W.Frag} {Δ : Dl} {t : TE} {p : Bool} (g : GE K t Δ (.bool p)) : GT K (tB t) Δ p := fun σ H s Q q => g σ H s _ fun v H1 e r => ⟨p, dp_bl r, q H1 e⟩
theorem gt_not [SJ] {K : PySem.W.Frag} {Δ : Dl} {t : TT} {p : Bool} (g : GT K t Δ p) : GT K (tNot t) Δ (!p) := fun σ H s Q q => g σ H s _ fun H1 e => q H1 e
/-- (a, b) = a pair -/
theorem gg_pair [SJ] {K : PySem.W.Frag} {Δ : Dl} {d1 d2 : PyData} (i j : Nat) (hk : ∀ i, SJ.ok i := by exact fun _ => True.intro) {σ : L2.St} {H : Hp} {v : V} (s : Sl K H σ Δ) (r : Dp K H v (.tuple [d1, d2])) {Q : L2.St → Hp → Prop}
    (q : ∀ σ' H', Ex H H' → Sl K H' σ' ((Δ.set i (some d1)).set j (some d2)) → Q σ' H') : gTup K 2 (gCons (gName i) (gCons (gName j) gNil)) v σ H Q := by
  obtain ⟨a, xs, e, hs, rs⟩ := dp_tup r
  cases rs with
  | cons r1 rs =>
    cases rs with
    | cons r2 rs =>
      cases rs
      exact ⟨a, _, e, hs, rfl, _, _, rfl, _, _, rfl, rfl, q _ H (Ex.refl H) ((s.set r1 (hk _)).set r2 (hk _))⟩
section
variable {P : Program} {w : World} {K : PySem.W.Frag} {mg : Str → Option Value} {base : Heap}
def R_is_row : List PyData → PyData → Prop := fun ds d => ∃ (x : Str) (args : List PyData), RowOk x args ∧ ds = [.tuple (.str x :: args)] ∧ d = .bool true
theorem sc_is_row : FnScope ["thing", "sorts", "sort", "one"] ["thing"] (defScope t_is_row) := ⟨rfl, rfl, rfl, by decide +kernel, rfl, by decide +kernel, by decide +kernel⟩
theorem pf_is_row (T : Tx P w K mg base) : PF P w K mg base 5 "is_row" R_is_row := by
  refine pf_of (N := ["thing", "sorts", "sort", "one"]) (ps := ["thing"]) (n := 3) (k := 4) (fd_is_row T) sc_is_row (gl_is_row T) rfl (fun ds d h => by obtain ⟨x, args, ⟨⟨z, hz, hl, hs⟩, sh, few⟩, rfl, rfl⟩ := h; rfl) (fun _ _ _ _ _ _ us hl => match us, hl with | [_], _ => rfl) ?_
  intro f cdv A outer s H E hr ds d h
  obtain ⟨x, args, ⟨⟨z, hz, hl, hs⟩, sh, few⟩, rfl, rfl⟩ := h
  obtain ⟨tm, q1, q2⟩ := pf_blk (hr.mono (by decide : 4 ≤ 4)) (pf_is_sort T)
  have ht : TD (cxOf CX0 P w K mg base ["thing", "sorts", "sort", "one"] "is_row" (defScope t_is_row) f cdv A outer s H E).nox (match defBody t_is_row with | .If c _ _ _ :: _ => c | _ => default) [some (.tuple (.str x :: args)), none, none, none] false :=
    td_is (WD.t (wd_or (td_not (td_val (ed_isi (fr_isinstance T) (fr_tuple T) bt_tuple (ed_var 0) (kit_tuple _)))) fun hb => wd_or (td_eq hr.units (ed_var 0) (ed_tup ad_nil) sh rfl) fun hb => wd_or1 (td_not (td_val (ed_call (pf_is_one_of T) (hr.mono (by decide)) (ad_cons (ed_ixT (ed_var 0) ed_int atI0) (ad_cons (ed_formsL rfl T) ad_nil)) ⟨x, formsK, _, .inr rfl, forms_in hz, rfl, rfl⟩))))) (by simp [is_tuple, PyData.eqv, PyData.eqvAll])
  refine ⟨.rt _, bd_ifx (p := false) ht (fun _ h => nomatch h) (fun h => Bool.noConfusion h) fun _ => bd_cons (sd_set 1 sc_is_row.nd (ed_formsIx T (ed_ixT (ed_var 0) ed_int atI0) hz)) (bd_one (sd_ret (ed_and' (ed_eqI (ed_len (fr_len T) (ed_var 0) (.inr rfl)) (ed_add (ed_lenS (fr_len T) (ed_var 1) ?_) ed_int)) fun hb => ed_one (ed_all rfl (fr_all T) (ed_is (d1 := .list ((List.replicate args.length true).map .bool)) (ed_lc (te := tm (tCons (tVar 2) (tCons (tVar 3) tNil))) (own := [("sort", 2), ("one", 3)]) (p := fun _ => true) (out := fun _ => .bool true) (zT z (.tuple (.str x :: args))) rfl sc_is_row.nd (id_zipS (fr_zip T) (ed_var 1) (ed_is (ed_slT (ed_var 0) (od_int ed_int) od_none) (congrArg PyData.tuple cut1)) hl) (blkOk_by (by rfl)) (fun _ _ _ _ _ => pg_tup rfl (pgs_cons (pg_name sc_is_row.nd rfl (.inl rfl) (.inr rfl)) (pgs_cons (pg_name sc_is_row.nd rfl (.inl rfl) (.inr rfl)) pgs_nil))) (fun d hd => by obtain ⟨p, hp, rfl⟩ := List.mem_map.mp hd; exact gw_pair 2 3 (by decide)) (fun _ _ _ _ _ => pts_nil) (fun d hd σ H s Q q => q H (Ex.refl H)) (fun _ _ _ _ _ => q1 _ _ _ _ _ _ _ _ _ _ rfl (pa_cons (pv 2) (pa_cons (pv 3) pa_nil)) (by decide) rfl rfl) (fun d hd hp => by obtain ⟨p, hp, rfl⟩ := List.mem_map.mp hd; exact q2 _ [.str ⟨#[p.1]⟩, p.2] _ _ (ga_cons (ge_var rfl) (ga_cons (ge_var rfl) ga_nil)) ⟨_, _, hs p hp, rfl, rfl⟩) (fun d hd hp => rfl) ?_) ?_))) ?_)), .inl rfl⟩
  · show z.cps.size ≤ _
    rw [hl]
    exact Nat.le_trans few (by decide +kernel)
  · show (zipS z args).length < _
    unfold zipS
    rw [List.length_map, List.length_zip, Array.length_toList, hl, Nat.min_self]
    exact Nat.lt_of_le_of_lt few (by decide +kernel)
  · rw [List.filter_eq_self.mpr (fun _ _ => rfl), List.map_const', List.map_replicate]
    congr 2
    unfold zipS
    rw [List.length_map, List.length_zip, Array.length_toList, hl, Nat.min_self]
  · have e1 : (List.replicate args.length true).all id = true := by simp
    have e2 : (((.str x :: args : List PyData).length : Nat) : Int) = ((z.length : Nat) : Int) + 1 := by
      show ((args.length + 1 : Nat) : Int) = ((z.cps.size : Nat) : Int) + 1
      omega
    rw [decide_eq_true e2, e1]
    rfl
def RowD (d : PyData) : Prop := ∃ x args, RowOk x args ∧ d = .tuple (.str x :: args)
def R_look_at_rows : List PyData → PyData → Prop := fun ds d => ∃ rs : List PyData, (∀ r ∈ rs, RowD r) ∧ 1 ≤ rs.length ∧ rs.length ≤ 64 ∧ ds = [.list rs] ∧ d = .none
def lrF (rs : List PyData) : Nat → Dl
  | 0 => [some (.list rs), none, none]
  | i + 1 => [some (.list rs), some (.int (i : Nat)), rs[i]?]
theorem sc_look_at_rows : FnScope ["thing", "number", "row"] ["thing"] (defScope t_look_at_rows) := ⟨rfl, rfl, rfl, by decide +kernel, rfl, by decide +kernel, by decide +kernel⟩
theorem pf_look_at_rows (T : Tx P w K mg base) : PF P w K mg base 6 "look_at_rows" R_look_at_rows := by
  refine pf_of (N := ["thing", "number", "row"]) (ps := ["thing"]) (n := 2) (k := 5) (fd_look_at_rows T) sc_look_at_rows (gl_look_at_rows T) rfl (fun ds d h => by obtain ⟨rs, hR, l1, l2, rfl, rfl⟩ := h; rfl) (fun _ _ _ _ _ _ us hl => match us, hl with | [_], _ => rfl) ?_
  intro f cdv A outer s H E hr ds d h
  obtain ⟨rs, hR, l1, l2, rfl, rfl⟩ := h
  obtain ⟨tm, q1, q2⟩ := pf_tm (hr.mono (by decide : 5 ≤ 5)) (pf_is_row T)
  have hen : (enumD rs).length = rs.length := by unfold enumD; rw [List.length_map, List.length_zipIdx]
  refine ⟨.nx _, bd_iff (td_is (WD.t (wd_or (td_not (td_val (ed_isi (fr_isinstance T) (fr_list T) bt_list (ed_var 0) (kit_list _)))) fun hb => (wd_or1 (td_not (td_ch2ee ed_int (ed_len (fr_len T) (ed_var 0) (by first | exact .inl rfl | exact .inr rfl)) (ed_glob (c_MOST_ROWS T))))))) ?_) (bd_one (sd_for PassesOwn.never rfl (id_enum (fr_enumerate T) (ed_var 0)) (lrF rs) (fun i => lrF rs (i + 1)) rfl ⟨gTup K 2 (gCons (gName 1) (gCons (gName 2) gNil)), pg_tup rfl (pgs_cons (pg_name sc_look_at_rows.nd rfl (.inl rfl) (.inr rfl)) (pgs_cons (pg_name sc_look_at_rows.nd rfl (.inl rfl) (.inr rfl)) pgs_nil)), fun i d hd => ?_⟩ ⟨tIfS (tNot (tB (tm (tCons (tVar 2) tNil)))) (fun _ _ _ => False) tNext, pss_one (ps_if (pt_not (pt_val (q1 _ _ _ _ _ rfl (pa_cons (pv 2) pa_nil) (by decide) rfl rfl))) pss_never pss_nil), fun i hi => ?_⟩)), .inr ⟨_, rfl, rfl⟩⟩
  · show (!is_list (.list rs) || !(decide ((1 : Int) ≤ rs.length) && decide ((rs.length : Int) ≤ 64))) = false
    rw [decide_eq_true (show (1 : Int) ≤ rs.length by omega), decide_eq_true (show (rs.length : Int) ≤ 64 by omega)]
    rfl
  · unfold enumD at hd
    rw [List.getElem?_map, List.getElem?_zipIdx] at hd
    cases hq : rs[i]? with
    | none => rw [hq] at hd; cases hd
    | some r =>
      rw [hq] at hd
      have hd' : d = .tuple [.int (i : Nat), r] := by simpa using hd.symm
      subst hd'
      intro σ H v s rv Q q
      refine gg_pair 1 2 (hk := fun _ => True.intro) s rv fun σ' H' e s' => q σ' H' e ?_
      have e2 : ((lrF rs i).set 1 (some (.int (i : Nat)))).set 2 (some r) = lrF rs (i + 1) := by
        show _ = [some (.list rs), some (.int (i : Nat)), rs[i]?]
        rw [hq]
        cases i <;> rfl
      rw [e2] at s'
      exact s'
  · rw [hen] at hi
    have hq := List.getElem?_eq_getElem hi
    obtain ⟨x, args, hok, he⟩ := hR _ (List.getElem_mem hi)
    rw [he] at hq
    intro D σ H s q
    refine gt_not (gt_B' (q2 (lrF rs (i + 1)) [.tuple (.str x :: args)] (.bool true) _ (ga_cons (ge_var (by show some (rs[i]?) = some (some _); rw [hq])) ga_nil) ⟨x, args, hok, rfl, rfl⟩)) σ H s _ fun H1 e1 => ?_
    exact q σ H1 e1 (s.ex e1)
def R_are_rows : List PyData → PyData → Prop := fun ds d => ∃ rs : List PyData, (∀ r ∈ rs, RowD r) ∧ 1 ≤ rs.length ∧ rs.length ≤ 64 ∧ ds = [.list rs] ∧ d = .bool true
theorem sc_are_rows : FnScope ["thing"] ["thing"] (defScope t_are_rows) := ⟨rfl, rfl, rfl, by decide +kernel, rfl, by decide +kernel, by decide +kernel⟩
theorem pf_are_rows (T : Tx P w K mg base) : PF P w K mg base 7 "are_rows" R_are_rows := by
  refine pf_of (N := ["thing"]) (ps := ["thing"]) (n := 0) (k := 6) (fd_are_rows T) sc_are_rows (gl_are_rows T) rfl (fun ds d h => by obtain ⟨rs, hR, l1, l2, rfl, rfl⟩ := h; rfl) (fun _ _ _ _ _ _ us hl => match us, hl with | [_], _ => rfl) ?_
  intro f cdv A outer s H E hr ds d h
  obtain ⟨rs, hR, l1, l2, rfl, rfl⟩ := h
  exact ⟨.rt _, bd_cons (sd_try (bd_one (sd_expr (ed_call (pf_look_at_rows T) (hr.mono (by decide)) (ad_cons (ed_var 0) ad_nil) ⟨rs, hR, l1, l2, rfl, rfl⟩)))) (bd_one (sd_ret ed_bl (rfl))), .inl rfl⟩
def R_is_name : List PyData → PyData → Prop := fun ds d => ds = [.str "a"] ∧ d = .bool true
theorem sc_is_name : FnScope ["thing", "sign"] ["thing"] (defScope t_is_name) := ⟨rfl, rfl, rfl, by decide +kernel, rfl, by decide +kernel, by decide +kernel⟩
theorem pf_is_name (T : Tx P w K mg base) : PF P w K mg base 1 "is_name" R_is_name := by
  refine pf_of (N := ["thing", "sign"]) (ps := ["thing"]) (n := 1) (k := 0) (fd_is_name T) sc_is_name (gl_is_name T) rfl (fun ds d h => by obtain ⟨rfl, rfl⟩ := h; rfl) (fun _ _ _ _ _ _ us hl => match us, hl with | [_], _ => rfl) ?_
  intro f cdv A outer s H E hr ds d h
  obtain ⟨rfl, rfl⟩ := h
  obtain ⟨tg, hg⟩ := glb_str (c_LETTERS T)
  refine ⟨.rt _, bd_iff (td_is (WD.t (wd_or (td_not (td_val (ed_isi (fr_isinstance T) (fr_str T) bt_str (ed_var 0) (kit_str _)))) fun hb => (wd_or1 (td_not (td_ch2ee ed_int (ed_lenS (fr_len T) (ed_var 0) (by decide +kernel)) (ed_glob (c_MOST_LETTERS T))))))) (by decide +kernel)) (bd_one (sd_ret (ed_all rfl (fr_all T) (ed_is (d1 := .list (([true] : List Bool).map .bool)) (ed_lc (te := tOp rInSt (tVar 1) (tC (.str "abcdefghijklmnopqrstuvwxyz"))) (own := [("sign", 1)]) (p := fun _ => true) (out := fun _ => .bool true) (fun d => [some (.str "a"), some d]) rfl sc_is_name.nd (id_str (ed_var 0)) (blkOk_by (by rfl)) (fun _ _ _ _ _ => pg_name sc_is_name.nd rfl (.inl rfl)) (fun d hd => gw_name 1) (fun _ _ _ _ _ => pts_nil) (fun d hd σ H s Q q => q H (Ex.refl H)) (fun _ _ _ _ _ => pe_cmpR op_in_str (pv 1) (pe_glob (v := .str "abcdefghijklmnopqrstuvwxyz") rfl hg ⟨_, rfl⟩) rfl) (fun d hd hp => ?_) (fun d hd hp => rfl) (by decide +kernel)) rfl)) (rfl))), .inl rfl⟩
  have e : signs "a" = [.str "a"] := rfl
  rw [e] at hd
  rw [List.mem_singleton.mp hd]
  have e2 : inS "a" "abcdefghijklmnopqrstuvwxyz" = true := by decide +kernel
  rw [← e2]
  exact ge_op' (ge_var rfl) (ge_c fun _ => .str _) rd_inS'
end
end Sr

set_option Elab.async false
set_option linter.all false
set_option maxRecDepth 100000
set_option maxHeartbeats 4000000
/-! Doors, places, the switched forms. -/
namespace Sr
open PySem PySem.Spec PyProof.Rows L2
open Evl (Ex)
section
variable {X : Cx} {Δ : Dl} {a b : Expr} {rest : List Expr} {pos : Pos}
theorem td_short [SJ] (h : TD X a Δ false) : TD X (.BoolOp .And (a :: b :: rest) pos) Δ false := WD.t (wd_and (q := false) h fun z => Bool.noConfusion z)
theorem ed_short [SJ] (h : ED X a Δ (.bool false)) : ED X (.BoolOp .And (a :: b :: rest) pos) Δ (.bool false) := ed_and' (q := false) h fun z => Bool.noConfusion z
theorem ed_shortO [SJ] (h : ED X a Δ (.bool true)) : ED X (.BoolOp .Or (a :: b :: rest) pos) Δ (.bool true) := ed_or' (q := true) h fun z => Bool.noConfusion z
theorem id_zip0 [SJ] {e e2 : Expr} {p : Pos} {elts : List Expr} {kk : Nat} {tpos : Pos} (hm : X.mg "zip" = none) (h : ED X e Δ (.tuple [])) (h2 : ED X e2 Δ (.tuple [])) (hg : Gl X "zip" := by rfl)
    (hs : starEach [e, e2] X.env = (false, eval e X.env) :: starEach [e2] X.env := by rfl) (hs2 : starEach [e2] X.env = (false, eval e2 X.env) :: starEach [] X.env := by rfl) (hpl : (backTo pos (starEach [e2] X.env)).any (·.1) = false := by rfl) :
    ID X (.Tuple elts kk tpos) (.Call (.Name "zip" p) [e, e2] [] pos) Δ [] :=
  let ⟨_, pe, g⟩ := h.ex
  let ⟨_, pe2, g2⟩ := h2.ex
  ⟨_, RZ.pi_zipA hg hm (pa_cons pe (pa_cons pe2 pa_nil hs2) hs) hs hpl, fun σ H s R q => g σ H s _ fun v H1 e1 r1 => g2 σ H1 (s.ex e1) _ fun v2 H2 e2 r2 => by
    obtain ⟨a, xs, ea, hs, r⟩ := dp_tup r1
    obtain ⟨b, ys, eb, ht, r'⟩ := dp_tup r2
    subst ea eb
    cases r
    cases r'
    refine ⟨a, b, [], [], rfl, .inr ⟨Evl.ex_t e2 hs, ht, q _ H2 (e1.trans e2) fun i H3 e3 => ⟨fun d hd => by simp at hd, fun _ => ⟨[], [], Evl.ex_t e3 (Evl.ex_t e2 hs), Evl.ex_t e3 ht, .inl (Nat.zero_le _)⟩⟩⟩⟩⟩
end
def FAULTSl : List Str := ["mark", "seal", "right", "bounds", "store", "near", "rows", "gate", "stack", "deep", "room"]
section
variable {P : Program} {w : World} {K : PySem.W.Frag} {mg : Str → Option Value} {base : Heap}
def R_are_doors : List PyData → PyData → Prop := fun ds d => ∃ n : Int, ds = [.tuple [], .int n] ∧ d = .bool true
theorem sc_are_doors : FnScope ["thing", "many", "door", "other"] ["thing", "many"] (defScope t_are_doors) := ⟨rfl, rfl, rfl, by decide +kernel, rfl, by decide +kernel, by decide +kernel⟩
theorem pf_are_doors (T : Tx P w K mg base) : PF P w K mg base 3 "are_doors" R_are_doors := by
  refine pf_of (N := ["thing", "many", "door", "other"]) (ps := ["thing", "many"]) (n := 2) (k := 2) (fd_are_doors T) sc_are_doors (gl_are_doors T) rfl (fun ds d h => by obtain ⟨n, rfl, rfl⟩ := h; rfl) (fun _ _ _ _ _ _ us hl => match us, hl with | [_, _], _ => rfl) ?_
  intro f cdv A outer s H E hr ds d h
  obtain ⟨n, rfl, rfl⟩ := h
  refine ⟨.rt _, bd_iff (td_is (WD.t (wd_or (td_not (td_val (ed_isi (fr_isinstance T) (fr_tuple T) bt_tuple (ed_var 0) (kit_tuple _)))) fun hb => (wd_or1 (td_not (td_val (ed_all rfl (fr_all T) (ed_is (d1 := .list (([] : List Bool).map .bool)) (ed_lc (te := fun _ _ _ => False) (g := gName 2) (own := [("door", 2)]) (p := fun _ => true) (out := fun _ => .bool true) (fun d => []) rfl sc_are_doors.nd (id_tup (ed_var 0)) (blkOk_by (by rfl)) (fun _ _ _ _ _ => pg_name sc_are_doors.nd rfl (.inl rfl)) (fun d hd => by cases hd) (fun _ _ _ _ _ => pts_nil) (fun d hd => by cases hd) (fun _ _ _ _ _ => pe_never) (fun d hd hp => by cases hd) (fun d hd hp => by cases hd) (by decide +kernel)) rfl))))))) rfl) (bd_one (sd_ret (ed_all rfl (fr_all T) (ed_is (d1 := .list (([] : List Bool).map .bool)) (ed_lc (te := fun _ _ _ => False) (g := gTup K 2 (gCons (gName 2) (gCons (gName 3) gNil))) (own := [("door", 2), ("other", 3)]) (p := fun _ => true) (out := fun _ => .bool true) (fun d => []) rfl sc_are_doors.nd (id_zip0 (fr_zip T) (ed_var 0) (ed_is (ed_slT (ed_var 0) (od_int ed_int) od_none) rfl)) (blkOk_by (by rfl)) (fun _ _ _ _ _ => pg_tup rfl (pgs_cons (pg_name sc_are_doors.nd rfl (.inl rfl) (.inr rfl)) (pgs_cons (pg_name sc_are_doors.nd rfl (.inl rfl) (.inr rfl)) pgs_nil))) (fun d hd => by cases hd) (fun _ _ _ _ _ => pts_nil) (fun d hd => by cases hd) (fun _ _ _ _ _ => pe_never) (fun d hd hp => by cases hd) (fun d hd hp => by cases hd) (by decide +kernel)) rfl)) (rfl))), .inl rfl⟩
def pLow (a n : Int) : Int := cdiv a (stepOf 0 n) * 2 ^ stepOf 0 n
def pSize (n : Int) : Int := cdiv n (stepOf 0 n) * 2 ^ stepOf 0 n
def R_placed : List PyData → PyData → Prop := fun ds d => ∃ a n : Int, ds = [.int a, .int n] ∧ 1 ≤ n ∧ n ≤ 4096 ∧ 0 ≤ a ∧ a ≤ 4096 ∧ d = .tuple [.int (pLow a n), .int (pLow a n + pSize n)]
theorem cdiv_small {a : Int} (s : Nat) (h0 : 0 ≤ a) (h1 : a ≤ 4096) : (cdiv a s).natAbs < 2 ^ 64 := by
  have p := two_pow_pos s
  unfold cdiv
  have h2 : -a ≤ -a / 2 ^ s := by
    have h := (Int.le_ediv_iff_mul_le (a := -a) (b := -a) (c := 2 ^ s) (by omega)).mpr
    refine h ?_
    have := Int.mul_le_mul_of_nonneg_left (show (1 : Int) ≤ 2 ^ s by omega) h0
    rw [Int.neg_mul]
    omega
  have h3 : -a / 2 ^ s ≤ 0 := by
    have := Int.ediv_le_ediv (a := -a) (b := 0) (c := 2 ^ s) (by omega) (by omega)
    simpa using this
  omega
theorem sc_placed : FnScope ["at", "many", "size", "step", "low"] ["at", "many"] (defScope t_placed) := ⟨rfl, rfl, rfl, by decide +kernel, rfl, by decide +kernel, by decide +kernel⟩
theorem pf_placed (T : Tx P w K mg base) : PF P w K mg base 3 "placed" R_placed := by
  refine pf_of (N := ["at", "many", "size", "step", "low"]) (ps := ["at", "many"]) (n := 3) (k := 2) (fd_placed T) sc_placed (gl_placed T) rfl (fun ds d h => by obtain ⟨a, n, rfl, h1, h2, a0, a1, rfl⟩ := h; rfl) (fun _ _ _ _ _ _ us hl => match us, hl with | [_, _], _ => rfl) ?_
  intro f cdv A outer s H E hr ds d h
  obtain ⟨a, n, rfl, h1, h2, a0, a1, rfl⟩ := h
  refine ⟨.rt _, bd_cons (sd_asg (ed_call (pf_room_of T) (hr.mono (by decide)) (ad_cons (ed_var 1) ad_nil) (⟨n, rfl, h1, h2, rfl⟩)) (gd_tup rfl (gds_cons (gd_name 2 sc_placed.nd) (gds_cons (gd_name 3 sc_placed.nd) gds_nil)))) (bd_cons (sd_set 4 sc_placed.nd (ed_shl (ed_neg (ed_shr (ed_neg (ed_var 0)) (ed_var 3) (Int.natCast_nonneg _))) (ed_var 3) ?_)) (bd_one (sd_ret (ed_tup (ad_cons (ed_var 4) (ad_cons (ed_add (ed_var 4) (ed_var 2)) ad_nil))) (rfl)))), .inl rfl⟩
  exact ⟨Int.natCast_nonneg _, by have := stepOf_le 0 n; omega, cdiv_small _ a0 a1⟩
def R_is_address : List PyData → PyData → Prop := fun ds d => ∃ a : Int, ds = [.int a] ∧ d = .bool (decide (0 ≤ a) && decide (a < 4096))
theorem sc_is_address : FnScope ["thing"] ["thing"] (defScope t_is_address) := ⟨rfl, rfl, rfl, by decide +kernel, rfl, by decide +kernel, by decide +kernel⟩
theorem pf_is_address (T : Tx P w K mg base) : PF P w K mg base 2 "is_address" R_is_address := by
  refine pf_of (N := ["thing"]) (ps := ["thing"]) (n := 0) (k := 1) (fd_is_address T) sc_is_address (gl_is_address T) rfl (fun ds d h => by obtain ⟨a, rfl, rfl⟩ := h; rfl) (fun _ _ _ _ _ _ us hl => match us, hl with | [_], _ => rfl) ?_
  intro f cdv A outer s H E hr ds d h
  obtain ⟨a, rfl, rfl⟩ := h
  exact ⟨.rt _, bd_one (sd_ret (ed_and' (ed_call (pf_is_whole T) (hr.mono (by decide)) (ad_cons (ed_var 0) ad_nil) (⟨_, rfl, rfl⟩)) fun hb => (ed_one (ed_ch2et ed_int (ed_var 0) (ed_glob (c_CELLS T))))) (rfl)), .inl rfl⟩
def R_look_at_offset : List PyData → PyData → Prop := fun ds d => ∃ a : Int, ds = [.int a] ∧ -8 ≤ a ∧ a ≤ 15 ∧ d = .none
theorem sc_look_at_offset : FnScope ["offset"] ["offset"] (defScope t_look_at_offset) := ⟨rfl, rfl, rfl, by decide +kernel, rfl, by decide +kernel, by decide +kernel⟩
theorem pf_look_at_offset (T : Tx P w K mg base) : PF P w K mg base 2 "look_at_offset" R_look_at_offset := by
  refine pf_of (N := ["offset"]) (ps := ["offset"]) (n := 0) (k := 1) (fd_look_at_offset T) sc_look_at_offset (gl_look_at_offset T) rfl (fun ds d h => by obtain ⟨a, rfl, h0, h1, rfl⟩ := h; rfl) (fun _ _ _ _ _ _ us hl => match us, hl with | [_], _ => rfl) ?_
  intro f cdv A outer s H E hr ds d h
  obtain ⟨a, rfl, h0, h1, rfl⟩ := h
  refine ⟨.nx _, bd_iff (td_is (WD.t (wd_or (td_not (td_val (ed_call (pf_is_whole T) (hr.mono (by decide)) (ad_cons (ed_var 0) ad_nil) (⟨_, rfl, rfl⟩)))) fun hb => (wd_or1 (td_not (td_ch2ee (ed_glob (c_LEAST_OFFSET_cells T)) (ed_var 0) (ed_glob (c_MOST_OFFSET_cells T))))))) ?_) bd_nil, .inr ⟨_, rfl, rfl⟩⟩
  rw [decide_eq_true h0, decide_eq_true h1]
  rfl
def R_stack_word : List PyData → PyData → Prop := fun ds d => ∃ l h : Int, Exact l h ∧ h < 4096 ∧ ds = [.int l, .int h] ∧ d = (Wv.mk l h h 0 .stk).d
theorem sc_stack_word : FnScope ["low", "high"] ["low", "high"] (defScope t_stack_word) := ⟨rfl, rfl, rfl, by decide +kernel, rfl, by decide +kernel, by decide +kernel⟩
theorem pf_stack_word (T : Tx P w K mg base) : PF P w K mg base 5 "stack_word" R_stack_word := by
  refine pf_of (N := ["low", "high"]) (ps := ["low", "high"]) (n := 0) (k := 4) (fd_stack_word T) sc_stack_word (gl_stack_word T) rfl (fun ds d h => by obtain ⟨l, h, e, h1, rfl, rfl⟩ := h; rfl) (fun _ _ _ _ _ _ us hl => match us, hl with | [_, _], _ => rfl) ?_
  intro f cdv A outer s H E hr ds d h
  obtain ⟨l, h, e, h1, rfl, rfl⟩ := h
  exact ⟨.rt _, bd_one (sd_ret (ed_call (pf_word_of T) (hr.mono (by decide)) (ad_cons (ed_tup (ad_cons (ed_var 0) (ad_cons (ed_var 1) (ad_cons (ed_var 1) (ad_cons (ed_glob (c_STACK_RIGHTS T)) (ad_cons ed_int ad_nil)))))) ad_nil) (⟨l, h, h, 0, .stk, ⟨e, by have := e.1; have := e.2.1; omega, h1, by decide, by decide, by decide, by decide⟩, rfl, rfl⟩)) (rfl)), .inl rfl⟩
def R_is_shut : List PyData → PyData → Prop := fun ds d => ∃ v : Wv, ds = [v.d, .none] ∧ d = .bool false
theorem sc_is_shut : FnScope ["word", "without"] ["word", "without"] (defScope t_is_shut) := ⟨rfl, rfl, rfl, by decide +kernel, rfl, by decide +kernel, by decide +kernel⟩
theorem pf_is_shut (T : Tx P w K mg base) : PF P w K mg base 1 "is_shut" R_is_shut := by
  refine pf_of (N := ["word", "without"]) (ps := ["word", "without"]) (n := 0) (k := 0) (fd_is_shut T) sc_is_shut (gl_is_shut T) rfl (fun ds d h => by obtain ⟨v, rfl, rfl⟩ := h; rfl) (fun _ _ _ _ _ _ us hl => match us, hl with | [_, _], _ => rfl) ?_
  intro f cdv A outer s H E hr ds d h
  obtain ⟨v, rfl, rfl⟩ := h
  exact ⟨.rt _, bd_one (sd_ret (ed_short (ed_is (ed_eq hr.units (ed_var 1) (ed_glob (c_SEALED T)) (s2 := by decide +kernel)) rfl)) rfl), .inl rfl⟩
def R_walked_so : List PyData → PyData → Prop := fun ds d => ∃ (v : Wv) (n : Int), v.Ok ∧ ds = [v.d, .int n, .none] ∧ d = (v.walk n).d
theorem sc_walked_so : FnScope ["word", "number", "without"] ["word", "number", "without"] (defScope t_walked_so) := ⟨rfl, rfl, rfl, by decide +kernel, rfl, by decide +kernel, by decide +kernel⟩
theorem pf_walked_so (T : Tx P w K mg base) : PF P w K mg base 5 "walked_so" R_walked_so := by
  refine pf_of (N := ["word", "number", "without"]) (ps := ["word", "number", "without"]) (n := 0) (k := 4) (fd_walked_so T) sc_walked_so (gl_walked_so T) rfl (fun ds d h => by obtain ⟨v, n, hv, rfl, rfl⟩ := h; rfl) (fun _ _ _ _ _ _ us hl => match us, hl with | [_, _, _], _ => rfl) ?_
  intro f cdv A outer s H E hr ds d h
  obtain ⟨v, n, hv, rfl, rfl⟩ := h
  exact ⟨.rt _, bd_iff (td_val (ed_call (pf_is_shut T) (hr.mono (by decide)) (ad_cons (ed_var 0) (ad_cons (ed_var 2) ad_nil)) (⟨v, rfl, rfl⟩))) (bd_one (sd_ret (ed_call (pf_walked T) (hr.mono (by decide)) (ad_cons (ed_var 0) (ad_cons (ed_var 1) ad_nil)) (⟨v, n, hv, rfl, rfl⟩)) (rfl))), .inl rfl⟩
def R_narrowed_so : List PyData → PyData → Prop := fun ds d => ∃ (v : Wv) (n : Int) (ex : Bool), v.Ok ∧ ds = [v.d, .int n, .bool ex, .none] ∧ d = (v.narrow n ex).d
theorem sc_narrowed_so : FnScope ["word", "many", "exact", "without"] ["word", "many", "exact", "without"] (defScope t_narrowed_so) := ⟨rfl, rfl, rfl, by decide +kernel, rfl, by decide +kernel, by decide +kernel⟩
theorem pf_narrowed_so (T : Tx P w K mg base) : PF P w K mg base 7 "narrowed_so" R_narrowed_so := by
  refine pf_of (N := ["word", "many", "exact", "without"]) (ps := ["word", "many", "exact", "without"]) (n := 0) (k := 6) (fd_narrowed_so T) sc_narrowed_so (gl_narrowed_so T) rfl (fun ds d h => by obtain ⟨v, n, ex, hv, rfl, rfl⟩ := h; rfl) (fun _ _ _ _ _ _ us hl => match us, hl with | [_, _, _, _], _ => rfl) ?_
  intro f cdv A outer s H E hr ds d h
  obtain ⟨v, n, ex, hv, rfl, rfl⟩ := h
  exact ⟨.rt _, bd_iff (td_val (ed_call (pf_is_shut T) (hr.mono (by decide)) (ad_cons (ed_var 0) (ad_cons (ed_var 3) ad_nil)) (⟨v, rfl, rfl⟩))) (bd_iff (td_short (td_is (td_eq hr.units (ed_var 3) (ed_glob (c_NARROW T)) (s2 := by decide +kernel)) rfl)) (bd_one (sd_ret (ed_callk (pfk_narrowed T) (hr.mono (by decide)) (ad_cons (ed_var 0) (ad_cons (ed_var 1) ad_nil)) (kd_cons (ed_var 2) kd_nil) (⟨v, n, ex, hv, rfl, rfl⟩) rfl rfl) (rfl)))), .inl rfl⟩
def R_lessened_so : List PyData → PyData → Prop := fun ds d => ∃ (v : Wv) (y : Str), v.Ok ∧ v.mild = true ∧ y ∈ lessMenu ∧ ds = [v.d, .str y, .none] ∧ d = (v.less y).d
theorem sc_lessened_so : FnScope ["word", "rights", "without", "low", "high", "at", "own_rights", "kind", "found", "more"] ["word", "rights", "without"] (defScope t_lessened_so) := ⟨rfl, rfl, rfl, by decide +kernel, rfl, by decide +kernel, by decide +kernel⟩
theorem pf_lessened_so (T : Tx P w K mg base) : PF P w K mg base 7 "lessened_so" R_lessened_so := by
  refine pf_of (N := ["word", "rights", "without", "low", "high", "at", "own_rights", "kind", "found", "more"]) (ps := ["word", "rights", "without"]) (n := 7) (k := 6) (fd_lessened_so T) sc_lessened_so (gl_lessened_so T) rfl (fun ds d h => by obtain ⟨v, y, hv, hm, hy, rfl, rfl⟩ := h; rfl) (fun _ _ _ _ _ _ us hl => match us, hl with | [_, _, _], _ => rfl) ?_
  intro f cdv A outer s H E hr ds d h
  obtain ⟨v, y, hv, hm, hy, rfl, rfl⟩ := h
  exact ⟨.rt _, bd_iff (td_val (ed_call (pf_is_shut T) (hr.mono (by decide)) (ad_cons (ed_var 0) (ad_cons (ed_var 2) ad_nil)) (⟨v, rfl, rfl⟩))) (bd_iff (td_short (td_is (td_eq hr.units (ed_var 2) (ed_glob (c_LESS T)) (s2 := by decide +kernel)) rfl)) (bd_one (sd_ret (ed_call (pf_lessened T) (hr.mono (by decide)) (ad_cons (ed_var 0) (ad_cons (ed_var 1) ad_nil)) (⟨v, y, hv, hm, hy, rfl, rfl⟩)) (rfl)))), .inl rfl⟩
def R_opened_so : List PyData → PyData → Prop := fun ds d => ∃ (v o : Wv), v.Ok ∧ o.Ok ∧ o.mild = true ∧ ds = [v.d, o.d, .none] ∧ d = v.bare.d
theorem sc_opened_so : FnScope ["word", "other", "without"] ["word", "other", "without"] (defScope t_opened_so) := ⟨rfl, rfl, rfl, by decide +kernel, rfl, by decide +kernel, by decide +kernel⟩
theorem pf_opened_so (T : Tx P w K mg base) : PF P w K mg base 7 "opened_so" R_opened_so := by
  refine pf_of (N := ["word", "other", "without"]) (ps := ["word", "other", "without"]) (n := 0) (k := 6) (fd_opened_so T) sc_opened_so (gl_opened_so T) rfl (fun ds d h => by obtain ⟨v, o, hv, ho, hm, rfl, rfl⟩ := h; rfl) (fun _ _ _ _ _ _ us hl => match us, hl with | [_, _, _], _ => rfl) ?_
  intro f cdv A outer s H E hr ds d h
  obtain ⟨v, o, hv, ho, hm, rfl, rfl⟩ := h
  exact ⟨.rt _, bd_iff (td_short (td_is (td_eq hr.units (ed_var 2) (ed_glob (c_OPEN T)) (s2 := by decide +kernel)) rfl)) (bd_one (sd_ret (ed_call (pf_opened T) (hr.mono (by decide)) (ad_cons (ed_var 0) (ad_cons (ed_var 1) ad_nil)) (⟨v, o, hv, ho, hm, rfl, rfl⟩)) (rfl))), .inl rfl⟩
def R_is_named : List PyData → PyData → Prop := fun ds d => ds = [.none] ∧ d = .bool true
theorem sc_is_named : FnScope ["without"] ["without"] (defScope t_is_named) := ⟨rfl, rfl, rfl, by decide +kernel, rfl, by decide +kernel, by decide +kernel⟩
theorem pf_is_named (T : Tx P w K mg base) : PF P w K mg base 1 "is_named" R_is_named := by
  refine pf_of (N := ["without"]) (ps := ["without"]) (n := 0) (k := 0) (fd_is_named T) sc_is_named (gl_is_named T) rfl (fun ds d h => by obtain ⟨rfl, rfl⟩ := h; rfl) (fun _ _ _ _ _ _ us hl => match us, hl with | [_], _ => rfl) ?_
  intro f cdv A outer s H E hr ds d h
  obtain ⟨rfl, rfl⟩ := h
  exact ⟨.rt _, bd_one (sd_ret (ed_shortO (ed_is (ed_isN (ed_var 0)) rfl)) rfl), .inl rfl⟩
def R_fault_number : List PyData → PyData → Prop := fun ds d => ∃ (x : Str) (j : Nat), FAULTSl[j]? = some x ∧ (∀ m, m < j → FAULTSl[m]? ≠ some x) ∧ ds = [.str x] ∧ d = .int (1 + (j : Nat))
theorem nodB_ok (T : Tx P w K mg base) : ∃ o, K.lookup (He.ga K "FAULTS") = some o ∧ o.dict = none := by
  have h : nodB K "FAULTS" = true := T.x 24 rfl
  unfold nodB at h
  split at h
  · rename_i a b c q
    exact ⟨_, q, rfl⟩
  · cases h
def tyTupN (K : PySem.W.Frag) (x : V) (H : Hp) : Prop := ∃ p o xs, x = .ref p ∧ K.lookup p = some o ∧ o.dict = none ∧ SqT K H p xs
theorem ty_tupN {X : Cx} : TyOk X "tuple" (tyTupN X.K) := by
  intro pins σ H s x v I r ty
  obtain ⟨p, o, xs, rfl, hk, hd, hq⟩ := ty
  cases r
  obtain ⟨its, _, pl, _⟩ := I.tuple hq
  refine ⟨pl.typeIs, fun a e => ?_⟩
  cases e
  exact ⟨o, I.kIn _ _ hk, hd⟩
theorem sc_fault_number : FnScope ["word"] ["word"] (defScope t_fault_number) := ⟨rfl, rfl, rfl, by decide +kernel, rfl, by decide +kernel, by decide +kernel⟩
theorem pf_fault_number (T : Tx P w K mg base) : PF P w K mg base 1 "fault_number" R_fault_number := by
  refine pf_of (N := ["word"]) (ps := ["word"]) (n := 0) (k := 0) (fd_fault_number T) sc_fault_number (gl_fault_number T) rfl (fun ds d h => by obtain ⟨x, j, hj, hno, rfl, rfl⟩ := h; rfl) (fun _ _ _ _ _ _ us hl => match us, hl with | [_], _ => rfl) ?_
  intro f cdv A outer s H E hr ds d h
  obtain ⟨x, j, hj, hno, rfl, rfl⟩ := h
  obtain ⟨o, hk, hd⟩ := nodB_ok T
  refine ⟨.rt _, bd_one (sd_ret (ed_add ed_int ⟨_, pe_mG ty_tupN PySem.F.plainAttrs_tuple PySem.F.slot_tuple_index PySem.F.type_tuple_index mt_tup_index (pe_glob (v := .ref (He.ga K "FAULTS")) rfl (gl_FAULTS T) rfl) (pa_cons (pv 0) pa_nil), fun σ H s Q q => ?_⟩) rfl), .inl rfl⟩
  refine ⟨⟨_, o, _, rfl, hk, hd, tu_FAULTS T H⟩, (ga_cons (d := .str x) (ge_var rfl) ga_nil) σ H s _ fun vs H1 e1 r1 => ?_⟩
  cases r1 with
  | cons r1 rs =>
    cases rs
    rw [dp_str r1]
    exact ⟨_, FAULTSl, x, j, rfl, rfl, tu_FAULTS T H1, hj, hno, q _ H1 e1 (.int _)⟩
end
end Sr

set_option Elab.async false
set_option linter.all false
set_option maxRecDepth 100000
set_option maxHeartbeats 4000000
/-! The machine's state in the heap; expressions that read it. -/
namespace Sr
open PySem PySem.Spec PyProof.Rows L2
open Evl (Ex)
/-- the machine, told -/
structure Ms where
  rows : List PyData
  size : Int
  boxes : List Wv
  row : Wv
  cells : List (Int × Wv)
  many : Nat
  out : Bool
/-- where its parts stand -/
structure Ad where
  a : Addr
  dx : Addr
  r : Addr
  c : Addr
  cdx : Addr
  cd : Addr
  wd : Addr
  hp : Addr
  hdx : Addr
  bx : Addr
  sh : Addr
  tc : Addr
/-- the parts that change -/
def Ad.S (A : Ad) : List Addr := [A.a, A.cd, A.bx, A.tc]
abbrev cM (K : PySem.W.Frag) : Addr := He.ga K "Machine"
abbrev cC (K : PySem.W.Frag) : Addr := He.ga K "Cells"
abbrev cH (K : PySem.W.Frag) : Addr := He.ga K "Heap"
def mkFs (A : Ad) (sb vr ho : V) (n : Int) (vo : V) : List (Str × V) :=
  [("rows", .ref A.r), ("cells", .ref A.c), ("words", .ref A.wd), ("stack_bounds", sb), ("heap", .ref A.hp), ("own_boxes", .ref A.bx), ("rule", .non), ("own_row", vr), ("shelf", .ref A.sh), ("touched", .ref A.tc), ("handed_out", ho), ("many_steps", .int n), ("outcome", vo), ("sweep_at", .non)]
/-- the first words of the only compartment -/
def wordsV (m : Ms) : PyData := .tuple [(Wv.mk 0 m.size 0 0 .fx).d, (Wv.mk 16 24 16 0 .cell).d, (Wv.mk 3 4 3 0 .sl).d]
/-- a dict's pairs tell the cells -/
inductive CR (K : PySem.W.Frag) (H : Hp) : List (Key × V) → List (Int × Wv) → Prop where
  | nil : CR K H [] []
  | cons {a : Int} {v : V} {w : Wv} {kvs : List (Key × V)} {cells : List (Int × Wv)} : Dp K H v w.d → CR K H kvs cells → CR K H ((Sum.inl a, v) :: kvs) ((a, w) :: cells)
theorem CR.ex {K : PySem.W.Frag} {H H' : Hp} (e : Ex H H') : ∀ {kvs : List (Key × V)} {cells : List (Int × Wv)}, CR K H kvs cells → CR K H' kvs cells
  | _, _, .nil => .nil
  | _, _, .cons d r => .cons (dp_ex e _ _ d) (CR.ex e r)
theorem CR.len {K : PySem.W.Frag} {H : Hp} : ∀ {kvs : List (Key × V)} {cells : List (Int × Wv)}, CR K H kvs cells → kvs.length = cells.length
  | _, _, .nil => rfl
  | _, _, .cons _ r => congrArg Nat.succ (CR.len r)
def cellAt (cells : List (Int × Wv)) (a : Int) : Option Wv := (cells.find? fun p => decide (p.1 = a)).map (·.2)
def putC (cells : List (Int × Wv)) (a : Int) (w : Wv) : List (Int × Wv) := if (cells.any fun p => decide (p.1 = a)) = true then cells.map (fun p => if p.1 = a then (p.1, w) else p) else cells ++ [(a, w)]
def dropC (cells : List (Int × Wv)) (a : Int) : List (Int × Wv) := cells.filter fun p => decide (p.1 ≠ a)
theorem CR.val {K : PySem.W.Frag} {H : Hp} {a : Int} : ∀ {kvs : List (Key × V)} {cells : List (Int × Wv)}, CR K H kvs cells → (valV kvs (.inl a) = none ∧ cellAt cells a = none) ∨ ∃ v w, valV kvs (.inl a) = some v ∧ cellAt cells a = some w ∧ Dp K H v w.d
  | _, _, .nil => .inl ⟨rfl, rfl⟩
  | _, _, @CR.cons _ _ b v w kvs cells d r => by
    by_cases e : b = a
    · subst e
      exact .inr ⟨v, w, by simp [valV], by simp [cellAt], d⟩
    · have e1 : valV ((Sum.inl b, v) :: kvs) (.inl a) = valV kvs (.inl a) := by simp [valV, e]
      have e2 : cellAt ((b, w) :: cells) a = cellAt cells a := by simp [cellAt, e]
      rw [e1, e2]
      exact CR.val r
theorem CR.any {K : PySem.W.Frag} {H : Hp} {a : Int} : ∀ {kvs : List (Key × V)} {cells : List (Int × Wv)}, CR K H kvs cells → (kvs.any fun kv => decide (kv.1 = Sum.inl a)) = (cells.any fun p => decide (p.1 = a))
  | _, _, .nil => rfl
  | _, _, @CR.cons _ _ b v w kvs cells d r => by
    rw [List.any_cons, List.any_cons, CR.any r]
    congr 1
    by_cases e : b = a
    · subst e; simp
    · simp [e]
theorem CR.map {K : PySem.W.Frag} {H : Hp} {a : Int} {v : V} {w : Wv} (d : Dp K H v w.d) : ∀ {kvs : List (Key × V)} {cells : List (Int × Wv)}, CR K H kvs cells → CR K H (kvs.map fun kv => if kv.1 = Sum.inl a then (kv.1, v) else kv) (cells.map fun p => if p.1 = a then (p.1, w) else p)
  | _, _, .nil => .nil
  | _, _, @CR.cons _ _ b v' w' kvs cells d' r => by
    rw [List.map_cons, List.map_cons]
    by_cases e : b = a
    · subst e
      simp only [if_true]
      exact .cons d (CR.map d r)
    · have e1 : ¬ (Sum.inl b : Key) = Sum.inl a := fun z => e (Sum.inl.inj z)
      simp only [if_neg e, if_neg e1]
      exact .cons d' (CR.map d r)
theorem CR.app {K : PySem.W.Frag} {H : Hp} : ∀ {kvs kvs' : List (Key × V)} {cells cells' : List (Int × Wv)}, CR K H kvs cells → CR K H kvs' cells' → CR K H (kvs ++ kvs') (cells ++ cells')
  | _, _, _, _, .nil, q => q
  | _, _, _, _, .cons d r, q => .cons d (CR.app r q)
theorem CR.put {K : PySem.W.Frag} {H : Hp} {a : Int} {v : V} {w : Wv} (d : Dp K H v w.d) {kvs : List (Key × V)} {cells : List (Int × Wv)} (r : CR K H kvs cells) : CR K H (putK kvs (.inl a) v) (putC cells a w) := by
  unfold putK putC
  rw [r.any]
  split
  · exact r.map d
  · exact r.app (.cons d .nil)
theorem CR.drop {K : PySem.W.Frag} {H : Hp} {a : Int} : ∀ {kvs : List (Key × V)} {cells : List (Int × Wv)}, CR K H kvs cells → CR K H (dropK kvs (.inl a)) (dropC cells a)
  | _, _, .nil => .nil
  | _, _, @CR.cons _ _ b v' w' kvs cells d' r => by
    have ih := CR.drop (a := a) r
    unfold dropK dropC at *
    rw [List.filter_cons, List.filter_cons]
    by_cases e : b = a
    · subst e
      simpa using ih
    · have e1 : ¬ (Sum.inl b : Key) = Sum.inl a := fun z => e (Sum.inl.inj z)
      simp only [ne_eq, e, e1, not_false_iff, decide_true, if_true]
      exact .cons d' ih
theorem wd_tup (w : Wv) : tupOnly w.d = true := by cases w <;> rfl
theorem CR.mv {K : PySem.W.Frag} {H H' : Hp} (f : ∀ v (w : Wv), Dp K H v w.d → Dp K H' v w.d) : ∀ {kvs : List (Key × V)} {cells : List (Int × Wv)}, CR K H kvs cells → CR K H' kvs cells
  | _, _, .nil => .nil
  | _, _, .cons d r => .cons (f _ _ d) (CR.mv f r)
/-- the cells at c, their dict at cd -/
structure CAt (K : PySem.W.Frag) (H : Hp) (c cdx cd : Addr) (cells : List (Int × Wv)) : Prop where
  cls : H c = some (.ins (cC K) cdx [("own_cells", .ref cd)])
  clk : ∃ kvs, H cd = some (.dK kvs) ∧ CR K H kvs cells
  few : cells.length ≤ 100
structure MAt (K : PySem.W.Frag) (H : Hp) (A : Ad) (m : Ms) : Prop where
  ins : ∃ sb vr ho n vo, H A.a = some (.ins (cM K) A.dx (mkFs A sb vr ho n vo)) ∧ Dp K H vr m.row.d ∧ (if m.out = true then vo ≠ .non else vo = .non)
  rows : ∃ kvs, H A.r = some (.dK kvs) ∧ A.r ∉ A.S ∧ (∀ i : Nat, m.rows.length ≤ i → valV kvs (.inl (i : Nat)) = none) ∧ ∀ (i : Nat) d, m.rows[i]? = some d → ∃ v, valV kvs (.inl (i : Nat)) = some v ∧ Dp K H v d
  cel : CAt K H A.c A.cdx A.cd m.cells
  cns : A.c ∉ A.S
  wds : ∃ v, H A.wd = some (.dK [(.inr "a", v)]) ∧ A.wd ∉ A.S ∧ Dp K H v (wordsV m)
  hps : ∃ fs, H A.hp = some (.ins (cH K) A.hdx fs) ∧ fs.lookup ("is_stale" : Str) = none ∧ A.hp ∉ A.S
  bxs : ∃ xs, H A.bx = some (.lst xs) ∧ DpAll K H xs (m.boxes.map Wv.d)
  shs : H A.sh = some (.lst []) ∧ A.sh ∉ A.S
  tcs : ∃ ts, H A.tc = some (.lst ts) ∧ ts.length = m.many ∧ m.many ≤ 1000
  sz : m.boxes.length = 8
  nd : A.S.Nodup
  rtup : ∀ d ∈ m.rows, tupOnly d = true
theorem cut_in {S : List Addr} {H H' : Hp} (e : Ex H H') {a : Addr} {o : HO} (h : H a = some o) : H' a = some o := e a o h
theorem CAt.ex {K : PySem.W.Frag} {H H' : Hp} {c cdx cd : Addr} {cells : List (Int × Wv)} (C : CAt K H c cdx cd cells) (e : Ex H H') : CAt K H' c cdx cd cells :=
  let ⟨kvs, k1, k3⟩ := C.clk
  ⟨e _ _ C.cls, ⟨kvs, e _ _ k1, k3.ex e⟩, C.few⟩
theorem MAt.ex {K : PySem.W.Frag} {H H' : Hp} {A : Ad} {m : Ms} (M : MAt K H A m) (e : Ex H H') : MAt K H' A m := by
  obtain ⟨⟨sb, vr, ho, n, vo, h1, h2, h3⟩, ⟨kvs, r1, r2, r3, r4⟩, cel, cns, ⟨wv, w1, w2, w3⟩, ⟨hf, p1, p2, p3⟩, ⟨xs, b1, b2⟩, ⟨s1, s2⟩, ⟨ts, t1, t2⟩, z, nd, rt⟩ := M
  exact ⟨⟨sb, vr, ho, n, vo, e _ _ h1, dp_ex e _ _ h2, h3⟩, ⟨kvs, e _ _ r1, r2, r3, fun i d hd => let ⟨v, q1, q2⟩ := r4 i d hd; ⟨v, q1, dp_ex e _ _ q2⟩⟩, cel.ex e, cns, ⟨wv, e _ _ w1, w2, dp_ex e _ _ w3⟩, ⟨hf, e _ _ p1, p2, p3⟩, ⟨xs, e _ _ b1, dps_ex e _ _ b2⟩, ⟨e _ _ s1, s2⟩, ⟨ts, e _ _ t1, t2⟩, z, nd, rt⟩
/-- the standing fact in a method's body: the machine stands in slot 0, what it had not of its own is kept -/
@[reducible] def mJ (K : PySem.W.Frag) (H0 : Hp) (A : Ad) (m : Ms) : SJ where
  p σ H := σ[0]? = some (some (.ref A.a)) ∧ MAt K H A m ∧ Ex (cut A.S H0) (cut A.S H)
  ok i := i ≠ 0
  st e h := ⟨h.1, h.2.1.ex e, h.2.2.trans (cut_ex e)⟩
  set hi h := ⟨by rw [List.getElem?_set_ne hi]; exact h.1, h.2⟩
section
variable {X : Cx} {H0 : Hp} {A : Ad} {m : Ms} {Δ : Dl} {pos p : Pos} {x : Str} {d : PyData}
/-- self.f, f data -/
theorem ed_fld {f : Str} (cl : Cls X.K (cM X.K)) (no : NoAttr X.K (cM X.K) f)
    (hf : ∀ H, MAt X.K H A m → ∃ fs v, H A.a = some (.ins (cM X.K) A.dx fs) ∧ fs.lookup f = some v ∧ Dp X.K H v d) (hN : X.N[0]? = some x := by rfl) (hv : Vis X.env.scope x := by first | exact Or.inl rfl | exact Or.inr (Or.inl rfl) | exact Or.inr (Or.inr rfl))
    (hb : attributeBase (.Name x p) f X.env (eval (.Name x p) X.env) = eval (.Name x p) X.env := by rfl) (hd : (x == ("__debug__" : Str)) = false := by decide) (hcd : (x == ("__classdict__" : Str)) = false := by decide) : @ED (mJ X.K H0 A m) X (.Attribute (.Name x p) f pos) Δ d :=
  letI : SJ := mJ X.K H0 A m
  ⟨_, pe_fld (pv 0 hN hv hd hcd) hb, fun σ H s Q q => by
    obtain ⟨h0, M, e0⟩ := s.1.1
    obtain ⟨fs, v, h1, h2, h3⟩ := hf H M
    exact ⟨_, h0, A.a, cM X.K, A.dx, fs, v, rfl, h1, cl, no, h2, q v H (Ex.refl H) h3⟩⟩
theorem mat_row {K : PySem.W.Frag} {H : Hp} (M : MAt K H A m) : ∃ fs v, H A.a = some (.ins (cM K) A.dx fs) ∧ fs.lookup ("own_row" : Str) = some v ∧ Dp K H v m.row.d := by
  obtain ⟨sb, vr, ho, n, vo, h1, h2, h3⟩ := M.ins
  exact ⟨_, vr, h1, rfl, h2⟩
theorem mat_rule {K : PySem.W.Frag} {H : Hp} (M : MAt K H A m) : ∃ fs v, H A.a = some (.ins (cM K) A.dx fs) ∧ fs.lookup ("rule" : Str) = some v ∧ Dp K H v .none := by
  obtain ⟨sb, vr, ho, n, vo, h1, h2, h3⟩ := M.ins
  exact ⟨_, _, h1, rfl, .non⟩
theorem mat_boxes {K : PySem.W.Frag} {H : Hp} (M : MAt K H A m) : ∃ fs v, H A.a = some (.ins (cM K) A.dx fs) ∧ fs.lookup ("own_boxes" : Str) = some v ∧ Dp K H v (.list (m.boxes.map Wv.d)) := by
  obtain ⟨sb, vr, ho, n, vo, h1, h2, h3⟩ := M.ins
  obtain ⟨xs, b1, b2⟩ := M.bxs
  exact ⟨_, _, h1, rfl, .lst (SqL.of b1) b2⟩
theorem mat_shelf {K : PySem.W.Frag} {H : Hp} (M : MAt K H A m) : ∃ fs v, H A.a = some (.ins (cM K) A.dx fs) ∧ fs.lookup ("shelf" : Str) = some v ∧ Dp K H v (.list []) := by
  obtain ⟨sb, vr, ho, n, vo, h1, h2, h3⟩ := M.ins
  exact ⟨_, _, h1, rfl, .lst (SqL.of M.shs.1) .nil⟩
end
/-! ### methods that only read -/
def spM (K : PySem.W.Frag) (R : Ms → List PyData → PyData → Prop) : Sp := fun vs H Q _ => ∃ (A : Ad) (m : Ms) (ws : List V) (ds : List PyData) (d : PyData), vs = .ref A.a :: ws ∧ DpAll K H ws ds ∧ MAt K H A m ∧ R m ds d ∧ ∀ v H', Ex H H' → Dp K H' v d → Q v H'
structure PM (P : Program) (w : World) (K : PySem.W.Frag) (mg : Str → Option Value) (base : Heap) (k : Nat) (x : Str) (R : Ms → List PyData → PyData → Prop) : Prop where
  ex : ∃ (f : Addr) (fd : FuncData) (ps : List Str), FnOk P w K mg base CX0 k f fd ps (spM K R) ∧ Meth K (cM K) x f ∧ Binds K fd ps []
section
variable {P : Program} {w : World} {K : PySem.W.Frag} {mg : Str → Option Value} {base : Heap}
theorem start0 {N : List Str} {v : V} {vs : List V} : (L2.start N (v :: vs))[0]? = some (some v) := rfl
theorem sl_startM {N : List Str} {H : Hp} {A : Ad} {m : Ms} {vs : List V} {ds : List PyData} (M : MAt K H A m) (h : DpAll K H vs ds) (n : Nat) (hn : N.length - (vs.length + 1) = n) :
    @Sl (mJ K H A m) K H (L2.start N (.ref A.a :: vs)) (none :: (ds.map some ++ List.replicate n none)) := by
  refine ⟨⟨⟨rfl, M, Ex.refl _⟩, ?_⟩, fun i d e => ?_⟩
  · unfold L2.start
    simp only [List.length_append, List.length_map, List.length_replicate, List.length_cons, dpa_len h, ← hn]
    omega
  · cases i with
    | zero => cases e
    | succ i =>
      by_cases hi : i < ds.length
      · have e' : (ds.map some ++ List.replicate n none)[i]? = some (some d) := e
        rw [List.getElem?_append_left (by simpa using hi), List.getElem?_map] at e'
        cases q : ds[i]? with
        | none => rw [q] at e'; cases e'
        | some d' =>
          rw [q] at e'
          have e2 : d' = d := by simpa using e'
          obtain ⟨v, a, r⟩ := dpa_get h q
          refine ⟨v, ?_, e2 ▸ r⟩
          unfold L2.start
          show (some (V.ref A.a) :: (vs.map some) ++ _)[i + 1]? = _
          rw [List.cons_append, List.getElem?_cons_succ, List.getElem?_append_left (by simpa [dpa_len h] using hi), List.getElem?_map, a]
          rfl
      · have e' : (ds.map some ++ List.replicate n none)[i]? = some (some d) := e
        rw [List.getElem?_append_right (by simpa using Nat.le_of_not_lt hi), List.getElem?_replicate] at e'
        split at e' <;> cases e'
/-- what a reading method's body shows -/
def BodyM (P : Program) (w : World) (K : PySem.W.Frag) (mg : Str → Option Value) (base : Heap) (N : List Str) (qual : Str) (st : Stmt) (n k : Nat) (R : Ms → List PyData → PyData → Prop) : Prop :=
  ∀ (f : Addr) (cdv : Value) (Ar : Around) (outer : List Env) (s : Shared) (H : Hp) (E : XK), Room k (cxOf CX0 P w K mg base N qual (defScope st) f cdv Ar outer s H E).nox.A → ∀ (A : Ad) (m : Ms) ds d, MAt K H A m → R m ds d →
    ∃ r, @BD (mJ K H A m) (cxOf CX0 P w K mg base N qual (defScope st) f cdv Ar outer s H E).nox E0 0 (defBody st) (none :: (ds.map some ++ List.replicate n none)) r ∧ (r = .rt d ∨ ∃ Δ', r = .nx Δ' ∧ d = .none)
theorem pm_of {x qual : Str} {st : Stmt} {f : Addr} {N ps : List Str} {n k : Nat} {R : Ms → List PyData → PyData → Prop} (F : ∃ fd, FunD K x qual (defArgs st) (defBody st) (defScope st) [] [] f fd)
    (S : FnScope N ps (defScope st)) (hm : Meth K (cM K) x f) (hn : N.length - ps.length = n) (len : ∀ m ds d, R m ds d → ds.length + 1 = ps.length)
    (h : ∀ (kV doc pm : Value) (an : Option Addr) (cdv ct : Value) (us : List Value), us.length = ps.length → bindArgs (PySem.W.fnOf x qual (defArgs st) (defBody st) (defScope st) .none kV doc pm an cdv ct) ⟨us, []⟩ = pure (ps.zip us))
    (hb : BodyM P w K mg base N qual st n k R) : PM P w K mg base (k + 1) x R := by
  obtain ⟨fd, F⟩ := F
  refine ⟨f, fd, ps, F.ok S (fun vs H Q E h => ?_) (fun cdv Ar outer s H vs Q E hr h => ?_), hm, F.bindsN h⟩
  · obtain ⟨A, m, ws, ds, d, rfl, r, M, hR, _⟩ := h
    rw [List.length_cons, dpa_len r]
    exact len _ _ _ hR
  · obtain ⟨A, m, ws, ds, d, rfl, r, M, hR, q⟩ := h
    obtain ⟨r', ⟨t, p, g⟩, z⟩ := hb f cdv Ar outer s H E hr A m ds d M hR
    have hs : @Sl (mJ K H A m) K H (L2.start N (.ref A.a :: ws)) (none :: (ds.map some ++ List.replicate n none)) := sl_startM M r n (by rw [dpa_len r, len _ _ _ hR]; exact hn)
    refine ⟨t, p.nox, g _ _ H hs ?_⟩
    rcases z with z | ⟨Δ', z, e⟩
    · subst z
      exact fun v H' e' r' => q v H' e' r'
    · subst z e
      exact fun σ' H' e' s' => q .non H' e' .non
end
section
variable {X : Cx} {H0 : Hp} {A : Ad} {m : Ms} {Δ : Dl} {pos p apos : Pos} {x nm : Str} {d : PyData} {ds : List PyData} {k : Nat} {R : Ms → List PyData → PyData → Prop} {e : Expr} {es : List Expr}
theorem mat_no {K : PySem.W.Frag} {H : Hp} (M : MAt K H A m) (hno : ∀ sb vr ho n vo, (mkFs A sb vr ho n vo).lookup nm = none) : ∃ fs, H A.a = some (.ins (cM K) A.dx fs) ∧ fs.lookup nm = none := by
  obtain ⟨sb, vr, ho, n, vo, h1, h2, h3⟩ := M.ins
  exact ⟨_, h1, hno _ _ _ _ _⟩
/-- self.m(e, ..) of a reading method -/
theorem ed_methM (cl : Cls X.K (cM X.K)) (pm : PM X.prog X.w X.K X.mg X.base k nm R) (hr : Room k X.A) (ha : @AD (mJ X.K H0 A m) X (e :: es) Δ ds) (h : R m ds d) (hno : ∀ sb vr ho n vo, (mkFs A sb vr ho n vo).lookup nm = none := by intro _ _ _ _ _; rfl)
    (hN : X.N[0]? = some x := by rfl) (hv : Vis X.env.scope x := by first | exact Or.inl rfl | exact Or.inr (Or.inl rfl) | exact Or.inr (Or.inr rfl)) (hd : (x == ("__debug__" : Str)) = false := by decide) (hcd : (x == ("__classdict__" : Str)) = false := by decide)
    (hst : starEach (e :: es) X.env = (false, eval e X.env) :: starEach es X.env := by rfl) (hpl : (backTo pos (starEach es X.env)).any (·.1) = false := by rfl)
    {pl : Sem Bool} (ht : eval (.Call (.Attribute (.Name x p) nm apos) (e :: es) [] pos) X.env = (do
      let ov ← eval (.Name x p) X.env
      standAt apos.atName
      let (f, first) ← holding [ov] (getMethod ov nm pl)
      callWith pos f first (backTo pos (starEach (e :: es) X.env)) (backToKw pos (keywordEach [] X.env))) := by rfl) : @ED (mJ X.K H0 A m) X (.Call (.Attribute (.Name x p) nm apos) (e :: es) [] pos) Δ d :=
  letI : SJ := mJ X.K H0 A m
  let ⟨_, _, _, F, hm, hb⟩ := pm.ex
  let ⟨_, pa, ga⟩ := ha.ex
  ⟨_, pe_meth (pv 0 hN hv hd hcd) cl hm F hr hb .nil pass0 pa hst hpl ht, fun σ H s Q q => by
    obtain ⟨h0, M, e0⟩ := s.1.1
    obtain ⟨fs, h1, h2⟩ := mat_no M hno
    refine ⟨_, h0, A.a, A.dx, fs, rfl, h1, h2, ga σ H s _ fun vs H1 e1 r1 => ?_⟩
    exact ⟨A, m, vs ++ [], ds, d, rfl, by rw [List.append_nil]; exact r1, M.ex e1, h, fun v H2 e2 r2 => q v H2 (e1.trans e2) r2⟩⟩
theorem ed_methM0 (cl : Cls X.K (cM X.K)) (pm : PM X.prog X.w X.K X.mg X.base k nm R) (hr : Room k X.A) (h : R m [] d) (hno : ∀ sb vr ho n vo, (mkFs A sb vr ho n vo).lookup nm = none := by intro _ _ _ _ _; rfl)
    (hN : X.N[0]? = some x := by rfl) (hv : Vis X.env.scope x := by first | exact Or.inl rfl | exact Or.inr (Or.inl rfl) | exact Or.inr (Or.inr rfl)) (hd : (x == ("__debug__" : Str)) = false := by decide) (hcd : (x == ("__classdict__" : Str)) = false := by decide)
    {pl : Sem Bool} (ht : eval (.Call (.Attribute (.Name x p) nm apos) [] [] pos) X.env = (do
      let ov ← eval (.Name x p) X.env
      standAt apos.atName
      let (f, first) ← holding [ov] (getMethod ov nm pl)
      callWith pos f first (backTo pos (starEach [] X.env)) (backToKw pos (keywordEach [] X.env))) := by rfl) : @ED (mJ X.K H0 A m) X (.Call (.Attribute (.Name x p) nm apos) [] [] pos) Δ d :=
  letI : SJ := mJ X.K H0 A m
  let ⟨_, _, _, F, hm, hb⟩ := pm.ex
  ⟨_, pe_meth0 (pv 0 hN hv hd hcd) cl hm F hr hb .nil pass0 ht, fun σ H s Q q => by
    obtain ⟨h0, M, e0⟩ := s.1.1
    obtain ⟨fs, h1, h2⟩ := mat_no M hno
    exact ⟨_, h0, A.a, A.dx, fs, rfl, h1, h2, A, m, [], [], d, rfl, .nil, M, h, fun v H2 e2 r2 => q v H2 e2 r2⟩⟩
end
end Sr

set_option Elab.async false
set_option linter.all false
set_option maxRecDepth 100000
set_option maxHeartbeats 4000000
/-! word, *rest = a tuple. -/
namespace Sr
open PySem PySem.Spec PyProof.Rows L2
open Evl (Ex)
theorem star_items {prog : Program} {w : World} {A : Around} {E : Value → Shared → Prop} {s : Shared} {l : Addr} {u0 : Value} {us : List Value} {Q : List Value → Shared → Prop} (hl : IsTup s.heap l (u0 :: us).toArray) (hh : A.handled = none) (hz : us.length ≤ 16000)
    (h : ∀ (h2 : Heap) (tk : Nat), (∀ b o, s.heap.get? b = some o → h2.get? b = some o) → Q [u0, .ref h2.objs.size] { s with heap := h2.push (seqObj "list" us.toArray 0), toks := tk }) : wpAny (model prog w) A (unpackItems (.ref l) 2 (some 1)) Q E s := by
  have hlt : l ≠ s.heap.objs.size := by obtain ⟨o, ho, _⟩ := hl; exact Nat.ne_of_lt (Heap.lt_size ho)
  have hsz : (u0 :: us).toArray.size = us.length + 1 := by simp
  unfold unpackItems
  refine wpAny_bind ?_
  unfold notIterableAtAll
  refine wpAny_bind (wpAny_specialOf hl.typeIs slot_tuple_iter.lookup ?_)
  refine wpAny_pure ?_
  simp only [Bool.false_eq_true, if_false]
  refine wpAny_bind (wpAny_holding (iter_tuple hl ?_))
  refine wpAny_bind (wpAny_holding (draw_tuple hlt 1 0 _ _ ⟨_, Heap.get?_push_size _ rfl, rfl, rfl⟩ (hl.push _) (by omega) fun h₁ hit₁ hs₁ => ?_))
  have hl₁ : IsTup h₁ l (u0 :: us).toArray := (hl.push _).extBut hs₁.extBut hlt
  have hit₁' := hit₁
  obtain ⟨oi, hoi, _⟩ := hit₁'
  have hl₁' := hl₁
  obtain ⟨ol, hol, _⟩ := hl₁'
  show wpAny _ _ (if ([u0] : List Value).length < 1 then _ else _) _ _ _
  rw [if_neg (by show ¬ (1 < 1); decide)]
  refine wpAny_bind (wpAny_holding (PySem.W.kun_collect (s := { s with heap := h₁ }) (T := "tuple_iterator") (.inr (.inr (.inr rfl))) (Walks.tuple (A := A.in1) hh s.heap.objs.size l hlt (u0 :: us).toArray) (fun j u st => st.1.typeIs) (k := 1) (by omega) ⟨hit₁, hl₁⟩ (Heap.lt_size hoi) (Heap.lt_size hol) (fun h₂ tk hk => ?_) (by rw [hsz, sizeLine_eq]; omega)))
  show wpAny _ _ (if us.length < 0 then _ else _) _ _ _
  rw [if_neg (by omega)]
  show wpAny _ _ (newList (us.take (us.length - 0)) >>= fun d => pure ([u0] ++ [d] ++ us.drop (us.length - 0))) _ _ _
  rw [Nat.sub_zero, List.take_length, List.drop_length]
  refine wpAny_bind (wpAny_newList ?_ (by rw [sizeLine_eq]; omega))
  refine wpAny_pure ?_
  exact h h₂ tk fun b o e => hk b o (Nat.ne_of_lt (Heap.lt_size e)) (hs₁.extBut b o (Nat.ne_of_lt (Heap.lt_size e)) (Heap.get?_push_of_some _ e))
/-- a, *b = a tuple -/
def gStar (K : PySem.W.Frag) (t1 t2 : TG) : TG := fun v σ H Q => ∃ a x xs, v = .ref a ∧ SqT K H a (x :: xs) ∧ xs.length ≤ 16000 ∧ ∀ D, H D = none → t1 x σ (upd H D (.lst xs)) fun σ1 H1 => t2 (.ref D) σ1 H1 Q
theorem pg_star {X : Cx} {e1 e2 : Expr} {p pos : Pos} {k : Nat} {t1 t2 : TG} (hc : X.calm = true) (h1 : PG X e1 t1) (h2 : PG X e2 t2) (he : assignEach [e1, .Starred e2 p] X.env = [(false, assign e1 X.env), (true, assign e2 X.env)] := by rfl) : PG X (.Tuple [e1, .Starred e2 p] k pos) (gStar X.K t1 t2) := by
  refine ⟨fun pins s σ H v u Q I r hw => ?_⟩
  obtain ⟨a, x, xs, e, hq, hl, q⟩ := hw
  subst e
  cases r
  obtain ⟨its, rv, ht, hz⟩ := I.tuple hq
  cases rv with
  | @cons _ u0 _ us rx rs =>
    rw [assign_Tuple]
    refine wpAny_bind (wpAny_standAt ?_)
    unfold unpack
    rw [he]
    have hus : us.length ≤ 16000 := by rw [← Paired.length rs]; exact hl
    refine wpAny_bind (wpAny_holding (star_items ht (I.ok.hd hc) hus fun h2' tk hk => ?_))
    have hn : H h2'.objs.size = none := (I.kept (t' := tk) hk).hok.fresh (Nat.le_refl _)
    have I1 : Inv X pins σ (upd H h2'.objs.size (.lst xs)) { s with heap := h2'.push (seqObj "list" us.toArray 0), toks := tk } :=
      (I.kept (t' := tk) hk).laid (t' := tk) (a := h2'.objs.size) (o := .lst xs) (h' := h2'.push (seqObj "list" us.toArray 0)) (fun _ _ q => Heap.get?_push_of_some _ q) (Nat.le_refl _)
        (show ObjOk X.prog X.w _ _ _ (.lst xs) from ⟨Nat.le_trans hl (by rw [sizeLine_eq]; omega), us, 0, rs, Heap.get?_push_size _ rfl⟩)
    refine assignInOrder_cons (thn (h1.run pins _ σ _ _ _ _ I1 rx (q _ hn)) fun _ s2 ⟨σ2, H2, I2, q2⟩ => ?_)
    exact assignInOrder_cons (thn (h2.run pins s2 σ2 H2 (.ref h2'.objs.size) _ _ I2 rfl q2) fun _ s3 q3 => assignInOrder_nil q3)
section
variable {X : Cx} {Δ : Dl} {p px py pos : Pos} {x y : Str} {d : PyData} {ds : List PyData} {k : Nat}
theorem gd_star [SJ] (i j : Nat) (hc : X.calm = true) (hN : X.N.Nodup) (hl : ds.length ≤ 16000) (hi : X.N[i]? = some x := by rfl) (hj : X.N[j]? = some y := by rfl) (hx : Loc X.env.scope x := by first | exact Or.inl rfl | exact Or.inr rfl) (hy : Loc X.env.scope y := by first | exact Or.inl rfl | exact Or.inr rfl)
    (hf : X.fn x = true ∨ X.env.scope.names.lookup x = some .local := by first | exact .inl rfl | exact .inr rfl) (hg : X.fn y = true ∨ X.env.scope.names.lookup y = some .local := by first | exact .inl rfl | exact .inr rfl)
    (h0 : SJ.ok i ∧ SJ.ok j := by first | exact ⟨True.intro, True.intro⟩ | exact ⟨Nat.succ_ne_zero _, Nat.succ_ne_zero _⟩)
    (he : assignEach [.Name x px, .Starred (.Name y py) p] X.env = [(false, assign (.Name x px) X.env), (true, assign (.Name y py) X.env)] := by rfl) :
    GD X (.Tuple [.Name x px, .Starred (.Name y py) p] k pos) Δ (.tuple (d :: ds)) ((Δ.set i (some d)).set j (some (.list ds))) :=
  ⟨_, pg_star hc (pg_name hN hi hx hf) (pg_name hN hj hy hg) he, fun σ H v s r Q q => by
    obtain ⟨a, xs, e, hs, rs⟩ := dp_tup r
    cases rs with
    | @cons v1 vs _ _ r1 rs =>
      refine ⟨a, v1, vs, e, hs, by rw [dpa_len rs]; exact hl, fun D hD => ?_⟩
      have eD : Ex H (upd H D (.lst vs)) := Ex.new hD
      exact q _ _ eD (((s.ex eD).set (dp_ex eD _ _ r1) h0.1).set (.lst (SqL.of upd_same) (dps_ex eD _ _ rs)) h0.2)⟩
end
end Sr

set_option Elab.async false
set_option linter.all false
set_option maxRecDepth 100000
set_option maxHeartbeats 4000000
/-! The machine's methods that only read. -/
namespace Sr
open PySem PySem.Spec PyProof.Rows L2
open Evl (Ex)
/-- a row of the program -/
inductive Rw where
  | set (b n : Int)
  | move (b c : Int)
  | op (x : Str) (b : Int) (y : By)
  | walk (b : Int) (y : By)
  | narrow (b : Int) (y : By)
  | exact (b : Int) (y : By)
  | less (b : Int) (z : Str)
  | sl (b c : Int)
  | opn (b c : Int)
  | ent (b : Int)
  | ask (b : Int) (x : Str) (c : Int)
  | here (b : Int)
  | load (b c o : Int)
  | store (c o b : Int)
  | poke (c o b : Int)
  | jump (x : Str) (b : Int) (y : By) (t : Int)
  | go (t : Int)
  | enter (b : Int)
def Rw.x : Rw → Str
  | .set _ _ => "set"
  | .move _ _ => "move"
  | .op _ _ _ => "do"
  | .walk _ _ => "walk"
  | .narrow _ _ => "narrow"
  | .exact _ _ => "exact"
  | .less _ _ => "less"
  | .sl _ _ => "seal"
  | .opn _ _ => "open"
  | .ent _ => "entry"
  | .ask _ _ _ => "ask"
  | .here _ => "here"
  | .load _ _ _ => "load"
  | .store _ _ _ => "store"
  | .poke _ _ _ => "poke"
  | .jump _ _ _ _ => "jump"
  | .go _ => "go"
  | .enter _ => "enter"
def Rw.args : Rw → List PyData
  | .set b n => [.int b, .int n]
  | .move b c => [.int b, .int c]
  | .op x b y => [.str x, .int b, y.d]
  | .walk b y => [.int b, y.d]
  | .narrow b y => [.int b, y.d]
  | .exact b y => [.int b, y.d]
  | .less b z => [.int b, .str z]
  | .sl b c => [.int b, .int c]
  | .opn b c => [.int b, .int c]
  | .ent b => [.int b]
  | .ask b x c => [.int b, .str x, .int c]
  | .here b => [.int b]
  | .load b c o => [.int b, .int c, .int o]
  | .store c o b => [.int c, .int o, .int b]
  | .poke c o b => [.int c, .int o, .int b]
  | .jump x b y t => [.str x, .int b, y.d, .int t]
  | .go t => [.int t]
  | .enter b => [.int b]
def Rw.d (r : Rw) : PyData := .tuple (.str r.x :: r.args)
def isB (b : Int) : Prop := 0 ≤ b ∧ b ≤ 7
def isO (o : Int) : Prop := -8 ≤ o ∧ o ≤ 15
def isT (t : Int) : Prop := 0 ≤ t ∧ t ≤ 4095
def Rw.ok : Rw → Prop
  | .set b n => isB b ∧ 0 ≤ n ∧ n ≤ 65535
  | .move b c => isB b ∧ isB c
  | .op x b y => x ∈ DEEDSl ∧ isB b ∧ y.ok
  | .walk b y => isB b ∧ y.ok
  | .narrow b y => isB b ∧ y.ok
  | .exact b y => isB b ∧ y.ok
  | .less b z => isB b ∧ z ∈ lessMenu
  | .sl b c => isB b ∧ isB c
  | .opn b c => isB b ∧ isB c
  | .ent b => isB b
  | .ask b x c => isB b ∧ x ∈ WHATSl ∧ isB c
  | .here b => isB b
  | .load b c o => isB b ∧ isB c ∧ isO o
  | .store c o b => isB c ∧ isO o ∧ isB b
  | .poke c o b => isB c ∧ isO o ∧ isB b
  | .jump x b y t => x ∈ ASKSl ∧ isB b ∧ y.ok ∧ isT t
  | .go t => isT t
  | .enter b => isB b
def bxv (m : Ms) (b : Int) : Wv := m.boxes.getD b.toNat (.pl 0)
theorem boxAt {m : Ms} (hz : m.boxes.length = 8) {b : Int} (hb : isB b) : atI (m.boxes.map Wv.d) b = some (bxv m b).d := by
  obtain ⟨b0, b1⟩ := hb
  unfold atI ixN bxv
  rw [List.length_map, hz, if_pos b0, if_pos (show b < ((8 : Nat) : Int) by omega)]
  show (m.boxes.map Wv.d)[b.toNat]? = _
  rw [List.getElem?_map, List.getD_eq_getElem?_getD]
  have h : b.toNat < m.boxes.length := by omega
  rw [List.getElem?_eq_getElem h]
  rfl
def numBy (m : Ms) : By → Int
  | .box n => (bxv m n).b
  | .worth n => n
def Ms.allOk (m : Ms) : Prop := ∀ w ∈ m.boxes, w.Ok
def Ms.allMild (m : Ms) : Prop := ∀ w ∈ m.boxes, w.mild = true
theorem bxv_ok {m : Ms} (h : m.allOk) (b : Int) : (bxv m b).Ok := by
  unfold bxv
  rw [List.getD_eq_getElem?_getD]
  cases q : m.boxes[b.toNat]? with
  | none => exact ⟨by decide, by decide⟩
  | some w => exact h w (List.mem_of_getElem? q)
theorem bxv_mild {m : Ms} (h : m.allMild) (b : Int) : (bxv m b).mild = true := by
  unfold bxv
  rw [List.getD_eq_getElem?_getD]
  cases q : m.boxes[b.toNat]? with
  | none => rfl
  | some w => exact h w (List.mem_of_getElem? q)
section
variable {P : Program} {w : World} {K : PySem.W.Frag} {mg : Str → Option Value} {base : Heap}
def R_row_at : Ms → List PyData → PyData → Prop := fun m ds d => ∃ (l h a k n : Int) (r : Rt), Fl l h a r.m k ∧ m.row = .mk l h a k r ∧ ds = [.int n] ∧ d = (m.row.walk (l + n - a)).d
theorem sc_Machine_row_at : FnScope ["self", "to", "at"] ["self", "to"] (defScope t_Machine_row_at) := ⟨rfl, rfl, rfl, by decide +kernel, rfl, by decide +kernel, by decide +kernel⟩
theorem pm_row_at (T : Tx P w K mg base) : PM P w K mg base 6 "row_at" R_row_at := by
  refine pm_of (N := ["self", "to", "at"]) (ps := ["self", "to"]) (n := 1) (k := 5) (fd_Machine_row_at T) sc_Machine_row_at (me_Machine_row_at T) rfl (fun m ds d h => by obtain ⟨l, h, a, k, n, r, F, e, rfl, rfl⟩ := h; rfl) (fun _ _ _ _ _ _ us hl => match us, hl with | [_, _], _ => rfl) ?_
  intro f cdv Ar outer s H E hr A m ds d M h
  obtain ⟨l, h, a, k, n, r, F, e, rfl, rfl⟩ := h
  letI J : SJ := mJ K H A m
  exact ⟨.rt _, bd_cons (sd_set 2 sc_Machine_row_at.nd (ed_ixT (ed_call (pf_fields_of T) (hr.mono (by decide)) (ad_cons (ed_fld (cl_Machine T) (no_Machine_own_row T) (fun _ M => mat_row M)) ad_nil) ((by rw [e]; exact mk_fields F))) ed_int)) (bd_one (sd_ret (ed_call (pf_walked_so T) (hr.mono (by decide)) (ad_cons (ed_fld (cl_Machine T) (no_Machine_own_row T) (fun _ M => mat_row M)) (ad_cons (ed_sub (ed_add (ed_ixT (ed_call (pf_fields_of T) (hr.mono (by decide)) (ad_cons (ed_fld (cl_Machine T) (no_Machine_own_row T) (fun _ M => mat_row M)) ad_nil) ((by rw [e]; exact mk_fields F))) ed_int) (ed_var 1)) (ed_var 2)) (ad_cons ed_non ad_nil))) (⟨m.row, _, by rw [e]; exact F, rfl, rfl⟩)) (rfl))), .inl rfl⟩
def R_number_by : Ms → List PyData → PyData → Prop := fun m ds d => ∃ b : By, b.ok ∧ ds = [b.d] ∧ d = .int (numBy m b)
theorem sc_Machine_number_by : FnScope ["self", "by"] ["self", "by"] (defScope t_Machine_number_by) := ⟨rfl, rfl, rfl, by decide +kernel, rfl, by decide +kernel, by decide +kernel⟩
theorem pm_number_by (T : Tx P w K mg base) : PM P w K mg base 1 "number_by" R_number_by := by
  refine pm_of (N := ["self", "by"]) (ps := ["self", "by"]) (n := 0) (k := 0) (fd_Machine_number_by T) sc_Machine_number_by (me_Machine_number_by T) rfl (fun m ds d h => by obtain ⟨b, hb, rfl, rfl⟩ := h; rfl) (fun _ _ _ _ _ _ us hl => match us, hl with | [_, _], _ => rfl) ?_
  intro f cdv Ar outer s H E hr A m ds d M h
  obtain ⟨b, hb, rfl, rfl⟩ := h
  letI J : SJ := mJ K H A m
  cases b with
  | box n => exact ⟨.rt _, bd_one (sd_ret (ed_if (p := false) (td_is (td_eqX (ed_ixT (ed_var 1) ed_int) ed_str) rfl) (fun h => Bool.noConfusion h) fun _ => (ed_ixT (ed_ixL (ed_fld (cl_Machine T) (no_Machine_own_boxes T) (fun _ M => mat_boxes M)) (ed_ixT (ed_var 1) ed_int) (boxAt M.sz hb)) ed_int)) rfl), .inl rfl⟩
  | worth n => exact ⟨.rt _, bd_one (sd_ret (ed_if (p := true) (td_is (td_eqX (ed_ixT (ed_var 1) ed_int) ed_str) rfl) (fun _ => (ed_ixT (ed_var 1) ed_int)) fun h => Bool.noConfusion h) rfl), .inl rfl⟩
def madeV (m : Ms) : Rw → Wv
  | .set _ n => .pl (n % 35184372088832)
  | .move _ c => bxv m c
  | .op x b y => .pl (doneN x (bxv m b).b (numBy m y) % 35184372088832)
  | .walk b y => (bxv m b).walk (numBy m y)
  | .narrow b y => (bxv m b).narrow (numBy m y) false
  | .exact b y => (bxv m b).narrow (numBy m y) true
  | .less b z => (bxv m b).less z
  | .sl b _ => (bxv m b).bare
  | .opn b _ => (bxv m b).bare
  | .ent b => (bxv m b).entry
  | .ask b x _ => .pl (askedN x (bxv m b) % 35184372088832)
  | .here _ => m.row.walk 1
  | _ => .pl 0
/-- the box that a row of a lesser word tells of -/
def Rw.own : Rw → Option Int
  | .walk b _ => some b
  | .narrow b _ => some b
  | .exact b _ => some b
  | .less b _ => some b
  | .sl b _ => some b
  | .opn b _ => some b
  | .ent b => some b
  | _ => none
def R_made_of : Ms → List PyData → PyData → Prop := fun m ds d => ∃ (r : Rw) (b : Int), r.own = some b ∧ r.ok ∧ m.allOk ∧ m.allMild ∧ ds = [.str r.x, (bxv m b).d, .list r.args] ∧ d = (madeV m r).d
theorem sc_Machine_made_of : FnScope ["self", "word", "own", "rest"] ["self", "word", "own", "rest"] (defScope t_Machine_made_of) := ⟨rfl, rfl, rfl, by decide +kernel, rfl, by decide +kernel, by decide +kernel⟩
theorem pm_made_of (T : Tx P w K mg base) : PM P w K mg base 8 "made_of" R_made_of := by
  refine pm_of (N := ["self", "word", "own", "rest"]) (ps := ["self", "word", "own", "rest"]) (n := 0) (k := 7) (fd_Machine_made_of T) sc_Machine_made_of (me_Machine_made_of T) rfl (fun m ds d h => by obtain ⟨r, b, ho, hk, ha, hm, rfl, rfl⟩ := h; rfl) (fun _ _ _ _ _ _ us hl => match us, hl with | [_, _, _, _], _ => rfl) ?_
  intro f cdv Ar outer s H E hr A m ds d M h
  obtain ⟨r, b, ho, hk, ha, hm, rfl, rfl⟩ := h
  letI J : SJ := mJ K H A m
  have hb := bxv_ok ha b
  have hl := bxv_mild hm b
  cases r with
  | walk b y => cases ho; exact ⟨.rt _, bd_ifx (p := true) (td_is (td_eqS (ed_var 1) ed_str) rfl) (fun _ h => nomatch h) (fun _ => bd_one (sd_ret (ed_call (pf_walked_so T) (hr.mono (by decide)) (ad_cons (ed_var 2) (ad_cons (ed_methM (cl_Machine T) (pm_number_by T) (hr.mono (by decide)) (ad_cons (ed_ixL (ed_var 3) ed_int) ad_nil) (⟨y, hk.2, rfl, rfl⟩)) (ad_cons (ed_fld (cl_Machine T) (no_Machine_rule T) (fun _ M => mat_rule M)) ad_nil))) (⟨_, _, hb, rfl, rfl⟩)) (rfl))) (fun h => Bool.noConfusion h), .inl rfl⟩
  | narrow b y => cases ho; exact ⟨.rt _, bd_iff (td_is (td_eqS (ed_var 1) ed_str) rfl) (bd_ifx (p := true) (td_is (td_in (ed_var 1) (ed_tup (ad_cons ed_str (ad_cons ed_str ad_nil))) (by first | exact .inl rfl | exact .inr rfl)) rfl) (fun _ h => nomatch h) (fun _ => bd_one (sd_ret (ed_call (pf_narrowed_so T) (hr.mono (by decide)) (ad_cons (ed_var 2) (ad_cons (ed_methM (cl_Machine T) (pm_number_by T) (hr.mono (by decide)) (ad_cons (ed_ixL (ed_var 3) ed_int) ad_nil) (⟨y, hk.2, rfl, rfl⟩)) (ad_cons (ed_eqS (ed_var 1) ed_str) (ad_cons (ed_fld (cl_Machine T) (no_Machine_rule T) (fun _ M => mat_rule M)) ad_nil)))) (⟨_, _, false, hb, rfl, rfl⟩)) (rfl))) (fun h => Bool.noConfusion h)), .inl rfl⟩
  | exact b y => cases ho; exact ⟨.rt _, bd_iff (td_is (td_eqS (ed_var 1) ed_str) rfl) (bd_ifx (p := true) (td_is (td_in (ed_var 1) (ed_tup (ad_cons ed_str (ad_cons ed_str ad_nil))) (by first | exact .inl rfl | exact .inr rfl)) rfl) (fun _ h => nomatch h) (fun _ => bd_one (sd_ret (ed_call (pf_narrowed_so T) (hr.mono (by decide)) (ad_cons (ed_var 2) (ad_cons (ed_methM (cl_Machine T) (pm_number_by T) (hr.mono (by decide)) (ad_cons (ed_ixL (ed_var 3) ed_int) ad_nil) (⟨y, hk.2, rfl, rfl⟩)) (ad_cons (ed_eqS (ed_var 1) ed_str) (ad_cons (ed_fld (cl_Machine T) (no_Machine_rule T) (fun _ M => mat_rule M)) ad_nil)))) (⟨_, _, true, hb, rfl, rfl⟩)) (rfl))) (fun h => Bool.noConfusion h)), .inl rfl⟩
  | less b z => cases ho; exact ⟨.rt _, bd_iff (td_is (td_eqS (ed_var 1) ed_str) rfl) (bd_iff (td_is (td_in (ed_var 1) (ed_tup (ad_cons ed_str (ad_cons ed_str ad_nil))) (by first | exact .inl rfl | exact .inr rfl)) rfl) (bd_ifx (p := true) (td_is (td_eqS (ed_var 1) ed_str) rfl) (fun _ h => nomatch h) (fun _ => bd_one (sd_ret (ed_call (pf_lessened_so T) (hr.mono (by decide)) (ad_cons (ed_var 2) (ad_cons (ed_ixL (ed_var 3) ed_int) (ad_cons (ed_fld (cl_Machine T) (no_Machine_rule T) (fun _ M => mat_rule M)) ad_nil))) (⟨_, z, hb, hl, hk.2, rfl, rfl⟩)) (rfl))) (fun h => Bool.noConfusion h))), .inl rfl⟩
  | sl b c => cases ho; exact ⟨.rt _, bd_iff (td_is (td_eqS (ed_var 1) ed_str) rfl) (bd_iff (td_is (td_in (ed_var 1) (ed_tup (ad_cons ed_str (ad_cons ed_str ad_nil))) (by first | exact .inl rfl | exact .inr rfl)) rfl) (bd_iff (td_is (td_eqS (ed_var 1) ed_str) rfl) (bd_ifx (p := true) (td_is (td_eqS (ed_var 1) ed_str) rfl) (fun _ h => nomatch h) (fun _ => bd_one (sd_ret (ed_call (pf_sealed T) (hr.mono (by decide)) (ad_cons (ed_var 2) (ad_cons (ed_ixL (ed_fld (cl_Machine T) (no_Machine_own_boxes T) (fun _ M => mat_boxes M)) (ed_ixL (ed_var 3) ed_int) (boxAt M.sz hk.2)) ad_nil)) (⟨_, _, hb, bxv_ok ha c, bxv_mild hm c, rfl, rfl⟩)) (rfl))) (fun h => Bool.noConfusion h)))), .inl rfl⟩
  | opn b c => cases ho; exact ⟨.rt _, bd_iff (td_is (td_eqS (ed_var 1) ed_str) rfl) (bd_iff (td_is (td_in (ed_var 1) (ed_tup (ad_cons ed_str (ad_cons ed_str ad_nil))) (by first | exact .inl rfl | exact .inr rfl)) rfl) (bd_iff (td_is (td_eqS (ed_var 1) ed_str) rfl) (bd_iff (td_is (td_eqS (ed_var 1) ed_str) rfl) (bd_ifx (p := true) (td_is (td_eqS (ed_var 1) ed_str) rfl) (fun _ h => nomatch h) (fun _ => bd_one (sd_ret (ed_call (pf_opened_so T) (hr.mono (by decide)) (ad_cons (ed_var 2) (ad_cons (ed_ixL (ed_fld (cl_Machine T) (no_Machine_own_boxes T) (fun _ M => mat_boxes M)) (ed_ixL (ed_var 3) ed_int) (boxAt M.sz hk.2)) (ad_cons (ed_fld (cl_Machine T) (no_Machine_rule T) (fun _ M => mat_rule M)) ad_nil))) (⟨_, _, hb, bxv_ok ha c, bxv_mild hm c, rfl, rfl⟩)) (rfl))) (fun h => Bool.noConfusion h))))), .inl rfl⟩
  | ent b => cases ho; exact ⟨.rt _, bd_iff (td_is (td_eqS (ed_var 1) ed_str) rfl) (bd_iff (td_is (td_in (ed_var 1) (ed_tup (ad_cons ed_str (ad_cons ed_str ad_nil))) (by first | exact .inl rfl | exact .inr rfl)) rfl) (bd_iff (td_is (td_eqS (ed_var 1) ed_str) rfl) (bd_iff (td_is (td_eqS (ed_var 1) ed_str) rfl) (bd_iff (td_is (td_eqS (ed_var 1) ed_str) rfl) (bd_one (sd_ret (ed_call (pf_entry T) (hr.mono (by decide)) (ad_cons (ed_var 2) ad_nil) (⟨_, hb, hl, rfl, rfl⟩)) (rfl))))))), .inl rfl⟩
  | _ => cases ho
/-- whether a row makes a word, and of what -/
def Rw.isMade : Rw → Bool
  | .load _ _ _ => false
  | .store _ _ _ => false
  | .poke _ _ _ => false
  | .jump _ _ _ _ => false
  | .go _ => false
  | .enter _ => false
  | _ => true
def R_made : Ms → List PyData → PyData → Prop := fun m ds d => ∃ r : Rw, r.isMade = true ∧ r.ok ∧ m.allOk ∧ (r.own ≠ none → m.allMild) ∧ m.row.Ok ∧ ds = [r.d] ∧ d = (madeV m r).d
theorem sc_Machine_made : FnScope ["self", "row", "word", "rest"] ["self", "row"] (defScope t_Machine_made) := ⟨rfl, rfl, rfl, by decide +kernel, rfl, by decide +kernel, by decide +kernel⟩
theorem pm_made (T : Tx P w K mg base) : PM P w K mg base 9 "made" R_made := by
  refine pm_of (N := ["self", "row", "word", "rest"]) (ps := ["self", "row"]) (n := 2) (k := 8) (fd_Machine_made T) sc_Machine_made (me_Machine_made T) rfl (fun m ds d h => by obtain ⟨r, hi, hk, ha, hm, hw, rfl, rfl⟩ := h; rfl) (fun _ _ _ _ _ _ us hl => match us, hl with | [_, _], _ => rfl) ?_
  intro f cdv Ar outer s H E hr A m ds d M h
  obtain ⟨r, hi, hk, ha, hm, hw, rfl, rfl⟩ := h
  letI J : SJ := mJ K H A m
  have le : ∀ {n k : Nat}, Nat.ble n k = true → n ≤ k := fun h => Nat.le_of_ble_eq_true h
  cases r with
  | op x b y => exact ⟨.rt _, bd_cons (sd_asg (ed_var 1) (gd_star 2 3 rfl sc_Machine_made.nd ((le rfl)))) (bd_ifx (p := true) (td_is (td_eqS (ed_var 2) ed_str) rfl) (fun _ h => nomatch h) (fun _ => bd_one (sd_ret (ed_call (pf_plain T) (hr.mono (by decide)) (ad_cons (ed_call (pf_number_done T) (hr.mono (by decide)) (ad_cons (ed_ixL (ed_var 3) ed_int) (ad_cons (ed_ixT (ed_ixL (ed_fld (cl_Machine T) (no_Machine_own_boxes T) (fun _ M => mat_boxes M)) (ed_ixL (ed_var 3) ed_int) (boxAt M.sz hk.2.1)) ed_int) (ad_cons (ed_methM (cl_Machine T) (pm_number_by T) (hr.mono (by decide)) (ad_cons (ed_ixL (ed_var 3) ed_int) ad_nil) (⟨y, hk.2.2, rfl, rfl⟩)) ad_nil))) (⟨x, _, _, rfl, (bxv_ok ha b).range.1, (bxv_ok ha b).range.2, rfl⟩)) ad_nil) (⟨_, rfl, rfl⟩)) (rfl))) (fun h => Bool.noConfusion h)), .inl rfl⟩
  | ask b x c => exact ⟨.rt _, bd_cons (sd_asg (ed_var 1) (gd_star 2 3 rfl sc_Machine_made.nd ((le rfl)))) (bd_iff (td_is (td_eqS (ed_var 2) ed_str) rfl) (bd_ifx (p := true) (td_is (td_eqS (ed_var 2) ed_str) rfl) (fun _ h => nomatch h) (fun _ => bd_one (sd_ret (ed_call (pf_plain T) (hr.mono (by decide)) (ad_cons (ed_call (pf_number_asked T) (hr.mono (by decide)) (ad_cons (ed_ixL (ed_var 3) ed_int) (ad_cons (ed_ixL (ed_fld (cl_Machine T) (no_Machine_own_boxes T) (fun _ M => mat_boxes M)) (ed_ixL (ed_var 3) ed_int) (boxAt M.sz hk.1)) ad_nil)) (⟨x, _, rfl, rfl⟩)) ad_nil) (⟨_, rfl, rfl⟩)) (rfl))) (fun h => Bool.noConfusion h))), .inl rfl⟩
  | set b n => exact ⟨.rt _, bd_cons (sd_asg (ed_var 1) (gd_star 2 3 rfl sc_Machine_made.nd ((le rfl)))) (bd_iff (td_is (td_eqS (ed_var 2) ed_str) rfl) (bd_iff (td_is (td_eqS (ed_var 2) ed_str) rfl) (bd_ifx (p := true) (td_is (td_eqS (ed_var 2) ed_str) rfl) (fun _ h => nomatch h) (fun _ => bd_one (sd_ret (ed_call (pf_plain T) (hr.mono (by decide)) (ad_cons (ed_ixL (ed_var 3) ed_int) ad_nil) (⟨_, rfl, rfl⟩)) (rfl))) (fun h => Bool.noConfusion h)))), .inl rfl⟩
  | move b c => exact ⟨.rt _, bd_cons (sd_asg (ed_var 1) (gd_star 2 3 rfl sc_Machine_made.nd ((le rfl)))) (bd_iff (td_is (td_eqS (ed_var 2) ed_str) rfl) (bd_iff (td_is (td_eqS (ed_var 2) ed_str) rfl) (bd_iff (td_is (td_eqS (ed_var 2) ed_str) rfl) (bd_ifx (p := true) (td_is (td_eqS (ed_var 2) ed_str) rfl) (fun _ h => nomatch h) (fun _ => bd_one (sd_ret (ed_ixL (ed_fld (cl_Machine T) (no_Machine_own_boxes T) (fun _ M => mat_boxes M)) (ed_ixL (ed_var 3) ed_int) (boxAt M.sz hk.2)) (rfl))) (fun h => Bool.noConfusion h))))), .inl rfl⟩
  | here b => exact ⟨.rt _, bd_cons (sd_asg (ed_var 1) (gd_star 2 3 rfl sc_Machine_made.nd ((le rfl)))) (bd_iff (td_is (td_eqS (ed_var 2) ed_str) rfl) (bd_iff (td_is (td_eqS (ed_var 2) ed_str) rfl) (bd_iff (td_is (td_eqS (ed_var 2) ed_str) rfl) (bd_iff (td_is (td_eqS (ed_var 2) ed_str) rfl) (bd_ifx (p := true) (td_is (td_eqS (ed_var 2) ed_str) rfl) (fun _ h => nomatch h) (fun _ => bd_one (sd_ret (ed_call (pf_walked_so T) (hr.mono (by decide)) (ad_cons (ed_fld (cl_Machine T) (no_Machine_own_row T) (fun _ M => mat_row M)) (ad_cons ed_int (ad_cons ed_non ad_nil))) (⟨_, _, hw, rfl, rfl⟩)) (rfl))) (fun h => Bool.noConfusion h)))))), .inl rfl⟩
  | walk b y => exact ⟨.rt _, bd_cons (sd_asg (ed_var 1) (gd_star 2 3 rfl sc_Machine_made.nd ((le rfl)))) (bd_iff (td_is (td_eqS (ed_var 2) ed_str) rfl) (bd_iff (td_is (td_eqS (ed_var 2) ed_str) rfl) (bd_iff (td_is (td_eqS (ed_var 2) ed_str) rfl) (bd_iff (td_is (td_eqS (ed_var 2) ed_str) rfl) (bd_iff (td_is (td_eqS (ed_var 2) ed_str) rfl) (bd_iff (td_is (td_eqS (ed_var 2) ed_str) rfl) (bd_one (sd_ret (ed_methM (cl_Machine T) (pm_made_of T) (hr.mono (by decide)) (ad_cons (ed_var 2) (ad_cons (ed_ixL (ed_fld (cl_Machine T) (no_Machine_own_boxes T) (fun _ M => mat_boxes M)) (ed_ixL (ed_var 3) ed_int) (boxAt M.sz hk.1)) (ad_cons (ed_var 3) ad_nil))) (⟨.walk b y, b, rfl, hk, ha, hm (by simp [Rw.own]), rfl, rfl⟩)) (rfl))))))))), .inl rfl⟩
  | narrow b y => exact ⟨.rt _, bd_cons (sd_asg (ed_var 1) (gd_star 2 3 rfl sc_Machine_made.nd ((le rfl)))) (bd_iff (td_is (td_eqS (ed_var 2) ed_str) rfl) (bd_iff (td_is (td_eqS (ed_var 2) ed_str) rfl) (bd_iff (td_is (td_eqS (ed_var 2) ed_str) rfl) (bd_iff (td_is (td_eqS (ed_var 2) ed_str) rfl) (bd_iff (td_is (td_eqS (ed_var 2) ed_str) rfl) (bd_iff (td_is (td_eqS (ed_var 2) ed_str) rfl) (bd_one (sd_ret (ed_methM (cl_Machine T) (pm_made_of T) (hr.mono (by decide)) (ad_cons (ed_var 2) (ad_cons (ed_ixL (ed_fld (cl_Machine T) (no_Machine_own_boxes T) (fun _ M => mat_boxes M)) (ed_ixL (ed_var 3) ed_int) (boxAt M.sz hk.1)) (ad_cons (ed_var 3) ad_nil))) (⟨.narrow b y, b, rfl, hk, ha, hm (by simp [Rw.own]), rfl, rfl⟩)) (rfl))))))))), .inl rfl⟩
  | exact b y => exact ⟨.rt _, bd_cons (sd_asg (ed_var 1) (gd_star 2 3 rfl sc_Machine_made.nd ((le rfl)))) (bd_iff (td_is (td_eqS (ed_var 2) ed_str) rfl) (bd_iff (td_is (td_eqS (ed_var 2) ed_str) rfl) (bd_iff (td_is (td_eqS (ed_var 2) ed_str) rfl) (bd_iff (td_is (td_eqS (ed_var 2) ed_str) rfl) (bd_iff (td_is (td_eqS (ed_var 2) ed_str) rfl) (bd_iff (td_is (td_eqS (ed_var 2) ed_str) rfl) (bd_one (sd_ret (ed_methM (cl_Machine T) (pm_made_of T) (hr.mono (by decide)) (ad_cons (ed_var 2) (ad_cons (ed_ixL (ed_fld (cl_Machine T) (no_Machine_own_boxes T) (fun _ M => mat_boxes M)) (ed_ixL (ed_var 3) ed_int) (boxAt M.sz hk.1)) (ad_cons (ed_var 3) ad_nil))) (⟨.exact b y, b, rfl, hk, ha, hm (by simp [Rw.own]), rfl, rfl⟩)) (rfl))))))))), .inl rfl⟩
  | less b z => exact ⟨.rt _, bd_cons (sd_asg (ed_var 1) (gd_star 2 3 rfl sc_Machine_made.nd ((le rfl)))) (bd_iff (td_is (td_eqS (ed_var 2) ed_str) rfl) (bd_iff (td_is (td_eqS (ed_var 2) ed_str) rfl) (bd_iff (td_is (td_eqS (ed_var 2) ed_str) rfl) (bd_iff (td_is (td_eqS (ed_var 2) ed_str) rfl) (bd_iff (td_is (td_eqS (ed_var 2) ed_str) rfl) (bd_iff (td_is (td_eqS (ed_var 2) ed_str) rfl) (bd_one (sd_ret (ed_methM (cl_Machine T) (pm_made_of T) (hr.mono (by decide)) (ad_cons (ed_var 2) (ad_cons (ed_ixL (ed_fld (cl_Machine T) (no_Machine_own_boxes T) (fun _ M => mat_boxes M)) (ed_ixL (ed_var 3) ed_int) (boxAt M.sz hk.1)) (ad_cons (ed_var 3) ad_nil))) (⟨.less b z, b, rfl, hk, ha, hm (by simp [Rw.own]), rfl, rfl⟩)) (rfl))))))))), .inl rfl⟩
  | sl b c => exact ⟨.rt _, bd_cons (sd_asg (ed_var 1) (gd_star 2 3 rfl sc_Machine_made.nd ((le rfl)))) (bd_iff (td_is (td_eqS (ed_var 2) ed_str) rfl) (bd_iff (td_is (td_eqS (ed_var 2) ed_str) rfl) (bd_iff (td_is (td_eqS (ed_var 2) ed_str) rfl) (bd_iff (td_is (td_eqS (ed_var 2) ed_str) rfl) (bd_iff (td_is (td_eqS (ed_var 2) ed_str) rfl) (bd_iff (td_is (td_eqS (ed_var 2) ed_str) rfl) (bd_one (sd_ret (ed_methM (cl_Machine T) (pm_made_of T) (hr.mono (by decide)) (ad_cons (ed_var 2) (ad_cons (ed_ixL (ed_fld (cl_Machine T) (no_Machine_own_boxes T) (fun _ M => mat_boxes M)) (ed_ixL (ed_var 3) ed_int) (boxAt M.sz hk.1)) (ad_cons (ed_var 3) ad_nil))) (⟨.sl b c, b, rfl, hk, ha, hm (by simp [Rw.own]), rfl, rfl⟩)) (rfl))))))))), .inl rfl⟩
  | opn b c => exact ⟨.rt _, bd_cons (sd_asg (ed_var 1) (gd_star 2 3 rfl sc_Machine_made.nd ((le rfl)))) (bd_iff (td_is (td_eqS (ed_var 2) ed_str) rfl) (bd_iff (td_is (td_eqS (ed_var 2) ed_str) rfl) (bd_iff (td_is (td_eqS (ed_var 2) ed_str) rfl) (bd_iff (td_is (td_eqS (ed_var 2) ed_str) rfl) (bd_iff (td_is (td_eqS (ed_var 2) ed_str) rfl) (bd_iff (td_is (td_eqS (ed_var 2) ed_str) rfl) (bd_one (sd_ret (ed_methM (cl_Machine T) (pm_made_of T) (hr.mono (by decide)) (ad_cons (ed_var 2) (ad_cons (ed_ixL (ed_fld (cl_Machine T) (no_Machine_own_boxes T) (fun _ M => mat_boxes M)) (ed_ixL (ed_var 3) ed_int) (boxAt M.sz hk.1)) (ad_cons (ed_var 3) ad_nil))) (⟨.opn b c, b, rfl, hk, ha, hm (by simp [Rw.own]), rfl, rfl⟩)) (rfl))))))))), .inl rfl⟩
  | ent b => exact ⟨.rt _, bd_cons (sd_asg (ed_var 1) (gd_star 2 3 rfl sc_Machine_made.nd ((le rfl)))) (bd_iff (td_is (td_eqS (ed_var 2) ed_str) rfl) (bd_iff (td_is (td_eqS (ed_var 2) ed_str) rfl) (bd_iff (td_is (td_eqS (ed_var 2) ed_str) rfl) (bd_iff (td_is (td_eqS (ed_var 2) ed_str) rfl) (bd_iff (td_is (td_eqS (ed_var 2) ed_str) rfl) (bd_iff (td_is (td_eqS (ed_var 2) ed_str) rfl) (bd_one (sd_ret (ed_methM (cl_Machine T) (pm_made_of T) (hr.mono (by decide)) (ad_cons (ed_var 2) (ad_cons (ed_ixL (ed_fld (cl_Machine T) (no_Machine_own_boxes T) (fun _ M => mat_boxes M)) (ed_ixL (ed_var 3) ed_int) (boxAt M.sz hk)) (ad_cons (ed_var 3) ad_nil))) (⟨.ent b, b, rfl, hk, ha, hm (by simp [Rw.own]), rfl, rfl⟩)) (rfl))))))))), .inl rfl⟩
  | _ => cases hi
end
end Sr

set_option Elab.async false
set_option linter.all false
set_option maxRecDepth 100000
set_option maxHeartbeats 4000000
/-! The own error. -/
namespace Sr
open PySem PySem.Spec PyProof.Rows L2
open Evl (Ex)
abbrev cF (K : PySem.W.Frag) : Addr := He.ga K "Fault"
section
variable {P : Program} {w : World} {K : PySem.W.Frag} {mg : Str → Option Value} {base : Heap}
theorem xclsB_ok {C : Addr} {bm : List Value} (h : xclsB K C bm = true) : ∃ nm q N bs sn sub ab col dd k0 k1 k2 k3 k5, K.lookup C = some (excClassObj nm q C N bs bm true sn sub ab col dd k0 k1 k2 k3 k5 "ValueError.__new__") := by
  unfold xclsB at h
  split at h
  · rename_i dd cd sl ho
    split at h
    · rename_i C' bm' k0 k1 k2 k3 n k5 hm hs
      simp only [Bool.and_eq_true, decide_eq_true_eq, Bool.not_eq_true'] at h
      obtain ⟨rfl, rfl, hdel, hd, rfl⟩ := h
      obtain ⟨nm, bs, mro, ns, qn, hdd, sn, sub, ab, col, del⟩ := cd
      dsimp only at hm hdel hd
      subst hm hdel hd
      have hsl : sl = #[k0, k1, k2, k3, some (.builtin "ValueError.__new__"), k5] := by
        obtain ⟨l⟩ := sl
        simp only at hs
        rw [hs]
      subst hsl
      exact ⟨nm, qn, ns, bs, sn, sub, ab, col, dd, k0, k1, k2, k3, k5, ho⟩
    · cases h
  · cases h
theorem valB_ok {C : Addr} {m : Str} {n : String} (h : valB K C m n = true) : PySem.W.findCls K (.ref C) (.type "type") m = some (.val (.builtin n)) := by
  unfold valB at h
  split at h
  · rename_i x q
    rw [q, of_decide_eq_true h]
  · cases h
theorem oexF (T : Tx P w K mg base) : OexC K (cF K) := by
  obtain ⟨nm, q, N, bs, sn, sub, ab, col, dd, k0, k1, k2, k3, k5, ho⟩ := xclsB_ok (T.x 7 (b := xclsB K (He.ga K "Fault") (reachTail K)) rfl)
  exact ⟨⟨nm, q, N, bs, reachTail K, sn, sub, ab, col, dd, k0, k1, k2, k3, k5, ho, rfl⟩, He.eqO_ok (T.x 8 rfl), of_decide_eq_true (T.x 15 rfl), of_decide_eq_true (T.x 16 rfl), T.x 14 rfl⟩
theorem xfF (T : Tx P w K mg base) : XfC K (cF K) := ⟨He.eqO_ok (T.x 9 rfl), He.eqO_ok (T.x 10 rfl), of_decide_eq_true (T.x 15 rfl), T.x 17 rfl⟩
theorem noF (T : Tx P w K mg base) : PySem.W.findIn K (.ref (cF K)) "word" = some none := He.eqO_ok (T.x 11 rfl)
theorem iniF (T : Tx P w K mg base) : PySem.W.findIn K (.ref (cF K)) "__init__" = some (some (.ref (He.ma K (He.ga K "Fault") "__init__"))) := He.eqO_ok (T.x 12 rfl)
theorem tyiF (T : Tx P w K mg base) : PySem.W.typeIn K (.ref (He.ma K (He.ga K "Fault") "__init__")) = some (.type "function") := of_decide_eq_true (T.x 13 rfl)
theorem exmF (T : Tx P w K mg base) : PySem.W.exmOne K (.ref (cF K)) (.ref (cF K)) = some true := of_decide_eq_true (T.x 18 rfl)
end
/-! ### an inherited __init__, read of the class above -/
section
variable {X : Cx} {e : Expr} {es : List Expr} {ta : TA} {p1 p2 pos : Pos} {x : Str} {R : Addr}
theorem pe_reinit {pl : Sem Bool} (hg : Gl X x) (hm : X.mg x = some (.ref R)) (hr : PySem.W.readsIn X.K R (.type "type") = true) (hs : PySem.W.specialIn X.K (.ref R) "__getattribute__" = some (some (.builtin "type.__getattribute__")))
    (vV : PySem.W.findCls X.K (.ref R) (.type "type") "__init__" = some (.val (.builtin "ValueError.__init__"))) (ha : PA X (e :: es) ta)
    (hc : eval (.Call (.Attribute (.Name x p1) "__init__" p2) (e :: es) [] pos) X.env = (do
      let ov ← eval (.Name x p1) X.env
      standAt p2.atName
      let (f, first) ← holding [ov] (getMethod ov "__init__" pl)
      callWith pos f first (backTo pos (starEach (e :: es) X.env)) (backToKw pos (keywordEach [] X.env))) := by rfl)
    (he : starEach (e :: es) X.env = (false, eval e X.env) :: starEach es X.env := by rfl) (hpl : (backTo pos (starEach es X.env)).any (·.1) = false := by rfl) (hdb : (x == ("__debug__" : Str)) = false := by decide) :
    PE X (.Call (.Attribute (.Name x p1) "__init__" p2) (e :: es) [] pos) (tVeI X.K ta) := by
  refine ⟨fun pins s σ H Q I h => ?_⟩
  refine PySem.W.methodCall_KW (ld_glob I hg hm ?_ hdb) hc
  refine PySem.W.method_cls I.kIn hs (PySem.W.cls_value I.kIn hr vV (by decide +kernel) ?_)
  show wpAny _ _ (callWith pos (Value.builtin "ValueError.__init__") [] (backTo pos (starEach (e :: es) X.env)) []) _ _ _
  refine PyProof.Rows.callWith_method1 (thn (ha.run pos pins _ σ H _ (I.tok _) h) fun us s1 ⟨vs, H1, I1, r1, a, C, ws, ev, hl, T, ea, q⟩ => ?_) he hpl
  subst ev
  cases r1 with
  | @cons _ u0 _ ur ra rw' =>
    obtain rfl : u0 = Value.ref a := ra
    have hlen : ur.length ≤ sizeLine := by
      rw [← Paired.length rw', sizeLine_eq]
      omega
    exact oinit_ok T I1 ea hlen fun s' J => ⟨.non, H1, J, rfl, q⟩
end
end Sr

set_option Elab.async false
set_option linter.all false
set_option maxRecDepth 100000
set_option maxHeartbeats 4000000
/-! raise Fault('..'). -/
namespace Sr
open PySem PySem.Spec PyProof.Rows L2
open Evl (Ex)
def spFI (K : PySem.W.Frag) : Sp := fun vs H Q _ => ∃ (a : Addr) (y : Str), vs = [.ref a, .str y] ∧ H a = some (exo a (cF K) none) ∧ ∀ dx, H dx = none → dx ≠ a → Q .non (upd (upd H dx (exd dx [("word", .str y)])) a (exo a (cF K) (some dx)))
theorem sc_Fault_init : FnScope ["self", "word"] ["self", "word"] (defScope t_Fault_init) := ⟨rfl, rfl, rfl, by decide +kernel, rfl, by decide +kernel, by decide +kernel⟩
section
variable {P : Program} {w : World} {K : PySem.W.Frag} {mg : Str → Option Value} {base : Heap}
theorem fn_Fault_init (T : Tx P w K mg base) : ∃ fd, FnOk P w K mg base CX0 1 (He.fAd K d_Fault_init.at_) fd ["self", "word"] (spFI K) ∧ Binds K fd ["self", "word"] [] := by
  obtain ⟨fd, F⟩ := fd_Fault_init T
  refine ⟨fd, F.ok sc_Fault_init (fun vs H Q E h => by obtain ⟨a, y, rfl, _⟩ := h; rfl) (fun cdv Ar outer s H vs Q E hr h => ?_), F.bindsN fun _ _ _ _ _ _ us hl => match us, hl with | [_, _], _ => rfl⟩
  obtain ⟨a, y, rfl, ha, q⟩ := h
  refine ⟨_, pss_cons (ps_expr (pe_reinit (x := "ReachError") rfl (gl_ReachError T) (T.x 21 rfl) (He.eqO_ok (T.x 22 rfl)) (valB_ok (T.x 23 rfl)) (pa_cons (pv 0) (pa_cons pe_str pa_nil)))) (pss_one (ps_ost (pv 0) (pv 1))), ?_⟩
  refine ⟨_, rfl, a, cF K, [_], rfl, by decide, oexF T, ha, ?_⟩
  refine ⟨_, rfl, _, rfl, a, cF K, rfl, oexF T, noF T, .inl ⟨ha, fun dx hn hne => q dx hn hne⟩⟩
end
/-- C(e, ..), C's own __init__ keeping sp; the exception has no context -/
theorem pmk_oexN {X : Cx} {CX : CXT} {x : Str} {e : Expr} {es : List Expr} {ta : TA} {p pos : Pos} {C fI : Addr} {k : Nat} {fd : FuncData} {ps : List Str} {sp : Sp} (T : OexC X.K C) (iC : PySem.W.findIn X.K (.ref C) "__init__" = some (some (.ref fI))) (tI : PySem.W.typeIn X.K (.ref fI) = some (.type "function"))
    (F1 : FnOk X.prog X.w X.K X.mg X.base CX k fI fd ps sp) (hr : Room (k + 1) X.A) (hb : Binds X.K fd ps []) (hx : Passes CX X (fun _ _ _ => False)) (hg : Gl X x) (hm : X.mg x = some (.ref C)) (ha : PA X (e :: es) ta)
    (hdb : (x == ("__debug__" : Str)) = false := by decide) (he : starEach (e :: es) X.env = (false, eval e X.env) :: starEach es X.env := by rfl) (hpl : (backTo pos (starEach es X.env)).any (·.1) = false := by rfl) :
    L2N.PMk X (.Call (.Name x p) (e :: es) [] pos) (tMkO C sp [] ta) := by
  intro pins s σ H Q I h
  obtain ⟨nm, q, N, bs, bm, sn, sub, ab, col, dd, k0, k1, k2, k3, k5, hC, hbm⟩ := T.cls
  refine wpAny_Call_Name_kw (ld_glob I hg hm ?_ hdb)
  refine PySem.W.callWith_K (h₀ := X.base) I.ok.mod.kin T.kC (thn (ha.run pos pins s σ H _ I h) fun us s1 ⟨vs, H1, I1, r1, hz, q1⟩ => ⟨I1.kIn, ?_⟩) he hpl
  show wpAny _ _ (call (.ref C) us) _ _ _
  obtain ⟨hp, g, dr, tk, os⟩ := s1
  have hsz : hp.objs.size ≤ hp.objs.size + 1 := Nat.le_succ _
  have hn : H1 (hp.objs.size + 1) = none := I1.hok.fresh hsz
  have hq := q1 (hp.objs.size + 1) hn
  rw [List.append_nil] at hq
  have kk : ∀ b o, hp.get? b = some o → ((hp.push (PySem.W.kdv_tup us)).push (PySem.HandSPX.excO C hp.objs.size)).get? b = some o := fun b o e => Heap.get?_push_of_some _ (Heap.get?_push_of_some _ e)
  have hget : ((hp.push (PySem.W.kdv_tup us)).push (PySem.HandSPX.excO C hp.objs.size)).get? (hp.objs.size + 1) = some (PySem.HandSPX.excO C hp.objs.size) := by heap_get
  have I2 : Inv X pins σ (upd H1 (hp.objs.size + 1) (exo (hp.objs.size + 1) C none)) ⟨(hp.push (PySem.W.kdv_tup us)).push (PySem.HandSPX.excO C hp.objs.size), g, dr, tk, os⟩ :=
    I1.laid (t' := tk) (a := hp.objs.size + 1) (o := exo (hp.objs.size + 1) C none) (h' := (hp.push (PySem.W.kdv_tup us)).push (PySem.HandSPX.excO C hp.objs.size)) kk hsz (exo_ok hget)
  have r2 : Vals (V.ref (hp.objs.size + 1) :: vs) (Value.ref (hp.objs.size + 1) :: us) := .cons rfl r1
  have hl : (Value.ref (hp.objs.size + 1) :: us ++ []).length = ps.length := by
    have e := r2.length
    rw [F1.len _ _ _ _ hq] at e
    rw [List.append_nil]
    exact e.symm
  have hus : us.length ≤ sizeLine := by
    rw [← Paired.length r1, sizeLine_eq]
    omega
  have b2 := hb _ (Value.ref (hp.objs.size + 1) :: us) I2.kIn hl
  rw [List.append_nil] at b2
  refine wpAny_call (PySem.HandSPX.call_own F.excBase_ValueError (fun Y => PySem.HandSPX.refsVE_contains Y bm hbm) (I1.kIn _ _ hC) (PySem.W.looks_findIn I1.kIn iC) (fun self => PySem.W.bind_fn I1.kIn self tI) hus
    (codeAny_mono (F1.run _ X.stack _ _ ⟨Value.ref (hp.objs.size + 1) :: us, []⟩ (Value.ref (hp.objs.size + 1) :: us) _ _ (fun _ _ _ => False) (hr.make C us []) (I2.env0.make C us []) b2 r2 hq) fun r s' hq' => ?_))
  cases r with
  | error er => exact hx pins σ _ _ er s' I2 hq'
  | ok fl =>
    cases fl with
    | ret u =>
      obtain ⟨v, H2, os2, bare2, un2, hok2, rv, ev, d, fs, ea, ed, hd1, q2⟩ := hq'
      subst ev
      obtain ⟨h2, g2, d2, t2, os'⟩ := s'
      obtain ⟨t0, G, J, kG, ge, hoe, na⟩ := mk_end0 (d2 := d2) (t2 := t2) I1 hsz kk un2 hok2 os2 bare2 ea ed hd1
      refine ⟨rv, hp.objs.size + 1, _, _, ⟨G, g2, d2, t2, os'⟩, _, .ref C, some d, rfl, J, kG, ge, hoe, ⟨rfl, rfl, fun vs hv => ?_⟩, rfl, rfl, na, rfl, bare2, raises_own T.exC T.tyC, q2⟩
      cases hv
      rfl
    | next => exact False.elim hq'
    | brk => exact False.elim hq'
    | cont => exact False.elim hq'
section
variable {X : Cx} {E : XK} {Δ : Dl} {e : Expr} {p pos pos2 : Pos} {y : Str}
/-- raise Fault(e) -/
theorem sd_raiseF [SJ] (hc : X.calm = true) (T : Tx X.prog X.w X.K X.mg X.base) (hr : Room 2 X.A) (tk : L2N.Takes X (fun cls d _ H => E cls d H)) (he : ED X e Δ (.str y)) (hg : Gl X "Fault" := by rfl)
    (hst : starEach [e] X.env = (false, eval e X.env) :: starEach [] X.env := by rfl) (hpl : (backTo pos (starEach [] X.env)).any (·.1) = false := by rfl) : SD X E (cF X.K) (.Raise (some (.Call (.Name "Fault" p) [e] [] pos)) none pos2) Δ (.ex y) := by
  obtain ⟨_, pe, ge⟩ := he.ex
  obtain ⟨fd, F1, b1⟩ := fn_Fault_init T
  refine ⟨_, L2N.ps_raise hc tk (pmk_oexN (oexF T) (iniF T) (tyiF T) F1 hr b1 (fun _ _ _ _ _ _ _ h => h.elim) hg (gl_Fault T) (pa_cons pe pa_nil hst) (he := hst) (hpl := hpl)), fun D σ H s q => ge σ H s _ fun v H1 e1 r1 => ?_⟩
  have ev := dp_str r1
  subst ev
  refine ⟨by show 1 ≤ 1000; decide, fun a ha => ⟨a, y, rfl, upd_same, fun dx hdx hne => ⟨rfl, dx, [("word", .str y)], upd_same, ?_, ?_, ?_⟩⟩⟩
  · rw [upd_ne hne, upd_same]
  · rw [upd_ne hne] at hdx
    exact hdx
  · have hdx' : H1 dx = none := by rw [upd_ne hne] at hdx; exact hdx
    refine q dx _ (e1.trans ?_) (Evl.fresh_back e1 hdx') upd_same
    intro b o hb
    have n1 : b ≠ dx := fun z => by rw [z, hdx'] at hb; cases hb
    have n2 : b ≠ a := fun z => by rw [z, ha] at hb; cases hb
    rw [upd_ne n1, del_ne n2, upd_ne n2, upd_ne n1, upd_ne n2]
    exact hb
end
end Sr

set_option Elab.async false
set_option linter.all false
set_option maxRecDepth 100000
set_option maxHeartbeats 4000000
/-! Functions of data that may raise. -/
namespace Sr
open PySem PySem.Spec PyProof.Rows L2
open Evl (Ex)
def finX (K : PySem.W.Frag) (E : XK) (Q : VK) (H : Hp) : Rs → Prop
  | .nx _ => False
  | .rt d => ∀ v H', Ex H H' → Dp K H' v d → Q v H'
  | .ex y => ∀ p H', Ex H H' → H p = none → H' p = some (.xd [(("word" : Str), .str y)]) → E (.ref (cF K)) (some p) H'
def spX (K : PySem.W.Frag) (R : List PyData → Rs → Prop) : Sp := fun vs H Q E => ∃ ds r, DpAll K H vs ds ∧ R ds r ∧ finX K E Q H r
/-- the context of a def's body that may raise -/
abbrev cxR (P : Program) (w : World) (K : PySem.W.Frag) (mg : Str → Option Value) (base : Heap) (N : List Str) (qual : Str) (scope : Scope) (f : Addr) (cd : Value) (A : Around) (outer : List Env) (s : Shared) (H : Hp) (E : XK) : Cx := cxOf (L2N.CX P w) P w K mg base N qual scope f cd A outer s H E
theorem tkR {P : Program} {w : World} {K : PySem.W.Frag} {mg : Str → Option Value} {base : Heap} {N : List Str} {qual : Str} {scope : Scope} {f : Addr} {cd : Value} {A : Around} {outer : List Env} {s : Shared} {H : Hp} {E : XK} :
    L2N.Takes (cxR P w K mg base N qual scope f cd A outer s H E) (fun cls d _ H => E cls d H) := L2N.takes_of rfl rfl rfl rfl
theorem passR {P : Program} {w : World} {K : PySem.W.Frag} {mg : Str → Option Value} {base : Heap} {N : List Str} {qual : Str} {scope : Scope} {f : Addr} {cd : Value} {A : Around} {outer : List Env} {s : Shared} {H : Hp} {E : XK} :
    Passes (L2N.CX P w) (cxR P w K mg base N qual scope f cd A outer s H E) E := L2N.passes_call tkR fun _ _ _ _ h => h
/-- the address a word leads to, or what a row may not do -/
def accR (v : Wv) (off : Int) (y : Str) : Rs := match v with
  | .pl _ => .ex "mark"
  | .mk l h a k r => if k ≠ 0 then .ex "seal" else if inS y r.s = false then .ex "right" else if (decide (l ≤ a + off) && decide (a + off < h)) = false then .ex "bounds" else .rt (.int (a + off))
theorem accR_nx (v : Wv) (off : Int) (y : Str) (Δ' : Dl) : accR v off y ≠ .nx Δ' := by
  cases v with
  | pl b => exact fun h => Rs.noConfusion h
  | mk l h a k r =>
    show (if _ then _ else if _ then _ else if _ then _ else _) ≠ _
    repeat' split
    all_goals exact fun h => Rs.noConfusion h
section
variable {P : Program} {w : World} {K : PySem.W.Frag} {mg : Str → Option Value} {base : Heap}
theorem sc_address_by : FnScope ["word", "offset", "right", "sealed", "low", "high", "at", "rights", "kind"] ["word", "offset", "right", "sealed"] (defScope t_address_by) := ⟨rfl, rfl, rfl, by decide +kernel, rfl, by decide +kernel, by decide +kernel⟩
def R_address_by : List PyData → Rs → Prop := fun ds r => ∃ (v : Wv) (off : Int) (y : Str), v.Ok ∧ -8 ≤ off ∧ off ≤ 15 ∧ ds = [v.d, .int off, .str y, .bool false] ∧ r = accR v off y
/-- .. as callers see it, keywords written -/
structure PXk (P : Program) (w : World) (K : PySem.W.Frag) (mg : Str → Option Value) (base : Heap) (k : Nat) (x : Str) (n : Nat) (ks : List Str) (R : List PyData → Rs → Prop) : Prop where
  ex : ∃ (f : Addr) (fd : FuncData) (ps : List Str), FnOk P w K mg base (L2N.CX P w) k f fd ps (spX K R) ∧ mg x = some (.ref f) ∧ PySem.W.keepIn K (.ref f) = true ∧ KBn K fd ps n ks (fun us ws => us ++ ws) (fun us ws => us ++ ws)
theorem px_address_by (T : Tx P w K mg base) : PXk P w K mg base 4 "address_by" 3 ["sealed"] R_address_by := by
  obtain ⟨fd, F⟩ := fd_address_by T
  refine ⟨_, fd, ["word", "offset", "right", "sealed"], F.ok sc_address_by (fun vs H Q E h => ?_) (fun cdv Ar outer s H vs Q E hr h => ?_), gl_address_by T, F.kp, ⟨fun s us ws X l1 l2 => ?_, fun r1 r2 => r1.append r2⟩⟩
  · obtain ⟨ds, r, dp, ⟨v, off, y, _, _, _, rfl, _⟩, _⟩ := h
    exact dpa_len dp
  · obtain ⟨ds, r, dp, ⟨v, off, y, hv, o0, o1, rfl, rfl⟩, q⟩ := h
    have hs : Sl K H (L2.start ["word", "offset", "right", "sealed", "low", "high", "at", "rights", "kind"] vs) (([v.d, .int off, .str y, .bool false] : List PyData).map some ++ List.replicate 5 none) := sl_start trivial dp 5 (by rw [dpa_len dp]; rfl)
    have hb : ∃ r', BD (cxR P w K mg base ["word", "offset", "right", "sealed", "low", "high", "at", "rights", "kind"] "address_by" (defScope t_address_by) (He.fAd K d_address_by.at_) cdv Ar outer s H E) E (cF K) (defBody t_address_by) (([v.d, .int off, .str y, .bool false] : List PyData).map some ++ List.replicate 5 none) r' ∧ r' = accR v off y := by
      cases v with
      | pl b =>
        refine ⟨.ex _, bd_cons (sd_expr (ed_call (pf_look_at_offset T) (hr.mono (by decide)) (ad_cons (ed_var 1) ad_nil) (⟨_, rfl, o0, o1, rfl⟩))) (bd_ifx (p := true) (td_is (td_not (td_val (ed_ixT (ed_var 0) ed_int))) rfl) (fun _ h => nomatch h) (fun _ => bd_one (sd_raiseF rfl T (hr.mono (by decide)) tkR ed_str)) (fun h => nomatch h)), rfl⟩
      | mk l h a k r =>
        have F : Fl l h a r.m k := hv
        by_cases k0 : k = 0
        · subst k0
          cases y0 : inS y r.s with
          | false => exact ⟨.ex "right", bd_cons (sd_expr (ed_call (pf_look_at_offset T) (hr.mono (by decide)) (ad_cons (ed_var 1) ad_nil) (⟨_, rfl, o0, o1, rfl⟩))) (bd_iff (td_is (td_not (td_val (ed_ixT (ed_var 0) ed_int))) rfl) (bd_cons (sd_asg (ed_call (pf_fields_of T) (hr.mono (by decide)) (ad_cons (ed_var 0) ad_nil) (mk_fields F)) (gd_tup rfl (gds_cons (gd_name 4 sc_address_by.nd) (gds_cons (gd_name 5 sc_address_by.nd) (gds_cons (gd_name 6 sc_address_by.nd) (gds_cons (gd_name 7 sc_address_by.nd) (gds_cons (gd_name 8 sc_address_by.nd) gds_nil))))))) (bd_iff (td_is (WD.t (wd_and (td_neI (ed_var 8) ed_int) fun hb => (wd_and1 (td_not (td_val (ed_var 3)))))) (by simp)) (bd_ifx (p := true) (td_is (td_niS (ed_var 2) (ed_var 7)) (by rw [y0]; rfl)) (fun _ h => nomatch h) (fun _ => bd_one (sd_raiseF rfl T (hr.mono (by decide)) tkR ed_str)) (fun h => nomatch h))))), by simp [accR, y0]⟩
          | true =>
            cases b0 : (decide (l ≤ a + off) && decide (a + off < h)) with
            | false => exact ⟨.ex "bounds", bd_cons (sd_expr (ed_call (pf_look_at_offset T) (hr.mono (by decide)) (ad_cons (ed_var 1) ad_nil) (⟨_, rfl, o0, o1, rfl⟩))) (bd_iff (td_is (td_not (td_val (ed_ixT (ed_var 0) ed_int))) rfl) (bd_cons (sd_asg (ed_call (pf_fields_of T) (hr.mono (by decide)) (ad_cons (ed_var 0) ad_nil) (mk_fields F)) (gd_tup rfl (gds_cons (gd_name 4 sc_address_by.nd) (gds_cons (gd_name 5 sc_address_by.nd) (gds_cons (gd_name 6 sc_address_by.nd) (gds_cons (gd_name 7 sc_address_by.nd) (gds_cons (gd_name 8 sc_address_by.nd) gds_nil))))))) (bd_iff (td_is (WD.t (wd_and (td_neI (ed_var 8) ed_int) fun hb => (wd_and1 (td_not (td_val (ed_var 3)))))) (by simp)) (bd_iff (td_is (td_niS (ed_var 2) (ed_var 7)) (by rw [y0]; rfl)) (bd_ifx (p := true) (td_is (td_not (td_ch2et (ed_var 4) (ed_add (ed_var 6) (ed_var 1)) (ed_var 5))) (by rw [b0]; rfl)) (fun _ h => nomatch h) (fun _ => bd_one (sd_raiseF rfl T (hr.mono (by decide)) tkR ed_str)) (fun h => nomatch h)))))), by simp only [accR, y0, b0]; rfl⟩
            | true => exact ⟨.rt (.int (a + off)), bd_cons (sd_expr (ed_call (pf_look_at_offset T) (hr.mono (by decide)) (ad_cons (ed_var 1) ad_nil) (⟨_, rfl, o0, o1, rfl⟩))) (bd_iff (td_is (td_not (td_val (ed_ixT (ed_var 0) ed_int))) rfl) (bd_cons (sd_asg (ed_call (pf_fields_of T) (hr.mono (by decide)) (ad_cons (ed_var 0) ad_nil) (mk_fields F)) (gd_tup rfl (gds_cons (gd_name 4 sc_address_by.nd) (gds_cons (gd_name 5 sc_address_by.nd) (gds_cons (gd_name 6 sc_address_by.nd) (gds_cons (gd_name 7 sc_address_by.nd) (gds_cons (gd_name 8 sc_address_by.nd) gds_nil))))))) (bd_iff (td_is (WD.t (wd_and (td_neI (ed_var 8) ed_int) fun hb => (wd_and1 (td_not (td_val (ed_var 3)))))) (by simp)) (bd_iff (td_is (td_niS (ed_var 2) (ed_var 7)) (by rw [y0]; rfl)) (bd_iff (td_is (td_not (td_ch2et (ed_var 4) (ed_add (ed_var 6) (ed_var 1)) (ed_var 5))) (by rw [b0]; rfl)) (bd_one (sd_ret (ed_add (ed_var 6) (ed_var 1)) (rfl)))))))), by simp only [accR, y0, b0]; rfl⟩
        · exact ⟨.ex "seal", bd_cons (sd_expr (ed_call (pf_look_at_offset T) (hr.mono (by decide)) (ad_cons (ed_var 1) ad_nil) (⟨_, rfl, o0, o1, rfl⟩))) (bd_iff (td_is (td_not (td_val (ed_ixT (ed_var 0) ed_int))) rfl) (bd_cons (sd_asg (ed_call (pf_fields_of T) (hr.mono (by decide)) (ad_cons (ed_var 0) ad_nil) (mk_fields F)) (gd_tup rfl (gds_cons (gd_name 4 sc_address_by.nd) (gds_cons (gd_name 5 sc_address_by.nd) (gds_cons (gd_name 6 sc_address_by.nd) (gds_cons (gd_name 7 sc_address_by.nd) (gds_cons (gd_name 8 sc_address_by.nd) gds_nil))))))) (bd_ifx (p := true) (td_is (WD.t (wd_and (td_neI (ed_var 8) ed_int) fun hb => (wd_and1 (td_not (td_val (ed_var 3)))))) (by simp [k0])) (fun _ h => nomatch h) (fun _ => bd_one (sd_raiseF rfl T (hr.mono (by decide)) tkR ed_str)) (fun h => nomatch h)))), by simp [accR, k0]⟩
    obtain ⟨r', ⟨t, p, g⟩, e⟩ := hb
    refine ⟨t, p, g _ _ H hs ?_⟩
    subst e
    cases hq : accR v off y with
    | nx _ => rw [hq] at q; exact q.elim
    | rt d => rw [hq] at q; exact q
    | ex z => rw [hq] at q; exact q
  · obtain ⟨oc, od, dV, kV, doc, pm, an, cdv, ct, osl, rfl, lk, hcd, hD, hK⟩ := F.ex
    rcases hD with ⟨_, rfl⟩ | ⟨e, _⟩
    · exact BindsTo.of_eq (match us, l1, ws, l2 with | [_, _, _], _, [_], _ => rfl)
    · exact absurd rfl e
/-- .. as callers see it -/
structure PX (P : Program) (w : World) (K : PySem.W.Frag) (mg : Str → Option Value) (base : Heap) (k : Nat) (x : Str) (R : List PyData → Rs → Prop) : Prop where
  ex : ∃ (f : Addr) (fd : FuncData) (ps : List Str), FnOk P w K mg base (L2N.CX P w) k f fd ps (spX K R) ∧ mg x = some (.ref f) ∧ PySem.W.keepIn K (.ref f) = true ∧ Binds K fd ps []
theorem finX.ex {E : XK} {Q : VK} {H H' : Hp} {r : Rs} (q : finX K E Q H r) (e : Ex H H') : finX K E Q H' r := by
  cases r with
  | nx _ => exact q
  | rt d => exact fun v H2 e2 r2 => q v H2 (e.trans e2) r2
  | ex y => exact fun p H2 e2 n2 x2 => q p H2 (e.trans e2) (Evl.fresh_back e n2) x2
end
/-- an expression that may raise -/
structure EX [SJ] (X : Cx) (E : XK) (e : Expr) (Δ : Dl) (r : Rs) : Prop where
  ex : ∃ te, PE X e te ∧ ∀ σ H, Sl X.K H σ Δ → ∀ Q : VK, finX X.K E Q H r → te σ H Q
section
variable {X : Cx} {E : XK} {Δ : Dl} {e e1 : Expr} {es : List Expr} {p pos : Pos} {r : Rs} {d : PyData} {ds : List PyData} {x : Str} {k : Nat} {R : List PyData → Rs → Prop}
theorem ex_call [SJ] (px : PX X.prog X.w X.K X.mg X.base k x R) (hr : Room k X.A) (hx : Passes (L2N.CX X.prog X.w) X E) (ha : AD X (e1 :: es) Δ ds) (h : R ds r) (hg : Gl X x := by rfl)
    (hdb : (x == ("__debug__" : Str)) = false := by decide) (he : starEach (e1 :: es) X.env = (false, eval e1 X.env) :: starEach es X.env := by rfl) (hpl : (backTo pos (starEach es X.env)).any (·.1) = false := by rfl) : EX X E (.Call (.Name x p) (e1 :: es) [] pos) Δ r :=
  let ⟨_, _, _, F, hm, hk, hb⟩ := px.ex
  let ⟨_, pa, ga⟩ := ha.ex
  ⟨_, pe_call F hr hg hm hk hb .nil hx pa hdb he hpl, fun σ H s Q q => ga σ H s _ fun vs H1 e1 r1 => ⟨ds, r, by rw [List.append_nil]; exact r1, h, q.ex e1⟩⟩
theorem ex_callk [SJ] {n : Nat} {ks : List Str} {kws : List Keyword} {zs : List PyData} (px : PXk X.prog X.w X.K X.mg X.base k x n ks R) (hr : Room k X.A) (hx : Passes (L2N.CX X.prog X.w) X E) (ha : AD X (e1 :: es) Δ ds) (hz : KD X kws Δ zs) (h : R (ds ++ zs) r)
    (ln : ds.length = n) (lz : zs.length = ks.length) (hg : Gl X x := by rfl) (hall : (backToKw pos (keywordEach kws X.env)).all (·.1.isSome) = true := by rfl) (hks : (backToKw pos (keywordEach kws X.env)).filterMap (·.1) = ks := by rfl)
    (hdb : (x == ("__debug__" : Str)) = false := by decide) (he : starEach (e1 :: es) X.env = (false, eval e1 X.env) :: starEach es X.env := by rfl)
    (hpl : ((backTo pos (starEach (e1 :: es) X.env)).any (·.1) || (backToKw pos (keywordEach kws X.env)).any (·.1.isNone)) = false := by rfl) : EX X E (.Call (.Name x p) (e1 :: es) kws pos) Δ r :=
  let ⟨_, _, _, F, hm, hk, hb⟩ := px.ex
  let ⟨_, pa, ga⟩ := ha.ex
  let ⟨_, pz, gz⟩ := hz.ex
  ⟨_, pe_callN F hr hg hm hk hb hx pa pz hall hks hdb he hpl, fun σ H s Q q => ga σ H s _ fun vs H1 e1 r1 => gz σ H1 (s.ex e1) _ fun us H2 e2 r2 =>
    ⟨(dpa_len r1).trans ln, (dpa_len r2).trans lz, ds ++ zs, r, dpa_app (dps_ex e2 _ _ r1) r2, h, (q.ex e1).ex e2⟩⟩
theorem sd_retX [SJ] {CF : Addr} (hCF : CF = cF X.K) (h : EX X E e Δ r) (hn : ∀ Δ', r ≠ .nx Δ') : SD X E CF (.Return (some e) pos) Δ r := by
  subst hCF
  obtain ⟨_, p, g⟩ := h.ex
  refine ⟨_, ps_ret p, fun D σ H s q => g σ H s _ ?_⟩
  cases r with
  | nx Δ' => exact absurd rfl (hn Δ')
  | rt d => exact q
  | ex y => exact fun p H' e' n x => q p H' e' n x
/-- what an assignment of it to slot i leaves -/
def Rs.put (Δ : Dl) (i : Nat) : Rs → Rs
  | .nx Δ' => .nx Δ'
  | .rt d => .nx (Δ.set i (some d))
  | .ex y => .ex y
theorem sd_setX [SJ] (i : Nat) {y : Str} {pos' : Pos} (hN : X.N.Nodup) (h : EX X E e Δ r) (hn : ∀ Δ', r ≠ .nx Δ') (hi : X.N[i]? = some y := by rfl) (hx : Loc X.env.scope y := by first | exact Or.inl rfl | exact Or.inr rfl) (hs : swapsWith e (some (.Name y pos')) pos.line X.env = pure false := by rfl)
    (hf : X.fn y = true ∨ X.env.scope.names.lookup y = some .local := by first | exact .inl rfl | exact .inr rfl) (h0 : SJ.ok i := by first | exact True.intro | exact Nat.succ_ne_zero _) : SD X E (cF X.K) (.Assign [.Name y pos'] e pos) Δ (r.put Δ i) := by
  obtain ⟨_, p, g⟩ := h.ex
  refine ⟨_, ps_set hN hi hx p hs hf, fun D σ H s q => g σ H s _ ?_⟩
  cases r with
  | nx Δ' => exact absurd rfl (hn Δ')
  | rt d => exact fun v H' e' r' => q _ H' e' ((s.ex e').set r' h0)
  | ex z => exact fun p H' e' n x => q p H' e' n x
end
section
variable {P : Program} {w : World} {K : PySem.W.Frag} {mg : Str → Option Value} {base : Heap}
theorem sc_address_so : FnScope ["word", "offset", "right", "without"] ["word", "offset", "right", "without"] (defScope t_address_so) := ⟨rfl, rfl, rfl, by decide +kernel, rfl, by decide +kernel, by decide +kernel⟩
def R_address_so : List PyData → Rs → Prop := fun ds r => ∃ (v : Wv) (off : Int) (y : Str), v.Ok ∧ -8 ≤ off ∧ off ≤ 15 ∧ ds = [v.d, .int off, .str y, .none] ∧ r = accR v off y
theorem px_address_so (T : Tx P w K mg base) : PX P w K mg base 5 "address_so" R_address_so := by
  obtain ⟨fd, F⟩ := fd_address_so T
  refine ⟨_, fd, ["word", "offset", "right", "without"], F.ok sc_address_so (fun vs H Q E h => ?_) (fun cdv Ar outer s H vs Q E hr h => ?_), gl_address_so T, F.kp, F.bindsN fun _ _ _ _ _ _ us hl => match us, hl with | [_, _, _, _], _ => rfl⟩
  · obtain ⟨ds, r, dp, ⟨v, off, y, _, _, _, rfl, _⟩, _⟩ := h
    exact dpa_len dp
  · obtain ⟨ds, r, dp, ⟨v, off, y, hv, o0, o1, rfl, rfl⟩, q⟩ := h
    have hs : Sl K H (L2.start ["word", "offset", "right", "without"] vs) (([v.d, .int off, .str y, .none] : List PyData).map some ++ List.replicate 0 none) := sl_start trivial dp 0 (by rw [dpa_len dp]; rfl)
    have hn := accR_nx v off y
    obtain ⟨t, p, g⟩ := (bd_one (E := E) (sd_retX rfl (ex_callk (X := cxR P w K mg base ["word", "offset", "right", "without"] "address_so" (defScope t_address_so) (He.fAd K d_address_so.at_) cdv Ar outer s H E) (px_address_by T) (hr.mono (by decide)) passR (ad_cons (ed_var 0) (ad_cons (ed_var 1) (ad_cons (ed_var 2) ad_nil))) (kd_cons (ed_is (ed_eq hr.units (ed_var 3) (ed_glob (c_SEALED T)) (s2 := by decide +kernel)) rfl) kd_nil) ⟨v, off, y, hv, o0, o1, rfl, rfl⟩ rfl rfl) hn) : BD (cxR P w K mg base ["word", "offset", "right", "without"] "address_so" (defScope t_address_so) (He.fAd K d_address_so.at_) cdv Ar outer s H E) E (cF K) (defBody t_address_so) (([v.d, .int off, .str y, .none] : List PyData).map some ++ List.replicate 0 none) (accR v off y)).ex
    refine ⟨t, p, g _ _ H hs ?_⟩
    cases hq : accR v off y with
    | nx _ => rw [hq] at q; exact q.elim
    | rt d => rw [hq] at q; exact q
    | ex z => rw [hq] at q; exact q
end
end Sr

set_option Elab.async false
set_option linter.all false
set_option maxRecDepth 100000
set_option maxHeartbeats 4000000
/-! The cells. -/
namespace Sr
open PySem PySem.Spec PyProof.Rows L2
open Evl (Ex)
@[reducible] def cJ (K : PySem.W.Frag) (c cdx cd : Addr) (cells : List (Int × Wv)) : SJ where
  p σ H := σ[0]? = some (some (.ref c)) ∧ CAt K H c cdx cd cells
  ok i := i ≠ 0
  st e h := ⟨h.1, h.2.ex e⟩
  set hi h := ⟨by rw [List.getElem?_set_ne hi]; exact h.1, h.2⟩
def cellW (cells : List (Int × Wv)) (a : Int) : Wv := (cellAt cells a).getD (.pl 0)
section
variable {X : Cx} {c cdx cd : Addr} {cells : List (Int × Wv)} {Δ : Dl} {e f : Expr} {p apos pos a2 : Pos} {n : Int} {x : Str}
theorem ed_get (cl : Cls X.K (cC X.K)) (no : NoAttr X.K (cC X.K) "own_cells") (hu : X.A.units + 1 < cLine) (he : @ED (cJ X.K c cdx cd cells) X e Δ (.int n)) (hf : @ED (cJ X.K c cdx cd cells) X f Δ (Wv.pl 0).d) (hN : X.N[0]? = some x := by rfl) (hv : Vis X.env.scope x := by first | exact Or.inl rfl | exact Or.inr (Or.inl rfl) | exact Or.inr (Or.inr rfl))
    (hb : attributeBase (.Name x p) "own_cells" X.env (eval (.Name x p) X.env) = eval (.Name x p) X.env := by rfl) (m : M2 X (.Attribute (.Name x p) "own_cells" apos) "get" a2 e f pos := by exact ⟨rfl, rfl, rfl, rfl⟩)
    (hd : (x == ("__debug__" : Str)) = false := by decide) (hcd : (x == ("__classdict__" : Str)) = false := by decide) : @ED (cJ X.K c cdx cd cells) X (.Call (.Attribute (.Attribute (.Name x p) "own_cells" apos) "get" a2) [e, f] [] pos) Δ (cellW cells n).d :=
  letI : SJ := cJ X.K c cdx cd cells
  let ⟨_, pe, ge⟩ := he.ex
  let ⟨_, pf, gf⟩ := hf.ex
  ⟨_, pe_dget2 hu (pe_fld (pv 0 hN hv hd hcd) hb) pe pf m, fun σ H s Q q => by
    obtain ⟨h0, C⟩ := s.1.1
    obtain ⟨kvs, k1, k2⟩ := C.clk
    refine ⟨_, h0, c, cC X.K, cdx, _, .ref cd, rfl, C.cls, cl, no, rfl, cd, rfl, .inl ⟨kvs, .inl k1⟩, ?_⟩
    refine ge σ H s _ fun y H1 e1 r1 => gf σ H1 (s.ex e1) _ fun z H2 e2 r2 => ?_
    have ey := dp_int r1
    subst ey
    refine ⟨valV kvs (.inl n), .inl ⟨kvs, .inl n, .inl ((e1.trans e2) _ _ k1), rfl, rfl⟩, ?_⟩
    have C2 := k2.ex (e1.trans e2)
    rcases C2.val (a := n) with ⟨v1, v2⟩ | ⟨v, w, v1, v2, v3⟩
    · rw [v1]
      refine q z H2 (e1.trans e2) ?_
      unfold cellW
      rw [v2]
      exact r2
    · rw [v1]
      refine q v H2 (e1.trans e2) ?_
      unfold cellW
      rw [v2]
      exact v3⟩
end
theorem sl_startC {K : PySem.W.Frag} {N : List Str} {H : Hp} {c cdx cd : Addr} {cells : List (Int × Wv)} {vs : List V} {ds : List PyData} (C : CAt K H c cdx cd cells) (h : DpAll K H vs ds) (n : Nat) (hn : N.length - (vs.length + 1) = n) :
    @Sl (cJ K c cdx cd cells) K H (L2.start N (.ref c :: vs)) (none :: (ds.map some ++ List.replicate n none)) := by
  refine ⟨⟨⟨rfl, C⟩, ?_⟩, fun i d e => ?_⟩
  · unfold L2.start
    simp only [List.length_append, List.length_map, List.length_replicate, List.length_cons, dpa_len h, ← hn]
    omega
  · cases i with
    | zero => cases e
    | succ i =>
      have e' : (ds.map some ++ List.replicate n none)[i]? = some (some d) := e
      by_cases hi : i < ds.length
      · rw [List.getElem?_append_left (by simpa using hi), List.getElem?_map] at e'
        cases q : ds[i]? with
        | none => rw [q] at e'; cases e'
        | some d' =>
          rw [q] at e'
          have e2 : d' = d := by simpa using e'
          obtain ⟨v, a, r⟩ := dpa_get h q
          refine ⟨v, ?_, e2 ▸ r⟩
          unfold L2.start
          show (some (V.ref c) :: (vs.map some) ++ _)[i + 1]? = _
          rw [List.cons_append, List.getElem?_cons_succ, List.getElem?_append_left (by simpa [dpa_len h] using hi), List.getElem?_map, a]
          rfl
      · rw [List.getElem?_append_right (by simpa using Nat.le_of_not_lt hi), List.getElem?_replicate] at e'
        split at e' <;> cases e'
section
variable {P : Program} {w : World} {K : PySem.W.Frag} {mg : Str → Option Value} {base : Heap}
theorem sc_Cells_cell : FnScope ["self", "address"] ["self", "address"] (defScope t_Cells_cell) := ⟨rfl, rfl, rfl, by decide +kernel, rfl, by decide +kernel, by decide +kernel⟩
def spCell (K : PySem.W.Frag) : Sp := fun vs H Q _ => ∃ (c cdx cd : Addr) (cells : List (Int × Wv)) (a : Int), vs = [.ref c, .int a] ∧ CAt K H c cdx cd cells ∧ 0 ≤ a ∧ a < 4096 ∧ ∀ v H', Ex H H' → Dp K H' v (cellW cells a).d → Q v H'
theorem fn_cell (T : Tx P w K mg base) : ∃ fd, FnOk P w K mg base CX0 3 (He.ma K (He.ga K "Cells") "cell") fd ["self", "address"] (spCell K) ∧ Binds K fd ["self", "address"] [] := by
  obtain ⟨fd, F⟩ := fd_Cells_cell T
  refine ⟨fd, F.ok sc_Cells_cell (fun vs H Q E h => by obtain ⟨c, cdx, cd, cells, a, rfl, _⟩ := h; rfl) (fun cdv Ar outer s H vs Q E hr h => ?_), F.bindsN fun _ _ _ _ _ _ us hl => match us, hl with | [_, _], _ => rfl⟩
  obtain ⟨c, cdx, cd, cells, a, rfl, C, a0, a1, q⟩ := h
  letI J : SJ := cJ K c cdx cd cells
  have hs : Sl K H (L2.start ["self", "address"] [.ref c, .int a]) (none :: (([.int a] : List PyData).map some ++ List.replicate 0 none)) := sl_startC C (.cons (.int a) .nil) 0 rfl
  have hb : BD (cxOf CX0 P w K mg base ["self", "address"] "Cells.cell" (defScope t_Cells_cell) (He.fAd K d_Cells_cell.at_) cdv Ar outer s H E).nox E0 0 (defBody t_Cells_cell) (none :: (([.int a] : List PyData).map some ++ List.replicate 0 none)) (.rt (cellW cells a).d) :=
    bd_iff (td_is (td_not (td_val (ed_call (pf_is_address T) (hr.mono (by decide)) (ad_cons (ed_var 1) ad_nil) (⟨a, rfl, rfl⟩)))) (by rw [decide_eq_true a0, decide_eq_true a1]; rfl)) (bd_one (sd_ret (ed_get (cl_Cells T) (no_Cells_own_cells T) (hu_of hr) (ed_var 1) (ed_glob (c_NOTHING T))) rfl))
  obtain ⟨t, p, g⟩ := hb.ex
  exact ⟨t, p.nox, g _ _ H hs fun v H' e r => q v H' e r⟩
theorem upd_self {H : Hp} {a : Addr} {o : HO} (h : H a = some o) : upd H a o = H := by
  funext b
  by_cases e : b = a
  · rw [e, upd_same, h]
  · rw [upd_ne e]
/-- tuple-only data stay when a thing that is no tuple changes -/
theorem dp_mut {K : PySem.W.Frag} {H : Hp} {p : Addr} {o u : HO} (hp : H p = some u) (hu : ∀ xs, u ≠ .tup xs) (hz : ∀ ob x, u ≠ .frz ob x) {d : PyData} {v : V} (ht : tupOnly d = true) (r : Dp K H v d) : Dp K (upd H p o) v d :=
  dp_ex cut_le _ _ (by
    rw [cut_upd (S := [p]) (List.mem_singleton.mpr rfl)]
    refine dp_cutB (S := [p]) (fun b hb xs z => ?_) _ _ ht r
    rw [List.mem_singleton.mp hb] at z
    rcases z with z | ⟨ob, z⟩ <;> rw [hp] at z <;> injection z with z
    · exact hu _ z
    · exact hz _ _ z)
def isNo (w : Wv) : Bool := PyData.eqv w.d (Wv.pl 0).d
def setC (cells : List (Int × Wv)) (a : Int) (w : Wv) : List (Int × Wv) := if isNo w = true then dropC cells a else putC cells a w
theorem dropC_none {cells : List (Int × Wv)} {a : Int} (h : cellAt cells a = none) : dropC cells a = cells := by
  unfold dropC cellAt at *
  rw [Option.map_eq_none_iff] at h
  refine List.filter_eq_self.mpr fun p hp => ?_
  have := List.find?_eq_none.mp h p hp
  simpa using this
theorem len_putC (cells : List (Int × Wv)) (a : Int) (w : Wv) : (putC cells a w).length ≤ cells.length + 1 := by
  unfold putC
  split
  · rw [List.length_map]; omega
  · rw [List.length_append]; exact Nat.le_refl _
theorem len_dropC (cells : List (Int × Wv)) (a : Int) : (dropC cells a).length ≤ cells.length := List.length_filter_le _ _
theorem sc_Cells_put : FnScope ["self", "address", "word"] ["self", "address", "word"] (defScope t_Cells_put) := ⟨rfl, rfl, rfl, by decide +kernel, rfl, by decide +kernel, by decide +kernel⟩
/-- what putting leaves: only the dict has changed -/
def spPut (K : PySem.W.Frag) : Sp := fun vs H Q _ => ∃ (c cdx cd : Addr) (cells : List (Int × Wv)) (a : Int) (wv : V) (v : Wv), vs = [.ref c, .int a, wv] ∧ CAt K H c cdx cd cells ∧ Dp K H wv v.d ∧ cells.length < 100 ∧
  ∀ H1 kvs, Ex H H1 → CAt K (upd H1 cd (.dK kvs)) c cdx cd (setC cells a v) → Q .non (upd H1 cd (.dK kvs))
theorem fn_put (T : Tx P w K mg base) : ∃ fd, FnOk P w K mg base CX0 1 (He.ma K (He.ga K "Cells") "put") fd ["self", "address", "word"] (spPut K) ∧ Binds K fd ["self", "address", "word"] [] := by
  obtain ⟨fd, F⟩ := fd_Cells_put T
  refine ⟨fd, F.ok sc_Cells_put (fun vs H Q E h => by obtain ⟨c, cdx, cd, cells, a, wv, v, rfl, _⟩ := h; rfl) (fun cdv Ar outer s H vs Q E hr h => ?_), F.bindsN fun _ _ _ _ _ _ us hl => match us, hl with | [_, _, _], _ => rfl⟩
  obtain ⟨c, cdx, cd, cells, a, wv, v, rfl, C, dw, few, q⟩ := h
  letI J : SJ := cJ K c cdx cd cells
  have hs : Sl K H (L2.start ["self", "address", "word"] [.ref c, .int a, wv]) (none :: (([.int a, v.d] : List PyData).map some ++ List.replicate 0 none)) := sl_startC C (.cons (.int a) (.cons dw .nil)) 0 rfl
  have ht : ∃ t, PT (cxOf CX0 P w K mg base ["self", "address", "word"] "Cells.put" (defScope t_Cells_put) (He.fAd K d_Cells_put.at_) cdv Ar outer s H E) (match defBody t_Cells_put with | .If c _ _ _ :: _ => c | _ => default) t ∧ GT K t (none :: (([.int a, v.d] : List PyData).map some ++ List.replicate 0 none)) (isNo v) :=
    (td_eq hr.units (ed_var 2) (ed_glob (c_NOTHING T)) (by cases v <;> rfl) (by rfl) : TD (cxOf CX0 P w K mg base ["self", "address", "word"] "Cells.put" (defScope t_Cells_put) (He.fAd K d_Cells_put.at_) cdv Ar outer s H E) (match defBody t_Cells_put with | .If c _ _ _ :: _ => c | _ => default) (none :: (([.int a, v.d] : List PyData).map some ++ List.replicate 0 none)) (isNo v)).ex
  obtain ⟨tt, pt, gt⟩ := ht
  refine ⟨_, pss_one (ps_if pt (pss_one (ps_expr (pe_dpop2 (pe_fld (pv 0) rfl) (pv 1) pe_non ⟨rfl, rfl, rfl, rfl⟩))) (pss_one (ps_dput (hu_of hr) (pe_fld (pv 0) rfl) (pv 1) (pv 2) rfl))), ?_⟩
  refine gt _ H hs _ fun H1 e1 => ?_
  have C1 := C.ex e1
  obtain ⟨kvs, k1, k2⟩ := C1.clk
  have hne : c ≠ cd := fun z => by have := C1.cls; rw [z, k1] at this; cases this
  have mv : ∀ {o : HO} (v' : V) (w' : Wv), Dp K H1 v' w'.d → Dp K (upd H1 cd o) v' w'.d := fun v' w' r => dp_mut k1 (fun _ z => nomatch z) (fun _ _ z => nomatch z) (wd_tup w') r
  cases hc : isNo v with
  | true =>
    rw [if_pos rfl]
    refine ⟨_, rfl, c, cC K, cdx, _, .ref cd, rfl, C1.cls, cl_Cells T, no_Cells_own_cells T, rfl, cd, rfl, .inl ⟨kvs, .inl k1⟩, _, rfl, kvs, .inl a, k1, rfl, fun x hx => ?_, fun hx => ?_⟩
    · refine q H1 _ e1 ⟨by rw [upd_ne hne]; exact C1.cls, ⟨_, upd_same, ?_⟩, ?_⟩
      · unfold setC
        rw [hc, if_pos rfl]
        exact (k2.drop (a := a)).mv mv
      · unfold setC
        rw [hc, if_pos rfl]
        have := len_dropC cells a
        omega
    · have hn : cellAt cells a = none := by
        rcases k2.val (a := a) with ⟨_, h⟩ | ⟨x, _, h, _⟩
        · exact h
        · rw [hx] at h; cases h
      have hh := q H1 kvs e1
      rw [upd_self k1] at hh
      refine hh ?_
      unfold setC
      rw [hc, if_pos rfl, dropC_none hn]
      exact C1
  | false =>
    rw [if_neg Bool.false_ne_true]
    refine ⟨_, rfl, _, rfl, c, cC K, cdx, _, .ref cd, rfl, C1.cls, cl_Cells T, no_Cells_own_cells T, rfl, ?_⟩
    refine ⟨_, rfl, cd, _, rfl, .inl ⟨kvs, .inl a, k1, rfl, ?_, rfl⟩, ?_⟩
    · rw [k2.len, sizeLine_eq]
      omega
    · have dw1 := dp_ex e1 _ _ dw
      refine q H1 _ e1 ⟨by rw [upd_ne hne]; exact C1.cls, ⟨_, upd_same, ?_⟩, ?_⟩
      · unfold setC
        rw [hc, if_neg Bool.false_ne_true]
        exact (k2.put dw1).mv mv
      · unfold setC
        rw [hc, if_neg Bool.false_ne_true]
        have := len_putC cells a v
        omega
end
end Sr

set_option Elab.async false
set_option linter.all false
set_option maxRecDepth 100000
set_option maxHeartbeats 4000000
/-! The cells (stage 2). -/
namespace Sr
open PySem PySem.Spec PyProof.Rows L2
open Evl (Ex)
section
variable {X : Cx} {c cdx cd : Addr} {cells : List (Int × Wv)} {Δ : Dl} {e : Expr} {p apos pos : Pos} {n : Int} {x : Str} {k : Nat}
theorem ed_cell (T : Tx X.prog X.w X.K X.mg X.base) (hr : Room 3 X.A) (he : @ED (cJ X.K c cdx cd cells) X e Δ (.int n)) (h0 : 0 ≤ n) (h1 : n < 4096) (hN : X.N[0]? = some x := by rfl) (hv : Vis X.env.scope x := by first | exact Or.inl rfl | exact Or.inr (Or.inl rfl) | exact Or.inr (Or.inr rfl))
    (hd : (x == ("__debug__" : Str)) = false := by decide) (hcd : (x == ("__classdict__" : Str)) = false := by decide) (hst : starEach [e] X.env = (false, eval e X.env) :: starEach [] X.env := by rfl) (hpl : (backTo pos (starEach [] X.env)).any (·.1) = false := by rfl)
    {pl : Sem Bool} (ht : eval (.Call (.Attribute (.Name x p) "cell" apos) [e] [] pos) X.env = (do
      let ov ← eval (.Name x p) X.env
      standAt apos.atName
      let (f, first) ← holding [ov] (getMethod ov "cell" pl)
      callWith pos f first (backTo pos (starEach [e] X.env)) (backToKw pos (keywordEach [] X.env))) := by rfl) : @ED (cJ X.K c cdx cd cells) X (.Call (.Attribute (.Name x p) "cell" apos) [e] [] pos) Δ (cellW cells n).d :=
  letI : SJ := cJ X.K c cdx cd cells
  let ⟨_, F, hb⟩ := fn_cell T
  let ⟨_, pe, ge⟩ := he.ex
  ⟨_, pe_meth (pv 0 hN hv hd hcd) (cl_Cells T) (me_Cells_cell T) F hr hb .nil pass0 (pa_cons pe pa_nil hst) hst hpl ht, fun σ H s Q q => by
    obtain ⟨hs, C⟩ := s.1.1
    refine ⟨_, hs, c, cdx, _, rfl, C.cls, rfl, ge σ H s _ fun y H1 e1 r1 => ?_⟩
    have ey := dp_int r1
    subst ey
    exact ⟨c, cdx, cd, cells, n, rfl, C.ex e1, h0, h1, fun v H2 e2 r2 => q v H2 (e1.trans e2) r2⟩⟩
end
def pokeW (cells : List (Int × Wv)) (a n : Int) : Wv := .pl ((cellW cells a).b - (cellW cells a).b % 268435456 + n % 268435456)
section
variable {P : Program} {w : World} {K : PySem.W.Frag} {mg : Str → Option Value} {base : Heap}
theorem sc_Cells_put_lowest : FnScope ["self", "address", "number", "bits"] ["self", "address", "number"] (defScope t_Cells_put_lowest) := ⟨rfl, rfl, rfl, by decide +kernel, rfl, by decide +kernel, by decide +kernel⟩
def spLowest (K : PySem.W.Frag) : Sp := fun vs H Q _ => ∃ (c cdx cd : Addr) (cells : List (Int × Wv)) (a n : Int), vs = [.ref c, .int a, .int n] ∧ CAt K H c cdx cd cells ∧ 0 ≤ a ∧ a < 4096 ∧ cells.length < 100 ∧
  ∀ H1 kvs, Ex H H1 → CAt K (upd H1 cd (.dK kvs)) c cdx cd (setC cells a (pokeW cells a n)) → Q .non (upd H1 cd (.dK kvs))
theorem fn_lowest (T : Tx P w K mg base) : ∃ fd, FnOk P w K mg base CX0 4 (He.ma K (He.ga K "Cells") "put_lowest") fd ["self", "address", "number"] (spLowest K) ∧ Binds K fd ["self", "address", "number"] [] := by
  obtain ⟨fd, F⟩ := fd_Cells_put_lowest T
  refine ⟨fd, F.ok sc_Cells_put_lowest (fun vs H Q E h => by obtain ⟨c, cdx, cd, cells, a, n, rfl, _⟩ := h; rfl) (fun cdv Ar outer s H vs Q E hr h => ?_), F.bindsN fun _ _ _ _ _ _ us hl => match us, hl with | [_, _, _], _ => rfl⟩
  obtain ⟨c, cdx, cd, cells, a, n, rfl, C, a0, a1, few, q⟩ := h
  letI J : SJ := cJ K c cdx cd cells
  have hs : Sl K H (L2.start ["self", "address", "number", "bits"] [.ref c, .int a, .int n]) (none :: (([.int a, .int n] : List PyData).map some ++ List.replicate 1 none)) := sl_startC C (.cons (.int a) (.cons (.int n) .nil)) 1 rfl
  have h1 : ∃ t, PS (cxOf CX0 P w K mg base ["self", "address", "number", "bits"] "Cells.put_lowest" (defScope t_Cells_put_lowest) (He.fAd K d_Cells_put_lowest.at_) cdv Ar outer s H E) (match defBody t_Cells_put_lowest with | st :: _ => st | _ => default) t ∧ GS K E0 0 t (none :: (([.int a, .int n] : List PyData).map some ++ List.replicate 1 none)) (.nx [none, some (.int a), some (.int n), some (.int (cellW cells a).b)]) :=
    (sd_set 3 sc_Cells_put_lowest.nd (ed_ixT (ed_cell T (hr.mono (by decide)) (ed_var 1) a0 a1) ed_int) : SD (cxOf CX0 P w K mg base ["self", "address", "number", "bits"] "Cells.put_lowest" (defScope t_Cells_put_lowest) (He.fAd K d_Cells_put_lowest.at_) cdv Ar outer s H E) E0 0 (match defBody t_Cells_put_lowest with | st :: _ => st | _ => default) _ _).ex
  obtain ⟨t1, p1, g1⟩ := h1
  obtain ⟨fd2, F2, b2⟩ := fn_put T
  have h2 : ∃ t, PA (cxOf CX0 P w K mg base ["self", "address", "number", "bits"] "Cells.put_lowest" (defScope t_Cells_put_lowest) (He.fAd K d_Cells_put_lowest.at_) cdv Ar outer s H E) (match defBody t_Cells_put_lowest with | [_, .Expr (.Call _ es _ _) _] => es | _ => default) t ∧ GA K t [none, some (.int a), some (.int n), some (.int (cellW cells a).b)] [.int a, (pokeW cells a n).d] :=
    ((ad_cons (ed_var 1) (ad_cons (ed_tup (ad_cons ed_bl (ad_cons (ed_add (ed_sub (ed_var 3) (ed_mod (ed_var 3) (ed_glob (c_POKED T)) (by decide))) (ed_mod (ed_var 2) (ed_glob (c_POKED T)) (by decide))) ad_nil))) ad_nil)) : AD (cxOf CX0 P w K mg base ["self", "address", "number", "bits"] "Cells.put_lowest" (defScope t_Cells_put_lowest) (He.fAd K d_Cells_put_lowest.at_) cdv Ar outer s H E) (match defBody t_Cells_put_lowest with | [_, .Expr (.Call _ es _ _) _] => es | _ => default) [none, some (.int a), some (.int n), some (.int (cellW cells a).b)] [.int a, (pokeW cells a n).d]).ex
  obtain ⟨t2, p2, g2⟩ := h2
  refine ⟨_, pss_cons p1 (pss_one (ps_expr (pe_meth (pv 0) (cl_Cells T) (me_Cells_put T) F2 (hr.mono (by decide)) b2 .nil pass0 p2))), ?_⟩
  refine g1 _ _ H hs fun σ1 H1 e1 s1 => ?_
  obtain ⟨hs0, C1⟩ := s1.1.1
  refine ⟨_, hs0, c, cdx, _, rfl, C1.cls, rfl, g2 σ1 H1 s1 _ fun vs H2 e2 r2 => ?_⟩
  cases r2 with
  | cons r2 rs =>
    have ey := dp_int r2
    subst ey
    cases rs with
    | cons r3 rs =>
      cases rs
      exact ⟨c, cdx, cd, cells, a, _, _, rfl, C1.ex e2, r3, few, fun H3 kvs e3 C3 => q H3 kvs ((e1.trans e2).trans e3) C3⟩
end
end Sr

set_option Elab.async false
set_option linter.all false
set_option maxRecDepth 100000
set_option maxHeartbeats 4000000
/-! Statements that change the machine. -/
namespace Sr
open PySem PySem.Spec PyProof.Rows L2
open Evl (Ex)
/-- how a statement of a method ends -/
inductive Mr where
  | nx (m : Ms) (Δ : Dl)
  | rt (m : Ms) (d : PyData)
  | ex (m : Ms) (y : Str)
def finM (K : PySem.W.Frag) (E : XK) (H0 : Hp) (A : Ad) (D : Ends) : Mr → Prop
  | .nx m Δ => ∀ σ' H', @Sl (mJ K H0 A m) K H' σ' Δ → D.nx σ' H'
  | .rt m d => ∀ v H', MAt K H' A m → Ex (cut A.S H0) (cut A.S H') → Dp K H' v d → D.rt v H'
  | .ex m y => ∀ p H', MAt K H' A m → Ex (cut A.S H0) (cut A.S H') → H' p = some (.xd [(("word" : Str), .str y)]) → E (.ref (cF K)) (some p) H'
def GM (K : PySem.W.Frag) (E : XK) (H0 : Hp) (A : Ad) (t : TS) (m : Ms) (Δ : Dl) (r : Mr) : Prop := ∀ D σ H, @Sl (mJ K H0 A m) K H σ Δ → finM K E H0 A D r → t D σ H
structure MD (X : Cx) (E : XK) (H0 : Hp) (A : Ad) (st : Stmt) (m : Ms) (Δ : Dl) (r : Mr) : Prop where
  ex : ∃ t, PS X st t ∧ GM X.K E H0 A t m Δ r
structure MB (X : Cx) (E : XK) (H0 : Hp) (A : Ad) (sts : List Stmt) (m : Ms) (Δ : Dl) (r : Mr) : Prop where
  ex : ∃ t, PSs X sts t ∧ GM X.K E H0 A t m Δ r
def liftR (m : Ms) : Rs → Mr
  | .nx Δ => .nx m Δ
  | .rt d => .rt m d
  | .ex y => .ex m y
theorem gm_of {K : PySem.W.Frag} {E : XK} {H0 : Hp} {A : Ad} {t : TS} {m : Ms} {Δ : Dl} {r : Rs} (g : @GS (mJ K H0 A m) K E (cF K) t Δ r) : GM K E H0 A t m Δ (liftR m r) := fun D σ H s q => by
  refine g D σ H s ?_
  obtain ⟨h0, M, e0⟩ := s.1.1
  cases r with
  | nx Δ' => exact fun σ' H' e' s' => q σ' H' s'
  | rt d => exact fun v H' e' r' => q v H' (M.ex e') (e0.trans (cut_ex e')) r'
  | ex y => exact fun p H' e' n x => q p H' (M.ex e') (e0.trans (cut_ex e')) x
section
variable {X : Cx} {E : XK} {H0 : Hp} {A : Ad} {m m1 : Ms} {Δ Δ1 : Dl} {st : Stmt} {sts Aa Bb : List Stmt} {r : Mr} {c : Expr} {pos : Pos}
theorem md_of {r : Rs} (h : @SD (mJ X.K H0 A m) X E (cF X.K) st Δ r) : MD X E H0 A st m Δ (liftR m r) := by
  letI : SJ := mJ X.K H0 A m
  obtain ⟨t, p, g⟩ := h.ex
  exact ⟨t, p, gm_of g⟩
theorem mb_of {r : Rs} (h : @BD (mJ X.K H0 A m) X E (cF X.K) sts Δ r) : MB X E H0 A sts m Δ (liftR m r) := by
  letI : SJ := mJ X.K H0 A m
  obtain ⟨t, p, g⟩ := h.ex
  exact ⟨t, p, gm_of g⟩
theorem mb_cons (h : MD X E H0 A st m Δ (.nx m1 Δ1)) (hr : MB X E H0 A sts m1 Δ1 r) : MB X E H0 A (st :: sts) m Δ r :=
  let ⟨_, p, g⟩ := h.ex
  let ⟨_, pr, gr⟩ := hr.ex
  ⟨_, pss_cons p pr, fun D σ H s q => g _ σ H s fun σ1 H1 s1 => gr D σ1 H1 s1 q⟩
theorem mb_one (h : MD X E H0 A st m Δ r) : MB X E H0 A [st] m Δ r := let ⟨_, p, g⟩ := h.ex; ⟨_, pss_one p, g⟩
theorem mb_nil : MB X E H0 A [] m Δ (.nx m Δ) := ⟨_, pss_nil, fun D σ H s q => q σ H s⟩
/-- the rest is never come to -/
theorem mb_end (h : MD X E H0 A st m Δ r) (hr : ∀ m' Δ', r ≠ .nx m' Δ') : MB X E H0 A (st :: sts) m Δ r :=
  let ⟨_, p, g⟩ := h.ex
  ⟨_, pss_cons p pss_never, fun D σ H s q => g _ σ H s (by
    cases r with
    | nx m' Δ' => exact absurd rfl (hr m' Δ')
    | rt m' d => exact q
    | ex m' y => exact q)⟩
theorem md_if {p : Bool} (hc : @TD (mJ X.K H0 A m) X c Δ p) (h1 : p = true → MB X E H0 A Aa m Δ r) (h2 : p = false → MB X E H0 A Bb m Δ r) : MD X E H0 A (.If c Aa Bb pos) m Δ r := by
  letI : SJ := mJ X.K H0 A m
  obtain ⟨_, pc, gc⟩ := hc.ex
  cases p with
  | true =>
    obtain ⟨_, pa, ga⟩ := (h1 rfl).ex
    exact ⟨_, ps_if pc pa pss_never, fun D σ H s q => gc σ H s _ fun H1 e1 => ga D σ H1 (s.ex e1) q⟩
  | false =>
    obtain ⟨_, pb, gb⟩ := (h2 rfl).ex
    exact ⟨_, ps_if pc pss_never pb, fun D σ H s q => gc σ H s _ fun H1 e1 => gb D σ H1 (s.ex e1) q⟩
theorem mb_ift (hc : @TD (mJ X.K H0 A m) X c Δ true) (h1 : MB X E H0 A Aa m Δ r) (hr : ∀ m' Δ', r ≠ .nx m' Δ') : MB X E H0 A (.If c Aa Bb pos :: sts) m Δ r := mb_end (md_if hc (fun _ => h1) fun z => Bool.noConfusion z) hr
theorem mb_iff (hc : @TD (mJ X.K H0 A m) X c Δ false) (h2 : MB X E H0 A sts m Δ r) : MB X E H0 A (.If c Aa [] pos :: sts) m Δ r := mb_cons (md_if hc (fun z => Bool.noConfusion z) fun _ => mb_nil) h2
end
/-! ### changes -/
/-- slots that keep what they tell when the machine changes -/
def keepD (Δ : Dl) : Dl := Δ.map fun o => o.bind fun d => if tupOnly d = true then some d else none
theorem MAt.kinds {K : PySem.W.Frag} {H : Hp} {A : Ad} {m : Ms} (M : MAt K H A m) : ∀ p ∈ A.S, ∃ u, H p = some u ∧ (∀ xs, u ≠ .tup xs) ∧ ∀ ob x, u ≠ .frz ob x := by
  intro p hp
  obtain ⟨sb, vr, ho, n, vo, h1, _⟩ := M.ins
  obtain ⟨kvs, k1, _⟩ := M.cel.clk
  obtain ⟨xs, b1, _⟩ := M.bxs
  obtain ⟨ts, t1, _⟩ := M.tcs
  have hp' : p = A.a ∨ p = A.cd ∨ p = A.bx ∨ p = A.tc := by simpa [Ad.S] using hp
  rcases hp' with rfl | rfl | rfl | rfl
  · exact ⟨_, h1, (fun _ z => nomatch z), (fun _ _ z => nomatch z)⟩
  · exact ⟨_, k1, (fun _ z => nomatch z), (fun _ _ z => nomatch z)⟩
  · exact ⟨_, b1, (fun _ z => nomatch z), (fun _ _ z => nomatch z)⟩
  · exact ⟨_, t1, (fun _ z => nomatch z), (fun _ _ z => nomatch z)⟩
theorem MAt.mv {K : PySem.W.Frag} {H : Hp} {A : Ad} {m : Ms} (M : MAt K H A m) {p : Addr} (hp : p ∈ A.S) {o : HO} {d : PyData} {v : V} (ht : tupOnly d = true) (r : Dp K H v d) : Dp K (upd H p o) v d := by
  obtain ⟨u, h1, h2, h3⟩ := M.kinds p hp
  exact dp_mut h1 h2 h3 ht r
theorem keepD_get {Δ : Dl} {i : Nat} {d : PyData} (h : (keepD Δ)[i]? = some (some d)) : Δ[i]? = some (some d) ∧ tupOnly d = true := by
  unfold keepD at h
  rw [List.getElem?_map] at h
  cases q : Δ[i]? with
  | none => rw [q] at h; cases h
  | some o =>
    rw [q] at h
    cases o with
    | none => cases h
    | some d' =>
      have h' : (if tupOnly d' = true then some d' else none) = some d := Option.some.inj h
      split at h'
      · rename_i ht
        cases h'
        exact ⟨rfl, ht⟩
      · cases h'
/-- the slots behind a change -/
theorem Sl.chg {K : PySem.W.Frag} {H H0 : Hp} {A : Ad} {m m' : Ms} {σ : L2.St} {Δ : Dl} (s : @Sl (mJ K H0 A m) K H σ Δ) {p : Addr} (hp : p ∈ A.S) {o : HO} (M' : MAt K (upd H p o) A m') : @Sl (mJ K H0 A m') K (upd H p o) σ (keepD Δ) := by
  obtain ⟨⟨⟨h0, M, e0⟩, hl⟩, hs⟩ := s
  refine ⟨⟨⟨h0, M', by rw [cut_upd hp]; exact e0⟩, by unfold keepD; rw [List.length_map]; exact hl⟩, fun i d h => ?_⟩
  obtain ⟨h1, h2⟩ := keepD_get h
  obtain ⟨v, a, r⟩ := hs i d h1
  exact ⟨v, a, M.mv hp h2 r⟩
theorem dps_words {K : PySem.W.Frag} {H H' : Hp} (f : ∀ v (w : Wv), Dp K H v w.d → Dp K H' v w.d) : ∀ {xs : List V} {ws : List Wv}, DpAll K H xs (ws.map Wv.d) → DpAll K H' xs (ws.map Wv.d)
  | _, [], .nil => .nil
  | _, w :: ws, .cons d r => .cons (f _ _ d) (dps_words f r)
theorem notin {A : Ad} {p q : Addr} (hp : p ∈ A.S) (hq : q ∉ A.S) : q ≠ p := fun z => hq (z ▸ hp)
theorem dpa_set {K : PySem.W.Frag} {H : Hp} {v : V} {d : PyData} (r : Dp K H v d) : ∀ {xs : List V} {ds : List PyData} {i : Nat}, DpAll K H xs ds → DpAll K H (xs.set i v) (ds.set i d)
  | _, _, _, .nil => .nil
  | _, _, 0, .cons _ t => .cons r t
  | _, _, i + 1, .cons a t => .cons a (dpa_set r t)
/-- a box is written -/
theorem MAt.box {K : PySem.W.Frag} {H : Hp} {A : Ad} {m : Ms} (M : MAt K H A m) {xs : List V} (hb : H A.bx = some (.lst xs)) {i : Nat} {v : V} {w : Wv} (r : Dp K H v w.d) :
    MAt K (upd H A.bx (.lst (xs.set i v))) A { m with boxes := m.boxes.set i w } := by
  have hS : A.bx ∈ A.S := by simp [Ad.S]
  have nd : A.a ≠ A.cd ∧ A.a ≠ A.bx ∧ A.a ≠ A.tc ∧ A.cd ≠ A.bx ∧ A.cd ≠ A.tc ∧ A.bx ≠ A.tc := by
    have := M.nd
    simp only [Ad.S, List.nodup_cons, List.mem_cons, List.not_mem_nil, or_false, not_or, List.nodup_nil, and_true] at this
    obtain ⟨⟨a, b, c⟩, ⟨d, e⟩, f, _⟩ := this
    exact ⟨a, b, c, d, e, f⟩
  obtain ⟨n1, n2, n3, n4, n5, n6⟩ := nd
  have ne : ∀ {q : Addr} {u : HO}, q ∉ A.S → H q = some u → upd H A.bx (.lst (xs.set i v)) q = some u := fun hq h => by rw [upd_ne (notin hS hq)]; exact h
  have mvw : ∀ v' (w' : Wv), Dp K H v' w'.d → Dp K (upd H A.bx (.lst (xs.set i v))) v' w'.d := fun v' w' r' => M.mv hS (wd_tup w') r'
  obtain ⟨⟨sb, vr, ho, n, vo, h1, h2, h3⟩, ⟨kvs, r1, r2, r3, r4⟩, ⟨c1, ⟨kc, k1, k2⟩, c3⟩, cns, ⟨wv, w1, w2, w3⟩, ⟨hf, p1, p2, p3⟩, ⟨xs', b1, b2⟩, ⟨s1, s2⟩, ⟨ts, t1, t2⟩, z, nd, rt⟩ := M
  have exs : xs' = xs := by rw [hb] at b1; cases b1; rfl
  subst exs
  refine ⟨⟨sb, vr, ho, n, vo, by rw [upd_ne n2]; exact h1, mvw _ _ h2, h3⟩, ⟨kvs, ne r2 r1, r2, r3, fun j d hd => ?_⟩, ⟨ne cns c1, ⟨kc, by rw [upd_ne n4]; exact k1, k2.mv mvw⟩, c3⟩, cns, ⟨wv, ne w2 w1, w2, ?_⟩, ⟨hf, ne p3 p1, p2, p3⟩, ⟨_, upd_same, ?_⟩, ⟨ne s2 s1, s2⟩, ⟨ts, by rw [upd_ne (Ne.symm n6)]; exact t1, t2⟩, by rw [List.length_set]; exact z, nd, rt⟩
  · obtain ⟨v', q1, q2⟩ := r4 j d hd
    exact ⟨v', q1, dp_mut hb (fun _ z => nomatch z) (fun _ _ z => nomatch z) (rt d (List.mem_of_getElem? hd)) q2⟩
  · exact dp_mut hb (fun _ z => nomatch z) (fun _ _ z => nomatch z) rfl w3
  · rw [List.map_set]
    exact dpa_set (mvw _ _ r) (dps_words mvw b2)
end Sr

set_option Elab.async false
set_option linter.all false
set_option maxRecDepth 100000
set_option maxHeartbeats 4000000
/-! Changes of the machine (stage 2). -/
namespace Sr
open PySem PySem.Spec PyProof.Rows L2
open Evl (Ex)
theorem MAt.apart {K : PySem.W.Frag} {H : Hp} {A : Ad} {m : Ms} (M : MAt K H A m) : A.a ≠ A.cd ∧ A.a ≠ A.bx ∧ A.a ≠ A.tc ∧ A.cd ≠ A.bx ∧ A.cd ≠ A.tc ∧ A.bx ≠ A.tc := by
  have := M.nd
  simp only [Ad.S, List.nodup_cons, List.mem_cons, List.not_mem_nil, or_false, not_or, List.nodup_nil, and_true] at this
  obtain ⟨⟨a, b, c⟩, ⟨d, e⟩, f, _⟩ := this
  exact ⟨a, b, c, d, e, f⟩
/-- the object's own fields change -/
theorem MAt.self {K : PySem.W.Frag} {H : Hp} {A : Ad} {m : Ms} (M : MAt K H A m) {sb vr ho : V} {n : Int} {vo : V} {w : Wv} {out : Bool} (r : Dp K H vr w.d) (h3 : if out = true then vo ≠ .non else vo = .non) :
    MAt K (upd H A.a (.ins (cM K) A.dx (mkFs A sb vr ho n vo))) A { m with row := w, out := out } := by
  have hS : A.a ∈ A.S := by simp [Ad.S]
  obtain ⟨n1, n2, n3, n4, n5, n6⟩ := M.apart
  have ne : ∀ {q : Addr} {u : HO}, q ∉ A.S → H q = some u → upd H A.a (.ins (cM K) A.dx (mkFs A sb vr ho n vo)) q = some u := fun hq h => by rw [upd_ne (notin hS hq)]; exact h
  have mvd : ∀ {d : PyData} {v : V}, tupOnly d = true → Dp K H v d → Dp K (upd H A.a (.ins (cM K) A.dx (mkFs A sb vr ho n vo))) v d := fun ht r' => M.mv hS ht r'
  have mvw : ∀ v' (w' : Wv), Dp K H v' w'.d → Dp K (upd H A.a (.ins (cM K) A.dx (mkFs A sb vr ho n vo))) v' w'.d := fun v' w' r' => mvd (wd_tup w') r'
  obtain ⟨_, ⟨kvs, r1, r2, r3, r4⟩, ⟨c1, ⟨kc, k1, k2⟩, c3⟩, cns, ⟨wv, w1, w2, w3⟩, ⟨hf, p1, p2, p3⟩, ⟨xs, b1, b2⟩, ⟨s1, s2⟩, ⟨ts, t1, t2⟩, z, nd, rt⟩ := M
  refine ⟨⟨sb, vr, ho, n, vo, upd_same, mvw _ _ r, h3⟩, ⟨kvs, ne r2 r1, r2, r3, fun j d hd => ?_⟩, ⟨ne cns c1, ⟨kc, by rw [upd_ne (Ne.symm n1)]; exact k1, k2.mv mvw⟩, c3⟩, cns, ⟨wv, ne w2 w1, w2, mvd rfl w3⟩, ⟨hf, ne p3 p1, p2, p3⟩, ⟨xs, by rw [upd_ne (Ne.symm n2)]; exact b1, dps_words mvw b2⟩, ⟨ne s2 s1, s2⟩, ⟨ts, by rw [upd_ne (Ne.symm n3)]; exact t1, t2⟩, z, nd, rt⟩
  obtain ⟨v', q1, q2⟩ := r4 j d hd
  exact ⟨v', q1, mvd (rt d (List.mem_of_getElem? hd)) q2⟩
/-- one touch more -/
theorem MAt.touch {K : PySem.W.Frag} {H : Hp} {A : Ad} {m : Ms} (M : MAt K H A m) {ts : List V} (hb : H A.tc = some (.lst ts)) (v : V) (hm : m.many < 1000) : MAt K (upd H A.tc (.lst (ts ++ [v]))) A { m with many := m.many + 1 } := by
  have hS : A.tc ∈ A.S := by simp [Ad.S]
  obtain ⟨n1, n2, n3, n4, n5, n6⟩ := M.apart
  have ne : ∀ {q : Addr} {u : HO}, q ∉ A.S → H q = some u → upd H A.tc (.lst (ts ++ [v])) q = some u := fun hq h => by rw [upd_ne (notin hS hq)]; exact h
  have mvd : ∀ {d : PyData} {v' : V}, tupOnly d = true → Dp K H v' d → Dp K (upd H A.tc (.lst (ts ++ [v]))) v' d := fun ht r' => M.mv hS ht r'
  have mvw : ∀ v' (w' : Wv), Dp K H v' w'.d → Dp K (upd H A.tc (.lst (ts ++ [v]))) v' w'.d := fun v' w' r' => mvd (wd_tup w') r'
  obtain ⟨⟨sb, vr, ho, n, vo, h1, h2, h3⟩, ⟨kvs, r1, r2, r3, r4⟩, ⟨c1, ⟨kc, k1, k2⟩, c3⟩, cns, ⟨wv, w1, w2, w3⟩, ⟨hf, p1, p2, p3⟩, ⟨xs, b1, b2⟩, ⟨s1, s2⟩, ⟨ts', t1, t2, t3⟩, z, nd, rt⟩ := M
  have ets : ts' = ts := by rw [hb] at t1; cases t1; rfl
  subst ets
  refine ⟨⟨sb, vr, ho, n, vo, by rw [upd_ne n3]; exact h1, mvw _ _ h2, h3⟩, ⟨kvs, ne r2 r1, r2, r3, fun j d hd => ?_⟩, ⟨ne cns c1, ⟨kc, by rw [upd_ne n5]; exact k1, k2.mv mvw⟩, c3⟩, cns, ⟨wv, ne w2 w1, w2, mvd rfl w3⟩, ⟨hf, ne p3 p1, p2, p3⟩, ⟨xs, by rw [upd_ne n6]; exact b1, dps_words mvw b2⟩, ⟨ne s2 s1, s2⟩, ⟨_, upd_same, by rw [List.length_append, t2]; rfl, hm⟩, z, nd, rt⟩
  obtain ⟨v', q1, q2⟩ := r4 j d hd
  exact ⟨v', q1, mvd (rt d (List.mem_of_getElem? hd)) q2⟩
/-- other cells -/
theorem MAt.cells_ {K : PySem.W.Frag} {H : Hp} {A : Ad} {m : Ms} (M : MAt K H A m) {kc' : List (Key × V)} {cs : List (Int × Wv)} (C : CAt K (upd H A.cd (.dK kc')) A.c A.cdx A.cd cs) : MAt K (upd H A.cd (.dK kc')) A { m with cells := cs } := by
  have hS : A.cd ∈ A.S := by simp [Ad.S]
  obtain ⟨n1, n2, n3, n4, n5, n6⟩ := M.apart
  have ne : ∀ {q : Addr} {u : HO}, q ∉ A.S → H q = some u → upd H A.cd (.dK kc') q = some u := fun hq h => by rw [upd_ne (notin hS hq)]; exact h
  have mvd : ∀ {d : PyData} {v' : V}, tupOnly d = true → Dp K H v' d → Dp K (upd H A.cd (.dK kc')) v' d := fun ht r' => M.mv hS ht r'
  have mvw : ∀ v' (w' : Wv), Dp K H v' w'.d → Dp K (upd H A.cd (.dK kc')) v' w'.d := fun v' w' r' => mvd (wd_tup w') r'
  obtain ⟨⟨sb, vr, ho, n, vo, h1, h2, h3⟩, ⟨kvs, r1, r2, r3, r4⟩, _, cns, ⟨wv, w1, w2, w3⟩, ⟨hf, p1, p2, p3⟩, ⟨xs, b1, b2⟩, ⟨s1, s2⟩, ⟨ts, t1, t2⟩, z, nd, rt⟩ := M
  refine ⟨⟨sb, vr, ho, n, vo, by rw [upd_ne n1]; exact h1, mvw _ _ h2, h3⟩, ⟨kvs, ne r2 r1, r2, r3, fun j d hd => ?_⟩, C, cns, ⟨wv, ne w2 w1, w2, mvd rfl w3⟩, ⟨hf, ne p3 p1, p2, p3⟩, ⟨xs, by rw [upd_ne (Ne.symm n4)]; exact b1, dps_words mvw b2⟩, ⟨ne s2 s1, s2⟩, ⟨ts, by rw [upd_ne (Ne.symm n5)]; exact t1, t2⟩, z, nd, rt⟩
  obtain ⟨v', q1, q2⟩ := r4 j d hd
  exact ⟨v', q1, mvd (rt d (List.mem_of_getElem? hd)) q2⟩
section
variable {X : Cx} {E : XK} {H0 : Hp} {A : Ad} {m m1 : Ms} {Δ Δ1 : Dl} {c e ei : Expr} {pos p p2 p3 apos : Pos} {x : Str} {w : Wv} {b : Int}
/-- self.own_boxes[..] = a word -/
theorem md_box (T : Tx X.prog X.w X.K X.mg X.base) (he : @ED (mJ X.K H0 A m) X e Δ w.d) (hi : @ED (mJ X.K H0 A m) X ei Δ (.int b)) (hb : isB b) (hN : X.N[0]? = some x := by rfl) (hv : Vis X.env.scope x := by first | exact Or.inl rfl | exact Or.inr (Or.inl rfl) | exact Or.inr (Or.inr rfl))
    (hba : attributeBase (.Name x p) "own_boxes" X.env (eval (.Name x p) X.env) = eval (.Name x p) X.env := by rfl) (hd : (x == ("__debug__" : Str)) = false := by decide) (hcd : (x == ("__classdict__" : Str)) = false := by decide)
    (ha : ∀ v, assign (.Subscript (.Attribute (.Name x p) "own_boxes" apos) ei p2) X.env v = (do
      let ov ← holding [v] (eval (.Attribute (.Name x p) "own_boxes" apos) X.env)
      let iv ← holding [v, ov] (eval ei X.env)
      standAt p2
      holding [v, ov, iv] (setItem ov iv v)
      release [v, ov, iv] []) := by intro _; rfl)
    (hs : swapsWithSole [.Subscript (.Attribute (.Name x p) "own_boxes" apos) ei p2] e pos.line X.env = pure false := by rfl) (hw : swappedStores [.Subscript (.Attribute (.Name x p) "own_boxes" apos) ei p2] e X.env = pure none := by rfl)
    (h1 : (assignEach [.Subscript (.Attribute (.Name x p) "own_boxes" apos) ei p2] X.env).map (·.2) = [assign (.Subscript (.Attribute (.Name x p) "own_boxes" apos) ei p2) X.env] := by rfl) :
    MD X E H0 A (.Assign [.Subscript (.Attribute (.Name x p) "own_boxes" apos) ei p2] e pos) m Δ (.nx { m with boxes := m.boxes.set b.toNat w } (keepD Δ)) := by
  letI : SJ := mJ X.K H0 A m
  obtain ⟨te, pe, ge⟩ := he.ex
  obtain ⟨ti, pi, gi⟩ := hi.ex
  refine ⟨_, ps_asg pe (pg_sub (pe_fld (pv 0 hN hv hd hcd) hba) pi set_list ha) hs hw h1, fun D σ H s q => ge σ H s _ fun v H1 e1 r1 => ?_⟩
  have s1 := s.ex e1
  obtain ⟨h0, M, e0⟩ := s1.1.1
  obtain ⟨sb, vr, ho, n, vo, i1, i2, i3⟩ := M.ins
  refine ⟨_, h0, A.a, cM X.K, A.dx, _, .ref A.bx, rfl, i1, cl_Machine T, no_Machine_own_boxes T, rfl, gi σ H1 s1 _ fun y H2 e2 r2 => ?_⟩
  have ey := dp_int r2
  subst ey
  have M2 := M.ex e2
  obtain ⟨xs, b1, b2⟩ := M2.bxs
  have hl : xs.length = 8 := by
    rw [dpa_len b2, List.length_map]
    exact M2.sz
  refine ⟨A.bx, xs, b, b.toNat, rfl, rfl, b1, ?_, ?_⟩
  · obtain ⟨q0, q1⟩ := hb
    unfold ixN
    rw [hl, if_pos q0, if_pos (show b < ((8 : Nat) : Int) by omega)]
  · exact q σ _ ((s1.ex e2).chg (by simp [Ad.S]) (M2.box b1 (dp_ex e2 _ _ r1)))
end
end Sr

set_option Elab.async false
set_option linter.all false
set_option maxRecDepth 100000
set_option maxHeartbeats 4000000
/-! Methods that change the machine or raise. -/
namespace Sr
open PySem PySem.Spec PyProof.Rows L2
open Evl (Ex)
def finN (K : PySem.W.Frag) (E : XK) (Q : VK) (A : Ad) (H : Hp) : Mr → Prop
  | .nx _ _ => False
  | .rt m d => ∀ v H', MAt K H' A m → Ex (cut A.S H) (cut A.S H') → Dp K H' v d → Q v H'
  | .ex m y => ∀ p H', MAt K H' A m → Ex (cut A.S H) (cut A.S H') → H' p = some (.xd [(("word" : Str), .str y)]) → E (.ref (cF K)) (some p) H'
def spN (K : PySem.W.Frag) (R : Ms → List PyData → Mr → Prop) : Sp := fun vs H Q E => ∃ (A : Ad) (m : Ms) (ws : List V) (ds : List PyData) (r : Mr), vs = .ref A.a :: ws ∧ DpAll K H ws ds ∧ MAt K H A m ∧ R m ds r ∧ finN K E Q A H r
structure PN (P : Program) (w : World) (K : PySem.W.Frag) (mg : Str → Option Value) (base : Heap) (k : Nat) (x : Str) (R : Ms → List PyData → Mr → Prop) : Prop where
  ex : ∃ (f : Addr) (fd : FuncData) (ps : List Str), FnOk P w K mg base (L2N.CX P w) k f fd ps (spN K R) ∧ Meth K (cM K) x f ∧ Binds K fd ps []
theorem finN.ex {K : PySem.W.Frag} {E : XK} {Q : VK} {A : Ad} {H H' : Hp} {r : Mr} (q : finN K E Q A H r) (e : Ex (cut A.S H) (cut A.S H')) : finN K E Q A H' r := by
  cases r with
  | nx _ _ => exact q
  | rt m d => exact fun v H2 M e2 r2 => q v H2 M (e.trans e2) r2
  | ex m y => exact fun p H2 M e2 x => q p H2 M (e.trans e2) x
section
variable {P : Program} {w : World} {K : PySem.W.Frag} {mg : Str → Option Value} {base : Heap}
/-- what such a method's body shows -/
def BodyN (P : Program) (w : World) (K : PySem.W.Frag) (mg : Str → Option Value) (base : Heap) (N : List Str) (qual : Str) (st : Stmt) (n k : Nat) (R : Ms → List PyData → Mr → Prop) : Prop :=
  ∀ (f : Addr) (cdv : Value) (Ar : Around) (outer : List Env) (s : Shared) (H : Hp) (E : XK), Room k (cxR P w K mg base N qual (defScope st) f cdv Ar outer s H E).A → ∀ (A : Ad) (m : Ms) ds r, MAt K H A m → R m ds r →
    ∃ r', MB (cxR P w K mg base N qual (defScope st) f cdv Ar outer s H E) E H A (defBody st) m (none :: (ds.map some ++ List.replicate n none)) r' ∧ (r' = r ∧ (∀ m' Δ', r ≠ .nx m' Δ') ∨ ∃ m' Δ', r' = .nx m' Δ' ∧ r = .rt m' .none)
theorem pn_of {x qual : Str} {st : Stmt} {f : Addr} {N ps : List Str} {n k : Nat} {R : Ms → List PyData → Mr → Prop} (F : ∃ fd, FunD K x qual (defArgs st) (defBody st) (defScope st) [] [] f fd)
    (S : FnScope N ps (defScope st)) (hm : Meth K (cM K) x f) (hn : N.length - ps.length = n) (len : ∀ m ds r, R m ds r → ds.length + 1 = ps.length)
    (h : ∀ (kV doc pm : Value) (an : Option Addr) (cdv ct : Value) (us : List Value), us.length = ps.length → bindArgs (PySem.W.fnOf x qual (defArgs st) (defBody st) (defScope st) .none kV doc pm an cdv ct) ⟨us, []⟩ = pure (ps.zip us))
    (hb : BodyN P w K mg base N qual st n k R) : PN P w K mg base (k + 1) x R := by
  obtain ⟨fd, F⟩ := F
  refine ⟨f, fd, ps, F.ok S (fun vs H Q E h => ?_) (fun cdv Ar outer s H vs Q E hr h => ?_), hm, F.bindsN h⟩
  · obtain ⟨A, m, ws, ds, r, rfl, dp, M, hR, _⟩ := h
    rw [List.length_cons, dpa_len dp]
    exact len _ _ _ hR
  · obtain ⟨A, m, ws, ds, r, rfl, dp, M, hR, q⟩ := h
    obtain ⟨r', ⟨t, p, g⟩, z⟩ := hb f cdv Ar outer s H E hr A m ds r M hR
    have hs : @Sl (mJ K H A m) K H (L2.start N (.ref A.a :: ws)) (none :: (ds.map some ++ List.replicate n none)) := sl_startM M dp n (by rw [dpa_len dp, len _ _ _ hR]; exact hn)
    refine ⟨t, p, g _ _ H hs ?_⟩
    rcases z with ⟨z, hn⟩ | ⟨m', Δ', z, e⟩
    · subst z
      cases r' with
      | nx m' Δ' => exact absurd rfl (hn m' Δ')
      | rt m' d => exact q
      | ex m' y => exact q
    · subst z e
      exact fun σ' H' s' => q .non H' s'.1.1.2.1 s'.1.1.2.2 .non
end
/-- an expression that may change the machine or raise -/
structure EN (X : Cx) (E : XK) (H0 : Hp) (A : Ad) (e : Expr) (m : Ms) (Δ : Dl) (r : Mr) : Prop where
  ex : ∃ te, PE X e te ∧ ∀ σ H, @Sl (mJ X.K H0 A m) X.K H σ Δ → ∀ Q : VK, finN X.K E Q A H r → te σ H Q
section
variable {X : Cx} {E : XK} {H0 : Hp} {A : Ad} {m : Ms} {Δ : Dl} {e e1 : Expr} {es : List Expr} {p apos pos : Pos} {x nm : Str} {r : Mr} {ds : List PyData} {k : Nat} {R : Ms → List PyData → Mr → Prop}
theorem en_meth (cl : Cls X.K (cM X.K)) (pn : PN X.prog X.w X.K X.mg X.base k nm R) (hr : Room k X.A) (hx : Passes (L2N.CX X.prog X.w) X E) (ha : @AD (mJ X.K H0 A m) X (e1 :: es) Δ ds) (h : R m ds r) (hno : ∀ sb vr ho n vo, (mkFs A sb vr ho n vo).lookup nm = none := by intro _ _ _ _ _; rfl)
    (hN : X.N[0]? = some x := by rfl) (hv : Vis X.env.scope x := by first | exact Or.inl rfl | exact Or.inr (Or.inl rfl) | exact Or.inr (Or.inr rfl)) (hd : (x == ("__debug__" : Str)) = false := by decide) (hcd : (x == ("__classdict__" : Str)) = false := by decide)
    (hst : starEach (e1 :: es) X.env = (false, eval e1 X.env) :: starEach es X.env := by rfl) (hpl : (backTo pos (starEach es X.env)).any (·.1) = false := by rfl)
    {pl : Sem Bool} (ht : eval (.Call (.Attribute (.Name x p) nm apos) (e1 :: es) [] pos) X.env = (do
      let ov ← eval (.Name x p) X.env
      standAt apos.atName
      let (f, first) ← holding [ov] (getMethod ov nm pl)
      callWith pos f first (backTo pos (starEach (e1 :: es) X.env)) (backToKw pos (keywordEach [] X.env))) := by rfl) : EN X E H0 A (.Call (.Attribute (.Name x p) nm apos) (e1 :: es) [] pos) m Δ r :=
  letI : SJ := mJ X.K H0 A m
  let ⟨_, _, _, F, hm, hb⟩ := pn.ex
  let ⟨_, pa, ga⟩ := ha.ex
  ⟨_, pe_meth (pv 0 hN hv hd hcd) cl hm F hr hb .nil hx pa hst hpl ht, fun σ H s Q q => by
    obtain ⟨h0, M, e0⟩ := s.1.1
    obtain ⟨fs, h1, h2⟩ := mat_no M hno
    refine ⟨_, h0, A.a, A.dx, fs, rfl, h1, h2, ga σ H s _ fun vs H1 e1 r1 => ?_⟩
    exact ⟨A, m, vs ++ [], ds, r, rfl, by rw [List.append_nil]; exact r1, M.ex e1, h, q.ex (cut_ex e1)⟩⟩
theorem en_meth0 (cl : Cls X.K (cM X.K)) (pn : PN X.prog X.w X.K X.mg X.base k nm R) (hr : Room k X.A) (hx : Passes (L2N.CX X.prog X.w) X E) (h : R m [] r) (hno : ∀ sb vr ho n vo, (mkFs A sb vr ho n vo).lookup nm = none := by intro _ _ _ _ _; rfl)
    (hN : X.N[0]? = some x := by rfl) (hv : Vis X.env.scope x := by first | exact Or.inl rfl | exact Or.inr (Or.inl rfl) | exact Or.inr (Or.inr rfl)) (hd : (x == ("__debug__" : Str)) = false := by decide) (hcd : (x == ("__classdict__" : Str)) = false := by decide)
    {pl : Sem Bool} (ht : eval (.Call (.Attribute (.Name x p) nm apos) [] [] pos) X.env = (do
      let ov ← eval (.Name x p) X.env
      standAt apos.atName
      let (f, first) ← holding [ov] (getMethod ov nm pl)
      callWith pos f first (backTo pos (starEach [] X.env)) (backToKw pos (keywordEach [] X.env))) := by rfl) : EN X E H0 A (.Call (.Attribute (.Name x p) nm apos) [] [] pos) m Δ r :=
  letI : SJ := mJ X.K H0 A m
  let ⟨_, _, _, F, hm, hb⟩ := pn.ex
  ⟨_, pe_meth0 (pv 0 hN hv hd hcd) cl hm F hr hb .nil hx ht, fun σ H s Q q => by
    obtain ⟨h0, M, e0⟩ := s.1.1
    obtain ⟨fs, h1, h2⟩ := mat_no M hno
    exact ⟨_, h0, A.a, A.dx, fs, rfl, h1, h2, A, m, [], [], r, rfl, .nil, M, h, q⟩⟩
theorem md_retN (h : EN X E H0 A e m Δ r) (hn : ∀ m' Δ', r ≠ .nx m' Δ') : MD X E H0 A (.Return (some e) pos) m Δ r := by
  obtain ⟨_, p, g⟩ := h.ex
  refine ⟨_, ps_ret p, fun D σ H s q => g σ H s _ ?_⟩
  have e0 := s.1.1.2.2
  cases r with
  | nx m' Δ' => exact absurd rfl (hn m' Δ')
  | rt m' d => exact fun v H' M e' r' => q v H' M (e0.trans e') r'
  | ex m' y => exact fun p H' M e' x => q p H' M (e0.trans e') x
/-- what a call as a statement leaves: slots that do not tell of lists -/
def Mr.stm (Δ : Dl) : Mr → Mr
  | .nx m Δ' => .nx m Δ'
  | .rt m _ => .nx m (keepD Δ)
  | .ex m y => .ex m y
end
/-- slots behind a call that may have changed the machine -/
theorem Sl.far {K : PySem.W.Frag} {H H' H0 : Hp} {A : Ad} {m m' : Ms} {σ : L2.St} {Δ : Dl} (s : @Sl (mJ K H0 A m) K H σ Δ) (M' : MAt K H' A m') (e : Ex (cut A.S H) (cut A.S H')) : @Sl (mJ K H0 A m') K H' σ (keepD Δ) := by
  obtain ⟨⟨⟨h0, M, e0⟩, hl⟩, hs⟩ := s
  refine ⟨⟨⟨h0, M', e0.trans e⟩, by unfold keepD; rw [List.length_map]; exact hl⟩, fun i d h => ?_⟩
  obtain ⟨h1, h2⟩ := keepD_get h
  obtain ⟨v, a, r⟩ := hs i d h1
  refine ⟨v, a, dp_ex cut_le _ _ (dp_ex e _ _ (dp_cutB (fun b hb xs z => ?_) _ _ h2 r))⟩
  obtain ⟨u, k1, k2, k3⟩ := M.kinds b hb
  rcases z with z | ⟨ob, z⟩ <;> rw [k1] at z <;> injection z with z
  · exact k2 _ z
  · exact k3 _ _ z
section
variable {X : Cx} {E : XK} {H0 : Hp} {A : Ad} {m : Ms} {Δ : Dl} {e : Expr} {pos : Pos} {r : Mr}
theorem md_exprN (h : EN X E H0 A e m Δ r) (hn : ∀ m' Δ', r ≠ .nx m' Δ') (hs : swapsWith e none pos.line X.env = pure false := by rfl) : MD X E H0 A (.Expr e pos) m Δ (r.stm Δ) := by
  obtain ⟨_, p, g⟩ := h.ex
  refine ⟨_, ps_expr p hs, fun D σ H s q => g σ H s _ ?_⟩
  have e0 := s.1.1.2.2
  cases r with
  | nx m' Δ' => exact absurd rfl (hn m' Δ')
  | rt m' d => exact fun v H' M e' r' => q σ H' (s.far M e')
  | ex m' y => exact fun p H' M e' x => q p H' M (e0.trans e') x
end
end Sr

set_option Elab.async false
set_option linter.all false
set_option maxRecDepth 100000
set_option maxHeartbeats 4000000
/-! Methods that raise and change nothing. -/
namespace Sr
open PySem PySem.Spec PyProof.Rows L2
open Evl (Ex)
section
variable {X : Cx} {H0 : Hp} {A : Ad} {m : Ms} {Δ : Dl} {e : Expr} {p apos pos : Pos} {n : Int} {x : Str} {d : PyData}
theorem rows_get {K : PySem.W.Frag} {H : Hp} (M : MAt K H A m) (h0 : 0 ≤ n) : ∃ kvs, H A.r = some (.dK kvs) ∧ ((m.rows[n.toNat]? = none ∧ valV kvs (.inl n) = none) ∨ ∃ d v, m.rows[n.toNat]? = some d ∧ valV kvs (.inl n) = some v ∧ Dp K H v d) := by
  obtain ⟨kvs, r1, r2, r3, r4⟩ := M.rows
  obtain ⟨i, rfl⟩ : ∃ i : Nat, n = (i : Int) := ⟨n.toNat, by omega⟩
  refine ⟨kvs, r1, ?_⟩
  show (m.rows[i]? = none ∧ _) ∨ ∃ d v, m.rows[i]? = some d ∧ _
  cases q : m.rows[i]? with
  | none => exact .inl ⟨rfl, r3 i (List.getElem?_eq_none_iff.mp q)⟩
  | some d =>
    obtain ⟨v, h1, h2⟩ := r4 i d q
    exact .inr ⟨d, v, rfl, h1, h2⟩
/-- n not in self.rows -/
theorem td_norow (T : Tx X.prog X.w X.K X.mg X.base) (hu : X.A.units + 1 < cLine) (he : @ED (mJ X.K H0 A m) X e Δ (.int n)) (h0 : 0 ≤ n) (hN : X.N[0]? = some x := by rfl) (hv : Vis X.env.scope x := by first | exact Or.inl rfl | exact Or.inr (Or.inl rfl) | exact Or.inr (Or.inr rfl))
    (hba : attributeBase (.Name x p) "rows" X.env (eval (.Name x p) X.env) = eval (.Name x p) X.env := by rfl) (hd : (x == ("__debug__" : Str)) = false := by decide) (hcd : (x == ("__classdict__" : Str)) = false := by decide)
    (hm : behindInMarks .NotIn (.Attribute (.Name x p) "rows" apos) = false := by rfl) : @TD (mJ X.K H0 A m) X (.Compare e [.NotIn] [.Attribute (.Name x p) "rows" apos] pos) Δ (m.rows[n.toNat]?).isNone := by
  letI : SJ := mJ X.K H0 A m
  obtain ⟨te, pe, ge⟩ := he.ex
  refine ⟨_, pt_cmp (pc_dnotin hu pe (pe_fld (pv 0 hN hv hd hcd) hba)) hm, fun σ H s Q q => ge σ H s _ fun y H1 e1 r1 => ?_⟩
  have ey := dp_int r1
  subst ey
  have s1 := s.ex e1
  obtain ⟨hs, M, e0⟩ := s1.1.1
  obtain ⟨sb, vr, ho, k, vo, i1, i2, i3⟩ := M.ins
  refine ⟨_, hs, A.a, cM X.K, A.dx, _, .ref A.r, rfl, i1, cl_Machine T, no_Machine_rows T, rfl, ?_⟩
  obtain ⟨kvs, r1, r2⟩ := rows_get M h0
  refine ⟨A.r, valV kvs (.inl n), rfl, .inl ⟨kvs, .inl n, .inl r1, rfl, rfl⟩, _, rfl, ?_⟩
  rcases r2 with ⟨a, b⟩ | ⟨d, v, a, b, _⟩
  · rw [b]
    have := q H1 e1
    rw [a] at this
    exact this
  · rw [b]
    have := q H1 e1
    rw [a] at this
    exact this
/-- self.rows[n] -/
theorem ed_row (T : Tx X.prog X.w X.K X.mg X.base) (hu : X.A.units + 1 < cLine) (he : @ED (mJ X.K H0 A m) X e Δ (.int n)) (h0 : 0 ≤ n) (hr : m.rows[n.toNat]? = some d) (hN : X.N[0]? = some x := by rfl) (hv : Vis X.env.scope x := by first | exact Or.inl rfl | exact Or.inr (Or.inl rfl) | exact Or.inr (Or.inr rfl))
    (hba : attributeBase (.Name x p) "rows" X.env (eval (.Name x p) X.env) = eval (.Name x p) X.env := by rfl) (hd : (x == ("__debug__" : Str)) = false := by decide) (hcd : (x == ("__classdict__" : Str)) = false := by decide)
    (hs : NoSl e := by exact fun _ _ => rfl) : @ED (mJ X.K H0 A m) X (.Subscript (.Attribute (.Name x p) "rows" apos) e pos) Δ d := by
  letI : SJ := mJ X.K H0 A m
  obtain ⟨te, pe, ge⟩ := he.ex
  refine ⟨_, pe_dget hu (pe_fld (pv 0 hN hv hd hcd) hba) pe hs, fun σ H s Q q => ?_⟩
  obtain ⟨h00, M, e0⟩ := s.1.1
  obtain ⟨sb, vr, ho, k, vo, i1, i2, i3⟩ := M.ins
  refine ⟨_, h00, A.a, cM X.K, A.dx, _, .ref A.r, rfl, i1, cl_Machine T, no_Machine_rows T, rfl, ge σ H s _ fun y H1 e1 r1 => ?_⟩
  have ey := dp_int r1
  subst ey
  obtain ⟨kvs, r1, r2⟩ := rows_get (M.ex e1) h0
  rcases r2 with ⟨a, b⟩ | ⟨d', v, a, b, r⟩
  · rw [hr] at a; cases a
  · rw [hr] at a
    cases a
    exact ⟨A.r, v, rfl, .inl ⟨kvs, .inl n, .inl r1, rfl, b.symm⟩, q v H1 e1 r⟩
end
section
variable {P : Program} {w : World} {K : PySem.W.Frag} {mg : Str → Option Value} {base : Heap}
def entR (v : Wv) : Rs := match v with
  | .pl _ => .ex "mark"
  | .mk l h a k r => if 1 < k then .ex "seal" else if r = .fx then .rt (Wv.mk l h a 0 r).d else .ex "right"
def R_entered : Ms → List PyData → Mr → Prop := fun m ds r => ∃ v : Wv, v.Ok ∧ v.mild = true ∧ ds = [v.d] ∧ r = liftR m (entR v)
theorem sc_Machine_entered : FnScope ["self", "word"] ["self", "word"] (defScope t_Machine_entered) := ⟨rfl, rfl, rfl, by decide +kernel, rfl, by decide +kernel, by decide +kernel⟩
theorem pn_entered (T : Tx P w K mg base) : PN P w K mg base 6 "entered" R_entered := by
  refine pn_of (N := ["self", "word"]) (ps := ["self", "word"]) (n := 0) (k := 5) (fd_Machine_entered T) sc_Machine_entered (me_Machine_entered T) rfl (fun m ds r h => by obtain ⟨v, hv, hm, rfl, rfl⟩ := h; rfl) (fun _ _ _ _ _ _ us hl => match us, hl with | [_, _], _ => rfl) ?_
  intro f cdv Ar outer s H E hr A m ds r M h
  obtain ⟨v, hv, hm, rfl, rfl⟩ := h
  letI J : SJ := mJ K H A m
  cases v with
  | pl b => exact ⟨.ex m "mark", mb_of (r := .ex "mark") (bd_ifx (p := true) (td_is (td_not (td_val (ed_ixT (ed_var 1) ed_int))) rfl) (fun _ h => nomatch h) (fun _ => bd_one (sd_raiseF rfl T (hr.mono (by decide)) tkR ed_str)) (fun h => nomatch h)), .inl ⟨rfl, fun _ _ h => nomatch h⟩⟩
  | mk l h a k r =>
    have F : Fl l h a r.m k := hv
    by_cases k1 : 1 < k
    · have e : entR (.mk l h a k r) = .ex "seal" := if_pos k1
      rw [e]
      exact ⟨.ex m "seal", mb_of (r := .ex "seal") (bd_iff (td_is (td_not (td_val (ed_ixT (ed_var 1) ed_int))) rfl) (bd_ifx (p := true) (td_is (WD.t (wd_and (td_gt (ed_ixT (ed_call (pf_fields_of T) (hr.mono (by decide)) (ad_cons (ed_var 1) ad_nil) (mk_fields F)) ed_int) ed_int) fun hb => wd_and1 (td_ne hr.units (ed_fld (cl_Machine T) (no_Machine_rule T) (fun _ M => mat_rule M)) (ed_glob (c_ENTRY_loose T)) (s2 := by decide +kernel)))) (by rw [decide_eq_true k1]; rfl)) (fun _ h => nomatch h) (fun _ => bd_one (sd_raiseF rfl T (hr.mono (by decide)) tkR ed_str)) (fun h => nomatch h))), .inl ⟨rfl, fun _ _ h => nomatch h⟩⟩
    · have hx := has_x r hm
      by_cases rf : r = .fx
      · have e : entR (.mk l h a k r) = .rt (Wv.mk l h a 0 r).d := by unfold entR; simp only [if_neg k1, if_pos rf]
        rw [e]
        exact ⟨.rt m _, mb_of (r := .rt (Wv.mk l h a 0 r).d) (bd_iff (td_is (td_not (td_val (ed_ixT (ed_var 1) ed_int))) rfl) (bd_iff (td_short (td_is (td_gt (ed_ixT (ed_call (pf_fields_of T) (hr.mono (by decide)) (ad_cons (ed_var 1) ad_nil) (mk_fields F)) ed_int) ed_int) (decide_eq_false k1))) (bd_iff (td_is (td_niS ed_str (ed_ixT (ed_call (pf_fields_of T) (hr.mono (by decide)) (ad_cons (ed_var 1) ad_nil) (mk_fields F)) ed_int)) (by rw [hx, decide_eq_true rf]; rfl)) (bd_one (sd_ret (ed_call (pf_with_kind T) (hr.mono (by decide)) (ad_cons (ed_var 1) (ad_cons ed_int ad_nil)) (⟨l, h, a, k, 0, r, F, by decide, by decide, rfl, rfl⟩)) (rfl)))))), .inl ⟨rfl, fun _ _ h => nomatch h⟩⟩
      · have e : entR (.mk l h a k r) = .ex "right" := by unfold entR; simp only [if_neg k1, if_neg rf]
        rw [e]
        exact ⟨.ex m "right", mb_of (r := .ex "right") (bd_iff (td_is (td_not (td_val (ed_ixT (ed_var 1) ed_int))) rfl) (bd_iff (td_short (td_is (td_gt (ed_ixT (ed_call (pf_fields_of T) (hr.mono (by decide)) (ad_cons (ed_var 1) ad_nil) (mk_fields F)) ed_int) ed_int) (decide_eq_false k1))) (bd_ifx (p := true) (td_is (td_niS ed_str (ed_ixT (ed_call (pf_fields_of T) (hr.mono (by decide)) (ad_cons (ed_var 1) ad_nil) (mk_fields F)) ed_int)) (by rw [hx, decide_eq_false rf]; rfl)) (fun _ h => nomatch h) (fun _ => bd_one (sd_raiseF rfl T (hr.mono (by decide)) tkR ed_str)) (fun h => nomatch h)))), .inl ⟨rfl, fun _ _ h => nomatch h⟩⟩
def rowR (m : Ms) : Rs := match m.row with
  | .mk l h a _ _ => if (decide (l ≤ a) && decide (a < h)) = true then match m.rows[a.toNat]? with | some d => .rt d | none => .ex "rows" else .ex "rows"
  | .pl _ => .ex "rows"
def R_row_now : Ms → List PyData → Mr → Prop := fun m ds r => m.row.Ok ∧ m.row.t = true ∧ ds = [] ∧ r = liftR m (rowR m)
theorem sc_Machine_row_now : FnScope ["self", "low", "high", "at", "rights", "kind"] ["self"] (defScope t_Machine_row_now) := ⟨rfl, rfl, rfl, by decide +kernel, rfl, by decide +kernel, by decide +kernel⟩
theorem pn_row_now (T : Tx P w K mg base) : PN P w K mg base 3 "row_now" R_row_now := by
  refine pn_of (N := ["self", "low", "high", "at", "rights", "kind"]) (ps := ["self"]) (n := 5) (k := 2) (fd_Machine_row_now T) sc_Machine_row_now (me_Machine_row_now T) rfl (fun m ds r h => by obtain ⟨hv, ht, rfl, rfl⟩ := h; rfl) (fun _ _ _ _ _ _ us hl => match us, hl with | [_], _ => rfl) ?_
  intro f cdv Ar outer s H E hr A m ds r M h
  obtain ⟨hv, ht, rfl, rfl⟩ := h
  letI J : SJ := mJ K H A m
  cases e : m.row with
  | pl b => rw [e] at ht; cases ht
  | mk l h a k r =>
    rw [e] at hv
    have F : Fl l h a r.m k := hv
    have fe : R_fields_of [m.row.d] (.tuple [.int l, .int h, .int a, .str r.s, .int k]) := by rw [e]; exact mk_fields F
    cases c1 : (decide (l ≤ a) && decide (a < h)) with
    | false =>
      have er : rowR m = .ex "rows" := by simp only [rowR, e, c1]; rfl
      rw [er]
      exact ⟨.ex m "rows", mb_of (r := .ex "rows") (bd_cons (sd_asg (ed_call (pf_fields_of T) (hr.mono (by decide)) (ad_cons (ed_fld (cl_Machine T) (no_Machine_own_row T) (fun _ M => mat_row M)) ad_nil) (fe)) (gd_tup rfl (gds_cons (gd_name 1 sc_Machine_row_now.nd) (gds_cons (gd_name 2 sc_Machine_row_now.nd) (gds_cons (gd_name 3 sc_Machine_row_now.nd) (gds_cons (gd_name 4 sc_Machine_row_now.nd) (gds_cons (gd_name 5 sc_Machine_row_now.nd) gds_nil))))))) (bd_ifx (p := true) (td_is (WD.t (wd_or (q := false) (td_not (td_ch2et (ed_var 1) (ed_var 3) (ed_var 2))) (fun z => by rw [c1] at z; cases z))) (by rw [c1]; rfl)) (fun _ h => nomatch h) (fun _ => bd_one (sd_raiseF rfl T (hr.mono (by decide)) tkR ed_str)) (fun h => nomatch h))), .inl ⟨rfl, fun _ _ h => nomatch h⟩⟩
    | true =>
      cases c2 : m.rows[a.toNat]? with
      | none =>
        have er : rowR m = .ex "rows" := by simp only [rowR, e, c1, c2]; rfl
        rw [er]
        exact ⟨.ex m "rows", mb_of (r := .ex "rows") (bd_cons (sd_asg (ed_call (pf_fields_of T) (hr.mono (by decide)) (ad_cons (ed_fld (cl_Machine T) (no_Machine_own_row T) (fun _ M => mat_row M)) ad_nil) (fe)) (gd_tup rfl (gds_cons (gd_name 1 sc_Machine_row_now.nd) (gds_cons (gd_name 2 sc_Machine_row_now.nd) (gds_cons (gd_name 3 sc_Machine_row_now.nd) (gds_cons (gd_name 4 sc_Machine_row_now.nd) (gds_cons (gd_name 5 sc_Machine_row_now.nd) gds_nil))))))) (bd_ifx (p := true) (td_is (WD.t (wd_or (td_not (td_ch2et (ed_var 1) (ed_var 3) (ed_var 2))) fun hb => wd_or1 (td_norow T (hu_of hr) (ed_var 3) F.a0))) (by rw [c1, c2]; rfl)) (fun _ h => nomatch h) (fun _ => bd_one (sd_raiseF rfl T (hr.mono (by decide)) tkR ed_str)) (fun h => nomatch h))), .inl ⟨rfl, fun _ _ h => nomatch h⟩⟩
      | some d =>
        have er : rowR m = .rt d := by simp only [rowR, e, c1, c2]; rfl
        rw [er]
        exact ⟨.rt m d, mb_of (r := .rt d) (bd_cons (sd_asg (ed_call (pf_fields_of T) (hr.mono (by decide)) (ad_cons (ed_fld (cl_Machine T) (no_Machine_own_row T) (fun _ M => mat_row M)) ad_nil) (fe)) (gd_tup rfl (gds_cons (gd_name 1 sc_Machine_row_now.nd) (gds_cons (gd_name 2 sc_Machine_row_now.nd) (gds_cons (gd_name 3 sc_Machine_row_now.nd) (gds_cons (gd_name 4 sc_Machine_row_now.nd) (gds_cons (gd_name 5 sc_Machine_row_now.nd) gds_nil))))))) (bd_iff (td_is (WD.t (wd_or (td_not (td_ch2et (ed_var 1) (ed_var 3) (ed_var 2))) fun hb => wd_or1 (td_norow T (hu_of hr) (ed_var 3) F.a0))) (by rw [c1, c2]; rfl)) (bd_one (sd_ret (ed_row T (hu_of hr) (ed_var 3) F.a0 c2) rfl)))), .inl ⟨rfl, fun _ _ h => nomatch h⟩⟩
end
end Sr

set_option Elab.async false
set_option linter.all false
set_option maxRecDepth 100000
set_option maxHeartbeats 4000000
/-! The machine's poke. -/
namespace Sr
open PySem PySem.Spec PyProof.Rows L2
open Evl (Ex)
section
variable {X : Cx} {E : XK} {H0 : Hp} {A : Ad} {m : Ms} {Δ : Dl} {e e2 : Expr} {p apos a2 pos pos2 : Pos} {n k : Int} {x : Str}
/-- self.cells.cell(n) -/
theorem ed_cellM (T : Tx X.prog X.w X.K X.mg X.base) (hr : Room 3 X.A) (he : @ED (mJ X.K H0 A m) X e Δ (.int n)) (h0 : 0 ≤ n) (h1 : n < 4096) (hN : X.N[0]? = some x := by rfl) (hv : Vis X.env.scope x := by first | exact Or.inl rfl | exact Or.inr (Or.inl rfl) | exact Or.inr (Or.inr rfl))
    (hba : attributeBase (.Name x p) "cells" X.env (eval (.Name x p) X.env) = eval (.Name x p) X.env := by rfl) (hd : (x == ("__debug__" : Str)) = false := by decide) (hcd : (x == ("__classdict__" : Str)) = false := by decide) (hst : starEach [e] X.env = (false, eval e X.env) :: starEach [] X.env := by rfl) (hpl : (backTo pos (starEach [] X.env)).any (·.1) = false := by rfl)
    {pl : Sem Bool} (ht : eval (.Call (.Attribute (.Attribute (.Name x p) "cells" apos) "cell" a2) [e] [] pos) X.env = (do
      let ov ← eval (.Attribute (.Name x p) "cells" apos) X.env
      standAt a2.atName
      let (f, first) ← holding [ov] (getMethod ov "cell" pl)
      callWith pos f first (backTo pos (starEach [e] X.env)) (backToKw pos (keywordEach [] X.env))) := by rfl) : @ED (mJ X.K H0 A m) X (.Call (.Attribute (.Attribute (.Name x p) "cells" apos) "cell" a2) [e] [] pos) Δ (cellW m.cells n).d :=
  letI : SJ := mJ X.K H0 A m
  let ⟨_, F, hb⟩ := fn_cell T
  let ⟨_, pe, ge⟩ := he.ex
  ⟨_, pe_meth (pe_fld (pv 0 hN hv hd hcd) hba) (cl_Cells T) (me_Cells_cell T) F hr hb .nil pass0 (pa_cons pe pa_nil hst) hst hpl ht, fun σ H s Q q => by
    obtain ⟨hs, M, e0⟩ := s.1.1
    obtain ⟨sb, vr, ho, k, vo, i1, i2, i3⟩ := M.ins
    refine ⟨_, hs, A.a, cM X.K, A.dx, _, .ref A.c, rfl, i1, cl_Machine T, no_Machine_cells T, rfl, A.c, A.cdx, _, rfl, M.cel.cls, rfl, ge σ H s _ fun y H1 e1 r1 => ?_⟩
    have ey := dp_int r1
    subst ey
    exact ⟨A.c, A.cdx, A.cd, m.cells, n, rfl, M.cel.ex e1, h0, h1, fun v H2 e2 r2 => q v H2 (e1.trans e2) r2⟩⟩
/-- self.cells.put_lowest(n, k) -/
theorem md_lowest (T : Tx X.prog X.w X.K X.mg X.base) (hr : Room 4 X.A) (he : @ED (mJ X.K H0 A m) X e Δ (.int n)) (hk : @ED (mJ X.K H0 A m) X e2 Δ (.int k)) (h0 : 0 ≤ n) (h1 : n < 4096) (few : m.cells.length < 100) (hN : X.N[0]? = some x := by rfl) (hv : Vis X.env.scope x := by first | exact Or.inl rfl | exact Or.inr (Or.inl rfl) | exact Or.inr (Or.inr rfl))
    (hba : attributeBase (.Name x p) "cells" X.env (eval (.Name x p) X.env) = eval (.Name x p) X.env := by rfl) (hd : (x == ("__debug__" : Str)) = false := by decide) (hcd : (x == ("__classdict__" : Str)) = false := by decide) (hst : starEach [e, e2] X.env = (false, eval e X.env) :: starEach [e2] X.env := by rfl) (hst2 : starEach [e2] X.env = (false, eval e2 X.env) :: starEach [] X.env := by rfl) (hpl : (backTo pos (starEach [e2] X.env)).any (·.1) = false := by rfl)
    {pl : Sem Bool} (ht : eval (.Call (.Attribute (.Attribute (.Name x p) "cells" apos) "put_lowest" a2) [e, e2] [] pos) X.env = (do
      let ov ← eval (.Attribute (.Name x p) "cells" apos) X.env
      standAt a2.atName
      let (f, first) ← holding [ov] (getMethod ov "put_lowest" pl)
      callWith pos f first (backTo pos (starEach [e, e2] X.env)) (backToKw pos (keywordEach [] X.env))) := by rfl) (hsw : swapsWith (.Call (.Attribute (.Attribute (.Name x p) "cells" apos) "put_lowest" a2) [e, e2] [] pos) none pos2.line X.env = pure false := by rfl) :
    MD X E H0 A (.Expr (.Call (.Attribute (.Attribute (.Name x p) "cells" apos) "put_lowest" a2) [e, e2] [] pos) pos2) m Δ (.nx { m with cells := setC m.cells n (pokeW m.cells n k) } (keepD Δ)) := by
  letI : SJ := mJ X.K H0 A m
  obtain ⟨_, F, hb⟩ := fn_lowest T
  obtain ⟨_, pe, ge⟩ := he.ex
  obtain ⟨_, pe2, ge2⟩ := hk.ex
  refine ⟨_, ps_expr (pe_meth (pe_fld (pv 0 hN hv hd hcd) hba) (cl_Cells T) (me_Cells_put_lowest T) F hr hb .nil pass0 (pa_cons pe (pa_cons pe2 pa_nil hst2) hst) hst hpl ht) hsw, fun D σ H s q => ?_⟩
  obtain ⟨hs, M, e0⟩ := s.1.1
  obtain ⟨sb, vr, ho, j, vo, i1, i2, i3⟩ := M.ins
  refine ⟨_, hs, A.a, cM X.K, A.dx, _, .ref A.c, rfl, i1, cl_Machine T, no_Machine_cells T, rfl, A.c, A.cdx, _, rfl, M.cel.cls, rfl, ge σ H s _ fun y H1 e1 r1 => ge2 σ H1 (s.ex e1) _ fun y2 H2 e2 r2 => ?_⟩
  have ey := dp_int r1
  have ey2 := dp_int r2
  subst ey ey2
  refine ⟨A.c, A.cdx, A.cd, m.cells, n, k, rfl, (M.cel.ex e1).ex e2, h0, h1, few, fun H3 kvs e3 C3 => q σ _ ?_⟩
  have s3 := s.ex ((e1.trans e2).trans e3)
  exact s3.chg (by simp [Ad.S]) ((M.ex ((e1.trans e2).trans e3)).cells_ C3)
end
section
variable {P : Program} {w : World} {K : PySem.W.Frag} {mg : Str → Option Value} {base : Heap}
def R_poke : Ms → List PyData → Mr → Prop := fun m ds r => ∃ a n : Int, ds = [.int a, .int n] ∧ 0 ≤ a ∧ a < 4096 ∧ m.cells.length < 100 ∧ r = .rt { m with cells := setC m.cells a (pokeW m.cells a n) } .none
theorem sc_Machine_poke : FnScope ["self", "address", "number", "mark", "kept"] ["self", "address", "number"] (defScope t_Machine_poke) := ⟨rfl, rfl, rfl, by decide +kernel, rfl, by decide +kernel, by decide +kernel⟩
theorem pn_poke (T : Tx P w K mg base) : PN P w K mg base 5 "poke" R_poke := by
  refine pn_of (N := ["self", "address", "number", "mark", "kept"]) (ps := ["self", "address", "number"]) (n := 2) (k := 4) (fd_Machine_poke T) sc_Machine_poke (me_Machine_poke T) rfl (fun m ds r h => by obtain ⟨a, n, rfl, a0, a1, few, rfl⟩ := h; rfl) (fun _ _ _ _ _ _ us hl => match us, hl with | [_, _, _], _ => rfl) ?_
  intro f cdv Ar outer s H E hr A m ds r M h
  obtain ⟨a, n, rfl, a0, a1, few, rfl⟩ := h
  letI J : SJ := mJ K H A m
  apply Exists.intro
  apply And.intro
  · apply mb_cons (md_of (r := .nx _) (sd_set 3 sc_Machine_poke.nd (ed_ixT (ed_cellM T (hr.mono (by decide)) (ed_var 1) a0 a1) ed_int)))
    apply mb_cons (md_lowest T (hr.mono (by decide)) (ed_var 1) (ed_var 2) a0 a1 few)
    letI J2 : SJ := mJ K H A { m with cells := setC m.cells a (pokeW m.cells a n) }
    exact mb_of (r := .nx _) (bd_cons (sd_set 4 sc_Machine_poke.nd (ed_tup (ad_cons ed_bl (ad_cons (ed_ixT (ed_cellM T (hr.mono (by decide)) (ed_var 1) a0 a1) ed_int) ad_nil)))) (bd_iff (td_short (td_is (td_eq hr.units (ed_fld (cl_Machine T) (no_Machine_rule T) (fun _ M => mat_rule M)) (ed_glob (c_POKE T)) (s2 := by decide +kernel)) rfl)) bd_nil))
  · exact .inr ⟨_, _, rfl, rfl⟩
end
end Sr

set_option Elab.async false
set_option linter.all false
set_option maxRecDepth 100000
set_option maxHeartbeats 4000000
/-! The machine's loading. -/
namespace Sr
open PySem PySem.Spec PyProof.Rows L2
open Evl (Ex)
section
variable {P : Program} {w : World} {K : PySem.W.Frag} {mg : Str → Option Value} {base : Heap}
theorem sc_Heap_is_stale : FnScope ["self", "word", "low", "high", "at", "rights", "kind", "right", "own_low", "own_high"] ["self", "word"] (defScope t_Heap_is_stale) := ⟨rfl, rfl, rfl, by decide +kernel, rfl, by decide +kernel, by decide +kernel⟩
def spStale (K : PySem.W.Frag) : Sp := fun vs H Q _ => ∃ (a : Addr) (wv : V) (b : Int), vs = [.ref a, wv] ∧ Dp K H wv (Wv.pl b).d ∧ ∀ H', Ex H H' → Q (.bl false) H'
theorem fn_stale (T : Tx P w K mg base) : ∃ fd, FnOk P w K mg base CX0 1 (He.ma K (He.ga K "Heap") "is_stale") fd ["self", "word"] (spStale K) ∧ Binds K fd ["self", "word"] [] := by
  obtain ⟨fd, F⟩ := fd_Heap_is_stale T
  refine ⟨fd, F.ok sc_Heap_is_stale (fun vs H Q E h => by obtain ⟨a, wv, b, rfl, _⟩ := h; rfl) (fun cdv Ar outer s H vs Q E hr h => ?_), F.bindsN fun _ _ _ _ _ _ us hl => match us, hl with | [_, _], _ => rfl⟩
  obtain ⟨a, wv, b, rfl, dw, q⟩ := h
  have hs : Sl K H (L2.start ["self", "word", "low", "high", "at", "rights", "kind", "right", "own_low", "own_high"] [.ref a, wv]) (none :: some (Wv.pl b).d :: List.replicate (["self", "word", "low", "high", "at", "rights", "kind", "right", "own_low", "own_high"].length - 2) none) := by
    refine ⟨⟨trivial, rfl⟩, fun i d e => ?_⟩
    match i, e with
    | 0, e => cases e
    | 1, e => cases e; exact ⟨wv, rfl, dw⟩
    | i + 2, e =>
      have e' : (List.replicate (["self", "word", "low", "high", "at", "rights", "kind", "right", "own_low", "own_high"].length - 2) (none : Option PyData))[i]? = some (some d) := e
      rw [List.getElem?_replicate] at e'
      split at e' <;> cases e'
  have hb : BD (cxOf CX0 P w K mg base ["self", "word", "low", "high", "at", "rights", "kind", "right", "own_low", "own_high"] "Heap.is_stale" (defScope t_Heap_is_stale) (He.fAd K d_Heap_is_stale.at_) cdv Ar outer s H E).nox E0 0 (defBody t_Heap_is_stale) (none :: some (Wv.pl b).d :: List.replicate (["self", "word", "low", "high", "at", "rights", "kind", "right", "own_low", "own_high"].length - 2) none) (.rt (.bool false)) :=
    bd_ifx (p := true) (td_is (td_not (td_val (ed_ixT (ed_var 1) ed_int))) rfl) (fun _ h => nomatch h) (fun _ => bd_one (sd_ret ed_bl (rfl))) (fun h => nomatch h)
  obtain ⟨t, p, g⟩ := hb.ex
  exact ⟨t, p.nox, g _ _ H hs fun v H' e r => by rw [dp_bl r]; exact q H' e⟩
end
section
variable {X : Cx} {H0 : Hp} {A : Ad} {m : Ms} {Δ : Dl} {e : Expr} {p apos a2 pos : Pos} {b : Int} {x : Str}
/-- self.heap.is_stale(a plain word) -/
theorem ed_stale (T : Tx X.prog X.w X.K X.mg X.base) (hr : Room 1 X.A) (he : @ED (mJ X.K H0 A m) X e Δ (Wv.pl b).d) (hN : X.N[0]? = some x := by rfl) (hv : Vis X.env.scope x := by first | exact Or.inl rfl | exact Or.inr (Or.inl rfl) | exact Or.inr (Or.inr rfl))
    (hba : attributeBase (.Name x p) "heap" X.env (eval (.Name x p) X.env) = eval (.Name x p) X.env := by rfl) (hd : (x == ("__debug__" : Str)) = false := by decide) (hcd : (x == ("__classdict__" : Str)) = false := by decide) (hst : starEach [e] X.env = (false, eval e X.env) :: starEach [] X.env := by rfl) (hpl : (backTo pos (starEach [] X.env)).any (·.1) = false := by rfl)
    {pl : Sem Bool} (ht : eval (.Call (.Attribute (.Attribute (.Name x p) "heap" apos) "is_stale" a2) [e] [] pos) X.env = (do
      let ov ← eval (.Attribute (.Name x p) "heap" apos) X.env
      standAt a2.atName
      let (f, first) ← holding [ov] (getMethod ov "is_stale" pl)
      callWith pos f first (backTo pos (starEach [e] X.env)) (backToKw pos (keywordEach [] X.env))) := by rfl) : @ED (mJ X.K H0 A m) X (.Call (.Attribute (.Attribute (.Name x p) "heap" apos) "is_stale" a2) [e] [] pos) Δ (.bool false) :=
  letI : SJ := mJ X.K H0 A m
  let ⟨_, F, hb⟩ := fn_stale T
  let ⟨_, pe, ge⟩ := he.ex
  ⟨_, pe_meth (pe_fld (pv 0 hN hv hd hcd) hba) (cl_Heap T) (me_Heap_is_stale T) F hr hb .nil pass0 (pa_cons pe pa_nil hst) hst hpl ht, fun σ H s Q q => by
    obtain ⟨hs, M, e0⟩ := s.1.1
    obtain ⟨sb, vr, ho, k, vo, i1, i2, i3⟩ := M.ins
    obtain ⟨fs, p1, p2, p3⟩ := M.hps
    refine ⟨_, hs, A.a, cM X.K, A.dx, _, .ref A.hp, rfl, i1, cl_Machine T, no_Machine_heap T, rfl, A.hp, A.hdx, fs, rfl, p1, p2, ge σ H s _ fun y H1 e1 r1 => ?_⟩
    exact ⟨A.hp, y, b, rfl, r1, fun H2 e2 => q _ H2 (e1.trans e2) (.bl _)⟩⟩
end
section
variable {P : Program} {w : World} {K : PySem.W.Frag} {mg : Str → Option Value} {base : Heap}
def R_is_loaded : Ms → List PyData → PyData → Prop := fun m ds d => ∃ (l h a k b : Int), Fl l h a Rt.cell.m k ∧ ds = [(Wv.mk l h a k .cell).d, (Wv.pl b).d] ∧ d = .bool true
theorem sc_Machine_is_loaded : FnScope ["self", "by", "found"] ["self", "by", "found"] (defScope t_Machine_is_loaded) := ⟨rfl, rfl, rfl, by decide +kernel, rfl, by decide +kernel, by decide +kernel⟩
theorem pm_is_loaded (T : Tx P w K mg base) : PM P w K mg base 3 "is_loaded" R_is_loaded := by
  refine pm_of (N := ["self", "by", "found"]) (ps := ["self", "by", "found"]) (n := 0) (k := 2) (fd_Machine_is_loaded T) sc_Machine_is_loaded (me_Machine_is_loaded T) rfl (fun m ds d h => by obtain ⟨l, h, a, k, b, F, rfl, rfl⟩ := h; rfl) (fun _ _ _ _ _ _ us hl => match us, hl with | [_, _, _], _ => rfl) ?_
  intro f cdv Ar outer s H E hr A m ds d M h
  obtain ⟨l, h, a, k, b, F, rfl, rfl⟩ := h
  letI J : SJ := mJ K H A m
  exact ⟨.rt _, bd_iff (td_short (td_is (td_niS ed_str (ed_ixT (ed_call (pf_fields_of T) (hr.mono (by decide)) (ad_cons (ed_var 1) ad_nil) (mk_fields F)) ed_int)) (by decide +kernel))) (bd_one (sd_ret (ed_shortO (ed_not (ed_stale T (hr.mono (by decide)) (ed_var 2)))) rfl)), .inl rfl⟩
end
end Sr

set_option Elab.async false
set_option linter.all false
set_option maxRecDepth 100000
set_option maxHeartbeats 4000000
/-! What the machine shows. -/
namespace Sr
open PySem PySem.Spec PyProof.Rows L2
open Evl (Ex)
section
variable {X : Cx} {Δ : Dl} {a : Expr} {p pos : Pos} {ds : List PyData}
/-- list(a list) -/
theorem ed_listOf [SJ] (hm : X.mg "list" = none) (ha : ED X a Δ (.list ds)) (hg : Gl X "list" := by rfl) (hs : starEach [a] X.env = (false, eval a X.env) :: starEach [] X.env := by rfl) : ED X (.Call (.Name "list" p) [a] [] pos) Δ (.list ds) :=
  let ⟨_, pa, ga⟩ := ha.ex
  ⟨_, pe_callTy call_list_of hg hm bt_list (pa_cons pa pa_nil hs) (he := hs), fun σ H s Q q => ga σ H s _ fun x H1 e1 r1 => by
    obtain ⟨b, xs, e, hq, r⟩ := dp_lst r1
    subst e
    refine ⟨b, xs, rfl, .inl hq, fun l hl => ?_⟩
    exact q _ _ (e1.trans (Ex.new hl)) (.lst (SqL.of upd_same) (dps_ex (Ex.new hl) _ _ r))⟩
end
section
variable {P : Program} {w : World} {K : PySem.W.Frag} {mg : Str → Option Value} {base : Heap}
def R_boxes : Ms → List PyData → PyData → Prop := fun m ds d => ds = [] ∧ d = .list (m.boxes.map Wv.d)
theorem sc_Machine_boxes : FnScope ["self"] ["self"] (defScope t_Machine_boxes) := ⟨rfl, rfl, rfl, by decide +kernel, rfl, by decide +kernel, by decide +kernel⟩
theorem pm_boxes (T : Tx P w K mg base) : PM P w K mg base 1 "boxes" R_boxes := by
  refine pm_of (N := ["self"]) (ps := ["self"]) (n := 0) (k := 0) (fd_Machine_boxes T) sc_Machine_boxes (me_Machine_boxes T) rfl (fun m ds d h => by obtain ⟨rfl, rfl⟩ := h; rfl) (fun _ _ _ _ _ _ us hl => match us, hl with | [_], _ => rfl) ?_
  intro f cdv Ar outer s H E hr A m ds d M h
  obtain ⟨rfl, rfl⟩ := h
  letI J : SJ := mJ K H A m
  exact ⟨.rt _, bd_one (sd_ret (ed_listOf (fr_list T) (ed_fld (cl_Machine T) (no_Machine_own_boxes T) (fun _ M => mat_boxes M))) rfl), .inl rfl⟩
def R_cell : Ms → List PyData → PyData → Prop := fun m ds d => ∃ a : Int, 0 ≤ a ∧ a < 4096 ∧ ds = [.int a] ∧ d = (cellW m.cells a).d
theorem sc_Machine_cell : FnScope ["self", "address"] ["self", "address"] (defScope t_Machine_cell) := ⟨rfl, rfl, rfl, by decide +kernel, rfl, by decide +kernel, by decide +kernel⟩
theorem pm_cell (T : Tx P w K mg base) : PM P w K mg base 4 "cell" R_cell := by
  refine pm_of (N := ["self", "address"]) (ps := ["self", "address"]) (n := 0) (k := 3) (fd_Machine_cell T) sc_Machine_cell (me_Machine_cell T) rfl (fun m ds d h => by obtain ⟨a, a0, a1, rfl, rfl⟩ := h; rfl) (fun _ _ _ _ _ _ us hl => match us, hl with | [_, _], _ => rfl) ?_
  intro f cdv Ar outer s H E hr A m ds d M h
  obtain ⟨a, a0, a1, rfl, rfl⟩ := h
  letI J : SJ := mJ K H A m
  exact ⟨.rt _, bd_one (sd_ret (ed_cellM T (hr.mono (by decide)) (ed_var 1) a0 a1) rfl), .inl rfl⟩
end
end Sr

set_option Elab.async false
set_option linter.all false
set_option maxRecDepth 100000
set_option maxHeartbeats 4000000
/-! The name of the compartment now. -/
namespace Sr
open PySem PySem.Spec PyProof.Rows L2
open Evl (Ex)
/-- the standing fact while the dict of the words is walked -/
@[reducible] def nJ (K : PySem.W.Frag) (A : Ad) (m : Ms) : SJ where
  p σ H := σ[0]? = some (some (.ref A.a)) ∧ (∃ sb vr ho n vo, H A.a = some (.ins (cM K) A.dx (mkFs A sb vr ho n vo)) ∧ Dp K H vr m.row.d) ∧ ∃ v, Rd H A.wd (.dK [(.inr "a", v)]) ∧ Dp K H v (wordsV m)
  ok i := i ≠ 0
  st e h := by
    obtain ⟨h0, ⟨sb, vr, ho, n, vo, h1, h2⟩, v, h3, h4⟩ := h
    exact ⟨h0, ⟨sb, vr, ho, n, vo, e _ _ h1, dp_ex e _ _ h2⟩, v, Evl.ex_rd e h3, dp_ex e _ _ h4⟩
  set hi h := ⟨by rw [List.getElem?_set_ne hi]; exact h.1, h.2⟩
section
variable {X : Cx} {A : Ad} {m : Ms} {Δ : Dl} {e : Expr} {p apos pos : Pos} {x : Str}
/-- self.words['a'] -/
theorem ed_words (T : Tx X.prog X.w X.K X.mg X.base) (hu : X.A.units + 1 < cLine) (he : @ED (nJ X.K A m) X e Δ (.str "a")) (hN : X.N[0]? = some x := by rfl) (hv : Vis X.env.scope x := by first | exact Or.inl rfl | exact Or.inr (Or.inl rfl) | exact Or.inr (Or.inr rfl))
    (hba : attributeBase (.Name x p) "words" X.env (eval (.Name x p) X.env) = eval (.Name x p) X.env := by rfl) (hd : (x == ("__debug__" : Str)) = false := by decide) (hcd : (x == ("__classdict__" : Str)) = false := by decide)
    (hs : NoSl e := by exact fun _ _ => rfl) : @ED (nJ X.K A m) X (.Subscript (.Attribute (.Name x p) "words" apos) e pos) Δ (wordsV m) := by
  letI : SJ := nJ X.K A m
  obtain ⟨te, pe, ge⟩ := he.ex
  refine ⟨_, pe_dget hu (pe_fld (pv 0 hN hv hd hcd) hba) pe hs, fun σ H s Q q => ?_⟩
  obtain ⟨h0, ⟨sb, vr, ho, n, vo, i1, i2⟩, _⟩ := s.1.1
  refine ⟨_, h0, A.a, cM X.K, A.dx, _, .ref A.wd, rfl, i1, cl_Machine T, no_Machine_words T, rfl, ge σ H s _ fun y H1 e1 r1 => ?_⟩
  have ey := dp_str r1
  subst ey
  obtain ⟨_, _, v, h3, h4⟩ := (s.ex e1).1.1
  exact ⟨A.wd, v, rfl, .inl ⟨_, .inr "a", h3, rfl, by simp [valV]⟩, q v H1 e1 h4⟩
end
section
variable {P : Program} {w : World} {K : PySem.W.Frag} {mg : Str → Option Value} {base : Heap}
theorem sc_Machine_name_now : FnScope ["self", "at", "name", "low", "high"] ["self"] (defScope t_Machine_name_now) := ⟨rfl, rfl, rfl, by decide +kernel, rfl, by decide +kernel, by decide +kernel⟩
def R_name_now : Ms → List PyData → PyData → Prop := fun m ds d => ∃ (l h a k : Int) (r : Rt), Fl l h a r.m k ∧ m.row = .mk l h a k r ∧ Fl 0 m.size 0 Rt.fx.m 0 ∧ 0 ≤ a ∧ a < m.size ∧ ds = [] ∧ d = .str "a"
theorem pm_name_now (T : Tx P w K mg base) : PM P w K mg base 6 "name_now" R_name_now := by
  obtain ⟨fd, F⟩ := fd_Machine_name_now T
  refine ⟨_, fd, ["self"], F.ok sc_Machine_name_now (fun vs H Q E h => ?_) (fun cdv Ar outer s H vs Q E hr h => ?_), me_Machine_name_now T, F.bindsN fun _ _ _ _ _ _ us hl => match us, hl with | [_], _ => rfl⟩
  · obtain ⟨A, m, ws, ds, d, rfl, r, M, ⟨l, h, a, k, rt, F, e, F2, a0, a1, rfl, rfl⟩, _⟩ := h
    cases r
    rfl
  obtain ⟨A, m, ws, ds, d, rfl, r, M, ⟨l, h, a, k, rt, F, e, F2, a0, a1, rfl, rfl⟩, q⟩ := h
  cases r
  have b1 : ∃ t, PS (cxOf CX0 P w K mg base ["self", "at", "name", "low", "high"] "Machine.name_now" (defScope t_Machine_name_now) (He.fAd K d_Machine_name_now.at_) cdv Ar outer s H E).nox (match defBody t_Machine_name_now with | st :: _ => st | _ => default) t ∧ @GS (mJ K H A m) K E0 0 t (none :: (([] : List PyData).map some ++ List.replicate 4 none)) (.nx [none, some (.int a), none, none, none]) := by
    letI J : SJ := mJ K H A m
    exact (sd_set 1 sc_Machine_name_now.nd (ed_ixT (ed_call (pf_fields_of T) (hr.mono (by decide)) (ad_cons (ed_fld (cl_Machine T) (no_Machine_own_row T) (fun _ M => mat_row M)) ad_nil) (show R_fields_of [m.row.d] (.tuple [.int l, .int h, .int a, .str rt.s, .int k]) by rw [e]; exact mk_fields F)) ed_int) : SD (cxOf CX0 P w K mg base ["self", "at", "name", "low", "high"] "Machine.name_now" (defScope t_Machine_name_now) (He.fAd K d_Machine_name_now.at_) cdv Ar outer s H E).nox E0 0 (match defBody t_Machine_name_now with | st :: _ => st | _ => default) _ _).ex
  have b2 : ∃ t, PSs (cxOf CX0 P w K mg base ["self", "at", "name", "low", "high"] "Machine.name_now" (defScope t_Machine_name_now) (He.fAd K d_Machine_name_now.at_) cdv Ar outer s H E).nox (match defBody t_Machine_name_now with | [_, .For _ _ b _ _, _] => b | _ => default) t ∧ @GS (nJ K A m) K E0 0 t [none, some (.int a), some (.str "a"), none, none] (.rt (.str "a")) := by
    letI J : SJ := nJ K A m
    exact (bd_cons (sd_asg (ed_slT (ed_call (pf_fields_of T) (hr.mono (by decide)) (ad_cons (ed_ixT (ed_words T (hu_of hr) (ed_var 2)) ed_int) ad_nil) (mk_fields F2)) od_none (od_int ed_int)) (gd_tup rfl (gds_cons (gd_name 3 sc_Machine_name_now.nd) (gds_cons (gd_name 4 sc_Machine_name_now.nd) gds_nil)))) (bd_ifx (p := true) (td_is (td_ch2et (ed_var 3) (ed_var 1) (ed_var 4)) (by rw [decide_eq_true a0, decide_eq_true a1]; rfl)) (fun _ h => nomatch h) (fun _ => bd_one (sd_ret (ed_var 2) (rfl))) (fun h => nomatch h)) : BD (cxOf CX0 P w K mg base ["self", "at", "name", "low", "high"] "Machine.name_now" (defScope t_Machine_name_now) (He.fAd K d_Machine_name_now.at_) cdv Ar outer s H E).nox E0 0 (match defBody t_Machine_name_now with | [_, .For _ _ b _ _, _] => b | _ => default) _ (.rt (.str "a"))).ex
  obtain ⟨t1, p1, g1⟩ := b1
  obtain ⟨t2, p2, g2⟩ := b2
  refine ⟨_, (pss_cons p1 (pss_cons (ps_lock (ps_for PassesOwn.never rfl (pi_keys (pe_fld (pv 0) rfl)) (pg_name (i := 2) sc_Machine_name_now.nd rfl (.inl rfl)) p2)) pss_never)).nox, ?_⟩
  refine g1 _ _ H (sl_startM M .nil 4 rfl) fun σ1 H1 e1 s1 => ?_
  obtain ⟨h0, M1, _⟩ := s1.1.1
  obtain ⟨wv, w1, w2, w3⟩ := M1.wds
  obtain ⟨sb, vr, ho, n, vo, i1, i2, i3⟩ := M1.ins
  have hne : A.a ≠ A.wd := fun z => w2 (z ▸ (by simp [Ad.S]))
  refine ⟨A.wd, .dK [(.inr "a", wv)], w1, trivial, fun od => ?_⟩
  have mv : ∀ {d : PyData} {v : V}, tupOnly d = true → Dp K H1 v d → Dp K (upd H1 A.wd (.frz od (.dK [(.inr "a", wv)]))) v d := fun ht r => dp_mut w1 (fun _ z => nomatch z) (fun _ _ z => nomatch z) ht r
  have iL : upd H1 A.wd (.frz od (.dK [(.inr "a", wv)])) A.a = some (.ins (cM K) A.dx (mkFs A sb vr ho n vo)) := by rw [upd_ne hne]; exact i1
  refine ⟨_, h0, A.a, cM K, A.dx, _, .ref A.wd, rfl, iL, cl_Machine T, no_Machine_words T, rfl, A.wd, od, rfl, .inl ⟨_, upd_same, ?_⟩⟩
  refine ⟨fun i m' σ' H' => i = 0 ∧ σ' = σ1 ∧ H' = upd H1 A.wd (.frz od (.dK [(.inr "a", wv)])), ⟨0, rfl, rfl, rfl⟩, ?_⟩
  rintro i m' σ' H' ⟨rfl, rfl, rfl⟩
  refine .inr ⟨⟨upd_same, Nat.zero_lt_succ _⟩, fun _ _ => False, fun _ _ z => z.elim, fun x H2 hy => ?_⟩
  obtain ⟨rfl, kk, vv, hk, rfl⟩ := hy
  have hk' : kk = Sum.inr ("a" : Str) := by
    have h1 : some ((Sum.inr ("a" : Str) : Key), wv) = some (kk, vv) := hk
    injection h1 with h1
    injection h1 with h1 _
    exact h1.symm
  subst hk'
  have hs2 : @Sl (nJ K A m) K (upd H1 A.wd (.frz od (.dK [(.inr "a", wv)]))) (σ'.set 2 (some (V.str "a"))) [none, some (.int a), some (.str "a"), none, none] := by
    refine ⟨⟨⟨by rw [List.getElem?_set_ne (by decide)]; exact h0, ⟨sb, vr, ho, n, vo, iL, mv (wd_tup _) i2⟩, wv, .inr ⟨od, upd_same⟩, mv rfl w3⟩, by rw [List.length_set]; exact s1.1.2⟩, fun j d hd => ?_⟩
    match j, hd with
    | 0, hd => cases hd
    | 1, hd =>
      cases hd
      obtain ⟨v1, q1, q2⟩ := s1.2 1 (.int a) rfl
      exact ⟨v1, by rw [List.getElem?_set_ne (by decide)]; exact q1, by rw [dp_int q2]; exact .int _⟩
    | 2, hd =>
      cases hd
      exact ⟨_, by rw [List.getElem?_set_self (by rw [s1.1.2]; exact Nat.lt_of_succ_le (Nat.le_of_ble_eq_true rfl))], .str _⟩
    | 3, hd => cases hd
    | 4, hd => cases hd
    | j + 5, hd => cases hd
  refine g2 _ _ _ hs2 fun v H' e' r' => ⟨e' _ _ upd_same, q v _ (e1.trans ?_) (by rw [dp_str r']; exact .str _)⟩
  intro b o hb
  by_cases eb : b = A.wd
  · rw [eb, upd_same]
    rw [eb, w1] at hb
    exact hb
  · rw [upd_ne eb]
    exact e' b o (by rw [upd_ne eb]; exact hb)
end
end Sr

set_option Elab.async false
set_option linter.all false
set_option maxRecDepth 100000
set_option maxHeartbeats 4000000
/-! self.touched.append(..). -/
namespace Sr
open PySem PySem.Spec PyProof.Rows L2
open Evl (Ex)
section
variable {X : Cx} {E : XK} {H0 : Hp} {A : Ad} {m : Ms} {Δ : Dl} {e : Expr} {p apos a2 pos pos2 : Pos} {x : Str} {d : PyData}
theorem md_append (T : Tx X.prog X.w X.K X.mg X.base) (he : @ED (mJ X.K H0 A m) X e Δ d) (hm : m.many < 1000) (hN : X.N[0]? = some x := by rfl) (hv : Vis X.env.scope x := by first | exact Or.inl rfl | exact Or.inr (Or.inl rfl) | exact Or.inr (Or.inr rfl))
    (hba : attributeBase (.Name x p) "touched" X.env (eval (.Name x p) X.env) = eval (.Name x p) X.env := by rfl) (hd : (x == ("__debug__" : Str)) = false := by decide) (hcd : (x == ("__classdict__" : Str)) = false := by decide)
    (hbase : attributeBase (.Attribute (.Name x p) "touched" apos) "append" X.env (eval (.Attribute (.Name x p) "touched" apos) X.env) = eval (.Attribute (.Name x p) "touched" apos) X.env := by rfl)
    (hfew : ((backTo pos (starEach (e :: []) X.env)).all (fun x => !x.1) && (backToKw pos (keywordEach [] X.env)).all (fun x => x.1.isSome)
      && decide ((e :: []).length + ([] : List Keyword).length + (if ([] : List Keyword).isEmpty then 0 else 1) < 30)) = true := by rfl)
    (hline : (a2.endLine == pos.line) = true := by rfl) (hs : starEach (e :: []) X.env = (false, eval e X.env) :: starEach [] X.env := by rfl) (hplain : (backTo pos (starEach [] X.env)).any (·.1) = false := by rfl)
    (hsw : swapsWith (.Call (.Attribute (.Attribute (.Name x p) "touched" apos) "append" a2) [e] [] pos) none pos2.line X.env = pure false := by rfl) :
    MD X E H0 A (.Expr (.Call (.Attribute (.Attribute (.Name x p) "touched" apos) "append" a2) [e] [] pos) pos2) m Δ (.nx { m with many := m.many + 1 } (keepD Δ)) := by
  letI : SJ := mJ X.K H0 A m
  obtain ⟨_, pe, ge⟩ := he.ex
  refine ⟨_, ps_expr (pe_bm PySem.F.plainAttrs_list PySem.F.slot_list_append PySem.F.type_list_append mt_append (pe_fld (pv 0 hN hv hd hcd) hba) (pa_cons pe pa_nil hs) hbase hfew hline hs hplain) hsw, fun D σ H s q => ?_⟩
  obtain ⟨h0, M, e0⟩ := s.1.1
  obtain ⟨sb, vr, ho, n, vo, i1, i2, i3⟩ := M.ins
  obtain ⟨ts, t1, t2, t3⟩ := M.tcs
  refine ⟨_, h0, A.a, cM X.K, A.dx, _, .ref A.tc, rfl, i1, cl_Machine T, no_Machine_touched T, rfl, .inl ⟨rfl, _, SqL.of t1⟩, ge σ H s _ fun v H1 e1 r1 => ?_⟩
  refine ⟨A.tc, ts, v, rfl, rfl, e1 _ _ t1, ?_, ?_⟩
  · rw [t2, sizeLine_eq]
    omega
  · exact q σ _ ((s.ex e1).chg (by simp [Ad.S]) ((M.ex e1).touch (e1 _ _ t1) v hm))
end
end Sr

set_option Elab.async false
set_option linter.all false
set_option maxRecDepth 100000
set_option maxHeartbeats 4000000
/-! A list taken apart; touch. -/
namespace Sr
open PySem PySem.Spec PyProof.Rows L2
open Evl (Ex)
section
variable {X : Cx} {Δ Δ1 : Dl} {tgs : List Expr} {ds : List PyData} {pos : Pos}
theorem gd_unl [SJ] {k : Nat} {n : Nat} (hc : X.calm = true) (h : GDs X tgs Δ ds Δ1) (hl : ds.length = n := by rfl) (hn : (assignEach tgs X.env).length = n := by rfl) (hst : (assignEach tgs X.env).findIdx? (·.1) = none := by rfl) : GD X (.Tuple tgs k pos) Δ (.list ds) Δ1 :=
  let ⟨_, p, g⟩ := h.ex
  ⟨_, pg_unl hc p hn hst, fun σ H v s r Q q => by
    obtain ⟨a, xs, e, hs, rs⟩ := dp_lst r
    exact ⟨a, xs, e, hs, (dpa_len rs).trans hl, g σ H xs s rs Q q⟩⟩
end
theorem accR_int {v : Wv} {o : Int} {y : Str} {d : PyData} (h : accR v o y = .rt d) : ∃ a, d = .int a := by
  cases v with
  | pl b => exact Rs.noConfusion (show Rs.ex "mark" = Rs.rt d from h)
  | mk l h' a k r =>
    have h1 : (if k ≠ 0 then Rs.ex "seal" else if inS y r.s = false then .ex "right" else if (decide (l ≤ a + o) && decide (a + o < h')) = false then .ex "bounds" else .rt (.int (a + o))) = .rt d := h
    repeat' split at h1
    all_goals first | (injection h1 with h1; exact ⟨_, h1.symm⟩) | (injection h1)
/-! a block that ends behind its last statement -/
structure MZ (X : Cx) (E : XK) (H0 : Hp) (A : Ad) (sts : List Stmt) (m : Ms) (Δ : Dl) (m' : Ms) : Prop where
  ex : ∃ Δ', MB X E H0 A sts m Δ (.nx m' Δ')
section
variable {X : Cx} {E : XK} {H0 : Hp} {A : Ad} {m m1 m2 : Ms} {Δ Δ1 : Dl} {st : Stmt} {sts Aa : List Stmt} {c : Expr} {pos : Pos}
theorem mz_cons (h : MD X E H0 A st m Δ (.nx m1 Δ1)) (hr : MZ X E H0 A sts m1 Δ1 m2) : MZ X E H0 A (st :: sts) m Δ m2 :=
  let ⟨Δ', h'⟩ := hr.ex
  ⟨Δ', mb_cons h h'⟩
theorem mz_one (h : MD X E H0 A st m Δ (.nx m1 Δ1)) : MZ X E H0 A [st] m Δ m1 := ⟨Δ1, mb_one h⟩
theorem md_retNone : MD X E H0 A (.Return none pos) m Δ (.rt m .none) := ⟨_, ps_retN, fun D σ H s q => q .non H s.1.1.2.1 s.1.1.2.2 .non⟩
theorem mz_nil : MZ X E H0 A [] m Δ m := ⟨Δ, mb_nil⟩
theorem mz_iff (hc : @TD (mJ X.K H0 A m) X c Δ false) (h2 : MZ X E H0 A sts m Δ m1) : MZ X E H0 A (.If c Aa [] pos :: sts) m Δ m1 :=
  let ⟨Δ', h'⟩ := h2.ex
  ⟨Δ', mb_iff hc h'⟩
theorem body_nx (h : MZ X E H0 A sts m Δ m1) : ∃ r', MB X E H0 A sts m Δ r' ∧ (r' = .rt m1 .none ∧ (∀ m' Δ', Mr.rt m1 .none ≠ .nx m' Δ') ∨ ∃ m' Δ', r' = .nx m' Δ' ∧ Mr.rt m1 .none = .rt m' .none) :=
  let ⟨Δ', h'⟩ := h.ex
  ⟨_, h', .inr ⟨_, Δ', rfl, rfl⟩⟩
end
/-- what a touch comes to -/
def touR (m : Ms) : Rw → Mr
  | .load b c o => match accR (bxv m c) o "r" with
    | .rt (.int a) => .rt { m with boxes := m.boxes.set b.toNat (cellW m.cells a), many := m.many + 1 } .none
    | .ex y => .ex m y
    | _ => .ex m ""
  | .poke c o b => match accR (bxv m c) o "w" with
    | .rt (.int a) => .rt { m with cells := setC m.cells a (pokeW m.cells a (bxv m b).b), many := m.many + 1 } .none
    | .ex y => .ex m y
    | _ => .ex m ""
  | .store c o b => match accR (bxv m c) o "w" with
    | .ex y => .ex m y
    | _ => .ex m ""
  | _ => .ex m ""
/-- where a compartment's name is found -/
def NameOk (m : Ms) : Prop := ∃ (l h a k : Int) (r : Rt), Fl l h a r.m k ∧ m.row = .mk l h a k r ∧ Fl 0 m.size 0 Rt.fx.m 0 ∧ 0 ≤ a ∧ a < m.size
/-- what a touch wants where it comes through -/
def TouOk (m : Ms) : Rw → Prop
  | .load _ c o => ∀ a, accR (bxv m c) o "r" = .rt (.int a) → NameOk m ∧ m.many < 1000 ∧ 0 ≤ a ∧ a < 4096 ∧ (∃ l h a' k, Fl l h a' Rt.cell.m k ∧ bxv m c = .mk l h a' k .cell) ∧ ∃ b, cellW m.cells a = .pl b
  | .poke c o _ => ∀ a, accR (bxv m c) o "w" = .rt (.int a) → NameOk m ∧ m.many < 1000 ∧ 0 ≤ a ∧ a < 4096 ∧ m.cells.length < 100
  | .store c o _ => ∃ y, accR (bxv m c) o "w" = .ex y
  | _ => False
section
variable {P : Program} {w : World} {K : PySem.W.Frag} {mg : Str → Option Value} {base : Heap}
def R_touch : Ms → List PyData → Mr → Prop := fun m ds r => ∃ row : Rw, row.ok ∧ m.allOk ∧ TouOk m row ∧ ds = [.str row.x, .list row.args] ∧ r = touR m row
theorem sc_Machine_touch : FnScope ["self", "word", "rest", "box", "other", "offset", "by", "address", "found"] ["self", "word", "rest"] (defScope t_Machine_touch) := ⟨rfl, rfl, rfl, by decide +kernel, rfl, by decide +kernel, by decide +kernel⟩
theorem pn_touch (T : Tx P w K mg base) : PN P w K mg base 7 "touch" R_touch := by
  refine pn_of (N := ["self", "word", "rest", "box", "other", "offset", "by", "address", "found"]) (ps := ["self", "word", "rest"]) (n := 6) (k := 6) (fd_Machine_touch T) sc_Machine_touch (me_Machine_touch T) rfl (fun m ds r h => by obtain ⟨row, hk, ha, ht, rfl, rfl⟩ := h; rfl) (fun _ _ _ _ _ _ us hl => match us, hl with | [_, _, _], _ => rfl) ?_
  intro f cdv Ar outer s H E hr A m ds r M h
  obtain ⟨row, hk, ha, ht, rfl, rfl⟩ := h
  letI J : SJ := mJ K H A m
  cases row with
  | poke c o b =>
    obtain ⟨hc, ho, hb⟩ := hk
    cases q : accR (bxv m c) o "w" with
    | nx d => exact absurd q (accR_nx _ _ _ _)
    | ex y =>
      have e : touR m (.poke c o b) = .ex m y := by simp only [touR, q]
      rw [e]
      refine ⟨.ex m y, mb_iff (td_is (td_eqS (ed_var 1) ed_str) rfl) (mb_cons (md_of (r := .nx _) (sd_asg (ed_var 2) (gd_unl rfl (gds_cons (gd_name 4 sc_Machine_touch.nd) (gds_cons (gd_name 5 sc_Machine_touch.nd) (gds_cons (gd_name 3 sc_Machine_touch.nd) gds_nil)))))) (mb_cons (md_of (r := .nx _) (sd_set 6 sc_Machine_touch.nd (ed_ixL (ed_fld (cl_Machine T) (no_Machine_own_boxes T) (fun _ M => mat_boxes M)) (ed_var 4) (boxAt M.sz hc)))) (mb_end (md_of (r := .ex y) (sd_setX (r := .ex y) 7 sc_Machine_touch.nd (ex_call (px_address_so T) (hr.mono (by decide)) passR (ad_cons (ed_var 6) (ad_cons (ed_var 5) (ad_cons ed_str (ad_cons (ed_fld (cl_Machine T) (no_Machine_rule T) (fun _ M => mat_rule M)) ad_nil)))) ⟨_, o, "w", bxv_ok ha c, ho.1, ho.2, rfl, q.symm⟩) (fun _ h => nomatch h))) (fun _ _ h => nomatch h)))), .inl ⟨rfl, fun _ _ h => nomatch h⟩⟩
    | rt d =>
      obtain ⟨a, rfl⟩ := accR_int q
      obtain ⟨⟨l, h, a', k, r, F, er, F2, a0', a1'⟩, hm, a0, a1, few⟩ := ht a q
      have e : touR m (.poke c o b) = .rt { m with cells := setC m.cells a (pokeW m.cells a (bxv m b).b), many := m.many + 1 } .none := by simp only [touR, q]
      rw [e]
      exact body_nx (mz_iff (td_is (td_eqS (ed_var 1) ed_str) rfl) (mz_cons (md_of (r := .nx _) (sd_asg (ed_var 2) (gd_unl rfl (gds_cons (gd_name 4 sc_Machine_touch.nd) (gds_cons (gd_name 5 sc_Machine_touch.nd) (gds_cons (gd_name 3 sc_Machine_touch.nd) gds_nil)))))) (mz_cons (md_of (r := .nx _) (sd_set 6 sc_Machine_touch.nd (ed_ixL (ed_fld (cl_Machine T) (no_Machine_own_boxes T) (fun _ M => mat_boxes M)) (ed_var 4) (boxAt M.sz hc))))
        (mz_cons (md_of (r := .nx _) (sd_setX (r := .rt (.int a)) 7 sc_Machine_touch.nd (ex_call (px_address_so T) (hr.mono (by decide)) passR (ad_cons (ed_var 6) (ad_cons (ed_var 5) (ad_cons ed_str (ad_cons (ed_fld (cl_Machine T) (no_Machine_rule T) (fun _ M => mat_rule M)) ad_nil)))) ⟨_, o, "w", bxv_ok ha c, ho.1, ho.2, rfl, q.symm⟩) (fun _ h => nomatch h)))
        (mz_cons (md_if (p := false) (td_is (td_eqS (ed_var 1) ed_str) rfl) (fun z => Bool.noConfusion z) fun _ => mb_one (md_exprN (en_meth (r := .rt { m with cells := setC m.cells a (pokeW m.cells a (bxv m b).b) } .none) (cl_Machine T) (pn_poke T) (hr.mono (by decide)) passR (ad_cons (ed_var 7) (ad_cons (ed_ixT (ed_ixL (ed_fld (cl_Machine T) (no_Machine_own_boxes T) (fun _ M => mat_boxes M)) (ed_var 3) (boxAt M.sz hb)) ed_int) ad_nil)) ⟨a, _, rfl, a0, a1, few, rfl⟩) (fun _ _ h => nomatch h)))
        (by
          letI J2 : SJ := mJ K H A { m with cells := setC m.cells a (pokeW m.cells a (bxv m b).b) }
          exact mz_one (md_append T (ed_tup (ad_cons (ed_methM0 (cl_Machine T) (pm_name_now T) (hr.mono (by decide)) (⟨l, h, a', k, r, F, er, F2, a0', a1', rfl, rfl⟩)) (ad_cons ed_str (ad_cons (ed_var 7) ad_nil)))) hm)))))))
  | store c o b =>
    obtain ⟨hc, ho, hb⟩ := hk
    obtain ⟨y, q⟩ := ht
    have e : touR m (.store c o b) = .ex m y := by simp only [touR, q]
    rw [e]
    exact ⟨.ex m y, mb_iff (td_is (td_eqS (ed_var 1) ed_str) rfl) (mb_cons (md_of (r := .nx _) (sd_asg (ed_var 2) (gd_unl rfl (gds_cons (gd_name 4 sc_Machine_touch.nd) (gds_cons (gd_name 5 sc_Machine_touch.nd) (gds_cons (gd_name 3 sc_Machine_touch.nd) gds_nil)))))) (mb_cons (md_of (r := .nx _) (sd_set 6 sc_Machine_touch.nd (ed_ixL (ed_fld (cl_Machine T) (no_Machine_own_boxes T) (fun _ M => mat_boxes M)) (ed_var 4) (boxAt M.sz hc)))) (mb_end (md_of (r := .ex y) (sd_setX (r := .ex y) 7 sc_Machine_touch.nd (ex_call (px_address_so T) (hr.mono (by decide)) passR (ad_cons (ed_var 6) (ad_cons (ed_var 5) (ad_cons ed_str (ad_cons (ed_fld (cl_Machine T) (no_Machine_rule T) (fun _ M => mat_rule M)) ad_nil)))) ⟨_, o, "w", bxv_ok ha c, ho.1, ho.2, rfl, q.symm⟩) (fun _ h => nomatch h))) (fun _ _ h => nomatch h)))), .inl ⟨rfl, fun _ _ h => nomatch h⟩⟩
  | load b c o =>
    obtain ⟨hb, hc, ho⟩ := hk
    cases q : accR (bxv m c) o "r" with
    | nx d => exact absurd q (accR_nx _ _ _ _)
    | ex y =>
      have e : touR m (.load b c o) = .ex m y := by simp only [touR, q]
      rw [e]
      exact ⟨.ex m y, mb_ift (td_is (td_eqS (ed_var 1) ed_str) rfl) (mb_cons (md_of (r := .nx _) (sd_asg (ed_var 2) (gd_unl rfl (gds_cons (gd_name 3 sc_Machine_touch.nd) (gds_cons (gd_name 4 sc_Machine_touch.nd) (gds_cons (gd_name 5 sc_Machine_touch.nd) gds_nil)))))) (mb_cons (md_of (r := .nx _) (sd_set 6 sc_Machine_touch.nd (ed_ixL (ed_fld (cl_Machine T) (no_Machine_own_boxes T) (fun _ M => mat_boxes M)) (ed_var 4) (boxAt M.sz hc)))) (mb_end (md_of (r := .ex y) (sd_setX (r := .ex y) 7 sc_Machine_touch.nd (ex_call (px_address_so T) (hr.mono (by decide)) passR (ad_cons (ed_var 6) (ad_cons (ed_var 5) (ad_cons ed_str (ad_cons (ed_fld (cl_Machine T) (no_Machine_rule T) (fun _ M => mat_rule M)) ad_nil)))) ⟨_, o, "r", bxv_ok ha c, ho.1, ho.2, rfl, q.symm⟩) (fun _ h => nomatch h))) (fun _ _ h => nomatch h)))) (fun _ _ h => nomatch h), .inl ⟨rfl, fun _ _ h => nomatch h⟩⟩
    | rt d =>
      obtain ⟨a, rfl⟩ := accR_int q
      obtain ⟨⟨l, h, a', k, r, F, er, F2, a0', a1'⟩, hm, a0, a1, ⟨l2, h2, a2, k2, F3, e3⟩, b4, e4⟩ := ht a q
      have e : touR m (.load b c o) = .rt { m with boxes := m.boxes.set b.toNat (cellW m.cells a), many := m.many + 1 } .none := by simp only [touR, q]
      rw [e]
      refine ⟨.rt { m with boxes := m.boxes.set b.toNat (cellW m.cells a), many := m.many + 1 } .none, mb_ift (td_is (td_eqS (ed_var 1) ed_str) rfl) (mb_cons (md_of (r := .nx _) (sd_asg (ed_var 2) (gd_unl rfl (gds_cons (gd_name 3 sc_Machine_touch.nd) (gds_cons (gd_name 4 sc_Machine_touch.nd) (gds_cons (gd_name 5 sc_Machine_touch.nd) gds_nil)))))) (mb_cons (md_of (r := .nx _) (sd_set 6 sc_Machine_touch.nd (ed_ixL (ed_fld (cl_Machine T) (no_Machine_own_boxes T) (fun _ M => mat_boxes M)) (ed_var 4) (boxAt M.sz hc))))
        (mb_cons (md_of (r := .nx _) (sd_setX (r := .rt (.int a)) 7 sc_Machine_touch.nd (ex_call (px_address_so T) (hr.mono (by decide)) passR (ad_cons (ed_var 6) (ad_cons (ed_var 5) (ad_cons ed_str (ad_cons (ed_fld (cl_Machine T) (no_Machine_rule T) (fun _ M => mat_rule M)) ad_nil)))) ⟨_, o, "r", bxv_ok ha c, ho.1, ho.2, rfl, q.symm⟩) (fun _ h => nomatch h)))
        (mb_cons (md_of (r := .nx _) (sd_set 8 sc_Machine_touch.nd (ed_cellM T (hr.mono (by decide)) (ed_var 7) a0 a1)))
        (mb_cons (md_box T (ed_if (p := true) (td_val (ed_methM (cl_Machine T) (pm_is_loaded T) (hr.mono (by decide)) (ad_cons (ed_var 6) (ad_cons (ed_var 8) ad_nil)) ⟨l2, h2, a2, k2, b4, F3, by rw [e3, e4], rfl⟩)) (fun _ => ed_var 8) (fun h => Bool.noConfusion h)) (ed_var 3) hb)
        (by
          letI J2 : SJ := mJ K H A { m with boxes := m.boxes.set b.toNat (cellW m.cells a) }
          exact mb_cons (md_append T (ed_tup (ad_cons (ed_methM0 (cl_Machine T) (pm_name_now T) (hr.mono (by decide)) (⟨l, h, a', k, r, F, er, F2, a0', a1', rfl, rfl⟩)) (ad_cons ed_str (ad_cons (ed_var 7) ad_nil)))) hm) (mb_one md_retNone))))))) (fun _ _ h => nomatch h), .inl ⟨rfl, fun _ _ h => nomatch h⟩⟩
  | _ => exact ht.elim
end
end Sr

set_option Elab.async false
set_option linter.all false
set_option maxRecDepth 100000
set_option maxHeartbeats 4000000
/-! In an except suite: defs called there. -/
namespace Sr
open PySem PySem.Spec PyProof.Rows L2
open Evl (Ex)
open L2H (FnH RoomH Hot1 HotC cxH PinOk)
theorem funD_okH {P : Program} {w : World} {K : PySem.W.Frag} {mg : Str → Option Value} {base : Heap} {CX : CXT} {x qual : Str} {params : Arguments} {body : List Stmt} {scope : Scope} {dvs : List V} {kws : List (Str × V)} {f : Addr} {fd : FuncData} {N ps : List Str} {k : Nat} {sp : Sp} (F : FunD K x qual params body scope dvs kws f fd) (S : FnScope N ps scope) (len : ∀ vs H Q E, sp vs H Q E → vs.length = ps.length)
    (hbody : ∀ (cdv : Value) (A : Around) (outer : List Env) (s : Shared) (H : Hp) (vs : List V) (Q : VK) (E : XK) (p : Addr × Obj), HotC (cxH CX P w K mg base N qual scope f cdv A outer s H E p) → RoomH k (cxH CX P w K mg base N qual scope f cdv A outer s H E p).A → sp vs H Q E →
      ∃ t, PSs (cxH CX P w K mg base N qual scope f cdv A outer s H E p) body t ∧ t { nx := fun _ H' => Q .non H', rt := Q } (L2.start N vs) H) : FnH P w K mg base CX (k + 1) f fd ps sp := by
  obtain ⟨oc, od, dV, kV, doc, pm, an, cdv, ct, osl, rfl, lk, hcd, _, _⟩ := F.ex
  exact L2H.fn_ofH lk hcd S len fun A outer s H vs Q E p hot hr hsp => hbody cdv A outer s H vs Q E p ⟨p, hot, List.mem_singleton.mpr rfl⟩ hr hsp
theorem keepD_keepD (Δ : Dl) : keepD (keepD Δ) = keepD Δ := by
  unfold keepD
  rw [List.map_map]
  refine List.map_congr_left fun o _ => ?_
  cases o with
  | none => rfl
  | some d =>
    show ((if tupOnly d = true then some d else none).bind _) = (if tupOnly d = true then some d else none)
    split
    · rename_i h
      show (if tupOnly d = true then some d else none) = some d
      rw [if_pos h]
    · rfl
structure PFH (P : Program) (w : World) (K : PySem.W.Frag) (mg : Str → Option Value) (base : Heap) (k : Nat) (x : Str) (R : List PyData → PyData → Prop) : Prop where
  ex : ∃ (f : Addr) (fd : FuncData) (ps : List Str), FnH P w K mg base CX0 k f fd ps (spD K R) ∧ mg x = some (.ref f) ∧ PySem.W.keepIn K (.ref f) = true ∧ Binds K fd ps []
structure PNH (P : Program) (w : World) (K : PySem.W.Frag) (mg : Str → Option Value) (base : Heap) (k : Nat) (x : Str) (R : Ms → List PyData → Mr → Prop) : Prop where
  ex : ∃ (f : Addr) (fd : FuncData) (ps : List Str), FnH P w K mg base CX0 k f fd ps (spN K R) ∧ Meth K (cM K) x f ∧ Binds K fd ps []
section
variable {P : Program} {w : World} {K : PySem.W.Frag} {mg : Str → Option Value} {base : Heap}
theorem pfh_of {x qual : Str} {st : Stmt} {f : Addr} {N ps : List Str} {n k : Nat} {R : List PyData → PyData → Prop} (F : ∃ fd, FunD K x qual (defArgs st) (defBody st) (defScope st) [] [] f fd)
    (S : FnScope N ps (defScope st)) (hm : mg x = some (.ref f)) (hn : N.length - ps.length = n) (len : ∀ ds d, R ds d → ds.length = ps.length)
    (h : ∀ (kV doc pm : Value) (an : Option Addr) (cdv ct : Value) (us : List Value), us.length = ps.length → bindArgs (PySem.W.fnOf x qual (defArgs st) (defBody st) (defScope st) .none kV doc pm an cdv ct) ⟨us, []⟩ = pure (ps.zip us))
    (hb : ∀ (cdv : Value) (A : Around) (outer : List Env) (s : Shared) (H : Hp) (E : XK) (p : Addr × Obj), HotC (cxH CX0 P w K mg base N qual (defScope st) f cdv A outer s H E p) → RoomH k (cxH CX0 P w K mg base N qual (defScope st) f cdv A outer s H E p).A → ∀ ds d, R ds d →
      BD (cxH CX0 P w K mg base N qual (defScope st) f cdv A outer s H E p) E0 0 (defBody st) (ds.map some ++ List.replicate n none) (.rt d)) : PFH P w K mg base (k + 1) x R := by
  obtain ⟨fd, F⟩ := F
  refine ⟨f, fd, ps, funD_okH F S (fun vs H Q E h => ?_) (fun cdv A outer s H vs Q E p hot hr h => ?_), hm, F.kp, F.bindsN h⟩
  · obtain ⟨ds, d, r, hR, _⟩ := h
    rw [dpa_len r]
    exact len _ _ hR
  · obtain ⟨ds, d, r, hR, q⟩ := h
    obtain ⟨t, pp, g⟩ := (hb cdv A outer s H E p hot hr ds d hR).ex
    have hs : Sl K H (L2.start N vs) (ds.map some ++ List.replicate n none) := sl_start trivial r n (by rw [dpa_len r, len _ _ hR]; exact hn)
    exact ⟨t, pp, g _ _ H hs fun v H' e' r' => q v H' e' r'⟩
theorem pnh_of {x qual : Str} {st : Stmt} {f : Addr} {N ps : List Str} {n k : Nat} {R : Ms → List PyData → Mr → Prop} (F : ∃ fd, FunD K x qual (defArgs st) (defBody st) (defScope st) [] [] f fd)
    (S : FnScope N ps (defScope st)) (hm : Meth K (cM K) x f) (hn : N.length - ps.length = n) (len : ∀ m ds r, R m ds r → ds.length + 1 = ps.length)
    (h : ∀ (kV doc pm : Value) (an : Option Addr) (cdv ct : Value) (us : List Value), us.length = ps.length → bindArgs (PySem.W.fnOf x qual (defArgs st) (defBody st) (defScope st) .none kV doc pm an cdv ct) ⟨us, []⟩ = pure (ps.zip us))
    (hb : ∀ (cdv : Value) (Ar : Around) (outer : List Env) (s : Shared) (H : Hp) (E : XK) (p : Addr × Obj), HotC (cxH CX0 P w K mg base N qual (defScope st) f cdv Ar outer s H E p) → RoomH k (cxH CX0 P w K mg base N qual (defScope st) f cdv Ar outer s H E p).A → ∀ (A : Ad) (m : Ms) ds r, MAt K H A m → R m ds r →
      ∃ r', MB (cxH CX0 P w K mg base N qual (defScope st) f cdv Ar outer s H E p) E H A (defBody st) m (none :: (ds.map some ++ List.replicate n none)) r' ∧ (r' = r ∧ (∀ m' Δ', r ≠ .nx m' Δ') ∨ ∃ m' Δ', r' = .nx m' Δ' ∧ r = .rt m' .none)) : PNH P w K mg base (k + 1) x R := by
  obtain ⟨fd, F⟩ := F
  refine ⟨f, fd, ps, funD_okH F S (fun vs H Q E h => ?_) (fun cdv Ar outer s H vs Q E p hot hr h => ?_), hm, F.bindsN h⟩
  · obtain ⟨A, m, ws, ds, r, rfl, dp, M, hR, _⟩ := h
    rw [List.length_cons, dpa_len dp]
    exact len _ _ _ hR
  · obtain ⟨A, m, ws, ds, r, rfl, dp, M, hR, q⟩ := h
    obtain ⟨r', ⟨t, pp, g⟩, z⟩ := hb cdv Ar outer s H E p hot hr A m ds r M hR
    have hs : @Sl (mJ K H A m) K H (L2.start N (.ref A.a :: ws)) (none :: (ds.map some ++ List.replicate n none)) := sl_startM M dp n (by rw [dpa_len dp, len _ _ _ hR]; exact hn)
    refine ⟨t, pp, g _ _ H hs ?_⟩
    rcases z with ⟨z, hn⟩ | ⟨m', Δ', z, e⟩
    · subst z
      cases r' with
      | nx m' Δ' => exact absurd rfl (hn m' Δ')
      | rt m' d => exact q
      | ex m' y => exact q
    · subst z e
      exact fun σ' H' s' => q .non H' s'.1.1.2.1 s'.1.1.2.2 .non
end
section
variable {X : Cx} {Δ : Dl} {e : Expr} {es : List Expr} {ds : List PyData} {d : PyData} {pos : Pos}
theorem ed_callH [SJ] {x : Str} {p : Pos} {k : Nat} {R : List PyData → PyData → Prop} (pf : PFH X.prog X.w X.K X.mg X.base k x R) (hr : RoomH k X.A) (hc : HotC X) (ha : AD X (e :: es) Δ ds) (h : R ds d) (hg : Gl X x := by rfl)
    (hdb : (x == ("__debug__" : Str)) = false := by decide) (he : starEach (e :: es) X.env = (false, eval e X.env) :: starEach es X.env := by rfl) (hpl : (backTo pos (starEach es X.env)).any (·.1) = false := by rfl) : ED X (.Call (.Name x p) (e :: es) [] pos) Δ d :=
  let ⟨_, _, _, F, hm, hk, hb⟩ := pf.ex
  let ⟨_, pa, ga⟩ := ha.ex
  ⟨_, L2H.pe_callH (E := fun _ => E0) F hr hc hg hm hk hb (fun _ _ _ _ _ _ _ h => h.elim) pa hdb he hpl, fun σ H s Q q => ga σ H s _ fun vs H1 e1 r1 => ⟨ds, d, r1, h, fun v H2 e2 r2 => q v H2 (e1.trans e2) r2⟩⟩
end
section
variable {X : Cx} {E : XK} {H0 : Hp} {A : Ad} {m : Ms} {Δ : Dl} {e e1 : Expr} {es : List Expr} {p apos pos : Pos} {x nm : Str} {r : Mr} {ds : List PyData} {k : Nat} {R : Ms → List PyData → Mr → Prop}
theorem en_methH (cl : Cls X.K (cM X.K)) (pn : PNH X.prog X.w X.K X.mg X.base k nm R) (hr : RoomH k X.A) (hc : HotC X) (ha : @AD (mJ X.K H0 A m) X (e1 :: es) Δ ds) (h : R m ds r) (hno : ∀ sb vr ho n vo, (mkFs A sb vr ho n vo).lookup nm = none := by intro _ _ _ _ _; rfl)
    (hN : X.N[0]? = some x := by rfl) (hv : Vis X.env.scope x := by first | exact Or.inl rfl | exact Or.inr (Or.inl rfl) | exact Or.inr (Or.inr rfl)) (hd : (x == ("__debug__" : Str)) = false := by decide) (hcd : (x == ("__classdict__" : Str)) = false := by decide)
    (hst : starEach (e1 :: es) X.env = (false, eval e1 X.env) :: starEach es X.env := by rfl) (hpl : (backTo pos (starEach es X.env)).any (·.1) = false := by rfl)
    {pl : Sem Bool} (ht : eval (.Call (.Attribute (.Name x p) nm apos) (e1 :: es) [] pos) X.env = (do
      let ov ← eval (.Name x p) X.env
      standAt apos.atName
      let (f, first) ← holding [ov] (getMethod ov nm pl)
      callWith pos f first (backTo pos (starEach (e1 :: es) X.env)) (backToKw pos (keywordEach [] X.env))) := by rfl) : EN X E H0 A (.Call (.Attribute (.Name x p) nm apos) (e1 :: es) [] pos) m Δ r :=
  letI : SJ := mJ X.K H0 A m
  let ⟨_, _, _, F, hm, hb⟩ := pn.ex
  let ⟨_, pa, ga⟩ := ha.ex
  ⟨_, L2H.pe_methH (E := fun _ => E) (pv 0 hN hv hd hcd) cl hm F hr hc hb (fun _ _ _ _ _ _ _ h => h.elim) pa hst hpl ht, fun σ H s Q q => by
    obtain ⟨h0, M, e0⟩ := s.1.1
    obtain ⟨fs, h1, h2⟩ := mat_no M hno
    refine ⟨_, h0, A.a, A.dx, fs, rfl, h1, h2, ga σ H s _ fun vs H1 e1 r1 => ?_⟩
    exact ⟨A, m, vs, ds, r, rfl, r1, M.ex e1, h, q.ex (cut_ex e1)⟩⟩
/-- self.own_row = .. -/
theorem md_row {w : Wv} {m1 : Ms} (T : Tx X.prog X.w X.K X.mg X.base) (h : EN X E H0 A e m Δ (.rt m1 w.d)) (hN : X.N[0]? = some x := by rfl) (hv : Vis X.env.scope x := by first | exact Or.inl rfl | exact Or.inr (Or.inl rfl) | exact Or.inr (Or.inr rfl)) (hd : (x == ("__debug__" : Str)) = false := by decide) (hcd : (x == ("__classdict__" : Str)) = false := by decide)
    (hs : swapsWith e (some (.Attribute (.Name x p) "own_row" apos)) pos.line X.env = pure false := by rfl) : MD X E H0 A (.Assign [.Attribute (.Name x p) "own_row" apos] e pos) m Δ (.nx { m1 with row := w } (keepD Δ)) := by
  obtain ⟨_, pe, ge⟩ := h.ex
  refine ⟨_, ps_fld (pv 0 hN hv hd hcd) pe hs, fun D σ H s q => ge σ H s _ fun v H1 M1 e1 r1 => ?_⟩
  obtain ⟨h0, M, e0⟩ := s.1.1
  obtain ⟨sb, vr, ho, n, vo, i1, i2, i3⟩ := M1.ins
  refine ⟨_, h0, A.a, cM X.K, A.dx, _, rfl, i1, cl_Machine T, no_Machine_own_row T, by show 14 < 1000; decide, ?_⟩
  have e2 : putF ("own_row" : Str) v (mkFs A sb vr ho n vo) = mkFs A sb v ho n vo := rfl
  rw [e2]
  have s1 := Sl.far s M1 e1
  have M2 := M1.self (sb := sb) (ho := ho) (n := n) (out := m1.out) (w := w) r1 i3
  have s2 := s1.chg (p := A.a) (by simp [Ad.S]) M2
  rw [keepD_keepD] at s2
  exact q σ _ s2
/-- self.outcome = .. -/
theorem md_out {d : PyData} (T : Tx X.prog X.w X.K X.mg X.base) (h : @ED (mJ X.K H0 A m) X e Δ d) (hd0 : isN d = false) (hN : X.N[0]? = some x := by rfl) (hv : Vis X.env.scope x := by first | exact Or.inl rfl | exact Or.inr (Or.inl rfl) | exact Or.inr (Or.inr rfl)) (hd : (x == ("__debug__" : Str)) = false := by decide) (hcd : (x == ("__classdict__" : Str)) = false := by decide)
    (hs : swapsWith e (some (.Attribute (.Name x p) "outcome" apos)) pos.line X.env = pure false := by rfl) : MD X E H0 A (.Assign [.Attribute (.Name x p) "outcome" apos] e pos) m Δ (.nx { m with out := true } (keepD Δ)) := by
  letI : SJ := mJ X.K H0 A m
  obtain ⟨_, pe, ge⟩ := h.ex
  refine ⟨_, ps_fld (pv 0 hN hv hd hcd) pe hs, fun D σ H s q => ge σ H s _ fun v H1 e1 r1 => ?_⟩
  have s1 := s.ex e1
  obtain ⟨h0, M1, e0⟩ := s1.1.1
  obtain ⟨sb, vr, ho, n, vo, i1, i2, i3⟩ := M1.ins
  refine ⟨_, h0, A.a, cM X.K, A.dx, _, rfl, i1, cl_Machine T, no_Machine_outcome T, by show 14 < 1000; decide, ?_⟩
  have e2 : putF ("outcome" : Str) v (mkFs A sb vr ho n vo) = mkFs A sb vr ho n v := rfl
  rw [e2]
  have nv : v ≠ .non := fun z => by
    subst z
    cases r1
    cases hd0
  have M2 := M1.self (sb := sb) (ho := ho) (n := n) (out := true) (vo := v) (w := m.row) i2 (by rw [if_pos rfl]; exact nv)
  exact q σ _ (s1.chg (p := A.a) (by simp [Ad.S]) M2)
end
section
variable {P : Program} {w : World} {K : PySem.W.Frag} {mg : Str → Option Value} {base : Heap}
theorem pfh_plain (T : Tx P w K mg base) : PFH P w K mg base 1 "plain" R_plain := by
  refine pfh_of (N := ["number"]) (ps := ["number"]) (n := 0) (k := 0) (fd_plain T) sc_plain (gl_plain T) rfl (fun ds d h => by obtain ⟨n, rfl, rfl⟩ := h; rfl) (fun _ _ _ _ _ _ us hl => match us, hl with | [_], _ => rfl) ?_
  intro cdv A outer s H E p hot hr ds d h
  obtain ⟨n, rfl, rfl⟩ := h
  exact bd_one (sd_ret (ed_tup (ad_cons ed_bl (ad_cons (ed_mod (ed_var 0) (ed_glob (c_WORDS T)) ((by decide))) ad_nil))) (rfl))
theorem pfh_fault_number (T : Tx P w K mg base) : PFH P w K mg base 1 "fault_number" R_fault_number := by
  refine pfh_of (N := ["word"]) (ps := ["word"]) (n := 0) (k := 0) (fd_fault_number T) sc_fault_number (gl_fault_number T) rfl (fun ds d h => by obtain ⟨x, j, hj, hno, rfl, rfl⟩ := h; rfl) (fun _ _ _ _ _ _ us hl => match us, hl with | [_], _ => rfl) ?_
  intro cdv A outer s H E p hot hr ds d h
  obtain ⟨x, j, hj, hno, rfl, rfl⟩ := h
  obtain ⟨o, hk, hd⟩ := nodB_ok T
  refine bd_one (sd_ret (ed_add ed_int ⟨_, pe_mG ty_tupN PySem.F.plainAttrs_tuple PySem.F.slot_tuple_index PySem.F.type_tuple_index mt_tup_index (pe_glob (v := .ref (He.ga K "FAULTS")) rfl (gl_FAULTS T) rfl) (pa_cons (pv 0) pa_nil), fun σ H s Q q => ?_⟩) rfl)
  refine ⟨⟨_, o, _, rfl, hk, hd, tu_FAULTS T H⟩, (ga_cons (d := .str x) (ge_var rfl) ga_nil) σ H s _ fun vs H1 e1 r1 => ?_⟩
  cases r1 with
  | cons r1 rs =>
    cases rs
    rw [dp_str r1]
    exact ⟨_, FAULTSl, x, j, rfl, rfl, tu_FAULTS T H1, hj, hno, q _ H1 e1 (.int _)⟩
theorem sc_Machine_gone_back : FnScope ["self", "first", "second", "last", "row_word", "boxes", "low", "high"] ["self", "first", "second", "last"] (defScope t_Machine_gone_back) := ⟨rfl, rfl, rfl, by decide +kernel, rfl, by decide +kernel, by decide +kernel⟩
def R_gone_back : Ms → List PyData → Mr → Prop := fun m ds r => ∃ (f s l : PyData), ds = [f, s, l] ∧ isN l = false ∧ r = .rt { m with out := true } m.row.d
theorem pnh_gone_back (T : Tx P w K mg base) : PNH P w K mg base 1 "gone_back" R_gone_back := by
  refine pnh_of (N := ["self", "first", "second", "last", "row_word", "boxes", "low", "high"]) (ps := ["self", "first", "second", "last"]) (n := 4) (k := 0) (fd_Machine_gone_back T) sc_Machine_gone_back (me_Machine_gone_back T) rfl (fun m ds r h => by obtain ⟨f, s, l, rfl, _, rfl⟩ := h; rfl) (fun _ _ _ _ _ _ us hl => match us, hl with | [_, _, _, _], _ => rfl) ?_
  intro cdv Ar outer s H E p hot hr A m ds r M h
  obtain ⟨f, s', l, rfl, hl, rfl⟩ := h
  letI J : SJ := mJ K H A m
  have hu : (cxH CX0 P w K mg base ["self", "first", "second", "last", "row_word", "boxes", "low", "high"] "Machine.gone_back" (defScope t_Machine_gone_back) (He.fAd K d_Machine_gone_back.at_) cdv Ar outer s H E p).A.units + 64 < cLine := by have := hr.un; omega
  exact ⟨.rt { m with out := true } m.row.d, mb_ift (td_is (td_eq hu (ed_fld (cl_Machine T) (no_Machine_shelf T) (fun _ M => mat_shelf M)) (ed_lst ad_nil)) rfl) (mb_cons (md_out T (ed_var 3) hl) (by
    letI J2 : SJ := mJ K H A { m with out := true }
    exact mb_one (md_of (r := .rt m.row.d) (sd_ret (ed_fld (cl_Machine T) (no_Machine_own_row T) (fun _ M => mat_row M)) rfl)))) (fun _ _ h => nomatch h), .inl ⟨rfl, fun _ _ h => nomatch h⟩⟩
theorem sc_Machine_fall : FnScope ["self", "word"] ["self", "word"] (defScope t_Machine_fall) := ⟨rfl, rfl, rfl, by decide +kernel, rfl, by decide +kernel, by decide +kernel⟩
def R_fall : Ms → List PyData → Mr → Prop := fun m ds r => ∃ (y : Str), y ∈ FAULTSl ∧ ds = [.str y] ∧ r = .rt { m with out := true } .none
theorem first_at : ∀ (l : List Str) (y : Str), y ∈ l → ∃ j : Nat, l[j]? = some y ∧ ∀ m : Nat, m < j → l[m]? ≠ some y
  | [], _, h => by cases h
  | a :: l, y, h => by
    by_cases e : a = y
    · exact ⟨0, by rw [e]; rfl, fun m hm => absurd hm (Nat.not_lt_zero _)⟩
    · obtain ⟨j, h1, h2⟩ := first_at l y (by rcases List.mem_cons.mp h with z | z; exact absurd z.symm e; exact z)
      refine ⟨j + 1, h1, fun m hm => ?_⟩
      cases m with
      | zero => exact fun z => e (Option.some.inj z)
      | succ m => exact h2 m (by omega)
theorem pnh_fall (T : Tx P w K mg base) : PNH P w K mg base 2 "fall" R_fall := by
  refine pnh_of (N := ["self", "word"]) (ps := ["self", "word"]) (n := 0) (k := 1) (fd_Machine_fall T) sc_Machine_fall (me_Machine_fall T) rfl (fun m ds r h => by obtain ⟨y, _, rfl, rfl⟩ := h; rfl) (fun _ _ _ _ _ _ us hl => match us, hl with | [_, _], _ => rfl) ?_
  intro cdv Ar outer s H E p hot hr A m ds r M h
  obtain ⟨y, hy, rfl, rfl⟩ := h
  obtain ⟨j, j1, j2⟩ := first_at _ _ hy
  letI J : SJ := mJ K H A m
  exact body_nx (mz_one (md_row (w := m.row) T (en_methH (cl_Machine T) (pnh_gone_back T) hr hot (ad_cons (ed_callH (pfh_plain T) hr hot (ad_cons ed_int ad_nil) ⟨0, rfl, rfl⟩) (ad_cons (ed_callH (pfh_plain T) hr hot (ad_cons (ed_callH (pfh_fault_number T) hr hot (ad_cons (ed_var 1) ad_nil) ⟨y, j, j1, j2, rfl, rfl⟩) ad_nil) ⟨_, rfl, rfl⟩) (ad_cons (ed_tup (ad_cons ed_str (ad_cons (ed_var 1) ad_nil))) ad_nil))) ⟨_, _, _, rfl, rfl, rfl⟩)))
end
end Sr

set_option Elab.async false
set_option linter.all false
set_option maxRecDepth 100000
set_option maxHeartbeats 4000000
/-! A row is done. -/
namespace Sr
open PySem PySem.Spec PyProof.Rows L2
open Evl (Ex)
/-- the box that a row's word is put into -/
def Rw.dest : Rw → Int
  | .set b _ => b
  | .move b _ => b
  | .op _ b _ => b
  | .walk b _ => b
  | .narrow b _ => b
  | .exact b _ => b
  | .less b _ => b
  | .sl b _ => b
  | .opn b _ => b
  | .ent b => b
  | .ask _ _ c => c
  | .here b => b
  | _ => 0
def Wv.lo : Wv → Int
  | .mk l _ _ _ _ => l
  | .pl _ => 0
def Wv.at_ : Wv → Int
  | .mk _ _ a _ _ => a
  | .pl _ => 0
def behindR (m : Ms) : Mr → Mr
  | .rt m' _ => .rt m' (m.row.walk 1).d
  | r => r
/-- what a row comes to -/
def doR (m : Ms) : Rw → Mr
  | .go t => .rt m (m.row.walk (m.row.lo + t - m.row.at_)).d
  | .jump x b y t => .rt m (if soB x (bxv m b).b (numBy m y) = true then m.row.walk (m.row.lo + t - m.row.at_) else m.row.walk 1).d
  | .enter b => liftR m (entR (bxv m b))
  | .load b c o => behindR m (touR m (.load b c o))
  | .store c o b => behindR m (touR m (.store c o b))
  | .poke c o b => behindR m (touR m (.poke c o b))
  | row => .rt { m with boxes := m.boxes.set row.dest.toNat (madeV m row) } (m.row.walk 1).d
/-- what a row wants -/
def DoOk (m : Ms) : Rw → Prop
  | .enter b => (bxv m b).mild = true
  | .load b c o => TouOk m (.load b c o)
  | .store c o b => TouOk m (.store c o b)
  | .poke c o b => TouOk m (.poke c o b)
  | row => row.own ≠ none → m.allMild
theorem touR_shape (m : Ms) (row : Rw) : (∃ m', touR m row = .rt m' .none) ∨ ∃ y, touR m row = .ex m y := by
  unfold touR
  repeat' split
  all_goals first | exact .inl ⟨_, rfl⟩ | exact .inr ⟨_, rfl⟩
section
variable {P : Program} {w : World} {K : PySem.W.Frag} {mg : Str → Option Value} {base : Heap}
def R_do : Ms → List PyData → Mr → Prop := fun m ds r => ∃ row : Rw, row.ok ∧ m.allOk ∧ m.row.Ok ∧ m.row.t = true ∧ DoOk m row ∧ ds = [row.d] ∧ r = doR m row
theorem sc_Machine_do : FnScope ["self", "row", "word", "rest", "behind", "ask", "box", "by", "to"] ["self", "row"] (defScope t_Machine_do) := ⟨rfl, rfl, rfl, by decide +kernel, rfl, by decide +kernel, by decide +kernel⟩
theorem pn_do (T : Tx P w K mg base) : PN P w K mg base 10 "do" R_do := by
  refine pn_of (N := ["self", "row", "word", "rest", "behind", "ask", "box", "by", "to"]) (ps := ["self", "row"]) (n := 7) (k := 9) (fd_Machine_do T) sc_Machine_do (me_Machine_do T) rfl (fun m ds r h => by obtain ⟨row, hk, ha, hw, hwt, ht, rfl, rfl⟩ := h; rfl) (fun _ _ _ _ _ _ us hl => match us, hl with | [_, _], _ => rfl) ?_
  intro f cdv Ar outer s H E hr A m ds r M h
  obtain ⟨row, hk, ha, hw, hwt, ht, rfl, rfl⟩ := h
  letI J : SJ := mJ K H A m
  have le : ∀ {n k : Nat}, Nat.ble n k = true → n ≤ k := fun h => Nat.le_of_ble_eq_true h
  obtain ⟨l, h, a, k, r, F, er⟩ : ∃ l h a k r, Fl l h a r.m k ∧ m.row = .mk l h a k r := by
    cases e : m.row with
    | pl b => rw [e] at hwt; cases hwt
    | mk l h a k r => rw [e] at hw; exact ⟨l, h, a, k, r, hw, rfl⟩
  cases row with
  | go t =>
    have e : m.row.walk (m.row.lo + t - m.row.at_) = m.row.walk (l + t - a) := by rw [er]; rfl
    refine ⟨.rt m (m.row.walk (m.row.lo + t - m.row.at_)).d, mb_cons (md_of (r := .nx _) (sd_asg (ed_var 1) (gd_star 2 3 rfl sc_Machine_do.nd ((le rfl))))) (mb_cons (md_of (r := .nx _) (sd_set 4 sc_Machine_do.nd (ed_call (pf_walked_so T) (hr.mono (by decide)) (ad_cons (ed_fld (cl_Machine T) (no_Machine_own_row T) (fun _ M => mat_row M)) (ad_cons ed_int (ad_cons ed_non ad_nil))) (⟨_, _, hw, rfl, rfl⟩)))) (mb_end (md_if (p := true) (td_is (td_eqS (ed_var 2) ed_str) rfl) (fun _ => mb_one (md_of (r := .rt (m.row.walk (m.row.lo + t - m.row.at_)).d) (sd_ret (ed_methM (cl_Machine T) (pm_row_at T) (hr.mono (by decide)) (ad_cons (ed_ixL (ed_var 3) ed_int) ad_nil) (⟨l, h, a, k, t, r, F, er, rfl, rfl⟩)) ((by rw [e]))))) (fun z => Bool.noConfusion z)) (fun _ _ h => nomatch h))), .inl ⟨rfl, fun _ _ h => nomatch h⟩⟩
  | jump x b y t =>
    have e : m.row.walk (m.row.lo + t - m.row.at_) = m.row.walk (l + t - a) := by rw [er]; rfl
    obtain ⟨hx, hb, hy, h0⟩ := hk
    refine ⟨.rt m (if soB x (bxv m b).b (numBy m y) = true then m.row.walk (m.row.lo + t - m.row.at_) else m.row.walk 1).d, mb_cons (md_of (r := .nx _) (sd_asg (ed_var 1) (gd_star 2 3 rfl sc_Machine_do.nd ((le rfl))))) (mb_cons (md_of (r := .nx _) (sd_set 4 sc_Machine_do.nd (ed_call (pf_walked_so T) (hr.mono (by decide)) (ad_cons (ed_fld (cl_Machine T) (no_Machine_own_row T) (fun _ M => mat_row M)) (ad_cons ed_int (ad_cons ed_non ad_nil))) (⟨_, _, hw, rfl, rfl⟩)))) (mb_iff (td_is (td_eqS (ed_var 2) ed_str) rfl) (mb_end (md_if (p := true) (td_is (td_eqS (ed_var 2) ed_str) rfl) (fun _ => mb_cons (md_of (r := .nx _) (sd_asg (ed_var 3) (gd_unl rfl (gds_cons (gd_name 5 sc_Machine_do.nd) (gds_cons (gd_name 6 sc_Machine_do.nd) (gds_cons (gd_name 7 sc_Machine_do.nd) (gds_cons (gd_name 8 sc_Machine_do.nd) gds_nil))))))) (mb_one (md_of (r := .rt _) (sd_ret (ed_if (td_val (ed_call (pf_is_so T) (hr.mono (by decide)) (ad_cons (ed_var 5) (ad_cons (ed_ixT (ed_ixL (ed_fld (cl_Machine T) (no_Machine_own_boxes T) (fun _ M => mat_boxes M)) (ed_var 6) (boxAt M.sz hb)) ed_int) (ad_cons (ed_methM (cl_Machine T) (pm_number_by T) (hr.mono (by decide)) (ad_cons (ed_var 7) ad_nil) (⟨y, hy, rfl, rfl⟩)) ad_nil))) ⟨x, _, _, rfl, rfl⟩)) (fun hi => ed_is (d1 := (if soB x (bxv m b).b (numBy m y) = true then m.row.walk (m.row.lo + t - m.row.at_) else m.row.walk 1).d) (ed_methM (cl_Machine T) (pm_row_at T) (hr.mono (by decide)) (ad_cons (ed_var 8) ad_nil) (⟨l, h, a, k, t, r, F, er, rfl, rfl⟩)) (by rw [hi, if_pos rfl, e])) (fun hi => ed_is (ed_var 4) (by rw [hi]; rfl))) rfl)))) (fun z => Bool.noConfusion z)) (fun _ _ h => nomatch h)))), .inl ⟨rfl, fun _ _ h => nomatch h⟩⟩
  | enter b =>
    have hn : ∀ m' Δ', liftR m (entR (bxv m b)) ≠ .nx m' Δ' := by
      intro m' Δ'
      unfold entR
      repeat' split
      all_goals exact fun h => Mr.noConfusion h
    refine ⟨liftR m (entR (bxv m b)), mb_cons (md_of (r := .nx _) (sd_asg (ed_var 1) (gd_star 2 3 rfl sc_Machine_do.nd ((le rfl))))) (mb_cons (md_of (r := .nx _) (sd_set 4 sc_Machine_do.nd (ed_call (pf_walked_so T) (hr.mono (by decide)) (ad_cons (ed_fld (cl_Machine T) (no_Machine_own_row T) (fun _ M => mat_row M)) (ad_cons ed_int (ad_cons ed_non ad_nil))) (⟨_, _, hw, rfl, rfl⟩)))) (mb_iff (td_is (td_eqS (ed_var 2) ed_str) rfl) (mb_iff (td_is (td_eqS (ed_var 2) ed_str) rfl) (mb_end (md_if (p := true) (td_is (td_eqS (ed_var 2) ed_str) rfl) (fun _ => mb_one (md_retN (en_meth (cl_Machine T) (pn_entered T) (hr.mono (by decide)) passR (ad_cons (ed_ixL (ed_fld (cl_Machine T) (no_Machine_own_boxes T) (fun _ M => mat_boxes M)) (ed_ixL (ed_var 3) ed_int) (boxAt M.sz hk)) ad_nil) ⟨_, bxv_ok ha b, ht, rfl, rfl⟩) hn)) (fun z => Bool.noConfusion z)) hn)))), .inl ⟨rfl, hn⟩⟩
  | load b c o =>
    rcases touR_shape m (.load b c o) with ⟨m', e⟩ | ⟨y, e⟩
    · have e2 : doR m (.load b c o) = .rt m' (m.row.walk 1).d := by simp only [doR, e]; rfl
      rw [e2]
      exact ⟨.rt m' (m.row.walk 1).d, mb_cons (md_of (r := .nx _) (sd_asg (ed_var 1) (gd_star 2 3 rfl sc_Machine_do.nd ((le rfl))))) (mb_cons (md_of (r := .nx _) (sd_set 4 sc_Machine_do.nd (ed_call (pf_walked_so T) (hr.mono (by decide)) (ad_cons (ed_fld (cl_Machine T) (no_Machine_own_row T) (fun _ M => mat_row M)) (ad_cons ed_int (ad_cons ed_non ad_nil))) (⟨_, _, hw, rfl, rfl⟩)))) (mb_iff (td_is (td_eqS (ed_var 2) ed_str) rfl) (mb_iff (td_is (td_eqS (ed_var 2) ed_str) rfl) (mb_iff (td_is (td_eqS (ed_var 2) ed_str) rfl) (mb_iff (td_is (td_eqS (ed_var 2) ed_str) rfl) (mb_iff (td_is (td_eqS (ed_var 2) ed_str) rfl) (mb_cons (md_if (p := true) (td_is (td_in (ed_var 2) (ed_tup (ad_cons ed_str (ad_cons ed_str (ad_cons ed_str ad_nil)))) (by first | exact .inl rfl | exact .inr rfl)) rfl) (fun _ => mb_one (md_exprN (r := .rt m' .none) (en_meth (cl_Machine T) (pn_touch T) (hr.mono (by decide)) passR (ad_cons (ed_var 2) (ad_cons (ed_var 3) ad_nil)) ⟨.load b c o, hk, ha, ht, rfl, e.symm⟩) (fun _ _ h => nomatch h))) (fun z => Bool.noConfusion z)) (by
        letI J2 : SJ := mJ K H A m'
        exact mb_one (md_of (r := .rt (m.row.walk 1).d) (sd_ret (ed_var 4) (rfl))))))))))), .inl ⟨rfl, fun _ _ h => nomatch h⟩⟩
    · have e2 : doR m (.load b c o) = .ex m y := by simp only [doR, e]; rfl
      rw [e2]
      exact ⟨.ex m y, mb_cons (md_of (r := .nx _) (sd_asg (ed_var 1) (gd_star 2 3 rfl sc_Machine_do.nd ((le rfl))))) (mb_cons (md_of (r := .nx _) (sd_set 4 sc_Machine_do.nd (ed_call (pf_walked_so T) (hr.mono (by decide)) (ad_cons (ed_fld (cl_Machine T) (no_Machine_own_row T) (fun _ M => mat_row M)) (ad_cons ed_int (ad_cons ed_non ad_nil))) (⟨_, _, hw, rfl, rfl⟩)))) (mb_iff (td_is (td_eqS (ed_var 2) ed_str) rfl) (mb_iff (td_is (td_eqS (ed_var 2) ed_str) rfl) (mb_iff (td_is (td_eqS (ed_var 2) ed_str) rfl) (mb_iff (td_is (td_eqS (ed_var 2) ed_str) rfl) (mb_iff (td_is (td_eqS (ed_var 2) ed_str) rfl) (mb_end (md_if (p := true) (td_is (td_in (ed_var 2) (ed_tup (ad_cons ed_str (ad_cons ed_str (ad_cons ed_str ad_nil)))) (by first | exact .inl rfl | exact .inr rfl)) rfl) (fun _ => mb_one (md_exprN (r := .ex m y) (en_meth (cl_Machine T) (pn_touch T) (hr.mono (by decide)) passR (ad_cons (ed_var 2) (ad_cons (ed_var 3) ad_nil)) ⟨.load b c o, hk, ha, ht, rfl, e.symm⟩) (fun _ _ h => nomatch h))) (fun z => Bool.noConfusion z)) (fun _ _ h => nomatch h)))))))), .inl ⟨rfl, fun _ _ h => nomatch h⟩⟩
  | store c o b =>
    rcases touR_shape m (.store c o b) with ⟨m', e⟩ | ⟨y, e⟩
    · have e2 : doR m (.store c o b) = .rt m' (m.row.walk 1).d := by simp only [doR, e]; rfl
      rw [e2]
      exact ⟨.rt m' (m.row.walk 1).d, mb_cons (md_of (r := .nx _) (sd_asg (ed_var 1) (gd_star 2 3 rfl sc_Machine_do.nd ((le rfl))))) (mb_cons (md_of (r := .nx _) (sd_set 4 sc_Machine_do.nd (ed_call (pf_walked_so T) (hr.mono (by decide)) (ad_cons (ed_fld (cl_Machine T) (no_Machine_own_row T) (fun _ M => mat_row M)) (ad_cons ed_int (ad_cons ed_non ad_nil))) (⟨_, _, hw, rfl, rfl⟩)))) (mb_iff (td_is (td_eqS (ed_var 2) ed_str) rfl) (mb_iff (td_is (td_eqS (ed_var 2) ed_str) rfl) (mb_iff (td_is (td_eqS (ed_var 2) ed_str) rfl) (mb_iff (td_is (td_eqS (ed_var 2) ed_str) rfl) (mb_iff (td_is (td_eqS (ed_var 2) ed_str) rfl) (mb_cons (md_if (p := true) (td_is (td_in (ed_var 2) (ed_tup (ad_cons ed_str (ad_cons ed_str (ad_cons ed_str ad_nil)))) (by first | exact .inl rfl | exact .inr rfl)) rfl) (fun _ => mb_one (md_exprN (r := .rt m' .none) (en_meth (cl_Machine T) (pn_touch T) (hr.mono (by decide)) passR (ad_cons (ed_var 2) (ad_cons (ed_var 3) ad_nil)) ⟨.store c o b, hk, ha, ht, rfl, e.symm⟩) (fun _ _ h => nomatch h))) (fun z => Bool.noConfusion z)) (by
        letI J2 : SJ := mJ K H A m'
        exact mb_one (md_of (r := .rt (m.row.walk 1).d) (sd_ret (ed_var 4) (rfl))))))))))), .inl ⟨rfl, fun _ _ h => nomatch h⟩⟩
    · have e2 : doR m (.store c o b) = .ex m y := by simp only [doR, e]; rfl
      rw [e2]
      exact ⟨.ex m y, mb_cons (md_of (r := .nx _) (sd_asg (ed_var 1) (gd_star 2 3 rfl sc_Machine_do.nd ((le rfl))))) (mb_cons (md_of (r := .nx _) (sd_set 4 sc_Machine_do.nd (ed_call (pf_walked_so T) (hr.mono (by decide)) (ad_cons (ed_fld (cl_Machine T) (no_Machine_own_row T) (fun _ M => mat_row M)) (ad_cons ed_int (ad_cons ed_non ad_nil))) (⟨_, _, hw, rfl, rfl⟩)))) (mb_iff (td_is (td_eqS (ed_var 2) ed_str) rfl) (mb_iff (td_is (td_eqS (ed_var 2) ed_str) rfl) (mb_iff (td_is (td_eqS (ed_var 2) ed_str) rfl) (mb_iff (td_is (td_eqS (ed_var 2) ed_str) rfl) (mb_iff (td_is (td_eqS (ed_var 2) ed_str) rfl) (mb_end (md_if (p := true) (td_is (td_in (ed_var 2) (ed_tup (ad_cons ed_str (ad_cons ed_str (ad_cons ed_str ad_nil)))) (by first | exact .inl rfl | exact .inr rfl)) rfl) (fun _ => mb_one (md_exprN (r := .ex m y) (en_meth (cl_Machine T) (pn_touch T) (hr.mono (by decide)) passR (ad_cons (ed_var 2) (ad_cons (ed_var 3) ad_nil)) ⟨.store c o b, hk, ha, ht, rfl, e.symm⟩) (fun _ _ h => nomatch h))) (fun z => Bool.noConfusion z)) (fun _ _ h => nomatch h)))))))), .inl ⟨rfl, fun _ _ h => nomatch h⟩⟩
  | poke c o b =>
    rcases touR_shape m (.poke c o b) with ⟨m', e⟩ | ⟨y, e⟩
    · have e2 : doR m (.poke c o b) = .rt m' (m.row.walk 1).d := by simp only [doR, e]; rfl
      rw [e2]
      exact ⟨.rt m' (m.row.walk 1).d, mb_cons (md_of (r := .nx _) (sd_asg (ed_var 1) (gd_star 2 3 rfl sc_Machine_do.nd ((le rfl))))) (mb_cons (md_of (r := .nx _) (sd_set 4 sc_Machine_do.nd (ed_call (pf_walked_so T) (hr.mono (by decide)) (ad_cons (ed_fld (cl_Machine T) (no_Machine_own_row T) (fun _ M => mat_row M)) (ad_cons ed_int (ad_cons ed_non ad_nil))) (⟨_, _, hw, rfl, rfl⟩)))) (mb_iff (td_is (td_eqS (ed_var 2) ed_str) rfl) (mb_iff (td_is (td_eqS (ed_var 2) ed_str) rfl) (mb_iff (td_is (td_eqS (ed_var 2) ed_str) rfl) (mb_iff (td_is (td_eqS (ed_var 2) ed_str) rfl) (mb_iff (td_is (td_eqS (ed_var 2) ed_str) rfl) (mb_cons (md_if (p := true) (td_is (td_in (ed_var 2) (ed_tup (ad_cons ed_str (ad_cons ed_str (ad_cons ed_str ad_nil)))) (by first | exact .inl rfl | exact .inr rfl)) rfl) (fun _ => mb_one (md_exprN (r := .rt m' .none) (en_meth (cl_Machine T) (pn_touch T) (hr.mono (by decide)) passR (ad_cons (ed_var 2) (ad_cons (ed_var 3) ad_nil)) ⟨.poke c o b, hk, ha, ht, rfl, e.symm⟩) (fun _ _ h => nomatch h))) (fun z => Bool.noConfusion z)) (by
        letI J2 : SJ := mJ K H A m'
        exact mb_one (md_of (r := .rt (m.row.walk 1).d) (sd_ret (ed_var 4) (rfl))))))))))), .inl ⟨rfl, fun _ _ h => nomatch h⟩⟩
    · have e2 : doR m (.poke c o b) = .ex m y := by simp only [doR, e]; rfl
      rw [e2]
      exact ⟨.ex m y, mb_cons (md_of (r := .nx _) (sd_asg (ed_var 1) (gd_star 2 3 rfl sc_Machine_do.nd ((le rfl))))) (mb_cons (md_of (r := .nx _) (sd_set 4 sc_Machine_do.nd (ed_call (pf_walked_so T) (hr.mono (by decide)) (ad_cons (ed_fld (cl_Machine T) (no_Machine_own_row T) (fun _ M => mat_row M)) (ad_cons ed_int (ad_cons ed_non ad_nil))) (⟨_, _, hw, rfl, rfl⟩)))) (mb_iff (td_is (td_eqS (ed_var 2) ed_str) rfl) (mb_iff (td_is (td_eqS (ed_var 2) ed_str) rfl) (mb_iff (td_is (td_eqS (ed_var 2) ed_str) rfl) (mb_iff (td_is (td_eqS (ed_var 2) ed_str) rfl) (mb_iff (td_is (td_eqS (ed_var 2) ed_str) rfl) (mb_end (md_if (p := true) (td_is (td_in (ed_var 2) (ed_tup (ad_cons ed_str (ad_cons ed_str (ad_cons ed_str ad_nil)))) (by first | exact .inl rfl | exact .inr rfl)) rfl) (fun _ => mb_one (md_exprN (r := .ex m y) (en_meth (cl_Machine T) (pn_touch T) (hr.mono (by decide)) passR (ad_cons (ed_var 2) (ad_cons (ed_var 3) ad_nil)) ⟨.poke c o b, hk, ha, ht, rfl, e.symm⟩) (fun _ _ h => nomatch h))) (fun z => Bool.noConfusion z)) (fun _ _ h => nomatch h)))))))), .inl ⟨rfl, fun _ _ h => nomatch h⟩⟩
  | set b n => exact ⟨.rt { m with boxes := m.boxes.set (b).toNat (madeV m (.set b n)) } (m.row.walk 1).d, mb_cons (md_of (r := .nx _) (sd_asg (ed_var 1) (gd_star 2 3 rfl sc_Machine_do.nd ((le rfl))))) (mb_cons (md_of (r := .nx _) (sd_set 4 sc_Machine_do.nd (ed_call (pf_walked_so T) (hr.mono (by decide)) (ad_cons (ed_fld (cl_Machine T) (no_Machine_own_row T) (fun _ M => mat_row M)) (ad_cons ed_int (ad_cons ed_non ad_nil))) (⟨_, _, hw, rfl, rfl⟩)))) (mb_iff (td_is (td_eqS (ed_var 2) ed_str) rfl) (mb_iff (td_is (td_eqS (ed_var 2) ed_str) rfl) (mb_iff (td_is (td_eqS (ed_var 2) ed_str) rfl) (mb_iff (td_is (td_eqS (ed_var 2) ed_str) rfl) (mb_iff (td_is (td_eqS (ed_var 2) ed_str) rfl) (mb_cons (md_if (p := false) (td_is (td_in (ed_var 2) (ed_tup (ad_cons ed_str (ad_cons ed_str (ad_cons ed_str ad_nil)))) (by first | exact .inl rfl | exact .inr rfl)) rfl) (fun z => Bool.noConfusion z) (fun _ => mb_one (md_if (p := false) (td_is (td_eqS (ed_var 2) ed_str) rfl) (fun z => Bool.noConfusion z) (fun _ => mb_one (md_box (w := madeV m (.set b n)) (b := b) T (ed_methM (cl_Machine T) (pm_made T) (hr.mono (by decide)) (ad_cons (ed_var 1) ad_nil) ⟨.set b n, rfl, hk, ha, ht, hw, rfl, rfl⟩) (ed_if (p := false) (td_is (td_eqS (ed_var 2) ed_str) rfl) (fun h => Bool.noConfusion h) (fun _ => ed_if (p := false) (td_is (td_eqS (ed_var 2) ed_str) rfl) (fun h => Bool.noConfusion h) (fun _ => ed_ixL (ed_var 3) ed_int))) hk.1))))) (by
        letI J2 : SJ := mJ K H A { m with boxes := m.boxes.set (b).toNat (madeV m (.set b n)) }
        exact mb_one (md_of (r := .rt (m.row.walk 1).d) (sd_ret (ed_var 4) (rfl))))))))))), .inl ⟨rfl, fun _ _ h => nomatch h⟩⟩
  | move b c => exact ⟨.rt { m with boxes := m.boxes.set (b).toNat (madeV m (.move b c)) } (m.row.walk 1).d, mb_cons (md_of (r := .nx _) (sd_asg (ed_var 1) (gd_star 2 3 rfl sc_Machine_do.nd ((le rfl))))) (mb_cons (md_of (r := .nx _) (sd_set 4 sc_Machine_do.nd (ed_call (pf_walked_so T) (hr.mono (by decide)) (ad_cons (ed_fld (cl_Machine T) (no_Machine_own_row T) (fun _ M => mat_row M)) (ad_cons ed_int (ad_cons ed_non ad_nil))) (⟨_, _, hw, rfl, rfl⟩)))) (mb_iff (td_is (td_eqS (ed_var 2) ed_str) rfl) (mb_iff (td_is (td_eqS (ed_var 2) ed_str) rfl) (mb_iff (td_is (td_eqS (ed_var 2) ed_str) rfl) (mb_iff (td_is (td_eqS (ed_var 2) ed_str) rfl) (mb_iff (td_is (td_eqS (ed_var 2) ed_str) rfl) (mb_cons (md_if (p := false) (td_is (td_in (ed_var 2) (ed_tup (ad_cons ed_str (ad_cons ed_str (ad_cons ed_str ad_nil)))) (by first | exact .inl rfl | exact .inr rfl)) rfl) (fun z => Bool.noConfusion z) (fun _ => mb_one (md_if (p := false) (td_is (td_eqS (ed_var 2) ed_str) rfl) (fun z => Bool.noConfusion z) (fun _ => mb_one (md_box (w := madeV m (.move b c)) (b := b) T (ed_methM (cl_Machine T) (pm_made T) (hr.mono (by decide)) (ad_cons (ed_var 1) ad_nil) ⟨.move b c, rfl, hk, ha, ht, hw, rfl, rfl⟩) (ed_if (p := false) (td_is (td_eqS (ed_var 2) ed_str) rfl) (fun h => Bool.noConfusion h) (fun _ => ed_if (p := false) (td_is (td_eqS (ed_var 2) ed_str) rfl) (fun h => Bool.noConfusion h) (fun _ => ed_ixL (ed_var 3) ed_int))) hk.1))))) (by
        letI J2 : SJ := mJ K H A { m with boxes := m.boxes.set (b).toNat (madeV m (.move b c)) }
        exact mb_one (md_of (r := .rt (m.row.walk 1).d) (sd_ret (ed_var 4) (rfl))))))))))), .inl ⟨rfl, fun _ _ h => nomatch h⟩⟩
  | op x b y => exact ⟨.rt { m with boxes := m.boxes.set (b).toNat (madeV m (.op x b y)) } (m.row.walk 1).d, mb_cons (md_of (r := .nx _) (sd_asg (ed_var 1) (gd_star 2 3 rfl sc_Machine_do.nd ((le rfl))))) (mb_cons (md_of (r := .nx _) (sd_set 4 sc_Machine_do.nd (ed_call (pf_walked_so T) (hr.mono (by decide)) (ad_cons (ed_fld (cl_Machine T) (no_Machine_own_row T) (fun _ M => mat_row M)) (ad_cons ed_int (ad_cons ed_non ad_nil))) (⟨_, _, hw, rfl, rfl⟩)))) (mb_iff (td_is (td_eqS (ed_var 2) ed_str) rfl) (mb_iff (td_is (td_eqS (ed_var 2) ed_str) rfl) (mb_iff (td_is (td_eqS (ed_var 2) ed_str) rfl) (mb_iff (td_is (td_eqS (ed_var 2) ed_str) rfl) (mb_iff (td_is (td_eqS (ed_var 2) ed_str) rfl) (mb_cons (md_if (p := false) (td_is (td_in (ed_var 2) (ed_tup (ad_cons ed_str (ad_cons ed_str (ad_cons ed_str ad_nil)))) (by first | exact .inl rfl | exact .inr rfl)) rfl) (fun z => Bool.noConfusion z) (fun _ => mb_one (md_if (p := false) (td_is (td_eqS (ed_var 2) ed_str) rfl) (fun z => Bool.noConfusion z) (fun _ => mb_one (md_box (w := madeV m (.op x b y)) (b := b) T (ed_methM (cl_Machine T) (pm_made T) (hr.mono (by decide)) (ad_cons (ed_var 1) ad_nil) ⟨.op x b y, rfl, hk, ha, ht, hw, rfl, rfl⟩) (ed_if (p := false) (td_is (td_eqS (ed_var 2) ed_str) rfl) (fun h => Bool.noConfusion h) (fun _ => ed_if (p := true) (td_is (td_eqS (ed_var 2) ed_str) rfl) (fun _ => ed_ixL (ed_var 3) ed_int) (fun h => Bool.noConfusion h))) hk.2.1))))) (by
        letI J2 : SJ := mJ K H A { m with boxes := m.boxes.set (b).toNat (madeV m (.op x b y)) }
        exact mb_one (md_of (r := .rt (m.row.walk 1).d) (sd_ret (ed_var 4) (rfl))))))))))), .inl ⟨rfl, fun _ _ h => nomatch h⟩⟩
  | walk b y => exact ⟨.rt { m with boxes := m.boxes.set (b).toNat (madeV m (.walk b y)) } (m.row.walk 1).d, mb_cons (md_of (r := .nx _) (sd_asg (ed_var 1) (gd_star 2 3 rfl sc_Machine_do.nd ((le rfl))))) (mb_cons (md_of (r := .nx _) (sd_set 4 sc_Machine_do.nd (ed_call (pf_walked_so T) (hr.mono (by decide)) (ad_cons (ed_fld (cl_Machine T) (no_Machine_own_row T) (fun _ M => mat_row M)) (ad_cons ed_int (ad_cons ed_non ad_nil))) (⟨_, _, hw, rfl, rfl⟩)))) (mb_iff (td_is (td_eqS (ed_var 2) ed_str) rfl) (mb_iff (td_is (td_eqS (ed_var 2) ed_str) rfl) (mb_iff (td_is (td_eqS (ed_var 2) ed_str) rfl) (mb_iff (td_is (td_eqS (ed_var 2) ed_str) rfl) (mb_iff (td_is (td_eqS (ed_var 2) ed_str) rfl) (mb_cons (md_if (p := false) (td_is (td_in (ed_var 2) (ed_tup (ad_cons ed_str (ad_cons ed_str (ad_cons ed_str ad_nil)))) (by first | exact .inl rfl | exact .inr rfl)) rfl) (fun z => Bool.noConfusion z) (fun _ => mb_one (md_if (p := false) (td_is (td_eqS (ed_var 2) ed_str) rfl) (fun z => Bool.noConfusion z) (fun _ => mb_one (md_box (w := madeV m (.walk b y)) (b := b) T (ed_methM (cl_Machine T) (pm_made T) (hr.mono (by decide)) (ad_cons (ed_var 1) ad_nil) ⟨.walk b y, rfl, hk, ha, ht, hw, rfl, rfl⟩) (ed_if (p := false) (td_is (td_eqS (ed_var 2) ed_str) rfl) (fun h => Bool.noConfusion h) (fun _ => ed_if (p := false) (td_is (td_eqS (ed_var 2) ed_str) rfl) (fun h => Bool.noConfusion h) (fun _ => ed_ixL (ed_var 3) ed_int))) hk.1))))) (by
        letI J2 : SJ := mJ K H A { m with boxes := m.boxes.set (b).toNat (madeV m (.walk b y)) }
        exact mb_one (md_of (r := .rt (m.row.walk 1).d) (sd_ret (ed_var 4) (rfl))))))))))), .inl ⟨rfl, fun _ _ h => nomatch h⟩⟩
  | narrow b y => exact ⟨.rt { m with boxes := m.boxes.set (b).toNat (madeV m (.narrow b y)) } (m.row.walk 1).d, mb_cons (md_of (r := .nx _) (sd_asg (ed_var 1) (gd_star 2 3 rfl sc_Machine_do.nd ((le rfl))))) (mb_cons (md_of (r := .nx _) (sd_set 4 sc_Machine_do.nd (ed_call (pf_walked_so T) (hr.mono (by decide)) (ad_cons (ed_fld (cl_Machine T) (no_Machine_own_row T) (fun _ M => mat_row M)) (ad_cons ed_int (ad_cons ed_non ad_nil))) (⟨_, _, hw, rfl, rfl⟩)))) (mb_iff (td_is (td_eqS (ed_var 2) ed_str) rfl) (mb_iff (td_is (td_eqS (ed_var 2) ed_str) rfl) (mb_iff (td_is (td_eqS (ed_var 2) ed_str) rfl) (mb_iff (td_is (td_eqS (ed_var 2) ed_str) rfl) (mb_iff (td_is (td_eqS (ed_var 2) ed_str) rfl) (mb_cons (md_if (p := false) (td_is (td_in (ed_var 2) (ed_tup (ad_cons ed_str (ad_cons ed_str (ad_cons ed_str ad_nil)))) (by first | exact .inl rfl | exact .inr rfl)) rfl) (fun z => Bool.noConfusion z) (fun _ => mb_one (md_if (p := false) (td_is (td_eqS (ed_var 2) ed_str) rfl) (fun z => Bool.noConfusion z) (fun _ => mb_one (md_box (w := madeV m (.narrow b y)) (b := b) T (ed_methM (cl_Machine T) (pm_made T) (hr.mono (by decide)) (ad_cons (ed_var 1) ad_nil) ⟨.narrow b y, rfl, hk, ha, ht, hw, rfl, rfl⟩) (ed_if (p := false) (td_is (td_eqS (ed_var 2) ed_str) rfl) (fun h => Bool.noConfusion h) (fun _ => ed_if (p := false) (td_is (td_eqS (ed_var 2) ed_str) rfl) (fun h => Bool.noConfusion h) (fun _ => ed_ixL (ed_var 3) ed_int))) hk.1))))) (by
        letI J2 : SJ := mJ K H A { m with boxes := m.boxes.set (b).toNat (madeV m (.narrow b y)) }
        exact mb_one (md_of (r := .rt (m.row.walk 1).d) (sd_ret (ed_var 4) (rfl))))))))))), .inl ⟨rfl, fun _ _ h => nomatch h⟩⟩
  | exact b y => exact ⟨.rt { m with boxes := m.boxes.set (b).toNat (madeV m (.exact b y)) } (m.row.walk 1).d, mb_cons (md_of (r := .nx _) (sd_asg (ed_var 1) (gd_star 2 3 rfl sc_Machine_do.nd ((le rfl))))) (mb_cons (md_of (r := .nx _) (sd_set 4 sc_Machine_do.nd (ed_call (pf_walked_so T) (hr.mono (by decide)) (ad_cons (ed_fld (cl_Machine T) (no_Machine_own_row T) (fun _ M => mat_row M)) (ad_cons ed_int (ad_cons ed_non ad_nil))) (⟨_, _, hw, rfl, rfl⟩)))) (mb_iff (td_is (td_eqS (ed_var 2) ed_str) rfl) (mb_iff (td_is (td_eqS (ed_var 2) ed_str) rfl) (mb_iff (td_is (td_eqS (ed_var 2) ed_str) rfl) (mb_iff (td_is (td_eqS (ed_var 2) ed_str) rfl) (mb_iff (td_is (td_eqS (ed_var 2) ed_str) rfl) (mb_cons (md_if (p := false) (td_is (td_in (ed_var 2) (ed_tup (ad_cons ed_str (ad_cons ed_str (ad_cons ed_str ad_nil)))) (by first | exact .inl rfl | exact .inr rfl)) rfl) (fun z => Bool.noConfusion z) (fun _ => mb_one (md_if (p := false) (td_is (td_eqS (ed_var 2) ed_str) rfl) (fun z => Bool.noConfusion z) (fun _ => mb_one (md_box (w := madeV m (.exact b y)) (b := b) T (ed_methM (cl_Machine T) (pm_made T) (hr.mono (by decide)) (ad_cons (ed_var 1) ad_nil) ⟨.exact b y, rfl, hk, ha, ht, hw, rfl, rfl⟩) (ed_if (p := false) (td_is (td_eqS (ed_var 2) ed_str) rfl) (fun h => Bool.noConfusion h) (fun _ => ed_if (p := false) (td_is (td_eqS (ed_var 2) ed_str) rfl) (fun h => Bool.noConfusion h) (fun _ => ed_ixL (ed_var 3) ed_int))) hk.1))))) (by
        letI J2 : SJ := mJ K H A { m with boxes := m.boxes.set (b).toNat (madeV m (.exact b y)) }
        exact mb_one (md_of (r := .rt (m.row.walk 1).d) (sd_ret (ed_var 4) (rfl))))))))))), .inl ⟨rfl, fun _ _ h => nomatch h⟩⟩
  | less b z => exact ⟨.rt { m with boxes := m.boxes.set (b).toNat (madeV m (.less b z)) } (m.row.walk 1).d, mb_cons (md_of (r := .nx _) (sd_asg (ed_var 1) (gd_star 2 3 rfl sc_Machine_do.nd ((le rfl))))) (mb_cons (md_of (r := .nx _) (sd_set 4 sc_Machine_do.nd (ed_call (pf_walked_so T) (hr.mono (by decide)) (ad_cons (ed_fld (cl_Machine T) (no_Machine_own_row T) (fun _ M => mat_row M)) (ad_cons ed_int (ad_cons ed_non ad_nil))) (⟨_, _, hw, rfl, rfl⟩)))) (mb_iff (td_is (td_eqS (ed_var 2) ed_str) rfl) (mb_iff (td_is (td_eqS (ed_var 2) ed_str) rfl) (mb_iff (td_is (td_eqS (ed_var 2) ed_str) rfl) (mb_iff (td_is (td_eqS (ed_var 2) ed_str) rfl) (mb_iff (td_is (td_eqS (ed_var 2) ed_str) rfl) (mb_cons (md_if (p := false) (td_is (td_in (ed_var 2) (ed_tup (ad_cons ed_str (ad_cons ed_str (ad_cons ed_str ad_nil)))) (by first | exact .inl rfl | exact .inr rfl)) rfl) (fun z => Bool.noConfusion z) (fun _ => mb_one (md_if (p := false) (td_is (td_eqS (ed_var 2) ed_str) rfl) (fun z => Bool.noConfusion z) (fun _ => mb_one (md_box (w := madeV m (.less b z)) (b := b) T (ed_methM (cl_Machine T) (pm_made T) (hr.mono (by decide)) (ad_cons (ed_var 1) ad_nil) ⟨.less b z, rfl, hk, ha, ht, hw, rfl, rfl⟩) (ed_if (p := false) (td_is (td_eqS (ed_var 2) ed_str) rfl) (fun h => Bool.noConfusion h) (fun _ => ed_if (p := false) (td_is (td_eqS (ed_var 2) ed_str) rfl) (fun h => Bool.noConfusion h) (fun _ => ed_ixL (ed_var 3) ed_int))) hk.1))))) (by
        letI J2 : SJ := mJ K H A { m with boxes := m.boxes.set (b).toNat (madeV m (.less b z)) }
        exact mb_one (md_of (r := .rt (m.row.walk 1).d) (sd_ret (ed_var 4) (rfl))))))))))), .inl ⟨rfl, fun _ _ h => nomatch h⟩⟩
  | sl b c => exact ⟨.rt { m with boxes := m.boxes.set (b).toNat (madeV m (.sl b c)) } (m.row.walk 1).d, mb_cons (md_of (r := .nx _) (sd_asg (ed_var 1) (gd_star 2 3 rfl sc_Machine_do.nd ((le rfl))))) (mb_cons (md_of (r := .nx _) (sd_set 4 sc_Machine_do.nd (ed_call (pf_walked_so T) (hr.mono (by decide)) (ad_cons (ed_fld (cl_Machine T) (no_Machine_own_row T) (fun _ M => mat_row M)) (ad_cons ed_int (ad_cons ed_non ad_nil))) (⟨_, _, hw, rfl, rfl⟩)))) (mb_iff (td_is (td_eqS (ed_var 2) ed_str) rfl) (mb_iff (td_is (td_eqS (ed_var 2) ed_str) rfl) (mb_iff (td_is (td_eqS (ed_var 2) ed_str) rfl) (mb_iff (td_is (td_eqS (ed_var 2) ed_str) rfl) (mb_iff (td_is (td_eqS (ed_var 2) ed_str) rfl) (mb_cons (md_if (p := false) (td_is (td_in (ed_var 2) (ed_tup (ad_cons ed_str (ad_cons ed_str (ad_cons ed_str ad_nil)))) (by first | exact .inl rfl | exact .inr rfl)) rfl) (fun z => Bool.noConfusion z) (fun _ => mb_one (md_if (p := false) (td_is (td_eqS (ed_var 2) ed_str) rfl) (fun z => Bool.noConfusion z) (fun _ => mb_one (md_box (w := madeV m (.sl b c)) (b := b) T (ed_methM (cl_Machine T) (pm_made T) (hr.mono (by decide)) (ad_cons (ed_var 1) ad_nil) ⟨.sl b c, rfl, hk, ha, ht, hw, rfl, rfl⟩) (ed_if (p := false) (td_is (td_eqS (ed_var 2) ed_str) rfl) (fun h => Bool.noConfusion h) (fun _ => ed_if (p := false) (td_is (td_eqS (ed_var 2) ed_str) rfl) (fun h => Bool.noConfusion h) (fun _ => ed_ixL (ed_var 3) ed_int))) hk.1))))) (by
        letI J2 : SJ := mJ K H A { m with boxes := m.boxes.set (b).toNat (madeV m (.sl b c)) }
        exact mb_one (md_of (r := .rt (m.row.walk 1).d) (sd_ret (ed_var 4) (rfl))))))))))), .inl ⟨rfl, fun _ _ h => nomatch h⟩⟩
  | opn b c => exact ⟨.rt { m with boxes := m.boxes.set (b).toNat (madeV m (.opn b c)) } (m.row.walk 1).d, mb_cons (md_of (r := .nx _) (sd_asg (ed_var 1) (gd_star 2 3 rfl sc_Machine_do.nd ((le rfl))))) (mb_cons (md_of (r := .nx _) (sd_set 4 sc_Machine_do.nd (ed_call (pf_walked_so T) (hr.mono (by decide)) (ad_cons (ed_fld (cl_Machine T) (no_Machine_own_row T) (fun _ M => mat_row M)) (ad_cons ed_int (ad_cons ed_non ad_nil))) (⟨_, _, hw, rfl, rfl⟩)))) (mb_iff (td_is (td_eqS (ed_var 2) ed_str) rfl) (mb_iff (td_is (td_eqS (ed_var 2) ed_str) rfl) (mb_iff (td_is (td_eqS (ed_var 2) ed_str) rfl) (mb_iff (td_is (td_eqS (ed_var 2) ed_str) rfl) (mb_iff (td_is (td_eqS (ed_var 2) ed_str) rfl) (mb_cons (md_if (p := false) (td_is (td_in (ed_var 2) (ed_tup (ad_cons ed_str (ad_cons ed_str (ad_cons ed_str ad_nil)))) (by first | exact .inl rfl | exact .inr rfl)) rfl) (fun z => Bool.noConfusion z) (fun _ => mb_one (md_if (p := false) (td_is (td_eqS (ed_var 2) ed_str) rfl) (fun z => Bool.noConfusion z) (fun _ => mb_one (md_box (w := madeV m (.opn b c)) (b := b) T (ed_methM (cl_Machine T) (pm_made T) (hr.mono (by decide)) (ad_cons (ed_var 1) ad_nil) ⟨.opn b c, rfl, hk, ha, ht, hw, rfl, rfl⟩) (ed_if (p := false) (td_is (td_eqS (ed_var 2) ed_str) rfl) (fun h => Bool.noConfusion h) (fun _ => ed_if (p := false) (td_is (td_eqS (ed_var 2) ed_str) rfl) (fun h => Bool.noConfusion h) (fun _ => ed_ixL (ed_var 3) ed_int))) hk.1))))) (by
        letI J2 : SJ := mJ K H A { m with boxes := m.boxes.set (b).toNat (madeV m (.opn b c)) }
        exact mb_one (md_of (r := .rt (m.row.walk 1).d) (sd_ret (ed_var 4) (rfl))))))))))), .inl ⟨rfl, fun _ _ h => nomatch h⟩⟩
  | ent b => exact ⟨.rt { m with boxes := m.boxes.set (b).toNat (madeV m (.ent b)) } (m.row.walk 1).d, mb_cons (md_of (r := .nx _) (sd_asg (ed_var 1) (gd_star 2 3 rfl sc_Machine_do.nd ((le rfl))))) (mb_cons (md_of (r := .nx _) (sd_set 4 sc_Machine_do.nd (ed_call (pf_walked_so T) (hr.mono (by decide)) (ad_cons (ed_fld (cl_Machine T) (no_Machine_own_row T) (fun _ M => mat_row M)) (ad_cons ed_int (ad_cons ed_non ad_nil))) (⟨_, _, hw, rfl, rfl⟩)))) (mb_iff (td_is (td_eqS (ed_var 2) ed_str) rfl) (mb_iff (td_is (td_eqS (ed_var 2) ed_str) rfl) (mb_iff (td_is (td_eqS (ed_var 2) ed_str) rfl) (mb_iff (td_is (td_eqS (ed_var 2) ed_str) rfl) (mb_iff (td_is (td_eqS (ed_var 2) ed_str) rfl) (mb_cons (md_if (p := false) (td_is (td_in (ed_var 2) (ed_tup (ad_cons ed_str (ad_cons ed_str (ad_cons ed_str ad_nil)))) (by first | exact .inl rfl | exact .inr rfl)) rfl) (fun z => Bool.noConfusion z) (fun _ => mb_one (md_if (p := false) (td_is (td_eqS (ed_var 2) ed_str) rfl) (fun z => Bool.noConfusion z) (fun _ => mb_one (md_box (w := madeV m (.ent b)) (b := b) T (ed_methM (cl_Machine T) (pm_made T) (hr.mono (by decide)) (ad_cons (ed_var 1) ad_nil) ⟨.ent b, rfl, hk, ha, ht, hw, rfl, rfl⟩) (ed_if (p := false) (td_is (td_eqS (ed_var 2) ed_str) rfl) (fun h => Bool.noConfusion h) (fun _ => ed_if (p := false) (td_is (td_eqS (ed_var 2) ed_str) rfl) (fun h => Bool.noConfusion h) (fun _ => ed_ixL (ed_var 3) ed_int))) hk))))) (by
        letI J2 : SJ := mJ K H A { m with boxes := m.boxes.set (b).toNat (madeV m (.ent b)) }
        exact mb_one (md_of (r := .rt (m.row.walk 1).d) (sd_ret (ed_var 4) (rfl))))))))))), .inl ⟨rfl, fun _ _ h => nomatch h⟩⟩
  | ask b x c => exact ⟨.rt { m with boxes := m.boxes.set (c).toNat (madeV m (.ask b x c)) } (m.row.walk 1).d, mb_cons (md_of (r := .nx _) (sd_asg (ed_var 1) (gd_star 2 3 rfl sc_Machine_do.nd ((le rfl))))) (mb_cons (md_of (r := .nx _) (sd_set 4 sc_Machine_do.nd (ed_call (pf_walked_so T) (hr.mono (by decide)) (ad_cons (ed_fld (cl_Machine T) (no_Machine_own_row T) (fun _ M => mat_row M)) (ad_cons ed_int (ad_cons ed_non ad_nil))) (⟨_, _, hw, rfl, rfl⟩)))) (mb_iff (td_is (td_eqS (ed_var 2) ed_str) rfl) (mb_iff (td_is (td_eqS (ed_var 2) ed_str) rfl) (mb_iff (td_is (td_eqS (ed_var 2) ed_str) rfl) (mb_iff (td_is (td_eqS (ed_var 2) ed_str) rfl) (mb_iff (td_is (td_eqS (ed_var 2) ed_str) rfl) (mb_cons (md_if (p := false) (td_is (td_in (ed_var 2) (ed_tup (ad_cons ed_str (ad_cons ed_str (ad_cons ed_str ad_nil)))) (by first | exact .inl rfl | exact .inr rfl)) rfl) (fun z => Bool.noConfusion z) (fun _ => mb_one (md_if (p := false) (td_is (td_eqS (ed_var 2) ed_str) rfl) (fun z => Bool.noConfusion z) (fun _ => mb_one (md_box (w := madeV m (.ask b x c)) (b := c) T (ed_methM (cl_Machine T) (pm_made T) (hr.mono (by decide)) (ad_cons (ed_var 1) ad_nil) ⟨.ask b x c, rfl, hk, ha, ht, hw, rfl, rfl⟩) (ed_if (p := true) (td_is (td_eqS (ed_var 2) ed_str) rfl) (fun _ => ed_ixL (ed_var 3) (ed_neg ed_int)) (fun h => Bool.noConfusion h)) hk.2.2))))) (by
        letI J2 : SJ := mJ K H A { m with boxes := m.boxes.set (c).toNat (madeV m (.ask b x c)) }
        exact mb_one (md_of (r := .rt (m.row.walk 1).d) (sd_ret (ed_var 4) (rfl))))))))))), .inl ⟨rfl, fun _ _ h => nomatch h⟩⟩
  | here b => exact ⟨.rt { m with boxes := m.boxes.set (b).toNat (madeV m (.here b)) } (m.row.walk 1).d, mb_cons (md_of (r := .nx _) (sd_asg (ed_var 1) (gd_star 2 3 rfl sc_Machine_do.nd ((le rfl))))) (mb_cons (md_of (r := .nx _) (sd_set 4 sc_Machine_do.nd (ed_call (pf_walked_so T) (hr.mono (by decide)) (ad_cons (ed_fld (cl_Machine T) (no_Machine_own_row T) (fun _ M => mat_row M)) (ad_cons ed_int (ad_cons ed_non ad_nil))) (⟨_, _, hw, rfl, rfl⟩)))) (mb_iff (td_is (td_eqS (ed_var 2) ed_str) rfl) (mb_iff (td_is (td_eqS (ed_var 2) ed_str) rfl) (mb_iff (td_is (td_eqS (ed_var 2) ed_str) rfl) (mb_iff (td_is (td_eqS (ed_var 2) ed_str) rfl) (mb_iff (td_is (td_eqS (ed_var 2) ed_str) rfl) (mb_cons (md_if (p := false) (td_is (td_in (ed_var 2) (ed_tup (ad_cons ed_str (ad_cons ed_str (ad_cons ed_str ad_nil)))) (by first | exact .inl rfl | exact .inr rfl)) rfl) (fun z => Bool.noConfusion z) (fun _ => mb_one (md_if (p := false) (td_is (td_eqS (ed_var 2) ed_str) rfl) (fun z => Bool.noConfusion z) (fun _ => mb_one (md_box (w := madeV m (.here b)) (b := b) T (ed_methM (cl_Machine T) (pm_made T) (hr.mono (by decide)) (ad_cons (ed_var 1) ad_nil) ⟨.here b, rfl, hk, ha, ht, hw, rfl, rfl⟩) (ed_if (p := false) (td_is (td_eqS (ed_var 2) ed_str) rfl) (fun h => Bool.noConfusion h) (fun _ => ed_if (p := false) (td_is (td_eqS (ed_var 2) ed_str) rfl) (fun h => Bool.noConfusion h) (fun _ => ed_ixL (ed_var 3) ed_int))) hk))))) (by
        letI J2 : SJ := mJ K H A { m with boxes := m.boxes.set (b).toNat (madeV m (.here b)) }
        exact mb_one (md_of (r := .rt (m.row.walk 1).d) (sd_ret (ed_var 4) (rfl))))))))))), .inl ⟨rfl, fun _ _ h => nomatch h⟩⟩
end
end Sr

set_option Elab.async false
set_option linter.all false
set_option maxRecDepth 100000
set_option maxHeartbeats 4000000
/-! A step. -/
namespace Sr
open PySem PySem.Spec PyProof.Rows L2
open Evl (Ex)
open L2H (HotC RoomH)
section
variable {X : Cx} {CX : CXT} {k : Nat} {f C : Addr} {fd : FuncData} {ps : List Str} {sp : Sp} {E : L2.St → XK} {m : Str} {pos apos : Pos} {e o : Expr} {es : List Expr} {ta : TE} {t : TA}
theorem pe_methW {pl : Sem Bool} (he : PE X o ta) (c : Cls X.K C) (hm : Meth X.K C m f) (F : FnOk X.prog X.w X.K X.mg X.base CX k f fd ps sp) (hr : Room k X.A) (hb : Binds X.K fd ps []) (hx : ∀ σ, PassesAt CX X σ (E σ)) (ha : PA X (e :: es) t)
    (hst : starEach (e :: es) X.env = (false, eval e X.env) :: starEach es X.env := by rfl) (hpl : (backTo pos (starEach es X.env)).any (·.1) = false := by rfl)
    (ht : eval (.Call (.Attribute o m apos) (e :: es) [] pos) X.env = (do
      let ov ← eval o X.env
      standAt apos.atName
      let (f, first) ← holding [ov] (getMethod ov m pl)
      callWith pos f first (backTo pos (starEach (e :: es) X.env)) (backToKw pos (keywordEach [] X.env))) := by rfl) :
    PE X (.Call (.Attribute o m apos) (e :: es) [] pos) (L2H.tMethH C m sp E ta t) := by
  refine ⟨fun pins s σ H Q I h => ?_⟩
  refine PySem.W.methodCall_KW (pl := pl) (thn (he.run pins s σ H _ I h) fun u s1 ⟨x, H1, I1, rx, a, dx, fs, ex, ea, l, q⟩ => ?_) ht
  subst ex
  obtain rfl : u = Value.ref a := rx
  refine getmeth_ok I1 ea c hm l ?_
  refine PySem.W.callWith_K (first := [.ref a]) (h₀ := X.base) I.ok.mod.kin hm.kp (thn (ha.run pos pins s1 σ H1 _ I1 q) fun us s2 ⟨vs, H2, I2, r, q2⟩ => ⟨I2.kIn, ?_⟩) hst hpl
  exact run_fnS (us := .ref a :: us) (vs := .ref a :: vs) F hr hb (hx σ) I2 (.cons rfl r) q2
theorem pe_methW0 {pl : Sem Bool} (he : PE X o ta) (c : Cls X.K C) (hm : Meth X.K C m f) (F : FnOk X.prog X.w X.K X.mg X.base CX k f fd ps sp) (hr : Room k X.A) (hb : Binds X.K fd ps []) (hx : ∀ σ, PassesAt CX X σ (E σ))
    (ht : eval (.Call (.Attribute o m apos) [] [] pos) X.env = (do
      let ov ← eval o X.env
      standAt apos.atName
      let (f, first) ← holding [ov] (getMethod ov m pl)
      callWith pos f first (backTo pos (starEach [] X.env)) (backToKw pos (keywordEach [] X.env))) := by rfl) :
    PE X (.Call (.Attribute o m apos) [] [] pos) (L2H.tMethH C m sp E ta tNil) := by
  refine ⟨fun pins s σ H Q I h => ?_⟩
  refine PySem.W.methodCall_KW (pl := pl) (thn (he.run pins s σ H _ I h) fun u s1 ⟨x, H1, I1, rx, a, dx, fs, ex, ea, l, q⟩ => ?_) ht
  subst ex
  obtain rfl : u = Value.ref a := rx
  refine getmeth_ok I1 ea c hm l ?_
  exact PySem.W.callWith_K0 (first := [.ref a]) I1.kIn hm.kp (run_fnS (us := [.ref a]) (vs := [.ref a]) F hr hb (hx σ) I1 (.cons rfl .nil) q)
end
theorem roomH_mark {k : Nat} {A : Around} {h : Option Value} (r : RoomH k A) : RoomH k (A.mark h) := ⟨r.dp, r.un⟩
/-- what a step that is done comes to -/
inductive StepTo (m : Ms) : Ms → Prop where
  | norow {y : Str} : rowR m = .ex y → y ∈ FAULTSl → StepTo m { m with out := true }
  | fault {row : Rw} {y : Str} : rowR m = .rt row.d → row.ok → DoOk m row → doR m row = .ex m y → y ∈ FAULTSl → StepTo m { m with out := true }
  | goes {row : Rw} {m' : Ms} {w : Wv} : rowR m = .rt row.d → row.ok → DoOk m row → doR m row = .rt m' w.d → StepTo m { m' with row := w }
section
variable {X : Cx} {E : XK} {H0 : Hp} {A : Ad} {m : Ms} {Δ : Dl} {p apos pos : Pos} {x : Str}
/-- self.outcome is not None -/
theorem td_outcome (T : Tx X.prog X.w X.K X.mg X.base) {j pp} (hN : X.N[0]? = some x := by rfl) (hv : Vis X.env.scope x := by first | exact Or.inl rfl | exact Or.inr (Or.inl rfl) | exact Or.inr (Or.inr rfl)) (hd : (x == ("__debug__" : Str)) = false := by decide) (hcd : (x == ("__classdict__" : Str)) = false := by decide)
    (hba : attributeBase (.Name x p) "outcome" X.env (eval (.Name x p) X.env) = eval (.Name x p) X.env := by rfl) : @TD (mJ X.K H0 A m) X (.Compare (.Attribute (.Name x p) "outcome" apos) [.IsNot] [.Constant .none j pp] pos) Δ m.out := by
  letI : SJ := mJ X.K H0 A m
  refine ⟨_, pt_cmpR op_notN (pe_fld (pv 0 hN hv hd hcd) hba) pe_non (nomark _), fun σ H s Q q => ?_⟩
  obtain ⟨h0, M, e0⟩ := s.1.1
  obtain ⟨sb, vr, ho, n, vo, i1, i2, i3⟩ := M.ins
  refine ⟨_, h0, A.a, cM X.K, A.dx, _, vo, rfl, i1, cl_Machine T, no_Machine_outcome T, rfl, rfl, _, rfl, ?_⟩
  cases ho' : m.out with
  | true =>
    rw [ho', if_pos rfl] at i3
    rw [decide_eq_false i3]
    have := q H (Ex.refl H)
    rw [ho'] at this
    exact this
  | false =>
    rw [ho', if_neg Bool.false_ne_true] at i3
    rw [decide_eq_true i3]
    have := q H (Ex.refl H)
    rw [ho'] at this
    exact this
/-- self.many_steps += 1 -/
theorem md_steps (T : Tx X.prog X.w X.K X.mg X.base) {i : Int} {j pp} (hN : X.N[0]? = some x := by rfl) (hv : Vis X.env.scope x := by first | exact Or.inl rfl | exact Or.inr (Or.inl rfl) | exact Or.inr (Or.inr rfl)) (hd : (x == ("__debug__" : Str)) = false := by decide) (hcd : (x == ("__classdict__" : Str)) = false := by decide) :
    MD X E H0 A (.AugAssign (.Attribute (.Name x p) "many_steps" apos) .Add (.Constant (.int i) j pp) pos) m Δ (.nx m (keepD Δ)) := by
  refine ⟨_, ps_fldaug (pv 0 hN hv hd hcd) pe_int in_add, fun D σ H s q => ?_⟩
  obtain ⟨h0, M, e0⟩ := s.1.1
  obtain ⟨sb, vr, ho, n, vo, i1, i2, i3⟩ := M.ins
  refine ⟨_, h0, A.a, cM X.K, A.dx, _, .int n, rfl, i1, cl_Machine T, no_Machine_many_steps T, rfl, n, i, rfl, rfl, A.dx, _, i1, by show 14 < 1000; decide, ?_⟩
  have e2 : putF ("many_steps" : Str) (.int (n + i)) (mkFs A sb vr ho n vo) = mkFs A sb vr ho (n + i) vo := rfl
  rw [e2]
  have M2 := M.self (sb := sb) (ho := ho) (n := n + i) (out := m.out) (vo := vo) (w := m.row) i2 i3
  exact q σ _ (s.chg (p := A.a) (by simp [Ad.S]) M2)
end
section
variable {P : Program} {w : World} {K : PySem.W.Frag} {mg : Str → Option Value} {base : Heap}
theorem sc_Machine_step : FnScope ["self", "e"] ["self"] (defScope t_Machine_step) := ⟨rfl, rfl, rfl, by decide +kernel, rfl, by decide +kernel, by decide +kernel⟩
def R_step : Ms → List PyData → Mr → Prop := fun m ds r => ∃ m', ds = [] ∧ r = .rt m' .none ∧ ((m.out = true ∧ m' = m) ∨ (m.out = false ∧ m.allOk ∧ m.row.Ok ∧ m.row.t = true ∧ StepTo m m'))
theorem md_step {f : Addr} {cdv : Value} {Ar : Around} {outer : List Env} {s : Shared} {H0 : Hp} {E : XK} {A : Ad} {m m' : Ms} (T : Tx P w K mg base) (hr : Room 10 (cxR P w K mg base ["self", "e"] "Machine.step" (defScope t_Machine_step) f cdv Ar outer s H0 E).A)
    (ha : m.allOk) (hw : m.row.Ok) (ht : m.row.t = true) (st : StepTo m m') : MD (cxR P w K mg base ["self", "e"] "Machine.step" (defScope t_Machine_step) f cdv Ar outer s H0 E) E H0 A (match defBody t_Machine_step with | [_, _, st] => st | _ => default) m [none, none] (.nx m' [none, none]) := by
  obtain ⟨_, _, _, F1, me1, b1⟩ := (pn_row_now T).ex
  obtain ⟨_, _, _, F2, me2, b2⟩ := (pn_do T).ex
  obtain ⟨_, _, _, F3, me3, b3⟩ := (pnh_fall T).ex
  refine ⟨_, L2N.ps_try_as (i := 1) (c := .ref (cF K)) (tb := fun W => sFld K (tVar 0) (L2H.tMethH (cM K) "do" (spN K R_do) (WE W) (tVar 0) (tCons (L2H.tMethH (cM K) "row_now" (spN K R_row_now) (WE W) (tVar 0) tNil) tNil)) "own_row")
    (ts := fun a cls d => tDrop (L2H.tMethH (cM K) "fall" (spN K R_fall) (fun _ => E0) (tVar 0) (tCons (tXf a cls d (cF K) "word" (tVar 1)) tNil)))
    rfl rfl sc_Machine_step.nd rfl rfl ⟨rfl, by decide, .inl (gl_Fault T)⟩ tkR (fun W pn xe tk _ => ?_) (fun a oe cls d pn hz hf => ?_), fun D σ H s q => ?_⟩
  · have hr' : Room 10 ((cxR P w K mg base ["self", "e"] "Machine.step" (defScope t_Machine_step) f cdv Ar outer s H0 E).tr pn xe).A := hr
    refine pss_one ?_
    refine ps_fld (pv 0) ?_ rfl
    refine pe_methW (pv 0) (cl_Machine T) me2 F2 hr' b2 (L2N.passAt tk) (pa_cons ?_ pa_nil)
    exact pe_methW0 (pv 0) (cl_Machine T) me1 F1 (hr'.mono (by decide)) b1 (L2N.passAt tk)
  · refine pss_one (ps_expr (L2H.pe_methH (pv 0) (cl_Machine T) me3 F3 ?_ ?_ b3 (fun _ _ _ _ _ _ _ h => h.elim) (pa_cons (pe_xf (xfF T) (noF T) hz.zc hf (pv 1)) pa_nil)))
    · exact roomH_mark ((L2H.roomH_of hr).mono (by decide))
    · obtain ⟨vs, hd⟩ := hf
      exact ⟨(a, oe), ⟨rfl, vs, hd, hz.2.2 vs hd⟩, List.mem_cons_self⟩
  · obtain ⟨h0, M, e0⟩ := s.1.1
    have ln : σ.length = 2 := s.1.2
    have fin : ∀ {m2 : Ms} {H2 : Hp} {σ2 : L2.St}, σ2[0]? = some (some (.ref A.a)) → σ2.length = 2 → MAt K H2 A m2 → Ex (cut A.S H0) (cut A.S H2) → @Sl (mJ K H0 A m2) K H2 σ2 [none, none] := fun {m2 H2 σ2} a b M2 e2 => ⟨⟨⟨a, M2, e2⟩, b⟩, fun i d h => by
      match i, h with
      | 0, h => cases h
      | 1, h => cases h
      | i + 2, h => cases h⟩
    -- the handler
    have hnd : ∀ {y : Str} {p : Addr} {H2 : Hp}, y ∈ FAULTSl → m' = { m with out := true } → MAt K H2 A m → Ex (cut A.S H0) (cut A.S H2) → H2 p = some (.xd [(("word" : Str), .str y)]) →
        wAs K (.ref (cF K)) 1 (fun a cls d => tDrop (L2H.tMethH (cM K) "fall" (spN K R_fall) (fun _ => E0) (tVar 0) (tCons (tXf a cls d (cF K) "word" (tVar 1)) tNil))) (fun cls d _ H => E cls d H) D (.ref (cF K)) (some p) σ H2 := fun {y p H2} hy em M2 e2 hx => by
      subst em
      refine ⟨true, exmF T, fun _ a ha => ?_, fun z => Bool.noConfusion z⟩
      obtain ⟨fs, h1, h2⟩ := mat_no (nm := "fall") M2 (fun _ _ _ _ _ => rfl)
      refine ⟨_, by rw [List.getElem?_set_ne (by decide)]; exact h0, A.a, A.dx, fs, rfl, h1, h2, ⟨_, List.getElem?_set_self (by rw [ln]; decide), rfl, rfl, p, _, .str y, rfl, hx, rfl, ?_⟩⟩
      refine ⟨A, m, [.str y], [.str y], .rt { m with out := true } .none, rfl, .cons (.str y) .nil, M2, ⟨y, hy, rfl, rfl⟩, fun v H3 M3 e3 r3 => ?_⟩
      exact q _ H3 (fin (by rw [List.getElem?_set_ne (by decide), List.getElem?_set_ne (by decide)]; exact h0) (by rw [List.length_set, List.length_set]; exact ln) M3 (e2.trans e3))
    obtain ⟨fs, h1, h2⟩ := mat_no (nm := "do") M (fun _ _ _ _ _ => rfl)
    obtain ⟨fs', h1', h2'⟩ := mat_no (nm := "row_now") M (fun _ _ _ _ _ => rfl)
    refine ⟨_, h0, A.a, A.dx, fs, rfl, h1, h2, ⟨_, h0, A.a, A.dx, fs', rfl, h1', h2', A, m, [], [], liftR m (rowR m), rfl, .nil, M, ⟨hw, ht, rfl, rfl⟩, ?_⟩⟩
    cases st with
    | @norow y er hy =>
      rw [er]
      exact fun p H2 M2 e2 hx => hnd hy rfl M2 (e0.trans e2) hx
    | @fault row y er hk hd ed hy =>
      rw [er]
      refine fun v H1 M1 e1 r1 => ⟨A, m, [v], [row.d], doR m row, rfl, .cons r1 .nil, M1, ⟨row, hk, ha, hw, ht, hd, rfl, rfl⟩, ?_⟩
      rw [ed]
      exact fun p H2 M2 e2 hx => hnd hy rfl M2 ((e0.trans e1).trans e2) hx
    | @goes row m2 w er hk hd ed =>
      rw [er]
      refine fun v H1 M1 e1 r1 => ⟨A, m, [v], [row.d], doR m row, rfl, .cons r1 .nil, M1, ⟨row, hk, ha, hw, ht, hd, rfl, rfl⟩, ?_⟩
      rw [ed]
      refine fun v2 H2 M2 e2 r2 => ?_
      obtain ⟨sb, vr, ho, n, vo, i1, i2, i3⟩ := M2.ins
      refine ⟨_, h0, A.a, cM K, A.dx, _, rfl, i1, cl_Machine T, no_Machine_own_row T, by show 14 < 1000; decide, ?_⟩
      have e3 : putF ("own_row" : Str) v2 (mkFs A sb vr ho n vo) = mkFs A sb v2 ho n vo := rfl
      rw [e3]
      have M3 := M2.self (sb := sb) (ho := ho) (n := n) (out := m2.out) (w := w) r2 i3
      exact q σ _ (fin h0 ln M3 (by rw [cut_upd (by simp [Ad.S])]; exact (e0.trans e1).trans e2))
theorem pn_step (T : Tx P w K mg base) : PN P w K mg base 11 "step" R_step := by
  refine pn_of (N := ["self", "e"]) (ps := ["self"]) (n := 1) (k := 10) (fd_Machine_step T) sc_Machine_step (me_Machine_step T) rfl (fun m ds r h => by obtain ⟨m', rfl, rfl, _⟩ := h; rfl) (fun _ _ _ _ _ _ us hl => match us, hl with | [_], _ => rfl) ?_
  intro f cdv Ar outer s H E hr A m ds r M h
  obtain ⟨m', rfl, rfl, h⟩ := h
  rcases h with ⟨ho, rfl⟩ | ⟨ho, ha, hw, ht, st⟩
  · letI J : SJ := mJ K H A m'
    refine ⟨.rt m' .none, mb_ift (td_is (td_outcome T) ho) (mb_one md_retNone) (fun _ _ h => nomatch h), .inl ⟨rfl, fun _ _ h => nomatch h⟩⟩
  · letI J : SJ := mJ K H A m
    exact body_nx (mz_iff (td_is (td_outcome T) ho) (mz_cons (md_steps T) (mz_one (md_step T hr ha hw ht st))))
end
end Sr

set_option Elab.async false
set_option linter.all false
set_option maxRecDepth 100000
set_option maxHeartbeats 4000000
/-! Pointwise readings; results known by a property. -/
namespace Sr
open PySem PySem.Spec PyProof.Rows L2
open Evl (Ex)
def wE (X : Cx) (e : Expr) (σ : L2.St) (H : Hp) (Q : VK) : Prop := ∃ (t : TE) (Q0 : VK), PE X e t ∧ (∀ v H', Q0 v H' → Q v H') ∧ t σ H Q0
def wA (X : Cx) (es : List Expr) (σ : L2.St) (H : Hp) (Q : List V → Hp → Prop) : Prop := ∃ (t : TA) (Q0 : List V → Hp → Prop), PA X es t ∧ (∀ v H', Q0 v H' → Q v H') ∧ t σ H Q0
def wT (X : Cx) (e : Expr) (σ : L2.St) (H : Hp) (Q : Bool → Hp → Prop) : Prop := ∃ (t : TT) (Q0 : Bool → Hp → Prop), PT X e t ∧ (∀ v H', Q0 v H' → Q v H') ∧ t σ H Q0
def wG (X : Cx) (tg : Expr) (v : V) (σ : L2.St) (H : Hp) (Q : L2.St → Hp → Prop) : Prop := ∃ (t : TG) (Q0 : L2.St → Hp → Prop), PG X tg t ∧ (∀ v H', Q0 v H' → Q v H') ∧ t v σ H Q0
def wS (X : Cx) (st : Stmt) (D : Ends) (σ : L2.St) (H : Hp) : Prop := ∃ t, PS X st t ∧ t D σ H
def wB (X : Cx) (sts : List Stmt) (D : Ends) (σ : L2.St) (H : Hp) : Prop := ∃ t, PSs X sts t ∧ t D σ H
section
variable {X : Cx} {e c : Expr} {es : List Expr} {σ : L2.St} {H : Hp} {Q Q' : VK} {D : Ends} {st : Stmt} {sts A B : List Stmt} {pos : Pos}
theorem pE : PE X e (wE X e) := ⟨fun pins s σ H Q I ⟨t, Q0, p, m, h⟩ => thn (p.run pins s σ H Q0 I h) fun u s' ⟨v, H', I', r, q⟩ => ⟨v, H', I', r, m v H' q⟩⟩
theorem pA : PA X es (wA X es) := ⟨fun pos pins s σ H Q I ⟨t, Q0, p, m, h⟩ => thn (p.run pos pins s σ H Q0 I h) fun u s' ⟨v, H', I', r, q⟩ => ⟨v, H', I', r, m v H' q⟩⟩
theorem pT : PT X e (wT X e) := ⟨fun pins s σ H Q I ⟨t, Q0, p, m, h⟩ => thn (p.run pins s σ H Q0 I h) fun u s' ⟨H', I', q⟩ => ⟨H', I', m u H' q⟩⟩
theorem pG : PG X e (wG X e) := ⟨fun pins s σ H v u Q I r ⟨t, Q0, p, m, h⟩ => thn (p.run pins s σ H v u Q0 I r h) fun _ s' ⟨σ', H', I', q⟩ => ⟨σ', H', I', m σ' H' q⟩⟩
theorem pS : PS X st (wS X st) := ⟨fun pins s σ H D I ⟨t, p, h⟩ => p.run pins s σ H D I h⟩
theorem pB : PSs X sts (wB X sts) := ⟨fun pins s σ H D I ⟨t, p, h⟩ => p.run pins s σ H D I h⟩
theorem we_of {t : TE} (p : PE X e t) (h : t σ H Q) : wE X e σ H Q := ⟨t, Q, p, fun _ _ q => q, h⟩
theorem wa_of {t : TA} {Q : List V → Hp → Prop} (p : PA X es t) (h : t σ H Q) : wA X es σ H Q := ⟨t, Q, p, fun _ _ q => q, h⟩
theorem wt_of {t : TT} {Q : Bool → Hp → Prop} (p : PT X e t) (h : t σ H Q) : wT X e σ H Q := ⟨t, Q, p, fun _ _ q => q, h⟩
theorem we_mono (h : wE X e σ H Q) (m : ∀ v H', Q v H' → Q' v H') : wE X e σ H Q' := let ⟨t, Q0, p, m0, h0⟩ := h; ⟨t, Q0, p, fun v H' q => m v H' (m0 v H' q), h0⟩
theorem wb_cons (h : wS X st { D with nx := fun σ' H' => wB X sts D σ' H' } σ H) : wB X (st :: sts) D σ H := let ⟨t, p, h0⟩ := h; ⟨_, pss_cons p pB, h0⟩
theorem wb_nil (h : D.nx σ H) : wB X [] D σ H := ⟨_, pss_nil, h⟩
theorem wb_one (h : wS X st D σ H) : wB X [st] D σ H := let ⟨t, p, h0⟩ := h; ⟨_, pss_one p, h0⟩
theorem ws_of {t : TS} (p : PS X st t) (h : t D σ H) : wS X st D σ H := ⟨t, p, h⟩
theorem ws_ret (h : wE X e σ H D.rt) : wS X (.Return (some e) pos) D σ H := ⟨_, ps_ret pE, h⟩
theorem ws_if (h : wT X c σ H fun b H1 => if b = true then wB X A D σ H1 else wB X B D σ H1) : wS X (.If c A B pos) D σ H := ⟨_, ps_if pT pB pB, h⟩
theorem ws_expr (h : wE X e σ H fun _ H' => D.nx σ H') (hs : swapsWith e none pos.line X.env = pure false := by rfl) : wS X (.Expr e pos) D σ H := ⟨_, ps_expr pE hs, h⟩
theorem wa_nil {Q : List V → Hp → Prop} (h : Q [] H) : wA X [] σ H Q := wa_of pa_nil h
theorem wa_cons {Q : List V → Hp → Prop} (h : wE X e σ H fun v H1 => wA X es σ H1 fun vs H2 => Q (v :: vs) H2) (hs : starEach (e :: es) X.env = (false, eval e X.env) :: starEach es X.env := by rfl) : wA X (e :: es) σ H Q := wa_of (pa_cons pE pA hs) h
theorem we_ed [SJ] {Δ : Dl} {d : PyData} (h : ED X e Δ d) (s : Sl X.K H σ Δ) (q : ∀ v H', Ex H H' → Dp X.K H' v d → Q v H') : wE X e σ H Q := let ⟨_, p, g⟩ := h.ex; we_of p (g σ H s Q q)
theorem wt_td [SJ] {Δ : Dl} {b : Bool} {Q : Bool → Hp → Prop} (h : TD X e Δ b) (s : Sl X.K H σ Δ) (q : ∀ H', Ex H H' → Q b H') : wT X e σ H Q := let ⟨_, p, g⟩ := h.ex; wt_of p (g σ H s Q q)
end
/-! ### what slots hold -/
inductive Sv where
  | d (x : PyData)
  | l (ds : List PyData)
def Sv.dat : Sv → PyData
  | .d x => x
  | .l ds => .list ds
/-- H0: the heap at the start; a list is new since then and may change -/
def Hv (K : PySem.W.Frag) (H0 H : Hp) (v : V) : Sv → Prop
  | .d x => Dp K H v x
  | .l ds => ∃ l xs, v = .ref l ∧ H0 l = none ∧ H l = some (.lst xs) ∧ DpAll K H xs ds
theorem Hv.ex {K : PySem.W.Frag} {H0 H H' : Hp} {v : V} {s : Sv} (h : Hv K H0 H v s) (e : Ex H H') : Hv K H0 H' v s := by
  cases s with
  | d x => exact dp_ex e _ _ h
  | l ds =>
    obtain ⟨l, xs, h1, h2, h3, h4⟩ := h
    exact ⟨l, xs, h1, h2, e _ _ h3, dps_ex e _ _ h4⟩
theorem Hv.dp {K : PySem.W.Frag} {H0 H : Hp} {v : V} {s : Sv} (h : Hv K H0 H v s) : Dp K H v s.dat := by
  cases s with
  | d x => exact h
  | l ds =>
    obtain ⟨l, xs, rfl, h2, h3, h4⟩ := h
    exact .lst (SqL.of h3) h4
abbrev Sl2 := List (Option Sv)
def dl (Δ : Sl2) : Dl := Δ.map fun o => o.map Sv.dat
/-- what is owned: S may change, I tells of it -/
structure OJ (K : PySem.W.Frag) where
  S : List Addr
  I : L2.St → Hp → Prop
  ok : Nat → Prop
  ex : ∀ {σ : L2.St} {H H' : Hp}, Ex H H' → I σ H → I σ H'
  set : ∀ {σ : L2.St} {H : Hp} {i : Nat} {x : Option V}, ok i → I σ H → I (σ.set i x) H
  kind : ∀ {σ : L2.St} {H : Hp}, I σ H → ∀ p ∈ S, ∃ u, H p = some u ∧ (∀ xs, u ≠ .tup xs) ∧ ∀ ob x, u ≠ .frz ob x
@[reducible] def OJ.sj {K : PySem.W.Frag} (Z : OJ K) : SJ := ⟨Z.I, Z.ok, Z.ex, Z.set⟩
structure Sc {K : PySem.W.Frag} (Z : OJ K) (H0 H : Hp) (σ : L2.St) (Δ : Sl2) : Prop where
  I : Z.I σ H
  len : σ.length = Δ.length
  fr : Ex (cut Z.S H0) (cut Z.S H)
  at_ : ∀ (i : Nat) (s : Sv), Δ[i]? = some (some s) → ∃ v, σ[i]? = some (some v) ∧ Hv K H0 (cut Z.S H) v s
section
variable {K : PySem.W.Frag} {Z : OJ K} {H0 H H' : Hp} {σ : L2.St} {Δ : Sl2}
theorem Sc.sl (s : Sc Z H0 H σ Δ) : @Sl Z.sj K H σ (dl Δ) := by
  refine ⟨⟨s.I, by rw [s.len]; exact (List.length_map _).symm⟩, fun i d h => ?_⟩
  unfold dl at h
  rw [List.getElem?_map] at h
  cases q : Δ[i]? with
  | none => rw [q] at h; cases h
  | some o =>
    rw [q] at h
    cases o with
    | none => cases h
    | some s' =>
      have e : s'.dat = d := by simpa using h
      obtain ⟨v, h1, h2⟩ := s.at_ i s' q
      exact ⟨v, h1, e ▸ dp_ex cut_le _ _ h2.dp⟩
theorem Sc.ex (s : Sc Z H0 H σ Δ) (e : Ex H H') : Sc Z H0 H' σ Δ := ⟨Z.ex e s.I, s.len, s.fr.trans (cut_ex e), fun i s' h => let ⟨v, a, b⟩ := s.at_ i s' h; ⟨v, a, b.ex (cut_ex e)⟩⟩
theorem Sc.chg (s : Sc Z H0 H σ Δ) (e : Ex (cut Z.S H) (cut Z.S H')) (I : Z.I σ H') : Sc Z H0 H' σ Δ := ⟨I, s.len, s.fr.trans e, fun i s' h => let ⟨v, a, b⟩ := s.at_ i s' h; ⟨v, a, b.ex e⟩⟩
theorem Sc.nocut (s : Sc Z H0 H σ Δ) : ∀ b ∈ Z.S, ∀ xs, ¬ Rd H b (.tup xs) := fun b hb xs z => by
  obtain ⟨u, h1, h2, h3⟩ := Z.kind s.I b hb
  rcases z with z | ⟨ob, z⟩ <;> rw [h1] at z <;> injection z with z
  · exact h2 _ z
  · exact h3 _ _ z
theorem Sc.dp (s : Sc Z H0 H σ Δ) {v : V} {d : PyData} (r : Dp K H v d) (ht : tupOnly d = true) : Dp K (cut Z.S H) v d := dp_cutB s.nocut _ _ ht r
theorem Sc.free (s : Sc Z H0 H σ Δ) {p : Addr} (h : H p = none) : p ∉ Z.S ∧ H0 p = none := by
  have h1 : p ∉ Z.S := fun hp => by
    obtain ⟨u, z, _⟩ := Z.kind s.I p hp
    rw [h] at z
    cases z
  refine ⟨h1, ?_⟩
  cases q : H0 p with
  | none => rfl
  | some o =>
    have h2 : cut Z.S H0 p = some o := by unfold cut; rw [if_neg h1]; exact q
    have h3 := cut_le _ _ (s.fr _ _ h2)
    rw [h] at h3
    cases h3
theorem cut_at {S : List Addr} {p : Addr} (h : p ∉ S) : cut S H p = H p := by unfold cut; rw [if_neg h]
theorem cut_some {S : List Addr} {p : Addr} {o : HO} (h : cut S H p = some o) : p ∉ S ∧ H p = some o := by
  unfold cut at h
  split at h
  · cases h
  · exact ⟨by assumption, h⟩
theorem Sc.set (s : Sc Z H0 H σ Δ) {i : Nat} {v : V} {x : Sv} (h0 : Z.ok i) (r : Hv K H0 (cut Z.S H) v x) : Sc Z H0 H (σ.set i (some v)) (Δ.set i (some x)) := by
  refine ⟨Z.set h0 s.I, by rw [List.length_set, List.length_set]; exact s.len, s.fr, fun j s' h => ?_⟩
  rw [List.getElem?_set] at h
  by_cases q : i = j
  · subst q
    rw [if_pos rfl] at h
    split at h
    · rename_i hl
      cases h
      exact ⟨v, by rw [List.getElem?_set_self (by rw [s.len]; exact hl)], r⟩
    · cases h
  · rw [if_neg q] at h
    obtain ⟨w, a, b⟩ := s.at_ j s' h
    exact ⟨w, by rw [List.getElem?_set_ne q]; exact a, b⟩
end
/-! ### expressions by a property of what they give -/
def KE (X : Cx) (Z : OJ X.K) (Δ : Sl2) (e : Expr) (P : Sv → Prop) : Prop := ∀ H0 σ H, Sc Z H0 H σ Δ → ∀ Q : VK, (∀ v H' s, P s → Sc Z H0 H' σ Δ → Ex (cut Z.S H) (cut Z.S H') → Hv X.K H0 (cut Z.S H') v s → Q v H') → wE X e σ H Q
inductive HvA (K : PySem.W.Frag) (H0 H : Hp) : List V → List Sv → Prop where
  | nil : HvA K H0 H [] []
  | cons {v : V} {s : Sv} {vs : List V} {ss : List Sv} : Hv K H0 H v s → HvA K H0 H vs ss → HvA K H0 H (v :: vs) (s :: ss)
theorem HvA.ex {K : PySem.W.Frag} {H0 H H' : Hp} (e : Ex H H') : ∀ {vs : List V} {ss : List Sv}, HvA K H0 H vs ss → HvA K H0 H' vs ss
  | _, _, .nil => .nil
  | _, _, .cons a b => .cons (a.ex e) (HvA.ex e b)
theorem HvA.dps {K : PySem.W.Frag} {H0 H : Hp} : ∀ {vs : List V} {ss : List Sv}, HvA K H0 H vs ss → DpAll K H vs (ss.map Sv.dat)
  | _, _, .nil => .nil
  | _, _, .cons a b => .cons a.dp (HvA.dps b)
def KA (X : Cx) (Z : OJ X.K) (Δ : Sl2) (es : List Expr) (P : List Sv → Prop) : Prop := ∀ H0 σ H, Sc Z H0 H σ Δ → ∀ Q : List V → Hp → Prop, (∀ vs H' ss, P ss → Sc Z H0 H' σ Δ → Ex (cut Z.S H) (cut Z.S H') → HvA X.K H0 (cut Z.S H') vs ss → Q vs H') → wA X es σ H Q
section
variable {X : Cx} {Z : OJ X.K} {Δ : Sl2} {e a b : Expr} {es : List Expr} {pos : Pos} {P Pa Pb : Sv → Prop} {Ps : List Sv → Prop}
theorem ke_imp (h : KE X Z Δ e Pa) (m : ∀ s, Pa s → P s) : KE X Z Δ e P := fun H0 σ H s Q q => h H0 σ H s Q fun v H' s' p => q v H' s' (m s' p)
theorem ke_ed {d : PyData} (h : @ED Z.sj X e (dl Δ) d) (ht : tupOnly d = true := by rfl) : KE X Z Δ e (fun s => s = .d d) := fun H0 σ H s Q q =>
  letI : SJ := Z.sj
  we_ed h s.sl fun v H' e1 r => q v H' (.d d) rfl (s.ex e1) (cut_ex e1) ((s.ex e1).dp r ht)
theorem ke_var (i : Nat) {s0 : Sv} {x : Str} (h : Δ[i]? = some (some s0) := by rfl) (hN : X.N[i]? = some x := by rfl) (hv : Vis X.env.scope x := by first | exact Or.inl rfl | exact Or.inr (Or.inl rfl) | exact Or.inr (Or.inr rfl))
    (hd : (x == ("__debug__" : Str)) = false := by decide) (hcd : (x == ("__classdict__" : Str)) = false := by decide) : KE X Z Δ (.Name x pos) (fun s => s = s0) := fun H0 σ H s Q q =>
  let ⟨v, e, r⟩ := s.at_ i s0 h
  we_of (pv i hN hv hd hcd) ⟨v, e, q v H s0 rfl s (Ex.refl _) r⟩
theorem ka_nil : KA X Z Δ [] (fun ss => ss = []) := fun H0 σ H s Q q => wa_nil (q [] H [] rfl s (Ex.refl _) .nil)
theorem ka_cons (h : KE X Z Δ e P) (hr : KA X Z Δ es Ps) (hs : starEach (e :: es) X.env = (false, eval e X.env) :: starEach es X.env := by rfl) : KA X Z Δ (e :: es) (fun ss => ∃ s r, ss = s :: r ∧ P s ∧ Ps r) := fun H0 σ H s Q q =>
  wa_cons (h H0 σ H s _ fun v H1 s1 p1 c1 e1 r1 => hr H0 σ H1 c1 _ fun vs H2 ss p2 c2 e2 r2 => q (v :: vs) H2 (s1 :: ss) ⟨s1, ss, rfl, p1, p2⟩ c2 (e1.trans e2) (.cons (r1.ex e2) r2)) hs
theorem Sc.new {K : PySem.W.Frag} {Z : OJ K} {H0 H : Hp} {σ : L2.St} {Δ : Sl2} (s : Sc Z H0 H σ Δ) {p : Addr} {o : HO} (h : H p = none) : Ex (cut Z.S H) (cut Z.S (upd H p o)) := cut_ex (Ex.new h)
theorem ke_tup {k} (h : KA X Z Δ es Ps) (hl : ∀ ss, Ps ss → ss.length ≤ 100) (m : ∀ ss, Ps ss → P (.d (.tuple (ss.map Sv.dat)))) : KE X Z Δ (.Tuple es k pos) P := fun H0 σ H s Q q =>
  we_of (pe_tup pA) (h H0 σ H s _ fun vs H1 ss p c e r => by
    have dp := r.dps
    refine ⟨by rw [dpa_len dp, List.length_map]; exact Nat.le_trans (hl ss p) (by decide), fun t ht => ?_⟩
    have en : Ex H1 (upd H1 t (.tup vs)) := Ex.new ht
    refine q _ _ _ (m ss p) (c.ex en) (e.trans (cut_ex en)) ?_
    exact .tup (SqT.of (by rw [cut_at (c.free ht).1, upd_same])) (dps_ex (cut_ex en) _ _ dp))
theorem ke_lst (h : KA X Z Δ es Ps) (hl : ∀ ss, Ps ss → ss.length ≤ 100) (m : ∀ ss, Ps ss → P (.l (ss.map Sv.dat))) : KE X Z Δ (.List es pos) P := fun H0 σ H s Q q =>
  we_of (pe_lst pA) (h H0 σ H s _ fun vs H1 ss p c e r => by
    have dp := r.dps
    refine ⟨by rw [dpa_len dp, List.length_map]; exact Nat.le_trans (hl ss p) (by decide), fun t ht => ?_⟩
    have en : Ex H1 (upd H1 t (.lst vs)) := Ex.new ht
    refine q _ _ _ (m ss p) (c.ex en) (e.trans (cut_ex en)) ⟨t, vs, rfl, (c.free ht).2, by rw [cut_at (c.free ht).1, upd_same], dps_ex (cut_ex en) _ _ dp⟩)
theorem ke_ixL (ha : KE X Z Δ a Pa) (hb : KE X Z Δ b Pb) (h : ∀ s n, Pa s → Pb n → ∃ ds j d, s.dat = .list ds ∧ n = .d (.int j) ∧ atI ds j = some d ∧ P (.d d)) (hs : PlainIx b := by exact fun _ _ => rfl) : KE X Z Δ (.Subscript a b pos) P := fun H0 σ H s Q q =>
  we_of (pe_ix ix_list pE pE hs) (ha H0 σ H s _ fun x H1 s1 p1 c1 e1 r1 => hb H0 σ H1 c1 _ fun y H2 s2 p2 c2 e2 r2 => by
    obtain ⟨ds, j, d, h1, rfl, h3, h4⟩ := h s1 s2 p1 p2
    have r1' := (r1.ex e2).dp
    rw [h1] at r1'
    obtain ⟨l, xs, rfl, hq, dp⟩ := dp_lst r1'
    obtain ⟨v, hv, rv⟩ := atI_dp dp h3
    exact ⟨l, xs, j, v, rfl, dp_int r2, Evl.ex_l cut_le hq, hv, q v H2 (.d d) h4 c2 (e1.trans e2) rv⟩)
theorem ke_cat (ha : KE X Z Δ a Pa) (hb : KE X Z Δ b Pb) (h : ∀ s t, Pa s → Pb t → ∃ ds es, s = .l ds ∧ t = .l es ∧ ds.length + es.length ≤ 1000 ∧ P (.l (ds ++ es))) : KE X Z Δ (.BinOp a .Add b pos) P := fun H0 σ H s Q q =>
  we_of (pe_op op_cat pE pE) (ha H0 σ H s _ fun x H1 s1 p1 c1 e1 r1 => hb H0 σ H1 c1 _ fun y H2 s2 p2 c2 e2 r2 => by
    obtain ⟨ds, es, rfl, rfl, h3, h4⟩ := h s1 s2 p1 p2
    obtain ⟨l, xs, rfl, hl0, hl, dl⟩ := r1.ex e2
    obtain ⟨k, ys, rfl, hk0, hk, dk⟩ := r2
    refine ⟨l, k, xs, ys, rfl, rfl, cut_le _ _ hl, cut_le _ _ hk, ?_, fun t ht => ?_⟩
    · rw [dpa_len dl, dpa_len dk]
      exact Nat.le_trans h3 (by decide)
    · have en : Ex H2 (upd H2 t (.lst (xs ++ ys))) := Ex.new ht
      exact q _ _ _ h4 (c2.ex en) ((e1.trans e2).trans (cut_ex en)) ⟨t, _, rfl, (c2.free ht).2, by rw [cut_at (c2.free ht).1, upd_same], dps_ex (cut_ex en) _ _ (dpa_app dl dk)⟩)
theorem ke_op {op : Operator} {f : Int → Int → Int} (ho : OpR X (binaryOp op) (rI0 fun i j => .int (f i j))) (ha : KE X Z Δ a Pa) (hb : KE X Z Δ b Pb) (h : ∀ s t, Pa s → Pb t → ∃ i j, s = .d (.int i) ∧ t = .d (.int j) ∧ P (.d (.int (f i j)))) : KE X Z Δ (.BinOp a op b pos) P := fun H0 σ H s Q q =>
  we_of (pe_op ho pE pE) (ha H0 σ H s _ fun x H1 s1 p1 c1 e1 r1 => hb H0 σ H1 c1 _ fun y H2 s2 p2 c2 e2 r2 => by
    obtain ⟨i, j, rfl, rfl, h4⟩ := h s1 s2 p1 p2
    exact ⟨i, j, dp_int r1, dp_int r2, q _ _ _ h4 c2 (e1.trans e2) (.int _)⟩)
end
/-! ### blocks -/
def KB (X : Cx) (Z : OJ X.K) (Δ : Sl2) (sts : List Stmt) (N : Sl2 → Prop) (R : Sv → Prop) : Prop := ∀ H0 σ H, Sc Z H0 H σ Δ → ∀ D : Ends, (∀ σ' H' Δ', N Δ' → Sc Z H0 H' σ' Δ' → D.nx σ' H') →
  (∀ v H' s, R s → (∃ σ', Z.I σ' H') → Ex (cut Z.S H0) (cut Z.S H') → Hv X.K H0 (cut Z.S H') v s → D.rt v H') → wB X sts D σ H
def noN : Sl2 → Prop := fun _ => False
def noR : Sv → Prop := fun _ => False
def keepS (o : Option Sv) : Option Sv := o.bind fun s => match s with | .d x => if tupOnly x = true then some (.d x) else none | .l _ => none
def keep2 (Δ : Sl2) : Sl2 := Δ.map keepS
theorem keep2_get {Δ : Sl2} {i : Nat} {s : Sv} (h : (keep2 Δ)[i]? = some (some s)) : Δ[i]? = some (some s) ∧ ∃ x, s = .d x ∧ tupOnly x = true := by
  unfold keep2 keepS at h
  rw [List.getElem?_map] at h
  cases q : Δ[i]? with
  | none => rw [q] at h; cases h
  | some o =>
    rw [q] at h
    cases o with
    | none => cases h
    | some s' =>
      cases s' with
      | l ds => cases h
      | d x =>
        have h' : (if tupOnly x = true then some (Sv.d x) else none) = some s := Option.some.inj h
        split at h'
        · rename_i ht
          cases h'
          exact ⟨rfl, x, rfl, ht⟩
        · cases h'
section
variable {X : Cx} {Z : OJ X.K} {Δ : Sl2} {e a b c : Expr} {es : List Expr} {sts A B : List Stmt} {pos px py pt pt2 : Pos} {P Pa Pb : Sv → Prop} {N : Sl2 → Prop} {R : Sv → Prop} {x y : Str}
theorem kb_nil (h : N Δ) : KB X Z Δ [] N R := fun H0 σ H s D n r => wb_nil (n σ H Δ h s)
theorem kb_ret (h : KE X Z Δ e P) (m : ∀ s, P s → R s) : KB X Z Δ (.Return (some e) pos :: sts) N R := fun H0 σ H s D n r => wb_cons (ws_ret (h H0 σ H s _ fun v H' s' p c e1 hv => r v H' s' (m s' p) ⟨σ, c.I⟩ c.fr hv))
theorem kb_set (i : Nat) (hN : X.N.Nodup) (h : KE X Z Δ e P) (hr : ∀ s, P s → KB X Z (Δ.set i (some s)) sts N R) (h0 : Z.ok i := by exact Nat.succ_ne_zero _) (hi : X.N[i]? = some x := by rfl) (hx : Loc X.env.scope x := by first | exact Or.inl rfl | exact Or.inr rfl)
    (hs : swapsWith e (some (.Name x px)) pos.line X.env = pure false := by rfl) (hf : X.fn x = true ∨ X.env.scope.names.lookup x = some .local := by first | exact .inl rfl | exact .inr rfl) : KB X Z Δ (.Assign [.Name x px] e pos :: sts) N R := fun H0 σ H s D n r =>
  wb_cons (ws_of (ps_set hN hi hx pE hs hf) (h H0 σ H s _ fun v H' s' p c e1 hv => hr s' p H0 _ H' (c.set h0 hv) D n r))
theorem kb_par2 (i j : Nat) (hc : X.calm = true) (hN : X.N.Nodup) (ha : KE X Z Δ a Pa) (hb : KE X Z Δ b Pb) (hr : ∀ s t, Pa s → Pb t → KB X Z ((Δ.set i (some s)).set j (some t)) sts N R) (h0 : Z.ok i := by exact Nat.succ_ne_zero _) (h1 : Z.ok j := by exact Nat.succ_ne_zero _) (hi : X.N[i]? = some x := by rfl) (hj : X.N[j]? = some y := by rfl) (hij : i ≠ j := by decide) {kt k2}
    (hx : X.env.scope.names.lookup x = some .local := by rfl) (hy : X.env.scope.names.lookup y = some .local := by rfl)
    (hst : starEach [a, b] X.env = (false, eval a X.env) :: starEach [b] X.env := by rfl) (hst2 : starEach [b] X.env = (false, eval b X.env) :: starEach [] X.env := by rfl)
    (hw : swappedStores [.Tuple [.Name x px, .Name y py] kt pt] (.Tuple [a, b] k2 pt2) X.env = pure (some [x, y]) := by rfl)
    (hs : swapsWithSole [.Tuple [.Name x px, .Name y py] kt pt] (.Tuple [a, b] k2 pt2) pos.line X.env = pure false := by rfl) : KB X Z Δ (.Assign [.Tuple [.Name x px, .Name y py] kt pt] (.Tuple [a, b] k2 pt2) pos :: sts) N R := fun H0 σ H s D n r =>
  wb_cons (ws_of (ps_par hc hN hi hj hij hx hy (pa_cons pE (pa_cons pE pa_nil hst2) hst) hw hs) (ha H0 σ H s _ fun v H1 s1 p1 c1 e1 r1 => hb H0 σ H1 c1 _ fun w H2 s2 p2 c2 e2 r2 =>
    ⟨v, w, rfl, hr s1 s2 p1 p2 H0 _ H2 ((c2.set h0 (r1.ex e2)).set h1 r2) D n r⟩))
/-- a test that is known -/
theorem kb_if {p : Bool} (hc : @TD Z.sj X c (dl Δ) p) (h1 : p = true → KB X Z Δ A N R) (h2 : p = false → KB X Z Δ B N R) : ∀ H0 σ H, Sc Z H0 H σ Δ → ∀ D : Ends, (∀ σ' H' Δ', N Δ' → Sc Z H0 H' σ' Δ' → D.nx σ' H') →
    (∀ v H' s, R s → (∃ σ', Z.I σ' H') → Ex (cut Z.S H0) (cut Z.S H') → Hv X.K H0 (cut Z.S H') v s → D.rt v H') → wS X (.If c A B pos) D σ H := fun H0 σ H s D n r =>
  letI : SJ := Z.sj
  ws_if (wt_td hc s.sl fun H1 e1 => by
    cases p with
    | true => exact h1 rfl H0 σ H1 (s.ex e1) D n r
    | false => exact h2 rfl H0 σ H1 (s.ex e1) D n r)
/-- l.append(e), l in slot i -/
theorem kb_append (i : Nat) {ds : List PyData} (hi0 : Δ[i]? = some (some (.l ds))) (hds : ∀ d ∈ ds, tupOnly d = true) (hlen : ds.length ≤ 1000) (h : KE X Z Δ e P) (ht : ∀ s, P s → ∃ d, s = .d d ∧ tupOnly d = true) (hSl : ∀ {σ H H' l xs ys}, Z.I σ H → l ∉ Z.S → H l = some (.lst xs) → H' = upd H l (.lst ys) → Z.I σ H')
    (hr : ∀ d, P (.d d) → KB X Z ((keep2 Δ).set i (some (.l (ds ++ [d])))) sts N R) {apos pos2 : Pos} (hN : X.N[i]? = some x := by rfl) (hv : Vis X.env.scope x := by first | exact Or.inl rfl | exact Or.inr (Or.inl rfl) | exact Or.inr (Or.inr rfl))
    (hd : (x == ("__debug__" : Str)) = false := by decide) (hcd : (x == ("__classdict__" : Str)) = false := by decide)
    (hbase : attributeBase (.Name x px) "append" X.env (eval (.Name x px) X.env) = eval (.Name x px) X.env := by rfl)
    (hfew : ((backTo pos (starEach (e :: []) X.env)).all (fun x => !x.1) && (backToKw pos (keywordEach [] X.env)).all (fun x => x.1.isSome)
      && decide ((e :: []).length + ([] : List Keyword).length + (if ([] : List Keyword).isEmpty then 0 else 1) < 30)) = true := by rfl)
    (hline : (apos.endLine == pos.line) = true := by rfl) (hs : starEach (e :: []) X.env = (false, eval e X.env) :: starEach [] X.env := by rfl) (hplain : (backTo pos (starEach [] X.env)).any (·.1) = false := by rfl)
    (hsw : swapsWith (.Call (.Attribute (.Name x px) "append" apos) [e] [] pos) none pos2.line X.env = pure false := by rfl) :
    KB X Z Δ (.Expr (.Call (.Attribute (.Name x px) "append" apos) [e] [] pos) pos2 :: sts) N R := fun H0 σ H s D n r => by
  obtain ⟨v0, a0, r0⟩ := s.at_ i _ hi0
  obtain ⟨l, xs, rfl, l0, l1, l2⟩ := r0
  refine wb_cons (ws_of (ps_expr (pe_bm PySem.F.plainAttrs_list PySem.F.slot_list_append PySem.F.type_list_append mt_append (pv i hN hv hd hcd) (pa_cons pE pa_nil hs) hbase hfew hline hs hplain) hsw) ⟨_, a0, .inl ⟨rfl, _, SqL.of (cut_le _ _ l1)⟩, h H0 σ H s _ fun w H1 s1 p1 c1 e1 r1 => ?_⟩)
  obtain ⟨d, rfl, td⟩ := ht s1 p1
  have l1' := e1 _ _ l1
  obtain ⟨nS, l3⟩ := cut_some l1'
  have l2' := dps_ex e1 _ _ l2
  refine ⟨l, xs, w, rfl, rfl, l3, ?_, ?_⟩
  · rw [dpa_len l2]
    exact Nat.lt_of_le_of_lt hlen (by decide)
  · have hcu : ∀ q, q ≠ l → cut Z.S (upd H1 l (.lst (xs ++ [w]))) q = cut Z.S H1 q := fun q hq => by
      unfold cut
      split
      · rfl
      · exact upd_ne hq
    have mv : ∀ {d : PyData} {v : V}, tupOnly d = true → Dp X.K (cut Z.S H1) v d → Dp X.K (cut Z.S (upd H1 l (.lst (xs ++ [w])))) v d := fun {d v} ht r => by
      have hce : cut Z.S (upd H1 l (.lst (xs ++ [w]))) = upd (cut Z.S H1) l (.lst (xs ++ [w])) := by
        funext q
        by_cases hq : q = l
        · rw [hq, cut_at nS, upd_same, upd_same]
        · rw [hcu q hq, upd_ne hq]
      rw [hce]
      exact dp_mut l1' (fun _ z => nomatch z) (fun _ _ z => nomatch z) ht r
    have mvs : ∀ {ds : List PyData} {vs : List V}, (∀ d ∈ ds, tupOnly d = true) → DpAll X.K (cut Z.S H1) vs ds → DpAll X.K (cut Z.S (upd H1 l (.lst (xs ++ [w])))) vs ds := by
      intro ds
      induction ds with
      | nil => intro vs _ r; cases r; exact .nil
      | cons a t ih =>
        intro vs ht r
        cases r with
        | cons r1 r2 => exact .cons (mv (ht a List.mem_cons_self) r1) (ih (fun d hd => ht d (List.mem_cons_of_mem _ hd)) r2)
    have sc : Sc Z H0 (upd H1 l (.lst (xs ++ [w]))) σ ((keep2 Δ).set i (some (.l (ds ++ [d])))) := by
      refine ⟨hSl c1.I nS l3 rfl, by rw [List.length_set]; unfold keep2; rw [List.length_map]; exact s.len, fun q o hq => ?_, fun j s' hj => ?_⟩
      · by_cases e2 : q = l
        · subst e2
          obtain ⟨_, z⟩ := cut_some hq
          rw [l0] at z
          cases z
        · rw [hcu q e2]
          exact c1.fr q o hq
      · rw [List.getElem?_set] at hj
        by_cases e2 : i = j
        · subst e2
          rw [if_pos rfl] at hj
          split at hj
          · cases hj
            exact ⟨_, a0, l, _, rfl, l0, by rw [cut_at nS, upd_same], dpa_app (mvs hds l2') (.cons (mv td r1) .nil)⟩
          · cases hj
        · rw [if_neg e2] at hj
          obtain ⟨k1, x', rfl, k2⟩ := keep2_get hj
          obtain ⟨v', b1, b2⟩ := c1.at_ j _ k1
          exact ⟨v', b1, mv k2 b2⟩
    exact hr d p1 H0 σ _ sc D n r
/-- a loop over range(n) -/
theorem kb_range (j : Nat) (n : Nat) (inv : Nat → Sl2 → Prop) (hp : PassesOwn (model X.prog X.w) X.A X.env X.xe) (hc : X.calm = true) (hN : X.N.Nodup) (hm : X.mg "range" = none) (hn : n < 1000) (h0 : inv 0 Δ) (hb : ∀ i Δ', i < n → inv i Δ' → KB X Z (Δ'.set j (some (.d (.int (i : Nat))))) B (inv (i + 1)) R) (hr : ∀ Δ', inv n Δ' → KB X Z Δ' sts N R)
    {p2 p3 p4 p5 : Pos} {jj} (hj0 : Z.ok j := by exact Nat.succ_ne_zero _) (hg : Gl X "range" := by rfl) (hj : X.N[j]? = some x := by rfl) (hx : Loc X.env.scope x := by first | exact Or.inl rfl | exact Or.inr rfl) (hf : X.fn x = true ∨ X.env.scope.names.lookup x = some .local := by first | exact .inl rfl | exact .inr rfl)
    (hs : starEach [.Constant (.int (n : Nat)) jj p2] X.env = [(false, eval (.Constant (.int (n : Nat)) jj p2) X.env)] := by rfl) (hset : ∀ x, foldedSetIterable (.Call (.Name "range" p3) [.Constant (.int (n : Nat)) jj p2] [] p4) X.env x = pure x := by intro _; rfl) :
    KB X Z Δ (.For (.Name x p5) (.Call (.Name "range" p3) [.Constant (.int (n : Nat)) jj p2] [] p4) B [] pos :: sts) N R := fun H0 σ H s D n' r => by
  refine wb_cons (ws_of (ps_for hp hc (pi_range1 hg hm (pa_cons pe_int pa_nil (hs.trans rfl)) hs) (pg_name hN hj hx hf) pB hset) ⟨_, rfl, by omega, by omega, ?_⟩)
  refine for_range (lo := 0) (n := (n : Int).toNat) (fun i σ' H' => ∃ Δ', inv i Δ' ∧ Sc Z H0 H' σ' Δ') ⟨Δ, h0, s⟩ ?_ ?_
  · rintro i σ1 H1 hi ⟨Δ1, i1, c1⟩
    have e : (0 : Int) + (i : Int) = (i : Nat) := by omega
    rw [e]
    exact hb i Δ1 (by omega) i1 H0 _ H1 (c1.set hj0 (x := .d (.int (i : Nat))) (.int _)) _ (fun σ' H' Δ' q c => ⟨Δ', q, c⟩) r
  · rintro σ1 H1 ⟨Δ1, i1, c1⟩
    exact hr Δ1 (by simpa using i1) H0 σ1 H1 c1 D n' r
end
end Sr

set_option Elab.async false
set_option linter.all false
set_option maxRecDepth 100000
set_option maxHeartbeats 4000000
/-! The pool. -/
namespace Sr
open PySem PySem.Spec PyProof.Rows L2
open Evl (Ex)
def PoolAt (H : Hp) (p : Addr) : Prop := ∃ a b : Int, H p = some (.lst [.int a, .int b])
def spP (K : PySem.W.Frag) (R : List PyData → Sv → Prop) : Sp := fun vs H Q _ => ∃ (p : Addr) (ws : List V) (ds : List PyData), vs = .ref p :: ws ∧ DpAll K H ws ds ∧ PoolAt H p ∧ (∃ s, R ds s) ∧
  ∀ v H' s, R ds s → Ex (cut [p] H) (cut [p] H') → PoolAt H' p → Hv K H (cut [p] H') v s → Q v H'
structure PFP (P : Program) (w : World) (K : PySem.W.Frag) (mg : Str → Option Value) (base : Heap) (k : Nat) (x : Str) (R : List PyData → Sv → Prop) : Prop where
  ex : ∃ (f : Addr) (fd : FuncData) (ps : List Str), FnOk P w K mg base CX0 k f fd ps (spP K R) ∧ mg x = some (.ref f) ∧ PySem.W.keepIn K (.ref f) = true ∧ Binds K fd ps []
/-- the pool stands in slot i -/
def poolZ (K : PySem.W.Frag) (p : Addr) (i : Nat) : OJ K where
  S := [p]
  I σ H := σ[i]? = some (some (.ref p)) ∧ PoolAt H p
  ok j := j ≠ i
  ex e h := ⟨h.1, let ⟨a, b, q⟩ := h.2; ⟨a, b, e _ _ q⟩⟩
  set hi h := ⟨by rw [List.getElem?_set_ne hi]; exact h.1, h.2⟩
  kind h q hq := by
    obtain ⟨a, b, z⟩ := h.2
    rw [List.mem_singleton.mp hq]
    exact ⟨_, z, (fun _ z => nomatch z), (fun _ _ z => nomatch z)⟩
theorem pool_keep {K : PySem.W.Frag} {p : Addr} {i : Nat} {σ : L2.St} {H H' : Hp} {l : Addr} {xs ys : List V} (h : (poolZ K p i).I σ H) (hl : l ∉ (poolZ K p i).S) (e1 : H l = some (.lst xs)) (e2 : H' = upd H l (.lst ys)) : (poolZ K p i).I σ H' := by
  subst e2
  obtain ⟨h0, a, b, q⟩ := h
  have hn : p ≠ l := fun z => hl (by rw [← z]; exact List.mem_singleton.mpr rfl)
  exact ⟨h0, a, b, by rw [upd_ne hn]; exact q⟩
section
variable {X : Cx} {p : Addr} {i k : Nat} {Δ : Sl2} {es : List Expr} {x y : Str} {px pos q : Pos} {R : List PyData → Sv → Prop} {P : Sv → Prop} {Ps : List Sv → Prop}
theorem ke_pool (pf : PFP X.prog X.w X.K X.mg X.base k x R) (hr : Room k X.A) (ha : KA X (poolZ X.K p i) Δ es Ps) (h1 : ∀ ss, Ps ss → ∃ s, R (ss.map Sv.dat) s) (h2 : ∀ ss s, Ps ss → R (ss.map Sv.dat) s → P s)
    (hN : X.N[i]? = some y := by rfl) (hv : Vis X.env.scope y := by first | exact Or.inl rfl | exact Or.inr (Or.inl rfl) | exact Or.inr (Or.inr rfl)) (hd : (y == ("__debug__" : Str)) = false := by decide) (hcd : (y == ("__classdict__" : Str)) = false := by decide)
    (hg : Gl X x := by rfl) (hdb : (x == ("__debug__" : Str)) = false := by decide) (he : starEach (.Name y px :: es) X.env = (false, eval (.Name y px) X.env) :: starEach es X.env := by rfl) (hpl : (backTo pos (starEach es X.env)).any (·.1) = false := by rfl) :
    KE X (poolZ X.K p i) Δ (.Call (.Name x q) (.Name y px :: es) [] pos) P := fun H0 σ H s Q qq => by
  obtain ⟨f, fd, ps, F, hm, hk, hb⟩ := pf.ex
  refine we_of (pe_call F hr hg hm hk hb .nil pass0 (pa_cons (pv i hN hv hd hcd) pA he) hdb he hpl) ⟨_, s.I.1, ha H0 σ H s _ fun vs H1 ss pp c e r => ?_⟩
  obtain ⟨c0, c1⟩ := c.I
  refine ⟨p, vs ++ [], ss.map Sv.dat, rfl, by rw [List.append_nil]; exact dps_ex cut_le _ _ r.dps, c1, h1 ss pp, fun v H' s' hR e2 pl hv' => ?_⟩
  have c2 : Sc (poolZ X.K p i) H0 H' σ Δ := c.chg e2 ⟨c0, pl⟩
  refine qq v H' s' (h2 ss s' pp hR) c2 (e.trans e2) ?_
  cases s' with
  | d d => exact hv'
  | l ds =>
    obtain ⟨l, xs, a1, a2, a3, a4⟩ := hv'
    exact ⟨l, xs, a1, (c.free a2).2, a3, a4⟩
end
section
variable {P : Program} {w : World} {K : PySem.W.Frag} {mg : Str → Option Value} {base : Heap}
theorem pfp_of {x qual : Str} {st : Stmt} {f : Addr} {N ps : List Str} {n k : Nat} {R : List PyData → Sv → Prop} (F : ∃ fd, FunD K x qual (defArgs st) (defBody st) (defScope st) [] [] f fd)
    (S : FnScope N ps (defScope st)) (hm : mg x = some (.ref f)) (hn : N.length - ps.length = n) (len : ∀ ds s, R ds s → ds.length + 1 = ps.length) (tup : ∀ ds s, R ds s → ∀ d ∈ ds, tupOnly d = true)
    (h : ∀ (kV doc pm : Value) (an : Option Addr) (cdv ct : Value) (us : List Value), us.length = ps.length → bindArgs (PySem.W.fnOf x qual (defArgs st) (defBody st) (defScope st) .none kV doc pm an cdv ct) ⟨us, []⟩ = pure (ps.zip us))
    (hb : ∀ (f : Addr) (cdv : Value) (A : Around) (outer : List Env) (s : Shared) (H : Hp) (E : XK), Room k (cxOf CX0 P w K mg base N qual (defScope st) f cdv A outer s H E).nox.A → ∀ p ds s0, R ds s0 →
      KB (cxOf CX0 P w K mg base N qual (defScope st) f cdv A outer s H E).nox (poolZ K p 0) (none :: (ds.map (fun d => some (Sv.d d)) ++ List.replicate n none)) (defBody st) noN (R ds)) : PFP P w K mg base (k + 1) x R := by
  obtain ⟨fd, F⟩ := F
  refine ⟨f, fd, ps, F.ok S (fun vs H Q E h => ?_) (fun cdv A outer s H vs Q E hr h => ?_), hm, F.kp, F.bindsN h⟩
  · obtain ⟨p, ws, ds, rfl, r, _, ⟨s, hR⟩, _⟩ := h
    rw [List.length_cons, dpa_len r]
    exact len _ _ hR
  · obtain ⟨p, ws, ds, rfl, r, hp, ⟨s0, hR⟩, q⟩ := h
    have lw : ws.length = ds.length := dpa_len r
    have hl := len _ _ hR
    have hI : (poolZ K p 0).I (L2.start N (.ref p :: ws)) H := ⟨rfl, hp⟩
    have sc : Sc (poolZ K p 0) H H (L2.start N (.ref p :: ws)) (none :: (ds.map (fun d => some (Sv.d d)) ++ List.replicate n none)) := by
      refine ⟨hI, ?_, Ex.refl _, fun i s' e => ?_⟩
      · unfold L2.start
        simp only [List.length_append, List.length_map, List.length_replicate, List.length_cons, lw, ← hn]
        omega
      · cases i with
        | zero => cases e
        | succ i =>
          have e' : (ds.map (fun d => some (Sv.d d)) ++ List.replicate n none)[i]? = some (some s') := e
          by_cases hi : i < ds.length
          · rw [List.getElem?_append_left (by simpa using hi), List.getElem?_map] at e'
            cases q : ds[i]? with
            | none => rw [q] at e'; cases e'
            | some d' =>
              rw [q] at e'
              have e2 : Sv.d d' = s' := by simpa using e'
              subst e2
              obtain ⟨v, a, r⟩ := dpa_get r q
              refine ⟨v, ?_, dp_cutB (fun b hb xs z => ?_) _ _ (tup _ _ hR d' (List.mem_of_getElem? q)) r⟩
              · unfold L2.start
                show (some (V.ref p) :: (ws.map some) ++ _)[i + 1]? = _
                rw [List.cons_append, List.getElem?_cons_succ, List.getElem?_append_left (by simpa [lw] using hi), List.getElem?_map, a]
                rfl
              · obtain ⟨a, b', hp⟩ := hp
                rw [List.mem_singleton.mp hb] at z
                rcases z with z | ⟨ob, z⟩ <;> rw [hp] at z <;> cases z
          · rw [List.getElem?_append_right (by simpa using Nat.le_of_not_lt hi), List.getElem?_replicate] at e'
            split at e' <;> cases e'
    obtain ⟨t, pp, g⟩ := hb f cdv A outer s H E hr p ds s0 hR H _ H sc { nx := fun _ H' => Q .non H', rt := Q } (fun _ _ _ z => z.elim) (fun v H' s' hR' hI' e hv => q v H' s' hR' e hI'.choose_spec.2 hv)
    exact ⟨t, pp.nox, g⟩
theorem sc__law_take : FnScope ["_law_pool_here", "_law_many", "_law_found"] ["_law_pool_here", "_law_many"] (defScope t__law_take) := ⟨rfl, rfl, rfl, by decide +kernel, rfl, by decide +kernel, by decide +kernel⟩
def R_take : List PyData → Sv → Prop := fun ds s => ∃ n r : Int, ds = [.int n] ∧ 0 < n ∧ n < 1073741824 ∧ 0 ≤ r ∧ r < n ∧ s = .d (.int r)
theorem pfp_take (T : Tx P w K mg base) : PFP P w K mg base 1 "_law_take" R_take := by
  obtain ⟨fd, F⟩ := fd__law_take T
  refine ⟨_, fd, ["_law_pool_here", "_law_many"], F.ok sc__law_take (fun vs H Q E h => ?_) (fun cdv A outer s H vs Q E hr h => ?_), gl__law_take T, F.kp, F.bindsN fun _ _ _ _ _ _ us hl => match us, hl with | [_, _], _ => rfl⟩
  · obtain ⟨p, ws, ds, rfl, r, _, ⟨s, n, r', rfl, _⟩, _⟩ := h
    rw [List.length_cons, dpa_len r]
    rfl
  · obtain ⟨p, ws, ds, rfl, r, ⟨a, b, hp⟩, ⟨s0, n, r0, rfl, n0, n1, _⟩, q⟩ := h
    cases r with
    | cons r1 rs =>
      cases rs
      have en := dp_int r1
      subst en
      have sl : ∀ {H' : Hp} {x y : Int} {σ : L2.St} {o : Option PyData}, H' p = some (.lst [.int x, .int y]) → σ[0]? = some (some (.ref p)) → σ[1]? = some (some (.int n)) → σ.length = 3 → (∀ d, o = some d → ∃ v, σ[2]? = some (some v) ∧ Dp K H' v d) → Sl K H' σ [some (.list [.int x, .int y]), some (.int n), o] := fun {H' x y σ o} e s0 s1 sl s2 => ⟨⟨trivial, sl⟩, fun i d h => by
        match i, h with
        | 0, h => cases h; exact ⟨_, s0, .lst (SqL.of e) (.cons (.int _) (.cons (.int _) .nil))⟩
        | 1, h => cases h; exact ⟨_, s1, .int _⟩
        | 2, h => exact s2 d (Option.some.inj h)
        | i + 3, h => cases h⟩
      have fin : ∀ {H' : Hp} {z x y : Int}, 0 ≤ z → z < n → Ex (cut [p] H) (cut [p] H') → H' p = some (.lst [.int x, .int y]) → Q (.int z) H' := fun {H' z x y} z0 z1 e pl => q (.int z) H' (.d (.int z)) ⟨n, z, rfl, n0, n1, z0, z1, rfl⟩ e ⟨x, y, pl⟩ (.int z)
      show ∃ t, PSs (cxOf CX0 P w K mg base ["_law_pool_here", "_law_many", "_law_found"] "_law_take" (defScope t__law_take) (He.fAd K d__law_take.at_) cdv A outer s H E) (defBody t__law_take) t ∧ t { nx := fun _ H' => Q .non H', rt := Q } (L2.start ["_law_pool_here", "_law_many", "_law_found"] [.ref p, .int n]) H
      have s0 : Sl K H (L2.start ["_law_pool_here", "_law_many", "_law_found"] [.ref p, .int n]) [some (.list [.int a, .int b]), some (.int n), none] := sl hp rfl rfl rfl (fun _ z => nomatch z)
      have cutp : ∀ {H1 : Hp} {o : HO}, cut [p] (upd H1 p o) = cut [p] H1 := fun {H1 o} => cut_upd (List.mem_singleton.mpr rfl)
      show wB (cxOf CX0 P w K mg base ["_law_pool_here", "_law_many", "_law_found"] "_law_take" (defScope t__law_take) (He.fAd K d__law_take.at_) cdv A outer s H E) (defBody t__law_take) _ _ _
      refine wb_cons (ws_if (wt_td (td_gt (ed_ixL (ed_var 0) ed_int) ed_int) s0 fun H1 e1 => ?_))
      cases hc : decide (0 < a) with
      | true =>
        rw [if_pos rfl]
        have hp1 := e1 _ _ hp
        refine wb_cons (ws_of (ps_set (i := 2) sc__law_take.nd rfl (.inl rfl) pE rfl (.inr rfl)) (we_ed (ed_mod (ed_ixL (ed_var 0) ed_int) (ed_var 1) (n0)) (s0.ex e1) fun v H2 e2 r2 => ?_))
        have s1 : Sl K H2 ((L2.start ["_law_pool_here", "_law_many", "_law_found"] [.ref p, .int n]).set 2 (some v)) [some (.list [.int a, .int b]), some (.int n), some (.int (a % n))] := sl (e2 _ _ hp1) rfl rfl rfl (fun d z => by cases z; exact ⟨v, rfl, r2⟩)
        refine wb_cons (ws_of (ps_asg pE (pg_sub (pv 0) pe_int set_list (fun _ => rfl)) rfl rfl rfl) (we_ed (ed_fdiv (ed_ixL (ed_var 0) ed_int) (ed_var 1) (⟨n0, n1⟩)) s1 fun v3 H3 e3 r3 => ?_))
        have ev := dp_int r3
        subst ev
        have hp3 := e3 _ _ (e2 _ _ hp1)
        refine ⟨_, rfl, p, _, 0, 0, rfl, rfl, hp3, rfl, ?_⟩
        have s2 : Sl K (upd H3 p (.lst [.int (a / n), .int b])) ((L2.start ["_law_pool_here", "_law_many", "_law_found"] [.ref p, .int n]).set 2 (some v)) [some (.list [.int (a / n), .int b]), some (.int n), some (.int (a % n))] := sl upd_same rfl rfl rfl (fun d z => by cases z; exact ⟨v, rfl, by rw [dp_int r2]; exact .int _⟩)
        refine wb_one (ws_ret (we_ed (ed_var 2) s2 fun v4 H4 e4 r4 => ?_))
        rw [dp_int r4]
        refine fin (Int.emod_nonneg _ (by omega)) (Int.emod_lt_of_pos _ n0) ?_ (e4 _ _ upd_same)
        have c1 := cut_ex (S := [p]) ((e1.trans e2).trans e3)
        have c2 := cut_ex (S := [p]) e4
        rw [cutp] at c2
        exact c1.trans c2
      | false =>
        rw [if_neg Bool.false_ne_true]
        have hp1 := e1 _ _ hp
        refine wb_nil ?_
        refine wb_cons (ws_of (ps_asg pE (pg_sub (pv 0) pe_int set_list (fun _ => rfl)) rfl rfl rfl) (we_ed (ed_mod (ed_add (ed_mul (ed_ixL (ed_var 0) ed_int) ed_int (.inr ⟨by decide, by decide⟩)) ed_int) ed_int (by decide)) (s0.ex e1) fun v3 H3 e3 r3 => ?_))
        have ev := dp_int r3
        subst ev
        have hp3 := e3 _ _ hp1
        refine ⟨_, rfl, p, _, 1, 1, rfl, rfl, hp3, rfl, ?_⟩
        have s2 : Sl K (upd H3 p (.lst [.int a, .int ((b * 48271 + 11) % 2147483647)])) (L2.start ["_law_pool_here", "_law_many", "_law_found"] [.ref p, .int n]) [some (.list [.int a, .int ((b * 48271 + 11) % 2147483647)]), some (.int n), none] := sl upd_same rfl rfl rfl (fun d z => nomatch z)
        have g0 : 0 ≤ (b * 48271 + 11) % 2147483647 := Int.emod_nonneg _ (by decide)
        have g1 : (b * 48271 + 11) % 2147483647 < 2147483647 := Int.emod_lt_of_pos _ (by decide)
        refine wb_one (ws_ret (we_ed (ed_mod (ed_fdiv (ed_mod (ed_mul (ed_ixL (ed_var 0) ed_int) (ed_ixL (ed_var 0) ed_int) (.inl ⟨by omega, by omega⟩)) ed_int (by decide)) ed_int (⟨by decide, by decide⟩)) (ed_var 1) (n0)) s2 fun v4 H4 e4 r4 => ?_))
        rw [dp_int r4]
        refine fin (Int.emod_nonneg _ (by omega)) (Int.emod_lt_of_pos _ n0) ?_ (e4 _ _ upd_same)
        have c1 := cut_ex (S := [p]) (e1.trans e3)
        have c2 := cut_ex (S := [p]) e4
        rw [cutp] at c2
        exact c1.trans c2
end
end Sr

set_option Elab.async false
set_option linter.all false
set_option maxRecDepth 100000
set_option maxHeartbeats 4000000
/-! What the pool draws. -/
namespace Sr
open PySem PySem.Spec PyProof.Rows L2
open Evl (Ex)
section
variable {X : Cx} {Z : OJ X.K} {Δ : Sl2} {e a b : Expr} {es : List Expr} {pos lp : Pos} {P Pa Pb : Sv → Prop} {Ps Qs : List Sv → Prop}
theorem ke_tup2 {k} (h : KA X Z Δ es Ps) (hl : ∀ ss, Ps ss → ss.length ≤ 100) : KE X Z Δ (.Tuple es k pos) (fun s => ∃ ss, Ps ss ∧ s = .d (.tuple (ss.map Sv.dat))) := ke_tup h hl fun ss p => ⟨ss, p, rfl⟩
theorem ke_lst2 (h : KA X Z Δ es Ps) (hl : ∀ ss, Ps ss → ss.length ≤ 100) : KE X Z Δ (.List es pos) (fun s => ∃ ss, Ps ss ∧ s = .l (ss.map Sv.dat)) := ke_lst h hl fun ss p => ⟨ss, p, rfl⟩
/-- an item drawn from a written list -/
theorem ke_pick {n : Nat} (h : KA X Z Δ es Ps) (hl : ∀ ss, Ps ss → ss.length = n) (hn : n ≤ 100) (hi : KE X Z Δ b (fun s => ∃ r : Int, 0 ≤ r ∧ r < n ∧ s = .d (.int r))) (hs : PlainIx b := by exact fun _ _ => rfl) :
    KE X Z Δ (.Subscript (.List es lp) b pos) (fun s => ∃ ss s', Ps ss ∧ s' ∈ ss ∧ s = .d s'.dat) :=
  ke_ixL (ke_lst2 h fun ss p => by rw [hl ss p]; exact hn) hi (fun s m ⟨ss, p, e⟩ ⟨r, r0, r1, e2⟩ => by
    subst e e2
    have hr : r.toNat < ss.length := by rw [hl ss p]; omega
    refine ⟨ss.map Sv.dat, r, (ss[r.toNat]).dat, rfl, rfl, ?_, ss, ss[r.toNat], p, List.getElem_mem hr, rfl⟩
    unfold atI ixN
    rw [List.length_map, if_pos r0, if_pos (show r < ((ss.length : Nat) : Int) by rw [hl ss p]; exact r1)]
    show (ss.map Sv.dat)[r.toNat]? = _
    rw [List.getElem?_map, List.getElem?_eq_getElem hr]
    rfl) hs
theorem ke_sub2 (ha : KE X Z Δ a (fun s => ∃ i : Int, Pa (.d (.int i)) ∧ s = .d (.int i))) (hb : KE X Z Δ b (fun s => ∃ i : Int, Pb (.d (.int i)) ∧ s = .d (.int i))) : KE X Z Δ (.BinOp a .Sub b pos) (fun s => ∃ i j : Int, Pa (.d (.int i)) ∧ Pb (.d (.int j)) ∧ s = .d (.int (i - j))) :=
  ke_op op_sub ha hb fun s t ⟨i, p, e⟩ ⟨j, q, e2⟩ => ⟨i, j, e, e2, i, j, p, q, rfl⟩
/-- a list of n things, each so -/
def PL (n : Nat) (G : PyData → Prop) : Sv → Prop := fun s => ∃ ds, s = .l ds ∧ ds.length = n ∧ ∀ d ∈ ds, G d
theorem ke_cat2 {n m : Nat} {G : PyData → Prop} (ha : KE X Z Δ a (PL n G)) (hb : KE X Z Δ b (PL m G)) (h : n + m ≤ 1000 := by decide) : KE X Z Δ (.BinOp a .Add b pos) (PL (n + m) G) :=
  ke_cat ha hb fun s t ⟨ds, e, h1, h2⟩ ⟨es, e2, h3, h4⟩ => ⟨ds, es, e, e2, by omega, ds ++ es, rfl, by rw [List.length_append, h1, h3], fun d hd => (List.mem_append.mp hd).elim (h2 d) (h4 d)⟩
inductive KGs (X : Cx) (Z : OJ X.K) (Δ : Sl2) (G : PyData → Prop) : List Expr → Nat → Prop where
  | nil : KGs X Z Δ G [] 0
  | cons {e : Expr} {es : List Expr} {n : Nat} : KE X Z Δ e (fun s => ∃ d, s = .d d ∧ G d) → KGs X Z Δ G es n → starEach (e :: es) X.env = (false, eval e X.env) :: starEach es X.env → KGs X Z Δ G (e :: es) (n + 1)
theorem ka_gs {G : PyData → Prop} {n : Nat} (h : KGs X Z Δ G es n) : KA X Z Δ es (fun ss => ∃ ds : List PyData, ss = ds.map Sv.d ∧ ds.length = n ∧ ∀ d ∈ ds, G d) := by
  induction h with
  | nil => exact fun H0 σ H s Q q => ka_nil H0 σ H s Q fun vs H' ss e => q vs H' ss ⟨[], e, rfl, fun d hd => by cases hd⟩
  | cons h1 _ hs ih => exact fun H0 σ H s Q q => ka_cons h1 ih hs H0 σ H s Q fun vs H' ss ⟨s1, r, e, ⟨d, e1, g⟩, ds, e2, e3, e4⟩ => q vs H' ss ⟨d :: ds, by rw [e, e1, e2]; rfl, congrArg Nat.succ e3, fun x hx => (List.mem_cons.mp hx).elim (fun z => z ▸ g) (e4 x)⟩
theorem dat_d (ds : List PyData) : (ds.map Sv.d).map Sv.dat = ds := by
  induction ds with
  | nil => rfl
  | cons a t ih => exact congrArg (a :: ·) ih
theorem ke_gl {G : PyData → Prop} {n : Nat} (h : KGs X Z Δ G es n) (hn : n ≤ 100) : KE X Z Δ (.List es pos) (PL n G) :=
  ke_lst (ka_gs h) (fun ss ⟨ds, e, e2, _⟩ => by rw [e, List.length_map, e2]; exact hn) fun ss ⟨ds, e, e2, e3⟩ => ⟨ds, by rw [e, dat_d], e2, e3⟩
end
section
variable {X : Cx} {p : Addr} {i k : Nat} {Δ : Sl2} {e : Expr} {px pos q : Pos} {n : Int} {y : Str}
theorem ke_take (T : Tx X.prog X.w X.K X.mg X.base) (hr : Room 1 X.A) (ha : @ED (poolZ X.K p i).sj X e (dl Δ) (.int n)) (n0 : 0 < n) (n1 : n < 1073741824)
    (hN : X.N[i]? = some y := by rfl) (hv : Vis X.env.scope y := by first | exact Or.inl rfl | exact Or.inr (Or.inl rfl) | exact Or.inr (Or.inr rfl)) (hd : (y == ("__debug__" : Str)) = false := by decide) (hcd : (y == ("__classdict__" : Str)) = false := by decide)
    (hg : Gl X "_law_take" := by rfl) (hs : starEach [e] X.env = (false, eval e X.env) :: starEach [] X.env := by rfl) (he : starEach [.Name y px, e] X.env = (false, eval (.Name y px) X.env) :: starEach [e] X.env := by rfl) (hpl : (backTo pos (starEach [e] X.env)).any (·.1) = false := by rfl) :
    KE X (poolZ X.K p i) Δ (.Call (.Name "_law_take" q) [.Name y px, e] [] pos) (fun s => ∃ r : Int, 0 ≤ r ∧ r < n ∧ s = .d (.int r)) :=
  ke_pool (pfp_take T) hr (ka_cons (ke_ed ha) ka_nil hs) (fun ss ⟨s, r, e1, e2, e3⟩ => by subst e1 e2 e3; exact ⟨.d (.int 0), n, 0, rfl, n0, n1, Int.le_refl _, n0, rfl⟩)
    (fun ss s ⟨s1, r1, e1, e2, e3⟩ ⟨m, r, h1, h2, h3, h4, h5, h6⟩ => by
      subst e1 e2 e3
      have e4 : n = m := by injection (List.cons.inj h1).1
      subst e4
      exact ⟨r, h4, h5, h6⟩) hN hv hd hcd hg (by decide) he hpl
end
section
variable {X : Cx} {Z : OJ X.K} {Δ : Sl2} {e : Expr} {sts A : List Stmt} {pos pos2 pc : Pos} {N : Sl2 → Prop} {R : Sv → Prop} {n : Int} {j} {P : Sv → Prop}
/-- if e == n: (leaves); .. -/
theorem kb_ifz (h : KE X Z Δ e (fun s => ∃ r : Int, P (.d (.int r)) ∧ s = .d (.int r))) (h1 : P (.d (.int n)) → KB X Z Δ A noN R) (h2 : ∀ r : Int, P (.d (.int r)) → r ≠ n → KB X Z Δ sts N R) : KB X Z Δ (.If (.Compare e [.Eq] [.Constant (.int n) j pc] pos) A [] pos2 :: sts) N R := fun H0 σ H s D dn dr =>
  wb_cons (ws_if (wt_of (pt_cmpR op_eq pE pe_int (nomark _)) (h H0 σ H s _ fun v H1 s1 ⟨r, pr, e1⟩ c1 ex r1 => by
    subst e1
    have ev := dp_int r1
    subst ev
    refine ⟨rfl, _, rfl, ?_⟩
    rw [dec_V]
    by_cases hc : r = n
    · subst hc
      rw [decide_eq_true rfl]
      show (if true = true then _ else _)
      rw [if_pos rfl]
      exact h1 pr H0 σ H1 c1 _ (fun _ _ _ z => z.elim) dr
    · rw [decide_eq_false hc]
      show (if false = true then _ else _)
      rw [if_neg Bool.false_ne_true]
      exact wb_nil (h2 r pr hc H0 σ H1 c1 D dn dr))))
end
theorem pos_cases {n : Int} (h0 : 0 ≤ n) (h1 : n < 8) : isB n := ⟨h0, by omega⟩
section
variable {P : Program} {w : World} {K : PySem.W.Frag} {mg : Str → Option Value} {base : Heap}
def R_law_by : List PyData → Sv → Prop := fun ds s => ds = [] ∧ ∃ y : By, y.ok ∧ s = .d y.d
theorem sc__law_by : FnScope ["_law_pool_here"] ["_law_pool_here"] (defScope t__law_by) := ⟨rfl, rfl, rfl, by decide +kernel, rfl, by decide +kernel, by decide +kernel⟩
theorem pfp_by (T : Tx P w K mg base) : PFP P w K mg base 2 "_law_by" R_law_by := by
  refine pfp_of (N := ["_law_pool_here"]) (ps := ["_law_pool_here"]) (n := 0) (k := 1) (fd__law_by T) sc__law_by (gl__law_by T) rfl (fun ds d h => by obtain ⟨rfl, _⟩ := h; rfl) (fun ds d h => by obtain ⟨rfl, _⟩ := h; intro d hd; cases hd) (fun _ _ _ _ _ _ us hl => match us, hl with | [_], _ => rfl) ?_
  intro f cdv A outer s H E hr p ds s0 h
  obtain ⟨rfl, _⟩ := h
  letI J : SJ := (poolZ K p 0).sj
  refine kb_ifz (P := fun s => True) (ke_imp (ke_take (n := 3) T (hr.mono (by decide)) ed_int (by decide) (by decide)) ?_) (fun _ => ?_) (fun r _ _ => ?_)
  · rintro s ⟨r, _, _, e⟩
    exact ⟨r, trivial, e⟩
  · refine kb_ret (ke_tup2 (ka_cons (ke_ed ed_str) (ka_cons (ke_take (n := 8) T (hr.mono (by decide)) ed_int (by decide) (by decide)) ka_nil)) (by intro ss h; (repeat (obtain ⟨_, _, rfl, _, h⟩ := h)); first | rfl | exact Nat.le_of_ble_eq_true rfl)) ?_
    rintro s ⟨ss, ⟨s1, r1, rfl, rfl, s2, r2, rfl, ⟨r, r0, r1, rfl⟩, rfl⟩, rfl⟩
    exact ⟨rfl, .box r, ⟨r0, by omega⟩, rfl⟩
  · refine kb_ret (ke_tup2 (ka_cons (ke_ed ed_str) (ka_cons (ke_pick (n := 9) (ka_cons (ke_ed ed_int) (ka_cons (ke_ed ed_int) (ka_cons (ke_ed ed_int) (ka_cons (ke_ed ed_int) (ka_cons (ke_ed ed_int) (ka_cons (ke_ed ed_int) (ka_cons (ke_ed ed_int) (ka_cons (ke_ed ed_int) (ka_cons (ke_take (n := 40) T (hr.mono (by decide)) ed_int (by decide) (by decide)) ka_nil))))))))) (by intro ss h; (repeat (obtain ⟨_, _, rfl, _, h⟩ := h)); first | rfl | exact Nat.le_of_ble_eq_true rfl) (by decide) (ke_take (n := 9) T (hr.mono (by decide)) ed_int (by decide) (by decide))) ka_nil)) (by intro ss h; (repeat (obtain ⟨_, _, rfl, _, h⟩ := h)); first | rfl | exact Nat.le_of_ble_eq_true rfl)) ?_
    rintro s ⟨ss, ⟨s1, r1, rfl, rfl, s2, r2, rfl, ⟨ss2, s3, ⟨_, _, rfl, rfl, _, _, rfl, rfl, _, _, rfl, rfl, _, _, rfl, rfl, _, _, rfl, rfl, _, _, rfl, rfl, _, _, rfl, rfl, _, _, rfl, rfl, _, _, rfl, ⟨r, h0, h1, rfl⟩, rfl⟩, hm, rfl⟩, rfl⟩, rfl⟩
    simp only [List.mem_cons, List.not_mem_nil, or_false] at hm
    rcases hm with rfl | rfl | rfl | rfl | rfl | rfl | rfl | rfl | rfl
    all_goals exact ⟨rfl, .worth _, ⟨by omega, by omega⟩, rfl⟩
end
end Sr

set_option Elab.async false
set_option linter.all false
set_option maxRecDepth 100000
set_option maxHeartbeats 4000000
/-! A row that the pool draws. -/
namespace Sr
open PySem PySem.Spec PyProof.Rows L2
open Evl (Ex)
def GoodR (d : PyData) : Prop := d = .tuple [.str "back"] ∨ ∃ row : Rw, row.ok ∧ d = row.d
theorem rw_tup : ∀ row : Rw, tupOnly row.d = true := by
  intro row
  cases row <;> first | rfl | (rename_i y; cases y <;> rfl) | (rename_i y t; cases y <;> rfl)
theorem good_tup {d : PyData} (h : GoodR d) : tupOnly d = true := by
  rcases h with rfl | ⟨row, _, rfl⟩
  · rfl
  · exact rw_tup row
def R_law_row : List PyData → Sv → Prop := fun ds s => ∃ n : Int, ds = [.int n] ∧ 1 ≤ n ∧ n ≤ 4000 ∧ ∃ d, s = .d d ∧ GoodR d
section
variable {X : Cx} {p : Addr} {i k : Nat} {Δ : Sl2} {e : Expr} {px pos q : Pos} {n : Int} {y : Str}
theorem ke_by (T : Tx X.prog X.w X.K X.mg X.base) (hr : Room 2 X.A)
    (hN : X.N[i]? = some y := by rfl) (hv : Vis X.env.scope y := by first | exact Or.inl rfl | exact Or.inr (Or.inl rfl) | exact Or.inr (Or.inr rfl)) (hd : (y == ("__debug__" : Str)) = false := by decide) (hcd : (y == ("__classdict__" : Str)) = false := by decide)
    (hg : Gl X "_law_by" := by rfl) (he : starEach [.Name y px] X.env = (false, eval (.Name y px) X.env) :: starEach [] X.env := by rfl) (hpl : (backTo pos (starEach [] X.env)).any (·.1) = false := by rfl) :
    KE X (poolZ X.K p i) Δ (.Call (.Name "_law_by" q) [.Name y px] [] pos) (fun s => ∃ z : By, z.ok ∧ s = .d z.d) :=
  ke_pool (pfp_by T) hr ka_nil (fun ss e => by subst e; exact ⟨.d (By.worth 0).d, rfl, .worth 0, ⟨by decide, by decide⟩, rfl⟩) (fun ss s e ⟨_, z, h1, h2⟩ => ⟨z, h1, h2⟩) hN hv hd hcd hg (by decide) he hpl
end
section
variable {P : Program} {w : World} {K : PySem.W.Frag} {mg : Str → Option Value} {base : Heap}
theorem sc__law_row : FnScope ["_law_pool_here", "_law_many", "_law_box", "_law_other", "_law_off", "_law_word", "_law_what", "_law_ask", "_law_some"] ["_law_pool_here", "_law_many"] (defScope t__law_row) := ⟨rfl, rfl, rfl, by decide +kernel, rfl, by decide +kernel, by decide +kernel⟩
theorem pfp_row (T : Tx P w K mg base) : PFP P w K mg base 3 "_law_row" R_law_row := by
  refine pfp_of (N := ["_law_pool_here", "_law_many", "_law_box", "_law_other", "_law_off", "_law_word", "_law_what", "_law_ask", "_law_some"]) (ps := ["_law_pool_here", "_law_many"]) (n := 7) (k := 2) (fd__law_row T) sc__law_row (gl__law_row T) rfl (fun ds d h => by obtain ⟨n, rfl, _⟩ := h; rfl) (fun ds d h => by obtain ⟨n, rfl, _⟩ := h; intro d hd; rw [List.mem_singleton.mp hd]; rfl) (fun _ _ _ _ _ _ us hl => match us, hl with | [_, _], _ => rfl) ?_
  intro f cdv A outer s H E hr p ds s0 h
  obtain ⟨n, rfl, n0, n1, _⟩ := h
  letI J : SJ := (poolZ K p 0).sj
  have dx : ∀ {x : Str} {l : List Str}, x ∈ l → ∃ y ∈ l, Sv.d (.str x) = .d (.str y) := fun h => ⟨_, h, rfl⟩
  refine kb_par2 2 3 rfl sc__law_row.nd (ke_take (n := 8) T (hr.mono (by decide)) ed_int (by decide) (by decide)) (ke_take (n := 8) T (hr.mono (by decide)) ed_int (by decide) (by decide)) ?_
  rintro s t ⟨b, b0, b1, rfl⟩ ⟨c, c0, c1, rfl⟩
  have hb : isB b := ⟨b0, by omega⟩
  have hc : isB c := ⟨c0, by omega⟩
  refine kb_set (P := fun s => ∃ o : Int, isO o ∧ s = .d (.int o)) 4 sc__law_row.nd (ke_imp (ke_pick (n := 6) (ka_cons (ke_ed ed_int) (ka_cons (ke_ed ed_int) (ka_cons (ke_ed ed_int) (ka_cons (ke_ed ed_int) (ka_cons (ke_ed (ed_neg ed_int)) (ka_cons (ke_sub2 (Pa := fun s => ∃ r : Int, 0 ≤ r ∧ r < 24 ∧ s = .d (.int r)) (Pb := fun s => s = .d (.int 8)) (ke_imp (ke_take (n := 24) T (hr.mono (by decide)) ed_int (by decide) (by decide)) ?_) (ke_imp (ke_ed ed_int) ?_)) ka_nil)))))) (by intro ss h; (repeat (obtain ⟨_, _, rfl, _, h⟩ := h)); rfl) (by decide) (ke_take (n := 6) T (hr.mono (by decide)) ed_int (by decide) (by decide))) ?_) ?_
  · rintro s ⟨r, r0, r1, rfl⟩; exact ⟨r, ⟨r, r0, r1, rfl⟩, rfl⟩
  · rintro s rfl; exact ⟨8, rfl, rfl⟩
  · rintro s ⟨ss, s9, ⟨_, _, rfl, rfl, _, _, rfl, rfl, _, _, rfl, rfl, _, _, rfl, rfl, _, _, rfl, rfl, _, _, rfl, ⟨i, j, ⟨r, r0, r1, e1⟩, e2, rfl⟩, rfl⟩, hm, rfl⟩
    injection e1 with e1; injection e1 with e1
    injection e2 with e2; injection e2 with e2
    simp only [List.mem_cons, List.not_mem_nil, or_false] at hm
    rcases hm with rfl | rfl | rfl | rfl | rfl | rfl
    all_goals exact ⟨_, ⟨by omega, by omega⟩, rfl⟩
  rintro s ⟨o, ho, rfl⟩
  refine kb_set (P := fun s => ∃ y ∈ DEEDSl, s = .d (.str y)) 5 sc__law_row.nd (ke_imp (ke_pick (n := 6) (ka_cons (ke_ed ed_str) (ka_cons (ke_ed ed_str) (ka_cons (ke_ed ed_str) (ka_cons (ke_ed ed_str) (ka_cons (ke_ed ed_str) (ka_cons (ke_ed ed_str) ka_nil)))))) (by intro ss h; (repeat (obtain ⟨_, _, rfl, _, h⟩ := h)); first | rfl | exact Nat.le_of_ble_eq_true rfl) (by decide) (ke_take (n := 6) T (hr.mono (by decide)) ed_int (by decide) (by decide))) ?_) ?_
  · rintro s ⟨ss, s9, ⟨_, _, rfl, rfl, _, _, rfl, rfl, _, _, rfl, rfl, _, _, rfl, rfl, _, _, rfl, rfl, _, _, rfl, rfl, rfl⟩, hm, rfl⟩
    simp only [List.mem_cons, List.not_mem_nil, or_false] at hm
    rcases hm with rfl | rfl | rfl | rfl | rfl | rfl
    all_goals exact ⟨_, by simp [DEEDSl], rfl⟩
  rintro s ⟨x, hx, rfl⟩
  refine kb_set (P := fun s => ∃ y ∈ WHATSl, s = .d (.str y)) 6 sc__law_row.nd (ke_imp (ke_pick (n := 7) (ka_cons (ke_ed ed_str) (ka_cons (ke_ed ed_str) (ka_cons (ke_ed ed_str) (ka_cons (ke_ed ed_str) (ka_cons (ke_ed ed_str) (ka_cons (ke_ed ed_str) (ka_cons (ke_ed ed_str) ka_nil))))))) (by intro ss h; (repeat (obtain ⟨_, _, rfl, _, h⟩ := h)); first | rfl | exact Nat.le_of_ble_eq_true rfl) (by decide) (ke_take (n := 7) T (hr.mono (by decide)) ed_int (by decide) (by decide))) ?_) ?_
  · rintro s ⟨ss, s9, ⟨_, _, rfl, rfl, _, _, rfl, rfl, _, _, rfl, rfl, _, _, rfl, rfl, _, _, rfl, rfl, _, _, rfl, rfl, _, _, rfl, rfl, rfl⟩, hm, rfl⟩
    simp only [List.mem_cons, List.not_mem_nil, or_false] at hm
    rcases hm with rfl | rfl | rfl | rfl | rfl | rfl | rfl
    all_goals exact ⟨_, by simp [WHATSl], rfl⟩
  rintro s ⟨y, hy, rfl⟩
  refine kb_set (P := fun s => ∃ y ∈ ASKSl, s = .d (.str y)) 7 sc__law_row.nd (ke_imp (ke_pick (n := 4) (ka_cons (ke_ed ed_str) (ka_cons (ke_ed ed_str) (ka_cons (ke_ed ed_str) (ka_cons (ke_ed ed_str) ka_nil)))) (by intro ss h; (repeat (obtain ⟨_, _, rfl, _, h⟩ := h)); first | rfl | exact Nat.le_of_ble_eq_true rfl) (by decide) (ke_take (n := 4) T (hr.mono (by decide)) ed_int (by decide) (by decide))) ?_) ?_
  · rintro s ⟨ss, s9, ⟨_, _, rfl, rfl, _, _, rfl, rfl, _, _, rfl, rfl, _, _, rfl, rfl, rfl⟩, hm, rfl⟩
    simp only [List.mem_cons, List.not_mem_nil, or_false] at hm
    rcases hm with rfl | rfl | rfl | rfl
    all_goals exact ⟨_, by simp [ASKSl], rfl⟩
  rintro s ⟨z, hz, rfl⟩
  refine kb_set 8 sc__law_row.nd (ke_gl (G := GoodR) (.cons (ke_imp (ke_tup2 (ka_cons (ke_ed ed_str) (ka_cons (ke_ed (ed_var 2)) (ka_cons (ke_pick (n := 4) (ka_cons (ke_ed ed_int) (ka_cons (ke_ed ed_int) (ka_cons (ke_ed ed_int) (ka_cons (ke_ed ed_int) ka_nil)))) (by intro ss h; (repeat (obtain ⟨_, _, rfl, _, h⟩ := h)); first | rfl | exact Nat.le_of_ble_eq_true rfl) (by decide) (ke_take (n := 4) T (hr.mono (by decide)) ed_int (by decide) (by decide))) ka_nil))) (by intro ss h; (repeat (obtain ⟨_, _, rfl, _, h⟩ := h)); first | rfl | exact Nat.le_of_ble_eq_true rfl)) ?_) (.cons (ke_imp (ke_ed (ed_tup (ad_cons ed_str (ad_cons (ed_var 2) (ad_cons (ed_var 3) ad_nil))))) ?_) .nil rfl) rfl) (by decide)) ?_
  · rintro s ⟨ss, ⟨_, _, rfl, rfl, _, _, rfl, rfl, _, _, rfl, ⟨ss2, s9, ⟨_, _, rfl, rfl, _, _, rfl, rfl, _, _, rfl, rfl, _, _, rfl, rfl, rfl⟩, hm, rfl⟩, rfl⟩, rfl⟩
    simp only [List.mem_cons, List.not_mem_nil, or_false] at hm
    rcases hm with rfl | rfl | rfl | rfl
    all_goals exact ⟨_, rfl, .inr ⟨.set b _, ⟨hb, by omega, by omega⟩, rfl⟩⟩
  · rintro s ⟨ss, ⟨_, _, rfl, rfl, _, _, rfl, rfl, _, _, rfl, rfl, rfl⟩, rfl⟩
    exact ⟨_, rfl, .inr ⟨.move b c, ⟨hb, hc⟩, rfl⟩⟩
  rintro s ⟨ds, rfl, hl, hg⟩
  show KB _ _ [none, some (.d (.int n)), some (.d (.int b)), some (.d (.int c)), some (.d (.int o)), some (.d (.str x)), some (.d (.str y)), some (.d (.str z)), some (.l ds)] _ _ _
  refine kb_append 8 rfl (fun d hd => good_tup (hg d hd)) (by rw [hl]; decide) (ke_imp (ke_tup2 (ka_cons (ke_ed ed_str) (ka_cons (ke_ed (ed_var 5)) (ka_cons (ke_ed (ed_var 2)) (ka_cons (ke_by T (hr.mono (by decide))) ka_nil)))) (by intro ss h; (repeat (obtain ⟨_, _, rfl, _, h⟩ := h)); first | rfl | exact Nat.le_of_ble_eq_true rfl)) ?_) (P := fun s => ∃ d, s = .d d ∧ GoodR d) (by rintro s ⟨d, rfl, h⟩; exact ⟨d, rfl, good_tup h⟩) pool_keep ?_
  · rintro s ⟨ss, ⟨_, _, rfl, rfl, _, _, rfl, rfl, _, _, rfl, rfl, _, _, rfl, ⟨y9, hy9, rfl⟩, rfl⟩, rfl⟩
    exact ⟨_, rfl, .inr ⟨.op x b y9, ⟨hx, hb, hy9⟩, rfl⟩⟩
  rintro d ⟨d', e, h9⟩
  injection e with e
  subst e
  have hl3 : (ds ++ [d]).length = 3 := by rw [List.length_append, hl]; rfl
  have hg3 : ∀ d' ∈ ds ++ [d], GoodR d' := fun d' hd => (List.mem_append.mp hd).elim (hg d') fun h => by rw [List.mem_singleton.mp h]; exact h9
  generalize ds ++ [d] = ds at hl3 hg3
  show KB _ _ [none, some (.d (.int n)), some (.d (.int b)), some (.d (.int c)), some (.d (.int o)), some (.d (.str x)), some (.d (.str y)), some (.d (.str z)), some (.l ds)] _ _ _
  refine kb_set 8 sc__law_row.nd (ke_cat2 (n := 3) (m := 3) (G := GoodR) (ke_imp (ke_var 8) (fun s e => ⟨ds, e, hl3, hg3⟩)) (ke_gl (G := GoodR) (.cons (ke_imp (ke_tup2 (ka_cons (ke_ed ed_str) (ka_cons (ke_ed (ed_var 2)) (ka_cons (ke_by T (hr.mono (by decide))) ka_nil))) (by intro ss h; (repeat (obtain ⟨_, _, rfl, _, h⟩ := h)); first | rfl | exact Nat.le_of_ble_eq_true rfl)) ?_) (.cons (ke_imp (ke_tup2 (ka_cons (ke_ed ed_str) (ka_cons (ke_ed (ed_var 2)) (ka_cons (ke_by T (hr.mono (by decide))) ka_nil))) (by intro ss h; (repeat (obtain ⟨_, _, rfl, _, h⟩ := h)); first | rfl | exact Nat.le_of_ble_eq_true rfl)) ?_) (.cons (ke_imp (ke_tup2 (ka_cons (ke_ed ed_str) (ka_cons (ke_ed (ed_var 2)) (ka_cons (ke_by T (hr.mono (by decide))) ka_nil))) (by intro ss h; (repeat (obtain ⟨_, _, rfl, _, h⟩ := h)); first | rfl | exact Nat.le_of_ble_eq_true rfl)) ?_) .nil rfl) rfl) rfl) (by decide))) ?_
  · rintro s ⟨ss, ⟨_, _, rfl, rfl, _, _, rfl, rfl, _, _, rfl, ⟨y9, hy9, rfl⟩, rfl⟩, rfl⟩
    exact ⟨_, rfl, .inr ⟨.walk b y9, ⟨hb, hy9⟩, rfl⟩⟩
  · rintro s ⟨ss, ⟨_, _, rfl, rfl, _, _, rfl, rfl, _, _, rfl, ⟨y9, hy9, rfl⟩, rfl⟩, rfl⟩
    exact ⟨_, rfl, .inr ⟨.narrow b y9, ⟨hb, hy9⟩, rfl⟩⟩
  · rintro s ⟨ss, ⟨_, _, rfl, rfl, _, _, rfl, rfl, _, _, rfl, ⟨y9, hy9, rfl⟩, rfl⟩, rfl⟩
    exact ⟨_, rfl, .inr ⟨.exact b y9, ⟨hb, hy9⟩, rfl⟩⟩
  rintro s ⟨ds, rfl, hl, hg⟩
  show KB _ _ [none, some (.d (.int n)), some (.d (.int b)), some (.d (.int c)), some (.d (.int o)), some (.d (.str x)), some (.d (.str y)), some (.d (.str z)), some (.l ds)] _ _ _
  refine kb_set 8 sc__law_row.nd (ke_cat2 (n := 6) (m := 1) (G := GoodR) (ke_imp (ke_var 8) (fun s e => ⟨ds, e, hl, hg⟩)) (ke_gl (G := GoodR) (.cons (ke_imp (ke_tup2 (ka_cons (ke_ed ed_str) (ka_cons (ke_ed (ed_var 2)) (ka_cons (ke_pick (n := 7) (ka_cons (ke_ed ed_str) (ka_cons (ke_ed ed_str) (ka_cons (ke_ed ed_str) (ka_cons (ke_ed ed_str) (ka_cons (ke_ed ed_str) (ka_cons (ke_ed ed_str) (ka_cons (ke_ed ed_str) ka_nil))))))) (by intro ss h; (repeat (obtain ⟨_, _, rfl, _, h⟩ := h)); first | rfl | exact Nat.le_of_ble_eq_true rfl) (by decide) (ke_take (n := 7) T (hr.mono (by decide)) ed_int (by decide) (by decide))) ka_nil))) (by intro ss h; (repeat (obtain ⟨_, _, rfl, _, h⟩ := h)); first | rfl | exact Nat.le_of_ble_eq_true rfl)) ?_) .nil rfl) (by decide))) ?_
  · rintro s ⟨ss, ⟨_, _, rfl, rfl, _, _, rfl, rfl, _, _, rfl, ⟨ss2, s9, ⟨_, _, rfl, rfl, _, _, rfl, rfl, _, _, rfl, rfl, _, _, rfl, rfl, _, _, rfl, rfl, _, _, rfl, rfl, _, _, rfl, rfl, rfl⟩, hm, rfl⟩, rfl⟩, rfl⟩
    simp only [List.mem_cons, List.not_mem_nil, or_false] at hm
    rcases hm with rfl | rfl | rfl | rfl | rfl | rfl | rfl
    all_goals exact ⟨_, rfl, .inr ⟨.less b _, ⟨hb, by simp [lessMenu]⟩, rfl⟩⟩
  rintro s ⟨ds, rfl, hl, hg⟩
  show KB _ _ [none, some (.d (.int n)), some (.d (.int b)), some (.d (.int c)), some (.d (.int o)), some (.d (.str x)), some (.d (.str y)), some (.d (.str z)), some (.l ds)] _ _ _
  refine kb_set 8 sc__law_row.nd (ke_cat2 (n := 7) (m := 4) (G := GoodR) (ke_imp (ke_var 8) (fun s e => ⟨ds, e, hl, hg⟩)) (ke_gl (G := GoodR) (.cons (ke_imp (ke_ed (ed_tup (ad_cons ed_str (ad_cons (ed_var 2) (ad_cons (ed_var 3) ad_nil))))) ?_) (.cons (ke_imp (ke_ed (ed_tup (ad_cons ed_str (ad_cons (ed_var 2) (ad_cons (ed_var 3) ad_nil))))) ?_) (.cons (ke_imp (ke_ed (ed_tup (ad_cons ed_str (ad_cons (ed_var 2) ad_nil)))) ?_) (.cons (ke_imp (ke_ed (ed_tup (ad_cons ed_str (ad_cons (ed_var 2) ad_nil)))) ?_) .nil rfl) rfl) rfl) rfl) (by decide))) ?_
  · rintro s ⟨ss, ⟨_, _, rfl, rfl, _, _, rfl, rfl, _, _, rfl, rfl, rfl⟩, rfl⟩
    exact ⟨_, rfl, .inr ⟨.sl b c, ⟨hb, hc⟩, rfl⟩⟩
  · rintro s ⟨ss, ⟨_, _, rfl, rfl, _, _, rfl, rfl, _, _, rfl, rfl, rfl⟩, rfl⟩
    exact ⟨_, rfl, .inr ⟨.opn b c, ⟨hb, hc⟩, rfl⟩⟩
  · rintro s ⟨ss, ⟨_, _, rfl, rfl, _, _, rfl, rfl, rfl⟩, rfl⟩
    exact ⟨_, rfl, .inr ⟨.ent b, hb, rfl⟩⟩
  · rintro s ⟨ss, ⟨_, _, rfl, rfl, _, _, rfl, rfl, rfl⟩, rfl⟩
    exact ⟨_, rfl, .inr ⟨.here b, hb, rfl⟩⟩
  rintro s ⟨ds, rfl, hl, hg⟩
  show KB _ _ [none, some (.d (.int n)), some (.d (.int b)), some (.d (.int c)), some (.d (.int o)), some (.d (.str x)), some (.d (.str y)), some (.d (.str z)), some (.l ds)] _ _ _
  refine kb_set 8 sc__law_row.nd (ke_cat2 (n := 11) (m := 3) (G := GoodR) (ke_imp (ke_var 8) (fun s e => ⟨ds, e, hl, hg⟩)) (ke_gl (G := GoodR) (.cons (ke_imp (ke_ed (ed_tup (ad_cons ed_str (ad_cons (ed_var 2) (ad_cons (ed_var 6) (ad_cons (ed_var 3) ad_nil)))))) ?_) (.cons (ke_imp (ke_ed (ed_tup (ad_cons ed_str (ad_cons (ed_var 2) (ad_cons ed_int (ad_cons (ed_var 4) ad_nil)))))) ?_) (.cons (ke_imp (ke_ed (ed_tup (ad_cons ed_str (ad_cons (ed_var 2) (ad_cons (ed_var 3) (ad_cons (ed_var 4) ad_nil)))))) ?_) .nil rfl) rfl) rfl) (by decide))) ?_
  · rintro s ⟨ss, ⟨_, _, rfl, rfl, _, _, rfl, rfl, _, _, rfl, rfl, _, _, rfl, rfl, rfl⟩, rfl⟩
    exact ⟨_, rfl, .inr ⟨.ask b y c, ⟨hb, hy, hc⟩, rfl⟩⟩
  · rintro s ⟨ss, ⟨_, _, rfl, rfl, _, _, rfl, rfl, _, _, rfl, rfl, _, _, rfl, rfl, rfl⟩, rfl⟩
    exact ⟨_, rfl, .inr ⟨.load b 7 o, ⟨hb, ⟨by decide, by decide⟩, ho⟩, rfl⟩⟩
  · rintro s ⟨ss, ⟨_, _, rfl, rfl, _, _, rfl, rfl, _, _, rfl, rfl, _, _, rfl, rfl, rfl⟩, rfl⟩
    exact ⟨_, rfl, .inr ⟨.load b c o, ⟨hb, hc, ho⟩, rfl⟩⟩
  rintro s ⟨ds, rfl, hl, hg⟩
  show KB _ _ [none, some (.d (.int n)), some (.d (.int b)), some (.d (.int c)), some (.d (.int o)), some (.d (.str x)), some (.d (.str y)), some (.d (.str z)), some (.l ds)] _ _ _
  refine kb_set 8 sc__law_row.nd (ke_cat2 (n := 14) (m := 2) (G := GoodR) (ke_imp (ke_var 8) (fun s e => ⟨ds, e, hl, hg⟩)) (ke_gl (G := GoodR) (.cons (ke_imp (ke_ed (ed_tup (ad_cons ed_str (ad_cons ed_int (ad_cons (ed_var 4) (ad_cons (ed_var 2) ad_nil)))))) ?_) (.cons (ke_imp (ke_ed (ed_tup (ad_cons ed_str (ad_cons (ed_var 3) (ad_cons (ed_var 4) (ad_cons (ed_var 2) ad_nil)))))) ?_) .nil rfl) rfl) (by decide))) ?_
  · rintro s ⟨ss, ⟨_, _, rfl, rfl, _, _, rfl, rfl, _, _, rfl, rfl, _, _, rfl, rfl, rfl⟩, rfl⟩
    exact ⟨_, rfl, .inr ⟨.store 7 o b, ⟨⟨by decide, by decide⟩, ho, hb⟩, rfl⟩⟩
  · rintro s ⟨ss, ⟨_, _, rfl, rfl, _, _, rfl, rfl, _, _, rfl, rfl, _, _, rfl, rfl, rfl⟩, rfl⟩
    exact ⟨_, rfl, .inr ⟨.store c o b, ⟨hc, ho, hb⟩, rfl⟩⟩
  rintro s ⟨ds, rfl, hl, hg⟩
  show KB _ _ [none, some (.d (.int n)), some (.d (.int b)), some (.d (.int c)), some (.d (.int o)), some (.d (.str x)), some (.d (.str y)), some (.d (.str z)), some (.l ds)] _ _ _
  refine kb_set 8 sc__law_row.nd (ke_cat2 (n := 16) (m := 2) (G := GoodR) (ke_imp (ke_var 8) (fun s e => ⟨ds, e, hl, hg⟩)) (ke_gl (G := GoodR) (.cons (ke_imp (ke_ed (ed_tup (ad_cons ed_str (ad_cons ed_int (ad_cons (ed_var 4) (ad_cons (ed_var 2) ad_nil)))))) ?_) (.cons (ke_imp (ke_tup2 (ka_cons (ke_ed ed_str) (ka_cons (ke_ed (ed_var 7)) (ka_cons (ke_ed (ed_var 2)) (ka_cons (ke_by T (hr.mono (by decide))) (ka_cons (ke_take T (hr.mono (by decide)) (ed_var 1) (by omega) (by omega)) ka_nil))))) (by intro ss h; (repeat (obtain ⟨_, _, rfl, _, h⟩ := h)); first | rfl | exact Nat.le_of_ble_eq_true rfl)) ?_) .nil rfl) rfl) (by decide))) ?_
  · rintro s ⟨ss, ⟨_, _, rfl, rfl, _, _, rfl, rfl, _, _, rfl, rfl, _, _, rfl, rfl, rfl⟩, rfl⟩
    exact ⟨_, rfl, .inr ⟨.poke 7 o b, ⟨⟨by decide, by decide⟩, ho, hb⟩, rfl⟩⟩
  · rintro s ⟨ss, ⟨_, _, rfl, rfl, _, _, rfl, rfl, _, _, rfl, rfl, _, _, rfl, ⟨y9, hy9, rfl⟩, _, _, rfl, ⟨t, t0, t1, rfl⟩, rfl⟩, rfl⟩
    exact ⟨_, rfl, .inr ⟨.jump z b y9 t, ⟨hz, hb, hy9, t0, by omega⟩, rfl⟩⟩
  rintro s ⟨ds, rfl, hl, hg⟩
  show KB _ _ [none, some (.d (.int n)), some (.d (.int b)), some (.d (.int c)), some (.d (.int o)), some (.d (.str x)), some (.d (.str y)), some (.d (.str z)), some (.l ds)] _ _ _
  refine kb_set 8 sc__law_row.nd (ke_cat2 (n := 18) (m := 3) (G := GoodR) (ke_imp (ke_var 8) (fun s e => ⟨ds, e, hl, hg⟩)) (ke_gl (G := GoodR) (.cons (ke_imp (ke_tup2 (ka_cons (ke_ed ed_str) (ka_cons (ke_take T (hr.mono (by decide)) (ed_add (ed_var 1) ed_int) (by omega) (by omega)) ka_nil)) (by intro ss h; (repeat (obtain ⟨_, _, rfl, _, h⟩ := h)); first | rfl | exact Nat.le_of_ble_eq_true rfl)) ?_) (.cons (ke_imp (ke_ed (ed_tup (ad_cons ed_str (ad_cons (ed_var 2) ad_nil)))) ?_) (.cons (ke_imp (ke_ed (ed_tup (ad_cons ed_str ad_nil))) ?_) .nil rfl) rfl) rfl) (by decide))) ?_
  · rintro s ⟨ss, ⟨_, _, rfl, rfl, _, _, rfl, ⟨t, t0, t1, rfl⟩, rfl⟩, rfl⟩
    exact ⟨_, rfl, .inr ⟨.go t, ⟨t0, by omega⟩, rfl⟩⟩
  · rintro s ⟨ss, ⟨_, _, rfl, rfl, _, _, rfl, rfl, rfl⟩, rfl⟩
    exact ⟨_, rfl, .inr ⟨.enter b, hb, rfl⟩⟩
  · rintro s ⟨ss, ⟨_, _, rfl, rfl, rfl⟩, rfl⟩
    exact ⟨_, rfl, .inl rfl⟩
  rintro s ⟨ds, rfl, hl, hg⟩
  show KB _ _ [none, some (.d (.int n)), some (.d (.int b)), some (.d (.int c)), some (.d (.int o)), some (.d (.str x)), some (.d (.str y)), some (.d (.str z)), some (.l ds)] _ _ _
  refine kb_ret (P := fun s => ∃ d, s = .d d ∧ GoodR d) (ke_ixL (ke_var 8) (ke_take (n := 21) T (hr.mono (by decide)) ed_int (by decide) (by decide)) ?_) (fun s h => ⟨n, rfl, n0, n1, h⟩)
  rintro s t rfl ⟨r, r0, r1, rfl⟩
  have hr' : r.toNat < ds.length := by omega
  refine ⟨ds, r, ds[r.toNat], rfl, rfl, ?_, _, rfl, hg _ (List.getElem_mem hr')⟩
  unfold atI ixN
  rw [if_pos r0, if_pos (show r < ((ds.length : Nat) : Int) by omega)]
  exact List.getElem?_eq_getElem hr'
end
end Sr

set_option Elab.async false
set_option linter.all false
set_option maxRecDepth 100000
set_option maxHeartbeats 4000000
/-! New lists from comprehensions; all rows. -/
namespace Sr
open PySem PySem.Spec PyProof.Rows L2
open Evl (Ex)
/-- gives a new list -/
structure EL [SJ] (X : Cx) (e : Expr) (Δ : Dl) (ds : List PyData) : Prop where
  ex : ∃ t, PE X e t ∧ ∀ σ H, Sl X.K H σ Δ → ∀ Q : VK, (∀ l xs H', H l = none → Ex H H' → H' l = some (.lst xs) → DpAll X.K H' xs ds → Q (.ref l) H') → t σ H Q
section
variable {X : Cx} {Δ : Dl} {tg e iter : Expr} {d : PyData} {ds items : List PyData} {pos : Pos} {es : List Expr}
theorem EL.ed [SJ] (h : EL X e Δ ds) : ED X e Δ (.list ds) :=
  let ⟨_, p, g⟩ := h.ex
  ⟨_, p, fun σ H s Q q => g σ H s Q fun l xs H' _ e1 hl r => q _ H' e1 (.lst (SqL.of hl) r)⟩
theorem el_is [SJ] {ds' : List PyData} (h : EL X e Δ ds) (q : ds = ds') : EL X e Δ ds' := q ▸ h
theorem el_lst [SJ] (h : AD X es Δ ds) (hl : ds.length ≤ 100 := by exact Nat.le_of_ble_eq_true rfl) : EL X (.List es pos) Δ ds :=
  let ⟨_, p, g⟩ := h.ex
  ⟨_, pe_lst p, fun σ H s Q q => g σ H s _ fun vs H1 e1 r1 => ⟨by rw [dpa_len r1]; exact Nat.le_trans hl (by decide), fun t ht => q t vs _ (Evl.fresh_back e1 ht) (e1.trans (Ex.new ht)) upd_same (dps_ex (Ex.new ht) _ _ r1)⟩⟩
theorem el_lc [SJ] {elt : Expr} {ifs : List Expr} {scope : Scope} {own : List (Str × Nat)} {g : TG} {tt : TT} {te : TE} {p : PyData → Bool} {out : PyData → PyData} (Δt : PyData → Dl) (hc : X.calm = true) (hN : X.N.Nodup) (hi : ID X tg iter Δ items) (ok : BlkOk X.N X.env.scope scope own)
    (hg : ∀ (s : Shared) (H : Hp) (C : Addr) (cl : List (Str × Addr)) (fp : List Addr), PG (X.blk s H scope (compEnvC scope cl C X.env) fp) tg g) (gg : ∀ d ∈ items, GW X.K g (own.map (·.2)) (wipeD Δ (own.map (·.2))) d (Δt d))
    (ht : ∀ (s : Shared) (H : Hp) (C : Addr) (cl : List (Str × Addr)) (fp : List Addr), PTs (X.blk s H scope (compEnvC scope cl C X.env) fp) ifs tt) (gt : ∀ d ∈ items, GT X.K tt (Δt d) (p d))
    (he : ∀ (s : Shared) (H : Hp) (C : Addr) (cl : List (Str × Addr)) (fp : List Addr), PE (X.blk s H scope (compEnvC scope cl C X.env) fp) elt te) (ge : ∀ d ∈ items, p d = true → GE X.K te (Δt d) (out d)) (hf : ∀ d ∈ items, p d = true → tupOnly (out d) = true)
    (hl : items.length < sizeLine) (hk : ∀ i, SJ.ok i := by exact fun _ => True.intro) (hs : ∀ x, foldedSetIterable iter X.env x = pure x := by intro _; rfl) : EL X (.ListComp elt [⟨tg, iter, ifs, 0⟩] scope pos) Δ ((items.filter p).map out) := by
  obtain ⟨wi, pi, gi⟩ := hi.ex
  refine ⟨_, pe_lc hc hN pi ok hg ht he hs, fun σ H s Q q => gi σ H s _ fun J H1 e1 run => ?_⟩
  intro D hD
  have fresh : ∀ {H2 : Hp} {l : List V}, Ex H1 H2 → Ex H1 (upd H2 D (.lst l)) := fun e2 => e2.mut hD
  refine ⟨fun i m H2 => i + m = items.length ∧ Ex H1 H2 ∧ ∃ xs, H2 D = some (.lst xs) ∧ DpAll X.K H2 xs (((items.take i).filter p).map out), ⟨items.length, by omega, Ex.new hD, [], by rw [upd_same], .nil⟩, ?_⟩
  rintro i m H2 ⟨hi, e2, xs, hD2, dD2⟩
  obtain ⟨r1, r2⟩ := run i H2 e2
  have xl : xs.length ≤ items.length := by
    rw [dpa_len dD2, List.length_map]
    refine Nat.le_trans (List.length_filter_le _ _) ?_
    rw [List.length_take]
    omega
  by_cases hlt : i < items.length
  · have hx := List.getElem?_eq_getElem hlt
    have hm : items[i] ∈ items := List.getElem_mem hlt
    obtain ⟨go, y⟩ := r1 _ hx
    refine .inr ⟨go, fun H3 => Ex H1 H3 ∧ ∃ xs, H3 D = some (.lst xs) ∧ DpAll X.K H3 xs (((items.take (i + 1)).filter p).map out), fun H3 ⟨a, b⟩ => ⟨m - 1, by omega, by omega, a, b⟩, fun x H3 hy => ?_⟩
    obtain ⟨e3, rx⟩ := y x H3 hy
    have e13 := e2.trans e3
    refine gg _ hm (L2.wipe σ (own.map (·.2))) H3 x ((s.ex (e1.trans e13)).wipe hk _) (wipe_wipe _ _) rx _ fun σ4 H4 e4 s4 hw => ?_
    refine ⟨hw, gt _ hm σ4 H4 s4 _ fun H5 e5 => ?_⟩
    have e25 : Ex H2 H5 := (e3.trans e4).trans e5
    cases hp : p items[i] with
    | false =>
      rw [if_neg Bool.false_ne_true]
      refine ⟨(e13.trans e4).trans e5, xs, e25 _ _ hD2, ?_⟩
      rw [filter_take_succ _ _ _ _ hx, hp, if_neg Bool.false_ne_true, List.append_nil]
      exact dps_ex e25 _ _ dD2
    | true =>
      rw [if_pos rfl]
      refine ge _ hm hp σ4 H5 (s4.ex e5) _ fun v H6 e6 r6 => ⟨xs, e6 _ _ (e25 _ _ hD2), Nat.lt_of_le_of_lt xl hl, fresh (((e13.trans e4).trans e5).trans e6), xs ++ [v], upd_same, ?_⟩
      have hD6 := e6 _ _ (e25 _ _ hD2)
      have mv : ∀ {d : PyData} {w : V}, tupOnly d = true → Dp X.K H6 w d → Dp X.K (upd H6 D (.lst (xs ++ [v]))) w d := fun ht r => dp_mut hD6 (fun _ z => nomatch z) (fun _ _ z => nomatch z) ht r
      have mvs : ∀ {ds : List PyData} {vs : List V}, (∀ d ∈ ds, tupOnly d = true) → DpAll X.K H6 vs ds → DpAll X.K (upd H6 D (.lst (xs ++ [v]))) vs ds := by
        intro ds
        induction ds with
        | nil => intro vs _ r; cases r; exact .nil
        | cons a t ih =>
          intro vs ht r
          cases r with
          | cons r1 r2 => exact .cons (mv (ht a List.mem_cons_self) r1) (ih (fun d hd => ht d (List.mem_cons_of_mem _ hd)) r2)
      rw [filter_take_succ _ _ _ _ hx, hp, if_pos rfl, List.map_append]
      refine dpa_app (mvs ?_ (dps_ex (e25.trans e6) _ _ dD2)) (.cons (mv (hf _ hm hp) r6) .nil)
      intro d hd
      obtain ⟨d0, h0, rfl⟩ := List.mem_map.mp hd
      obtain ⟨h1, h2⟩ := List.mem_filter.mp h0
      exact hf d0 (List.mem_of_mem_take h1) h2
  · have e : i = items.length := by omega
    subst e
    refine .inl ⟨r2 rfl, q D xs H2 ?_ (e1.trans e2) hD2 ?_⟩
    · cases h : H D with
      | none => rfl
      | some o => rw [e1 _ _ h] at hD; cases hD
    · rw [List.take_length] at dD2
      exact dD2
theorem id_range [SJ] {n : Nat} {p2 p3 p4 : Pos} {jj} (hm : X.mg "range" = none) (hn : n < 1000) (hg : Gl X "range" := by rfl) (hs : starEach [.Constant (.int (n : Nat)) jj p2] X.env = [(false, eval (.Constant (.int (n : Nat)) jj p2) X.env)] := by rfl) :
    ID X tg (.Call (.Name "range" p3) [.Constant (.int (n : Nat)) jj p2] [] p4) Δ ((List.range n).map fun i => .int (i : Nat)) :=
  ⟨_, pi_range1 hg hm (pa_cons pe_int pa_nil (hs.trans rfl)) hs, fun σ H s R q => ⟨_, rfl, by omega, by omega, q _ H (Ex.refl H) fun i H2 e2 => by
    have hl : ((List.range n).map fun i => PyData.int (i : Nat)).length = n := by simp
    refine ⟨fun d hd => ?_, fun hi => ?_⟩
    · have hi : i < n := by
        have := (List.getElem?_eq_some_iff.mp hd).1
        rw [hl] at this
        exact this
      have ed : PyData.int (i : Nat) = d := by simpa [hi] using hd
      subst ed
      refine ⟨?_, fun x H' ⟨e, y⟩ => ?_⟩
      · show i < ((n : Int)).toNat
        simpa using hi
      · subst e y
        exact ⟨Ex.refl _, by rw [Int.zero_add]; exact .int _⟩
    · rw [hl] at hi
      show ((n : Int)).toNat ≤ i
      simp [hi]⟩⟩
theorem ge_tup [SJ] {K : PySem.W.Frag} {ta : TA} (g : GA K ta Δ ds) (hl : ds.length ≤ 100 := by exact Nat.le_of_ble_eq_true rfl) : GE K (tTup ta) Δ (.tuple ds) := fun σ H s Q q =>
  g σ H s _ fun vs H1 e1 r1 => ⟨by rw [dpa_len r1]; exact Nat.le_trans hl (by decide), fun t ht => q _ _ (e1.trans (Ex.new ht)) (.tup (SqT.of upd_same) (dps_ex (Ex.new ht) _ _ r1))⟩
end
section
variable {X : Cx} {Z : OJ X.K} {Δ : Sl2} {e : Expr} {ds : List PyData}
theorem dps_cutT {K : PySem.W.Frag} {H : Hp} {S : List Addr} (hT : ∀ b ∈ S, ∀ xs, ¬ Rd H b (.tup xs)) : ∀ {ds : List PyData} {vs : List V}, (∀ d ∈ ds, tupOnly d = true) → DpAll K H vs ds → DpAll K (cut S H) vs ds
  | [], _, _, .nil => .nil
  | d :: ds, _, h, .cons r1 r2 => .cons (dp_cutB hT _ _ (h d List.mem_cons_self) r1) (dps_cutT hT (fun x hx => h x (List.mem_cons_of_mem _ hx)) r2)
theorem Sl.drop [J : SJ] {K : PySem.W.Frag} {H : Hp} {σ : L2.St} {Δ : Dl} (s : @Sl J K H σ Δ) : @Sl sjT K H σ Δ := ⟨⟨trivial, s.1.2⟩, s.2⟩
theorem ke_el (h : @EL sjT X e (dl Δ) ds) (ht : ∀ d ∈ ds, tupOnly d = true) : KE X Z Δ e (fun s => s = .l ds) := fun H0 σ H s Q q => by
  obtain ⟨t, p, g⟩ := h.ex
  refine we_of p (g σ H (@Sl.drop Z.sj _ _ _ _ s.sl) _ fun l xs H' hn e1 hl r => ?_)
  have c := s.ex e1
  have f := s.free hn
  exact q _ H' (.l ds) rfl c (cut_ex e1) ⟨l, xs, rfl, f.2, by rw [cut_at f.1]; exact hl, dps_cutT c.nocut ht r⟩
end
/-! ### all rows -/
def pokes : List Rw := [.poke 7 0 0, .poke 7 1 1, .poke 7 2 2, .poke 7 3 3, .poke 7 4 4, .poke 7 5 5, .poke 7 6 6, .poke 7 7 7]
def headR : List Rw := pokes ++ [.load 5 7 0]
structure Rows (l : List Rw) : Prop where
  ex : ∃ (ops tail : List Rw), l = headR ++ (ops ++ (tail ++ [.go 17])) ∧ ops.length = 8 ∧ (∀ (i : Nat) r, ops[i]? = some r → ∃ x ∈ DEEDSl, r = .op x (i : Nat) (.worth 0)) ∧ tail.length ≤ 20 ∧ ∀ r ∈ tail, r.ok
def R_rows_of : List PyData → Sv → Prop := fun ds s => ds = [] ∧ ∃ l : List Rw, Rows l ∧ l.length = 38 ∧ s = .l (l.map Rw.d)
section
variable {X : Cx} {p : Addr} {i k : Nat} {Δ : Sl2} {e : Expr} {px pos q : Pos} {n : Int} {y : Str}
theorem ke_row (T : Tx X.prog X.w X.K X.mg X.base) (hr : Room 3 X.A) (ha : @ED (poolZ X.K p i).sj X e (dl Δ) (.int n)) (n0 : 1 ≤ n) (n1 : n ≤ 4000)
    (hN : X.N[i]? = some y := by rfl) (hv : Vis X.env.scope y := by first | exact Or.inl rfl | exact Or.inr (Or.inl rfl) | exact Or.inr (Or.inr rfl)) (hd : (y == ("__debug__" : Str)) = false := by decide) (hcd : (y == ("__classdict__" : Str)) = false := by decide)
    (hg : Gl X "_law_row" := by rfl) (hs : starEach [e] X.env = (false, eval e X.env) :: starEach [] X.env := by rfl) (he : starEach [.Name y px, e] X.env = (false, eval (.Name y px) X.env) :: starEach [e] X.env := by rfl) (hpl : (backTo pos (starEach [e] X.env)).any (·.1) = false := by rfl) :
    KE X (poolZ X.K p i) Δ (.Call (.Name "_law_row" q) [.Name y px, e] [] pos) (fun s => ∃ d, s = .d d ∧ GoodR d) :=
  ke_pool (pfp_row T) hr (ka_cons (ke_ed ha) ka_nil hs) (fun ss ⟨s, r, e1, e2, e3⟩ => by subst e1 e2 e3; exact ⟨.d (.tuple [.str "back"]), n, rfl, n0, n1, _, rfl, .inl rfl⟩)
    (fun ss s _ ⟨m, _, _, _, h⟩ => h) hN hv hd hcd hg (by decide) he hpl
end
end Sr

set_option Elab.async false
set_option linter.all false
set_option maxRecDepth 100000
set_option maxHeartbeats 4000000
/-! All rows (stage 2). -/
namespace Sr
open PySem PySem.Spec PyProof.Rows L2
open Evl (Ex)
theorem rws_tup (l : List Rw) : ∀ d ∈ l.map Rw.d, tupOnly d = true := fun d hd => by
  obtain ⟨r, _, rfl⟩ := List.mem_map.mp hd
  exact rw_tup r
def pokeO : PyData → PyData
  | .int i => .tuple [.str "poke", .int 7, .int i, .int (i % 8)]
  | d => d
theorem x_back (r : Rw) : decide (r.x = "back") = false := by cases r <;> rfl
section
variable {P : Program} {w : World} {K : PySem.W.Frag} {mg : Str → Option Value} {base : Heap}
theorem sc__law_rows_of : FnScope ["_law_pool_here", "_law_rows_here", "_law_box", "_law_turn", "_law_row_here", "_law_off"] ["_law_pool_here"] (defScope t__law_rows_of) := ⟨rfl, rfl, rfl, by decide +kernel, rfl, by decide +kernel, by decide +kernel⟩
theorem pfp_rows_of (T : Tx P w K mg base) : PFP P w K mg base 4 "_law_rows_of" R_rows_of := by
  refine pfp_of (N := ["_law_pool_here", "_law_rows_here", "_law_box", "_law_turn", "_law_row_here", "_law_off"]) (ps := ["_law_pool_here"]) (n := 5) (k := 3) (fd__law_rows_of T) sc__law_rows_of (gl__law_rows_of T) rfl (fun ds d h => by obtain ⟨rfl, _⟩ := h; rfl) (fun ds d h => by obtain ⟨rfl, _⟩ := h; intro d hd; cases hd) (fun _ _ _ _ _ _ us hl => match us, hl with | [_], _ => rfl) ?_
  intro f cdv A outer s H E hr p ds s0 h
  obtain ⟨rfl, _⟩ := h
  have hlc : @EL sjT (cxOf CX0 P w K mg base ["_law_pool_here", "_law_rows_here", "_law_box", "_law_turn", "_law_row_here", "_law_off"] "_law_rows_of" (defScope t__law_rows_of) f cdv A outer s H E).nox (match defBody t__law_rows_of with | .Assign _ (.BinOp e _ _ _) _ :: _ => e | _ => default) [none, none, none, none, none, none] (pokes.map Rw.d) :=
    el_is (el_lc (own := [("_law_off", 5)]) (p := fun _ => true) (out := pokeO) (fun d => [none, none, none, none, none, some d]) rfl sc__law_rows_of.nd (id_range (n := 8) (fr_range T) (by decide)) (blkOk_by (by rfl)) (fun _ _ _ _ _ => pg_name sc__law_rows_of.nd rfl (.inl rfl)) (fun d hd => gw_name 5) (fun _ _ _ _ _ => pts_nil) (fun d hd σ H s Q q => q H (Ex.refl H)) (fun _ _ _ _ _ => pe_tup (pa_cons pe_str (pa_cons pe_int (pa_cons (pv 5) (pa_cons (pe_op op_mod (pv 5) pe_int) pa_nil)))))
      (fun d hd hp => by
        obtain ⟨i, hi, rfl⟩ := List.mem_map.mp hd
        exact ge_tup (ga_cons (ge_c fun _ => .str _) (ga_cons (ge_c fun _ => .int _) (ga_cons (ge_var rfl) (ga_cons (ge_op' (ge_var rfl) (ge_c fun _ => .int _) (rd_I' (by decide) fun _ => .int _)) ga_nil)))))
      (fun d hd hp => by obtain ⟨i, hi, rfl⟩ := List.mem_map.mp hd; rfl) (by decide +kernel)) rfl
  letI J : SJ := (poolZ K p 0).sj
  refine kb_set (P := fun s => s = .l (headR.map Rw.d)) 1 sc__law_rows_of.nd (ke_cat (ke_el hlc (rws_tup _)) (ke_lst2 (ka_cons (ke_ed (ed_tup (ad_cons ed_str (ad_cons ed_int (ad_cons ed_int (ad_cons ed_int ad_nil)))))) ka_nil) (by intro ss h; (repeat (obtain ⟨_, _, rfl, _, h⟩ := h)); first | rfl | exact Nat.le_of_ble_eq_true rfl)) ?_) ?_
  · rintro s t rfl ⟨ss, ⟨s1, r1, rfl, rfl, rfl⟩, rfl⟩
    exact ⟨_, _, rfl, rfl, by decide, rfl⟩
  rintro s rfl
  refine kb_range 2 8 (fun i Δ => ∃ (ops : List Rw) (o : Option Sv), ops.length = i ∧ (∀ (j : Nat) r, ops[j]? = some r → ∃ x ∈ DEEDSl, r = .op x (j : Nat) (.worth 0)) ∧ Δ = [none, some (.l ((headR ++ ops).map Rw.d)), o, none, none, none]) PassesOwn.never rfl sc__law_rows_of.nd (fr_range T) (by decide) ⟨[], none, rfl, (fun j r h => by simp at h), rfl⟩ ?_ ?_
  · rintro i Δ' hi ⟨ops, o, hl, ho, rfl⟩
    show KB _ _ [none, some (.l ((headR ++ ops).map Rw.d)), some (.d (.int (i : Nat))), none, none, none] _ _ _
    refine kb_append 1 rfl (rws_tup _) (by rw [List.length_map, List.length_append, hl]; exact Nat.le_trans (Nat.add_le_add_left (Nat.le_of_lt hi) _) (by decide)) (ke_imp (P := fun s => ∃ x ∈ DEEDSl, s = .d (Rw.op x (i : Nat) (.worth 0)).d) (ke_tup2 (ka_cons (ke_ed ed_str) (ka_cons (ke_pick (n := 3) (ka_cons (ke_ed ed_str) (ka_cons (ke_ed ed_str) (ka_cons (ke_ed ed_str) ka_nil))) (by intro ss h; (repeat (obtain ⟨_, _, rfl, _, h⟩ := h)); first | rfl | exact Nat.le_of_ble_eq_true rfl) (by decide) (ke_take (n := 3) T (hr.mono (by decide)) ed_int (by decide) (by decide))) (ka_cons (ke_ed (ed_var 2)) (ka_cons (ke_ed (ed_tup (ad_cons ed_str (ad_cons ed_int ad_nil)))) ka_nil)))) (by intro ss h; (repeat (obtain ⟨_, _, rfl, _, h⟩ := h)); first | rfl | exact Nat.le_of_ble_eq_true rfl)) ?_) (by rintro s ⟨x, _, rfl⟩; exact ⟨_, rfl, rfl⟩) pool_keep ?_
    · rintro s ⟨ss, ⟨_, _, rfl, rfl, _, _, rfl, ⟨ss2, s9, ⟨_, _, rfl, rfl, _, _, rfl, rfl, _, _, rfl, rfl, rfl⟩, hm, rfl⟩, _, _, rfl, rfl, _, _, rfl, rfl, rfl⟩, rfl⟩
      simp only [List.mem_cons, List.not_mem_nil, or_false] at hm
      rcases hm with rfl | rfl | rfl
      · exact ⟨"plus", by simp [DEEDSl], rfl⟩
      · exact ⟨"or", by simp [DEEDSl], rfl⟩
      · exact ⟨"either", by simp [DEEDSl], rfl⟩
    · rintro d ⟨x, hx, e⟩
      injection e with e
      subst e
      refine kb_nil ⟨ops ++ [.op x (i : Nat) (.worth 0)], some (.d (.int (i : Nat))), by rw [List.length_append, hl]; rfl, fun j r h => ?_, ?_⟩
      · by_cases hj : j < ops.length
        · rw [List.getElem?_append_left hj] at h
          exact ho j r h
        · rw [List.getElem?_append_right (by omega)] at h
          have : j - ops.length = 0 := by
            cases q : j - ops.length with
            | zero => rfl
            | succ k => rw [q] at h; simp at h
          rw [this] at h
          have e : Rw.op x (i : Nat) (.worth 0) = r := by simpa using h
          subst e
          exact ⟨x, hx, by rw [show j = i by omega]⟩
      · show [none, some (Sv.l ((headR ++ ops).map Rw.d ++ [_])), some (Sv.d (.int (i : Nat))), none, none, none] = _
        rw [← List.append_assoc, List.map_append (l₁ := headR ++ ops)]
        rfl
  rintro Δ' ⟨ops, o, hl, ho, rfl⟩
  have hlo : (headR ++ ops).length = 17 := by rw [List.length_append, hl]; rfl
  refine kb_range 3 20 (fun i Δ => ∃ (tail : List Rw) (o1 o2 o3 : Option Sv), tail.length = i ∧ (∀ r ∈ tail, r.ok) ∧ Δ = [none, some (.l ((headR ++ ops ++ tail).map Rw.d)), o1, o2, o3, none]) PassesOwn.never rfl sc__law_rows_of.nd (fr_range T) (by decide) ⟨[], o, none, none, rfl, (fun r h => by cases h), by rw [List.append_nil]⟩ ?_ ?_
  · rintro i Δ' hi ⟨tail, o1, o2, o3, ht, hk, rfl⟩
    show KB _ _ [none, some (.l ((headR ++ ops ++ tail).map Rw.d)), o1, some (.d (.int (i : Nat))), o3, none] _ _ _
    have hlen : ((headR ++ ops ++ tail).map Rw.d).length ≤ 1000 := by rw [List.length_map, List.length_append, hlo, ht]; omega
    refine kb_set 4 sc__law_rows_of.nd (ke_row T (hr.mono (by decide)) ed_int (by decide) (by decide)) ?_
    rintro s ⟨d, rfl, hd⟩
    show KB _ _ [none, some (.l ((headR ++ ops ++ tail).map Rw.d)), o1, some (.d (.int (i : Nat))), some (.d d), none] _ _ _
    refine kb_append 1 rfl (rws_tup _) hlen (P := fun s => ∃ r : Rw, r.ok ∧ s = .d r.d) ?_ (by rintro s ⟨r, _, rfl⟩; exact ⟨_, rfl, rw_tup r⟩) pool_keep ?_
    · rcases hd with rfl | ⟨row, hr9, rfl⟩
      · refine ke_ixL (ke_lst2 (ka_cons (ke_var 4) (ka_cons (ke_tup2 (ka_cons (ke_ed ed_str) (ka_cons (ke_ed ed_str) (ka_cons (ke_take (n := 8) T (hr.mono (by decide)) ed_int (by decide) (by decide)) (ka_cons (ke_ed (ed_tup (ad_cons ed_str (ad_cons ed_int ad_nil)))) ka_nil)))) (by intro ss h; (repeat (obtain ⟨_, _, rfl, _, h⟩ := h)); first | rfl | exact Nat.le_of_ble_eq_true rfl)) ka_nil)) (by intro ss h; (repeat (obtain ⟨_, _, rfl, _, h⟩ := h)); first | rfl | exact Nat.le_of_ble_eq_true rfl)) (ke_ed (ed_intb (fr_int T) (ed_eqS (ed_ixT (ed_var 4) ed_int) ed_str))) ?_
        rintro s t ⟨ss, ⟨_, _, rfl, rfl, _, _, rfl, ⟨ss2, ⟨_, _, rfl, rfl, _, _, rfl, rfl, _, _, rfl, ⟨r, r0, r1, rfl⟩, _, _, rfl, rfl, rfl⟩, rfl⟩, rfl⟩, rfl⟩ rfl
        exact ⟨_, _, _, rfl, rfl, rfl, .op "plus" r (.box 5), ⟨by simp [DEEDSl], ⟨r0, by omega⟩, by decide, by decide⟩, rfl⟩
      · have h0 : atI (PyData.str row.x :: row.args) 0 = some (.str row.x) := atI0
        refine ke_ixL (ke_lst2 (ka_cons (ke_var 4) (ka_cons (ke_tup2 (ka_cons (ke_ed ed_str) (ka_cons (ke_ed ed_str) (ka_cons (ke_take (n := 8) T (hr.mono (by decide)) ed_int (by decide) (by decide)) (ka_cons (ke_ed (ed_tup (ad_cons ed_str (ad_cons ed_int ad_nil)))) ka_nil)))) (by intro ss h; (repeat (obtain ⟨_, _, rfl, _, h⟩ := h)); first | rfl | exact Nat.le_of_ble_eq_true rfl)) ka_nil)) (by intro ss h; (repeat (obtain ⟨_, _, rfl, _, h⟩ := h)); first | rfl | exact Nat.le_of_ble_eq_true rfl)) (ke_ed (ed_intb (fr_int T) (ed_eqS (ed_ixT (ds := .str row.x :: row.args) (ed_var 4) ed_int h0) ed_str))) ?_
        rintro s t ⟨ss, ⟨_, _, rfl, rfl, _, _, rfl, ⟨ss2, _, rfl⟩, rfl⟩, rfl⟩ rfl
        rw [x_back]
        exact ⟨_, _, _, rfl, rfl, rfl, row, hr9, rfl⟩
    · rintro d' ⟨r, hr9, e⟩
      injection e with e
      subst e
      refine kb_nil ⟨tail ++ [r], keepS o1, some (.d (.int (i : Nat))), keepS (some (.d d)), by rw [List.length_append, ht]; rfl, fun r' h => (List.mem_append.mp h).elim (hk r') fun z => by rw [List.mem_singleton.mp z]; exact hr9, ?_⟩
      show (keep2 [none, some (.l ((headR ++ ops ++ tail).map Rw.d)), o1, some (.d (.int (i : Nat))), some (.d d), none]).set 1 (some (.l ((headR ++ ops ++ tail).map Rw.d ++ [r.d]))) = _
      rw [← List.append_assoc, List.map_append (l₁ := headR ++ ops ++ tail)]
      rfl
  rintro Δ' ⟨tail, o1, o2, o3, ht, hk, rfl⟩
  refine kb_ret (P := fun s => s = .l ((headR ++ ops ++ tail).map Rw.d ++ [(Rw.go 17).d])) (ke_cat (ke_var 1) (ke_lst2 (ka_cons (ke_ed (ed_tup (ad_cons ed_str (ad_cons ed_int ad_nil)))) ka_nil) (by intro ss h; (repeat (obtain ⟨_, _, rfl, _, h⟩ := h)); first | rfl | exact Nat.le_of_ble_eq_true rfl)) ?_) ?_
  · rintro s t rfl ⟨ss, ⟨s1, r1, rfl, rfl, rfl⟩, rfl⟩
    exact ⟨_, _, rfl, rfl, by rw [List.length_map, List.length_append, hlo, ht]; decide, rfl⟩
  · rintro s rfl
    refine ⟨rfl, headR ++ (ops ++ (tail ++ [.go 17])), ⟨ops, tail, rfl, hl, ho, by omega, hk⟩, ?_, ?_⟩
    · rw [← List.append_assoc, List.length_append, hlo, List.length_append, ht]
      rfl
    · rw [← List.append_assoc, ← List.append_assoc, List.map_append (l₁ := headR ++ ops ++ tail)]
      rfl
end
end Sr

set_option Elab.async false
set_option linter.all false
set_option maxRecDepth 100000
set_option maxHeartbeats 4000000
/-! The pool is made. -/
namespace Sr
open PySem PySem.Spec PyProof.Rows L2
open Evl (Ex)
section
variable {X : Cx} {Δ : Dl} {a b : Expr} {pos p p2 : Pos} {ds : List PyData} {i j : Int} {lo hi : Option Expr} {l u : Option Int}
theorem ed_abs [SJ] (hm : X.mg "abs" = none) (ha : ED X a Δ (.int i)) (hg : Gl X "abs" := by rfl) (hs : starEach [a] X.env = (false, eval a X.env) :: starEach [] X.env := by rfl) : ED X (.Call (.Name "abs" p) [a] [] pos) Δ (.int (if i < 0 then -i else i)) :=
  let ⟨_, pa, ga⟩ := ha.ex
  ⟨_, pe_callB call_abs hg hm (by decide +kernel) (pa_cons pa pa_nil hs) (he := hs), fun σ H s Q q => ga σ H s _ fun x H1 e1 r1 => ⟨i, by rw [dp_int r1], q _ H1 e1 (.int _)⟩⟩
theorem ed_pow [SJ] (ha : ED X a Δ (.int i)) (hb : ED X b Δ (.int j)) (hc : CPow i j) : ED X (.BinOp a .Pow b pos) Δ (.int (i ^ j.toNat)) := ed_op op_pow (rd_I hc fun _ => .int _) ha hb
theorem ed_slL [SJ] (ha : ED X a Δ (.list ds)) (hl : OD X lo Δ l) (hu : OD X hi Δ u) : ED X (.Subscript a (.Slice lo hi none p2) pos) Δ (.list (cutD ds l u)) :=
  let ⟨_, pa, ga⟩ := ha.ex
  let ⟨_, pl, gl⟩ := hl.ex
  let ⟨_, pu, gu⟩ := hu.ex
  ⟨_, pe_slice sl_list pa pl pu, fun σ H s Q q => ga σ H s _ fun x H1 e1 r1 => gl σ H1 (s.ex e1) _ fun H2 e2 => gu σ H2 (s.ex (e1.trans e2)) _ fun H3 e3 => by
    obtain ⟨p, xs, e, hs, r⟩ := dp_lst (dp_ex (e2.trans e3) _ _ r1)
    subst e
    refine ⟨p, xs, rfl, hs, fun t ht => ?_⟩
    exact q _ _ (((e1.trans e2).trans e3).trans (Ex.new ht)) (.lst (SqL.of upd_same) (dps_ex (Ex.new ht) _ _ (dpa_cut r)))⟩
theorem cutD_map {α : Type} (f : α → PyData) (ns : List α) (lo hi : Option Int) : ∃ ms : List α, cutD (ns.map f) lo hi = ms.map f :=
  ⟨(ns.drop (HT.sIx ns.length 0 lo)).take (HT.sIx ns.length ns.length hi - HT.sIx ns.length 0 lo), by unfold cutD; rw [List.length_map, List.map_take, List.map_drop]⟩
end
section
variable {X : Cx} {E : XK} {CF : Addr} {Δ Δ1 : Dl} {st : Stmt} {sts : List Stmt} {σ : L2.St} {H : Hp} {D : Ends} {e : Expr} {ds : List PyData} {Q : VK}
theorem wb_sd [SJ] (h : SD X E CF st Δ (.nx Δ1)) (s : Sl X.K H σ Δ) (q : ∀ σ1 H1, Ex H H1 → Sl X.K H1 σ1 Δ1 → wB X sts D σ1 H1) : wB X (st :: sts) D σ H :=
  let ⟨_, p, g⟩ := h.ex
  wb_cons (ws_of p (g _ σ H s q))
theorem we_el [SJ] (h : EL X e Δ ds) (s : Sl X.K H σ Δ) (q : ∀ l xs H', H l = none → Ex H H' → H' l = some (.lst xs) → DpAll X.K H' xs ds → Q (.ref l) H') : wE X e σ H Q :=
  let ⟨_, p, g⟩ := h.ex
  we_of p (g σ H s Q q)
end
/-- the pool: a new list of two ints -/
def spPool (K : PySem.W.Frag) : Sp := fun vs H Q _ => ∃ (ns : List Int) (k : Int), DpAll K H vs [.list (ns.map .int), .int k] ∧ ns.length ≤ 63 ∧ 0 ≤ k ∧ k ≤ 5 ∧ ∀ (l : Addr) (a b : Int) H', H l = none → Ex H H' → H' l = some (.lst [.int a, .int b]) → Q (.ref l) H'
section
variable {P : Program} {w : World} {K : PySem.W.Frag} {mg : Str → Option Value} {base : Heap}
theorem sc__law_pool : FnScope ["_law_script", "_law_k", "_law_cell", "_law_size", "_law_mixed"] ["_law_script", "_law_k"] (defScope t__law_pool) := ⟨rfl, rfl, rfl, by decide +kernel, rfl, by decide +kernel, by decide +kernel⟩
theorem fn_pool (T : Tx P w K mg base) : ∃ fd, FnOk P w K mg base CX0 1 (He.fAd K d__law_pool.at_) fd ["_law_script", "_law_k"] (spPool K) ∧ Binds K fd ["_law_script", "_law_k"] [] := by
  obtain ⟨fd, F⟩ := fd__law_pool T
  refine ⟨fd, F.ok sc__law_pool (fun vs H Q E h => ?_) (fun cdv A outer s H vs Q E hr h => ?_), F.bindsN fun _ _ _ _ _ _ us hl => match us, hl with | [_, _], _ => rfl⟩
  · obtain ⟨ns, k, r, _⟩ := h
    exact dpa_len r
  obtain ⟨ns, k, r, hl, k0, k1, q⟩ := h
  have s0 : Sl K H (L2.start ["_law_script", "_law_k", "_law_cell", "_law_size", "_law_mixed"] vs) (([.list (ns.map .int), .int k] : List PyData).map some ++ List.replicate 3 none) := sl_start trivial r 3 (by rw [dpa_len r]; rfl)
  obtain ⟨ms, hms⟩ := cutD_map PyData.int ns none (some 63)
  show wB (cxOf CX0 P w K mg base ["_law_script", "_law_k", "_law_cell", "_law_size", "_law_mixed"] "_law_pool" (defScope t__law_pool) (He.fAd K d__law_pool.at_) cdv A outer s H E) (defBody t__law_pool) _ _ _
  refine wb_sd (E := E0) (CF := 0) (sd_set 2 sc__law_pool.nd (ed_add (ed_mul ed_int (ed_sum rfl (fr_sum T) (ed_is (ed_slL (ed_var 0) od_none (od_int ed_int)) (congrArg PyData.list hms))) (.inl ⟨by decide, by decide⟩)) (ed_var 1))) s0 fun σ1 H1 e1 s1 => ?_
  have h2 : ∃ c : Int, SD (cxOf CX0 P w K mg base ["_law_script", "_law_k", "_law_cell", "_law_size", "_law_mixed"] "_law_pool" (defScope t__law_pool) (He.fAd K d__law_pool.at_) cdv A outer s H E) E0 0 (match defBody t__law_pool with | _ :: st :: _ => st | _ => default) [some (.list (ns.map .int)), some (.int k), some (.int (7 * ms.sum + k)), none, none] (.nx [some (.list (ns.map .int)), some (.int k), some (.int c), none, none]) := by
    by_cases hk : k < ns.length
    · have hk' : k.toNat < ns.length := by omega
      refine ⟨ns[k.toNat], sd_if (p := true) (td_is (td_lt (ed_var 1) (ed_len (fr_len T) (ed_var 0) (by first | exact .inl rfl | exact .inr rfl))) (by rw [List.length_map]; exact decide_eq_true hk)) (fun _ => bd_one (sd_set 2 sc__law_pool.nd (ed_ixL (ed_var 0) (ed_var 1) ?_))) (fun h => Bool.noConfusion h)⟩
      unfold atI ixN
      rw [List.length_map, if_pos k0, if_pos hk]
      show (ns.map PyData.int)[k.toNat]? = _
      rw [List.getElem?_map, List.getElem?_eq_getElem hk']
      rfl
    · exact ⟨_, sd_if (p := false) (td_is (td_lt (ed_var 1) (ed_len (fr_len T) (ed_var 0) (by first | exact .inl rfl | exact .inr rfl))) (by rw [List.length_map]; exact decide_eq_false hk)) (fun h => Bool.noConfusion h) (fun _ => bd_nil)⟩
  obtain ⟨c, h2⟩ := h2
  refine wb_sd h2 s1 fun σ2 H2 e2 s2 => ?_
  refine wb_sd (E := E0) (CF := 0) (sd_set 3 sc__law_pool.nd (ed_abs (fr_abs T) (ed_var 2))) s2 fun σ3 H3 e3 s3 => ?_
  refine wb_sd (E := E0) (CF := 0) (sd_set 4 sc__law_pool.nd (ed_mod (ed_mul (ed_add (ed_add (ed_add (ed_mod (ed_var 3) ed_int (by decide)) (ed_mul (ed_mul ed_int (ed_var 1) ((.inr ⟨by omega, by omega⟩))) (ed_var 1) ((.inr ⟨by omega, by omega⟩)))) (ed_mul ed_int (ed_var 1) ((.inr ⟨by omega, by omega⟩)))) ed_int) ed_int ((.inr ⟨by decide, by decide⟩))) ed_int (by decide))) s3 fun σ4 H4 e4 s4 => ?_
  refine wb_one (ws_ret (we_el (el_lst (ad_cons (ed_mul (ed_var 3) (ed_intb (fr_int T) (ed_ge (ed_var 3) (ed_pow ed_int ed_int ?_))) ?_) (ad_cons (ed_mod (ed_mul (ed_var 4) (ed_var 4) ?_) ed_int (by decide)) ad_nil))) s4 fun l xs H5 hn e5 hl5 r5 => ?_))
  · exact ⟨by decide, by decide, by decide⟩
  · refine .inr ⟨?_, ?_⟩ <;> (split <;> omega)
  · exact .inl ⟨by omega, by omega⟩
  · cases r5 with
    | cons r1 rs =>
      cases rs with
      | cons r2 rs =>
        cases rs
        rw [dp_int r1, dp_int r2] at hl5
        have e04 := ((e1.trans e2).trans e3).trans e4
        exact q l _ _ H5 (Evl.fresh_back e04 hn) (e04.trans e5) hl5
end
end Sr

set_option Elab.async false
set_option linter.all false
set_option maxRecDepth 100000
set_option maxHeartbeats 4000000
/-! What the making of a machine wants of the language: enumerate of a tuple, update of a dict, a loop of one turn. -/
namespace Sr
open PySem PySem.Spec PyProof.Rows L2
open Evl (Ex)
theorem meets_enum1 {v : Value} {o : Obj} {Hh : Heap → Prop} (B : Begins v o Hh) :
    Meets (Builtin.«enumerate.__new__» ⟨[.type "enumerate", v], []⟩) (fun _ R s => Hh s.heap ∧
      R (.ok (.ret (.ref (s.heap.push o).objs.size))) { s with heap := (s.heap.push o).push { cls := .type "enumerate", data := .fields #[.none, .bool false, .ref s.heap.objs.size, rawInt 0, .none, .none] } }) :=
  .of_wp fun prog w A R s hs => by
    obtain ⟨hp, gg, dd, tk, os⟩ := s
    obtain ⟨h1, h2⟩ := hs
    have subE := sub_enumerate
    have it : ∀ {A' : Around} {E : Value → Shared → Prop} {Q : Value → Shared → Prop}, Q (.ref hp.objs.size) ⟨hp.push o, gg, dd, tk, os⟩ → wpAny (model prog w) A' (pyIter v) Q E ⟨hp, gg, dd, tk, os⟩ :=
      fun z => B.iter prog w _ _ ⟨hp, gg, dd, tk, os⟩ _ h1 z
    wp_walk using it
    refine wpAny_stack_any fun st => wpAny_pure ?_
    split
    · rename_i c _ _ _ _ _
      cases (c == Value.type "enumerate") <;> (wp_walk using it; exact ⟨_, rfl, h2⟩)
    · wp_walk using it
      exact ⟨_, rfl, h2⟩
theorem call_enum1 {prog : Program} {w : World} {A : Around} {E : Value → Shared → Prop} {s : Shared} {v : Value} {o : Obj} {Hh : Heap → Prop} {Q : Value → Shared → Prop} (B : Begins v o Hh) (h1 : Hh s.heap)
    (h : ∀ h', IsEnum h' (s.heap.objs.size + 1) s.heap.objs.size 0 .none → h'.get? s.heap.objs.size = some o → (∀ b u, s.heap.get? b = some u → h'.get? b = some u) → Q (.ref (s.heap.objs.size + 1)) { s with heap := h' }) :
    wpAny (model prog w) A (call (.type "enumerate") [v]) Q E s := by
  refine callType_new PySem.F.called_enumerate (by decide) (PySem.F.typeCall_enumerate_1 _) (PySem.F.newCall_enumerate_1 _) (fun obj => PySem.F.args_object_init_2 obj _) PySem.F.entry_enumerate_new (meets_enum1 B) ⟨h1, ?_⟩
  have hz : (s.heap.push o).objs.size = s.heap.objs.size + 1 := Heap.size_push ..
  show _ ∧ _
  rw [hz]
  have he : IsEnum ((s.heap.push o).push { cls := .type "enumerate", data := .fields #[.none, .bool false, .ref s.heap.objs.size, rawInt 0, .none, .none] }) (s.heap.objs.size + 1) s.heap.objs.size 0 .none := by
    have q := Heap.get?_push_size (s.heap.push o) (o := { cls := .type "enumerate", data := .fields #[.none, .bool false, .ref s.heap.objs.size, rawInt 0, .none, .none] }) rfl
    rw [hz] at q
    exact q
  exact ⟨⟨_, he, rfl⟩, h _ he (Heap.get?_push_of_some _ (Heap.get?_push_size _ B.free)) fun b u x => Heap.get?_push_of_some _ (Heap.get?_push_of_some _ x)⟩
/-- enumerate of an empty tuple: no turn -/
def ItN (K : PySem.W.Frag) (t : Addr) : It := ⟨fun _ _ => False, fun _ _ _ _ => False, fun i H => i = 0 ∧ SqT K H t []⟩
theorem turn_enumN {P : Program} {w : World} {K : PySem.W.Frag} {elts : List Expr} {kk : Nat} {tpos : Pos} (t e it : Addr) (hne : t ≠ it) :
    Turn P w K (.Tuple elts kk tpos) (ItN K t) [e, it] e (fun i h => (∃ old, IsEnum h e it ((i : Nat) : Int) old) ∧ h.IsTupleIter it t i ∧ e ≠ it) where
  mem := by simp
  obj := fun i h st b hb => by
    obtain ⟨⟨old, he⟩, ⟨o, ho, hc, hd⟩, _⟩ := st
    have e' : b = e ∨ b = it := by simpa using hb
    rcases e' with z | z
    · rw [z]; exact ⟨_, he, fun v q => nomatch q⟩
    · rw [z]; exact ⟨o, ho, fun v q => by rw [hd] at q; cases q⟩
  keep := fun i h h' st k => let ⟨⟨old, he⟩, ⟨o, ho, r⟩, hn⟩ := st; ⟨⟨old, k e (by simp) _ he⟩, ⟨o, k it (by simp) o ho, r⟩, hn⟩
  item := by
    intro X hP hw hK hc i pins s σ H E I hf st hg
    exact False.elim hg
  done := by
    intro X hP hw hK hc i pins s σ H E I hf st hg
    subst hP hw hK
    obtain ⟨⟨old, he⟩, hit, hn⟩ := st
    obtain ⟨i0, hq⟩ := hg
    subst i0
    obtain ⟨its, rv, ht, hz⟩ := I.tuple hq
    cases rv
    obtain ⟨f0, f1, f2, f3, f4, f5⟩ := hf it (by simp)
    exact wpAny_pyNext_enum_endD (Draws.tuple (A := X.A.in1) (I.ok.hd hc) it t hne #[]) he ⟨hit, ht⟩ fun h' eb => ⟨rfl, I.turned (t' := s.toks) (fun b o hb q => eb b o hb q) f0 f1 f3 f4 f5⟩
  self := fun A i s Q E st h => let ⟨⟨_, he⟩, _⟩ := st; wpAny_pyIter_enum he h
def iEnumN (K : PySem.W.Frag) (ta : TA) : TI := fun σ H R => ta σ H fun vs H1 => ∃ t, vs = [.ref t] ∧ SqT K H1 t [] ∧ R (ItN K t) H1
theorem pi_enumN {X : Cx} {e : Expr} {ta : TA} {p pos tpos : Pos} {elts : List Expr} {kk : Nat} (hg : Gl X "enumerate") (hm : X.mg "enumerate" = none) (ha : PA X [e] ta) (hs : starEach [e] X.env = [(false, eval e X.env)] := by rfl) :
    PI X (.Tuple elts kk tpos) (.Call (.Name "enumerate" p) [e] [] pos) (iEnumN X.K ta) := by
  refine ⟨fun pins s σ H R I h => ?_⟩
  refine Call_ (ld_blt I hg hm boot_enumerate (PyProof.Rows.callWith_type1 (thn (ha.run pos pins s σ H _ I h) fun us s1 ⟨vs, H1, I1, r1, q1⟩ => ?_) hs rfl))
  obtain ⟨t, ex, hq, q⟩ := q1
  subst ex
  cases r1 with
  | cons r rr =>
    cases rr
    cases r
    obtain ⟨its, rv, ht, hz⟩ := I1.tuple hq
    have tl : t < s1.heap.objs.size := by obtain ⟨o, ho, _⟩ := ht; exact Heap.lt_size ho
    refine call_enum1 (begins_tuple t its.toArray) ht fun h' he hit hk => wpAny_pyIter_enum he ?_
    have I2 : Inv X pins σ H1 { s1 with heap := h' } := I1.kept (t' := s1.toks) hk
    refine ⟨s1.heap.objs.size + 1, [s1.heap.objs.size + 1, s1.heap.objs.size], _, _, H1, rfl, I2, turn_enumN t (s1.heap.objs.size + 1) s1.heap.objs.size (Nat.ne_of_lt tl), ⟨⟨.none, he⟩, ⟨_, hit, rfl, rfl⟩, Nat.succ_ne_self _⟩, fun b hb => ?_, q⟩
    have hle : s1.heap.objs.size ≤ b := by
      have e' : b = s1.heap.objs.size + 1 ∨ b = s1.heap.objs.size := by simpa using hb
      rcases e' with z | z
      · rw [z]; exact Nat.le_add_right _ _
      · rw [z]; exact Nat.le_refl _
    exact I1.fpOk hle (I1.hok.fresh hle)
/-! ### d.update(another dict) -/
section
variable {X : Cx} {pins : List (Addr × Obj)} {σ : L2.St} {H : Hp} {s : Shared} {a b : Addr} {kvs more : List (Key × V)} {A : Around} {E : Value → Shared → Prop}
theorem d_update {Q : Value → Shared → Prop} (I : Inv X pins σ H s) (ea : H a = some (.dK kvs)) (eb : H b = some (.dK more)) (hne : a ≠ b) (hl : kvs.length + more.length ≤ sizeLine) (h : ∀ s', Inv X pins σ (upd H a (.dK (mergeK kvs more))) s' → Q .none s') :
    wpAny (model X.prog X.w) A (call (.builtin "dict.update") [.ref a, .ref b]) Q E s := by
  obtain ⟨z, hd, vs, rel, dd⟩ := dk_of I.hok ea
  obtain ⟨z2, hd2, vs2, rel2, dd2⟩ := dk_of I.hok eb
  refine call_meetsIn PySem.F.slot_dict_update dd.typeIs PySem.F.entry_dict_update (PySem.F.args_dict_update_2 _ _) (meets_dict_update (mixKind X.prog X.w) a b hne hd2) ⟨vs, vs2, dd, dd2, by rw [← rel.length, ← rel2.length]; exact hl, fun h' dd' _ hs => h _ ?_⟩
  have he : ∃ q, h'.get? a = some q := let ⟨q, _, _, hq, _⟩ := dd'; ⟨q, hq⟩
  exact d_write I (by rw [ea]; exact True.intro) hs he (dk_new (Nat.le_trans (length_mergeK more kvs) hl) hd (rel2.merge rel) dd')
end
def tDUpd (td te : TE) : TE := fun σ H Q => td σ H fun x H1 => ∃ a, x = .ref a ∧ IsD H1 a ∧ te σ H1 fun y H2 => ∃ b kvs more, y = .ref b ∧ H2 a = some (.dK kvs) ∧ H2 b = some (.dK more) ∧ a ≠ b ∧ kvs.length + more.length ≤ sizeLine ∧ Q .non (upd H2 a (.dK (mergeK kvs more)))
theorem pe_dupd {X : Cx} {o e : Expr} {td te : TE} {apos cpos : Pos} (ho : PE X o td) (he : PE X e te) (m : M1 X o "update" apos e cpos) : PE X (.Call (.Attribute o "update" apos) [e] [] cpos) (tDUpd td te) := by
  refine ⟨fun pins s σ H Q I h => ?_⟩
  refine wpAny_Call_method m.base m.few m.line PySem.F.plainAttrs_dict PySem.F.slot_dict_update PySem.F.type_dict_update (thn (ho.run pins s σ H _ I h) fun u s1 ⟨x, H1, I1, rx, a, ex, d, q1⟩ => ?_)
  subst ex
  obtain rfl : u = Value.ref a := rx
  obtain ⟨t1, t2, _⟩ := isD_at I1 d
  refine ⟨t1, t2, ?_⟩
  rw [m.trees]
  refine Calls.callWith_builtin rfl (Calls.evalArgs_plain (Calls.spliced_cons (thn (he.run pins s1 σ H1 _ I1 q1) fun iv s2 ⟨y, H2, I2, ry, b, kvs, more, ey, ea, eb, hne, hl, q2⟩ => Calls.spliced_nil ?_)))
  subst ey
  obtain rfl : iv = Value.ref b := ry
  exact d_update I2 ea eb hne hl fun s3 I3 => ⟨.non, _, I3, rfl, q2⟩
/-! ### a loop of one turn, of none -/
theorem one_turn {J : It} {g : TG} {tb : TS} {D : Ends} {σ : L2.St} {H : Hp} {B : L2.St → Hp → Prop} (go : J.go 0 H) (hb : ∀ x H', J.yld 0 H x H' → g x σ H' fun σ2 H2 => tb { D with nx := fun σ3 H3 => J.stop 1 H3 ∧ D.nx σ3 H3, ct := fun σ3 H3 => J.stop 1 H3 ∧ D.nx σ3 H3, bk := D.nx } σ2 H2) :
    ∃ W : Nat → Nat → L2.St → Hp → Prop, (∃ m, W 0 m σ H) ∧ ∀ i m σ H, W i m σ H → (J.stop i H ∧ D.nx σ H) ∨ (J.go i H ∧ ∃ N : L2.St → Hp → Prop, (∀ σ' H', N σ' H' → ∃ m', m' < m ∧ W (i + 1) m' σ' H') ∧ ∀ x H', J.yld i H x H' → g x σ H' fun σ2 H2 => tb { D with nx := N, ct := N, bk := D.nx } σ2 H2) := by
  refine ⟨fun i m σ' H' => (i = 0 ∧ m = 1 ∧ σ' = σ ∧ H' = H) ∨ (i = 1 ∧ m = 0 ∧ J.stop 1 H' ∧ D.nx σ' H'), ⟨1, .inl ⟨rfl, rfl, rfl, rfl⟩⟩, ?_⟩
  rintro i m σ' H' (⟨rfl, rfl, rfl, rfl⟩ | ⟨rfl, rfl, h1, h2⟩)
  · exact .inr ⟨go, fun σ3 H3 => J.stop 1 H3 ∧ D.nx σ3 H3, fun σ3 H3 h => ⟨0, Nat.zero_lt_one, .inr ⟨rfl, rfl, h.1, h.2⟩⟩, hb⟩
  · exact .inl ⟨h1, h2⟩
theorem no_turn {J : It} {g : TG} {tb : TS} {D : Ends} {σ : L2.St} {H : Hp} (st : J.stop 0 H) (h : D.nx σ H) :
    ∃ W : Nat → Nat → L2.St → Hp → Prop, (∃ m, W 0 m σ H) ∧ ∀ i m σ H, W i m σ H → (J.stop i H ∧ D.nx σ H) ∨ (J.go i H ∧ ∃ N : L2.St → Hp → Prop, (∀ σ' H', N σ' H' → ∃ m', m' < m ∧ W (i + 1) m' σ' H') ∧ ∀ x H', J.yld i H x H' → g x σ H' fun σ2 H2 => tb { D with nx := N, ct := N, bk := D.nx } σ2 H2) := by
  refine ⟨fun i m σ' H' => i = 0 ∧ σ' = σ ∧ H' = H, ⟨0, rfl, rfl, rfl⟩, ?_⟩
  rintro i m σ' H' ⟨rfl, rfl, rfl⟩
  exact .inl ⟨st, h⟩
/-! ### slots' data when a dict or an object changes -/
theorem Sl.far2 {K : PySem.W.Frag} {H : Hp} {σ : L2.St} {Δ : Dl} (s : @Sl sjT K H σ Δ) {p : Addr} {u o : HO} (hp : H p = some u) (h1 : ∀ xs, u ≠ .tup xs) (h2 : ∀ xs, u ≠ .lst xs) (h3 : ∀ ob x, u ≠ .frz ob x) : @Sl sjT K (upd H p o) σ Δ := by
  refine ⟨⟨trivial, s.1.2⟩, fun i d h => ?_⟩
  obtain ⟨v, a, r⟩ := s.2 i d h
  refine ⟨v, a, dp_ex (cut_le (S := [p])) _ _ ?_⟩
  rw [cut_upd (S := [p]) (List.mem_singleton.mpr rfl)]
  refine dp_cutA (S := [p]) (fun b hb xs z => ?_) (fun b hb xs z => ?_) _ _ r
  · rw [List.mem_singleton.mp hb] at z
    rcases z with z | ⟨ob, z⟩ <;> rw [hp] at z <;> injection z with z
    · exact h1 _ z
    · exact h3 _ _ z
  · rw [List.mem_singleton.mp hb] at z
    rcases z with z | ⟨ob, z⟩ <;> rw [hp] at z <;> injection z with z
    · exact h2 _ z
    · exact h3 _ _ z
theorem Sl.dict {K : PySem.W.Frag} {H : Hp} {σ : L2.St} {Δ : Dl} (s : @Sl sjT K H σ Δ) {p : Addr} {kvs : List (Key × V)} {o : HO} (hp : H p = some (.dK kvs)) : @Sl sjT K (upd H p o) σ Δ := s.far2 hp (fun _ z => nomatch z) (fun _ z => nomatch z) (fun _ _ z => nomatch z)
end Sr

set_option Elab.async false
set_option linter.all false
set_option maxRecDepth 100000
set_option maxHeartbeats 4000000
/-! The compartments are looked at. -/
namespace Sr
open PySem PySem.Spec PyProof.Rows L2
open Evl (Ex)
theorem strD : ∀ x ∈ DEEDSl, PyData.strOk x = true := by decide +kernel
theorem strA : ∀ x ∈ ASKSl, PyData.strOk x = true := by decide +kernel
theorem strW : ∀ x ∈ WHATSl, PyData.strOk x = true := by decide +kernel
theorem strL : ∀ x ∈ lessMenu, PyData.strOk x = true := by decide +kernel
theorem sg_b : (⟨#[98]⟩ : Str) = "b" := by decide +kernel
theorem sg_d : (⟨#[100]⟩ : Str) = "d" := by decide +kernel
theorem sg_j : (⟨#[106]⟩ : Str) = "j" := by decide +kernel
theorem sg_k : (⟨#[107]⟩ : Str) = "k" := by decide +kernel
theorem sg_n : (⟨#[110]⟩ : Str) = "n" := by decide +kernel
theorem sg_o : (⟨#[111]⟩ : Str) = "o" := by decide +kernel
theorem sg_r : (⟨#[114]⟩ : Str) = "r" := by decide +kernel
theorem sg_t : (⟨#[116]⟩ : Str) = "t" := by decide +kernel
theorem sg_y : (⟨#[121]⟩ : Str) = "y" := by decide +kernel
theorem rw_row : ∀ r : Rw, r.ok → RowD r.d := by
  intro r hk
  cases r with
  | set b n =>
    refine ⟨"set", [.int b, .int n], ⟨⟨"bn", List.mem_iff_getElem?.mpr ⟨0, rfl⟩, rfl, ?_⟩, by simp [SeqAt.shaped, By.d, PyData.canLay0, PyData.canLayAll0, PyData.depth, PyData.depthAll]; (repeat' apply And.intro) <;> first | decide +kernel, Nat.le_of_ble_eq_true rfl⟩, rfl⟩
    rw [show (("bn" : Str).cps.toList) = [98, 110] by decide +kernel]
    intro p hp
    simp only [Rw.args, List.zip_cons_cons, List.zip_nil_left, List.mem_cons, List.not_mem_nil, or_false] at hp
    rcases hp with rfl | rfl
    · exact sg_b ▸ SortOk.b hk.1.1 hk.1.2
    · exact sg_n ▸ SortOk.n hk.2.1 hk.2.2
  | move b c =>
    refine ⟨"move", [.int b, .int c], ⟨⟨"bb", List.mem_iff_getElem?.mpr ⟨1, rfl⟩, rfl, ?_⟩, by simp [SeqAt.shaped, By.d, PyData.canLay0, PyData.canLayAll0, PyData.depth, PyData.depthAll]; (repeat' apply And.intro) <;> first | decide +kernel, Nat.le_of_ble_eq_true rfl⟩, rfl⟩
    rw [show (("bb" : Str).cps.toList) = [98, 98] by decide +kernel]
    intro p hp
    simp only [Rw.args, List.zip_cons_cons, List.zip_nil_left, List.mem_cons, List.not_mem_nil, or_false] at hp
    rcases hp with rfl | rfl
    · exact sg_b ▸ SortOk.b hk.1.1 hk.1.2
    · exact sg_b ▸ SortOk.b hk.2.1 hk.2.2
  | op x b y =>
    refine ⟨"do", [.str x, .int b, y.d], ⟨⟨"dby", List.mem_iff_getElem?.mpr ⟨2, rfl⟩, rfl, ?_⟩, by cases y <;> (simp [SeqAt.shaped, By.d, PyData.canLay0, PyData.canLayAll0, PyData.depth, PyData.depthAll]; (repeat' apply And.intro) <;> first | decide +kernel | exact strD _ hk.1), Nat.le_of_ble_eq_true rfl⟩, rfl⟩
    rw [show (("dby" : Str).cps.toList) = [100, 98, 121] by decide +kernel]
    intro p hp
    simp only [Rw.args, List.zip_cons_cons, List.zip_nil_left, List.mem_cons, List.not_mem_nil, or_false] at hp
    rcases hp with rfl | rfl | rfl
    · exact sg_d ▸ SortOk.d hk.1
    · exact sg_b ▸ SortOk.b hk.2.1.1 hk.2.1.2
    · exact sg_y ▸ SortOk.y hk.2.2
  | walk b y =>
    refine ⟨"walk", [.int b, y.d], ⟨⟨"by", List.mem_iff_getElem?.mpr ⟨3, rfl⟩, rfl, ?_⟩, by cases y <;> (simp [SeqAt.shaped, By.d, PyData.canLay0, PyData.canLayAll0, PyData.depth, PyData.depthAll]; (repeat' apply And.intro) <;> first | decide +kernel), Nat.le_of_ble_eq_true rfl⟩, rfl⟩
    rw [show (("by" : Str).cps.toList) = [98, 121] by decide +kernel]
    intro p hp
    simp only [Rw.args, List.zip_cons_cons, List.zip_nil_left, List.mem_cons, List.not_mem_nil, or_false] at hp
    rcases hp with rfl | rfl
    · exact sg_b ▸ SortOk.b hk.1.1 hk.1.2
    · exact sg_y ▸ SortOk.y hk.2
  | narrow b y =>
    refine ⟨"narrow", [.int b, y.d], ⟨⟨"by", List.mem_iff_getElem?.mpr ⟨4, rfl⟩, rfl, ?_⟩, by cases y <;> (simp [SeqAt.shaped, By.d, PyData.canLay0, PyData.canLayAll0, PyData.depth, PyData.depthAll]; (repeat' apply And.intro) <;> first | decide +kernel), Nat.le_of_ble_eq_true rfl⟩, rfl⟩
    rw [show (("by" : Str).cps.toList) = [98, 121] by decide +kernel]
    intro p hp
    simp only [Rw.args, List.zip_cons_cons, List.zip_nil_left, List.mem_cons, List.not_mem_nil, or_false] at hp
    rcases hp with rfl | rfl
    · exact sg_b ▸ SortOk.b hk.1.1 hk.1.2
    · exact sg_y ▸ SortOk.y hk.2
  | exact b y =>
    refine ⟨"exact", [.int b, y.d], ⟨⟨"by", List.mem_iff_getElem?.mpr ⟨5, rfl⟩, rfl, ?_⟩, by cases y <;> (simp [SeqAt.shaped, By.d, PyData.canLay0, PyData.canLayAll0, PyData.depth, PyData.depthAll]; (repeat' apply And.intro) <;> first | decide +kernel), Nat.le_of_ble_eq_true rfl⟩, rfl⟩
    rw [show (("by" : Str).cps.toList) = [98, 121] by decide +kernel]
    intro p hp
    simp only [Rw.args, List.zip_cons_cons, List.zip_nil_left, List.mem_cons, List.not_mem_nil, or_false] at hp
    rcases hp with rfl | rfl
    · exact sg_b ▸ SortOk.b hk.1.1 hk.1.2
    · exact sg_y ▸ SortOk.y hk.2
  | less b z =>
    refine ⟨"less", [.int b, .str z], ⟨⟨"br", List.mem_iff_getElem?.mpr ⟨6, rfl⟩, rfl, ?_⟩, by simp [SeqAt.shaped, By.d, PyData.canLay0, PyData.canLayAll0, PyData.depth, PyData.depthAll]; (repeat' apply And.intro) <;> first | decide +kernel | exact strL _ hk.2, Nat.le_of_ble_eq_true rfl⟩, rfl⟩
    rw [show (("br" : Str).cps.toList) = [98, 114] by decide +kernel]
    intro p hp
    simp only [Rw.args, List.zip_cons_cons, List.zip_nil_left, List.mem_cons, List.not_mem_nil, or_false] at hp
    rcases hp with rfl | rfl
    · exact sg_b ▸ SortOk.b hk.1.1 hk.1.2
    · exact sg_r ▸ SortOk.r hk.2
  | sl b c =>
    refine ⟨"seal", [.int b, .int c], ⟨⟨"bb", List.mem_iff_getElem?.mpr ⟨7, rfl⟩, rfl, ?_⟩, by simp [SeqAt.shaped, By.d, PyData.canLay0, PyData.canLayAll0, PyData.depth, PyData.depthAll]; (repeat' apply And.intro) <;> first | decide +kernel, Nat.le_of_ble_eq_true rfl⟩, rfl⟩
    rw [show (("bb" : Str).cps.toList) = [98, 98] by decide +kernel]
    intro p hp
    simp only [Rw.args, List.zip_cons_cons, List.zip_nil_left, List.mem_cons, List.not_mem_nil, or_false] at hp
    rcases hp with rfl | rfl
    · exact sg_b ▸ SortOk.b hk.1.1 hk.1.2
    · exact sg_b ▸ SortOk.b hk.2.1 hk.2.2
  | opn b c =>
    refine ⟨"open", [.int b, .int c], ⟨⟨"bb", List.mem_iff_getElem?.mpr ⟨8, rfl⟩, rfl, ?_⟩, by simp [SeqAt.shaped, By.d, PyData.canLay0, PyData.canLayAll0, PyData.depth, PyData.depthAll]; (repeat' apply And.intro) <;> first | decide +kernel, Nat.le_of_ble_eq_true rfl⟩, rfl⟩
    rw [show (("bb" : Str).cps.toList) = [98, 98] by decide +kernel]
    intro p hp
    simp only [Rw.args, List.zip_cons_cons, List.zip_nil_left, List.mem_cons, List.not_mem_nil, or_false] at hp
    rcases hp with rfl | rfl
    · exact sg_b ▸ SortOk.b hk.1.1 hk.1.2
    · exact sg_b ▸ SortOk.b hk.2.1 hk.2.2
  | ent b =>
    refine ⟨"entry", [.int b], ⟨⟨"b", List.mem_iff_getElem?.mpr ⟨9, rfl⟩, rfl, ?_⟩, by simp [SeqAt.shaped, By.d, PyData.canLay0, PyData.canLayAll0, PyData.depth, PyData.depthAll]; (repeat' apply And.intro) <;> first | decide +kernel, Nat.le_of_ble_eq_true rfl⟩, rfl⟩
    rw [show (("b" : Str).cps.toList) = [98] by decide +kernel]
    intro p hp
    simp only [Rw.args, List.zip_cons_cons, List.zip_nil_left, List.mem_cons, List.not_mem_nil, or_false] at hp
    subst hp
    exact sg_b ▸ SortOk.b hk.1 hk.2
  | ask b x c =>
    refine ⟨"ask", [.int b, .str x, .int c], ⟨⟨"bkb", List.mem_iff_getElem?.mpr ⟨10, rfl⟩, rfl, ?_⟩, by simp [SeqAt.shaped, By.d, PyData.canLay0, PyData.canLayAll0, PyData.depth, PyData.depthAll]; (repeat' apply And.intro) <;> first | decide +kernel | exact strW _ hk.2.1, Nat.le_of_ble_eq_true rfl⟩, rfl⟩
    rw [show (("bkb" : Str).cps.toList) = [98, 107, 98] by decide +kernel]
    intro p hp
    simp only [Rw.args, List.zip_cons_cons, List.zip_nil_left, List.mem_cons, List.not_mem_nil, or_false] at hp
    rcases hp with rfl | rfl | rfl
    · exact sg_b ▸ SortOk.b hk.1.1 hk.1.2
    · exact sg_k ▸ SortOk.k hk.2.1
    · exact sg_b ▸ SortOk.b hk.2.2.1 hk.2.2.2
  | here b =>
    refine ⟨"here", [.int b], ⟨⟨"b", List.mem_iff_getElem?.mpr ⟨11, rfl⟩, rfl, ?_⟩, by simp [SeqAt.shaped, By.d, PyData.canLay0, PyData.canLayAll0, PyData.depth, PyData.depthAll]; (repeat' apply And.intro) <;> first | decide +kernel, Nat.le_of_ble_eq_true rfl⟩, rfl⟩
    rw [show (("b" : Str).cps.toList) = [98] by decide +kernel]
    intro p hp
    simp only [Rw.args, List.zip_cons_cons, List.zip_nil_left, List.mem_cons, List.not_mem_nil, or_false] at hp
    subst hp
    exact sg_b ▸ SortOk.b hk.1 hk.2
  | load b c o =>
    refine ⟨"load", [.int b, .int c, .int o], ⟨⟨"bbo", List.mem_iff_getElem?.mpr ⟨12, rfl⟩, rfl, ?_⟩, by simp [SeqAt.shaped, By.d, PyData.canLay0, PyData.canLayAll0, PyData.depth, PyData.depthAll]; (repeat' apply And.intro) <;> first | decide +kernel, Nat.le_of_ble_eq_true rfl⟩, rfl⟩
    rw [show (("bbo" : Str).cps.toList) = [98, 98, 111] by decide +kernel]
    intro p hp
    simp only [Rw.args, List.zip_cons_cons, List.zip_nil_left, List.mem_cons, List.not_mem_nil, or_false] at hp
    rcases hp with rfl | rfl | rfl
    · exact sg_b ▸ SortOk.b hk.1.1 hk.1.2
    · exact sg_b ▸ SortOk.b hk.2.1.1 hk.2.1.2
    · exact sg_o ▸ SortOk.o hk.2.2.1 hk.2.2.2
  | store c o b =>
    refine ⟨"store", [.int c, .int o, .int b], ⟨⟨"bob", List.mem_iff_getElem?.mpr ⟨13, rfl⟩, rfl, ?_⟩, by simp [SeqAt.shaped, By.d, PyData.canLay0, PyData.canLayAll0, PyData.depth, PyData.depthAll]; (repeat' apply And.intro) <;> first | decide +kernel, Nat.le_of_ble_eq_true rfl⟩, rfl⟩
    rw [show (("bob" : Str).cps.toList) = [98, 111, 98] by decide +kernel]
    intro p hp
    simp only [Rw.args, List.zip_cons_cons, List.zip_nil_left, List.mem_cons, List.not_mem_nil, or_false] at hp
    rcases hp with rfl | rfl | rfl
    · exact sg_b ▸ SortOk.b hk.1.1 hk.1.2
    · exact sg_o ▸ SortOk.o hk.2.1.1 hk.2.1.2
    · exact sg_b ▸ SortOk.b hk.2.2.1 hk.2.2.2
  | poke c o b =>
    refine ⟨"poke", [.int c, .int o, .int b], ⟨⟨"bob", List.mem_iff_getElem?.mpr ⟨14, rfl⟩, rfl, ?_⟩, by simp [SeqAt.shaped, By.d, PyData.canLay0, PyData.canLayAll0, PyData.depth, PyData.depthAll]; (repeat' apply And.intro) <;> first | decide +kernel, Nat.le_of_ble_eq_true rfl⟩, rfl⟩
    rw [show (("bob" : Str).cps.toList) = [98, 111, 98] by decide +kernel]
    intro p hp
    simp only [Rw.args, List.zip_cons_cons, List.zip_nil_left, List.mem_cons, List.not_mem_nil, or_false] at hp
    rcases hp with rfl | rfl | rfl
    · exact sg_b ▸ SortOk.b hk.1.1 hk.1.2
    · exact sg_o ▸ SortOk.o hk.2.1.1 hk.2.1.2
    · exact sg_b ▸ SortOk.b hk.2.2.1 hk.2.2.2
  | jump x b y t =>
    refine ⟨"jump", [.str x, .int b, y.d, .int t], ⟨⟨"jbyt", List.mem_iff_getElem?.mpr ⟨15, rfl⟩, rfl, ?_⟩, by cases y <;> (simp [SeqAt.shaped, By.d, PyData.canLay0, PyData.canLayAll0, PyData.depth, PyData.depthAll]; (repeat' apply And.intro) <;> first | decide +kernel | exact strA _ hk.1), Nat.le_of_ble_eq_true rfl⟩, rfl⟩
    rw [show (("jbyt" : Str).cps.toList) = [106, 98, 121, 116] by decide +kernel]
    intro p hp
    simp only [Rw.args, List.zip_cons_cons, List.zip_nil_left, List.mem_cons, List.not_mem_nil, or_false] at hp
    rcases hp with rfl | rfl | rfl | rfl
    · exact sg_j ▸ SortOk.j hk.1
    · exact sg_b ▸ SortOk.b hk.2.1.1 hk.2.1.2
    · exact sg_y ▸ SortOk.y hk.2.2.1
    · exact sg_t ▸ SortOk.t hk.2.2.2.1 hk.2.2.2.2
  | go t =>
    refine ⟨"go", [.int t], ⟨⟨"t", List.mem_iff_getElem?.mpr ⟨16, rfl⟩, rfl, ?_⟩, by simp [SeqAt.shaped, By.d, PyData.canLay0, PyData.canLayAll0, PyData.depth, PyData.depthAll]; (repeat' apply And.intro) <;> first | decide +kernel, Nat.le_of_ble_eq_true rfl⟩, rfl⟩
    rw [show (("t" : Str).cps.toList) = [116] by decide +kernel]
    intro p hp
    simp only [Rw.args, List.zip_cons_cons, List.zip_nil_left, List.mem_cons, List.not_mem_nil, or_false] at hp
    subst hp
    exact sg_t ▸ SortOk.t hk.1 hk.2
  | enter b =>
    refine ⟨"enter", [.int b], ⟨⟨"b", List.mem_iff_getElem?.mpr ⟨17, rfl⟩, rfl, ?_⟩, by simp [SeqAt.shaped, By.d, PyData.canLay0, PyData.canLayAll0, PyData.depth, PyData.depthAll]; (repeat' apply And.intro) <;> first | decide +kernel, Nat.le_of_ble_eq_true rfl⟩, rfl⟩
    rw [show (("b" : Str).cps.toList) = [98] by decide +kernel]
    intro p hp
    simp only [Rw.args, List.zip_cons_cons, List.zip_nil_left, List.mem_cons, List.not_mem_nil, or_false] at hp
    subst hp
    exact sg_b ▸ SortOk.b hk.1 hk.2
/-- a def of the module by its promise -/
structure FG (P : Program) (w : World) (K : PySem.W.Frag) (mg : Str → Option Value) (base : Heap) (k : Nat) (x : Str) (ps : List Str) (sp : Sp) : Prop where
  ex : ∃ (f : Addr) (fd : FuncData), FnOk P w K mg base CX0 k f fd ps sp ∧ mg x = some (.ref f) ∧ PySem.W.keepIn K (.ref f) = true ∧ Binds K fd ps []
/-- the only compartment -/
def compD (l : List Rw) : PyData := .tuple [.str "a", .list (l.map Rw.d), .tuple [], .int 8, .tuple []]
def aOk : Nat → Prop
  | 1 => False
  | _ => True
theorem aOk_ne {i : Nat} (h : aOk i) : i ≠ 1 := by
  intro e
  subst e
  exact h
/-- an empty dict stands in slot 1 -/
@[reducible] def aJ (d : Addr) : SJ where
  p σ H := σ[1]? = some (some (.ref d)) ∧ H d = some (.dK [])
  ok := aOk
  st e h := ⟨h.1, e _ _ h.2⟩
  set hi h := ⟨by rw [List.getElem?_set_ne (aOk_ne hi)]; exact h.1, h.2⟩
section
variable {X : Cx} {Δ : Dl} {e : Expr} {p pos : Pos} {x y : Str} {d : Addr}
theorem td_inNo (hu : X.A.units + 1 < cLine) (he : @ED (aJ d) X e Δ (.str y)) (hN : X.N[1]? = some x := by rfl) (hv : Vis X.env.scope x := by first | exact Or.inl rfl | exact Or.inr (Or.inl rfl) | exact Or.inr (Or.inr rfl))
    (hd : (x == ("__debug__" : Str)) = false := by decide) (hcd : (x == ("__classdict__" : Str)) = false := by decide) (hm : behindInMarks .In (.Name x p) = false := by rfl) : @TD (aJ d) X (.Compare e [.In] [.Name x p] pos) Δ false := by
  letI : SJ := aJ d
  obtain ⟨te, pe, ge⟩ := he.ex
  refine ⟨_, pt_cmp (pc_din hu pe (pv 1 hN hv hd hcd)) hm, fun σ H s Q q => ge σ H s _ fun v H1 e1 r1 => ?_⟩
  have ey := dp_str r1
  subst ey
  obtain ⟨h0, h1⟩ := (s.ex e1).1.1
  exact ⟨_, h0, d, none, rfl, .inl ⟨[], .inr y, .inl h1, rfl, rfl⟩, _, rfl, q H1 e1⟩
end
section
variable {P : Program} {w : World} {K : PySem.W.Frag} {mg : Str → Option Value} {base : Heap}
def spFP (K : PySem.W.Frag) : Sp := fun vs H Q _ => ∃ (v : V) (d : Addr) (l : List Rw), vs = [v, .ref d] ∧ Dp K H v (compD l) ∧ H d = some (.dK []) ∧ (∀ r ∈ l, r.ok) ∧ 1 ≤ l.length ∧ l.length ≤ 64 ∧ ∀ H', Ex H H' → Q .non H'
theorem sc_first_part : FnScope ["thing", "ahead", "name", "rows", "doors", "many", "uses"] ["thing", "ahead"] (defScope t_first_part) := ⟨rfl, rfl, rfl, by decide +kernel, rfl, by decide +kernel, by decide +kernel⟩
theorem fn_first (T : Tx P w K mg base) : FG P w K mg base 8 "first_part" ["thing", "ahead"] (spFP K) := by
  obtain ⟨fd, F⟩ := fd_first_part T
  refine ⟨_, fd, F.ok sc_first_part (fun vs H Q E h => ?_) (fun cdv A outer s H vs Q E hr h => ?_), gl_first_part T, F.kp, F.bindsN fun _ _ _ _ _ _ us hl => match us, hl with | [_, _], _ => rfl⟩
  · obtain ⟨v, d, l, rfl, _⟩ := h
    rfl
  obtain ⟨v, d, l, rfl, r, hd, hk, h1, h2, q⟩ := h
  letI J : SJ := aJ d
  have s0 : Sl K H (L2.start ["thing", "ahead", "name", "rows", "doors", "many", "uses"] [v, .ref d]) [some (compD l), none, none, none, none, none, none] := ⟨⟨⟨rfl, hd⟩, rfl⟩, fun i d h => by
    match i, h with
    | 0, h => cases h; exact ⟨_, rfl, r⟩
    | 1, h => cases h
    | 2, h => cases h
    | 3, h => cases h
    | 4, h => cases h
    | 5, h => cases h
    | 6, h => cases h
    | i + 7, h => cases h⟩
  have hrd : ∀ d ∈ l.map Rw.d, RowD d := fun d hd => by
    obtain ⟨r, hr, rfl⟩ := List.mem_map.mp hd
    exact rw_row r (hk r hr)
  have hb : BD (cxOf CX0 P w K mg base ["thing", "ahead", "name", "rows", "doors", "many", "uses"] "first_part" (defScope t_first_part) (He.fAd K d_first_part.at_) cdv A outer s H E).nox E0 0 (defBody t_first_part) [some (compD l), none, none, none, none, none, none] (.rt .none) :=
    bd_iff (td_is (WD.t (wd_or (td_not (td_val (ed_isi (fr_isinstance T) (fr_tuple T) bt_tuple (ed_var 0) (kit_tuple _)))) fun hb => (wd_or1 (td_neI (ed_len (fr_len T) (ed_var 0) (by first | exact .inl rfl | exact .inr rfl)) ed_int)))) rfl) (bd_cons (sd_asg (ed_var 0) (gd_tup rfl (gds_cons (gd_name 2 sc_first_part.nd) (gds_cons (gd_name 3 sc_first_part.nd) (gds_cons (gd_name 4 sc_first_part.nd) (gds_cons (gd_name 5 sc_first_part.nd) (gds_cons (gd_name 6 sc_first_part.nd) gds_nil))))))) (bd_iff (td_is (WD.t (wd_or (td_not (td_val (ed_call (pf_is_name T) (hr.mono (by decide)) (ad_cons (ed_var 2) ad_nil) (⟨rfl, rfl⟩)))) fun _ => wd_or1 (td_inNo (hu_of hr) (ed_var 2)))) rfl) (bd_iff (td_is (td_not (td_val (ed_call (pf_are_rows T) (hr.mono (by decide)) (ad_cons (ed_var 3) ad_nil) (⟨_, hrd, by rw [List.length_map]; exact h1, by rw [List.length_map]; exact h2, rfl, rfl⟩)))) rfl)
      (bd_iff (td_is (td_not (td_val (ed_call (pf_are_doors T) (hr.mono (by decide)) (ad_cons (ed_var 4) (ad_cons (ed_len (fr_len T) (ed_var 3) (by first | exact .inl rfl | exact .inr rfl)) ad_nil)) (⟨_, rfl, rfl⟩)))) rfl) (bd_one (sd_ret (ed_if (p := true) (td_is (td_val (ed_call (pf_is_from T) (hr.mono (by decide)) (ad_cons (ed_var 5) (ad_cons ed_int (ad_cons (ed_glob (c_MOST_OWN T)) ad_nil))) (⟨_, _, _, rfl, rfl⟩))) rfl) (fun _ => ed_non) (fun h => Bool.noConfusion h)) rfl))))))
  obtain ⟨t, p, g⟩ := hb.ex
  exact ⟨t, p.nox, g _ _ H s0 fun v H' e r => by rw [dp_non r]; exact q H' e⟩
end
end Sr

set_option Elab.async false
set_option linter.all false
set_option maxRecDepth 100000
set_option maxHeartbeats 4000000
/-! The compartments are looked at (stage 2). -/
namespace Sr
open PySem PySem.Spec PyProof.Rows L2
open Evl (Ex)
section
variable {X : Cx} {sts A B : List Stmt} {D : Ends} {σ : L2.St} {H : Hp} {c e : Expr} {pos px : Pos} {Δ : Dl} {x : Str}
theorem wb_nox (h : wB X.nox sts D σ H) : wB X sts D σ H := let ⟨t, p, q⟩ := h; ⟨t, p.nox, q⟩
theorem wb_iff [SJ] (s : Sl X.K H σ Δ) (h : TD X c Δ false) (q : ∀ H1, Ex H H1 → wB X sts D σ H1) : wB X (.If c A [] pos :: sts) D σ H :=
  wb_cons (ws_if (wt_td h s fun H1 e1 => by
    rw [if_neg Bool.false_ne_true]
    exact wb_nil (q H1 e1)))
theorem wb_set (i : Nat) (hN : X.N.Nodup) (h : wE X e σ H fun v H1 => wB X sts D (σ.set i (some v)) H1) (hi : X.N[i]? = some x := by rfl) (hx : Loc X.env.scope x := by first | exact Or.inl rfl | exact Or.inr rfl)
    (hs : swapsWith e (some (.Name x px)) pos.line X.env = pure false := by rfl) (hf : X.fn x = true ∨ X.env.scope.names.lookup x = some .local := by first | exact .inl rfl | exact .inr rfl) : wB X (.Assign [.Name x px] e pos :: sts) D σ H :=
  wb_cons (ws_of (ps_set hN hi hx pE hs hf) h)
theorem Sl.skip [SJ] {K : PySem.W.Frag} (s : Sl K H σ Δ) {i : Nat} {y : Option V} (h : Δ[i]? = some none) (h0 : SJ.ok i) : Sl K H (σ.set i y) Δ := by
  refine ⟨⟨SJ.set h0 s.1.1, by rw [List.length_set]; exact s.1.2⟩, fun j d hd => ?_⟩
  obtain ⟨v, a, r⟩ := s.2 j d hd
  refine ⟨v, ?_, r⟩
  rw [List.getElem?_set_ne]
  · exact a
  · intro e
    subst e
    rw [h] at hd
    cases hd
theorem gg2 [SJ] {K : PySem.W.Frag} {d1 d2 : PyData} (i j : Nat) (hi : SJ.ok i) (hj : SJ.ok j) {v : V} (s : Sl K H σ Δ) (r : Dp K H v (.tuple [d1, d2])) {Q : L2.St → Hp → Prop}
    (q : ∀ σ', Sl K H σ' ((Δ.set i (some d1)).set j (some d2)) → Q σ' H) : gTup K 2 (gCons (gName i) (gCons (gName j) gNil)) v σ H Q := by
  obtain ⟨a, xs, e, hs, rs⟩ := dp_tup r
  cases rs with
  | cons r1 rs =>
    cases rs with
    | cons r2 rs =>
      cases rs
      exact ⟨a, _, e, hs, rfl, _, _, rfl, _, _, rfl, rfl, q _ ((s.set r1 hi).set r2 hj)⟩
end
theorem sqL_dict {K : PySem.W.Frag} {H : Hp} {a p : Addr} {xs : List V} {kvs : List (Key × V)} {o : HO} (h : SqL K H a xs) (hp : H p = some (.dK kvs)) : SqL K (upd H p o) a xs := by
  rcases h with (h | ⟨ob, h⟩) | h
  · exact .inl (.inl (by rw [upd_ne (fun z => by rw [z, hp] at h; cases h)]; exact h))
  · exact .inl (.inr ⟨ob, by rw [upd_ne (fun z => by rw [z, hp] at h; cases h)]; exact h⟩)
  · exact .inr h
/-- a dict stands in slot 1 -/
@[reducible] def bJ (d : Addr) (kvs : List (Key × V)) : SJ where
  p σ H := σ[1]? = some (some (.ref d)) ∧ H d = some (.dK kvs)
  ok := aOk
  st e h := ⟨h.1, e _ _ h.2⟩
  set hi h := ⟨by rw [List.getElem?_set_ne (aOk_ne hi)]; exact h.1, h.2⟩
section
variable {P : Program} {w : World} {K : PySem.W.Frag} {mg : Str → Option Value} {base : Heap}
def R_look : List PyData → PyData → Prop := fun ds d => ∃ l : List Rw, (∀ r ∈ l, r.ok) ∧ 1 ≤ l.length ∧ l.length ≤ 64 ∧ ds = [.list [compD l]] ∧ d = .none
theorem sc_look_at_compartments : FnScope ["thing", "doors", "number", "one", "part", "name", "rows", "own", "many", "uses", "use"] ["thing"] (defScope t_look_at_compartments) := ⟨rfl, rfl, rfl, by decide +kernel, rfl, by decide +kernel, by decide +kernel⟩
theorem pf_look (T : Tx P w K mg base) : PF P w K mg base 9 "look_at_compartments" R_look := by
  obtain ⟨fd, F⟩ := fd_look_at_compartments T
  refine ⟨_, fd, ["thing"], [], [], R_look, F.ok sc_look_at_compartments (fun vs H Q E h => ?_) (fun cdv A outer s H vs Q E hr h => ?_), gl_look_at_compartments T, F.kp, F.bindsN fun _ _ _ _ _ _ us hl => match us, hl with | [_], _ => rfl, .nil, fun ds d h => ⟨[], fun _ => .nil, by rw [List.append_nil]; exact h⟩⟩
  · obtain ⟨ds, d, r, ⟨l, _, _, _, rfl, rfl⟩, _⟩ := h
    exact dpa_len r
  obtain ⟨ds, d, r, ⟨l, hk, h1, h2, rfl, rfl⟩, q⟩ := h
  have s0 : Sl K H (L2.start ["thing", "doors", "number", "one", "part", "name", "rows", "own", "many", "uses", "use"] vs) (([.list [compD l]] : List PyData).map some ++ List.replicate 10 none) := sl_start trivial r 10 (by rw [dpa_len r]; rfl)
  generalize L2.start ["thing", "doors", "number", "one", "part", "name", "rows", "own", "many", "uses", "use"] vs = σ0 at s0
  show wB (cxOf CX0 P w K mg base ["thing", "doors", "number", "one", "part", "name", "rows", "own", "many", "uses", "use"] "look_at_compartments" (defScope t_look_at_compartments) (He.fAd K d_look_at_compartments.at_) cdv A outer s H E) (defBody t_look_at_compartments) _ _ _
  refine wb_nox ?_
  refine wb_iff s0 (td_is (WD.t (wd_or (td_not (td_val (ed_isi (fr_isinstance T) (fr_list T) bt_list (ed_var 0) (kit_list _)))) fun hb => (wd_or1 (td_not (td_ch2ee ed_int (ed_len (fr_len T) (ed_var 0) (by first | exact .inl rfl | exact .inr rfl)) (ed_glob (c_MOST_THERE T))))))) rfl) fun H1 e1 => ?_
  have s1 := s0.ex e1
  refine wb_set 1 sc_look_at_compartments.nd (we_of pe_dnewK fun p hp => ?_)
  have e2 : Ex H1 (upd H1 p (.dK [])) := Ex.new hp
  have s2 : @Sl (bJ p []) K (upd H1 p (.dK [])) (σ0.set 1 (some (.ref p))) [some (.list [compD l]), none, none, none, none, none, none, none, none, none, none] := by
    have z := (s1.ex e2).skip (i := 1) (y := some (.ref p)) rfl trivial
    exact ⟨⟨⟨by rw [List.getElem?_set_self (by rw [s0.1.2]; exact Nat.le_of_ble_eq_true rfl)], upd_same⟩, z.1.2⟩, z.2⟩
  obtain ⟨_, fdf, FF, gF, kF, bF⟩ := (fn_first T).ex
  have r2 : ∃ v, (σ0.set 1 (some (.ref p)))[0]? = some (some v) ∧ Dp K (upd H1 p (.dK [])) v (.list [compD l]) := s2.2 0 _ rfl
  obtain ⟨v0, hv0, rv0⟩ := r2
  obtain ⟨a, xs, rfl, hxs, rxs⟩ := dp_lst rv0
  cases rxs with
  | @cons c0 _ _ _ rc rn =>
  cases rn
  have stop1 : ∀ {H' : Hp}, SqL K H' a [c0] → (Ite K a).stop 1 H' := fun h => ⟨_, h, Nat.le_refl _⟩
  refine wb_cons (ws_of (ps_for PassesOwn.never rfl (pi_enum rfl (fr_enumerate T) (pa_cons (pv 0) pa_nil)) (pg_tup rfl (pgs_cons (pg_name (i := 2) sc_look_at_compartments.nd rfl (.inl rfl)) (pgs_cons (pg_name (i := 3) sc_look_at_compartments.nd rfl (.inl rfl)) pgs_nil))) pB) ⟨_, hv0, a, _, rfl, hxs, ?_⟩)
  refine one_turn (B := fun _ _ => True) ⟨_, _, hxs, rfl⟩ fun x H3 hy => ?_
  obtain ⟨T1, y1, rfl, hT, rfl, hy1⟩ := hy
  have ey : c0 = y1 := by simpa using hy1 _ hxs
  subst ey
  have e3 : Ex (upd H1 p (.dK [])) (upd (upd H1 p (.dK [])) T1 (.tup [.int (0 : Nat), c0])) := Ex.new hT
  letI J : SJ := bJ p []
  refine gg2 2 3 trivial trivial (d1 := .int (0 : Nat)) (d2 := compD l) (s2.ex e3) (.tup (SqT.of upd_same) (.cons (.int _) (.cons (dp_ex e3 _ _ rc) .nil))) fun σ3 s3 => ?_
  obtain ⟨c3, hc3, rc3⟩ := s3.2 3 _ rfl
  refine wb_set 4 sc_look_at_compartments.nd (we_of (pe_call FF (hr.mono (by decide)) rfl gF kF bF .nil pass0 (pa_cons (pv 3) (pa_cons (pv 1) pa_nil))) ⟨_, hc3, _, s3.1.1.1, c3, p, l, rfl, rc3, s3.1.1.2, hk, h1, h2, fun H4 e4 => ?_⟩)
  have s4 := (s3.ex e4).set (i := 4) (v := .non) .non trivial
  refine wb_iff s4 (td_is (td_notN (ed_var 4)) rfl) fun H5 e5 => ?_
  have s5 := s4.ex e5
  refine wb_one (ws_of (ps_dput (hu_of hr) (pv 1) pE pE rfl) ?_)
  refine we_ed (ed_len (fr_len T) (ed_ixT (ed_var 3) ed_int) (by first | exact .inl rfl | exact .inr rfl)) s5 fun v6 H6 e6 r6 => ⟨_, s5.1.1.1, we_ed (ed_ixT (ed_var 3) ed_int) (s5.ex e6) fun v7 H7 e7 r7 => ?_⟩
  have ev := dp_str r7
  subst ev
  have s7 := (s5.ex e6).ex e7
  refine ⟨p, _, rfl, DPut.k (k := .inr "a") s7.1.1.2 (by decide), stop1 (sqL_dict (Evl.ex_l (((((e3.trans e4).trans e5).trans e6).trans e7)) hxs) s7.1.1.2), ?_⟩
  have s8 : @Sl sjT K (upd H7 p (.dK (putK [] (.inr "a") v6))) (σ3.set 4 (some .non)) [some (.list [compD l]), none, some (.int 0), some (compD l), some .none, none, none, none, none, none, none] := Sl.dict (@Sl.drop (bJ p []) _ _ _ _ s7) s7.1.1.2
  letI J2 : SJ := sjT
  have hG : @GD sjT (cxOf CX0 P w K mg base ["thing", "doors", "number", "one", "part", "name", "rows", "own", "many", "uses", "use"] "look_at_compartments" (defScope t_look_at_compartments) (He.fAd K d_look_at_compartments.at_) cdv A outer s H E).nox (match defBody t_look_at_compartments with | [_, _, _, .For tg _ _ _ _] => tg | _ => default) [some (.list [compD l]), none, some (.int 0), some (compD l), some .none, none, none, none, none, none, none] (.tuple [.int 0, compD l]) [some (.list [compD l]), none, some (.int 0), some (compD l), some .none, some (.str "a"), some (.list (l.map Rw.d)), some (.tuple []), some (.int 8), some (.tuple []), none] :=
    gd_tup rfl (gds_cons (gd_name 2 sc_look_at_compartments.nd) (gds_cons (gd_tup rfl (gds_cons (gd_name 5 sc_look_at_compartments.nd) (gds_cons (gd_name 6 sc_look_at_compartments.nd) (gds_cons (gd_name 7 sc_look_at_compartments.nd) (gds_cons (gd_name 8 sc_look_at_compartments.nd) (gds_cons (gd_name 9 sc_look_at_compartments.nd) gds_nil)))))) gds_nil))
  have hB : @BD sjT (cxOf CX0 P w K mg base ["thing", "doors", "number", "one", "part", "name", "rows", "own", "many", "uses", "use"] "look_at_compartments" (defScope t_look_at_compartments) (He.fAd K d_look_at_compartments.at_) cdv A outer s H E).nox E0 0 (match defBody t_look_at_compartments with | [_, _, _, .For _ _ b _ _] => b | _ => default) [some (.list [compD l]), none, some (.int 0), some (compD l), some .none, some (.str "a"), some (.list (l.map Rw.d)), some (.tuple []), some (.int 8), some (.tuple []), none] (.nx [some (.list [compD l]), none, some (.int 0), some (compD l), some .none, some (.str "a"), some (.list (l.map Rw.d)), some (.tuple []), some (.int 8), some (.tuple []), none]) :=
    bd_iff (td_is (WD.t (wd_or (td_not (td_val (ed_isi (fr_isinstance T) (fr_tuple T) bt_tuple (ed_var 9) (kit_tuple _)))) fun hb => (wd_or (td_ge (ed_len (fr_len T) (ed_var 9) (by first | exact .inl rfl | exact .inr rfl)) (ed_var 8)) fun hb => (wd_or1 (td_not (td_val (ed_all rfl (fr_all T) (ed_is (d1 := .list (([] : List Bool).map .bool)) (ed_lc (te := fun _ _ _ => False) (g := gName 10) (own := [("use", 10)]) (p := fun _ => true) (out := fun _ => .bool true) (fun d => []) rfl sc_look_at_compartments.nd (id_tup (ed_var 9)) (blkOk_by (by rfl)) (fun _ _ _ _ _ => pg_name sc_look_at_compartments.nd rfl (.inl rfl)) (fun d hd => by cases hd) (fun _ _ _ _ _ => pts_nil) (fun d hd => by cases hd) (fun _ _ _ _ _ => pe_never) (fun d hd hp => by cases hd) (fun d hd hp => by cases hd) (by decide +kernel)) rfl)))))))) rfl) bd_nil
  obtain ⟨gt, pg, gg⟩ := hG.ex
  obtain ⟨tb, pb, gb⟩ := hB.ex
  have hS : @SD sjT (cxOf CX0 P w K mg base ["thing", "doors", "number", "one", "part", "name", "rows", "own", "many", "uses", "use"] "look_at_compartments" (defScope t_look_at_compartments) (He.fAd K d_look_at_compartments.at_) cdv A outer s H E).nox E0 0 (match defBody t_look_at_compartments with | [_, _, _, st] => st | _ => default) [some (.list [compD l]), none, some (.int 0), some (compD l), some .none, none, none, none, none, none, none] (.nx [some (.list [compD l]), none, some (.int 0), some (compD l), some .none, some (.str "a"), some (.list (l.map Rw.d)), some (.tuple []), some (.int 8), some (.tuple []), none]) :=
    sd_for PassesOwn.never rfl (id_enum (fr_enumerate T) (ed_var 0))
    (fun i => match i with | 0 => [some (.list [compD l]), none, some (.int 0), some (compD l), some .none, none, none, none, none, none, none] | _ => [some (.list [compD l]), none, some (.int 0), some (compD l), some .none, some (.str "a"), some (.list (l.map Rw.d)), some (.tuple []), some (.int 8), some (.tuple []), none])
    (fun _ => [some (.list [compD l]), none, some (.int 0), some (compD l), some .none, some (.str "a"), some (.list (l.map Rw.d)), some (.tuple []), some (.int 8), some (.tuple []), none]) rfl
    ⟨gt, pg, fun i d hd σ H v s r Q q => by
      match i, hd with
      | 0, hd => cases hd; exact gg σ H v s r Q q
      | i + 1, hd => cases hd⟩ ⟨tb, pb, fun i hi => by
      match i, hi with
      | 0, _ => exact gb
      | i + 1, hi => exact absurd hi (by show ¬ (i + 1 < 1); omega)⟩
  obtain ⟨t, p2, g⟩ := hS.ex
  exact wb_one (ws_of p2 (g _ _ _ s8 fun σ' H' e' s' => q .non H' ((((e1.trans (e2.trans (((e3.trans e4).trans e5).trans (e6.trans e7)))).mut (Evl.fresh_back e1 hp)).trans e')) .non))
end
end Sr

set_option Elab.async false
set_option linter.all false
set_option maxRecDepth 100000
set_option maxHeartbeats 4000000
/-! Cells, a heap, places. -/
namespace Sr
open PySem PySem.Spec PyProof.Rows L2
open Evl (Ex)
section
variable {X : Cx} {sts A B body : List Stmt} {D : Ends} {σ : L2.St} {H : Hp} {c e : Expr} {pos px pos' pq p2 p3 p4 p5 : Pos} {Δ : Dl} {x y f : Str} {s : Addr}
/-- self.f = e -/
theorem wb_fld {o : Expr} {sx : Addr} (ho : ∀ H1, ∀ Q : VK, Q (.ref sx) H1 → wE X o σ H1 Q) (h : wE X e σ H fun v H1 => ∃ C dx fs, H1 sx = some (.ins C dx fs) ∧ Cls X.K C ∧ NoAttr X.K C f ∧ fs.length < 1000 ∧ wB X sts D σ (upd H1 sx (.ins C dx (putF f v fs))))
    (hs : swapsWith e (some (.Attribute o f pos')) pos.line X.env = pure false := by rfl) : wB X (.Assign [.Attribute o f pos'] e pos :: sts) D σ H :=
  wb_cons (ws_of (ps_fld pE pE hs) (we_mono h fun v H1 ⟨C, dx, fs, h1, h2, h3, h4, h5⟩ => ho H1 _ ⟨sx, C, dx, fs, rfl, h1, h2, h3, h4, h5⟩))
theorem we_var (i : Nat) {v : V} {Q : VK} (h : σ[i]? = some (some v)) (q : Q v H) (hN : X.N[i]? = some x := by rfl) (hv : Vis X.env.scope x := by first | exact Or.inl rfl | exact Or.inr (Or.inl rfl) | exact Or.inr (Or.inr rfl))
    (hd : (x == ("__debug__" : Str)) = false := by decide) (hcd : (x == ("__classdict__" : Str)) = false := by decide) : wE X (.Name x pos) σ H Q := we_of (pv i hN hv hd hcd) ⟨v, h, q⟩
/-- for i, x in enumerate(a list of one) -/
theorem wb_enum1 (i j : Nat) (hp : PassesOwn (model X.prog X.w) X.A X.env X.xe) (hc : X.calm = true) (hN : X.N.Nodup) (hm : X.mg "enumerate" = none)
    (h : wE X e σ H fun v H1 => ∃ a c0, v = .ref a ∧ SqL X.K H1 a [c0] ∧ ∀ T, H1 T = none → wB X body { D with nx := fun σ' H' => (Ite X.K a).stop 1 H' ∧ wB X sts D σ' H', ct := fun σ' H' => (Ite X.K a).stop 1 H' ∧ wB X sts D σ' H', bk := fun σ' H' => wB X sts D σ' H' } ((σ.set i (some (.int (0 : Nat)))).set j (some c0)) (upd H1 T (.tup [.int (0 : Nat), c0])))
    {kk : Nat} (hi : X.N[i]? = some x := by rfl) (hj : X.N[j]? = some y := by rfl) (hx : Loc X.env.scope x := by first | exact Or.inl rfl | exact Or.inr rfl) (hy : Loc X.env.scope y := by first | exact Or.inl rfl | exact Or.inr rfl)
    (hf : X.fn x = true ∨ X.env.scope.names.lookup x = some .local := by first | exact .inl rfl | exact .inr rfl) (hf2 : X.fn y = true ∨ X.env.scope.names.lookup y = some .local := by first | exact .inl rfl | exact .inr rfl)
    (hg : Gl X "enumerate" := by rfl) (hs : starEach [e] X.env = [(false, eval e X.env)] := by rfl) (hset : ∀ x, foldedSetIterable (.Call (.Name "enumerate" p2) [e] [] p3) X.env x = pure x := by intro _; rfl)
    (hst : (assignEach [.Name x p4, .Name y p5] X.env).findIdx? (·.1) = none := by rfl) (hlen : (assignEach [.Name x p4, .Name y p5] X.env).length = 2 := by rfl) (ha1 : (assignEach [.Name x p4, .Name y p5] X.env).map (·.2) = assign (.Name x p4) X.env :: (assignEach [.Name y p5] X.env).map (·.2) := by rfl) (ha2 : (assignEach [.Name y p5] X.env).map (·.2) = assign (.Name y p5) X.env :: (assignEach [] X.env).map (·.2) := by rfl) :
    wB X (.For (.Tuple [.Name x p4, .Name y p5] kk pq) (.Call (.Name "enumerate" p2) [e] [] p3) body [] pos :: sts) D σ H := by
  refine wb_cons (ws_of (ps_for hp hc (pi_enum hg hm (pa_cons pE pa_nil (hs.trans rfl)) hs) (pg_tup hc (pgs_cons (pg_name (i := i) hN hi hx hf) (pgs_cons (pg_name (i := j) hN hj hy hf2) pgs_nil ha2) ha1) hlen hst) pB hset) (we_mono h fun v H1 ⟨a, c0, e1, hq, hb⟩ => ⟨a, [c0], by rw [e1], hq, ?_⟩))
  refine one_turn (B := fun _ _ => True) ⟨_, _, hq, rfl⟩ fun x H3 hy => ?_
  obtain ⟨T1, y1, rfl, hT, rfl, hy1⟩ := hy
  have ey : c0 = y1 := by simpa using hy1 _ hq
  subst ey
  refine ⟨T1, _, rfl, SqT.of upd_same, rfl, _, _, rfl, _, _, rfl, rfl, ?_⟩
  exact hb T1 hT
theorem ite_stop {K : PySem.W.Frag} {a : Addr} {c0 : V} (h : SqL K H a [c0]) : (Ite K a).stop 1 H := ⟨_, h, Nat.le_refl _⟩
end
/-- slots' data from given slots -/
theorem sl_of {K : PySem.W.Frag} {H : Hp} {σ : L2.St} {Δ : Dl} (hl : σ.length = Δ.length) (h : ∀ (i : Nat) (d : PyData), Δ[i]? = some (some d) → ∃ v, σ[i]? = some (some v) ∧ Dp K H v d) : @Sl sjT K H σ Δ := ⟨⟨trivial, hl⟩, h⟩
section
variable {P : Program} {w : World} {K : PySem.W.Frag} {mg : Str → Option Value} {base : Heap}
def spCI (K : PySem.W.Frag) : Sp := fun vs H Q _ => ∃ x dx, vs = [.ref x] ∧ H x = some (.ins (cC K) dx []) ∧ ∀ cd, H cd = none → Q .non (upd (upd H cd (.dK [])) x (.ins (cC K) dx [("own_cells", .ref cd)]))
theorem sc_Cells_init : FnScope ["self"] ["self"] (defScope t_Cells_init) := ⟨rfl, rfl, rfl, by decide +kernel, rfl, by decide +kernel, by decide +kernel⟩
theorem fn_Cells_init (T : Tx P w K mg base) : ∃ fd, FnOk P w K mg base CX0 1 (He.ma K (He.ga K "Cells") "__init__") fd ["self"] (spCI K) ∧ Binds K fd ["self"] [] := by
  obtain ⟨fd, F⟩ := fd_Cells_init T
  refine ⟨fd, F.ok sc_Cells_init (fun vs H Q E h => by obtain ⟨x, dx, rfl, _⟩ := h; rfl) (fun cdv A outer s H vs Q E hr h => ?_), F.bindsN fun _ _ _ _ _ _ us hl => match us, hl with | [_], _ => rfl⟩
  obtain ⟨x, dx, rfl, hx, q⟩ := h
  show wB (cxOf CX0 P w K mg base ["self"] "Cells.__init__" (defScope t_Cells_init) (He.fAd K d_Cells_init.at_) cdv A outer s H E) (defBody t_Cells_init) _ _ _
  refine wb_fld (sx := x) (fun H1 Q q => we_var 0 rfl q) (we_of pe_dnewK fun cd hcd => ⟨cC K, dx, [], by rw [upd_ne (fun z => by rw [z, hcd] at hx; cases hx)]; exact hx, cl_Cells T, no_Cells_own_cells T, by decide, ?_⟩)
  exact wb_nil (q cd hcd)
/-- new cells -/
theorem we_cells {X : Cx} {σ : L2.St} {H : Hp} {Q : VK} {p pos : Pos} (T : Tx X.prog X.w X.K X.mg X.base) (hr : Room 2 X.A) (q : ∀ c cdx cd H', Ex H H' → H c = none → H cd = none → c ≠ cd → CAt X.K H' c cdx cd [] → Q (.ref c) H') (hg : Gl X "Cells" := by rfl) : wE X (.Call (.Name "Cells" p) [] [] pos) σ H Q := by
  obtain ⟨fd, F, hb⟩ := fn_Cells_init T
  refine we_of (pe_make0 (mk_Cells T) F hr hg (gl_Cells T) hb .nil pass0) fun x dx nx ndx hne => ⟨x, dx, rfl, upd_same, fun cd hcd => ⟨rfl, ?_⟩⟩
  have hcx : cd ≠ x := fun z => by rw [z, upd_same] at hcd; cases hcd
  have hcd0 : H cd = none := by
    rw [upd_ne hcx] at hcd
    by_cases e : cd = dx
    · rw [e, upd_same] at hcd; cases hcd
    · rw [upd_ne e] at hcd; exact hcd
  refine q x dx cd _ (((((Ex.refl H).mut ndx).mut nx).mut hcd0).mut nx) nx hcd0 (Ne.symm hcx) ⟨upd_same, ⟨[], by rw [upd_ne hcx, upd_same], .nil⟩, by decide⟩
def spHI (K : PySem.W.Frag) : Sp := fun vs H Q _ => ∃ x dx v1 v2, vs = [.ref x, v1, v2] ∧ H x = some (.ins (cH K) dx []) ∧ ∀ H' fs, Ex (cut [x] H) (cut [x] H') → H' x = some (.ins (cH K) dx fs) → fs.lookup ("is_stale" : Str) = none → Q .non H'
theorem sc_Heap_init : FnScope ["self", "low", "high"] ["self", "low", "high"] (defScope t_Heap_init) := ⟨rfl, rfl, rfl, by decide +kernel, rfl, by decide +kernel, by decide +kernel⟩
theorem cut1_new {H : Hp} {x l : Addr} {o : HO} (h : H l = none) : Ex (cut [x] H) (cut [x] (upd H l o)) := cut_ex (Ex.new h)
theorem cut1_upd {H : Hp} {x : Addr} {o : HO} : Ex (cut [x] H) (cut [x] (upd H x o)) := by rw [cut_upd (List.mem_singleton.mpr rfl)]; exact Ex.refl _
theorem fn_Heap_init (T : Tx P w K mg base) : ∃ fd, FnOk P w K mg base CX0 1 (He.ma K (He.ga K "Heap") "__init__") fd ["self", "low", "high"] (spHI K) ∧ Binds K fd ["self", "low", "high"] [] := by
  obtain ⟨fd, F⟩ := fd_Heap_init T
  refine ⟨fd, F.ok sc_Heap_init (fun vs H Q E h => by obtain ⟨x, dx, v1, v2, rfl, _⟩ := h; rfl) (fun cdv A outer s H vs Q E hr h => ?_), F.bindsN fun _ _ _ _ _ _ us hl => match us, hl with | [_, _, _], _ => rfl⟩
  obtain ⟨x, dx, v1, v2, rfl, hx, q⟩ := h
  show wB (cxOf CX0 P w K mg base ["self", "low", "high"] "Heap.__init__" (defScope t_Heap_init) (He.fAd K d_Heap_init.at_) cdv A outer s H E) (defBody t_Heap_init) _ _ _
  have nl : ∀ {H1 : Hp} {l : Addr} {o : HO} {fs}, H1 x = some (.ins (cH K) dx fs) → H1 l = none → upd H1 l o x = some (.ins (cH K) dx fs) := fun h1 h2 => by rw [upd_ne (fun z => by rw [z, h2] at h1; cases h1)]; exact h1
  refine wb_fld (sx := x) (fun H1 Q q => we_var 0 rfl q) (we_var 1 rfl ⟨cH K, dx, [], hx, cl_Heap T, no_Heap_heap_low T, by decide, ?_⟩)
  refine wb_fld (sx := x) (fun H1 Q q => we_var 0 rfl q) (we_var 2 rfl ⟨cH K, dx, _, upd_same, cl_Heap T, no_Heap_heap_high T, Nat.le_of_ble_eq_true rfl, ?_⟩)
  refine wb_fld (sx := x) (fun H1 Q q => we_var 0 rfl q) (we_of (pe_lst pa_nil) ⟨by decide, fun l1 h1 => ⟨cH K, dx, _, nl upd_same h1, cl_Heap T, no_Heap_rooms_there T, Nat.le_of_ble_eq_true rfl, ?_⟩⟩)
  refine wb_fld (sx := x) (fun H1 Q q => we_var 0 rfl q) (we_of (pe_lst pa_nil) ⟨by decide, fun l2 h2 => ⟨cH K, dx, _, nl upd_same h2, cl_Heap T, no_Heap_rooms_gone T, Nat.le_of_ble_eq_true rfl, ?_⟩⟩)
  refine wb_fld (sx := x) (fun H1 Q q => we_var 0 rfl q) (we_of (pe_lst pa_nil) ⟨by decide, fun l3 h3 => ⟨cH K, dx, _, nl upd_same h3, cl_Heap T, no_Heap_rooms_noted T, Nat.le_of_ble_eq_true rfl, ?_⟩⟩)
  refine wb_nil (q _ _ ?_ upd_same rfl)
  exact ((((((cut1_upd.trans cut1_upd).trans (cut1_new h1)).trans cut1_upd).trans (cut1_new h2)).trans cut1_upd).trans (cut1_new h3)).trans cut1_upd
theorem we_heap {X : Cx} {σ : L2.St} {H : Hp} {Q : VK} {p pos : Pos} {e1 e2 : Expr} (T : Tx X.prog X.w X.K X.mg X.base) (hr : Room 2 X.A) (h : wA X [e1, e2] σ H fun vs H1 => (∃ v1 v2, vs = [v1, v2]) ∧ ∀ c cdx fs H', Ex H1 H' → H1 c = none → H' c = some (.ins (cH X.K) cdx fs) → fs.lookup ("is_stale" : Str) = none → Q (.ref c) H') (hg : Gl X "Heap" := by rfl)
    (he : starEach [e1, e2] X.env = (false, eval e1 X.env) :: starEach [e2] X.env := by rfl) (hpl : (backTo pos (starEach [e2] X.env)).any (·.1) = false := by rfl) : wE X (.Call (.Name "Heap" p) [e1, e2] [] pos) σ H Q := by
  obtain ⟨fd, F, hb⟩ := fn_Heap_init T
  obtain ⟨t, Q0, pt, m, ht⟩ := h
  refine we_of (pe_make (mk_Heap T) F hr hg (gl_Heap T) hb .nil pass0 (pA) (by decide) he hpl) ⟨t, Q0, pt, fun vs H1 q0 => ?_, ht⟩
  obtain ⟨⟨v1, v2, rfl⟩, q⟩ := m vs H1 q0
  refine fun x dx nx ndx hne => ⟨x, dx, v1, v2, rfl, upd_same, fun H' fs ex hx hl => ⟨rfl, q x dx fs H' ?_ nx hx hl⟩⟩
  intro b o hb
  have hbx : b ≠ x := fun z => by rw [z, nx] at hb; cases hb
  have hbd : b ≠ dx := fun z => by rw [z, ndx] at hb; cases hb
  have h1 : cut [x] (upd (upd H1 dx (.own x)) x (.ins (cH X.K) dx [])) b = some o := by
    rw [cut_at (by simpa using hbx), upd_ne hbx, upd_ne hbd]
    exact hb
  exact cut_le _ _ (ex b o h1)
end
end Sr

set_option Elab.async false
set_option linter.all false
set_option maxRecDepth 100000
set_option maxHeartbeats 4000000
/-! Laying, places, words by names. -/
namespace Sr
open PySem PySem.Spec PyProof.Rows L2
open Evl (Ex)
section
variable {X : Cx} {sts A B body : List Stmt} {D : Ends} {σ : L2.St} {H : Hp} {c e : Expr} {pos px pos' pq p2 p3 p4 p5 : Pos} {Δ : Dl} {x y f : Str} {s : Addr}
/-- a, b = e -/
theorem wb_pair (i j : Nat) (hc : X.calm = true) (hN : X.N.Nodup) (h : wE X e σ H fun v H1 => ∃ a v1 v2, v = .ref a ∧ SqT X.K H1 a [v1, v2] ∧ wB X sts D ((σ.set i (some v1)).set j (some v2)) H1) {kk : Nat} (hi : X.N[i]? = some x := by rfl) (hj : X.N[j]? = some y := by rfl) (hx : Loc X.env.scope x := by first | exact Or.inl rfl | exact Or.inr rfl) (hy : Loc X.env.scope y := by first | exact Or.inl rfl | exact Or.inr rfl)
    (hf : X.fn x = true ∨ X.env.scope.names.lookup x = some .local := by first | exact .inl rfl | exact .inr rfl) (hf2 : X.fn y = true ∨ X.env.scope.names.lookup y = some .local := by first | exact .inl rfl | exact .inr rfl)
    (hst : (assignEach [.Name x p4, .Name y p5] X.env).findIdx? (·.1) = none := by rfl) (hlen : (assignEach [.Name x p4, .Name y p5] X.env).length = 2 := by rfl) (ha1 : (assignEach [.Name x p4, .Name y p5] X.env).map (·.2) = assign (.Name x p4) X.env :: (assignEach [.Name y p5] X.env).map (·.2) := by rfl) (ha2 : (assignEach [.Name y p5] X.env).map (·.2) = assign (.Name y p5) X.env :: (assignEach [] X.env).map (·.2) := by rfl)
    (hs : swapsWithSole [.Tuple [.Name x p4, .Name y p5] kk pq] e pos.line X.env = pure false := by rfl) (hw : swappedStores [.Tuple [.Name x p4, .Name y p5] kk pq] e X.env = pure none := by rfl) (h1 : (assignEach [.Tuple [.Name x p4, .Name y p5] kk pq] X.env).map (·.2) = [assign (.Tuple [.Name x p4, .Name y p5] kk pq) X.env] := by rfl) :
    wB X (.Assign [.Tuple [.Name x p4, .Name y p5] kk pq] e pos :: sts) D σ H :=
  wb_cons (ws_of (ps_asg pE (pg_tup hc (pgs_cons (pg_name (i := i) hN hi hx hf) (pgs_cons (pg_name (i := j) hN hj hy hf2) pgs_nil ha2) ha1) hlen hst) hs hw h1) (we_mono h fun v H1 ⟨a, v1, v2, e1, hq, hb⟩ => ⟨a, _, e1, hq, rfl, _, _, rfl, _, _, rfl, rfl, hb⟩))
/-- for x in a list of one -/
theorem wb_list1 (i : Nat) (hp : PassesOwn (model X.prog X.w) X.A X.env X.xe) (hc : X.calm = true) (hN : X.N.Nodup)
    (h : wE X e σ H fun v H1 => ∃ a c0, v = .ref a ∧ SqL X.K H1 a [c0] ∧ wB X body { D with nx := fun σ' H' => (Itl X.K a).stop 1 H' ∧ wB X sts D σ' H', ct := fun σ' H' => (Itl X.K a).stop 1 H' ∧ wB X sts D σ' H', bk := fun σ' H' => wB X sts D σ' H' } (σ.set i (some c0)) H1)
    (hi : X.N[i]? = some x := by rfl) (hx : Loc X.env.scope x := by first | exact Or.inl rfl | exact Or.inr rfl) (hf : X.fn x = true ∨ X.env.scope.names.lookup x = some .local := by first | exact .inl rfl | exact .inr rfl) (hset : ∀ x, foldedSetIterable e X.env x = pure x := by intro _; rfl) :
    wB X (.For (.Name x p4) e body [] pos :: sts) D σ H := by
  refine wb_cons (ws_of (ps_for hp hc (pi_list pE) (pg_name (i := i) hN hi hx hf) pB hset) (we_mono h fun v H1 ⟨a, c0, e1, hq, hb⟩ => ⟨a, e1, ⟨[c0], hq⟩, ?_⟩))
  refine one_turn (B := fun _ _ => True) ⟨_, _, hq, rfl⟩ fun x H3 hy => ?_
  obtain ⟨eH, hy1⟩ := hy
  subst eH
  have ey : c0 = x := by simpa using hy1 _ hq
  subst ey
  exact hb
theorem itl_stop {K : PySem.W.Frag} {a : Addr} {c0 : V} (h : SqL K H a [c0]) : (Itl K a).stop 1 H := ⟨_, h, Nat.le_refl _⟩
end
section
variable {P : Program} {w : World} {K : PySem.W.Frag} {mg : Str → Option Value} {base : Heap}
def spLay (K : PySem.W.Frag) : Sp := fun vs H Q _ => ∃ (c cdx cd : Addr) (cells : List (Int × Wv)) (a : Int) (wv : V) (v : Wv), vs = [.ref c, .int a, wv] ∧ CAt K H c cdx cd cells ∧ Dp K H wv v.d ∧ v.Ok ∧ v.t = true ∧ 0 ≤ a ∧ a < 4096 ∧ cells.length < 100 ∧
  ∀ H1 kvs, Ex H H1 → CAt K (upd H1 cd (.dK kvs)) c cdx cd (setC cells a v) → Q .non (upd H1 cd (.dK kvs))
theorem sc_Cells_lay : FnScope ["self", "address", "word"] ["self", "address", "word"] (defScope t_Cells_lay) := ⟨rfl, rfl, rfl, by decide +kernel, rfl, by decide +kernel, by decide +kernel⟩
theorem fn_lay (T : Tx P w K mg base) : ∃ fd, FnOk P w K mg base CX0 4 (He.ma K (He.ga K "Cells") "lay") fd ["self", "address", "word"] (spLay K) ∧ Binds K fd ["self", "address", "word"] [] := by
  obtain ⟨fd, F⟩ := fd_Cells_lay T
  refine ⟨fd, F.ok sc_Cells_lay (fun vs H Q E h => by obtain ⟨c, cdx, cd, cells, a, wv, v, rfl, _⟩ := h; rfl) (fun cdv A outer s H vs Q E hr h => ?_), F.bindsN fun _ _ _ _ _ _ us hl => match us, hl with | [_, _, _], _ => rfl⟩
  obtain ⟨c, cdx, cd, cells, a, wv, v, rfl, C, dw, hv, hvt, a0, a1, few, q⟩ := h
  obtain ⟨l, h, at_, k, r, rfl⟩ : ∃ l h a k r, v = .mk l h a k r := by
    cases v with
    | pl b => cases hvt
    | mk l h a k r => exact ⟨l, h, a, k, r, rfl⟩
  obtain ⟨fd2, F2, b2⟩ := fn_put T
  have s0 : @Sl sjT K H [some (.ref c), some (.int a), some wv] [none, some (.int a), some (Wv.mk l h at_ k r).d] := sl_of rfl fun i d h => by
    match i, h with
    | 0, h => cases h
    | 1, h => cases h; exact ⟨_, rfl, .int _⟩
    | 2, h => cases h; exact ⟨_, rfl, dw⟩
    | i + 3, h => cases h
  show wB (cxOf CX0 P w K mg base ["self", "address", "word"] "Cells.lay" (defScope t_Cells_lay) (He.fAd K d_Cells_lay.at_) cdv A outer s H E) (defBody t_Cells_lay) _ [some (.ref c), some (.int a), some wv] H
  refine wb_iff s0 (td_is (td_not (td_val (ed_call (pf_is_address T) (hr.mono (by decide)) (ad_cons (ed_var 1) ad_nil) (⟨a, rfl, rfl⟩)))) (by rw [decide_eq_true a0, decide_eq_true a1]; rfl)) fun H1 e1 => ?_
  refine wb_iff (s0.ex e1) (td_is (td_not (td_val (ed_call (pf_is_lawful T) (hr.mono (by decide)) (ad_cons (ed_var 2) ad_nil) (⟨l, h, at_, k, r, hv, rfl, rfl⟩)))) rfl) fun H2 e2 => ?_
  have C2 := (C.ex e1).ex e2
  refine wb_one (ws_of (ps_expr (pe_meth (pv 0) (cl_Cells T) (me_Cells_put T) F2 (hr.mono (by decide)) b2 .nil pass0 (pa_cons (pv 1) (pa_cons (pv 2) pa_nil)))) ?_)
  exact ⟨_, rfl, c, cdx, _, rfl, C2.cls, rfl, _, rfl, _, rfl, c, cdx, cd, cells, a, wv, _, rfl, C2, dp_ex (e1.trans e2) _ _ dw, few, fun H3 kvs e3 C3 => q H3 kvs ((e1.trans e2).trans e3) C3⟩
/-- a new list of such data -/
def spL (K : PySem.W.Frag) (R : List PyData → List PyData → Prop) : Sp := fun vs H Q _ => ∃ ds es, DpAll K H vs ds ∧ R ds es ∧ ∀ l xs H', H l = none → Ex H H' → H' l = some (.lst xs) → DpAll K H' xs es → Q (.ref l) H'
def R_places : List PyData → List PyData → Prop := fun ds es => ∃ n a : Int, ds = [.list [.int n], .int a] ∧ 1 ≤ n ∧ n ≤ 4096 ∧ 0 ≤ a ∧ a ≤ 4096 ∧ es = [.tuple [.int (pLow a n), .int (pLow a n + pSize n)]]
theorem sc_places : FnScope ["numbers", "at", "found", "many"] ["numbers", "at"] (defScope t_places) := ⟨rfl, rfl, rfl, by decide +kernel, rfl, by decide +kernel, by decide +kernel⟩
theorem fn_places (T : Tx P w K mg base) : FG P w K mg base 4 "places" ["numbers", "at"] (spL K R_places) := by
  obtain ⟨fd, F⟩ := fd_places T
  refine ⟨_, fd, F.ok sc_places (fun vs H Q E h => ?_) (fun cdv A outer s H vs Q E hr h => ?_), gl_places T, F.kp, F.bindsN fun _ _ _ _ _ _ us hl => match us, hl with | [_, _], _ => rfl⟩
  · obtain ⟨ds, es, r, ⟨n, a, rfl, _⟩, _⟩ := h
    exact dpa_len r
  obtain ⟨ds, es, r, ⟨n, a, rfl, n0, n1, a0, a1, rfl⟩, q⟩ := h
  cases r with
  | @cons v0 _ _ _ r0 r =>
  cases r with
  | @cons v1 _ _ _ r1 r =>
  cases r
  have ev := dp_int r1
  subst ev
  obtain ⟨nl, xs, rfl, hn, rx⟩ := dp_lst r0
  cases rx with
  | @cons c0 _ _ _ rc rn =>
  cases rn
  have ec := dp_int rc
  subst ec
  show wB (cxOf CX0 P w K mg base ["numbers", "at", "found", "many"] "places" (defScope t_places) (He.fAd K d_places.at_) cdv A outer s H E) (defBody t_places) _ [some (.ref nl), some (.int a), none, none] H
  refine wb_nox ?_
  refine wb_set 2 sc_places.nd (we_of (pe_lst pa_nil) ⟨by decide, fun l hl => ?_⟩)
  have e1 : Ex H (upd H l (.lst [])) := Ex.new hl
  refine wb_list1 3 PassesOwn.never rfl sc_places.nd (we_var 0 rfl ⟨nl, .int n, rfl, Evl.ex_l e1 hn, ?_⟩)
  have s1 : @Sl sjT K (upd H l (.lst [])) [some (.ref nl), some (.int a), some (.ref l), some (.int n)] [none, some (.int a), none, some (.int n)] := sl_of rfl fun i d h => by
    match i, h with
    | 0, h => cases h
    | 1, h => cases h; exact ⟨_, rfl, .int _⟩
    | 2, h => cases h
    | 3, h => cases h; exact ⟨_, rfl, .int _⟩
    | i + 4, h => cases h
  refine wb_cons (ws_of (ps_expr (pe_bm PySem.F.plainAttrs_list PySem.F.slot_list_append PySem.F.type_list_append mt_append (pv 2) (pa_cons pE pa_nil))) ⟨_, rfl, .inl ⟨rfl, _, SqL.of upd_same⟩, we_ed (ed_call (pf_placed T) (hr.mono (by decide)) (ad_cons (ed_var 1) (ad_cons (ed_var 3) ad_nil)) (⟨a, n, rfl, n0, n1, a0, a1, rfl⟩)) s1 fun v2 H2 e2 r2 => ⟨l, [], v2, rfl, rfl, e2 _ _ upd_same, by decide, ?_⟩⟩)
  have ex2 : Ex H (upd H2 l (.lst [v2])) := (e1.trans e2).mut hl
  have r2' : Dp K (upd H2 l (.lst [v2])) v2 (.tuple [.int (pLow a n), .int (pLow a n + pSize n)]) := dp_mut (e2 _ _ upd_same) (fun _ z => nomatch z) (fun _ _ z => nomatch z) rfl r2
  have s2 : @Sl sjT K (upd H2 l (.lst [v2])) [some (.ref nl), some (.int a), some (.ref l), some (.int n)] [none, none, some (.list [.tuple [.int (pLow a n), .int (pLow a n + pSize n)]]), none] := sl_of rfl fun i d h => by
    match i, h with
    | 0, h => cases h
    | 1, h => cases h
    | 2, h => cases h; exact ⟨_, rfl, .lst (SqL.of upd_same) (.cons r2' .nil)⟩
    | 3, h => cases h
    | i + 4, h => cases h
  refine wb_set 1 sc_places.nd (we_ed (ed_ixT (ed_ixL (ed_var 2) (ed_neg ed_int)) ed_int) s2 fun v3 H3 e3 r3 => wb_nil ⟨itl_stop (Evl.ex_l (ex2.trans e3) hn), ?_⟩)
  exact wb_one (ws_ret (we_var 2 rfl (q l [v2] H3 hl (ex2.trans e3) (e3 _ _ upd_same) (.cons (dp_ex e3 _ _ r2') .nil))))
end
end Sr

set_option Elab.async false
set_option linter.all false
set_option maxRecDepth 100000
set_option maxHeartbeats 4000000
/-! Words by names, the cells of all. -/
namespace Sr
open PySem PySem.Spec PyProof.Rows L2
open Evl (Ex)
section
variable {X : Cx} {sts A B body : List Stmt} {D : Ends} {σ : L2.St} {H : Hp} {c e : Expr} {pos px pos' pq p2 p3 p4 p5 : Pos} {Δ : Dl} {x y f : Str} {s : Addr} {d d1 d2 : PyData}
theorem wb_setD (i : Nat) (hN : X.N.Nodup) (s : @Sl sjT X.K H σ Δ) (h : @ED sjT X e Δ d) (q : ∀ v H1, Ex H H1 → Dp X.K H1 v d → @Sl sjT X.K H1 (σ.set i (some v)) (Δ.set i (some d)) → wB X sts D (σ.set i (some v)) H1) (hi : X.N[i]? = some x := by rfl) (hx : Loc X.env.scope x := by first | exact Or.inl rfl | exact Or.inr rfl)
    (hs : swapsWith e (some (.Name x px)) pos.line X.env = pure false := by rfl) (hf : X.fn x = true ∨ X.env.scope.names.lookup x = some .local := by first | exact .inl rfl | exact .inr rfl) : wB X (.Assign [.Name x px] e pos :: sts) D σ H :=
  wb_set i hN (we_ed h s fun v H1 e1 r1 => q v H1 e1 r1 ((s.ex e1).set r1 trivial)) hi hx hs hf
theorem wb_pairD (i j : Nat) (hc : X.calm = true) (hN : X.N.Nodup) (s : @Sl sjT X.K H σ Δ) (h : @ED sjT X e Δ (.tuple [d1, d2])) (q : ∀ v1 v2 H1, Ex H H1 → Dp X.K H1 v1 d1 → Dp X.K H1 v2 d2 → @Sl sjT X.K H1 ((σ.set i (some v1)).set j (some v2)) ((Δ.set i (some d1)).set j (some d2)) → wB X sts D ((σ.set i (some v1)).set j (some v2)) H1)
    {kk : Nat} (hi : X.N[i]? = some x := by rfl) (hj : X.N[j]? = some y := by rfl) (hx : Loc X.env.scope x := by first | exact Or.inl rfl | exact Or.inr rfl) (hy : Loc X.env.scope y := by first | exact Or.inl rfl | exact Or.inr rfl)
    (hf : X.fn x = true ∨ X.env.scope.names.lookup x = some .local := by first | exact .inl rfl | exact .inr rfl) (hf2 : X.fn y = true ∨ X.env.scope.names.lookup y = some .local := by first | exact .inl rfl | exact .inr rfl)
    (hst : (assignEach [.Name x p4, .Name y p5] X.env).findIdx? (·.1) = none := by rfl) (hlen : (assignEach [.Name x p4, .Name y p5] X.env).length = 2 := by rfl) (ha1 : (assignEach [.Name x p4, .Name y p5] X.env).map (·.2) = assign (.Name x p4) X.env :: (assignEach [.Name y p5] X.env).map (·.2) := by rfl) (ha2 : (assignEach [.Name y p5] X.env).map (·.2) = assign (.Name y p5) X.env :: (assignEach [] X.env).map (·.2) := by rfl)
    (hs : swapsWithSole [.Tuple [.Name x p4, .Name y p5] kk pq] e pos.line X.env = pure false := by rfl) (hw : swappedStores [.Tuple [.Name x p4, .Name y p5] kk pq] e X.env = pure none := by rfl) (h1 : (assignEach [.Tuple [.Name x p4, .Name y p5] kk pq] X.env).map (·.2) = [assign (.Tuple [.Name x p4, .Name y p5] kk pq) X.env] := by rfl) :
    wB X (.Assign [.Tuple [.Name x p4, .Name y p5] kk pq] e pos :: sts) D σ H :=
  wb_pair i j hc hN (we_ed h s fun v H1 e1 r1 => by
    obtain ⟨a, xs, rfl, hq, rs⟩ := dp_tup r1
    cases rs with
    | cons r1 rs =>
      cases rs with
      | cons r2 rs =>
        cases rs
        exact ⟨a, _, _, rfl, hq, q _ _ H1 e1 r1 r2 (((s.ex e1).set r1 trivial).set r2 trivial)⟩) hi hj hx hy hf hf2 hst hlen ha1 ha2 hs hw h1
end
theorem exact_16 : Exact 16 24 := ⟨by decide, by decide, by decide, by decide +kernel, by decide +kernel⟩
theorem exact_3 : Exact 3 4 := ⟨by decide, by decide, by decide, by decide +kernel, by decide +kernel⟩
theorem exact_24 : Exact 24 88 := ⟨by decide, by decide, by decide, by decide +kernel, by decide +kernel⟩
theorem fl_cell : Fl 16 24 16 Rt.cell.m 0 := ⟨exact_16, by decide, by decide, by decide, by decide, by decide, by decide⟩
theorem fl_sl : Fl 3 4 3 Rt.sl.m 0 := ⟨exact_3, by decide, by decide, by decide, by decide, by decide, by decide⟩
def wordT (z : Int) : PyData := .tuple [(Wv.mk 0 z 0 0 .fx).d, (Wv.mk 16 24 16 0 .cell).d, (Wv.mk 3 4 3 0 .sl).d]
section
variable {P : Program} {w : World} {K : PySem.W.Frag} {mg : Str → Option Value} {base : Heap}
def spWN (K : PySem.W.Frag) : Sp := fun vs H Q _ => ∃ (z : Int) (l : List Rw), DpAll K H vs [.list [compD l], .list [.tuple [.int 0, .int z]], .list [.tuple [.int 16, .int 24]]] ∧ Fl 0 z 0 Rt.fx.m 0 ∧ ∀ d wv H', Ex H H' → H d = none → H' d = some (.dK [(.inr "a", wv)]) → Dp K H' wv (wordT z) → Q (.ref d) H'
theorem sc_words_by_names : FnScope ["compartments", "rooms", "own_rooms", "found", "number", "one", "low", "high", "own_low", "own_high", "kind", "seal"] ["compartments", "rooms", "own_rooms"] (defScope t_words_by_names) := ⟨rfl, rfl, rfl, by decide +kernel, rfl, by decide +kernel, by decide +kernel⟩
theorem fn_words (T : Tx P w K mg base) : FG P w K mg base 5 "words_by_names" ["compartments", "rooms", "own_rooms"] (spWN K) := by
  obtain ⟨fd, F⟩ := fd_words_by_names T
  refine ⟨_, fd, F.ok sc_words_by_names (fun vs H Q E h => ?_) (fun cdv A outer s H vs Q E hr h => ?_), gl_words_by_names T, F.kp, F.bindsN fun _ _ _ _ _ _ us hl => match us, hl with | [_, _, _], _ => rfl⟩
  · obtain ⟨z, l, r, _⟩ := h
    exact dpa_len r
  obtain ⟨z, l, r, hF, q⟩ := h
  have s0 : @Sl sjT K H (L2.start ["compartments", "rooms", "own_rooms", "found", "number", "one", "low", "high", "own_low", "own_high", "kind", "seal"] vs) (([.list [compD l], .list [.tuple [.int 0, .int z]], .list [.tuple [.int 16, .int 24]]] : List PyData).map some ++ List.replicate 9 none) := sl_start trivial r 9 (by rw [dpa_len r]; rfl)
  cases r with
  | @cons v0 _ _ _ r0 r =>
  cases r with
  | @cons v1 _ _ _ r1 r =>
  cases r with
  | @cons v2 _ _ _ r2 r =>
  cases r
  obtain ⟨nl, xs, rfl, hn, rx⟩ := dp_lst r0
  cases rx with
  | @cons c0 _ _ _ rc rn =>
  cases rn
  show wB (cxOf CX0 P w K mg base ["compartments", "rooms", "own_rooms", "found", "number", "one", "low", "high", "own_low", "own_high", "kind", "seal"] "words_by_names" (defScope t_words_by_names) (He.fAd K d_words_by_names.at_) cdv A outer s H E) (defBody t_words_by_names) _ [some (.ref nl), some v1, some v2, none, none, none, none, none, none, none, none, none] H
  refine wb_nox ?_
  refine wb_set 3 sc_words_by_names.nd (we_of pe_dnewK fun p hp => ?_)
  have e1 : Ex H (upd H p (.dK [])) := Ex.new hp
  have s1 := (s0.ex e1).skip (i := 3) (y := some (.ref p)) rfl trivial
  refine wb_enum1 4 5 PassesOwn.never rfl sc_words_by_names.nd (fr_enumerate T) (we_var 0 rfl ⟨nl, c0, rfl, Evl.ex_l e1 hn, fun T1 hT => ?_⟩)
  have e2 : Ex (upd H p (.dK [])) (upd (upd H p (.dK [])) T1 (.tup [.int (0 : Nat), c0])) := Ex.new hT
  have s2 := ((s1.ex e2).set (i := 4) (v := .int (0 : Nat)) (.int _) trivial).set (i := 5) (dp_ex (e1.trans e2) _ _ rc) trivial
  refine wb_pairD 6 7 rfl sc_words_by_names.nd s2 (ed_ixL (ed_var 1) (ed_var 4)) fun v6 v7 H3 e3 r6 r7 s3 => ?_
  refine wb_pairD 8 9 rfl sc_words_by_names.nd s3 (ed_ixL (ed_var 2) (ed_var 4)) fun v8 v9 H4 e4 r8 r9 s4 => ?_
  refine wb_setD 10 sc_words_by_names.nd s4 (ed_add (ed_glob (c_LEAST_KIND_loader T)) (ed_var 4)) fun v10 H5 e5 r10 s5 => ?_
  refine wb_setD 11 sc_words_by_names.nd s5 (d := (Wv.mk 3 4 3 0 .sl).d) (ed_call (pf_word_of T) (hr.mono (by decide)) (ad_cons (ed_tup (ad_cons (ed_var 10) (ad_cons (ed_add (ed_var 10) ed_int) (ad_cons (ed_var 10) (ad_cons ed_str (ad_cons ed_int ad_nil)))))) ad_nil) (⟨3, 4, 3, 0, .sl, fl_sl, rfl, rfl⟩)) fun v11 H6 e6 r11 s6 => ?_
  refine wb_one (ws_of (ps_dput (hu_of hr) (pv 3) pE pE rfl) ?_)
  refine we_ed (d := wordT z) (ed_tup (ad_cons (ed_call (pf_word_of T) (hr.mono (by decide)) (ad_cons (ed_tup (ad_cons (ed_var 6) (ad_cons (ed_var 7) (ad_cons (ed_var 6) (ad_cons ed_str (ad_cons ed_int ad_nil)))))) ad_nil) (⟨0, z, 0, 0, .fx, hF, rfl, rfl⟩)) (ad_cons (ed_call (pf_word_of T) (hr.mono (by decide)) (ad_cons (ed_tup (ad_cons (ed_var 8) (ad_cons (ed_var 9) (ad_cons (ed_var 8) (ad_cons ed_str (ad_cons ed_int ad_nil)))))) ad_nil) (⟨16, 24, 16, 0, .cell, fl_cell, rfl, rfl⟩)) (ad_cons (ed_var 11) ad_nil)))) s6 fun wv H7 e7 r7 => ⟨_, rfl, we_ed (d := .str "a") (ed_ixT (ed_var 5) ed_int) (s6.ex e7) fun v8 H8 e8 r8 => ?_⟩
  have ev := dp_str r8
  subst ev
  have e28 := e2.trans (e3.trans (e4.trans (e5.trans (e6.trans (e7.trans e8)))))
  have hp8 := e28 _ _ upd_same
  refine ⟨p, _, rfl, DPut.k (k := .inr "a") hp8 (by decide), ite_stop (sqL_dict (Evl.ex_l (e1.trans e28) hn) hp8), ?_⟩
  refine wb_one (ws_ret (we_var 3 rfl (q p wv _ ((e1.trans e28).mut hp) hp upd_same ?_)))
  exact dp_mut hp8 (fun _ z => nomatch z) (fun _ _ z => nomatch z) rfl (dp_ex e8 _ _ r7)
def spCO (K : PySem.W.Frag) : Sp := fun vs H Q _ => ∃ (z : Int) (l : List Rw) (vc vr vo wv : V) (wd : Addr), vs = [vc, vr, vo, .ref wd] ∧ Dp K H vc (.list [compD l]) ∧ Dp K H vo (.list [.tuple [.int 16, .int 24]]) ∧ H wd = some (.dK [(.inr "a", wv)]) ∧ Dp K H wv (wordT z) ∧
  ∀ c cdx cd H', Ex H H' → H c = none → H cd = none → c ≠ cd → CAt K H' c cdx cd [(16, .mk 3 4 3 0 .sl)] → Q (.ref c) H'
theorem sc_cells_of : FnScope ["compartments", "rooms", "own_rooms", "words", "found", "number", "one", "low", "place", "use"] ["compartments", "rooms", "own_rooms", "words"] (defScope t_cells_of) := ⟨rfl, rfl, rfl, by decide +kernel, rfl, by decide +kernel, by decide +kernel⟩
theorem fn_cells_of (T : Tx P w K mg base) : FG P w K mg base 5 "cells_of" ["compartments", "rooms", "own_rooms", "words"] (spCO K) := by
  obtain ⟨fd, F⟩ := fd_cells_of T
  refine ⟨_, fd, F.ok sc_cells_of (fun vs H Q E h => ?_) (fun cdv A outer s H vs Q E hr h => ?_), gl_cells_of T, F.kp, F.bindsN fun _ _ _ _ _ _ us hl => match us, hl with | [_, _, _, _], _ => rfl⟩
  · obtain ⟨z, l, vc, vr, vo, wv, wd, rfl, _⟩ := h
    rfl
  obtain ⟨z, l, vc, vr, vo, wv, wd, rfl, r0, r2, hw, rw_, q⟩ := h
  have s0 : @Sl sjT K H [some vc, some vr, some vo, some (.ref wd), none, none, none, none, none, none] [some (.list [compD l]), none, some (.list [.tuple [.int 16, .int 24]]), none, none, none, none, none, none, none] := sl_of rfl fun i d h => by
    match i, h with
    | 0, h => cases h; exact ⟨_, rfl, r0⟩
    | 1, h => cases h
    | 2, h => cases h; exact ⟨_, rfl, r2⟩
    | 3, h => cases h
    | 4, h => cases h
    | 5, h => cases h
    | 6, h => cases h
    | 7, h => cases h
    | 8, h => cases h
    | 9, h => cases h
    | i + 10, h => cases h
  obtain ⟨nl, xs, rfl, hn, rx⟩ := dp_lst r0
  cases rx with
  | @cons c0 _ _ _ rc rn =>
  cases rn
  obtain ⟨fdl, FL, bL⟩ := fn_lay T
  show wB (cxOf CX0 P w K mg base ["compartments", "rooms", "own_rooms", "words", "found", "number", "one", "low", "place", "use"] "cells_of" (defScope t_cells_of) (He.fAd K d_cells_of.at_) cdv A outer s H E) (defBody t_cells_of) _ [some (.ref nl), some vr, some vo, some (.ref wd), none, none, none, none, none, none] H
  refine wb_nox ?_
  refine wb_set 4 sc_cells_of.nd (we_cells T (hr.mono (by decide)) fun c cdx cd H1 e1 hc hcd hne C1 => ?_)
  have s1 := (s0.ex e1).skip (i := 4) (y := some (.ref c)) rfl trivial
  refine wb_enum1 5 6 PassesOwn.never rfl sc_cells_of.nd (fr_enumerate T) (we_var 0 rfl ⟨nl, c0, rfl, Evl.ex_l e1 hn, fun T1 hT => ?_⟩)
  have e2 : Ex H1 (upd H1 T1 (.tup [.int (0 : Nat), c0])) := Ex.new hT
  have s2 := ((s1.ex e2).set (i := 5) (v := .int (0 : Nat)) (.int _) trivial).set (i := 6) (dp_ex (e1.trans e2) _ _ rc) trivial
  refine wb_setD 7 sc_cells_of.nd s2 (d := .int 16) (ed_ixT (ed_ixL (ed_var 2) (ed_var 5)) ed_int) fun v7 H3 e3 r7 s3 => ?_
  have ev := dp_int r7
  subst ev
  have C3 := (C1.ex e2).ex e3
  have e13 := e1.trans (e2.trans e3)
  refine wb_cons (ws_of (ps_expr (pe_meth (pv 4) (cl_Cells T) (me_Cells_lay T) FL (hr.mono (by decide)) bL .nil pass0 (pa_cons (pv 7) (pa_cons (pe_ix ix_tup (pe_dget (hu_of hr) (pv 3) pE (fun _ _ => rfl)) pe_int (fun _ _ => rfl)) pa_nil)))) ?_)
  refine ⟨_, rfl, c, cdx, _, rfl, C3.cls, rfl, _, rfl, _, rfl, we_ed (d := .str "a") (ed_ixT (ed_var 6) ed_int) s3 fun v8 H4 e4 r8 => ?_⟩
  have ev := dp_str r8
  subst ev
  obtain ⟨wt, ws, rfl, hwt, rws⟩ := dp_tup (dp_ex (e13.trans e4) _ _ rw_)
  cases rws with
  | cons rw0 rws =>
  cases rws with
  | cons rw1 rws =>
  cases rws with
  | @cons w2 _ _ _ rw2 rws =>
  cases rws
  refine ⟨wd, _, rfl, DGet.k (k := .inr "a") (kvs := [(.inr "a", .ref wt)]) (e4 _ _ (e13 _ _ hw)), wt, _, 2, _, rfl, rfl, hwt, rfl, ?_⟩
  refine ⟨c, cdx, cd, [], 16, _, .mk 3 4 3 0 .sl, rfl, C3.ex e4, rw2, fl_sl, rfl, by decide, by decide, by decide, fun H5 kvs e5 C5 => ?_⟩
  have hcd5 : ∃ k, H5 cd = some (.dK k) := by
    obtain ⟨k, hk, _⟩ := ((C3.ex e4).ex e5).clk
    exact ⟨k, hk⟩
  obtain ⟨k5, hk5⟩ := hcd5
  have s5 : @Sl sjT K _ _ _ := Sl.dict (o := .dK kvs) ((s3.ex e4).ex e5) hk5
  have e15 := (e13.trans e4).trans e5
  have ex5 : Ex H (upd H5 cd (.dK kvs)) := e15.mut hcd
  refine wb_one (ws_of (ps_for PassesOwn.never rfl (pi_enumN rfl (fr_enumerate T) (pa_cons pE pa_nil)) (pg_tup rfl (pgs_cons (pg_name (i := 8) sc_cells_of.nd rfl (.inl rfl)) (pgs_cons (pg_name (i := 9) sc_cells_of.nd rfl (.inl rfl)) pgs_nil))) pB) ?_)
  refine we_ed (d := .tuple []) (ed_ixT (ed_var 6) ed_int) s5 fun v9 H6 e6 r9 => ?_
  obtain ⟨t9, x9, rfl, hq9, rn9⟩ := dp_tup r9
  cases rn9
  refine ⟨t9, rfl, hq9, no_turn ⟨rfl, hq9⟩ ⟨ite_stop (Evl.ex_l (ex5.trans e6) hn), ?_⟩⟩
  exact wb_one (ws_ret (we_var 4 rfl (q c cdx cd H6 (ex5.trans e6) hc hcd hne (C5.ex e6))))
end
end Sr

set_option Elab.async false
set_option linter.all false
set_option maxRecDepth 100000
set_option maxHeartbeats 4000000
/-! The rows' dict. -/
namespace Sr
open PySem PySem.Spec PyProof.Rows L2
open Evl (Ex)
/-- items by their places -/
def kvsOf : Nat → List V → List (Key × V)
  | _, [] => []
  | i, x :: r => (.inl (i : Nat), x) :: kvsOf (i + 1) r
theorem kvs_key : ∀ {xs : List V} {i : Nat} {p : Key × V}, p ∈ kvsOf i xs → ∃ j : Nat, i ≤ j ∧ j < i + xs.length ∧ p.1 = .inl (j : Nat)
  | [], _, _, h => by cases h
  | x :: r, i, p, h => by
    rcases List.mem_cons.mp h with e | h
    · exact ⟨i, Nat.le_refl _, by rw [List.length_cons]; omega, by rw [e]⟩
    · obtain ⟨j, a, b, c⟩ := kvs_key h
      exact ⟨j, by omega, by rw [List.length_cons]; omega, c⟩
theorem putK_new {kvs : List (Key × V)} {k : Key} {v : V} (h : ∀ p ∈ kvs, p.1 ≠ k) : putK kvs k v = kvs ++ [(k, v)] := by
  unfold putK
  rw [if_neg]
  intro z
  rw [List.any_eq_true] at z
  obtain ⟨p, hp, e⟩ := z
  exact h p hp (of_decide_eq_true e)
theorem kvs_snoc : ∀ (xs : List V) (i : Nat) (x : V), kvsOf i (xs ++ [x]) = kvsOf i xs ++ [(.inl ((i + xs.length : Nat) : Int), x)]
  | [], i, x => rfl
  | y :: r, i, x => by
    show (Sum.inl ((i : Nat) : Int), y) :: kvsOf (i + 1) (r ++ [x]) = (Sum.inl ((i : Nat) : Int), y) :: (kvsOf (i + 1) r ++ [(Sum.inl ((i + (r.length + 1) : Nat) : Int), x)])
    rw [kvs_snoc r (i + 1) x, show i + 1 + r.length = i + (r.length + 1) by omega]
theorem kvs_put (xs : List V) (i : Nat) (x : V) : putK (kvsOf i xs) (.inl ((i + xs.length : Nat) : Int)) x = kvsOf i (xs ++ [x]) := by
  rw [kvs_snoc, putK_new]
  intro p hp e
  obtain ⟨j, a, b, c⟩ := kvs_key hp
  rw [c] at e
  have := Sum.inl.inj e
  omega
theorem kvs_merge : ∀ (ys xs : List V) (i : Nat), mergeK (kvsOf i xs) (kvsOf (i + xs.length) ys) = kvsOf i (xs ++ ys)
  | [], xs, i => by rw [List.append_nil]; rfl
  | y :: r, xs, i => by
    show mergeK (putK (kvsOf i xs) (.inl ((i + xs.length : Nat) : Int)) y) (kvsOf (i + xs.length + 1) r) = _
    rw [kvs_put, show i + xs.length + 1 = i + (xs ++ [y]).length by rw [List.length_append]; rfl, kvs_merge r (xs ++ [y]) i, List.append_assoc]
    rfl
theorem kvs_val : ∀ (xs : List V) (i j : Nat), valV (kvsOf i xs) (.inl ((i + j : Nat) : Int)) = xs[j]?
  | [], i, j => rfl
  | x :: r, i, 0 => by simp [kvsOf, valV]
  | x :: r, i, j + 1 => by
    have h := kvs_val r (i + 1) j
    rw [show i + 1 + j = i + (j + 1) by omega] at h
    rw [List.getElem?_cons_succ, ← h]
    have ne : ((Sum.inl ((i : Nat) : Int)) : Key) ≠ Sum.inl ((i + (j + 1) : Nat) : Int) := fun e => by have := Sum.inl.inj e; omega
    show valV ((Sum.inl ((i : Nat) : Int), x) :: kvsOf (i + 1) r) (.inl ((i + (j + 1) : Nat) : Int)) = valV (kvsOf (i + 1) r) (.inl ((i + (j + 1) : Nat) : Int))
    generalize kvsOf (i + 1) r = t
    unfold valV
    rw [List.find?_cons]
    simp only [ne, decide_false]
theorem kvs_len : ∀ (xs : List V) (i : Nat), (kvsOf i xs).length = xs.length
  | [], _ => rfl
  | x :: r, i => congrArg Nat.succ (kvs_len r (i + 1))
section
variable {X : Cx} {es : List Expr} {σ : L2.St} {H : Hp} {Δ : Dl} {ds : List PyData} {Q : List V → Hp → Prop}
theorem wa_ad [SJ] (h : AD X es Δ ds) (s : Sl X.K H σ Δ) (q : ∀ vs H', Ex H H' → DpAll X.K H' vs ds → Q vs H') : wA X es σ H Q := let ⟨_, p, g⟩ := h.ex; wa_of p (g σ H s Q q)
variable {e : Expr} {p pos : Pos} {x : Str} {k : Nat} {ps : List Str} {sp : Sp} {QQ : VK}
/-- f(e, ..) by its promise -/
theorem we_fg (F : FG X.prog X.w X.K X.mg X.base k x ps sp) (hr : Room k X.A) (h : wA X (e :: es) σ H fun vs H1 => sp (vs ++ []) H1 QQ E0) (hg : Gl X x := by rfl)
    (hdb : (x == ("__debug__" : Str)) = false := by decide) (he : starEach (e :: es) X.env = (false, eval e X.env) :: starEach es X.env := by rfl) (hpl : (backTo pos (starEach es X.env)).any (·.1) = false := by rfl) : wE X (.Call (.Name x p) (e :: es) [] pos) σ H QQ := by
  obtain ⟨f, fd, F1, hm, hk, hb⟩ := F.ex
  exact we_of (pe_call F1 hr hg hm hk hb .nil pass0 pA hdb he hpl) h
theorem wb_exprD [SJ] {d : PyData} {sts : List Stmt} {D : Ends} (s : Sl X.K H σ Δ) (h : ED X e Δ d) (q : ∀ H1, Ex H H1 → wB X sts D σ H1) (hs : swapsWith e none pos.line X.env = pure false := by rfl) : wB X (.Expr e pos :: sts) D σ H :=
  wb_cons (ws_expr (we_ed h s fun v H1 e1 _ => q H1 e1) hs)
end
section
variable {P : Program} {w : World} {K : PySem.W.Frag} {mg : Str → Option Value} {base : Heap}
theorem sc_loaded : FnScope ["compartments", "stack", "rooms", "own_rooms", "words", "low", "high", "rows", "first", "last", "one", "heap", "cells", "place", "row"] ["compartments", "stack"] (defScope t_loaded) := ⟨rfl, rfl, rfl, by decide +kernel, rfl, by decide +kernel, by decide +kernel⟩
/-- {first + place: row for place, row in enumerate(one[1])} -/
theorem we_rowsD {cdv : Value} {A : Around} {outer : List Env} {s : Shared} {H0 H : Hp} {E : XK} {σ : L2.St} {Δ : Dl} {Q : VK} {l : List Rw} (T : Tx P w K mg base) (hl : l.length ≤ 64) (s1 : @Sl sjT K H σ Δ) (h10 : Δ[10]? = some (some (compD l))) (h8 : σ[8]? = some (some (.int 0))) (hlen : σ.length = 15)
    (q : ∀ D xs H', Ex H H' → H D = none → H' D = some (.dK (kvsOf 0 xs)) → DpAll K H' xs (l.map Rw.d) → Q (.ref D) H') :
    wE (cxOf CX0 P w K mg base ["compartments", "stack", "rooms", "own_rooms", "words", "low", "high", "rows", "first", "last", "one", "heap", "cells", "place", "row"] "loaded" (defScope t_loaded) (He.fAd K d_loaded.at_) cdv A outer s H0 E).nox (match defBody t_loaded with | [_, _, _, _, _, _, _, .For _ _ [.Expr (.Call _ [e] _ _) _] _ _, _, _, _] => e | _ => default) σ H Q := by
  refine we_of (pe_dc (g := gTup K 2 (gCons (gName 13) (gCons (gName 14) gNil))) (own := [("place", 13), ("row", 14)]) rfl sc_loaded.nd (pi_enum rfl (fr_enumerate T) (pa_cons pE pa_nil)) (blkOk_by (by rfl)) (fun _ _ _ _ _ => pg_tup rfl (pgs_cons (pg_name (i := 13) sc_loaded.nd rfl (.inl rfl) (.inr rfl)) (pgs_cons (pg_name (i := 14) sc_loaded.nd rfl (.inl rfl) (.inr rfl)) pgs_nil))) (fun _ _ _ _ _ => pts_nil) (fun _ _ _ _ _ => pe_op op_add (pv 8) (pv 13)) (fun _ _ _ _ _ => pv 14)) ?_
  refine we_ed (d := .list (l.map Rw.d)) (ed_ixT (ed_var 10 h10) ed_int) s1 fun v H1 e1 r1 => ?_
  obtain ⟨a, xs, rfl, hq, rx⟩ := dp_lst r1
  have hxl : xs.length ≤ 64 := by rw [dpa_len rx, List.length_map]; exact hl
  refine ⟨a, xs, rfl, hq, fun D hD => ?_⟩
  refine ⟨fun i m H2 => i + m = xs.length ∧ Ex H1 H2 ∧ H2 D = some (.dK (kvsOf 0 (xs.take i))), ⟨xs.length, by omega, Ex.new hD, upd_same⟩, ?_⟩
  rintro i m H2 ⟨him, e2, hD2⟩
  by_cases hlt : i < xs.length
  · have hx := List.getElem?_eq_getElem hlt
    refine .inr ⟨⟨xs, _, Evl.ex_l e2 hq, hx⟩, fun H3 => Ex H1 H3 ∧ H3 D = some (.dK (kvsOf 0 (xs.take (i + 1)))), fun H3 h => ⟨m - 1, by omega, by omega, h.1, h.2⟩, fun x H3 hy => ?_⟩
    obtain ⟨T1, y1, rfl, hT, rfl, hy1⟩ := hy
    have ey : xs[i] = y1 := by
      have := hy1 xs (Evl.ex_l e2 hq)
      rw [hx] at this
      exact Option.some.inj this
    subst ey
    have e3 : Ex H2 (upd H2 T1 (.tup [.int (i : Nat), xs[i]])) := Ex.new hT
    have hw8 : (L2.wipe σ [13, 14])[8]? = some (some (.int 0)) := by
      rw [wipe_out (by decide)]
      exact h8
    refine ⟨T1, _, rfl, SqT.of upd_same, rfl, _, _, rfl, _, _, rfl, rfl, ?_, ?_⟩
    · show (((((L2.wipe σ [13, 14]).set 13 _).set 14 _).set 14 none).set 13 none) = L2.wipe σ [13, 14]
      rw [List.set_set, List.set_comm _ _ (by decide), List.set_set]
      show (((σ.set 14 none).set 13 none).set 13 none).set 14 none = (σ.set 14 none).set 13 none
      rw [List.set_set, List.set_comm _ _ (by decide), List.set_set]
    · have hwl : (L2.wipe σ [13, 14]).length = 15 := by rw [wipe_length]; exact hlen
      refine ⟨_, by rw [List.getElem?_set_ne (by decide), List.getElem?_set_ne (by decide)]; exact hw8, _, by rw [List.getElem?_set_ne (by decide)]; exact List.getElem?_set_self (by rw [wipe_length, hlen]; decide), 0, (i : Nat), rfl, rfl, ?_⟩
      refine ⟨_, List.getElem?_set_self (by rw [List.length_set, wipe_length, hlen]; decide), kvsOf 0 (xs.take i), .inl ((i : Nat) : Int), ?_, e3 _ _ hD2, ?_, (e2.trans e3).mut hD, ?_⟩
      · show V.int (0 + (i : Nat)) = V.int (i : Nat)
        rw [Int.zero_add]
      · rw [kvs_len, List.length_take]
        exact Nat.lt_of_le_of_lt (Nat.min_le_right _ _) (Nat.lt_of_le_of_lt hxl (by decide))
      · rw [upd_same]
        have ht : (xs.take i).length = i := by rw [List.length_take]; omega
        have h := kvs_put (xs.take i) 0 xs[i]
        rw [ht, Nat.zero_add] at h
        rw [h, List.take_succ, hx]
        rfl
  · have ei : i = xs.length := by omega
    subst ei
    refine .inl ⟨⟨xs, Evl.ex_l e2 hq, Nat.le_refl _⟩, q D xs H2 (e1.trans e2) (Evl.fresh_back e1 hD) ?_ (dps_ex e2 _ _ rx)⟩
    rw [List.take_length] at hD2
    exact hD2
end
end Sr

set_option Elab.async false
set_option linter.all false
set_option maxRecDepth 100000
set_option maxHeartbeats 4000000
/-! All is loaded. -/
namespace Sr
open PySem PySem.Spec PyProof.Rows L2
open Evl (Ex)
theorem merge5 {a b c d e : V} : mergeK [] [(.inr ("rows" : Str), a), (.inr ("cells" : Str), b), (.inr ("words" : Str), c), (.inr ("stack" : Str), d), (.inr ("heap" : Str), e)] = [(.inr "rows", a), (.inr "cells", b), (.inr "words", c), (.inr "stack", d), (.inr "heap", e)] := by
  rfl
theorem pLow0 (n : Int) : pLow 0 n = 0 := by
  unfold pLow cdiv
  simp
theorem exact_size {n : Int} (h0 : 0 < n) (h1 : n ≤ 4096) : Exact 0 (pSize n) := by
  have e := exact_held (l := 0) (h := n) (by decide) h0 h1
  have e1 : heldL 0 n = 0 := by unfold heldL; simp
  rw [e1, heldH_eq] at e
  exact e
theorem pf_look_at_compartments {P : Program} {w : World} {K : PySem.W.Frag} {mg : Str → Option Value} {base : Heap} (T : Tx P w K mg base) : PF P w K mg base 9 "look_at_compartments" R_look := pf_look T
theorem dp_dict {K : PySem.W.Frag} {H : Hp} {p : Addr} {kvs : List (Key × V)} {o : HO} {v : V} {d : PyData} (hp : H p = some (.dK kvs)) (r : Dp K H v d) : Dp K (upd H p o) v d := by
  have s : @Sl sjT K H [some v] [some d] := sl_of rfl fun i d h => by
    match i, h with
    | 0, h => cases h; exact ⟨_, rfl, r⟩
    | i + 1, h => cases h
  obtain ⟨v', h1, h2⟩ := (s.dict (o := o) hp).2 0 d rfl
  cases h1
  exact h2
theorem dps_dict {K : PySem.W.Frag} {H : Hp} {p : Addr} {kvs : List (Key × V)} {o : HO} (hp : H p = some (.dK kvs)) : ∀ {ds : List PyData} {vs : List V}, DpAll K H vs ds → DpAll K (upd H p o) vs ds
  | [], _, .nil => .nil
  | _ :: _, _, .cons a b => .cons (dp_dict hp a) (dps_dict hp b)
theorem ix_tupK {X : Cx} {K : PySem.W.Frag} (h : X.K = K) : IxR X (rIxT K) := h ▸ ix_tup
theorem call_lenK {X : Cx} {K : PySem.W.Frag} (h : X.K = K) : CallR X (.builtin "len") (fun xs H Q => ∃ p ys, xs = [.ref p] ∧ (SqL K H p ys ∨ SqT K H p ys) ∧ Q (.int ys.length) H) := h ▸ call_len_seq
def LdPost (K : PySem.W.Frag) (H H' : Hp) (l : List Rw) (im : Addr) : Prop := ∃ (r c cdx cd wd : Addr) (vst vhp wv : V) (xs : List V),
  H' im = some (.dK [(.inr "rows", .ref r), (.inr "cells", .ref c), (.inr "words", .ref wd), (.inr "stack", vst), (.inr "heap", vhp)]) ∧ H' r = some (.dK (kvsOf 0 xs)) ∧ DpAll K H' xs (l.map Rw.d) ∧ CAt K H' c cdx cd [(16, .mk 3 4 3 0 .sl)] ∧
  H' wd = some (.dK [(.inr "a", wv)]) ∧ Dp K H' wv (wordT (pSize l.length)) ∧ Dp K H' vst (.tuple [.int 24, .int 88]) ∧ Dp K H' vhp (.tuple [.int 96, .int 4096]) ∧ r ≠ cd ∧ wd ≠ cd ∧ im ≠ cd ∧ H r = none ∧ H c = none ∧ H cd = none ∧ H wd = none
def spLd (K : PySem.W.Frag) : Sp := fun vs H Q _ => ∃ (l : List Rw), DpAll K H vs [.list [compD l], .int 64] ∧ (∀ r ∈ l, r.ok) ∧ 1 ≤ l.length ∧ l.length ≤ 64 ∧ ∀ im H', Ex H H' → LdPost K H H' l im → Q (.ref im) H'
section
variable {P : Program} {w : World} {K : PySem.W.Frag} {mg : Str → Option Value} {base : Heap}
theorem fn_loaded (T : Tx P w K mg base) : ∃ (f : Addr) (fd : FuncData), FnOk P w K mg base CX0 10 f fd ["compartments", "stack"] (spLd K) ∧ mg "loaded" = some (.ref f) ∧ PySem.W.keepIn K (.ref f) = true ∧ KBn K fd ["compartments", "stack"] 1 ["stack"] (fun us ws => us ++ ws) (fun us ws => us ++ ws) := by
  obtain ⟨fd, F⟩ := fd_loaded T
  refine ⟨_, fd, F.ok sc_loaded (fun vs H Q E h => ?_) (fun cdv A outer s H vs Q E hr h => ?_), gl_loaded T, F.kp, ⟨fun s us ws X l1 l2 => ?_, fun r1 r2 => r1.append r2⟩⟩
  · obtain ⟨l, r, _⟩ := h
    exact dpa_len r
  · obtain ⟨l, r, hk, h1, h2, q⟩ := h
    have s0 : @Sl sjT K H (L2.start ["compartments", "stack", "rooms", "own_rooms", "words", "low", "high", "rows", "first", "last", "one", "heap", "cells", "place", "row"] vs) (([.list [compD l], .int 64] : List PyData).map some ++ List.replicate 13 none) := sl_start trivial r 13 (by rw [dpa_len r]; rfl)
    cases r with
    | @cons v0 _ _ _ r0 r =>
    cases r with
    | @cons v1 _ _ _ r1 r =>
    cases r
    obtain ⟨nl, xs, rfl, hn, rx⟩ := dp_lst r0
    cases rx with
    | @cons c0 _ _ _ rc rn =>
    cases rn
    letI J : SJ := sjT
    show wB (cxOf CX0 P w K mg base ["compartments", "stack", "rooms", "own_rooms", "words", "low", "high", "rows", "first", "last", "one", "heap", "cells", "place", "row"] "loaded" (defScope t_loaded) (He.fAd K d_loaded.at_) cdv A outer s H E) (defBody t_loaded) _ [some (.ref nl), some v1, none, none, none, none, none, none, none, none, none, none, none, none, none] H
    refine wb_nox ?_
    refine wb_exprD s0 (ed_call (pf_look_at_compartments T) (hr.mono (by decide)) (ad_cons (ed_var 0) ad_nil) (⟨l, hk, h1, h2, rfl, rfl⟩)) fun H1 e1 => ?_
    refine wb_iff (s0.ex e1) (td_is (td_not (td_val (ed_call (pf_is_from T) (hr.mono (by decide)) (ad_cons (ed_var 1) (ad_cons ed_int (ad_cons (ed_glob (c_MOST_STACK T)) ad_nil))) (⟨_, _, _, rfl, rfl⟩)))) rfl) fun H2 e2 => ?_
    have s2 := (s0.ex e1).ex e2
    have hz1 : (1 : Int) ≤ (l.length : Nat) := by omega
    have hz2 : ((l.length : Nat) : Int) ≤ 4096 := by omega
    refine wb_set 2 sc_loaded.nd (we_fg (fn_places T) (hr.mono (by decide)) (wa_ad (ds := [.list [.int l.length], .int 0]) (ad_cons (EL.ed (el_is (el_lc (items := [compD l]) (own := [("one", 10)]) (p := fun _ => true) (out := fun _ => .int l.length) (fun d => ([some (.list [compD l]), some (.int 64), none, none, none, none, none, none, none, none, none, none, none, none, none] : Dl).set 10 (some d)) rfl sc_loaded.nd (id_list (ed_var 0)) (blkOk_by (by rfl)) (fun _ _ _ _ _ => pg_name sc_loaded.nd rfl (.inl rfl)) (fun d hd => gw_name 10) (fun _ _ _ _ _ => pts_nil) (fun d hd σ H s Q q => q H (Ex.refl H)) (fun _ _ _ _ _ => pe_callB (call_lenK (K := K) rfl) rfl (fr_len T) boot_len (pa_cons (pe_ix (ix_tupK (K := K) rfl) (pv 10) pe_int (fun _ _ => rfl)) pa_nil)) (fun d hd hp σ H s Q q => ?_) (fun d hd hp => rfl) (Nat.le_of_ble_eq_true rfl)) rfl)) (ad_cons ed_int ad_nil)) s2 fun vs3 H3 e3 r3 => ?_))
    · cases List.mem_singleton.mp hd
      obtain ⟨v, hv, rv⟩ := s.2 10 _ rfl
      obtain ⟨t, ys, rfl, ht, rys⟩ := dp_tup rv
      cases rys with
      | cons ra rys =>
      cases rys with
      | cons rb rys =>
      cases rys with
      | cons rc rys =>
      cases rys with
      | cons rd rys =>
      cases rys with
      | cons re rys =>
      cases rys
      obtain ⟨b, zs, rfl, hb, rz⟩ := dp_lst rb
      refine ⟨_, hv, t, _, 1, _, rfl, rfl, ht, rfl, b, zs, rfl, .inl hb, q _ _ (Ex.refl _) ?_⟩
      rw [dpa_len rz, List.length_map]
      exact .int _
    refine ⟨_, _, (by rw [List.append_nil]; exact r3), ⟨l.length, 0, rfl, hz1, hz2, by decide, by decide, rfl⟩, fun l2 xs2 H4 hn2 e4 hq2 rx2 => ?_⟩
    rw [pLow0, Int.zero_add] at rx2
    have s4 := ((s2.ex e3).ex e4).set (i := 2) (v := .ref l2) (d := .list [.tuple [.int 0, .int (pSize l.length)]]) (.lst (SqL.of hq2) rx2) trivial
    refine wb_set 3 sc_loaded.nd (we_fg (fn_places T) (hr.mono (by decide)) (wa_ad (ds := [.list [.int 8], .int 16]) (ad_cons (EL.ed (el_is (el_lc (items := [compD l]) (own := [("one", 10)]) (p := fun _ => true) (out := fun _ => .int 8) (fun d => ([some (.list [compD l]), some (.int 64), some (.list [.tuple [.int 0, .int (pSize l.length)]]), none, none, none, none, none, none, none, none, none, none, none, none] : Dl).set 10 (some d)) rfl sc_loaded.nd (id_list (ed_var 0)) (blkOk_by (by rfl)) (fun _ _ _ _ _ => pg_name sc_loaded.nd rfl (.inl rfl)) (fun d hd => gw_name 10) (fun _ _ _ _ _ => pts_nil) (fun d hd σ H s Q q => q H (Ex.refl H)) (fun _ _ _ _ _ => pe_ix (ix_tupK (K := K) rfl) (pv 10) pe_int (fun _ _ => rfl)) (fun d hd hp σ H s Q q => ?_) (fun d hd hp => rfl) (Nat.le_of_ble_eq_true rfl)) rfl)) (ad_cons (ed_glob (c_FIRST_CELL T)) ad_nil)) s4 fun vs5 H5 e5 r5 => ?_))
    · cases List.mem_singleton.mp hd
      obtain ⟨v, hv, rv⟩ := s.2 10 _ rfl
      obtain ⟨t, ys, rfl, ht, rys⟩ := dp_tup rv
      cases rys with
      | cons ra rys =>
      cases rys with
      | cons rb rys =>
      cases rys with
      | cons rc rys =>
      cases rys with
      | cons rd rys =>
      cases rys with
      | cons re rys =>
      cases rys
      exact ⟨_, hv, t, _, 3, _, rfl, rfl, ht, rfl, q _ _ (Ex.refl _) rd⟩
    refine ⟨_, _, (by rw [List.append_nil]; exact r5), ⟨8, 16, rfl, by decide, by decide, by decide, by decide, rfl⟩, fun l3 xs3 H6 hn3 e6 hq3 rx3 => ?_⟩
    have eb1 : pLow 24 64 = 24 := by decide +kernel
    have eb2 : pSize 64 = 64 := by decide +kernel
    have ea1 : pLow 16 8 = 16 := by decide +kernel
    have ea2 : pSize 8 = 8 := by decide +kernel
    rw [ea1, ea2] at rx3
    have s6 := ((s4.ex e5).ex e6).set (i := 3) (v := .ref l3) (d := .list [.tuple [.int 16, .int 24]]) (.lst (SqL.of hq3) rx3) trivial
    refine wb_set 4 sc_loaded.nd (we_fg (fn_words T) (hr.mono (by decide)) (wa_ad (ad_cons (ed_var 0) (ad_cons (ed_var 2) (ad_cons (ed_var 3) ad_nil))) s6 fun vs7 H7 e7 r7 => ?_))
    refine ⟨pSize l.length, l, (by rw [List.append_nil]; exact r7), ⟨exact_size (by omega) hz2, by decide, by decide, by decide, by decide, by decide, by decide⟩, fun wd wv H8 e8 hwd0 hwd rwv => ?_⟩
    have s8 := ((s6.ex e7).ex e8).skip (i := 4) (y := some (.ref wd)) rfl trivial
    have hpl : R_placed [.int 24, .int 64] (.tuple [.int 24, .int 88]) := ⟨24, 64, rfl, by decide, by decide, by decide, by decide, by rw [eb1, eb2]; rfl⟩
    refine wb_pairD 5 6 rfl sc_loaded.nd s8 (d1 := .int 24) (d2 := .int 88) (ed_call (pf_placed T) (hr.mono (by decide)) (ad_cons (ed_ixT (ed_ixL (ed_var 3) (ed_neg ed_int)) ed_int) (ad_cons (ed_var 1) ad_nil)) (hpl)) fun v5 v6 H9 e9 r5' r6' s9 => ?_
    refine wb_set 7 sc_loaded.nd (we_of pe_dnewK fun r hr0 => ?_)
    have e10 : Ex H9 (upd H9 r (.dK [])) := Ex.new hr0
    have s10 := (s9.ex e10).skip (i := 7) (y := some (.ref r)) rfl trivial
    have hq2' := Evl.ex_l (((((e5.trans e6).trans e7).trans e8).trans e9).trans e10) (SqL.of (K := K) hq2)
    have hn' := Evl.ex_l ((((((((e1.trans e2).trans e3).trans e4).trans ((e5.trans e6).trans e7)).trans e8).trans e9).trans e10)) hn
    cases rx2 with
    | @cons p0 _ _ _ rp rpn =>
    cases rpn
    have rp' := dp_ex ((((((e5.trans e6).trans e7).trans e8).trans e9).trans e10)) _ _ rp
    have rc' := dp_ex ((((((((e1.trans e2).trans e3).trans e4).trans ((e5.trans e6).trans e7)).trans e8).trans e9).trans e10)) _ _ rc
    refine wb_cons (ws_of (ps_for PassesOwn.never rfl (pi_zip rfl (fr_zip T) (pa_cons (pv 2) (pa_cons (pv 0) pa_nil))) (pg_tup rfl (pgs_cons (pg_tup rfl (pgs_cons (pg_name (i := 8) sc_loaded.nd rfl (.inr rfl)) (pgs_cons (pg_name (i := 9) sc_loaded.nd rfl (.inl rfl)) pgs_nil))) (pgs_cons (pg_name (i := 10) sc_loaded.nd rfl (.inl rfl)) pgs_nil))) pB) ⟨_, rfl, _, rfl, l2, nl, _, _, rfl, hq2', hn', ?_⟩)
    refine one_turn (B := fun _ _ => True) ⟨_, _, _, _, hq2', hn', rfl, rfl⟩ fun x H11 hy => ?_
    obtain ⟨T1, x1, y1, rfl, hT, rfl, hx1, hy1⟩ := hy
    have ex1 : p0 = x1 := by simpa using hx1 _ hq2'
    have ey1 : c0 = y1 := by simpa using hy1 _ hn'
    subst ex1 ey1
    have e11 : Ex (upd H9 r (.dK [])) (upd (upd H9 r (.dK [])) T1 (.tup [p0, c0])) := Ex.new hT
    obtain ⟨tp, ps, rfl, hps, rps⟩ := dp_tup rp'
    cases rps with
    | cons rp1 rps =>
    cases rps with
    | cons rp2 rps =>
    cases rps
    have ev := dp_int rp1
    subst ev
    have ev := dp_int rp2
    subst ev
    refine ⟨T1, _, rfl, SqT.of upd_same, rfl, _, _, rfl, tp, _, rfl, Evl.ex_t e11 hps, rfl, _, _, rfl, _, _, rfl, rfl, _, _, rfl, rfl, ?_⟩
    have s11 := (((s10.ex e11).set (i := 8) (v := .int 0) (.int _) trivial).set (i := 9) (v := .int (pSize l.length)) (.int _) trivial).set (i := 10) (dp_ex e11 _ _ rc') trivial
    refine wb_one (ws_of (ps_expr (pe_dupd (pv 7) pE ⟨rfl, rfl, rfl, rfl⟩)) ?_)
    refine ⟨_, rfl, r, rfl, ?_, we_rowsD T h2 s11 rfl rfl rfl fun D xs H12 e12 hD0 hD rxs => ?_⟩
    · exact .inl ⟨[], .inl (e11 _ _ upd_same)⟩
    have hr12 : H12 r = some (.dK []) := e12 _ _ (e11 _ _ upd_same)
    have hne : r ≠ D := fun z => by
      have := e11 _ _ (upd_same (H := H9) (a := r) (o := .dK []))
      rw [← z] at hD0
      rw [hD0] at this
      cases this
    have hxl : xs.length ≤ 64 := by rw [dpa_len rxs, List.length_map]; exact h2
    refine ⟨D, [], _, rfl, hr12, hD, hne, by rw [kvs_len, List.length_nil, Nat.zero_add]; exact Nat.le_trans hxl (by decide), ?_⟩
    have hm : mergeK [] (kvsOf 0 xs) = kvsOf 0 xs := kvs_merge xs [] 0
    rw [hm]
    refine ⟨⟨_, _, sqL_dict (Evl.ex_l (e11.trans e12) hq2') hr12, sqL_dict (Evl.ex_l (e11.trans e12) hn') hr12, .inl (Nat.le_refl _)⟩, ?_⟩
    have s13 := Sl.dict (o := .dK (kvsOf 0 xs)) (s11.ex e12) hr12
    have rx13 := dps_dict (o := .dK (kvsOf 0 xs)) hr12 rxs
    have e913 : Ex H9 (upd H12 r (.dK (kvsOf 0 xs))) := ((e10.trans e11).trans e12).mut hr0
    have hwd13 := e913 _ _ (e9 _ _ hwd)
    refine wb_setD 11 sc_loaded.nd s13 (d := .tuple [.int 96, .int 4096]) (ed_is (ed_tup (ad_cons (ed_shl (ed_neg (ed_shr (ed_neg (ed_var 6)) (ed_glob (c_HEAP_STEP T)) ((by decide)))) (ed_glob (c_HEAP_STEP T)) (⟨by decide, by decide, by decide +kernel⟩)) (ad_cons (ed_glob (c_CELLS T)) ad_nil))) rfl) fun v11 H14 e14 r14 s14 => ?_
    refine wb_set 12 sc_loaded.nd (we_fg (fn_cells_of T) (hr.mono (by decide)) (wa_of (pa_cons (pv 0) (pa_cons (pv 2) (pa_cons (pv 3) (pa_cons (pv 4) pa_nil)))) ⟨_, rfl, _, rfl, _, rfl, _, rfl, ?_⟩))
    refine ⟨pSize l.length, l, _, _, _, wv, wd, rfl, ?_, ?_, ?_, ?_, fun c cdx cd H15 e15 hc hcd hcc C15 => ?_⟩
    · exact dp_ex e14 _ _ (dp_dict hr12 (dp_ex ((((((((((e1.trans e2).trans e3).trans e4).trans ((e5.trans e6).trans e7)).trans e8).trans e9).trans e10).trans e11).trans e12)) _ _ r0))
    · exact dp_ex e14 _ _ (dp_dict hr12 (dp_ex (((((e7.trans e8).trans e9).trans e10).trans e11).trans e12) _ _ (.lst (SqL.of hq3) rx3)))
    · exact e14 _ _ hwd13
    · exact dp_ex (e913.trans e14) _ _ (dp_ex e9 _ _ rwv)
    have s15 := (s14.ex e15).skip (i := 12) (y := some (.ref c)) rfl trivial
    refine wb_one (ws_ret (we_of (pe_disp (pps_cons pe_str (pv 7) (pps_cons pe_str (pv 12) (pps_cons pe_str (pv 4) (pps_cons pe_str (pe_tup (pa_cons (pv 5) (pa_cons (pv 6) pa_nil))) (pps_cons pe_str (pv 11) pps_nil))))) rfl rfl (by simp) (by decide)) fun p hp => ?_))
    have ep : Ex H15 (upd H15 p (.dK [])) := Ex.new hp
    refine ⟨_, rfl, _, rfl, _, rfl, _, rfl, _, rfl, Nat.le_of_ble_eq_true rfl, fun t ht => ⟨_, rfl, ?_⟩⟩
    have et : Ex (upd H15 p (.dK [])) (upd (upd H15 p (.dK [])) t (.tup [v5, v6])) := Ex.new ht
    have hpt : upd (upd H15 p (.dK [])) t (.tup [v5, v6]) p = some (.dK []) := et _ _ upd_same
    refine ⟨hpt, [(.inr "rows", .ref r), (.inr "cells", .ref c), (.inr "words", .ref wd), (.inr "stack", .ref t), (.inr "heap", v11)], rfl, Nat.le_of_ble_eq_true rfl, ?_⟩
    have ef : Ex H15 (upd (upd (upd H15 p (.dK [])) t (.tup [v5, v6])) p (.dK (mergeK [] [(.inr "rows", .ref r), (.inr "cells", .ref c), (.inr "words", .ref wd), (.inr "stack", .ref t), (.inr "heap", v11)]))) := (ep.trans et).mut hp
    have e09 : Ex H H9 := (((((e1.trans e2).trans e3).trans e4).trans ((e5.trans e6).trans e7)).trans e8).trans e9
    have e013 : Ex H (upd H12 r (.dK (kvsOf 0 xs))) := e09.trans e913
    have e015 : Ex H H15 := (e013.trans e14).trans e15
    have hr15 : H15 r = some (.dK (kvsOf 0 xs)) := e15 _ _ (e14 _ _ upd_same)
    have hwd15 := e15 _ _ (e14 _ _ hwd13)
    obtain ⟨kc, hkc, _⟩ := C15.clk
    have nir : ∀ {b : Addr} {o : HO}, H15 b = some o → p ≠ b := fun h z => by rw [← z, hp] at h; cases h
    refine q p _ (e015.trans ef) ⟨r, c, cdx, cd, wd, .ref t, v11, wv, xs, ?_, ef _ _ hr15, dps_ex ((e14.trans e15).trans ef) _ _ rx13, C15.ex ef, ef _ _ hwd15, dp_ex ((e913.trans (e14.trans e15)).trans ef) _ _ (dp_ex e9 _ _ rwv), ?_, dp_ex (e15.trans ef) _ _ r14, ?_, ?_, ?_, ?_, ?_, ?_, ?_⟩
    · rw [upd_same, merge5]
    · refine dp_dict hpt (.tup (SqT.of upd_same) (.cons ?_ (.cons ?_ .nil)))
      · exact dp_ex (((e913.trans (e14.trans e15)).trans ep).trans et) _ _ r5'
      · exact dp_ex (((e913.trans (e14.trans e15)).trans ep).trans et) _ _ r6'
    · intro z
      have h := e14 _ _ (upd_same (H := H12) (a := r) (o := .dK (kvsOf 0 xs)))
      rw [z, hcd] at h
      cases h
    · intro z
      have h := e14 _ _ hwd13
      rw [z, hcd] at h
      cases h
    · exact nir hkc
    · exact Evl.fresh_back e09 hr0
    · exact Evl.fresh_back (e013.trans e14) hc
    · exact Evl.fresh_back (e013.trans e14) hcd
    · exact Evl.fresh_back ((((e1.trans e2).trans e3).trans e4).trans ((e5.trans e6).trans e7)) hwd0
  · obtain ⟨oc, od, dV, kV, doc, pm, an, cdv, ct, osl, rfl, lk, hcd, hD, hK⟩ := F.ex
    rcases hD with ⟨_, rfl⟩ | ⟨e, _⟩
    · exact BindsTo.of_eq (match us, ws, l1, l2 with | [_], [_], _, _ => rfl)
    · exact absurd rfl e
end
end Sr

set_option Elab.async false
set_option linter.all false
set_option maxRecDepth 100000
set_option maxHeartbeats 4000000
/-! No hands. -/
namespace Sr
open PySem PySem.Spec PyProof.Rows L2
open Evl (Ex)
section
variable {P : Program} {w : World} {K : PySem.W.Frag} {mg : Str → Option Value} {base : Heap}
def spTH : Sp := fun vs H Q _ => ∃ (s d : Addr) (vb : V), vs = [.ref s, .ref d, vb] ∧ H d = some (.dK []) ∧ Q .non H
theorem sc_Machine_take_hands : FnScope ["self", "hands", "barred", "box", "word", "low", "high"] ["self", "hands", "barred"] (defScope t_Machine_take_hands) := ⟨rfl, rfl, rfl, by decide +kernel, rfl, by decide +kernel, by decide +kernel⟩
theorem upd_back {H : Hp} {d : Addr} {u o : HO} (h : H d = some u) : upd (upd H d o) d u = H := by
  funext x
  by_cases e : x = d
  · rw [e, upd_same, h]
  · rw [upd_ne e, upd_ne e]
/-- for a, b in d.items(), d empty -/
theorem wb_items0 {X : Cx} {D : Ends} {σ : L2.St} {H : Hp} {sts body : List Stmt} {e : Expr} {apos cpos pos tp pa pb : Pos} {kk : Nat} {d : Addr} {x y : Str} (i j : Nat) (hp : PassesOwn (model X.prog X.w) X.A X.env X.xe) (hc : X.calm = true) (hN : X.N.Nodup)
    (ho : ∀ H1, ∀ Q : VK, Q (.ref d) H1 → wE X e σ H1 Q) (hd : H d = some (.dK [])) (h : wB X sts D σ H)
    (hi : X.N[i]? = some x := by rfl) (hj : X.N[j]? = some y := by rfl) (hx : Loc X.env.scope x := by first | exact Or.inl rfl | exact Or.inr rfl) (hy : Loc X.env.scope y := by first | exact Or.inl rfl | exact Or.inr rfl)
    (hf : X.fn x = true ∨ X.env.scope.names.lookup x = some .local := by first | exact .inl rfl | exact .inr rfl) (hf2 : X.fn y = true ∨ X.env.scope.names.lookup y = some .local := by first | exact .inl rfl | exact .inr rfl)
    (hbase : attributeBase e "items" X.env (eval e X.env) = eval e X.env := by rfl) (hline : (apos.endLine == cpos.line) = true := by rfl)
    (hset : ∀ x, foldedSetIterable (.Call (.Attribute e "items" apos) [] [] cpos) X.env x = pure x := by intro _; rfl)
    (hst : (assignEach [.Name x pa, .Name y pb] X.env).findIdx? (·.1) = none := by rfl) (hlen : (assignEach [.Name x pa, .Name y pb] X.env).length = 2 := by rfl) (ha1 : (assignEach [.Name x pa, .Name y pb] X.env).map (·.2) = assign (.Name x pa) X.env :: (assignEach [.Name y pb] X.env).map (·.2) := by rfl) (ha2 : (assignEach [.Name y pb] X.env).map (·.2) = assign (.Name y pb) X.env :: (assignEach [] X.env).map (·.2) := by rfl) :
    wB X (.For (.Tuple [.Name x pa, .Name y pb] kk tp) (.Call (.Attribute e "items" apos) [] [] cpos) body [] pos :: sts) D σ H :=
  wb_cons (ws_of (ps_lock (ps_for hp hc (pi_items pE hbase hline) (pg_tup hc (pgs_cons (pg_name (i := i) hN hi hx hf) (pgs_cons (pg_name (i := j) hN hj hy hf2) pgs_nil ha2) ha1) hlen hst) pB hset)) ⟨d, _, hd, True.intro, fun od =>
    ho _ _ ⟨d, od, [], rfl, upd_same, no_turn ⟨upd_same, Nat.le_refl _⟩ ⟨upd_same, by rw [upd_back hd]; exact h⟩⟩⟩)
theorem fn_take_hands (T : Tx P w K mg base) : ∃ fd, FnOk P w K mg base CX0 2 (He.ma K (He.ga K "Machine") "take_hands") fd ["self", "hands", "barred"] spTH ∧ Binds K fd ["self", "hands", "barred"] [] := by
  obtain ⟨fd, F⟩ := fd_Machine_take_hands T
  refine ⟨fd, F.ok sc_Machine_take_hands (fun vs H Q E h => by obtain ⟨x, d, vb, rfl, _⟩ := h; rfl) (fun cdv A outer s H vs Q E hr h => ?_), F.bindsN fun _ _ _ _ _ _ us hl => match us, hl with | [_, _, _], _ => rfl⟩
  obtain ⟨x, d, vb, rfl, hd, q⟩ := h
  show wB (cxOf CX0 P w K mg base ["self", "hands", "barred", "box", "word", "low", "high"] "Machine.take_hands" (defScope t_Machine_take_hands) (He.fAd K d_Machine_take_hands.at_) cdv A outer s H E) (defBody t_Machine_take_hands) _ _ _
  refine wb_nox ?_
  refine wb_cons (ws_if (wt_of (pt_not (pt_val (pe_callB call_isi rfl (fr_isinstance T) (by decide +kernel) (pa_cons (pv 1) (pa_cons (pe_bltn (v := .ty "dict") rfl (fr_dict T) bt_dict rfl (by decide) (by decide)) pa_nil))))) ⟨_, rfl, _, _, .type "dict", .type "dict", true, rfl, .ty _, .base (.dK hd), kit_ty (by decide +kernel), true, rfl, ?_⟩))
  refine wb_nil ?_
  refine wb_items0 3 4 PassesOwn.never rfl sc_Machine_take_hands.nd (fun H1 Q q => we_var 1 rfl q) hd ?_
  refine wb_items0 3 4 PassesOwn.never rfl sc_Machine_take_hands.nd (fun H1 Q q => we_var 1 rfl q) hd ?_
  exact wb_nil q
end
end Sr

set_option Elab.async false
set_option linter.all false
set_option maxRecDepth 100000
set_option maxHeartbeats 4000000
/-! A machine is made. -/
namespace Sr
open PySem PySem.Spec PyProof.Rows L2
open Evl (Ex)
def m0 (l : List Rw) : Ms := { rows := l.map Rw.d, size := pSize l.length, boxes := [.pl 0, .pl 0, .pl 0, .pl 0, .pl 0, .pl 0, .mk 24 88 88 0 .stk, .mk 16 24 16 0 .cell], row := .mk 0 (pSize l.length) 0 0 .fx, cells := [(16, .mk 3 4 3 0 .sl)], many := 0, out := false }
theorem cut_more {S : List Addr} {H : Hp} {b : Addr} {o : HO} (h : H b = none) : Ex (cut S H) (cut (b :: S) (upd H b o)) := fun a q z => by
  obtain ⟨h1, h2⟩ := cut_some z
  have ne : a ≠ b := fun e => by rw [e, h] at h2; cases h2
  rw [cut_at (by simp [ne, h1]), upd_ne ne]
  exact h2
theorem dps_cut1 {K : PySem.W.Frag} {H : Hp} {x : Addr} {o : HO} (hx : H x = some o) (h1 : ∀ xs, o ≠ .tup xs) (h3 : ∀ ob z, o ≠ .frz ob z) {d : PyData} {v : V} (ht : tupOnly d = true) (r : Dp K H v d) : Dp K (cut [x] H) v d :=
  dp_cutB (fun b hb xs z => by
    rw [List.mem_singleton.mp hb] at z
    rcases z with z | ⟨ob, z⟩ <;> rw [hx] at z <;> injection z with z
    · exact h1 _ z
    · exact h3 _ _ z) _ _ ht r
section
variable {X : Cx} {σ : L2.St} {H : Hp} {D : Ends} {sts : List Stmt} {e : Expr} {pos pos' p : Pos} {f y : Str} {x dx : Addr} {fs : List (Str × V)}
/-- self.f = e while the machine is made; G: what stays -/
theorem wb_own {C : Addr} {S : List Addr} {G : Hp} (cl : Cls X.K C) (no : NoAttr X.K C f) (hx : x ∈ S) (h0 : σ[0]? = some (some (.ref x))) (hl : fs.length < 1000) (hH : H x = some (.ins C dx fs)) (eG : Ex G (cut S H))
    (h : wE X e σ H fun v H1 => Ex H H1 ∧ ∀ H2, H2 x = some (.ins C dx (putF f v fs)) → Ex G (cut S H2) → Ex (cut S H1) (cut S H2) → wB X sts D σ H2)
    (hN : X.N[0]? = some y := by rfl) (hv : Vis X.env.scope y := by first | exact Or.inl rfl | exact Or.inr (Or.inl rfl) | exact Or.inr (Or.inr rfl)) (hd : (y == ("__debug__" : Str)) = false := by decide) (hcd : (y == ("__classdict__" : Str)) = false := by decide)
    (hs : swapsWith e (some (.Attribute (.Name y p) f pos')) pos.line X.env = pure false := by rfl) : wB X (.Assign [.Attribute (.Name y p) f pos'] e pos :: sts) D σ H :=
  wb_fld (sx := x) (fun H1 Q q => we_var 0 h0 q hN hv hd hcd) (we_mono h fun v H1 ⟨e1, q⟩ => ⟨C, dx, fs, e1 _ _ hH, cl, no, hl, by
    have hc : cut S (upd H1 x (.ins C dx (putF f v fs))) = cut S H1 := cut_upd hx
    exact q _ upd_same (by rw [hc]; exact eG.trans (cut_ex e1)) (by rw [hc]; exact Ex.refl _)⟩) hs
theorem wb_ownA {C : Addr} (cl : Cls X.K C) (no : NoAttr X.K C f) (h0 : σ[0]? = some (some (.ref x))) (hH : H x = some (.ins C dx fs)) (hl : fs.length < 1000)
    (h : wE X e σ H fun v H1 => H1 x = some (.ins C dx fs) ∧ ∀ H2, H2 x = some (.ins C dx (putF f v fs)) → (∀ b, b ≠ x → H2 b = H1 b) → (∀ S, x ∈ S → cut S H2 = cut S H1) → wB X sts D σ H2)
    (hN : X.N[0]? = some y := by rfl) (hv : Vis X.env.scope y := by first | exact Or.inl rfl | exact Or.inr (Or.inl rfl) | exact Or.inr (Or.inr rfl)) (hd : (y == ("__debug__" : Str)) = false := by decide) (hcd : (y == ("__classdict__" : Str)) = false := by decide)
    (hs : swapsWith e (some (.Attribute (.Name y p) f pos')) pos.line X.env = pure false := by rfl) : wB X (.Assign [.Attribute (.Name y p) f pos'] e pos :: sts) D σ H :=
  wb_fld (sx := x) (fun H1 Q q => we_var 0 h0 q hN hv hd hcd) (we_mono h fun v H1 ⟨e1, q⟩ => ⟨C, dx, fs, e1, cl, no, hl, q _ upd_same (fun b hb => upd_ne hb) (fun S hS => cut_upd hS)⟩) hs
end
section
variable {P : Program} {w : World} {K : PySem.W.Frag} {mg : Str → Option Value} {base : Heap}
def spMI (K : PySem.W.Frag) : Sp := fun vs H Q _ => ∃ (x dx : Addr) (l : List Rw) (vc vb : V), vs = [.ref x, vc, vb, .int 64, .non, .non] ∧ H x = some (.ins (cM K) dx []) ∧ Dp K H vc (.list [compD l]) ∧ Dp K H vb (.str "a") ∧ (∀ r ∈ l, r.ok) ∧ 1 ≤ l.length ∧ l.length ≤ 64 ∧
  ∀ A H', A.a = x → MAt K H' A (m0 l) → Ex (cut [x] H) (cut [x] H') → (∀ b ∈ A.S, b ≠ x → H b = none) → Q .non H'
theorem sc_Machine_init : FnScope ["self", "compartments", "begin", "stack", "hands", "without", "image", "low", "high", "one"] ["self", "compartments", "begin", "stack", "hands", "without"] (defScope t_Machine_init) := ⟨rfl, rfl, rfl, by decide +kernel, rfl, by decide +kernel, by decide +kernel⟩
theorem fn_Machine_init (T : Tx P w K mg base) : ∃ fd, FnOk P w K mg base CX0 11 (He.ma K (He.ga K "Machine") "__init__") fd ["self", "compartments", "begin", "stack", "hands", "without"] (spMI K) ∧ ∃ ds, Vals [.int 64, .non, .non] ds ∧ Binds K fd ["self", "compartments", "begin", "stack", "hands", "without"] ds := by
  obtain ⟨fd, F⟩ := fd_Machine_init T
  refine ⟨fd, F.ok sc_Machine_init (fun vs H Q E h => by obtain ⟨x, dx, l, vc, vb, rfl, _⟩ := h; rfl) (fun cdv Ar outer s H vs Q E hr h => ?_), ?_⟩
  · obtain ⟨x, dx, l, vc, vb, rfl, hx, rc, rb, hk, h1, h2, q⟩ := h
    letI J : SJ := sjT
    have s0 : @Sl sjT K H [some (.ref x), some vc, some vb, some (.int 64), some .non, some .non, none, none, none, none] [none, some (.list [compD l]), some (.str "a"), some (.int 64), some .none, some .none, none, none, none, none] := sl_of rfl fun i d h => by
      match i, h with
      | 0, h => cases h
      | 1, h => cases h; exact ⟨_, rfl, rc⟩
      | 2, h => cases h; exact ⟨_, rfl, rb⟩
      | 3, h => cases h; exact ⟨_, rfl, .int _⟩
      | 4, h => cases h; exact ⟨_, rfl, .non⟩
      | 5, h => cases h; exact ⟨_, rfl, .non⟩
      | 6, h => cases h
      | 7, h => cases h
      | 8, h => cases h
      | 9, h => cases h
      | i + 10, h => cases h
    show wB (cxOf CX0 P w K mg base ["self", "compartments", "begin", "stack", "hands", "without", "image", "low", "high", "one"] "Machine.__init__" (defScope t_Machine_init) (He.fAd K d_Machine_init.at_) cdv Ar outer s H E) (defBody t_Machine_init) _ [some (.ref x), some vc, some vb, some (.int 64), some .non, some .non, none, none, none, none] H
    refine wb_nox ?_
    refine wb_exprD s0 (ed_call (pf_look_at_compartments T) (hr.mono (by decide)) (ad_cons (ed_var 1) ad_nil) (⟨l, hk, h1, h2, rfl, rfl⟩)) fun H1 e1 => ?_
    refine wb_iff (s0.ex e1) (td_is (WD.t (wd_or (td_not (td_val (ed_isi (fr_isinstance T) (fr_str T) bt_str (ed_var 2) (kit_str _)))) fun hb => wd_or1 (td_ni (ed_var 2) (EL.ed (el_is (el_lc (items := [compD l]) (own := [("one", 9)]) (p := fun _ => true) (out := fun _ => .str "a") (fun d => ([none, some (.list [compD l]), some (.str "a"), some (.int 64), some .none, some .none, none, none, none, none] : Dl).set 9 (some d)) rfl sc_Machine_init.nd (id_list (ed_var 1)) (blkOk_by (by rfl)) (fun _ _ _ _ _ => pg_name sc_Machine_init.nd rfl (.inl rfl)) (fun d hd => gw_name 9) (fun _ _ _ _ _ => pts_nil) (fun d hd σ H s Q q => q H (Ex.refl H)) (fun _ _ _ _ _ => pe_ix (ix_tupK (K := K) rfl) (pv 9) pe_int (fun _ _ => rfl)) (fun d hd hp σ H s Q q => ?_) (fun d hd hp => rfl) (Nat.le_of_ble_eq_true rfl)) rfl)) (.inr rfl)))) rfl) fun H2 e2 => ?_
    · cases List.mem_singleton.mp hd
      obtain ⟨v, hv, rv⟩ := s.2 9 _ rfl
      obtain ⟨t, ys, rfl, ht, rys⟩ := dp_tup rv
      cases rys with
      | cons ra rys =>
      cases rys with
      | cons rb rys =>
      cases rys with
      | cons rc rys =>
      cases rys with
      | cons rd rys =>
      cases rys with
      | cons re rys =>
      cases rys
      exact ⟨_, hv, t, _, 0, _, rfl, rfl, ht, rfl, q _ _ (Ex.refl _) ra⟩
    have e02 := e1.trans e2
    have s2 := s0.ex e02
    obtain ⟨fL, fdL, FL, gL, kL, bL⟩ := fn_loaded T
    refine wb_set 6 sc_Machine_init.nd (we_of (pe_callN FL (hr.mono (by decide)) rfl gL kL bL pass0 (pa_cons (pv 1) pa_nil) (pk_cons (pv 3) pk_nil)) ⟨_, rfl, _, rfl, rfl, rfl, l, .cons (dp_ex e02 _ _ rc) (.cons (.int _) .nil), hk, h1, h2, fun im H3 e3 P => ?_⟩)
    have s3 := (s2.ex e3).skip (i := 6) (y := some (.ref im)) rfl trivial
    obtain ⟨r, c, cdx, cd, wd, vst, vhp, wv, xs, hIm, hR, rxs, C, hWd, rwv, rvst, rvhp, nrc, nwc, nic, fr, fc, fcd, fwd⟩ := P
    have e03 := e02.trans e3
    have hx2 := e02 _ _ hx
    have hx3 := e03 _ _ hx
    have nX : ∀ {b : Addr} {o : HO}, H3 b = some o → (∀ C d f, o ≠ .ins C d f) → b ≠ x := fun h n z => by
      rw [z, hx3] at h
      cases h
      exact n _ _ _ rfl
    have nF : ∀ {b : Addr}, H2 b = none → b ≠ x := fun h z => by
      rw [z, hx2] at h
      cases h
    have inC : ∀ {b : Addr} {o : HO}, b ≠ x → H3 b = some o → cut [x] H3 b = some o := fun n h => by
      rw [cut_at (by simpa using n)]
      exact h
    have mvd : ∀ {d : PyData} {v : V}, tupOnly d = true → Dp K H3 v d → Dp K (cut [x] H3) v d := fun ht r => dps_cut1 hx3 (fun _ z => nomatch z) (fun _ _ z => nomatch z) ht r
    have gIm := inC (nX hIm fun _ _ _ z => nomatch z) hIm
    have gR := inC (nX hR fun _ _ _ z => nomatch z) hR
    have gWd := inC (nX hWd fun _ _ _ z => nomatch z) hWd
    have gxs : DpAll K (cut [x] H3) xs (l.map Rw.d) := dps_cutT (fun b hb xs z => by
      rw [List.mem_singleton.mp hb] at z
      rcases z with z | ⟨ob, z⟩ <;> rw [hx3] at z <;> cases z) (fun d hd => by obtain ⟨r, _, rfl⟩ := List.mem_map.mp hd; exact rw_tup r) rxs
    have gwv := mvd rfl rwv
    have gst := mvd rfl rvst
    have ghp := mvd rfl rvhp
    have gC : CAt K (cut [x] H3) c cdx cd [(16, .mk 3 4 3 0 .sl)] := by
      obtain ⟨k, k1, k2⟩ := C.clk
      exact ⟨inC (nF fc) C.cls, ⟨k, inC (nX k1 fun _ _ _ z => nomatch z) k1, k2.mv fun v w r => mvd (wd_tup w) r⟩, C.few⟩
    refine wb_own (cl_Machine T) (no_Machine_rows T) (List.mem_singleton.mpr rfl) rfl (by decide) hx3 (Ex.refl _) (we_of (pe_dget (hu_of hr) (pv 6) pe_str (fun _ _ => rfl)) ⟨_, rfl, im, .ref r, rfl, DGet.k (k := .inr "rows") hIm, Ex.refl _, fun H4 x4 e4 _ => ?_⟩)
    refine wb_own (cl_Machine T) (no_Machine_cells T) (List.mem_singleton.mpr rfl) rfl (Nat.le_of_ble_eq_true rfl) x4 e4 (we_of (pe_dget (hu_of hr) (pv 6) pe_str (fun _ _ => rfl)) ⟨_, rfl, im, .ref c, rfl, DGet.k (k := .inr "cells") (cut_le _ _ (e4 _ _ gIm)), Ex.refl _, fun H5 x5 e5 _ => ?_⟩)
    refine wb_own (cl_Machine T) (no_Machine_words T) (List.mem_singleton.mpr rfl) rfl (Nat.le_of_ble_eq_true rfl) x5 e5 (we_of (pe_dget (hu_of hr) (pv 6) pe_str (fun _ _ => rfl)) ⟨_, rfl, im, .ref wd, rfl, DGet.k (k := .inr "words") (cut_le _ _ (e5 _ _ gIm)), Ex.refl _, fun H6 x6 e6 _ => ?_⟩)
    refine wb_own (cl_Machine T) (no_Machine_stack_bounds T) (List.mem_singleton.mpr rfl) rfl (Nat.le_of_ble_eq_true rfl) x6 e6 (we_of (pe_dget (hu_of hr) (pv 6) pe_str (fun _ _ => rfl)) ⟨_, rfl, im, vst, rfl, DGet.k (k := .inr "stack") (cut_le _ _ (e6 _ _ gIm)), Ex.refl _, fun H7 x7 e7 _ => ?_⟩)
    obtain ⟨th, hs, rfl, hth, rhs⟩ := dp_tup (dp_ex (e7.trans cut_le) _ _ ghp)
    cases rhs with
    | cons rh1 rhs =>
    cases rhs with
    | cons rh2 rhs =>
    cases rhs
    refine wb_own (cl_Machine T) (no_Machine_heap T) (List.mem_singleton.mpr rfl) rfl (Nat.le_of_ble_eq_true rfl) x7 e7 (we_heap T (hr.mono (by decide)) (wa_of (pa_cons (pe_ix ix_tup (pe_dget (hu_of hr) (pv 6) pe_str (fun _ _ => rfl)) pe_int (fun _ _ => rfl)) (pa_cons (pe_ix ix_tup (pe_dget (hu_of hr) (pv 6) pe_str (fun _ _ => rfl)) pe_int (fun _ _ => rfl)) pa_nil)) ?_))
    refine ⟨_, rfl, im, .ref th, rfl, DGet.k (k := .inr "heap") (cut_le _ _ (e7 _ _ gIm)), th, _, 0, _, rfl, rfl, hth, rfl, _, rfl, im, .ref th, rfl, DGet.k (k := .inr "heap") (cut_le _ _ (e7 _ _ gIm)), th, _, 1, _, rfl, rfl, hth, rfl, ⟨_, _, rfl⟩, fun hp hdx hfs H8 e78 nhp hhp hls => ⟨e78, fun H9 x9 e9 e89 => ?_⟩⟩
    have hpx : hp ≠ x := fun z => by rw [z, x7] at nhp; cases nhp
    have gHp : cut [x] H9 hp = some (.ins (cH K) hdx hfs) := e89 _ _ (by rw [cut_at (by simpa using hpx)]; exact hhp)
    obtain ⟨uN, vN, hmN, rvN, dpN⟩ := (c_NOTHING T).ex
    obtain ⟨u8, v8, hm8, rv8, dp8⟩ := (c_BOXES_machine T).ex
    have ev8 := dp_int (dp8 H9)
    subst ev8
    have evb := dp_str rb
    subst evb
    have g9 : Ex (cut [x] H3) (cut [x] H9) := e9
    refine wb_ownA (cl_Machine T) (no_Machine_own_boxes T) rfl x9 (Nat.le_of_ble_eq_true rfl) (we_of (pe_op op_rep (pe_lst (pa_cons (pe_glob rfl hmN rvN) pa_nil)) (pe_glob rfl hm8 rv8)) ⟨Nat.le_of_ble_eq_true rfl, fun l0 hl0 => ⟨l0, 8, [vN], rfl, rfl, upd_same, by decide, by decide, Nat.le_of_ble_eq_true rfl, fun bx hbx0 => ?_⟩⟩)
    have hxl := (Ex.new (o := .lst [vN]) hl0) _ _ x9
    have nbx : bx ≠ x := fun z => by rw [z, hxl] at hbx0; cases hbx0
    refine ⟨by rw [upd_ne (Ne.symm nbx)]; exact hxl, fun H12 x12 k12 c12 => ?_⟩
    have hS : x ∈ [bx, x] := List.mem_cons_of_mem _ (List.mem_singleton.mpr rfl)
    have eB : Ex (cut [x] H9) (cut [bx, x] H12) := by
      rw [c12 _ hS]
      exact (cut_ex (Ex.new hl0)).trans (cut_more hbx0)
    have b12 : H12 bx = some (.lst [vN, vN, vN, vN, vN, vN, vN, vN]) := by
      rw [k12 _ nbx]
      exact upd_same
    have e12 := g9.trans eB
    have hp12 := eB _ _ gHp
    have sN : ∀ H, @Sl sjT K H ([some (.ref x), some vc, some (.str "a"), some (.int 64), some .non, some .non, some (.ref im), none, none, none]) [none, none, some (.str "a"), some (.int 64), some .none, some .none, none, none, none, none] := fun H => sl_of rfl fun i d h => by
      match i, h with
      | 0, h => cases h
      | 1, h => cases h
      | 2, h => cases h; exact ⟨_, rfl, .str _⟩
      | 3, h => cases h; exact ⟨_, rfl, .int _⟩
      | 4, h => cases h; exact ⟨_, rfl, .non⟩
      | 5, h => cases h; exact ⟨_, rfl, .non⟩
      | 6, h => cases h
      | 7, h => cases h
      | 8, h => cases h
      | 9, h => cases h
      | i + 10, h => cases h
    obtain ⟨fdT, FT, bT⟩ := fn_take_hands T
    refine wb_cons (ws_of (ps_expr (pe_meth (pv 0) (cl_Machine T) (me_Machine_take_hands T) FT (hr.mono (by decide)) bT .nil pass0 (pa_cons (pe_ifExp pT pe_dnewK pE) (pa_cons (pe_lst (pa_cons (pe_dget (hu_of hr) (pv 6) pe_str (fun _ _ => rfl)) (pa_cons (pe_dget (hu_of hr) (pv 6) pe_str (fun _ _ => rfl)) pa_nil))) pa_nil)))) ?_)
    refine ⟨_, rfl, x, dx, _, rfl, x12, rfl, wt_td (td_isN (ed_var 4)) (sN H12) fun H13 e13 => ?_⟩
    rw [if_pos (show isN PyData.none = true from rfl)]
    refine fun d hd => ?_
    have e14 : Ex H13 (upd H13 d (.dK [])) := Ex.new hd
    have im14 := e14 _ _ (e13 _ _ (cut_le _ _ (e12 _ _ gIm)))
    refine ⟨_, rfl, im, vst, rfl, DGet.k (k := .inr "stack") im14, _, rfl, im, _, rfl, DGet.k (k := .inr "heap") im14, Nat.le_of_ble_eq_true rfl, fun l1 hl1 => ⟨x, d, _, rfl, (Ex.new hl1) _ _ upd_same, ?_⟩⟩
    have e1215 : Ex H12 (upd (upd H13 d (.dK [])) l1 (.lst [vst, .ref th])) := (e13.trans e14).trans (Ex.new hl1)
    generalize upd (upd H13 d (.dK [])) l1 (.lst [vst, .ref th]) = H15 at e1215
    refine wb_iff (sN H15) (td_is (td_not (td_val (ed_call (pf_is_named T) (hr.mono (by decide)) (ad_cons (ed_var 5) ad_nil) (⟨rfl, rfl⟩)))) rfl) fun H16 e16 => ?_
    have x16 := e16 _ _ (e1215 _ _ x12)
    have e1216 := e1215.trans e16
    refine wb_ownA (cl_Machine T) (no_Machine_rule T) rfl x16 (Nat.le_of_ble_eq_true rfl) (we_var 5 rfl ⟨x16, fun H17 x17 k17 c17 => ?_⟩)
    have e17 : Ex (cut [x] H3) (cut [bx, x] H17) := by
      rw [c17 _ hS]
      exact e12.trans (cut_ex e1216)
    obtain ⟨ts, ys, rfl, hts, rys⟩ := dp_tup (dp_ex (e17.trans cut_le) _ _ gst)
    cases rys with
    | cons ry1 rys =>
    cases rys with
    | cons ry2 rys =>
    cases rys
    have ev := dp_int ry1
    subst ev
    have ev := dp_int ry2
    subst ev
    refine wb_pair 7 8 rfl sc_Machine_init.nd (we_of (pe_fld (pv 0) rfl) ⟨_, rfl, x, cM K, dx, _, .ref ts, rfl, x17, cl_Machine T, no_Machine_stack_bounds T, rfl, ts, _, _, rfl, hts, ?_⟩)
    have sM : ∀ H, @Sl sjT K H ([some (.ref x), some vc, some (.str "a"), some (.int 64), some .non, some .non, some (.ref im), some (.int 24), some (.int 88), none]) [none, none, some (.str "a"), some (.int 64), some .none, some .none, none, some (.int 24), some (.int 88), none] := fun H => ((sN H).set (i := 7) (v := .int 24) (.int _) trivial).set (i := 8) (v := .int 88) (.int _) trivial
    have b17 : H17 bx = some (.lst [vN, vN, vN, vN, vN, vN, vN, vN]) := by
      rw [k17 _ nbx]
      exact e1216 _ _ b12
    refine wb_cons (ws_of (ps_asg pE (pg_sub (pe_fld (pv 0) rfl) pe_int set_list (fun _ => rfl)) rfl rfl rfl) (we_ed (ed_call (pf_stack_word T) (hr.mono (by decide)) (ad_cons (ed_var 7) (ad_cons (ed_var 8) ad_nil)) (⟨24, 88, exact_24, by decide, rfl, rfl⟩)) (sM H17) fun v18 H18 e18 r18 => ?_))
    refine ⟨_, rfl, x, cM K, dx, _, .ref bx, rfl, e18 _ _ x17, cl_Machine T, no_Machine_own_boxes T, rfl, bx, _, 6, 6, rfl, rfl, e18 _ _ b17, rfl, ?_⟩
    have hB : bx ∈ [bx, x] := List.mem_cons_self
    have x19 := (upd_ne (H := H18) (o := .lst ([vN, vN, vN, vN, vN, vN, vN, vN].set 6 v18)) (Ne.symm nbx)).trans (e18 _ _ x17)
    generalize hH19 : upd H18 bx (.lst ([vN, vN, vN, vN, vN, vN, vN, vN].set 6 v18)) = H19 at x19
    have c19 : cut [bx, x] H19 = cut [bx, x] H18 := by rw [← hH19]; exact cut_upd hB
    have b19 : H19 bx = some (.lst [vN, vN, vN, vN, vN, vN, v18, vN]) := by rw [← hH19]; exact upd_same
    have e19 : Ex (cut [x] H3) (cut [bx, x] H19) := by
      rw [c19]
      exact e17.trans (cut_ex e18)
    have wd19 := cut_le _ _ (e19 _ _ gWd)
    obtain ⟨tw, ws, rfl, htwC, rws⟩ := dp_tup (dp_ex e19 _ _ gwv)
    have htw := Evl.ex_t cut_le htwC
    cases rws with
    | @cons w0 _ _ _ rw0 rws =>
    cases rws with
    | @cons w1 _ _ _ rw1 rws =>
    cases rws with
    | @cons w2 _ _ _ rw2 rws =>
    cases rws
    refine wb_cons (ws_of (ps_asg (pe_ix ix_tup (pe_dget (hu_of hr) (pe_fld (pv 0) rfl) (pv 2) (fun _ _ => rfl)) pe_int (fun _ _ => rfl)) (pg_sub (pe_fld (pv 0) rfl) pe_int set_list (fun _ => rfl)) rfl rfl rfl) ?_)
    refine ⟨_, rfl, x, cM K, dx, _, .ref wd, rfl, x19, cl_Machine T, no_Machine_words T, rfl, _, rfl, wd, .ref tw, rfl, DGet.k (k := .inr "a") wd19, tw, _, 1, w1, rfl, rfl, htw, rfl, ?_⟩
    refine ⟨_, rfl, x, cM K, dx, _, .ref bx, rfl, x19, cl_Machine T, no_Machine_own_boxes T, rfl, bx, _, 7, 7, rfl, rfl, b19, rfl, ?_⟩
    have x20 := (upd_ne (H := H19) (o := .lst ([vN, vN, vN, vN, vN, vN, v18, vN].set 7 w1)) (Ne.symm nbx)).trans x19
    generalize hH20 : upd H19 bx (.lst ([vN, vN, vN, vN, vN, vN, v18, vN].set 7 w1)) = H20 at x20
    have c20 : cut [bx, x] H20 = cut [bx, x] H19 := by rw [← hH20]; exact cut_upd hB
    have b20 : H20 bx = some (.lst [vN, vN, vN, vN, vN, vN, v18, w1]) := by rw [← hH20]; exact upd_same
    have htw20 : SqT K H20 tw [w0, w1, w2] := by
      rw [← c20] at htwC
      exact Evl.ex_t cut_le htwC
    have wd20 : H20 wd = some (.dK [(.inr "a", .ref tw)]) := by
      have h := e19 _ _ gWd
      rw [← c20] at h
      exact cut_le _ _ h
    refine wb_ownA (cl_Machine T) (no_Machine_own_row T) rfl x20 (Nat.le_of_ble_eq_true rfl) (we_of (pe_ix ix_tup (pe_dget (hu_of hr) (pe_fld (pv 0) rfl) (pv 2) (fun _ _ => rfl)) pe_int (fun _ _ => rfl)) ⟨_, rfl, x, cM K, dx, _, .ref wd, rfl, x20, cl_Machine T, no_Machine_words T, rfl, _, rfl, wd, .ref tw, rfl, DGet.k (k := .inr "a") wd20, tw, _, 0, w0, rfl, rfl, htw20, rfl, x20, fun H21 x21 k21 c21 => ?_⟩)
    refine wb_ownA (cl_Machine T) (no_Machine_shelf T) rfl x21 (Nat.le_of_ble_eq_true rfl) (we_of (pe_lst pa_nil) ⟨by decide, fun sh hsh => ⟨(Ex.new hsh) _ _ x21, fun H22 x22 k22 c22 => ?_⟩⟩)
    refine wb_ownA (cl_Machine T) (no_Machine_touched T) rfl x22 (Nat.le_of_ble_eq_true rfl) (we_of (pe_lst pa_nil) ⟨by decide, fun tc htc => ⟨(Ex.new htc) _ _ x22, fun H23 x23 k23 c23 => ?_⟩⟩)
    refine wb_ownA (cl_Machine T) (no_Machine_handed_out T) rfl x23 (Nat.le_of_ble_eq_true rfl) (we_of (pe_lst pa_nil) ⟨by decide, fun ho hho => ⟨(Ex.new hho) _ _ x23, fun H24 x24 k24 c24 => ?_⟩⟩)
    refine wb_ownA (cl_Machine T) (no_Machine_many_steps T) rfl x24 (Nat.le_of_ble_eq_true rfl) (we_of pe_int ⟨x24, fun H25 x25 k25 c25 => ?_⟩)
    refine wb_ownA (cl_Machine T) (no_Machine_outcome T) rfl x25 (Nat.le_of_ble_eq_true rfl) (we_of pe_non ⟨x25, fun H26 x26 k26 c26 => ?_⟩)
    refine wb_ownA (cl_Machine T) (no_Machine_sweep_at T) rfl x26 (Nat.le_of_ble_eq_true rfl) (we_of pe_non ⟨x26, fun H27 x27 k27 c27 => ?_⟩)
    refine wb_nil ?_
    have e2021 : Ex (cut [bx, x] H20) (cut [bx, x] H21) := by rw [c21 _ hS]; exact Ex.refl _
    have e2122 : Ex (cut [bx, x] H21) (cut [bx, x] H22) := by rw [c22 _ hS]; exact cut_ex (Ex.new hsh)
    have e2223 : Ex (cut [bx, x] H22) (cut [bx, x] H23) := by rw [c23 _ hS]; exact cut_ex (Ex.new htc)
    have e2324 : Ex (cut [bx, x] H23) (cut [bx, x] H24) := by rw [c24 _ hS]; exact cut_ex (Ex.new hho)
    have e2425 : Ex (cut [bx, x] H24) (cut [bx, x] H25) := by rw [c25 _ hS]; exact Ex.refl _
    have e2526 : Ex (cut [bx, x] H25) (cut [bx, x] H26) := by rw [c26 _ hS]; exact Ex.refl _
    have e2627 : Ex (cut [bx, x] H26) (cut [bx, x] H27) := by rw [c27 _ hS]; exact Ex.refl _
    have g22 : ∀ {b : Addr} {o : HO}, b ≠ x → H20 b = some o → H22 b = some o := fun {b o} hb h => by
      rw [k22 b hb]
      refine (Ex.new hsh) _ _ ?_
      rw [k21 b hb]
      exact h
    have g23 : ∀ {b : Addr} {o : HO}, b ≠ x → H22 b = some o → H23 b = some o := fun {b o} hb h => by
      rw [k23 b hb]
      exact (Ex.new htc) _ _ h
    have g27 : ∀ {b : Addr} {o : HO}, b ≠ x → H23 b = some o → H27 b = some o := fun {b o} hb h => by
      rw [k27 b hb, k26 b hb, k25 b hb, k24 b hb]
      exact (Ex.new hho) _ _ h
    have e20 : Ex (cut [x] H3) (cut [bx, x] H20) := by rw [c20]; exact e19
    have e322 : Ex (cut [x] H3) (cut [bx, x] H22) := (e20.trans e2021).trans e2122
    have e2227 : Ex (cut [bx, x] H22) (cut [bx, x] H27) := (((e2223.trans e2324).trans e2425).trans e2526).trans e2627
    have e327 := e322.trans e2227
    have eF : Ex (cut [x] H3) H27 := e327.trans cut_le
    have nsh : sh ≠ x := fun z => by rw [z, x21] at hsh; cases hsh
    have ntc : tc ≠ x := fun z => by rw [z, x22] at htc; cases htc
    have sh22 : H22 sh = some (.lst []) := by
      rw [k22 _ nsh]
      exact upd_same
    have tc23 : H23 tc = some (.lst []) := by
      rw [k23 _ ntc]
      exact upd_same
    have b22 := g22 nbx b20
    have nsb : sh ≠ bx := fun z => by
      have h := (k21 _ nbx).trans b20
      rw [← z, hsh] at h
      cases h
    have ntb : tc ≠ bx := fun z => by rw [z, b22] at htc; cases htc
    have nts : tc ≠ sh := fun z => by rw [z, sh22] at htc; cases htc
    have b27 := g27 nbx (g23 nbx b22)
    have sh27 := g27 nsh (g23 nsh sh22)
    have tc27 := g27 ntc tc23
    have R27 := eF _ _ gR
    have W27 := eF _ _ gWd
    have C27 := gC.ex eF
    have P27 : H27 hp = some (.ins (cH K) hdx hfs) := by
      have h1 : Ex (cut [x] H9) (cut [bx, x] H19) := by
        rw [c19]
        refine Ex.trans ?_ (cut_ex e18)
        rw [c17 _ hS]
        exact eB.trans (cut_ex e1216)
      have h2 : Ex (cut [x] H9) (cut [bx, x] H20) := by rw [c20]; exact h1
      exact cut_le _ _ ((((h2.trans e2021).trans e2122).trans e2227) _ _ gHp)
    obtain ⟨kc, kc1, kc2⟩ := C27.clk
    have mvv : ∀ {d : PyData} {v : V}, Dp K (cut [bx, x] H19) v d → Dp K H27 v d := fun r => by
      rw [← c20] at r
      exact dp_ex (((e2021.trans e2122).trans e2227).trans cut_le) _ _ r
    have r18' : Dp K H27 v18 (Wv.mk 24 88 88 0 .stk).d := by
      refine mvv ?_
      rw [c19]
      refine dp_cutB (fun b hb xs z => ?_) _ _ (wd_tup _) r18
      rcases List.mem_cons.mp hb with e | hb
      · rw [e] at z
        rcases z with z | ⟨ob, z⟩ <;> rw [e18 _ _ b17] at z <;> cases z
      · rw [List.mem_singleton.mp hb] at z
        rcases z with z | ⟨ob, z⟩ <;> rw [e18 _ _ x17] at z <;> cases z
    have sep : ∀ {b b2 : Addr} {o o2 : HO}, H27 b = some o → H27 b2 = some o2 → o ≠ o2 → b ≠ b2 := fun h1 h2 n z => by
      rw [z, h2] at h1
      exact n (Option.some.inj h1).symm
    have ncx : c ≠ x := nF fc
    have mem4 : ∀ {b : Addr}, b ≠ x → b ≠ cd → b ≠ bx → b ≠ tc → b ∉ (Ad.mk x dx r c cdx cd wd hp hdx bx sh tc).S := fun h1 h2 h3 h4 z => by
      simp [Ad.S, h1, h2, h3, h4] at z
    refine q ⟨x, dx, r, c, cdx, cd, wd, hp, hdx, bx, sh, tc⟩ H27 rfl ⟨⟨.ref ts, w0, .ref ho, 0, .non, x27, mvv rw0, rfl⟩, ⟨kvsOf 0 xs, R27, ?_, fun i hi => ?_, fun i d hd => ?_⟩, C27, ?_, ⟨.ref tw, W27, ?_, mvv (dp_ex e19 _ _ gwv)⟩, ⟨hfs, P27, hls, ?_⟩, ⟨_, b27, ?_⟩, ⟨sh27, ?_⟩, ⟨[], tc27, rfl, Nat.zero_le _⟩, rfl, ?_, ?_⟩ ?_ ?_
    · refine mem4 (nX hR fun _ _ _ z => nomatch z) nrc ?_ ?_
      · exact sep R27 b27 (fun z => nomatch z)
      · exact sep R27 tc27 (fun z => nomatch z)
    · have h := kvs_val xs 0 i
      rw [Nat.zero_add] at h
      rw [h, List.getElem?_eq_none]
      rw [dpa_len rxs]
      exact hi
    · obtain ⟨v, h3, h4⟩ := dpa_get (dps_ex eF _ _ gxs) hd
      have h := kvs_val xs 0 i
      rw [Nat.zero_add] at h
      exact ⟨v, by rw [h]; exact h3, h4⟩
    · refine mem4 ncx (sep C27.cls kc1 (fun z => nomatch z)) ?_ ?_
      · exact sep C27.cls b27 (fun z => nomatch z)
      · exact sep C27.cls tc27 (fun z => nomatch z)
    · refine mem4 (nX hWd fun _ _ _ z => nomatch z) nwc ?_ ?_
      · exact sep W27 b27 (fun z => nomatch z)
      · exact sep W27 tc27 (fun z => nomatch z)
    · refine mem4 hpx (sep P27 kc1 (fun z => nomatch z)) ?_ ?_
      · exact sep P27 b27 (fun z => nomatch z)
      · exact sep P27 tc27 (fun z => nomatch z)
    · have n0 := dpN H27
      exact .cons n0 (.cons n0 (.cons n0 (.cons n0 (.cons n0 (.cons n0 (.cons r18' (.cons (mvv rw1) .nil)))))))
    · refine mem4 nsh ?_ nsb (Ne.symm nts)
      exact sep sh27 kc1 (fun z => nomatch z)
    · have n1 : x ≠ cd := sep x27 kc1 (fun z => nomatch z)
      have n2 : cd ≠ bx := sep kc1 b27 (fun z => nomatch z)
      have n3 : cd ≠ tc := sep kc1 tc27 (fun z => nomatch z)
      simp [Ad.S, n1, n2, n3, Ne.symm nbx, Ne.symm ntc, Ne.symm ntb]
    · intro d hd
      obtain ⟨r, _, rfl⟩ := List.mem_map.mp hd
      exact rw_tup r
    · have h1 : Ex (cut [x] H) (cut [x] H3) := cut_ex e03
      have h2 : Ex (cut [bx, x] H27) (cut [x] H27) := fun b o hb => by
        obtain ⟨p1, p2⟩ := cut_some hb
        rw [cut_at (fun z => p1 (List.mem_cons_of_mem _ z))]
        exact p2
      exact (h1.trans e327).trans h2
    · intro b hb hbx
      have hb' : b = cd ∨ b = bx ∨ b = tc := by simpa [Ad.S, hbx] using hb
      have lift : ∀ {o : HO}, H b = some o → cut [x] H3 b = some o := fun h => (cut_ex e03) _ _ (by rw [cut_at (by simpa using hbx)]; exact h)
      cases hh : H b with
      | none => rfl
      | some o =>
        exfalso
        have h3 := lift hh
        rcases hb' with e | e | e
        · have h := e02 _ _ hh
          rw [e, fcd] at h
          cases h
        · have h := (Ex.new (o := .lst [vN]) hl0) _ _ (cut_le _ _ (g9 _ _ h3))
          rw [e, hbx0] at h
          cases h
        · have h := cut_le _ _ (e322 _ _ h3)
          rw [e, htc] at h
          cases h
  · obtain ⟨us, rv, hbd⟩ := F.binds0 (ps := ["self", "compartments", "begin", "stack", "hands", "without"]) 3 (by simp) rfl (fun D doc pm an cdv ct us ks h1 h2 => match us, h1, ks, h2 with | [_, _, _], _, [_, _, _], _ => ⟨_, _, _, _, _, _, rfl, rfl, _, _, _, _, _, _, rfl, rfl, _, _, _, _, _, _, rfl, rfl, rfl⟩)
    exact ⟨us, rv, hbd⟩
end
end Sr

set_option Elab.async false
set_option linter.all false
set_option maxRecDepth 100000
set_option maxHeartbeats 4000000
/-! The machine's steps, plainly. -/
namespace Sr
open PySem PySem.Spec PyProof.Rows L2
def Rw.safe : Rw → Bool
  | .here _ => false
  | _ => true
theorem mod45 (b : Int) : 0 ≤ b % 35184372088832 ∧ b % 35184372088832 < 35184372088832 := ⟨Int.emod_nonneg _ (by decide), Int.emod_lt_of_pos _ (by decide)⟩
theorem acc_mild {v : Wv} (h : v.mild = true) (o : Int) {y : Str} (hy : y ∈ ([("r" : Str), "w", "c", "o"] : List Str)) : ∃ z, accR v o y = .ex z ∧ z ∈ FAULTSl := by
  cases v with
  | pl b => exact ⟨"mark", rfl, by decide +kernel⟩
  | mk l h' a k r =>
    by_cases hk : k = 0
    · refine ⟨"right", ?_, by decide +kernel⟩
      show (if k ≠ 0 then _ else if inS y r.s = false then _ else _) = _
      rw [if_neg (by simpa using hk), if_pos (no_right r h y hy)]
    · refine ⟨"seal", ?_, by decide +kernel⟩
      show (if k ≠ 0 then _ else _) = _
      rw [if_pos hk]
/-- the row's own word -/
def RowW (w : Wv) : Prop := ∃ l h a, w = .mk l h a 0 .fx ∧ w.Ok
theorem RowW.walk {w : Wv} (h : RowW w) (n : Int) : RowW (w.walk n) := by
  obtain ⟨l, h', a, rfl, ok⟩ := h
  exact ⟨l, h', (a + n) % 4096, rfl, ok.walk n⟩
/-- what stands once all is plain -/
structure Lat (l : List Rw) (m : Ms) : Prop where
  rows : m.rows = l.map Rw.d
  rok : ∀ r ∈ l, r.ok
  ok : m.allOk
  mild : m.allMild
  row : RowW m.row
  cells : ∀ o : Int, 0 ≤ o → o < 8 → (cellW m.cells (16 + o)).t = false
  many : m.many = 9
  plain : (∀ r ∈ l, r.safe = true) → ∀ w ∈ m.boxes, w.t = false
theorem bxv_pl {m : Ms} (h : ∀ w ∈ m.boxes, w.t = false) (b : Int) : ∃ n, bxv m b = .pl n := by
  have : (bxv m b).t = false := by
    unfold bxv
    rw [List.getD_eq_getElem?_getD]
    cases q : m.boxes[b.toNat]? with
    | none => rfl
    | some w => exact h w (List.mem_of_getElem? q)
  cases e : bxv m b with
  | pl n => exact ⟨n, rfl⟩
  | mk l h a k r => rw [e] at this; cases this
theorem made_ok {m : Ms} (h : m.allOk) (hr : m.row.Ok) (row : Rw) : (madeV m row).Ok := by
  cases row with
  | set b n => exact mod45 n
  | move b c => exact bxv_ok h c
  | op x b y => exact mod45 _
  | walk b y => exact (bxv_ok h b).walk _
  | narrow b y => exact (bxv_ok h b).narrow _ _
  | exact b y => exact (bxv_ok h b).narrow _ _
  | less b z => exact (bxv_ok h b).less z
  | sl b c => exact (bxv_ok h b).bare
  | opn b c => exact (bxv_ok h b).bare
  | ent b => exact (bxv_ok h b).entry
  | ask b x c => exact mod45 _
  | here b => exact hr.walk 1
  | load b c o => exact ⟨by decide, by decide⟩
  | store c o b => exact ⟨by decide, by decide⟩
  | poke c o b => exact ⟨by decide, by decide⟩
  | jump x b y t => exact ⟨by decide, by decide⟩
  | go t => exact ⟨by decide, by decide⟩
  | enter b => exact ⟨by decide, by decide⟩
theorem made_mild {m : Ms} (h : m.allMild) (hr : m.row.mild = true) (row : Rw) : (madeV m row).mild = true := by
  cases row with
  | move b c => exact bxv_mild h c
  | walk b y => exact Wv.walk_mild (bxv_mild h b) _
  | narrow b y => exact Wv.narrow_mild (bxv_mild h b) _ _
  | exact b y => exact Wv.narrow_mild (bxv_mild h b) _ _
  | less b z => exact Wv.less_mild z
  | ent b => exact Wv.entry_mild (bxv_mild h b)
  | here b => exact Wv.walk_mild hr 1
  | _ => rfl
theorem made_plain {m : Ms} (h : ∀ w ∈ m.boxes, w.t = false) (row : Rw) (hs : row.safe = true) : (madeV m row).t = false := by
  cases row with
  | move b c => obtain ⟨n, e⟩ := bxv_pl h c; show (bxv m c).t = false; rw [e]; rfl
  | walk b y => obtain ⟨n, e⟩ := bxv_pl h b; show ((bxv m b).walk _).t = false; rw [e]; rfl
  | narrow b y => obtain ⟨n, e⟩ := bxv_pl h b; show ((bxv m b).narrow _ _).t = false; rw [e]; rfl
  | exact b y => obtain ⟨n, e⟩ := bxv_pl h b; show ((bxv m b).narrow _ _).t = false; rw [e]; rfl
  | less b z => obtain ⟨n, e⟩ := bxv_pl h b; show ((bxv m b).less _).t = false; rw [e]; rfl
  | ent b => obtain ⟨n, e⟩ := bxv_pl h b; show ((bxv m b).entry).t = false; rw [e]; rfl
  | here b => cases hs
  | _ => rfl
theorem mem_set {xs : List Wv} {i : Nat} {v w : Wv} (h : w ∈ xs.set i v) : w = v ∨ w ∈ xs := (List.mem_or_eq_of_mem_set h).symm
theorem Lat.stop {l : List Rw} {m : Ms} (L : Lat l m) : Lat l { m with out := true } := ⟨L.rows, L.rok, L.ok, L.mild, L.row, L.cells, L.many, L.plain⟩
theorem Lat.to {l : List Rw} {m : Ms} (L : Lat l m) {w : Wv} (h : RowW w) : Lat l { m with row := w } := ⟨L.rows, L.rok, L.ok, L.mild, h, L.cells, L.many, L.plain⟩
theorem Lat.made {l : List Rw} {m : Ms} (L : Lat l m) {row : Rw} (hm : row ∈ l) : Lat l { m with boxes := m.boxes.set row.dest.toNat (madeV m row), row := m.row.walk 1 } := by
  obtain ⟨a, b, c, e, ok⟩ := L.row
  refine ⟨L.rows, L.rok, fun w hw => ?_, fun w hw => ?_, L.row.walk 1, L.cells, L.many, fun hs w hw => ?_⟩
  · rcases mem_set hw with z | z
    · rw [z]; exact made_ok L.ok ok row
    · exact L.ok w z
  · rcases mem_set hw with z | z
    · rw [z]; exact made_mild L.mild (by rw [e]; rfl) row
    · exact L.mild w z
  · rcases mem_set hw with z | z
    · rw [z]; exact made_plain (L.plain hs) row (hs row hm)
    · exact L.plain hs w z
theorem Lat.step {l : List Rw} {m : Ms} (L : Lat l m) : ∃ m', StepTo m m' ∧ Lat l m' := by
  obtain ⟨lo, hi, at_, e, ok⟩ := L.row
  have fin : ∀ {row : Rw} {y : Str}, rowR m = .rt row.d → row.ok → DoOk m row → doR m row = .ex m y → y ∈ FAULTSl → ∃ m', StepTo m m' ∧ Lat l m' := fun h1 h2 h3 h4 h5 => ⟨_, .fault h1 h2 h3 h4 h5, L.stop⟩
  have goes : ∀ {row : Rw} {w : Wv}, rowR m = .rt row.d → row.ok → DoOk m row → doR m row = .rt m w.d → RowW w → ∃ m', StepTo m m' ∧ Lat l m' := fun h1 h2 h3 h4 h5 => ⟨_, .goes h1 h2 h3 h4, L.to h5⟩
  have hrow : rowR m = .ex "rows" ∨ ∃ row ∈ l, rowR m = .rt row.d := by
    unfold rowR
    rw [e]
    dsimp only
    split
    · cases q : m.rows[at_.toNat]? with
      | none => exact .inl rfl
      | some d =>
        right
        have hd := List.mem_of_getElem? q
        rw [L.rows] at hd
        obtain ⟨row, hr, rfl⟩ := List.mem_map.mp hd
        exact ⟨row, hr, rfl⟩
    · exact .inl rfl
  rcases hrow with h | ⟨row, hm, h⟩
  · exact ⟨_, .norow h (by decide +kernel), L.stop⟩
  have hk := L.rok row hm
  have made : DoOk m row → doR m row = .rt { m with boxes := m.boxes.set row.dest.toNat (madeV m row) } (m.row.walk 1).d → ∃ m', StepTo m m' ∧ Lat l m' := fun h1 h2 => ⟨_, .goes h hk h1 h2, L.made hm⟩
  cases row with
  | set b n => exact made (fun _ => L.mild) rfl
  | move b c => exact made (fun _ => L.mild) rfl
  | op x b y => exact made (fun _ => L.mild) rfl
  | walk b y => exact made (fun _ => L.mild) rfl
  | narrow b y => exact made (fun _ => L.mild) rfl
  | exact b y => exact made (fun _ => L.mild) rfl
  | less b z => exact made (fun _ => L.mild) rfl
  | sl b c => exact made (fun _ => L.mild) rfl
  | opn b c => exact made (fun _ => L.mild) rfl
  | ent b => exact made (fun _ => L.mild) rfl
  | ask b x c => exact made (fun _ => L.mild) rfl
  | here b => exact made (fun _ => L.mild) rfl
  | load b c o =>
    obtain ⟨z, e1, e2⟩ := acc_mild (bxv_mild L.mild c) o (y := "r") (by decide +kernel)
    refine fin h hk (fun a ha => ?_) (y := z) ?_ e2
    · rw [e1] at ha
      cases ha
    · simp only [doR, touR, e1]
      rfl
  | store c o b =>
    obtain ⟨z, e1, e2⟩ := acc_mild (bxv_mild L.mild c) o (y := "w") (by decide +kernel)
    refine fin h hk ⟨z, e1⟩ (y := z) ?_ e2
    simp only [doR, touR, e1]
    rfl
  | poke c o b =>
    obtain ⟨z, e1, e2⟩ := acc_mild (bxv_mild L.mild c) o (y := "w") (by decide +kernel)
    refine fin h hk (fun a ha => ?_) (y := z) ?_ e2
    · rw [e1] at ha
      cases ha
    · simp only [doR, touR, e1]
      rfl
  | jump x b y t =>
    by_cases hs : soB x (bxv m b).b (numBy m y) = true
    · refine goes h hk (fun _ => L.mild) (w := m.row.walk (m.row.lo + t - m.row.at_)) ?_ (L.row.walk _)
      show Mr.rt m (Wv.d (if _ then _ else _)) = _
      rw [if_pos hs]
    · refine goes h hk (fun _ => L.mild) (w := m.row.walk 1) ?_ (L.row.walk _)
      show Mr.rt m (Wv.d (if _ then _ else _)) = _
      rw [if_neg hs]
  | go t => exact goes h hk (fun _ => L.mild) rfl (L.row.walk _)
  | enter b =>
    have hmild := bxv_mild L.mild b
    have hok := bxv_ok L.ok b
    cases q : bxv m b with
    | pl n => exact fin h hk hmild (y := "mark") (by show liftR m (entR (bxv m b)) = _; rw [q]; rfl) (by decide +kernel)
    | mk l1 h1 a1 k1 r1 =>
      rw [q] at hok
      by_cases hk1 : 1 < k1
      · exact fin h hk hmild (y := "seal") (by show liftR m (entR (bxv m b)) = _; rw [q]; show liftR m (if _ then _ else _) = _; rw [if_pos hk1]; rfl) (by decide +kernel)
      · by_cases hr : r1 = .fx
        · subst hr
          refine goes h hk hmild (w := .mk l1 h1 a1 0 .fx) ?_ ⟨l1, h1, a1, rfl, Fl.kind hok (by decide) (by decide)⟩
          show liftR m (entR (bxv m b)) = _
          rw [q]
          show liftR m (if _ then _ else if _ then _ else _) = _
          rw [if_neg hk1, if_pos rfl]
          rfl
        · refine fin h hk hmild (y := "right") ?_ (by decide +kernel)
          show liftR m (entR (bxv m b)) = _
          rw [q]
          show liftR m (if _ then _ else if _ then _ else _) = _
          rw [if_neg hk1, if_neg hr]
          rfl
end Sr

set_option Elab.async false
set_option linter.all false
set_option maxRecDepth 100000
set_option maxHeartbeats 4000000
/-! The first steps, plainly. -/
namespace Sr
open PySem PySem.Spec PyProof.Rows L2
theorem cellAt_cons (p : Int × Wv) (r : List (Int × Wv)) (b : Int) : cellAt (p :: r) b = if p.1 = b then some p.2 else cellAt r b := by
  unfold cellAt
  rw [List.find?_cons]
  by_cases h : p.1 = b
  · simp [h]
  · simp [h]
theorem cellAt_drop_self (a : Int) : ∀ cells : List (Int × Wv), cellAt (dropC cells a) a = none
  | [] => rfl
  | p :: r => by
    unfold dropC
    rw [List.filter_cons]
    by_cases h : p.1 = a
    · rw [if_neg (by simpa using h)]
      exact cellAt_drop_self a r
    · rw [if_pos (by simpa using h), cellAt_cons, if_neg h]
      exact cellAt_drop_self a r
theorem cellAt_drop_ne {a b : Int} (hb : b ≠ a) : ∀ cells : List (Int × Wv), cellAt (dropC cells a) b = cellAt cells b
  | [] => rfl
  | p :: r => by
    unfold dropC
    rw [List.filter_cons]
    by_cases h : p.1 = a
    · rw [if_neg (by simpa using h), cellAt_cons, if_neg (by rw [h]; exact Ne.symm hb)]
      exact cellAt_drop_ne hb r
    · rw [if_pos (by simpa using h), cellAt_cons, cellAt_cons]
      split
      · rfl
      · exact cellAt_drop_ne hb r
theorem cellAt_map {a : Int} {w : Wv} (b : Int) : ∀ cells : List (Int × Wv), cellAt (cells.map fun p => if p.1 = a then (p.1, w) else p) b = if b = a then (cellAt cells b).map (fun _ => w) else cellAt cells b
  | [] => by simp [cellAt]
  | p :: r => by
    rw [List.map_cons, cellAt_cons, cellAt_cons, cellAt_map b r]
    by_cases h : p.1 = a
    · rw [if_pos h]
      by_cases h2 : p.1 = b
      · have e : b = a := h2.symm.trans h
        simp [h2, e]
      · have e : ¬ b = a := fun z => h2 (h.trans z.symm)
        simp [h2, e]
    · rw [if_neg h]
      by_cases h2 : p.1 = b
      · have e : ¬ b = a := fun z => h (h2.trans z)
        simp [h2, e]
      · simp [h2]
theorem cellAt_app (b : Int) (c : List (Int × Wv)) : ∀ cells : List (Int × Wv), cellAt (cells ++ c) b = (cellAt cells b).or (cellAt c b)
  | [] => by simp [cellAt]
  | p :: r => by
    rw [List.cons_append, cellAt_cons, cellAt_cons, cellAt_app b c r]
    split <;> simp
theorem cellAt_none {cells : List (Int × Wv)} {a : Int} (h : ¬ (cells.any fun p => decide (p.1 = a)) = true) : cellAt cells a = none := by
  unfold cellAt
  rw [Option.map_eq_none_iff, List.find?_eq_none]
  intro p hp
  have h2 : (cells.any fun p => decide (p.1 = a)) = false := eq_false_of_ne_true h
  rw [List.any_eq_false] at h2
  exact h2 p hp
theorem cellAt_some {cells : List (Int × Wv)} {a : Int} (h : (cells.any fun p => decide (p.1 = a)) = true) : ∃ w, cellAt cells a = some w := by
  unfold cellAt
  cases q : cells.find? fun p => decide (p.1 = a) with
  | some p => exact ⟨_, rfl⟩
  | none =>
    rw [List.any_eq_true] at h
    obtain ⟨p, hp, e⟩ := h
    exact absurd e (List.find?_eq_none.mp q p hp)
theorem cellAt_put_self (cells : List (Int × Wv)) (a : Int) (w : Wv) : cellAt (putC cells a w) a = some w := by
  unfold putC
  split
  · rename_i h
    obtain ⟨v, e⟩ := cellAt_some h
    rw [cellAt_map, if_pos rfl, e]
    rfl
  · rename_i h
    rw [cellAt_app, cellAt_none h, cellAt_cons, if_pos rfl]
    rfl
theorem cellAt_put_ne {a b : Int} (hb : b ≠ a) (cells : List (Int × Wv)) (w : Wv) : cellAt (putC cells a w) b = cellAt cells b := by
  unfold putC
  split
  · rw [cellAt_map, if_neg hb]
  · rw [cellAt_app, cellAt_cons, if_neg (Ne.symm hb)]
    simp [cellAt]
theorem cellW_set_self (cells : List (Int × Wv)) (a n : Int) : (cellW (setC cells a (.pl n)) a).t = false := by
  unfold cellW setC
  split
  · rw [cellAt_drop_self]
    rfl
  · rw [cellAt_put_self]
    rfl
theorem cellW_set_ne {a b : Int} (hb : b ≠ a) (cells : List (Int × Wv)) (w : Wv) : cellW (setC cells a w) b = cellW cells b := by
  unfold cellW setC
  split
  · rw [cellAt_drop_ne hb]
  · rw [cellAt_put_ne hb]
theorem cellW_set_ok {cells : List (Int × Wv)} {w : Wv} (h : ∀ a, (cellW cells a).Ok) (hw : w.Ok) (b a : Int) : (cellW (setC cells b w) a).Ok := by
  by_cases e : a = b
  · subst e
    unfold cellW setC
    split
    · rw [cellAt_drop_self]
      exact ⟨by decide, by decide⟩
    · rw [cellAt_put_self]
      exact hw
  · rw [cellW_set_ne e]
    exact h a
theorem poke_ok {cells : List (Int × Wv)} {a : Int} (h : (cellW cells a).Ok) (n : Int) : (pokeW cells a n).Ok := by
  obtain ⟨h1, h2⟩ := h.range
  show 0 ≤ (cellW cells a).b - (cellW cells a).b % 268435456 + n % 268435456 ∧ (cellW cells a).b - (cellW cells a).b % 268435456 + n % 268435456 < 35184372088832
  omega
theorem len_setC (cells : List (Int × Wv)) (a : Int) (w : Wv) : (setC cells a w).length ≤ cells.length + 1 := by
  unfold setC
  split
  · exact Nat.le_succ_of_le (len_dropC _ _)
  · exact len_putC _ _ _
theorem pSize_ge (n : Int) : n ≤ pSize n := by
  unfold pSize cdiv
  have h := Int.ediv_mul_le (-n) (Int.ne_of_gt (two_pow_pos (stepOf 0 n)))
  rw [Int.neg_mul]
  omega
def B0 : List Wv := [.pl 0, .pl 0, .pl 0, .pl 0, .pl 0, .pl 0, .mk 24 88 88 0 .stk, .mk 16 24 16 0 .cell]
/-- the first rows -/
structure Fst (l : List Rw) : Prop where
  ex : ∃ ops rest : List Rw, l = headR ++ (ops ++ rest) ∧ ops.length = 8 ∧ (∀ (i : Nat) r, ops[i]? = some r → ∃ x ∈ DEEDSl, r = .op x (i : Nat) (.worth 0)) ∧ ∀ r ∈ rest, r.ok
  few : l.length ≤ 64
theorem head_at (i : Nat) (h : i < 8) : headR[i]? = some (.poke 7 (i : Nat) (i : Nat)) := by
  match i, h with
  | 0, _ => rfl
  | 1, _ => rfl
  | 2, _ => rfl
  | 3, _ => rfl
  | 4, _ => rfl
  | 5, _ => rfl
  | 6, _ => rfl
  | 7, _ => rfl
  | i + 8, h => omega
theorem Fst.len {l : List Rw} (F : Fst l) : 17 ≤ l.length := by
  obtain ⟨ops, rest, rfl, h8, _⟩ := F.ex
  rw [List.length_append, List.length_append, h8]
  show 17 ≤ 9 + (8 + rest.length)
  omega
theorem Fst.fl {l : List Rw} (F : Fst l) : Fl 0 (pSize l.length) 0 Rt.fx.m 0 := by
  have h1 := F.len
  have h2 := F.few
  exact ⟨exact_size (by omega) (by omega), by decide, by decide, by decide, by decide, by decide, by decide⟩
theorem Fst.poke {l : List Rw} (F : Fst l) {i : Nat} (h : i < 8) : l[i]? = some (.poke 7 (i : Nat) (i : Nat)) := by
  obtain ⟨ops, rest, rfl, h8, _⟩ := F.ex
  rw [List.getElem?_append_left (by show i < 9; omega)]
  exact head_at i h
theorem Fst.load {l : List Rw} (F : Fst l) : l[8]? = some (.load 5 7 0) := by
  obtain ⟨ops, rest, rfl, h8, _⟩ := F.ex
  rfl
theorem Fst.op {l : List Rw} (F : Fst l) {j : Nat} (h : j < 8) : ∃ x ∈ DEEDSl, l[9 + j]? = some (.op x (j : Nat) (.worth 0)) := by
  obtain ⟨ops, rest, rfl, h8, hop, _⟩ := F.ex
  have hj := List.getElem?_eq_getElem (show j < ops.length by omega)
  obtain ⟨x, hx, e⟩ := hop j _ hj
  refine ⟨x, hx, ?_⟩
  rw [List.getElem?_append_right (by show 9 ≤ 9 + j; omega)]
  show (ops ++ rest)[9 + j - 9]? = _
  rw [Nat.add_sub_cancel_left, List.getElem?_append_left (by omega), hj, e]
theorem deeds_ok {x : Str} (hx : x ∈ DEEDSl) {j : Nat} (hj : j < 8) : (Rw.op x (j : Nat) (.worth 0)).ok := ⟨hx, ⟨by omega, by omega⟩, by decide, by decide⟩
theorem Fst.ok {l : List Rw} (F : Fst l) : ∀ r ∈ l, r.ok := by
  obtain ⟨ops, rest, rfl, h8, hop, hr⟩ := F.ex
  intro r h
  rcases List.mem_append.mp h with h | h
  · obtain ⟨i, hi⟩ := List.mem_iff_getElem?.mp h
    by_cases h1 : i < 8
    · rw [head_at i h1] at hi
      cases hi
      exact ⟨⟨by decide, by decide⟩, ⟨by omega, by omega⟩, ⟨by omega, by omega⟩⟩
    · have h9 : i < 9 := (List.getElem?_eq_some_iff.mp hi).1
      have e : i = 8 := by omega
      subst e
      cases hi
      exact ⟨⟨by decide, by decide⟩, ⟨by decide, by decide⟩, ⟨by decide, by decide⟩⟩
  · rcases List.mem_append.mp h with h | h
    · obtain ⟨i, hi⟩ := List.mem_iff_getElem?.mp h
      obtain ⟨x, hx, e⟩ := hop i r hi
      rw [e]
      exact deeds_ok hx (by have := (List.getElem?_eq_some_iff.mp hi).1; omega)
    · exact hr r h
/-- what stands before turn i -/
structure Ear (l : List Rw) (i : Nat) (m : Ms) : Prop where
  rows : m.rows = l.map Rw.d
  size : m.size = pSize l.length
  row : m.row = .mk 0 (pSize l.length) (i : Nat) 0 .fx
  ok : m.allOk
  out : m.out = false
  len : m.boxes.length = 8
  a : i ≤ 8 → m.boxes = B0 ∧ m.many = i ∧ m.cells.length ≤ 1 + i ∧ (∀ a, (cellW m.cells a).Ok) ∧ ∀ o : Int, 0 ≤ o → o < (i : Nat) → (cellW m.cells (16 + o)).t = false
  b : 9 ≤ i → m.many = 9 ∧ (∀ o : Int, 0 ≤ o → o < 8 → (cellW m.cells (16 + o)).t = false) ∧ ∀ (j : Nat) w, j + 9 < i → m.boxes[j]? = some w → w.t = false
theorem b0_ok : ∀ w ∈ B0, w.Ok := by
  intro w hw
  have : w = .pl 0 ∨ w = .mk 24 88 88 0 .stk ∨ w = .mk 16 24 16 0 .cell := by simpa [B0] using hw
  rcases this with e | e | e <;> rw [e]
  · exact ⟨by decide, by decide⟩
  · exact ⟨exact_24, by decide, by decide, by decide, by decide, by decide, by decide⟩
  · exact fl_cell
theorem cell0_ok (a : Int) : (cellW [(16, .mk 3 4 3 0 .sl)] a).Ok := by
  unfold cellW
  rw [cellAt_cons]
  split
  · exact fl_sl
  · exact ⟨by decide, by decide⟩
theorem ear0 (l : List Rw) : Ear l 0 (m0 l) := ⟨rfl, rfl, rfl, b0_ok, rfl, rfl, fun _ => ⟨rfl, rfl, Nat.le_refl _, fun a => cell0_ok a, fun o h1 h2 => by omega⟩, fun h => by omega⟩
theorem Ear.last {l : List Rw} (F : Fst l) {m : Ms} (E : Ear l 17 m) : Lat l m := by
  obtain ⟨h1, h2, h3⟩ := E.b (by decide)
  have hp : ∀ w ∈ m.boxes, w.t = false := fun w hw => by
    obtain ⟨j, hj⟩ := List.mem_iff_getElem?.mp hw
    have : j < m.boxes.length := (List.getElem?_eq_some_iff.mp hj).1
    exact h3 j w (by have := E.len; omega) hj
  refine ⟨E.rows, F.ok, E.ok, fun w hw => ?_, ⟨0, _, 17, E.row, ?_⟩, h2, h1, fun _ => hp⟩
  · have := hp w hw
    cases w with
    | pl b => rfl
    | mk l h a k r => cases this
  · rw [E.row]
    have h17 := F.len
    have h64 := F.few
    exact F.fl.at_ (a' := ((17 : Nat) : Int)) (by decide) (by decide)
theorem rowR_at {l : List Rw} {m : Ms} {i : Nat} {row : Rw} (hr : m.rows = l.map Rw.d) (hw : m.row = .mk 0 (pSize l.length) (i : Nat) 0 .fx) (hi : l[i]? = some row) : rowR m = .rt row.d := by
  have h1 : i < l.length := (List.getElem?_eq_some_iff.mp hi).1
  have h2 := pSize_ge l.length
  unfold rowR
  rw [hw]
  dsimp only
  rw [if_pos (by simp; omega), hr]
  have h3 : (l.map Rw.d)[((i : Nat) : Int).toNat]? = some row.d := by
    rw [Int.toNat_natCast, List.getElem?_map, hi]
    rfl
  rw [h3]
theorem walk1 {z : Int} {i : Nat} (h : i < 17) : (Wv.mk 0 z (i : Nat) 0 .fx).walk 1 = .mk 0 z ((i + 1 : Nat) : Int) 0 .fx := by
  unfold Wv.walk
  dsimp only
  rw [if_pos rfl]
  have e : ((i : Nat) + 1 : Int) % 4096 = ((i + 1 : Nat) : Int) := by omega
  rw [e]
theorem Ear.name {l : List Rw} (F : Fst l) {i : Nat} {m : Ms} (E : Ear l i m) (hi : i < 17) : NameOk m := by
  have h1 := F.len
  have h2 := pSize_ge l.length
  refine ⟨0, pSize l.length, (i : Nat), 0, .fx, F.fl.at_ (by omega) (by omega), E.row, ?_, by omega, ?_⟩
  · rw [E.size]
    exact F.fl
  · rw [E.size]
    omega
theorem acc_cell {o : Int} (h0 : 0 ≤ o) (h1 : o < 8) {y : Str} (hy : inS y Rt.cell.s = true) : accR (.mk 16 24 16 0 .cell) o y = .rt (.int (16 + o)) := by
  unfold accR
  dsimp only
  rw [if_neg (by decide), if_neg (by rw [hy]; decide), if_neg (by simp; omega)]
theorem Ear.step {l : List Rw} (F : Fst l) {i : Nat} {m : Ms} (E : Ear l i m) (hi : i < 17) : ∃ m', StepTo m m' ∧ Ear l (i + 1) m' := by
  have hw : ∀ m' : Ms, m'.row = m.row → m'.row.walk 1 = .mk 0 (pSize l.length) ((i + 1 : Nat) : Int) 0 .fx := fun m' e => by rw [e, E.row, walk1 hi]
  have hn := E.name F hi
  by_cases h8 : i < 8
  · obtain ⟨hb, hmany, hlen, hcok, hcells⟩ := E.a (by omega)
    have hrow := rowR_at E.rows E.row (F.poke h8)
    have hb7 : bxv m 7 = .mk 16 24 16 0 .cell := by unfold bxv; rw [hb]; rfl
    have hacc : accR (bxv m 7) (i : Nat) "w" = .rt (.int (16 + (i : Nat))) := by
      rw [hb7]
      exact acc_cell (by omega) (by omega) (by decide +kernel)
    refine ⟨{ m with cells := setC m.cells (16 + (i : Nat)) (pokeW m.cells (16 + (i : Nat)) (bxv m (i : Nat)).b), many := m.many + 1, row := m.row.walk 1 }, .goes (m' := { m with cells := setC m.cells (16 + (i : Nat)) (pokeW m.cells (16 + (i : Nat)) (bxv m (i : Nat)).b), many := m.many + 1 }) (w := m.row.walk 1) hrow ⟨⟨by decide, by decide⟩, ⟨by omega, by omega⟩, ⟨by omega, by omega⟩⟩ (fun a ha => ?_) ?_, ?_⟩
    · rw [hacc] at ha
      cases ha
      exact ⟨hn, by omega, by omega, by omega, by omega⟩
    · simp only [doR, touR, hacc]
      rfl
    · refine ⟨E.rows, E.size, hw m rfl, E.ok, E.out, E.len, fun h => ⟨hb, by show m.many + 1 = i + 1; omega, ?_, cellW_set_ok hcok (poke_ok (hcok _) _) _, fun o h1 h2 => ?_⟩, fun h => by omega⟩
      · have := len_setC m.cells (16 + (i : Nat)) (pokeW m.cells (16 + (i : Nat)) (bxv m (i : Nat)).b)
        show _ ≤ _
        exact Nat.le_trans this (by omega)
      · by_cases e : o = (i : Nat)
        · rw [e]
          exact cellW_set_self _ _ _
        · show (cellW (setC _ _ _) _).t = false
          rw [cellW_set_ne (by omega)]
          exact hcells o h1 (by omega)
  · by_cases e8 : i = 8
    · subst e8
      obtain ⟨hb, hmany, hlen, hcok, hcells⟩ := E.a (by omega)
      have hrow := rowR_at E.rows E.row F.load
      have hb7 : bxv m 7 = .mk 16 24 16 0 .cell := by unfold bxv; rw [hb]; rfl
      have hacc : accR (bxv m 7) 0 "r" = .rt (.int (16 + 0)) := by
        rw [hb7]
        exact acc_cell (by decide) (by decide) (by decide +kernel)
      have hc16 := hcells 0 (by decide) (by decide)
      obtain ⟨b, hcb⟩ : ∃ b, cellW m.cells (16 + 0) = .pl b := by
        cases q : cellW m.cells (16 + 0) with
        | pl b => exact ⟨b, rfl⟩
        | mk l h a k r => rw [q] at hc16; cases hc16
      refine ⟨{ m with boxes := m.boxes.set 5 (cellW m.cells 16), many := m.many + 1, row := m.row.walk 1 }, .goes (m' := { m with boxes := m.boxes.set 5 (cellW m.cells 16), many := m.many + 1 }) (w := m.row.walk 1) hrow ⟨⟨by decide, by decide⟩, ⟨by decide, by decide⟩, ⟨by decide, by decide⟩⟩ (fun a ha => ?_) ?_, ?_⟩
      · rw [hacc] at ha
        cases ha
        exact ⟨hn, by omega, by decide, by decide, ⟨16, 24, 16, 0, fl_cell, hb7⟩, b, hcb⟩
      · simp only [doR, touR, hacc]
        rfl
      · refine ⟨E.rows, E.size, hw m rfl, fun w hw => ?_, E.out, by rw [List.length_set]; exact E.len, fun h => by omega, fun h => ⟨by show m.many + 1 = 9; omega, hcells, fun j w h1 => by omega⟩⟩
        rcases mem_set hw with z | z
        · rw [z]
          exact hcok 16
        · exact E.ok w z
    · obtain ⟨j, rfl⟩ : ∃ j, i = 9 + j := ⟨i - 9, by omega⟩
      obtain ⟨hmany, hcells, hpl⟩ := E.b (by omega)
      obtain ⟨x, hx, hj⟩ := F.op (show j < 8 by omega)
      have hrow := rowR_at E.rows E.row hj
      refine ⟨{ m with boxes := m.boxes.set ((j : Nat) : Int).toNat (madeV m (.op x (j : Nat) (.worth 0))), row := m.row.walk 1 }, .goes hrow (deeds_ok hx (by omega)) (fun z => absurd rfl z) rfl, ?_⟩
      refine ⟨E.rows, E.size, hw m rfl, fun w hw => ?_, E.out, by rw [List.length_set]; exact E.len, fun h => by omega, fun h => ⟨hmany, hcells, fun q w h1 h2 => ?_⟩⟩
      · rcases mem_set hw with z | z
        · rw [z]
          exact mod45 _
        · exact E.ok w z
      · have h2' : (m.boxes.set j (madeV m (.op x (j : Nat) (.worth 0))))[q]? = some w := h2
        rw [List.getElem?_set] at h2'
        by_cases e : j = q
        · rw [if_pos e] at h2'
          split at h2'
          · cases h2'
            rfl
          · cases h2'
        · rw [if_neg e] at h2'
          exact hpl q w (by omega) h2'
end Sr

set_option Elab.async false
set_option linter.all false
set_option maxRecDepth 100000
set_option maxHeartbeats 4000000
/-! The law's own small ones. -/
namespace Sr
open PySem PySem.Spec PyProof.Rows L2
open Evl (Ex)
section
variable {X : Cx} {Δ : Dl} {tg e iter : Expr} {d : PyData} {ds items : List PyData} {pos : Pos} {es : List Expr}
theorem Sl.wipeS [SJ] {K : PySem.W.Frag} {H : Hp} {σ : L2.St} : ∀ (vs : List Nat) {Δ : Dl}, Sl K H σ Δ → (∀ i ∈ vs, SJ.ok i) → Sl K H (L2.wipe σ vs) (wipeD Δ vs)
  | [], _, s, _ => s
  | v :: vs, _, s, hk => (Sl.wipeS vs s fun i hi => hk i (List.mem_cons_of_mem _ hi)).setN v (hk v List.mem_cons_self)
theorem gw_nameS [SJ] {K : PySem.W.Frag} {Δ : Dl} {d : PyData} (j : Nat) (hk : SJ.ok j) : GW K (gName j) [j] Δ d (Δ.set j (some d)) := fun σ H v s hw r Q q => by
  refine q _ H (Ex.refl H) (s.set r hk) ?_
  show (σ.set j (some v)).set j none = σ
  rw [List.set_set]
  exact hw
theorem ed_niV [SJ] {a b : Expr} {d1 d2 : PyData} (ha : ED X a Δ d1) (hb : ED X b Δ d2) (hd : d2 = .tuple ds ∨ d2 = .list ds) (hf : flatD d1 = true := by rfl) (hfa : ds.all flatD = true := by rfl) (hm : behindInMarks .NotIn b = false := by rfl) :
    ED X (.Compare a [.NotIn] [b] pos) Δ (.bool (!inV (vD d1) (ds.map vD))) := ed_cmp op_notIn_seq (rd_in (neg := true) hd hf hfa) ha hb hm
/-- .. where some slot must stand -/
theorem el_lcS [SJ] {elt : Expr} {ifs : List Expr} {scope : Scope} {own : List (Str × Nat)} {g : TG} {tt : TT} {te : TE} {p : PyData → Bool} {out : PyData → PyData} (Δt : PyData → Dl) (hc : X.calm = true) (hN : X.N.Nodup) (hi : ID X tg iter Δ items) (ok : BlkOk X.N X.env.scope scope own)
    (hg : ∀ (s : Shared) (H : Hp) (C : Addr) (cl : List (Str × Addr)) (fp : List Addr), PG (X.blk s H scope (compEnvC scope cl C X.env) fp) tg g) (gg : ∀ d ∈ items, GW X.K g (own.map (·.2)) (wipeD Δ (own.map (·.2))) d (Δt d))
    (ht : ∀ (s : Shared) (H : Hp) (C : Addr) (cl : List (Str × Addr)) (fp : List Addr), PTs (X.blk s H scope (compEnvC scope cl C X.env) fp) ifs tt) (gt : ∀ d ∈ items, GT X.K tt (Δt d) (p d))
    (he : ∀ (s : Shared) (H : Hp) (C : Addr) (cl : List (Str × Addr)) (fp : List Addr), PE (X.blk s H scope (compEnvC scope cl C X.env) fp) elt te) (ge : ∀ d ∈ items, p d = true → GE X.K te (Δt d) (out d)) (hf : ∀ d ∈ items, p d = true → tupOnly (out d) = true)
    (hl : items.length < sizeLine) (hk : ∀ i ∈ own.map (·.2), SJ.ok i) (hs : ∀ x, foldedSetIterable iter X.env x = pure x := by intro _; rfl) : EL X (.ListComp elt [⟨tg, iter, ifs, 0⟩] scope pos) Δ ((items.filter p).map out) := by
  obtain ⟨wi, pi, gi⟩ := hi.ex
  refine ⟨_, pe_lc hc hN pi ok hg ht he hs, fun σ H s Q q => gi σ H s _ fun J H1 e1 run => ?_⟩
  intro D hD
  have fresh : ∀ {H2 : Hp} {l : List V}, Ex H1 H2 → Ex H1 (upd H2 D (.lst l)) := fun e2 => e2.mut hD
  refine ⟨fun i m H2 => i + m = items.length ∧ Ex H1 H2 ∧ ∃ xs, H2 D = some (.lst xs) ∧ DpAll X.K H2 xs (((items.take i).filter p).map out), ⟨items.length, by omega, Ex.new hD, [], by rw [upd_same], .nil⟩, ?_⟩
  rintro i m H2 ⟨hi, e2, xs, hD2, dD2⟩
  obtain ⟨r1, r2⟩ := run i H2 e2
  have xl : xs.length ≤ items.length := by
    rw [dpa_len dD2, List.length_map]
    refine Nat.le_trans (List.length_filter_le _ _) ?_
    rw [List.length_take]
    omega
  by_cases hlt : i < items.length
  · have hx := List.getElem?_eq_getElem hlt
    have hm : items[i] ∈ items := List.getElem_mem hlt
    obtain ⟨go, y⟩ := r1 _ hx
    refine .inr ⟨go, fun H3 => Ex H1 H3 ∧ ∃ xs, H3 D = some (.lst xs) ∧ DpAll X.K H3 xs (((items.take (i + 1)).filter p).map out), fun H3 ⟨a, b⟩ => ⟨m - 1, by omega, by omega, a, b⟩, fun x H3 hy => ?_⟩
    obtain ⟨e3, rx⟩ := y x H3 hy
    have e13 := e2.trans e3
    refine gg _ hm (L2.wipe σ (own.map (·.2))) H3 x (Sl.wipeS _ (s.ex (e1.trans e13)) hk) (wipe_wipe _ _) rx _ fun σ4 H4 e4 s4 hw => ?_
    refine ⟨hw, gt _ hm σ4 H4 s4 _ fun H5 e5 => ?_⟩
    have e25 : Ex H2 H5 := (e3.trans e4).trans e5
    cases hp : p items[i] with
    | false =>
      rw [if_neg Bool.false_ne_true]
      refine ⟨(e13.trans e4).trans e5, xs, e25 _ _ hD2, ?_⟩
      rw [filter_take_succ _ _ _ _ hx, hp, if_neg Bool.false_ne_true, List.append_nil]
      exact dps_ex e25 _ _ dD2
    | true =>
      rw [if_pos rfl]
      refine ge _ hm hp σ4 H5 (s4.ex e5) _ fun v H6 e6 r6 => ⟨xs, e6 _ _ (e25 _ _ hD2), Nat.lt_of_le_of_lt xl hl, fresh (((e13.trans e4).trans e5).trans e6), xs ++ [v], upd_same, ?_⟩
      have hD6 := e6 _ _ (e25 _ _ hD2)
      have mv : ∀ {d : PyData} {w : V}, tupOnly d = true → Dp X.K H6 w d → Dp X.K (upd H6 D (.lst (xs ++ [v]))) w d := fun ht r => dp_mut hD6 (fun _ z => nomatch z) (fun _ _ z => nomatch z) ht r
      have mvs : ∀ {ds : List PyData} {vs : List V}, (∀ d ∈ ds, tupOnly d = true) → DpAll X.K H6 vs ds → DpAll X.K (upd H6 D (.lst (xs ++ [v]))) vs ds := by
        intro ds
        induction ds with
        | nil => intro vs _ r; cases r; exact .nil
        | cons a t ih =>
          intro vs ht r
          cases r with
          | cons r1 r2 => exact .cons (mv (ht a List.mem_cons_self) r1) (ih (fun d hd => ht d (List.mem_cons_of_mem _ hd)) r2)
      rw [filter_take_succ _ _ _ _ hx, hp, if_pos rfl, List.map_append]
      refine dpa_app (mvs ?_ (dps_ex (e25.trans e6) _ _ dD2)) (.cons (mv (hf _ hm hp) r6) .nil)
      intro d hd
      obtain ⟨d0, h0, rfl⟩ := List.mem_map.mp hd
      obtain ⟨h1, h2⟩ := List.mem_filter.mp h0
      exact hf d0 (List.mem_of_mem_take h1) h2
  · have e : i = items.length := by omega
    subst e
    refine .inl ⟨r2 rfl, q D xs H2 ?_ (e1.trans e2) hD2 ?_⟩
    · cases h : H D with
      | none => rfl
      | some o => rw [e1 _ _ h] at hD; cases hD
    · rw [List.take_length] at dD2
      exact dD2
end
section
variable {P : Program} {w : World} {K : PySem.W.Frag} {mg : Str → Option Value} {base : Heap}
/-- a new list of so many -/
def spTo (K : PySem.W.Frag) : Sp := fun vs H Q _ => ∃ (A : Ad) (m : Ms), vs = [.ref A.a] ∧ MAt K H A m ∧ ∀ l ts H', Ex H H' → H' l = some (.lst ts) → ts.length = m.many → Q (.ref l) H'
theorem sc_Machine_touches : FnScope ["self"] ["self"] (defScope t_Machine_touches) := ⟨rfl, rfl, rfl, by decide +kernel, rfl, by decide +kernel, by decide +kernel⟩
theorem fn_touches (T : Tx P w K mg base) : ∃ f fd, FnOk P w K mg base CX0 1 f fd ["self"] (spTo K) ∧ Meth K (cM K) "touches" f ∧ Binds K fd ["self"] [] := by
  obtain ⟨fd, F⟩ := fd_Machine_touches T
  refine ⟨_, fd, F.ok sc_Machine_touches (fun vs H Q E h => by obtain ⟨A, m, rfl, _⟩ := h; rfl) (fun cdv Ar outer s H vs Q E hr h => ?_), me_Machine_touches T, F.bindsN fun _ _ _ _ _ _ us hl => match us, hl with | [_], _ => rfl⟩
  obtain ⟨A, m, rfl, M, q⟩ := h
  show wB (cxOf CX0 P w K mg base ["self"] "Machine.touches" (defScope t_Machine_touches) (He.fAd K d_Machine_touches.at_) cdv Ar outer s H E) (defBody t_Machine_touches) _ _ _
  obtain ⟨sb, vr, ho, n, vo, i1, _⟩ := M.ins
  obtain ⟨ts, t1, t2, t3⟩ := M.tcs
  refine wb_one (ws_ret (we_of (pe_callTy call_list_of rfl (fr_list T) bt_list (pa_cons (pe_fld (pv 0) rfl) pa_nil)) ?_))
  exact ⟨_, rfl, A.a, cM K, A.dx, _, .ref A.tc, rfl, i1, cl_Machine T, no_Machine_touched T, rfl, A.tc, ts, rfl, .inl (SqL.of t1), fun l hl => q l ts _ (Ex.new hl) upd_same t2⟩
/-- a new list of the boxes -/
def spBo (K : PySem.W.Frag) : Sp := fun vs H Q _ => ∃ (A : Ad) (m : Ms), vs = [.ref A.a] ∧ MAt K H A m ∧ ∀ l xs H', Ex H H' → H' l = some (.lst xs) → DpAll K H' xs (m.boxes.map Wv.d) → Q (.ref l) H'
theorem fn_boxes (T : Tx P w K mg base) : ∃ f fd, FnOk P w K mg base CX0 1 f fd ["self"] (spBo K) ∧ Meth K (cM K) "boxes" f ∧ Binds K fd ["self"] [] := by
  obtain ⟨fd, F⟩ := fd_Machine_boxes T
  refine ⟨_, fd, F.ok sc_Machine_boxes (fun vs H Q E h => by obtain ⟨A, m, rfl, _⟩ := h; rfl) (fun cdv Ar outer s H vs Q E hr h => ?_), me_Machine_boxes T, F.bindsN fun _ _ _ _ _ _ us hl => match us, hl with | [_], _ => rfl⟩
  obtain ⟨A, m, rfl, M, q⟩ := h
  show wB (cxOf CX0 P w K mg base ["self"] "Machine.boxes" (defScope t_Machine_boxes) (He.fAd K d_Machine_boxes.at_) cdv Ar outer s H E) (defBody t_Machine_boxes) _ _ _
  obtain ⟨sb, vr, ho, n, vo, i1, _⟩ := M.ins
  obtain ⟨xs, b1, b2⟩ := M.bxs
  refine wb_one (ws_ret (we_of (pe_callTy call_list_of rfl (fr_list T) bt_list (pa_cons (pe_fld (pv 0) rfl) pa_nil)) ?_))
  exact ⟨_, rfl, A.a, cM K, A.dx, _, .ref A.bx, rfl, i1, cl_Machine T, no_Machine_own_boxes T, rfl, A.bx, xs, rfl, .inl (SqL.of b1), fun l hl => q l xs _ (Ex.new hl) upd_same (dps_ex (Ex.new hl) _ _ b2)⟩
def R__law_is_safe : List PyData → PyData → Prop := fun ds d => ∃ r : Rw, ds = [r.d] ∧ d = .bool r.safe
theorem sc__law_is_safe : FnScope ["_law_row_here"] ["_law_row_here"] (defScope t__law_is_safe) := ⟨rfl, rfl, rfl, by decide +kernel, rfl, by decide +kernel, by decide +kernel⟩
theorem pf__law_is_safe (T : Tx P w K mg base) : PF P w K mg base 1 "_law_is_safe" R__law_is_safe := by
  refine pf_of (N := ["_law_row_here"]) (ps := ["_law_row_here"]) (n := 0) (k := 0) (fd__law_is_safe T) sc__law_is_safe (gl__law_is_safe T) rfl (fun ds d h => by obtain ⟨r, rfl, rfl⟩ := h; rfl) (fun _ _ _ _ _ _ us hl => match us, hl with | [_], _ => rfl) ?_
  intro f cdv A outer s H E hr ds d h
  obtain ⟨r, rfl, rfl⟩ := h
  refine ⟨.rt _, bd_one (sd_ret (ed_niV (d1 := .str r.x) (ed_ixT (ed_var 0) ed_int ?_) (ed_tup (ad_cons ed_str (ad_cons ed_str ad_nil))) (.inl rfl)) ?_), .inl rfl⟩
  · exact atI0
  · cases r <;> rfl
end
end Sr

set_option Elab.async false
set_option linter.all false
set_option maxRecDepth 100000
set_option maxHeartbeats 4000000
/-! All is plain. -/
namespace Sr
open PySem PySem.Spec PyProof.Rows L2
open Evl (Ex)
def markD : PyData → Bool
  | .tuple (.bool b :: _) => b
  | _ => false
theorem filter_no {α : Type} {p : α → Bool} : ∀ {l : List α}, (∀ x ∈ l, p x = false) → l.filter p = []
  | [], _ => rfl
  | a :: r, h => by
    rw [List.filter_cons, if_neg (by rw [h a List.mem_cons_self]; decide)]
    exact filter_no fun x hx => h x (List.mem_cons_of_mem _ hx)
section
variable {P : Program} {w : World} {K : PySem.W.Frag} {mg : Str → Option Value} {base : Heap}
def R_ap : Ms → List PyData → PyData → Prop := fun m ds d => ds = [.int 16] ∧ d = .bool true ∧ (∀ w ∈ m.boxes, w.t = false) ∧ ∀ o : Int, 0 ≤ o → o < 8 → (cellW m.cells (16 + o)).t = false
theorem sc__law_all_plain : FnScope ["_law_machine", "_law_low", "_law_words", "_law_off", "_law_word"] ["_law_machine", "_law_low"] (defScope t__law_all_plain) := ⟨rfl, rfl, rfl, by decide +kernel, rfl, by decide +kernel, by decide +kernel⟩
theorem fn_all_plain (T : Tx P w K mg base) : ∃ f fd, FnOk P w K mg base CX0 5 f fd ["_law_machine", "_law_low"] (spM K R_ap) ∧ mg "_law_all_plain" = some (.ref f) ∧ PySem.W.keepIn K (.ref f) = true ∧ Binds K fd ["_law_machine", "_law_low"] [] := by
  obtain ⟨fd, F⟩ := fd__law_all_plain T
  refine ⟨_, fd, F.ok sc__law_all_plain (fun vs H Q E h => ?_) (fun cdv Ar outer s H vs Q E hr h => ?_), gl__law_all_plain T, F.kp, F.bindsN fun _ _ _ _ _ _ us hl => match us, hl with | [_, _], _ => rfl⟩
  · obtain ⟨A, m, ws, ds, d, rfl, r, M, ⟨rfl, _⟩, _⟩ := h
    rw [List.length_cons, dpa_len r]
    rfl
  obtain ⟨A, m, ws, ds, d, rfl, r, M, ⟨rfl, rfl, hb, hc⟩, q⟩ := h
  cases r with
  | cons r1 r =>
  cases r
  have ev := dp_int r1
  subst ev
  show wB (cxOf CX0 P w K mg base ["_law_machine", "_law_low", "_law_words", "_law_off", "_law_word"] "_law_all_plain" (defScope t__law_all_plain) (He.fAd K d__law_all_plain.at_) cdv Ar outer s H E) (defBody t__law_all_plain) _ [some (.ref A.a), some (.int 16), none, none, none] H
  refine wb_nox ?_
  obtain ⟨fB, fdB, FB, meB, bB⟩ := fn_boxes T
  obtain ⟨fC, fdC, psC, FC, meC, bC⟩ := (pm_cell T).ex
  obtain ⟨fs, i1, i2⟩ := mat_no (nm := "boxes") M (fun _ _ _ _ _ => rfl)
  refine wb_set 2 sc__law_all_plain.nd (we_of (pe_op op_cat pE pE) (we_of (pe_meth0 (pv 0) (cl_Machine T) meB FB (hr.mono (by decide)) bB .nil pass0) ⟨_, rfl, A.a, A.dx, fs, rfl, i1, i2, A, m, rfl, M, fun l xs H1 e1 hl dx => ?_⟩))
  have comp : @EL (mJ K H A m) (cxOf CX0 P w K mg base ["_law_machine", "_law_low", "_law_words", "_law_off", "_law_word"] "_law_all_plain" (defScope t__law_all_plain) (He.fAd K d__law_all_plain.at_) cdv Ar outer s H E).nox (match defBody t__law_all_plain with | .Assign _ (.BinOp _ _ e _) _ :: _ => e | _ => default) [none, some (.int 16), none, none, none] ((List.range 8).map fun i => (cellW m.cells (16 + (i : Nat))).d) := by
    letI J : SJ := mJ K H A m
    refine el_is (el_lcS (items := (List.range 8).map fun i => .int (i : Nat)) (own := [("_law_off", 3)]) (p := fun _ => true) (out := fun d => match d with | .int i => (cellW m.cells (16 + i)).d | _ => .none) (fun d => ([none, some (.int 16), none, none, none] : Dl).set 3 (some d)) rfl sc__law_all_plain.nd (id_range (fr_range T) (by decide)) (blkOk_by (by rfl)) (fun _ _ _ _ _ => pg_name sc__law_all_plain.nd rfl (.inl rfl)) (fun d hd => gw_nameS 3 (show (3 : Nat) ≠ 0 by decide)) (fun _ _ _ _ _ => pts_nil) (fun d hd σ H s Q q => q H (Ex.refl H)) (fun _ _ _ _ _ => pe_meth (pv 0) (cl_Machine T) meC FC (hr.mono (by decide)) bC .nil (show Passes CX0 _ E0 from pass0) (pa_cons (pe_op op_add (pv 1) (pv 3)) pa_nil)) (fun d hd hp σ H2 s2 Q q => ?_) (fun d hd hp => ?_) (Nat.le_of_ble_eq_true rfl) (fun i hi => ?_)) ?_
    · obtain ⟨i, hi, rfl⟩ := List.mem_map.mp hd
      have hi8 : i < 8 := List.mem_range.mp hi
      obtain ⟨h0, M2, _⟩ := s2.1.1
      obtain ⟨v1, a1, d1⟩ := s2.2 1 _ rfl
      obtain ⟨v3, a3, d3⟩ := s2.2 3 _ rfl
      have ev := dp_int d1
      subst ev
      have ev := dp_int d3
      subst ev
      obtain ⟨fs2, j1, j2⟩ := mat_no (nm := "cell") M2 (fun _ _ _ _ _ => rfl)
      exact ⟨_, h0, A.a, A.dx, fs2, rfl, j1, j2, _, a1, _, a3, 16, (i : Nat), rfl, rfl, A, m, [.int (16 + (i : Nat))], [.int (16 + (i : Nat))], (cellW m.cells (16 + (i : Nat))).d, rfl, .cons (.int _) .nil, M2, ⟨16 + (i : Nat), by omega, by omega, rfl, rfl⟩, fun v H3 e3 r3 => q v H3 e3 r3⟩
    · obtain ⟨i, hi, rfl⟩ := List.mem_map.mp hd
      exact wd_tup _
    · have e : i = 3 := by simpa using hi
      rw [e]
      exact (show (3 : Nat) ≠ 0 by decide)
    · rw [List.filter_eq_self.mpr (fun _ _ => rfl), List.map_map]
      rfl
  obtain ⟨t, pt, gt⟩ := @EL.ex (mJ K H A m) _ _ _ _ comp
  have s1 : @Sl (mJ K H A m) K H1 [some (.ref A.a), some (.int 16), none, none, none] [none, some (.int 16), none, none, none] := ⟨⟨⟨rfl, M.ex e1, cut_ex e1⟩, rfl⟩, fun i d h => by
    match i, h with
    | 0, h => cases h
    | 1, h => cases h; exact ⟨_, rfl, .int _⟩
    | 2, h => cases h
    | 3, h => cases h
    | 4, h => cases h
    | i + 5, h => cases h⟩
  refine we_of pt (gt _ H1 s1 _ fun l2 xs2 H2 hn2 e2 hl2 r2 => ⟨l, l2, xs, xs2, rfl, rfl, e2 _ _ hl, hl2, ?_, fun p hp => ?_⟩)
  · rw [dpa_len dx, dpa_len r2, List.length_map, List.length_map, M.sz, List.length_range]
    decide
  have e3 : Ex H2 (upd H2 p (.lst (xs ++ xs2))) := Ex.new hp
  have s3 : @Sl sjT K (upd H2 p (.lst (xs ++ xs2))) [some (.ref A.a), some (.int 16), some (.ref p), none, none] [none, some (.int 16), some (.list (m.boxes.map Wv.d ++ (List.range 8).map fun i => (cellW m.cells (16 + (i : Nat))).d)), none, none] := sl_of rfl fun i d h => by
    match i, h with
    | 0, h => cases h
    | 1, h => cases h; exact ⟨_, rfl, .int _⟩
    | 2, h => cases h; exact ⟨_, rfl, .lst (SqL.of upd_same) (dps_ex e3 _ _ (dpa_app (dps_ex e2 _ _ dx) r2))⟩
    | 3, h => cases h
    | 4, h => cases h
    | i + 5, h => cases h
  have itm : ∀ d ∈ m.boxes.map Wv.d ++ (List.range 8).map fun i => (cellW m.cells (16 + (i : Nat))).d, ∃ b, d = .tuple [.bool false, .int b] := fun d hd => by
    have : ∃ w : Wv, w.t = false ∧ d = w.d := by
      rcases List.mem_append.mp hd with h | h
      · obtain ⟨w, hw, rfl⟩ := List.mem_map.mp h
        exact ⟨w, hb w hw, rfl⟩
      · obtain ⟨i, hi, rfl⟩ := List.mem_map.mp h
        have hi8 : i < 8 := List.mem_range.mp hi
        exact ⟨_, hc (i : Nat) (by omega) (by omega), rfl⟩
    obtain ⟨w, hw, rfl⟩ := this
    exact ⟨w.b, by unfold Wv.d; rw [hw]⟩
  letI J : SJ := sjT
  refine wb_one (ws_ret (we_ed (ed_is (d1 := .bool true) (ed_eq hr.units (EL.ed (el_is (ds' := []) (el_lc (items := m.boxes.map Wv.d ++ (List.range 8).map fun i => (cellW m.cells (16 + (i : Nat))).d) (own := [("_law_word", 4)]) (p := markD) (out := fun d => d) (fun d => ([none, some (.int 16), some (.list (m.boxes.map Wv.d ++ (List.range 8).map fun i => (cellW m.cells (16 + (i : Nat))).d)), none, none] : Dl).set 4 (some d)) rfl sc__law_all_plain.nd (id_list (ed_var 2)) (blkOk_by (by rfl)) (fun _ _ _ _ _ => pg_name sc__law_all_plain.nd rfl (.inl rfl)) (fun d hd => gw_name 4) (fun _ _ _ _ _ => pts_one (pt_val (pe_ix (ix_tupK (K := K) rfl) (pv 4) pe_int (fun _ _ => rfl)))) (fun d hd σ H s Q q => ?_) (fun _ _ _ _ _ => pv 4) (fun d hd hp => ge_var rfl) (fun d hd hp => ?_) ?_) ?_)) (ed_lst ad_nil)) rfl) s3 fun v H4 e4 r4 => q v H4 (((e1.trans e2).trans e3).trans e4) r4))
  · obtain ⟨b, rfl⟩ := itm d hd
    obtain ⟨v, a, r⟩ := s.2 4 _ rfl
    obtain ⟨t, ys, rfl, ht, rys⟩ := dp_tup r
    cases rys with
    | cons ra rys =>
    cases rys with
    | cons rb rys =>
    cases rys
    have ev := dp_bl ra
    subst ev
    exact ⟨_, a, t, _, 0, _, rfl, rfl, ht, rfl, false, rfl, q H (Ex.refl H)⟩
  · obtain ⟨b, rfl⟩ := itm d hd
    rfl
  · rw [List.length_append, List.length_map, List.length_map, M.sz, List.length_range]
    exact Nat.le_of_ble_eq_true rfl
  · rw [filter_no fun d hd => by obtain ⟨b, rfl⟩ := itm d hd; rfl]
    rfl
end
end Sr

set_option Elab.async false
set_option linter.all false
set_option maxRecDepth 100000
set_option maxHeartbeats 4000000
/-! The rules for the law's body. -/
namespace Sr
open PySem PySem.Spec PyProof.Rows L2
open Evl (Ex)
theorem rw_shaped {r : Rw} (h : r.ok) : SeqAt.shaped r.d = true := by
  obtain ⟨x, args, ⟨_, sh, _⟩, e⟩ := rw_row r h
  rw [e]
  exact sh
theorem rw_depth (r : Rw) : r.d.depth ≤ 3 := by
  cases r with
  | op x b y => cases y <;> exact Nat.le_of_ble_eq_true rfl
  | walk b y => cases y <;> exact Nat.le_of_ble_eq_true rfl
  | narrow b y => cases y <;> exact Nat.le_of_ble_eq_true rfl
  | exact b y => cases y <;> exact Nat.le_of_ble_eq_true rfl
  | jump x b y t => cases y <;> exact Nat.le_of_ble_eq_true rfl
  | _ => exact Nat.le_of_ble_eq_true rfl
theorem lay_all : ∀ {xs : List PyData}, (∀ d ∈ xs, d.canLay0 = true) → PyData.canLayAll0 xs = true
  | [], _ => rfl
  | x :: r, h => by
    simp only [PyData.canLayAll0, Bool.and_eq_true]
    exact ⟨h x List.mem_cons_self, lay_all fun d hd => h d (List.mem_cons_of_mem _ hd)⟩
theorem depth_all {n : Nat} : ∀ {xs : List PyData}, (∀ d ∈ xs, d.depth ≤ n) → PyData.depthAll xs ≤ n
  | [], _ => Nat.zero_le _
  | x :: r, h => by
    simp only [PyData.depthAll]
    exact Nat.max_le.mpr ⟨h x List.mem_cons_self, depth_all fun d hd => h d (List.mem_cons_of_mem _ hd)⟩
theorem shaped_rows {xs : List PyData} (h : ∀ d ∈ xs, ∃ r : Rw, r.ok ∧ d = r.d) : SeqAt.shaped (.list xs) = true := by
  unfold SeqAt.shaped
  rw [Bool.and_eq_true, decide_eq_true_eq]
  constructor
  · show PyData.canLayAll0 xs = true
    exact lay_all fun d hd => by obtain ⟨r, hr, rfl⟩ := h d hd; exact SeqAt.canLay_of_shaped (rw_shaped hr)
  · show PyData.depthAll xs + 1 ≤ 64
    have := depth_all (n := 3) fun d hd => by obtain ⟨r, hr, rfl⟩ := h d hd; exact rw_depth r
    omega
theorem eqv_nil {xs : List PyData} (h : PyData.eqv (.list xs) (.list []) = true) : xs = [] := by
  cases xs with
  | nil => rfl
  | cons a r => simp [PyData.eqv, PyData.eqvAll] at h
def safeD : PyData → Bool
  | .tuple (.str x :: _) => !decide (x = "here")
  | _ => true
theorem safe_d (r : Rw) : safeD r.d = r.safe := by
  cases r <;> rfl
/-- the law's slots while a machine is tried: G, what stood before it -/
structure LS (K : PySem.W.Frag) (G : Hp) (A : Ad) (m : Ms) (σ : L2.St) (Δ : Dl) (H : Hp) : Prop where
  sG : @Sl sjT K G σ Δ
  h5 : σ[5]? = some (some (.ref A.a))
  M : MAt K H A m
  e : Ex G (cut A.S H)
section
variable {K : PySem.W.Frag} {G H H' : Hp} {A : Ad} {m m' : Ms} {σ : L2.St} {Δ : Dl}
theorem LS.sl (L : LS K G A m σ Δ H) : @Sl sjT K H σ Δ := letI : SJ := sjT; Sl.ex L.sG (L.e.trans cut_le)
theorem LS.ex (L : LS K G A m σ Δ H) (e : Ex H H') : LS K G A m σ Δ H' := ⟨L.sG, L.h5, L.M.ex e, L.e.trans (cut_ex e)⟩
theorem LS.int (L : LS K G A m σ Δ H) (i : Nat) (n : Int) (hi : i ≠ 5) : LS K G A m (σ.set i (some (.int n))) (Δ.set i (some (.int n))) H := letI : SJ := sjT; ⟨Sl.set L.sG (.int n) trivial, by rw [List.getElem?_set_ne hi]; exact L.h5, L.M, L.e⟩
theorem LS.skip (L : LS K G A m σ Δ H) (i : Nat) (y : Option V) (h : Δ[i]? = some none) (hi : i ≠ 5) : LS K G A m (σ.set i y) Δ H := letI : SJ := sjT; ⟨Sl.skip L.sG h trivial, by rw [List.getElem?_set_ne hi]; exact L.h5, L.M, L.e⟩
end
section
variable {X : Cx} {G H : Hp} {A : Ad} {m m' : Ms} {σ : L2.St} {Δ : Dl} {D : Ends} {sts body T E : List Stmt} {e : Expr} {es : List Expr} {p p2 p3 p4 p5 ap pos pf : Pos} {x y : Str} {Q : VK} {k : Nat}
/-- f(e, ..), f a reading def -/
theorem we_pf {R : List PyData → PyData → Prop} {ds : List PyData} {d : PyData} (pf : PF X.prog X.w X.K X.mg X.base k x R) (hr : Room k X.A) (hR : R ds d) (h : wA X (e :: es) σ H fun vs H1 => DpAll X.K H1 vs ds ∧ ∀ v H2, Ex H1 H2 → Dp X.K H2 v d → Q v H2)
    (hg : Gl X x := by rfl) (hdb : (x == ("__debug__" : Str)) = false := by decide) (he : starEach (e :: es) X.env = (false, eval e X.env) :: starEach es X.env := by rfl) (hpl : (backTo pos (starEach es X.env)).any (·.1) = false := by rfl) : wE X (.Call (.Name x p) (e :: es) [] pos) σ H Q := by
  obtain ⟨f, fd, ps, dvs, us, R', F, hm, hk, hb, hv, hR'⟩ := pf.ex
  obtain ⟨es', h1, h2⟩ := hR' ds d hR
  obtain ⟨t, Q0, pt, mm, ht⟩ := h
  refine we_of (pe_call F hr hg hm hk hb hv pass0 pA hdb he hpl) ⟨t, Q0, pt, fun vs H1 q0 => ?_, ht⟩
  obtain ⟨q1, q2⟩ := mm vs H1 q0
  exact ⟨ds ++ es', d, dpa_app q1 (h1 H1), h2, q2⟩
/-- machine.step() -/
theorem wb_step (T : Tx X.prog X.w X.K X.mg X.base) (hr : Room 11 X.A) (L : LS X.K G A m σ Δ H) (hs : (m.out = true ∧ m' = m) ∨ (m.out = false ∧ m.allOk ∧ m.row.Ok ∧ m.row.t = true ∧ StepTo m m')) (q : ∀ H', LS X.K G A m' σ Δ H' → wB X sts D σ H')
    (hN : X.N[5]? = some y := by rfl) (hv : Vis X.env.scope y := by first | exact Or.inl rfl | exact Or.inr (Or.inl rfl) | exact Or.inr (Or.inr rfl)) (hd : (y == ("__debug__" : Str)) = false := by decide) (hcd : (y == ("__classdict__" : Str)) = false := by decide)
    {pl : Sem Bool} (ht : eval (.Call (.Attribute (.Name y p) "step" ap) [] [] pos) X.env = (do
      let ov ← eval (.Name y p) X.env
      standAt ap.atName
      let (f, first) ← holding [ov] (getMethod ov "step" pl)
      callWith pos f first (backTo pos (starEach [] X.env)) (backToKw pos (keywordEach [] X.env))) := by rfl)
    (hsw : swapsWith (.Call (.Attribute (.Name y p) "step" ap) [] [] pos) none p2.line X.env = pure false := by rfl) : wB X (.Expr (.Call (.Attribute (.Name y p) "step" ap) [] [] pos) p2 :: sts) D σ H := by
  obtain ⟨f, fd, ps, F, me, b⟩ := (pn_step T).ex
  obtain ⟨fs, h1, h2⟩ := mat_no (nm := "step") L.M (fun _ _ _ _ _ => rfl)
  exact wb_cons (ws_of (ps_expr (pe_methW0 (E := fun _ => E0) (pv 5 hN hv hd hcd) (cl_Machine T) me F hr b (fun _ _ _ _ _ _ _ ⟨_, _, _, _, _, _, _, _, _, _, _, _, z⟩ => z.elim) ht) hsw)
    ⟨_, L.h5, A.a, A.dx, fs, rfl, h1, h2, A, m, [], [], .rt m' .none, rfl, .nil, L.M, ⟨m', rfl, rfl, hs⟩, fun v H' M' e' r' => q H' ⟨L.sG, L.h5, M', L.e.trans e'⟩⟩)
/-- machine.boxes() -/
theorem we_boxes (T : Tx X.prog X.w X.K X.mg X.base) (hr : Room 1 X.A) (h5 : σ[5]? = some (some (.ref A.a))) (M : MAt X.K H A m) (q : ∀ l xs H', Ex H H' → H' l = some (.lst xs) → DpAll X.K H' xs (m.boxes.map Wv.d) → Q (.ref l) H')
    (hN : X.N[5]? = some y := by rfl) (hv : Vis X.env.scope y := by first | exact Or.inl rfl | exact Or.inr (Or.inl rfl) | exact Or.inr (Or.inr rfl)) (hd : (y == ("__debug__" : Str)) = false := by decide) (hcd : (y == ("__classdict__" : Str)) = false := by decide)
    {pl : Sem Bool} (ht : eval (.Call (.Attribute (.Name y p) "boxes" ap) [] [] pos) X.env = (do
      let ov ← eval (.Name y p) X.env
      standAt ap.atName
      let (f, first) ← holding [ov] (getMethod ov "boxes" pl)
      callWith pos f first (backTo pos (starEach [] X.env)) (backToKw pos (keywordEach [] X.env))) := by rfl) : wE X (.Call (.Attribute (.Name y p) "boxes" ap) [] [] pos) σ H Q := by
  obtain ⟨f, fd, F, me, b⟩ := fn_boxes T
  obtain ⟨fs, h1, h2⟩ := mat_no (nm := "boxes") M (fun _ _ _ _ _ => rfl)
  exact we_of (pe_meth0 (pv 5 hN hv hd hcd) (cl_Machine T) me F hr b .nil pass0 ht) ⟨_, h5, A.a, A.dx, fs, rfl, h1, h2, A, m, rfl, M, q⟩
/-- len(machine.touches()) -/
theorem we_touches (T : Tx X.prog X.w X.K X.mg X.base) (hr : Room 1 X.A) (h5 : σ[5]? = some (some (.ref A.a))) (M : MAt X.K H A m) (q : ∀ H', Ex H H' → Q (.int (m.many : Nat)) H') (hg : Gl X "len" := by rfl)
    (hN : X.N[5]? = some y := by rfl) (hv : Vis X.env.scope y := by first | exact Or.inl rfl | exact Or.inr (Or.inl rfl) | exact Or.inr (Or.inr rfl)) (hd : (y == ("__debug__" : Str)) = false := by decide) (hcd : (y == ("__classdict__" : Str)) = false := by decide)
    {pl : Sem Bool} (ht : eval (.Call (.Attribute (.Name y p) "touches" ap) [] [] pos) X.env = (do
      let ov ← eval (.Name y p) X.env
      standAt ap.atName
      let (f, first) ← holding [ov] (getMethod ov "touches" pl)
      callWith pos f first (backTo pos (starEach [] X.env)) (backToKw pos (keywordEach [] X.env))) := by rfl)
    (hs : starEach [.Call (.Attribute (.Name y p) "touches" ap) [] [] pos] X.env = (false, eval (.Call (.Attribute (.Name y p) "touches" ap) [] [] pos) X.env) :: starEach [] X.env := by rfl) (hpl : (backTo p3 (starEach [.Call (.Attribute (.Name y p) "touches" ap) [] [] pos] X.env)).any (·.1) = false := by rfl) : wE X (.Call (.Name "len" p2) [.Call (.Attribute (.Name y p) "touches" ap) [] [] pos] [] p3) σ H Q := by
  obtain ⟨f, fd, F, me, b⟩ := fn_touches T
  obtain ⟨fs, h1, h2⟩ := mat_no (nm := "touches") M (fun _ _ _ _ _ => rfl)
  refine we_of (pe_callB call_len_seq hg (fr_len T) boot_len (pa_cons (pe_meth0 (pv 5 hN hv hd hcd) (cl_Machine T) me F hr b .nil pass0 ht) pa_nil hs) (he := hs) (hpl := hpl)) ⟨_, h5, A.a, A.dx, fs, rfl, h1, h2, A, m, rfl, M, fun l ts H' e' hl ht => ⟨l, ts, rfl, .inl (SqL.of hl), ?_⟩⟩
  rw [ht]
  exact q H' e'
/-- _law_all_plain(machine, low) -/
theorem we_plain (T : Tx X.prog X.w X.K X.mg X.base) (hr : Room 5 X.A) (h5 : σ[5]? = some (some (.ref A.a))) (h6 : σ[6]? = some (some (.int 16))) (M : MAt X.K H A m) (hp : ∀ w ∈ m.boxes, w.t = false) (hc : ∀ o : Int, 0 ≤ o → o < 8 → (cellW m.cells (16 + o)).t = false) (q : ∀ H', Ex H H' → Q (.bl true) H') (hg : Gl X "_law_all_plain" := by rfl)
    (hN : X.N[5]? = some x := by rfl) (hv : Vis X.env.scope x := by first | exact Or.inl rfl | exact Or.inr (Or.inl rfl) | exact Or.inr (Or.inr rfl)) (hd : (x == ("__debug__" : Str)) = false := by decide) (hcd : (x == ("__classdict__" : Str)) = false := by decide)
    (hN2 : X.N[6]? = some y := by rfl) (hv2 : Vis X.env.scope y := by first | exact Or.inl rfl | exact Or.inr (Or.inl rfl) | exact Or.inr (Or.inr rfl)) (hd2 : (y == ("__debug__" : Str)) = false := by decide) (hcd2 : (y == ("__classdict__" : Str)) = false := by decide)
    (hs : starEach [.Name x p, .Name y p2] X.env = (false, eval (.Name x p) X.env) :: starEach [.Name y p2] X.env := by rfl) (hs2 : starEach [.Name y p2] X.env = (false, eval (.Name y p2) X.env) :: starEach [] X.env := by rfl) (hpl : (backTo pos (starEach [.Name y p2] X.env)).any (·.1) = false := by rfl) :
    wE X (.Call (.Name "_law_all_plain" p3) [.Name x p, .Name y p2] [] pos) σ H Q := by
  obtain ⟨f, fd, F, hm, hk, hb⟩ := fn_all_plain T
  refine we_of (pe_call F hr hg hm hk hb .nil pass0 (pa_cons (pv 5 hN hv hd hcd) (pa_cons (pv 6 hN2 hv2 hd2 hcd2) pa_nil hs2) hs) (by decide) hs hpl) ⟨_, h5, _, h6, A, m, [.int 16], [.int 16], .bool true, rfl, .cons (.int _) .nil, M, ⟨rfl, rfl, hp, hc⟩, fun v H' e' r' => ?_⟩
  rw [dp_bl r']
  exact q H' e'
/-- for x in a list -/
theorem wb_each (i : Nat) (hp : PassesOwn (model X.prog X.w) X.A X.env X.xe) (hc : X.calm = true) (hN : X.N.Nodup)
    (h : wE X e σ H fun v H1 => ∃ (a : Addr) (xs : List V) (inv : Nat → L2.St → Hp → Prop), v = .ref a ∧ SqL X.K H1 a xs ∧ inv 0 σ H1 ∧ (∀ j σ' H', j ≤ xs.length → inv j σ' H' → SqL X.K H' a xs) ∧
      (∀ j z σ' H', xs[j]? = some z → inv j σ' H' → wB X body { D with nx := inv (j + 1), ct := inv (j + 1), bk := fun σ' H' => wB X sts D σ' H' } (σ'.set i (some z)) H') ∧ ∀ σ' H', inv xs.length σ' H' → wB X sts D σ' H')
    (hi : X.N[i]? = some x := by rfl) (hx : Loc X.env.scope x := by first | exact Or.inl rfl | exact Or.inr rfl) (hf : X.fn x = true ∨ X.env.scope.names.lookup x = some .local := by first | exact .inl rfl | exact .inr rfl) (hset : ∀ x, foldedSetIterable e X.env x = pure x := by intro _; rfl) :
    wB X (.For (.Name x p4) e body [] pos :: sts) D σ H := by
  refine wb_cons (ws_of (ps_for hp hc (pi_list pE) (pg_name (i := i) hN hi hx hf) pB hset) (we_mono h fun v H1 ⟨a, xs, inv, e1, hq, h0, hl, hb, hn⟩ => ⟨a, e1, ⟨xs, hq⟩, ?_⟩))
  exact for_list (xs := xs) inv h0 hl (fun j z σ' H' hz hi => hb j z σ' H' hz hi) hn
/-- for x in range(n) -/
theorem wb_times (i n : Nat) (hp : PassesOwn (model X.prog X.w) X.A X.env X.xe) (hc : X.calm = true) (hN : X.N.Nodup) (hm : X.mg "range" = none)
    (h : wE X e σ H fun v H1 => ∃ inv : Nat → L2.St → Hp → Prop, v = .int (n : Nat) ∧ n < 1000 ∧ inv 0 σ H1 ∧ (∀ j σ' H', j < n → inv j σ' H' → wB X body { D with nx := inv (j + 1), ct := inv (j + 1), bk := fun σ' H' => wB X sts D σ' H' } (σ'.set i (some (.int (j : Nat)))) H') ∧ ∀ σ' H', inv n σ' H' → wB X sts D σ' H')
    (hi : X.N[i]? = some x := by rfl) (hx : Loc X.env.scope x := by first | exact Or.inl rfl | exact Or.inr rfl) (hf : X.fn x = true ∨ X.env.scope.names.lookup x = some .local := by first | exact .inl rfl | exact .inr rfl)
    (hg : Gl X "range" := by rfl) (hs : starEach [e] X.env = [(false, eval e X.env)] := by rfl) (hset : ∀ x, foldedSetIterable (.Call (.Name "range" p3) [e] [] p5) X.env x = pure x := by intro _; rfl) :
    wB X (.For (.Name x p4) (.Call (.Name "range" p3) [e] [] p5) body [] pos :: sts) D σ H := by
  obtain ⟨t, Q0, pt, mm, ht⟩ := h
  refine wb_cons (ws_of (ps_for hp hc (pi_range1 hg hm (pa_cons pE pa_nil (hs.trans rfl)) hs) (pg_name (i := i) hN hi hx hf) pB hset) ⟨t, Q0, pt, fun v H1 q0 => ?_, ht⟩)
  obtain ⟨inv, rfl, hn, h0, hb, hd⟩ := mm v H1 q0
  refine ⟨n, rfl, by omega, by omega, for_range (lo := 0) (n := (n : Int).toNat) inv h0 (fun j σ' H' hj hi => ?_) (fun σ' H' hi => hd σ' H' (by simpa using hi))⟩
  have e : (0 : Int) + (j : Int) = (j : Nat) := by omega
  rw [e]
  exact hb j σ' H' (by simpa using hj) hi
/-- a machine of rows -/
theorem we_machine (T : Tx X.prog X.w X.K X.mg X.base) (hr : Room 12 X.A) {l : List Rw} {e2 : Expr} (hk : ∀ r ∈ l, r.ok) (h1 : 1 ≤ l.length) (h2 : l.length ≤ 64) (h : wA X [e, e2] σ H fun vs H1 => DpAll X.K H1 vs [.list [compD l], .str "a"] ∧ ∀ A H', MAt X.K H' A (m0 l) → Ex H1 (cut A.S H') → Q (.ref A.a) H') (hg : Gl X "Machine" := by rfl)
    (he : starEach [e, e2] X.env = (false, eval e X.env) :: starEach [e2] X.env := by rfl) (hpl : (backTo pos (starEach [e2] X.env)).any (·.1) = false := by rfl) : wE X (.Call (.Name "Machine" p) [e, e2] [] pos) σ H Q := by
  obtain ⟨fd, F, ds, rv, hb⟩ := fn_Machine_init T
  obtain ⟨t, Q0, pt, mm, ht⟩ := h
  refine we_of (pe_make (mk_Machine T) F hr hg (gl_Machine T) hb rv pass0 (pA) (by decide) he hpl) ⟨t, Q0, pt, fun vs H1 q0 => ?_, ht⟩
  obtain ⟨rd, q⟩ := mm vs H1 q0
  cases rd with
  | @cons vc _ _ _ rc rd =>
  cases rd with
  | @cons vb _ _ _ rb rd =>
  cases rd
  intro x dx nx ndx hne
  have ex1 : Ex H1 (upd (upd H1 dx (.own x)) x (.ins (cM X.K) dx [])) := ((Ex.refl H1).mut ndx).mut nx
  refine ⟨x, dx, l, vc, vb, rfl, upd_same, dp_ex ex1 _ _ rc, dp_ex ex1 _ _ rb, hk, h1, h2, fun A H' ha M eA fr => ⟨rfl, ?_⟩⟩
  rw [← ha]
  refine q A H' M fun b o hb => ?_
  have hbx : b ≠ x := fun z => by rw [z, nx] at hb; cases hb
  have hb1 : upd (upd H1 dx (.own x)) x (.ins (cM X.K) dx []) b = some o := ex1 _ _ hb
  have hbS : b ∉ A.S := fun z => by
    have := fr b z hbx
    rw [hb1] at this
    cases this
  rw [cut_at hbS]
  exact cut_le _ _ (eA _ _ (by rw [cut_at (by simpa using hbx)]; exact hb1))
end
end Sr

set_option Elab.async false
set_option linter.all false
set_option maxRecDepth 100000
set_option maxHeartbeats 4000000
/-! The law. -/
namespace Sr
open PySem PySem.Spec PyProof.Rows L2
open Evl (Ex)
theorem Rows.fst {l : List Rw} (h : Rows l) (hl : l.length = 38) : Fst l := by
  obtain ⟨ops, tail, e, h8, hop, _, ht⟩ := h.ex
  refine ⟨⟨ops, tail ++ [.go 17], e, h8, hop, fun r hr => ?_⟩, by omega⟩
  rcases List.mem_append.mp hr with z | z
  · exact ht r z
  · rw [List.mem_singleton.mp z]
    exact ⟨by decide, by decide⟩
theorem Fst.safe {l : List Rw} (F : Fst l) : Fst (l.filter Rw.safe) := by
  obtain ⟨ops, rest, rfl, h8, hop, hr⟩ := F.ex
  refine ⟨⟨ops, rest.filter Rw.safe, ?_, h8, hop, fun r h => hr r (List.mem_filter.mp h).1⟩, Nat.le_trans (List.length_filter_le _ _) F.few⟩
  rw [List.filter_append, List.filter_append]
  have e1 : headR.filter Rw.safe = headR := rfl
  have e2 : ops.filter Rw.safe = ops := List.filter_eq_self.mpr fun r h => by
    obtain ⟨i, hi⟩ := List.mem_iff_getElem?.mp h
    obtain ⟨x, _, e⟩ := hop i r hi
    rw [e]
    rfl
  rw [e1, e2]
theorem filter_data (l : List Rw) : (l.map Rw.d).filter safeD = (l.filter Rw.safe).map Rw.d := by
  induction l with
  | nil => rfl
  | cons r t ih =>
    rw [List.map_cons, List.filter_cons, List.filter_cons, safe_d]
    cases r.safe with
    | true => rw [if_pos rfl, if_pos rfl, List.map_cons, ih]
    | false => rw [if_neg Bool.false_ne_true, if_neg Bool.false_ne_true, ih]
theorem all_safe {l : List Rw} (h : (l.map Rw.d).filter (fun d => !safeD d) = []) : ∀ r ∈ l, r.safe = true := by
  intro r hr
  have := List.filter_eq_nil_iff.mp h r.d (List.mem_map_of_mem hr)
  rw [safe_d] at this
  simpa using this
section
variable {X : Cx} {a b : Expr} {p pos : Pos} {Δ : Dl} {i j : Int}
theorem ed_min2 [SJ] (hc : X.calm = true) (hm : X.mg "min" = none) (ha : ED X a Δ (.int i)) (hb : ED X b Δ (.int j)) (hg : Gl X "min" := by rfl) (he : starEach [a, b] X.env = (false, eval a X.env) :: starEach [b] X.env := by rfl) (he2 : starEach [b] X.env = (false, eval b X.env) :: starEach [] X.env := by rfl) (hpl : (backTo pos (starEach [b] X.env)).any (·.1) = false := by rfl) :
    ED X (.Call (.Name "min" p) [a, b] [] pos) Δ (.int (if j < i then j else i)) :=
  let ⟨_, pa, ga⟩ := ha.ex
  let ⟨_, pb, gb⟩ := hb.ex
  ⟨_, pe_callB (call_min2 hc) hg hm (by decide +kernel) (pa_cons pa (pa_cons pb pa_nil he2) he) (he := he) (hpl := hpl), fun σ H s Q q => ga σ H s _ fun x H1 e1 r1 => gb σ H1 (s.ex e1) _ fun y H2 e2 r2 => ⟨i, j, by rw [dp_int r1, dp_int r2], q _ H2 (e1.trans e2) (.int _)⟩⟩
theorem ed_max2 [SJ] (hc : X.calm = true) (hm : X.mg "max" = none) (ha : ED X a Δ (.int i)) (hb : ED X b Δ (.int j)) (hg : Gl X "max" := by rfl) (he : starEach [a, b] X.env = (false, eval a X.env) :: starEach [b] X.env := by rfl) (he2 : starEach [b] X.env = (false, eval b X.env) :: starEach [] X.env := by rfl) (hpl : (backTo pos (starEach [b] X.env)).any (·.1) = false := by rfl) :
    ED X (.Call (.Name "max" p) [a, b] [] pos) Δ (.int (if j > i then j else i)) :=
  let ⟨_, pa, ga⟩ := ha.ex
  let ⟨_, pb, gb⟩ := hb.ex
  ⟨_, pe_callB (call_max2 hc) hg hm (by decide +kernel) (pa_cons pa (pa_cons pb pa_nil he2) he) (he := he) (hpl := hpl), fun σ H s Q q => ga σ H s _ fun x H1 e1 r1 => gb σ H1 (s.ex e1) _ fun y H2 e2 r2 => ⟨i, j, by rw [dp_int r1, dp_int r2], q _ H2 (e1.trans e2) (.int _)⟩⟩
/-- fewer slots are told -/
theorem Sl.less [SJ] {K : PySem.W.Frag} {H : Hp} {σ : L2.St} {Δ Δ' : Dl} (s : Sl K H σ Δ) (hl : Δ'.length = Δ.length) (h : ∀ (i : Nat) d, Δ'[i]? = some (some d) → Δ[i]? = some (some d)) : Sl K H σ Δ' := ⟨⟨s.1.1, by rw [s.1.2, hl]⟩, fun i d hd => s.2 i d (h i d hd)⟩
end
section
variable {P : Program} {w : World} {K : PySem.W.Frag} {mg : Str → Option Value} {base : Heap}
def spLaw (K : PySem.W.Frag) : Sp := fun vs H Q _ => ∃ (a : Addr) (ns : List Int), vs = [.ref a] ∧ SqL K H a (ns.map V.int) ∧ ns.length ≤ 63 ∧ ∀ H', Q (.bl true) H'
theorem sc_law : FnScope ["_law_script", "_law_k", "_law_pool_here", "_law_rows_here", "_law_some", "_law_machine", "_law_low", "_law_turn", "_law_many", "_law_word", "_law_row_here"] ["_law_script"] (defScope t_law) := ⟨rfl, rfl, rfl, by decide +kernel, rfl, by decide +kernel, by decide +kernel⟩
abbrev lawX (P : Program) (w : World) (K : PySem.W.Frag) (mg : Str → Option Value) (base : Heap) (cdv : Value) (A : Around) (outer : List Env) (s : Shared) (H : Hp) (E : XK) : Cx := (cxOf CX0 P w K mg base ["_law_script", "_law_k", "_law_pool_here", "_law_rows_here", "_law_some", "_law_machine", "_law_low", "_law_turn", "_law_many", "_law_word", "_law_row_here"] "law" (defScope t_law) (He.fAd K d_law.at_) cdv A outer s H E).nox
def lawFor : List Stmt := match defBody t_law with | .For _ _ b _ _ :: _ => b | _ => []
def lawSome : List Stmt := match lawFor with | [_, _, .For _ _ b _ _] => b | _ => []
def lawTurn : List Stmt := match lawSome with | [_, _, _, _, _, .For _ _ b _ _] => b | _ => []
def lawWord : List Stmt := match lawTurn with | [_, _, .For _ _ b _ _] => b | _ => []
/-- what is told of the slots -/
def lawD (ns : List Int) (rows l : List Rw) : Dl := [some (.list (ns.map .int)), none, none, some (.list (rows.map Rw.d)), some (.list (l.map Rw.d)), none, some (.int 16), none, some (.int 9), none, none]
theorem law_word (T : Tx P w K mg base) {cdv : Value} {Ar : Around} {outer : List Env} {s : Shared} {H0 H : Hp} {E : XK} (hr : Room 12 (lawX P w K mg base cdv Ar outer s H0 E).A) {D : Ends} {σ : L2.St} {Δ : Dl} {v : Wv} (s0 : @Sl sjT K H σ (Δ.set 9 (some v.d))) (h9 : Δ.length = 11) (ok : v.Ok) (mi : v.mild = true) (q : ∀ H', Ex H H' → D.nx σ H') :
    wB (lawX P w K mg base cdv Ar outer s H0 E) lawWord D σ H := by
  letI : SJ := sjT
  have g9 : (Δ.set 9 (some v.d))[9]? = some (some v.d) := List.getElem?_set_self (by rw [h9]; decide)
  refine wb_one (ws_if (wt_td (b := false) ?_ s0 fun H1 e1 => wb_nil (q H1 e1)))
  cases v with
  | pl b => exact td_is (WD.t (wd_and (q := false) (td_val (ed_ixT (ed_var 9 g9) ed_int)) fun hb => Bool.noConfusion hb)) rfl
  | mk l h a k r =>
    refine td_is (WD.t (wd_and (td_val (ed_ixT (ed_var 9 g9) ed_int)) fun _ => wd_and1 (td_ni (d1 := .str r.s) (ed_ixT (ed_call (pf_fields_of T) (hr.mono (by decide)) (ad_cons (ed_var 9 g9) ad_nil) (mk_fields ok)) ed_int) (ed_tup (ad_cons ed_str (ad_cons ed_str (ad_cons ed_str (ad_cons ed_str ad_nil))))) (.inl rfl)))) ?_
    cases r <;> first | rfl | cases mi
/-- a turn of the second loop -/
theorem law_turn (T : Tx P w K mg base) {cdv : Value} {Ar : Around} {outer : List Env} {s : Shared} {H0 H G : Hp} {E : XK} (hr : Room 12 (lawX P w K mg base cdv Ar outer s H0 E).A) {D : Ends} {σ : L2.St} {A : Ad} {m : Ms} {ns : List Int} {rows l : List Rw}
    (L : LS K G A m σ (lawD ns rows l) H) (La : Lat l m) (hl : l.length ≤ 64) (q : ∀ m' σ' H', Lat l m' → LS K G A m' σ' (lawD ns rows l) H' → D.nx σ' H') :
    wB (lawX P w K mg base cdv Ar outer s H0 E) lawTurn D σ H := by
  letI : SJ := sjT
  have hst : ∃ m', ((m.out = true ∧ m' = m) ∨ (m.out = false ∧ m.allOk ∧ m.row.Ok ∧ m.row.t = true ∧ StepTo m m')) ∧ Lat l m' := by
    cases ho : m.out with
    | true => exact ⟨m, .inl ⟨rfl, rfl⟩, La⟩
    | false =>
      obtain ⟨m', h1, h2⟩ := La.step
      obtain ⟨a, b, c, e, ok⟩ := La.row
      exact ⟨m', .inr ⟨rfl, La.ok, ok, by rw [e]; rfl, h1⟩, h2⟩
  obtain ⟨m', hs, La'⟩ := hst
  refine wb_step T (hr.mono (by decide)) L hs fun H1 L1 => ?_
  have hitm : ∀ d ∈ l.map Rw.d, ∃ r : Rw, r.ok ∧ d = r.d := fun d hd => by
    obtain ⟨r, h1, rfl⟩ := List.mem_map.mp hd
    exact ⟨r, La.rok r h1, rfl⟩
  obtain ⟨tm, q1, q2⟩ := pf_blk (hr.mono (by decide : 1 ≤ 12)) (pf__law_is_safe T)
  have rest : ∀ {H2 : Hp}, LS K G A m' σ (lawD ns rows l) H2 → wB (lawX P w K mg base cdv Ar outer s H0 E) (match lawTurn with | [_, _, st] => [st] | _ => []) D σ H2 := fun {H2} L2 => by
    refine (wb_each 9 PassesOwn.never rfl sc_law.nd (we_boxes T (hr.mono (by decide)) L2.h5 L2.M fun b xs H3 e3 hb dx => ⟨b, xs, fun _ σ' H' => LS K G A m' σ' (lawD ns rows l) H' ∧ Ex H3 H', rfl, SqL.of hb, ⟨L2.ex e3, Ex.refl _⟩, ?_, ?_, ?_⟩))
    · intro j σ' H' _ h
      exact Evl.ex_l h.2 (SqL.of hb)
    · intro j z σ' H' hz h
      have hm : j < m'.boxes.length := by
        have := (List.getElem?_eq_some_iff.mp hz).1
        rw [dpa_len dx, List.length_map] at this
        exact this
      have hw : (m'.boxes.map Wv.d)[j]? = some (m'.boxes[j]).d := by rw [List.getElem?_map, List.getElem?_eq_getElem hm]; rfl
      obtain ⟨z', hz', rz⟩ := dpa_get dx hw
      rw [hz] at hz'
      cases hz'
      have hmem := List.getElem_mem hm
      refine law_word T hr (Δ := lawD ns rows l) (v := m'.boxes[j]) (Sl.set h.1.sl (dp_ex h.2 _ _ rz) trivial) rfl (La'.ok _ hmem) (La'.mild _ hmem) fun H4 e4 => ⟨(h.1.skip 9 (some z) rfl (by decide)).ex e4, h.2.trans e4⟩
    · intro σ' H' h
      exact wb_nil (q m' σ' H' La' h.1)
  have comp : @EL sjT (lawX P w K mg base cdv Ar outer s H0 E) (match lawTurn with | [_, .If (.Compare e _ _ _) _ _ _, _] => e | _ => default) (lawD ns rows l) ((l.map Rw.d).filter fun d => !safeD d) :=
    el_is (el_lc (items := l.map Rw.d) (own := [("_law_row_here", 10)]) (p := fun d => !safeD d) (out := fun d => d) (fun d => (lawD ns rows l).set 10 (some d)) rfl sc_law.nd (id_list (ed_var 4)) (blkOk_by (by rfl)) (fun _ _ _ _ _ => pg_name sc_law.nd rfl (.inl rfl)) (fun d hd => gw_name 10) (fun _ _ _ _ _ => pts_one (pt_not (pt_val (q1 _ _ _ _ _ _ _ _ _ _ rfl (pa_cons (pv 10) pa_nil) (by decide) rfl rfl)))) (fun d hd => by
      obtain ⟨r, hr1, rfl⟩ := hitm d hd
      refine gt_not (gt_B' (q2 _ [r.d] _ _ (ga_cons (ge_var rfl) ga_nil) ⟨r, rfl, ?_⟩))
      rw [safe_d]) (fun _ _ _ _ _ => pv 10) (fun d hd hp => ge_var rfl) (fun d hd hp => by
      obtain ⟨r, hr1, rfl⟩ := hitm d hd
      exact rw_tup r) (by rw [List.length_map]; exact Nat.lt_of_le_of_lt hl (by decide))) (List.map_id _)
  refine wb_cons (ws_if (wt_td (td_eq (hr.units) (EL.ed comp) (ed_lst ad_nil) ?_ rfl) L1.sl fun H2 e2 => ?_))
  · exact shaped_rows fun d hd => hitm d (List.mem_filter.mp hd).1
  · have L2 := L1.ex e2
    split
    · rename_i hb
      have hsafe := all_safe (eqv_nil hb)
      have hpl := La'.plain hsafe
      have v6 : ∃ v, σ[6]? = some (some v) ∧ Dp K H2 v (.int 16) := L2.sl.2 6 _ rfl
      obtain ⟨v6, a6, d6⟩ := v6
      have ev := dp_int d6
      subst ev
      have v8 : ∃ v, σ[8]? = some (some v) ∧ Dp K H2 v (.int 9) := L2.sl.2 8 _ rfl
      obtain ⟨v8, a8, d8⟩ := v8
      have ev := dp_int d8
      subst ev
      refine wb_one (ws_if (wt_of (PW.pt (pw_or (pt_not (pt_val pE)) (pw_or1 (pt_cmpR op_ne pE (pv 8) (nomark _))))) (we_plain T (hr.mono (by decide)) L2.h5 a6 L2.M hpl La'.cells fun H3 e3 => ⟨true, rfl, ?_⟩)))
      show (if (!true) = true then _ else _)
      rw [if_neg (by decide)]
      have L3 := L2.ex e3
      refine we_touches T (hr.mono (by decide)) L3.h5 L3.M fun H4 e4 => ⟨_, a8, ?_⟩
      rw [La'.many]
      refine ⟨rfl, false, rfl, ?_⟩
      show (if false = true then _ else _)
      rw [if_neg (by decide)]
      exact wb_nil (rest (L3.ex e4))
    · exact wb_nil (rest L2)
end
end Sr

set_option Elab.async false
set_option linter.all false
set_option maxRecDepth 100000
set_option maxHeartbeats 4000000
/-! The law, to its end. -/
namespace Sr
open PySem PySem.Spec PyProof.Rows L2
open Evl (Ex)
theorem Ear.plain {l : List Rw} {m : Ms} (E : Ear l 17 m) : ∀ w ∈ m.boxes, w.t = false := by
  obtain ⟨h1, h2, h3⟩ := E.b (by decide)
  intro w hw
  obtain ⟨j, hj⟩ := List.mem_iff_getElem?.mp hw
  have : j < m.boxes.length := (List.getElem?_eq_some_iff.mp hj).1
  exact h3 j w (by have := E.len; omega) hj
theorem Ear.rowOk {l : List Rw} (F : Fst l) {i : Nat} {m : Ms} (E : Ear l i m) (hi : i < 17) : m.row.Ok ∧ m.row.t = true := by
  rw [E.row]
  exact ⟨F.fl.at_ (a' := ((i : Nat) : Int)) (by omega) (by omega), rfl⟩
section
variable {P : Program} {w : World} {K : PySem.W.Frag} {mg : Str → Option Value} {base : Heap}
def lwB (ns : List Int) (rows l : List Rw) : Dl := [some (.list (ns.map .int)), none, none, some (.list (rows.map Rw.d)), some (.list (l.map Rw.d)), none, none, none, none, none, none]
def lwC (ns : List Int) (rows : List Rw) : Dl := [some (.list (ns.map .int)), none, none, some (.list (rows.map Rw.d)), none, none, none, none, none, none, none]
theorem law_some (T : Tx P w K mg base) {cdv : Value} {Ar : Around} {outer : List Env} {s : Shared} {H0 H : Hp} {E : XK} (hr : Room 12 (lawX P w K mg base cdv Ar outer s H0 E).A) {D : Ends} {σ : L2.St} {ns : List Int} {rows l : List Rw}
    (s0 : @Sl sjT K H σ (lwB ns rows l)) (F : Fst l) (q : ∀ σ' H', Ex H H' → @Sl sjT K H' σ' (lwC ns rows) → D.nx σ' H') :
    wB (lawX P w K mg base cdv Ar outer s H0 E) lawSome D σ H := by
  letI : SJ := sjT
  have hlen : σ.length = 11 := s0.1.2
  have l17 := F.len
  refine wb_set 5 sc_law.nd (we_machine T hr F.ok (by omega) F.few (wa_ad (ad_cons (ed_lst (ad_cons (ed_tup (ad_cons ed_str (ad_cons (ed_var 4) (ad_cons (ed_tup ad_nil) (ad_cons ed_int (ad_cons (ed_tup ad_nil) ad_nil)))))) ad_nil)) (ad_cons ed_str ad_nil)) s0 fun vs H1 e1 r1 => ⟨r1, fun A H2 M eA => ?_⟩))
  have L : LS K H1 A (m0 l) (σ.set 5 (some (.ref A.a))) (lwB ns rows l) H2 := ⟨Sl.skip (Sl.ex s0 e1) rfl trivial, List.getElem?_set_self (by rw [hlen]; decide), M, eA⟩
  refine wb_set 6 sc_law.nd (we_of (pe_ix ix_tup pE pe_int (fun _ _ => rfl)) (we_pf (pf_fields_of T) (hr.mono (by decide)) (ds := [(Wv.mk 16 24 16 0 .cell).d]) (mk_fields fl_cell) (wa_of (pa_cons (pe_ix ix_list pE pe_int (fun _ _ => rfl)) pa_nil) (we_boxes T (hr.mono (by decide)) L.h5 L.M fun lb xs H3 e3 hb dx => ?_))))
  obtain ⟨v7, a7, d7⟩ := atI_dp (i := 7) (d := (Wv.mk 16 24 16 0 .cell).d) dx rfl
  refine ⟨lb, xs, 7, v7, rfl, rfl, SqL.of hb, a7, .cons d7 .nil, fun v H4 e4 r4 => ?_⟩
  obtain ⟨tf, fs, rfl, htf, rfs⟩ := dp_tup r4
  cases rfs with
  | cons ra rfs =>
  cases rfs with
  | cons rb rfs =>
  cases rfs with
  | cons rc rfs =>
  cases rfs with
  | cons rd rfs =>
  cases rfs with
  | cons re rfs =>
  cases rfs
  have ev := dp_int ra
  subst ev
  refine ⟨tf, _, 0, _, rfl, rfl, htf, rfl, ?_⟩
  have L1 := ((L.ex e3).ex e4).int 6 16 (by decide)
  refine wb_times 7 17 PassesOwn.never rfl sc_law.nd (fr_range T) (we_of pe_int ⟨fun j σ' H' => ∃ m, Ear l j m ∧ LS K H1 A m σ' ((lwB ns rows l).set 6 (some (.int 16))) H', rfl, by decide, ⟨m0 l, ear0 l, L1⟩, fun j σ' H' hj ⟨m, Em, Lm⟩ => ?_, fun σ' H' ⟨m, Em, Lm⟩ => ?_⟩)
  · obtain ⟨m', hst, E'⟩ := Em.step F hj
    obtain ⟨ro, rt⟩ := Em.rowOk F hj
    exact wb_step T (hr.mono (by decide)) (Lm.skip 7 _ rfl (by decide)) (.inr ⟨Em.out, Em.ok, ro, rt, hst⟩) fun H5 L5 => wb_nil ⟨m', E', L5⟩
  have La := Em.last F
  refine wb_set 8 sc_law.nd (we_touches T (hr.mono (by decide)) Lm.h5 Lm.M fun H5 e5 => ?_)
  rw [La.many]
  have L5 : LS K H1 A m (σ'.set 8 (some (.int 9))) (lawD ns rows l) H5 := (Lm.ex e5).int 8 9 (by decide)
  have v6 : ∃ v, (σ'.set 8 (some (.int 9)))[6]? = some (some v) ∧ Dp K H5 v (.int 16) := L5.sl.2 6 _ rfl
  obtain ⟨v6, a6, d6⟩ := v6
  have ev := dp_int d6
  subst ev
  have v8 : ∃ v, (σ'.set 8 (some (.int 9)))[8]? = some (some v) ∧ Dp K H5 v (.int 9) := L5.sl.2 8 _ rfl
  obtain ⟨v8, a8, d8⟩ := v8
  have ev := dp_int d8
  subst ev
  refine wb_cons (ws_if (wt_of (PW.pt (pw_or (pt_cmpR op_ne (pv 8) pe_int (nomark _)) (pw_or1 (pt_not (pt_val pE))))) ⟨_, a8, rfl, false, rfl, ?_⟩))
  show (if false = true then _ else _)
  rw [if_neg (by decide)]
  refine we_plain T (hr.mono (by decide)) L5.h5 a6 L5.M Em.plain La.cells fun H6 e6 => ⟨true, rfl, ?_⟩
  show (if (!true) = true then _ else _)
  rw [if_neg (by decide)]
  refine wb_nil ?_
  refine wb_times 7 60 PassesOwn.never rfl sc_law.nd (fr_range T) (we_of pe_int ⟨fun j σ' H' => ∃ m, Lat l m ∧ LS K H1 A m σ' (lawD ns rows l) H', rfl, by decide, ⟨m, La, L5.ex e6⟩, fun j σ' H' hj ⟨m, Lt, Lm⟩ => ?_, fun σ' H' ⟨m, Lt, Lm⟩ => ?_⟩)
  · exact law_turn T hr (Lm.skip 7 _ rfl (by decide)) Lt F.few fun m' σ2 H7 La' L7 => ⟨m', La', L7⟩
  · refine wb_nil (q σ' H' (e1.trans (Lm.e.trans cut_le)) (Sl.less Lm.sl rfl fun i d hd => ?_))
    match i, hd with
    | 0, hd => exact hd
    | 1, hd => cases hd
    | 2, hd => cases hd
    | 3, hd => exact hd
    | 4, hd => cases hd
    | 5, hd => cases hd
    | 6, hd => cases hd
    | 7, hd => cases hd
    | 8, hd => cases hd
    | 9, hd => cases hd
    | 10, hd => cases hd
    | i + 11, hd => cases hd
end
end Sr

set_option Elab.async false
set_option linter.all false
set_option maxRecDepth 100000
set_option maxHeartbeats 4000000
/-! The law answers True. -/
namespace Sr
open PySem PySem.Spec PyProof.Rows L2
open Evl (Ex)
def someRows : List Rw := headR ++ ([.op "plus" 0 (.worth 0), .op "plus" 1 (.worth 0), .op "plus" 2 (.worth 0), .op "plus" 3 (.worth 0), .op "plus" 4 (.worth 0), .op "plus" 5 (.worth 0), .op "plus" 6 (.worth 0), .op "plus" 7 (.worth 0)] ++ (List.replicate 20 (.go 0) ++ [.go 17]))
theorem some_rows : Rows someRows ∧ someRows.length = 38 := by
  refine ⟨⟨_, _, rfl, rfl, fun i r h => ⟨"plus", List.mem_cons_self, ?_⟩, Nat.le_of_ble_eq_true rfl, fun r hr => ?_⟩, rfl⟩
  · match i, h with
    | 0, h => cases h; rfl
    | 1, h => cases h; rfl
    | 2, h => cases h; rfl
    | 3, h => cases h; rfl
    | 4, h => cases h; rfl
    | 5, h => cases h; rfl
    | 6, h => cases h; rfl
    | 7, h => cases h; rfl
    | i + 8, h => cases h
  · rw [List.eq_of_mem_replicate hr]
    exact ⟨by decide, by decide⟩
section
variable {P : Program} {w : World} {K : PySem.W.Frag} {mg : Str → Option Value} {base : Heap}
def lw0 (ns : List Int) : Dl := [some (.list (ns.map .int)), none, none, none, none, none, none, none, none, none, none]
theorem law_k (T : Tx P w K mg base) {cdv : Value} {Ar : Around} {outer : List Env} {s : Shared} {H0 H : Hp} {E : XK} (hr : Room 12 (lawX P w K mg base cdv Ar outer s H0 E).A) {D : Ends} {σ : L2.St} {ns : List Int} {k : Nat}
    (s0 : @Sl sjT K H σ ((lw0 ns).set 1 (some (.int (k : Nat))))) (hk : k < 5) (hn : ns.length ≤ 63) (q : ∀ σ' H', Ex H H' → @Sl sjT K H' σ' (lw0 ns) → D.nx σ' H') :
    wB (lawX P w K mg base cdv Ar outer s H0 E) lawFor D σ H := by
  letI : SJ := sjT
  have hlen : σ.length = 11 := s0.1.2
  obtain ⟨fdp, FP, bP⟩ := fn_pool T
  have kP : PySem.W.keepIn K (.ref (He.fAd K d__law_pool.at_)) = true := let ⟨_, F'⟩ := fd__law_pool T; F'.kp
  obtain ⟨v0, a0, d0⟩ := s0.2 0 _ rfl
  obtain ⟨v1, a1, d1⟩ := s0.2 1 _ rfl
  refine wb_set 2 sc_law.nd (we_of (pe_call FP (hr.mono (by decide)) rfl (gl__law_pool T) kP bP .nil pass0 (pa_cons (pv 0) (pa_cons (pv 1) pa_nil))) ⟨v0, a0, v1, a1, ns, (k : Nat), .cons d0 (.cons d1 .nil), hn, by omega, by omega, fun p a b H1 hp e1 hl => ?_⟩)
  have hpS : (σ.set 2 (some (.ref p)))[2]? = some (some (.ref p)) := List.getElem?_set_self (by rw [hlen]; decide)
  have eC : Ex H (cut [p] H1) := fun c o hc => by
    rw [cut_at (by simp; intro z; rw [z, hp] at hc; cases hc)]
    exact e1 _ _ hc
  obtain ⟨fR, fdR, psR, FR, gR, kR, bR⟩ := (pfp_rows_of T).ex
  refine wb_set 3 sc_law.nd (we_of (pe_call FR (hr.mono (by decide)) rfl gR kR bR .nil pass0 (pa_cons (pv 2) pa_nil)) ⟨_, hpS, p, [], [], rfl, .nil, ⟨a, b, hl⟩, ⟨_, rfl, someRows, some_rows.1, some_rows.2, rfl⟩, fun v H2 s2 hR e2 hpl hv => ?_⟩)
  obtain ⟨_, rows, hrows, h38, rfl⟩ := hR
  obtain ⟨l0, xs, rfl, hn0, hl0, dxs⟩ := hv
  have F := hrows.fst h38
  have e02 : Ex H H2 := (eC.trans e2).trans cut_le
  have s2 : @Sl sjT K H2 ((σ.set 2 (some (.ref p))).set 3 (some (.ref l0))) (lwC ns rows) := by
    have z := (Sl.set (Sl.skip (Sl.ex s0 e02) (i := 2) (y := some (.ref p)) rfl trivial) (i := 3) (v := .ref l0) (d := .list (rows.map Rw.d)) (.lst (SqL.of (cut_le _ _ hl0)) (dps_ex cut_le _ _ dxs)) trivial)
    refine Sl.less z rfl fun i d hd => ?_
    match i, hd with
    | 0, hd => exact hd
    | 1, hd => cases hd
    | 2, hd => cases hd
    | 3, hd => exact hd
    | 4, hd => cases hd
    | 5, hd => cases hd
    | 6, hd => cases hd
    | 7, hd => cases hd
    | 8, hd => cases hd
    | 9, hd => cases hd
    | 10, hd => cases hd
    | i + 11, hd => cases hd
  have hitm : ∀ d ∈ rows.map Rw.d, ∃ r : Rw, r.ok ∧ d = r.d := fun d hd => by
    obtain ⟨r, h1, rfl⟩ := List.mem_map.mp hd
    exact ⟨r, F.ok r h1, rfl⟩
  obtain ⟨tm, q1, q2⟩ := pf_blk (hr.mono (by decide : 1 ≤ 12)) (pf__law_is_safe T)
  have comp : @EL sjT (lawX P w K mg base cdv Ar outer s H0 E) (match lawFor with | [_, _, .For _ (.List [_, e] _) _ _ _] => e | _ => default) (lwC ns rows) ((rows.map Rw.d).filter safeD) :=
    el_is (el_lc (items := rows.map Rw.d) (own := [("_law_row_here", 10)]) (p := safeD) (out := fun d => d) (fun d => (lwC ns rows).set 10 (some d)) rfl sc_law.nd (id_list (ed_var 3)) (blkOk_by (by rfl)) (fun _ _ _ _ _ => pg_name sc_law.nd rfl (.inl rfl)) (fun d hd => gw_name 10) (fun _ _ _ _ _ => pts_one (pt_val (q1 _ _ _ _ _ _ _ _ _ _ rfl (pa_cons (pv 10) pa_nil) (by decide) rfl rfl))) (fun d hd => by
      obtain ⟨r, hr1, rfl⟩ := hitm d hd
      refine gt_B' (q2 _ [r.d] _ _ (ga_cons (ge_var rfl) ga_nil) ⟨r, rfl, ?_⟩)
      rw [safe_d]) (fun _ _ _ _ _ => pv 10) (fun d hd hp => ge_var rfl) (fun d hd hp => by
      obtain ⟨r, hr1, rfl⟩ := hitm d hd
      exact rw_tup r) (by rw [List.length_map, h38]; decide)) (List.map_id _)
  obtain ⟨t, pt, gt⟩ := comp.ex
  have h3S : ((σ.set 2 (some (.ref p))).set 3 (some (.ref l0)))[3]? = some (some (.ref l0)) := List.getElem?_set_self (by rw [List.length_set, hlen]; decide)
  refine wb_each 4 PassesOwn.never rfl sc_law.nd (we_of (pe_lst (pa_cons (pv 3) (pa_cons pt pa_nil))) ⟨_, h3S, gt _ H2 s2 _ fun l1 ys H3 hn1 e3 hl1 dys => ⟨Nat.le_of_ble_eq_true rfl, fun L hL => ?_⟩⟩)
  have e4 : Ex H3 (upd H3 L (.lst [.ref l0, .ref l1])) := Ex.new hL
  rw [filter_data] at dys
  refine ⟨L, _, fun _ σ' H' => @Sl sjT K H' σ' (lwC ns rows) ∧ Ex (upd H3 L (.lst [.ref l0, .ref l1])) H', rfl, SqL.of upd_same, ⟨Sl.ex s2 (e3.trans e4), Ex.refl _⟩, fun j σ' H' _ h => Evl.ex_l h.2 (SqL.of upd_same), fun j z σ' H' hz h => ?_, fun σ' H' h => wb_nil (q σ' H' ((e02.trans (e3.trans e4)).trans h.2) (Sl.less h.1 rfl fun i d hd => ?_))⟩
  · have hj : ∃ l : List Rw, Fst l ∧ Dp K H' z (.list (l.map Rw.d)) := by
      match j, hz with
      | 0, hz => cases hz; exact ⟨rows, F, dp_ex ((e3.trans e4).trans h.2) _ _ (.lst (SqL.of (cut_le _ _ hl0)) (dps_ex cut_le _ _ dxs))⟩
      | 1, hz => cases hz; exact ⟨rows.filter Rw.safe, F.safe, dp_ex (e4.trans h.2) _ _ (.lst (SqL.of hl1) dys)⟩
      | j + 2, hz => cases hz
    obtain ⟨l, Fl', dz⟩ := hj
    exact law_some T hr (Sl.set h.1 (i := 4) dz trivial) Fl' fun σ2 H5 e5 s5 => ⟨s5, h.2.trans e5⟩
  · match i, hd with
    | 0, hd => exact hd
    | 1, hd => cases hd
    | 2, hd => cases hd
    | 3, hd => cases hd
    | 4, hd => cases hd
    | 5, hd => cases hd
    | 6, hd => cases hd
    | 7, hd => cases hd
    | 8, hd => cases hd
    | 9, hd => cases hd
    | 10, hd => cases hd
    | i + 11, hd => cases hd
theorem fn_law (T : Tx P w K mg base) {fd : FuncData} (F : FunD K "law" "law" (defArgs t_law) (defBody t_law) (defScope t_law) [] [] (He.fAd K d_law.at_) fd) : FnOk P w K mg base CX0 13 (He.fAd K d_law.at_) fd ["_law_script"] (spLaw K) := by
  letI : SJ := sjT
  refine F.ok sc_law (fun vs H Q E h => by obtain ⟨a, ns, rfl, _⟩ := h; rfl) (fun cdv Ar outer s H vs Q E hr h => ?_)
  obtain ⟨a, ns, rfl, hS, hn, q⟩ := h
  have s0 : @Sl sjT K H [some (.ref a), none, none, none, none, none, none, none, none, none, none] (lw0 ns) := sl_of rfl fun i d h => by
    match i, h with
    | 0, h => cases h; exact ⟨_, rfl, .lst hS (dpa_of_ints ns)⟩
    | 1, h => cases h
    | 2, h => cases h
    | 3, h => cases h
    | 4, h => cases h
    | 5, h => cases h
    | 6, h => cases h
    | 7, h => cases h
    | 8, h => cases h
    | 9, h => cases h
    | 10, h => cases h
    | i + 11, h => cases h
  show wB (cxOf CX0 P w K mg base ["_law_script", "_law_k", "_law_pool_here", "_law_rows_here", "_law_some", "_law_machine", "_law_low", "_law_turn", "_law_many", "_law_word", "_law_row_here"] "law" (defScope t_law) (He.fAd K d_law.at_) cdv Ar outer s H E) (defBody t_law) _ [some (.ref a), none, none, none, none, none, none, none, none, none, none] H
  refine wb_nox ?_
  have hr' : Room 12 (lawX P w K mg base cdv Ar outer s H E).A := hr
  obtain ⟨n, hn5, en⟩ : ∃ n : Nat, n ≤ 5 ∧ (if (if (5 : Int) < (ns.map PyData.int).length then 5 else ((ns.map PyData.int).length : Int)) > 1 then (if (5 : Int) < (ns.map PyData.int).length then 5 else ((ns.map PyData.int).length : Int)) else 1) = (n : Nat) := by
    refine ⟨(if (if (5 : Int) < (ns.map PyData.int).length then 5 else ((ns.map PyData.int).length : Int)) > 1 then (if (5 : Int) < (ns.map PyData.int).length then 5 else ((ns.map PyData.int).length : Int)) else 1).toNat, ?_, ?_⟩ <;> (repeat' split) <;> omega
  refine wb_times 1 n PassesOwn.never rfl sc_law.nd (fr_range T) (we_ed (ed_max2 rfl (fr_max T) ed_int (ed_min2 rfl (fr_min T) (ed_len (fr_len T) (ed_var 0) (.inl rfl)) ed_int)) s0 fun v H1 e1 r1 => ⟨fun j σ' H' => @Sl sjT K H' σ' (lw0 ns), ?_, by omega, Sl.ex s0 e1, fun j σ' H' hj s1 => ?_, fun σ' H' s1 => ?_⟩)
  · rw [dp_int r1]
    exact congrArg V.int en
  · exact law_k T hr' (Sl.set s1 (i := 1) (v := .int (j : Nat)) (.int _) trivial) (by omega) hn fun σ2 H2 e2 s2 => s2
  · exact wb_one (ws_ret (we_of pe_bl (q H')))
end
end Sr

set_option Elab.async false
set_option linter.all false
set_option maxRecDepth 100000
set_option maxHeartbeats 0
/-! The law holds. -/
namespace Sr
open PySem PySem.Spec PyProof.Rows L2
theorem law_facts {P : Program} {w : World} {K : PySem.W.Frag} {h : Heap} {mg : Str → Option Value} {f : Addr} (X : K.In h) (G : h.Ns mainGlobals mg) (hfa : mg ("law" : Str) = some (.ref f)) (c : SaysM w K) :
    ∃ fd : FuncData, (∀ (s : Shared) (v : Value), BindsTo s fd ⟨[v], []⟩ [("_law_script", v)]) ∧ ∀ base : Heap, K.In base → base.Ns mainGlobals mg → FnOk P w K mg base CX0 13 f fd ["_law_script"] (spLaw K) := by
  have T : Tx P w K mg h := ⟨X, G, c⟩
  obtain ⟨fd, F⟩ := fd_law T
  have e := hfa.symm.trans (gl_law T)
  cases e
  have b := FunD.bindsA (ps := ["_law_script"]) F fun _ _ _ _ _ _ us hl => match us, hl with | [_], _ => rfl
  exact ⟨fd, fun s v => b s [v] rfl, fun base hb hn => fn_law ⟨hb, hn, c⟩ F⟩
end Sr
open PySem PySem.W PySem.Calls PyProof.Rows
theorem PySem.Challenge.cw_sealedreach_k80_whole_no_mark_of_plain_s_holds : PySem.Challenge.rw_sealedreach_k80_whole_no_mark_of_plain_s.Holds := by
  w_on; o_law
  refine HandSHeadRun.head_any (r := OpenLaw.row PySem.Challenge.rw_sealedreach_k80_whole_no_mark_of_plain_s) (q := view (OpenLaw.row PySem.Challenge.rw_sealedreach_k80_whole_no_mark_of_plain_s).prog [159]) (H := Sr.hookM) (ob := Sr.ob) (M := 12000) (loose := Sr.names) (d := HandSHeadRun.topDef (OpenLaw.row PySem.Challenge.rw_sealedreach_k80_whole_no_mark_of_plain_s).prog 159) (kwd := []) Sr.ob_eq
    (by kernel_rfl) (fun s => by kernel_rfl) Sr.run (by kernel_rfl) (by kernel_rfl) (by kernel_rfl) (by rfl) (by first | assumption | decide +kernel) (by decide +kernel) ⟨rfl, rfl, rfl, rfl, rfl, by decide +kernel⟩ ?hw ?hc
  case hw => w_witness2
  case hc =>
    refine L2.walk_ofE (l := PySem.Challenge.rw_sealedreach_k80_whole_no_mark_of_plain_s) (n := 63) (k := 13) (x := "_law_script") (CX := L2.CX0) rfl (by decide) (by kernel_rfl) ⟨rfl, by decide, by decide⟩ ?F (fun _ _ _ _ z => z)
    intro w mg fa h Y G hmg0
    obtain ⟨K, KX, c⟩ := Y
    have hmg : mg ("law" : PySem.Str) = some (.ref fa) := by
      have e : (HandSHeadRun.topDef (OpenLaw.row PySem.Challenge.rw_sealedreach_k80_whole_no_mark_of_plain_s).prog 159).name = ("law" : PySem.Str) := by kernel_rfl
      rw [← e]
      exact hmg0
    obtain ⟨fd, hb, hF⟩ := Sr.law_facts (P := (PySem.Challenge.rw_sealedreach_k80_whole_no_mark_of_plain_s).prog) (w := w) KX G hmg c
    exact ⟨K, fd, Sr.spLaw K, KX, hb, fun H a ns hl _ hS => ⟨a, ns, rfl, hS, hl, fun _ => rfl⟩, hF⟩
