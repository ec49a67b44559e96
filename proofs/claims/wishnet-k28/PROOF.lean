import PyProof.Rows.All
import Wide.All
import OpenK.AllK
import Wide.FinOn
import HandS.ForMost
import HandS.Walk
import HandS.Wide
import HandS.WideBits
import HandS.StrMore
import HandS.SortInts
import HandS.Strs
import HandS.IsInst
import HandS.Defaults
import HandS.MakeKwOnly
import HandS.Head0
import HandS.Head1
import HandS.Head2
import HandS.HeadEnd
import HandS.HeadHook1
import HandS.HeadHook2
import HandS.Style
import HandS.SetFor
import KE.KDictZip
import KE.KTurns
import HandS.Iter
import HandS.SortRule
import PyProof.Rows.SortShellAny
import HandS.TupAny
import HandS.Deep
import HandS.Conv
import HandS.TupSets
import HandS.Dict
import HandS.DictTup
import KE.KDictDisplayH
import KE.KSortTupG
import KE.KDictList
import KE.KDictPairs
import KE.DataCmp
import KE.SortData
import PyProof.ListRange
import HandS.DictComp
import Lean
import HandS.WordsExc
import PySem.Challenge.RW_wishnet_k28_whole_within_fewer_past_more
set_option Elab.async false
set_option linter.all false
set_option maxRecDepth 100000
set_option maxHeartbeats 4000000
/-! My base, part 1: data, their standing in a heap, growth of heaps. -/
namespace G
open PySem PySem.Spec L2 PyProof.Rows TL

/-! ### data by type -/
class Enc (α : Type) where
  d : α → PyData
instance : Enc Int := ⟨.int⟩
instance : Enc Bool := ⟨.bool⟩
instance : Enc Str := ⟨.str⟩
instance : Enc Unit := ⟨fun _ => .none⟩
def encO {α : Type} (f : α → PyData) : Option α → PyData
  | none => .none
  | some x => f x
instance {α : Type} [Enc α] : Enc (Option α) := ⟨encO Enc.d⟩
instance {α : Type} [Enc α] : Enc (List α) := ⟨fun xs => .list (xs.map Enc.d)⟩
instance {α β : Type} [Enc α] [Enc β] : Enc (α × β) := ⟨fun p => .tuple [Enc.d p.1, Enc.d p.2]⟩
structure T3 (α β γ : Type) where
  a : α
  b : β
  c : γ
  deriving DecidableEq
structure T4 (α β γ δ : Type) where
  a : α
  b : β
  c : γ
  e : δ
  deriving DecidableEq
structure T5 (α β γ δ ε : Type) where
  a : α
  b : β
  c : γ
  e : δ
  f : ε
  deriving DecidableEq
structure VT (α : Type) where
  l : List α
  deriving DecidableEq
instance {α β γ : Type} [Enc α] [Enc β] [Enc γ] : Enc (T3 α β γ) := ⟨fun p => .tuple [Enc.d p.a, Enc.d p.b, Enc.d p.c]⟩
instance {α β γ δ : Type} [Enc α] [Enc β] [Enc γ] [Enc δ] : Enc (T4 α β γ δ) := ⟨fun p => .tuple [Enc.d p.a, Enc.d p.b, Enc.d p.c, Enc.d p.e]⟩
instance {α β γ δ ε : Type} [Enc α] [Enc β] [Enc γ] [Enc δ] [Enc ε] : Enc (T5 α β γ δ ε) := ⟨fun p => .tuple [Enc.d p.a, Enc.d p.b, Enc.d p.c, Enc.d p.e, Enc.d p.f]⟩
instance {α : Type} [Enc α] : Enc (VT α) := ⟨fun p => .tuple (p.l.map Enc.d)⟩

/-- a text that may be handled: no longer than the line, of signs -/
structure GS (x : Str) : Prop where
  len : x.length ≤ sizeLine
  ok : PyData.strOk x = true

mutual
inductive Rp (K : PySem.W.Frag) (F : Hp) : V → PyData → Prop
  | non : Rp K F .non .none
  | bl (b : Bool) : Rp K F (.bl b) (.bool b)
  | int (i : Int) : Rp K F (.int i) (.int i)
  | str (x : Str) : GS x → Rp K F (.str x) (.str x)
  | lst {a : Addr} {xs : List V} {ds : List PyData} : SqL K F a xs → xs.length ≤ sizeLine → RpA K F xs ds → Rp K F (.ref a) (.list ds)
  | tup {a : Addr} {xs : List V} {ds : List PyData} : F a = some (.tup xs) → xs.length ≤ sizeLine → RpA K F xs ds → Rp K F (.ref a) (.tuple ds)
inductive RpA (K : PySem.W.Frag) (F : Hp) : List V → List PyData → Prop
  | nil : RpA K F [] []
  | cons {v : V} {vs : List V} {d : PyData} {ds : List PyData} : Rp K F v d → RpA K F vs ds → RpA K F (v :: vs) (d :: ds)
end
/-- v stands for x -/
abbrev R {α : Type} [Enc α] (K : PySem.W.Frag) (F : Hp) (v : V) (x : α) : Prop := Rp K F v (Enc.d x)
/-- the values vs stand for the things xs -/
abbrev RL {α : Type} [Enc α] (K : PySem.W.Frag) (F : Hp) (vs : List V) (xs : List α) : Prop := RpA K F vs (xs.map Enc.d)

section
variable {K : PySem.W.Frag} {F F' H H' : Hp} {v : V} {vs : List V} {d : PyData} {ds : List PyData} {a p : Addr} {xs : List V}
theorem SqT_mono (e : Same H H') (h : SqT K H a xs) : SqT K H' a xs := by
  rcases h with (h | ⟨o, h⟩) | h
  · exact .inl (.inl (e _ _ h))
  · exact .inl (.inr ⟨o, e _ _ h⟩)
  · exact .inr h
mutual
theorem Rp.mono (e : Same F F') : ∀ (d : PyData) (v : V), Rp K F v d → Rp K F' v d
  | .none, _, h => by cases h; exact .non
  | .bool b, _, h => by cases h; exact .bl b
  | .int i, _, h => by cases h; exact .int i
  | .str x, _, h => by cases h with | str _ g => exact .str x g
  | .list ds, _, h => by cases h with | lst hs hl ha => exact .lst (e.seq hs) hl (RpA.mono e ds _ ha)
  | .tuple ds, _, h => by cases h with | tup hs hl ha => exact .tup (e _ _ hs) hl (RpA.mono e ds _ ha)
  | .dict _, _, h => by cases h
theorem RpA.mono (e : Same F F') : ∀ (ds : List PyData) (vs : List V), RpA K F vs ds → RpA K F' vs ds
  | [], _, h => by cases h; exact .nil
  | d :: ds, _, h => by cases h with | cons h1 h2 => exact .cons (Rp.mono e d _ h1) (RpA.mono e ds _ h2)
end
theorem Rp.up (h : Rp K F v d) (e : Same F F') : Rp K F' v d := Rp.mono e d v h
theorem RpA.up (h : RpA K F vs ds) (e : Same F F') : RpA K F' vs ds := RpA.mono e ds vs h
mutual
theorem Rp.dp : ∀ (d : PyData) (v : V), Rp K F v d → Dp K F v d
  | .none, _, h => by cases h; exact .non
  | .bool b, _, h => by cases h; exact .bl b
  | .int i, _, h => by cases h; exact .int i
  | .str x, _, h => by cases h; exact .str x
  | .list ds, _, h => by cases h with | lst hs hl ha => exact .lst hs (RpA.dp ds _ ha)
  | .tuple ds, _, h => by cases h with | tup hs hl ha => exact .tup (.inl (.inl hs)) (RpA.dp ds _ ha)
  | .dict _, _, h => by cases h
theorem RpA.dp : ∀ (ds : List PyData) (vs : List V), RpA K F vs ds → DpAll K F vs ds
  | [], _, h => by cases h; exact .nil
  | d :: ds, _, h => by cases h with | cons h1 h2 => exact .cons (Rp.dp d _ h1) (RpA.dp ds _ h2)
end
mutual
theorem Rp.lay : ∀ (d : PyData) (v : V), Rp K F v d → d.canLay0 = true
  | .none, _, _ => rfl
  | .bool b, _, _ => rfl
  | .int i, _, _ => rfl
  | .str x, _, h => by cases h with | str _ g => exact g.ok
  | .list ds, _, h => by cases h with | lst hs hl ha => exact RpA.lay ds _ ha
  | .tuple ds, _, h => by cases h with | tup hs hl ha => exact RpA.lay ds _ ha
  | .dict _, _, h => by cases h
theorem RpA.lay : ∀ (ds : List PyData) (vs : List V), RpA K F vs ds → PyData.canLayAll0 ds = true
  | [], _, _ => rfl
  | d :: ds, _, h => by cases h with | cons h1 h2 => exact Bool.and_eq_true_iff.mpr ⟨Rp.lay d _ h1, RpA.lay ds _ h2⟩
end

/-! ### what stands at a value, by its type -/
theorem RpA.length : ∀ {ds : List PyData} {vs : List V}, RpA K F vs ds → vs.length = ds.length
  | [], _, h => by cases h; rfl
  | d :: ds, _, h => by cases h with | cons h1 h2 => exact congrArg Nat.succ h2.length
theorem RpA.get : ∀ {ds : List PyData} {vs : List V} {i : Nat} {v : V}, RpA K F vs ds → vs[i]? = some v → ∃ d, ds[i]? = some d ∧ Rp K F v d
  | [], _, _, _, h, e => by cases h; simp at e
  | d :: ds, _, 0, _, h, e => by cases h with | cons h1 h2 => exact ⟨d, rfl, by simpa using (Option.some.inj e) ▸ h1⟩
  | d :: ds, _, i + 1, v, h, e => by
    cases h with
    | cons h1 h2 =>
      obtain ⟨d', e1, e2⟩ := h2.get (i := i) (v := v) (by simpa using e)
      exact ⟨d', by simpa using e1, e2⟩
theorem RpA.back : ∀ {ds : List PyData} {vs : List V} {i : Nat} {d : PyData}, RpA K F vs ds → ds[i]? = some d → ∃ v, vs[i]? = some v ∧ Rp K F v d
  | [], _, _, _, h, e => by simp at e
  | d :: ds, _, 0, _, h, e => by
    cases h with
    | cons h1 h2 =>
      have e' := Option.some.inj e
      subst e'
      exact ⟨_, rfl, h1⟩
  | d :: ds, _, i + 1, d', h, e => by
    cases h with
    | cons h1 h2 =>
      obtain ⟨v, e1, e2⟩ := h2.back (i := i) (d := d') (by simpa using e)
      exact ⟨v, by simpa using e1, e2⟩
theorem RpA.append : ∀ {ds es : List PyData} {vs us : List V}, RpA K F vs ds → RpA K F us es → RpA K F (vs ++ us) (ds ++ es)
  | [], _, _, _, h, g => by cases h; exact g
  | d :: ds, _, _, _, h, g => by cases h with | cons h1 h2 => exact .cons h1 (h2.append g)
theorem RpA.take : ∀ {ds : List PyData} {vs : List V} (n : Nat), RpA K F vs ds → RpA K F (vs.take n) (ds.take n)
  | _, _, 0, _ => .nil
  | _, _, _ + 1, .nil => .nil
  | _, _, n + 1, .cons h t => .cons h (RpA.take n t)
theorem RpA.drop : ∀ {ds : List PyData} {vs : List V} (n : Nat), RpA K F vs ds → RpA K F (vs.drop n) (ds.drop n)
  | _, _, 0, h => h
  | _, _, _ + 1, .nil => .nil
  | _, _, n + 1, .cons _ t => RpA.drop n t
theorem RpA.set : ∀ {ds : List PyData} {vs : List V} (n : Nat), Rp K F v d → RpA K F vs ds → RpA K F (vs.set n v) (ds.set n d)
  | _, _, _, _, .nil => .nil
  | _, _, 0, r, .cons _ t => .cons r t
  | _, _, n + 1, r, .cons h t => .cons h (RpA.set n r t)
theorem RpA.dropLast {ds : List PyData} {vs : List V} (h : RpA K F vs ds) : RpA K F vs.dropLast ds.dropLast := by
  rw [List.dropLast_eq_take, List.dropLast_eq_take, h.length]
  exact h.take _
theorem RpA.reverse : ∀ {ds : List PyData} {vs : List V}, RpA K F vs ds → RpA K F vs.reverse ds.reverse
  | [], _, h => by cases h; exact .nil
  | d :: ds, _, h => by
    cases h with
    | cons h1 h2 =>
      rw [List.reverse_cons, List.reverse_cons]
      exact h2.reverse.append (.cons h1 .nil)

section
variable {α β γ δ ε : Type} [Enc α] [Enc β] [Enc γ] [Enc δ] [Enc ε]
theorem R.int_v {i : Int} (h : R K F v i) : v = .int i := by cases h; rfl
theorem R.bl_v {b : Bool} (h : R K F v b) : v = .bl b := by cases h; rfl
theorem R.str_v {x : Str} (h : R K F v x) : v = .str x ∧ GS x := by cases h with | str _ g => exact ⟨rfl, g⟩
theorem R.non_v (h : R K F v (none : Option α)) : v = .non := by
  have h' : Rp K F v .none := h
  cases h'
  rfl
theorem R.lst_v {xs : List α} (h : R K F v xs) : ∃ p ws, v = .ref p ∧ SqL K F p ws ∧ ws.length ≤ sizeLine ∧ RL K F ws xs := by
  have h' : Rp K F v (.list (xs.map Enc.d)) := h
  cases h' with | lst h1 h2 h3 => exact ⟨_, _, rfl, h1, h2, h3⟩
theorem R.vt_v {x : VT α} (h : R K F v x) : ∃ p ws, v = .ref p ∧ SqT K F p ws ∧ ws.length ≤ sizeLine ∧ RL K F ws x.l := by
  have h' : Rp K F v (.tuple (x.l.map Enc.d)) := h
  cases h' with | tup h1 h2 h3 => exact ⟨_, _, rfl, .inl (.inl h1), h2, h3⟩
theorem RpA.one {d1 : PyData} (h : RpA K F vs [d1]) : ∃ v1, vs = [v1] ∧ Rp K F v1 d1 := by
  cases h with | cons h1 h2 => cases h2; exact ⟨_, rfl, h1⟩
theorem RpA.two {d1 d2 : PyData} (h : RpA K F vs [d1, d2]) : ∃ v1 v2, vs = [v1, v2] ∧ Rp K F v1 d1 ∧ Rp K F v2 d2 := by
  cases h with | cons h1 h2 => obtain ⟨v2, rfl, r⟩ := h2.one; exact ⟨_, _, rfl, h1, r⟩
theorem RpA.three {d1 d2 d3 : PyData} (h : RpA K F vs [d1, d2, d3]) : ∃ v1 v2 v3, vs = [v1, v2, v3] ∧ Rp K F v1 d1 ∧ Rp K F v2 d2 ∧ Rp K F v3 d3 := by
  cases h with | cons h1 h2 => obtain ⟨v2, v3, rfl, r⟩ := h2.two; exact ⟨_, _, _, rfl, h1, r⟩
theorem RpA.four {d1 d2 d3 d4 : PyData} (h : RpA K F vs [d1, d2, d3, d4]) : ∃ v1 v2 v3 v4, vs = [v1, v2, v3, v4] ∧ Rp K F v1 d1 ∧ Rp K F v2 d2 ∧ Rp K F v3 d3 ∧ Rp K F v4 d4 := by
  cases h with | cons h1 h2 => obtain ⟨v2, v3, v4, rfl, r⟩ := h2.three; exact ⟨_, _, _, _, rfl, h1, r⟩
theorem RpA.five {d1 d2 d3 d4 d5 : PyData} (h : RpA K F vs [d1, d2, d3, d4, d5]) : ∃ v1 v2 v3 v4 v5, vs = [v1, v2, v3, v4, v5] ∧ Rp K F v1 d1 ∧ Rp K F v2 d2 ∧ Rp K F v3 d3 ∧ Rp K F v4 d4 ∧ Rp K F v5 d5 := by
  cases h with | cons h1 h2 => obtain ⟨v2, v3, v4, v5, rfl, r⟩ := h2.four; exact ⟨_, _, _, _, _, rfl, h1, r⟩
theorem R.p2_v {x : α × β} (h : R K F v x) : ∃ p v1 v2, v = .ref p ∧ SqT K F p [v1, v2] ∧ R K F v1 x.1 ∧ R K F v2 x.2 := by
  have h' : Rp K F v (.tuple [Enc.d x.1, Enc.d x.2]) := h
  cases h' with | tup h1 h2 h3 => obtain ⟨v1, v2, rfl, r1, r2⟩ := h3.two; exact ⟨_, _, _, rfl, .inl (.inl h1), r1, r2⟩
theorem R.p3_v {x : T3 α β γ} (h : R K F v x) : ∃ p v1 v2 v3, v = .ref p ∧ SqT K F p [v1, v2, v3] ∧ R K F v1 x.a ∧ R K F v2 x.b ∧ R K F v3 x.c := by
  have h' : Rp K F v (.tuple [Enc.d x.a, Enc.d x.b, Enc.d x.c]) := h
  cases h' with | tup h1 h2 h3 => obtain ⟨v1, v2, v3, rfl, r⟩ := h3.three; exact ⟨_, _, _, _, rfl, .inl (.inl h1), r⟩
theorem R.p4_v {x : T4 α β γ δ} (h : R K F v x) : ∃ p v1 v2 v3 v4, v = .ref p ∧ SqT K F p [v1, v2, v3, v4] ∧ R K F v1 x.a ∧ R K F v2 x.b ∧ R K F v3 x.c ∧ R K F v4 x.e := by
  have h' : Rp K F v (.tuple [Enc.d x.a, Enc.d x.b, Enc.d x.c, Enc.d x.e]) := h
  cases h' with | tup h1 h2 h3 => obtain ⟨v1, v2, v3, v4, rfl, r⟩ := h3.four; exact ⟨_, _, _, _, _, rfl, .inl (.inl h1), r⟩
theorem R.p5_v {x : T5 α β γ δ ε} (h : R K F v x) : ∃ p v1 v2 v3 v4 v5, v = .ref p ∧ SqT K F p [v1, v2, v3, v4, v5] ∧ R K F v1 x.a ∧ R K F v2 x.b ∧ R K F v3 x.c ∧ R K F v4 x.e ∧ R K F v5 x.f := by
  have h' : Rp K F v (.tuple [Enc.d x.a, Enc.d x.b, Enc.d x.c, Enc.d x.e, Enc.d x.f]) := h
  cases h' with | tup h1 h2 h3 => obtain ⟨v1, v2, v3, v4, v5, rfl, r⟩ := h3.five; exact ⟨_, _, _, _, _, _, rfl, .inl (.inl h1), r⟩
theorem R.vt_s {x : VT α} (h : R K F v x) : ∃ p ws, v = .ref p ∧ F p = some (.tup ws) ∧ ws.length ≤ sizeLine ∧ RL K F ws x.l := by
  have h' : Rp K F v (.tuple (x.l.map Enc.d)) := h
  cases h' with | tup h1 h2 h3 => exact ⟨_, _, rfl, h1, h2, h3⟩
theorem R.p2_s {x : α × β} (h : R K F v x) : ∃ p v1 v2, v = .ref p ∧ F p = some (.tup [v1, v2]) ∧ R K F v1 x.1 ∧ R K F v2 x.2 := by
  have h' : Rp K F v (.tuple [Enc.d x.1, Enc.d x.2]) := h
  cases h' with | tup h1 h2 h3 => obtain ⟨v1, v2, rfl, r1, r2⟩ := h3.two; exact ⟨_, _, _, rfl, h1, r1, r2⟩
theorem R.p3_s {x : T3 α β γ} (h : R K F v x) : ∃ p v1 v2 v3, v = .ref p ∧ F p = some (.tup [v1, v2, v3]) ∧ R K F v1 x.a ∧ R K F v2 x.b ∧ R K F v3 x.c := by
  have h' : Rp K F v (.tuple [Enc.d x.a, Enc.d x.b, Enc.d x.c]) := h
  cases h' with | tup h1 h2 h3 => obtain ⟨v1, v2, v3, rfl, r⟩ := h3.three; exact ⟨_, _, _, _, rfl, h1, r⟩
theorem R.p4_s {x : T4 α β γ δ} (h : R K F v x) : ∃ p v1 v2 v3 v4, v = .ref p ∧ F p = some (.tup [v1, v2, v3, v4]) ∧ R K F v1 x.a ∧ R K F v2 x.b ∧ R K F v3 x.c ∧ R K F v4 x.e := by
  have h' : Rp K F v (.tuple [Enc.d x.a, Enc.d x.b, Enc.d x.c, Enc.d x.e]) := h
  cases h' with | tup h1 h2 h3 => obtain ⟨v1, v2, v3, v4, rfl, r⟩ := h3.four; exact ⟨_, _, _, _, _, rfl, h1, r⟩
theorem R.p5_s {x : T5 α β γ δ ε} (h : R K F v x) : ∃ p v1 v2 v3 v4 v5, v = .ref p ∧ F p = some (.tup [v1, v2, v3, v4, v5]) ∧ R K F v1 x.a ∧ R K F v2 x.b ∧ R K F v3 x.c ∧ R K F v4 x.e ∧ R K F v5 x.f := by
  have h' : Rp K F v (.tuple [Enc.d x.a, Enc.d x.b, Enc.d x.c, Enc.d x.e, Enc.d x.f]) := h
  cases h' with | tup h1 h2 h3 => obtain ⟨v1, v2, v3, v4, v5, rfl, r⟩ := h3.five; exact ⟨_, _, _, _, _, _, rfl, h1, r⟩
/-- making them -/
theorem R.mkl {xs : List α} (h1 : SqL K F p vs) (h2 : vs.length ≤ sizeLine) (h3 : RL K F vs xs) : R K F (.ref p) xs := .lst h1 h2 h3
theorem R.mkvt {xs : List α} (h1 : F p = some (.tup vs)) (h2 : vs.length ≤ sizeLine) (h3 : RL K F vs xs) : R K F (.ref p) (VT.mk xs) := .tup h1 h2 h3
theorem R.mk2 {v1 v2 : V} {x : α} {y : β} (h1 : F p = some (.tup [v1, v2])) (r1 : R K F v1 x) (r2 : R K F v2 y) : R K F (.ref p) (x, y) := .tup h1 (by show 2 ≤ sizeLine; decide) (.cons r1 (.cons r2 .nil))
theorem R.mk3 {v1 v2 v3 : V} {x : α} {y : β} {z : γ} (h1 : F p = some (.tup [v1, v2, v3])) (r1 : R K F v1 x) (r2 : R K F v2 y) (r3 : R K F v3 z) : R K F (.ref p) (T3.mk x y z) := .tup h1 (by show 3 ≤ sizeLine; decide) (.cons r1 (.cons r2 (.cons r3 .nil)))
theorem R.mk4 {v1 v2 v3 v4 : V} {x : α} {y : β} {z : γ} {u : δ} (h1 : F p = some (.tup [v1, v2, v3, v4])) (r1 : R K F v1 x) (r2 : R K F v2 y) (r3 : R K F v3 z) (r4 : R K F v4 u) : R K F (.ref p) (T4.mk x y z u) := .tup h1 (by show 4 ≤ sizeLine; decide) (.cons r1 (.cons r2 (.cons r3 (.cons r4 .nil))))
theorem R.mk5 {v1 v2 v3 v4 v5 : V} {x : α} {y : β} {z : γ} {u : δ} {t : ε} (h1 : F p = some (.tup [v1, v2, v3, v4, v5])) (r1 : R K F v1 x) (r2 : R K F v2 y) (r3 : R K F v3 z) (r4 : R K F v4 u) (r5 : R K F v5 t) : R K F (.ref p) (T5.mk x y z u t) := .tup h1 (by show 5 ≤ sizeLine; decide) (.cons r1 (.cons r2 (.cons r3 (.cons r4 (.cons r5 .nil)))))
theorem RL.nil : RL K F [] ([] : List α) := RpA.nil
theorem RL.cons {x : α} {xs : List α} (r : R K F v x) (rs : RL K F vs xs) : RL K F (v :: vs) (x :: xs) := RpA.cons r rs
theorem RL.snoc {x : α} {xs : List α} (rs : RL K F vs xs) (r : R K F v x) : RL K F (vs ++ [v]) (xs ++ [x]) := by
  show RpA K F _ _
  rw [List.map_append]
  exact RpA.append rs (.cons r .nil)
theorem RL.app {us : List V} {xs ys : List α} (rs : RL K F vs xs) (r : RL K F us ys) : RL K F (vs ++ us) (xs ++ ys) := by
  show RpA K F _ _
  rw [List.map_append]
  exact RpA.append rs r
theorem RL.len {xs : List α} (rs : RL K F vs xs) : vs.length = xs.length := by
  have h := RpA.length rs
  rwa [List.length_map] at h
theorem RL.get {xs : List α} {i : Nat} (rs : RL K F vs xs) (e : vs[i]? = some v) : ∃ x, xs[i]? = some x ∧ R K F v x := by
  obtain ⟨d, e1, r⟩ := RpA.get rs e
  rw [List.getElem?_map] at e1
  cases h : xs[i]? with
  | none => rw [h] at e1; cases e1
  | some x =>
    rw [h] at e1
    have e2 : Enc.d x = d := Option.some.inj e1
    subst e2
    exact ⟨x, rfl, r⟩
theorem RL.back {xs : List α} {i : Nat} {x : α} (rs : RL K F vs xs) (e : xs[i]? = some x) : ∃ v, vs[i]? = some v ∧ R K F v x :=
  RpA.back rs (by rw [List.getElem?_map, e]; rfl)
theorem RL.at {xs : List α} {i : Int} {x : α} (rs : RL K F vs xs) (e : atI xs i = some x) : ∃ v, atI vs i = some v ∧ R K F v x := by
  unfold atI at e ⊢
  rw [rs.len]
  cases h : ixN xs.length i with
  | none => rw [h] at e; cases e
  | some j =>
    rw [h] at e
    exact rs.back e
theorem RL.cut {xs : List α} (lo hi : Option Int) (rs : RL K F vs xs) : RL K F (cutV vs lo hi) ((xs.drop (HT.sIx xs.length 0 lo)).take (HT.sIx xs.length xs.length hi - HT.sIx xs.length 0 lo)) := by
  unfold cutV
  rw [rs.len]
  show RpA K F _ _
  rw [List.map_take, List.map_drop]
  exact RpA.take _ (RpA.drop _ rs)
theorem RL.set {xs : List α} {x : α} (i : Nat) (r : R K F v x) (rs : RL K F vs xs) : RL K F (vs.set i v) (xs.set i x) := by
  show RpA K F _ _
  rw [List.map_set]
  exact RpA.set i r rs
theorem RL.rev {xs : List α} (rs : RL K F vs xs) : RL K F vs.reverse xs.reverse := by
  show RpA K F _ _
  rw [List.map_reverse]
  exact RpA.reverse rs
theorem RL.init {xs : List α} (rs : RL K F vs xs) : RL K F vs.dropLast xs.dropLast := by
  show RpA K F _ _
  rw [List.map_dropLast]
  exact RpA.dropLast rs
theorem RL.ints {xs : List Int} (rs : RL K F vs xs) : vs = xs.map V.int := by
  induction xs generalizing vs with
  | nil => cases rs; rfl
  | cons x xs ih => cases rs with | cons r t => rw [R.int_v r, ih t]; rfl
theorem RL.ofInts (xs : List Int) : RL K F (xs.map V.int) xs := by
  induction xs with
  | nil => exact .nil
  | cons x xs ih => exact .cons (.int x) ih
theorem RL.bls {xs : List Bool} (rs : RL K F vs xs) : vs = xs.map V.bl := by
  induction xs generalizing vs with
  | nil => cases rs; rfl
  | cons x xs ih => cases rs with | cons r t => rw [R.bl_v r, ih t]; rfl
theorem RL.strs {xs : List Str} (rs : RL K F vs xs) : vs = xs.map V.str ∧ ∀ x ∈ xs, GS x := by
  induction xs generalizing vs with
  | nil => cases rs; exact ⟨rfl, fun _ h => nomatch h⟩
  | cons x xs ih =>
    cases rs with
    | cons r t =>
      obtain ⟨e, g⟩ := R.str_v r
      obtain ⟨e2, g2⟩ := ih t
      refine ⟨by rw [e, e2]; rfl, fun y hy => ?_⟩
      rcases List.mem_cons.mp hy with rfl | hy
      · exact g
      · exact g2 y hy
theorem RL.ofStrs (xs : List Str) (h : ∀ x ∈ xs, GS x) : RL K F (xs.map V.str) xs := by
  induction xs with
  | nil => exact .nil
  | cons x xs ih => exact .cons (.str x (h x (List.mem_cons_self ..))) (ih fun y hy => h y (List.mem_cons_of_mem _ hy))
end
end

/-! ### how deep a type's data go -/
class Dep (α : Type) [Enc α] where
  n : Nat
  le : ∀ x : α, (Enc.d x).depth ≤ n
instance : Dep Int := ⟨0, fun _ => Nat.le_refl _⟩
instance : Dep Bool := ⟨0, fun _ => Nat.le_refl _⟩
instance : Dep Str := ⟨0, fun _ => Nat.le_refl _⟩
instance {α : Type} [Enc α] [Dep α] : Dep (Option α) := ⟨Dep.n α, fun o => by
  cases o with
  | none => exact Nat.zero_le _
  | some x => exact Dep.le x⟩
theorem depthAll_le {α : Type} [Enc α] [Dep α] : ∀ xs : List α, PyData.depthAll (xs.map Enc.d) ≤ Dep.n α
  | [] => Nat.zero_le _
  | x :: xs => Nat.max_le.mpr ⟨Dep.le x, depthAll_le xs⟩
instance {α : Type} [Enc α] [Dep α] : Dep (List α) := ⟨Dep.n α + 1, fun xs => Nat.succ_le_succ (depthAll_le xs)⟩
instance {α : Type} [Enc α] [Dep α] : Dep (VT α) := ⟨Dep.n α + 1, fun xs => Nat.succ_le_succ (depthAll_le xs.l)⟩
instance {α β : Type} [Enc α] [Enc β] [Dep α] [Dep β] : Dep (α × β) := ⟨max (Dep.n α) (Dep.n β) + 1, fun p => by
  have h1 := Dep.le p.1
  have h2 := Dep.le p.2
  show PyData.depthAll [Enc.d p.1, Enc.d p.2] + 1 ≤ _
  simp only [PyData.depthAll]
  omega⟩
instance {α β γ : Type} [Enc α] [Enc β] [Enc γ] [Dep α] [Dep β] [Dep γ] : Dep (T3 α β γ) := ⟨max (Dep.n α) (max (Dep.n β) (Dep.n γ)) + 1, fun p => by
  have h1 := Dep.le p.a
  have h2 := Dep.le p.b
  have h3 := Dep.le p.c
  show PyData.depthAll [Enc.d p.a, Enc.d p.b, Enc.d p.c] + 1 ≤ _
  simp only [PyData.depthAll]
  omega⟩
instance {α β γ δ : Type} [Enc α] [Enc β] [Enc γ] [Enc δ] [Dep α] [Dep β] [Dep γ] [Dep δ] : Dep (T4 α β γ δ) := ⟨max (Dep.n α) (max (Dep.n β) (max (Dep.n γ) (Dep.n δ))) + 1, fun p => by
  have h1 := Dep.le p.a
  have h2 := Dep.le p.b
  have h3 := Dep.le p.c
  have h4 := Dep.le p.e
  show PyData.depthAll [Enc.d p.a, Enc.d p.b, Enc.d p.c, Enc.d p.e] + 1 ≤ _
  simp only [PyData.depthAll]
  omega⟩
instance {α β γ δ ε : Type} [Enc α] [Enc β] [Enc γ] [Enc δ] [Enc ε] [Dep α] [Dep β] [Dep γ] [Dep δ] [Dep ε] : Dep (T5 α β γ δ ε) := ⟨max (Dep.n α) (max (Dep.n β) (max (Dep.n γ) (max (Dep.n δ) (Dep.n ε)))) + 1, fun p => by
  have h1 := Dep.le p.a
  have h2 := Dep.le p.b
  have h3 := Dep.le p.c
  have h4 := Dep.le p.e
  have h5 := Dep.le p.f
  show PyData.depthAll [Enc.d p.a, Enc.d p.b, Enc.d p.c, Enc.d p.e, Enc.d p.f] + 1 ≤ _
  simp only [PyData.depthAll]
  omega⟩
theorem R.shaped {α : Type} [Enc α] [Dep α] {K : PySem.W.Frag} {F : Hp} {v : V} {x : α} (r : R K F v x) (h : Dep.n α ≤ 64 := by decide) : SeqAt.shaped (Enc.d x) = true :=
  Bool.and_eq_true_iff.mpr ⟨Rp.lay _ _ r, decide_eq_true (Nat.le_trans (Dep.le x) h)⟩
/-- equal, as Python compares -/
def eqD {α : Type} [Enc α] (x y : α) : Bool := PyData.eqv (Enc.d x) (Enc.d y)

/-! ### growth: F is what stays as it is, H all that stands; M may be changed -/
structure Gr (M : Addr → Prop) (F0 H0 F H : Hp) : Prop where
  fh : Same F H
  ff : Same F0 F
  keep : ∀ a o, ¬ M a → H0 a = some o → H a = some o
  there : ∀ a, H0 a ≠ none → H a ≠ none
  new : ∀ a, H0 a ≠ none → F0 a = none → F a = none ∨ ∃ ts, H a = some (.tup ts)
abbrev M0 : Addr → Prop := fun _ => False
section
variable {M : Addr → Prop} {F0 H0 F H F' H' : Hp} {p a : Addr} {o : HO} {K : PySem.W.Frag} {xs : List V}
theorem Gr.refl (h : Same F H) : Gr M F H F H := ⟨h, Same.refl _, fun _ _ _ e => e, fun _ e => e, fun _ _ e => .inl e⟩
theorem Gr.trans (g : Gr M F0 H0 F H) (k : Gr M F H F' H') : Gr M F0 H0 F' H' :=
  ⟨k.fh, g.ff.trans k.ff, fun a o n e => k.keep a o n (g.keep a o n e), fun a e => k.there a (g.there a e), fun a e n => by
    cases q : F a with
    | none => exact k.new a (g.there a e) q
    | some o =>
      rcases g.new a e n with z | ⟨ts, z⟩
      · rw [z] at q; cases q
      · have := g.fh a o q
        rw [z] at this; cases this
        exact .inr ⟨ts, k.fh _ _ (k.ff _ _ q)⟩⟩
theorem Gr.of0 (g : Gr M0 F H F' H') : Gr M F H F' H' := ⟨g.fh, g.ff, fun a o _ e => g.keep a o id e, g.there, g.new⟩
theorem Gr.none0 (g : Gr M F0 H0 F H) (h : H a = none) : H0 a = none := by
  cases e : H0 a with
  | none => rfl
  | some o => exact absurd h (g.there a (by rw [e]; simp))
theorem Gr.noneF (g : Gr M F0 H0 F H) (h : H a = none) : F a = none := by
  cases e : F a with
  | none => rfl
  | some o => rw [g.fh a o e] at h; cases h
theorem same_new (h : F p = none) : Same F (upd F p o) := fun b u e => by rw [upd_ne (ne_of_none e h)]; exact e
theorem same_upd2 (h : Same F H) (hp : F p = none) : Same (upd F p o) (upd H p o) := fun b u e => by
  by_cases hb : b = p
  · subst hb; rw [upd_same] at e ⊢; exact e
  · rw [upd_ne hb] at e ⊢; exact h b u e
theorem same_out (h : Same F H) (hp : F p = none) : Same F (upd H p o) := fun b u e => by
  rw [upd_ne (ne_of_none e hp)]
  exact h b u e
/-- a new thing that stays as it is -/
theorem Gr.frz (g : Gr M F0 H0 F H) (h : H p = none) : Gr M F0 H0 (upd F p o) (upd H p o) :=
  ⟨same_upd2 g.fh (g.noneF h), g.ff.trans (same_new (g.noneF h)), fun a u n e => by rw [upd_ne (ne_of_none (g.keep a u n e) h)]; exact g.keep a u n e,
    fun a e => by
      by_cases ha : a = p
      · subst ha; rw [upd_same]; simp
      · rw [upd_ne ha]; exact g.there a e,
    fun a e n => by
      have ha : a ≠ p := fun z => by subst z; exact e (g.none0 h)
      rw [upd_ne ha, upd_ne ha]; exact g.new a e n⟩
/-- a new thing that may be changed -/
theorem Gr.own (g : Gr M F0 H0 F H) (h : H p = none) : Gr M F0 H0 F (upd H p o) :=
  ⟨same_out g.fh (g.noneF h), g.ff, fun a u n e => by rw [upd_ne (ne_of_none (g.keep a u n e) h)]; exact g.keep a u n e,
    fun a e => by
      by_cases ha : a = p
      · subst ha; rw [upd_same]; simp
      · rw [upd_ne ha]; exact g.there a e, fun a e n => by
      have ha : a ≠ p := fun z => by subst z; exact e (g.none0 h)
      rw [upd_ne ha]; exact g.new a e n⟩
/-- a thing of ours is changed -/
theorem Gr.mut (g : Gr M F0 H0 F H) (n : F p = none) (n0 : H0 p = none ∨ M p) : Gr M F0 H0 F (upd H p o) :=
  ⟨same_out g.fh n, g.ff, fun a u m e => by
      have ha : a ≠ p := fun z => by
        subst z
        rcases n0 with z | z
        · rw [z] at e; cases e
        · exact m z
      rw [upd_ne ha]; exact g.keep a u m e,
    fun a e => by
      by_cases ha : a = p
      · subst ha; rw [upd_same]; simp
      · rw [upd_ne ha]; exact g.there a e, fun a e z => by
      by_cases ha : a = p
      · subst ha; exact .inl n
      · rw [upd_ne ha]; exact g.new a e z⟩
/-- a thing of ours stays as it is from now on -/
theorem Gr.freeze (g : Gr M F0 H0 F H) (h : H p = some o) (n0 : H0 p = none) : Gr M F0 H0 (upd F p o) H :=
  ⟨fun b u e => by
      by_cases hb : b = p
      · subst hb; rw [upd_same] at e; cases e; exact h
      · rw [upd_ne hb] at e; exact g.fh b u e,
    fun b u e => by
      by_cases hb : b = p
      · subst hb
        have := g.fh b u (g.ff b u e)
        rw [h] at this; cases this
        exact upd_same
      · rw [upd_ne hb]; exact g.ff b u e, g.keep, g.there,
    fun a e n => by
      have ha : a ≠ p := fun z => by subst z; exact e n0
      rw [upd_ne ha]; exact g.new a e n⟩
/-- a tuple that stands, taken among what stays -/
theorem Gr.adopt (g : Gr M F0 H0 F H) {ts : List V} (h : H p = some (.tup ts)) : Gr M F0 H0 (upd F p (.tup ts)) H :=
  ⟨fun b u e => by
      by_cases hb : b = p
      · subst hb; rw [upd_same] at e; cases e; exact h
      · rw [upd_ne hb] at e; exact g.fh b u e,
    fun b u e => by
      by_cases hb : b = p
      · subst hb
        have := g.fh b u (g.ff b u e)
        rw [h] at this; cases this
        exact upd_same
      · rw [upd_ne hb]; exact g.ff b u e, g.keep, g.there,
    fun a e n => by
      by_cases ha : a = p
      · subst ha; exact .inr ⟨ts, h⟩
      · rw [upd_ne ha]; exact g.new a e n⟩
theorem Gr.same_adopt (g : Gr M F0 H0 F H) {ts : List V} (h : H p = some (.tup ts)) : Same F (upd F p (.tup ts)) := fun b u e => by
  by_cases hb : b = p
  · subst hb
    have := g.fh b u e
    rw [h] at this; cases this
    exact upd_same
  · rw [upd_ne hb]; exact e
theorem Gr.newL (g : Gr M F0 H0 F H) (h : H0 a ≠ none) (n : F0 a = none) (ht : ∀ ts, H a ≠ some (.tup ts)) : F a = none := by
  rcases g.new a h n with z | ⟨ts, z⟩
  · exact z
  · exact absurd z (ht ts)
theorem Gr.seq (g : Gr M F0 H0 F H) (m : ¬ M a) (h : SqL K H0 a xs) : SqL K H a xs := by
  rcases h with (h | ⟨o, h⟩) | h
  · exact .inl (.inl (g.keep _ _ m h))
  · exact .inl (.inr ⟨o, g.keep _ _ m h⟩)
  · exact .inr h
theorem same_frz (h : H p = some o) (n : F p = none) : Same F (upd F p o) := same_new n
end

/-! ### the makings, step by step -/
def bind2 {α β γ : Type} (o : Option (α × β)) (f : α → β → Option γ) : Option γ := o.bind fun p => f p.1 p.2
def bind3 {α β γ δ : Type} (o : Option (α × β × γ)) (f : α → β → γ → Option δ) : Option δ := o.bind fun p => f p.1 p.2.1 p.2.2
def bind4 {α β γ δ ε : Type} (o : Option (α × β × γ × δ)) (f : α → β → γ → δ → Option ε) : Option ε := o.bind fun p => f p.1 p.2.1 p.2.2.1 p.2.2.2
def bind5 {α β γ δ ε ζ : Type} (o : Option (α × β × γ × δ × ε)) (f : α → β → γ → δ → ε → Option ζ) : Option ζ := o.bind fun p => f p.1 p.2.1 p.2.2.1 p.2.2.2.1 p.2.2.2.2
theorem bnd {α β : Type} {o : Option α} {f : α → Option β} {r : β} (h : Option.bind o f = some r) : ∃ x, o = some x ∧ f x = some r := Option.bind_eq_some_iff.mp h
theorem bnd2 {α β γ : Type} {o : Option (α × β)} {f : α → β → Option γ} {r : γ} (h : bind2 o f = some r) : ∃ x y, o = some (x, y) ∧ f x y = some r :=
  let ⟨p, e, k⟩ := Option.bind_eq_some_iff.mp h
  ⟨p.1, p.2, e, k⟩
theorem bnd3 {α β γ δ : Type} {o : Option (α × β × γ)} {f : α → β → γ → Option δ} {r : δ} (h : bind3 o f = some r) : ∃ x y z, o = some (x, y, z) ∧ f x y z = some r :=
  let ⟨p, e, k⟩ := Option.bind_eq_some_iff.mp h
  ⟨p.1, p.2.1, p.2.2, e, k⟩
theorem bnd4 {α β γ δ ε : Type} {o : Option (α × β × γ × δ)} {f : α → β → γ → δ → Option ε} {r : ε} (h : bind4 o f = some r) : ∃ x y z u, o = some (x, y, z, u) ∧ f x y z u = some r :=
  let ⟨p, e, k⟩ := Option.bind_eq_some_iff.mp h
  ⟨p.1, p.2.1, p.2.2.1, p.2.2.2, e, k⟩
theorem bnd5 {α β γ δ ε ζ : Type} {o : Option (α × β × γ × δ × ε)} {f : α → β → γ → δ → ε → Option ζ} {r : ζ} (h : bind5 o f = some r) : ∃ x y z u t, o = some (x, y, z, u, t) ∧ f x y z u t = some r :=
  let ⟨p, e, k⟩ := Option.bind_eq_some_iff.mp h
  ⟨p.1, p.2.1, p.2.2.1, p.2.2.2.1, p.2.2.2.2, e, k⟩
/-- a loop's end: gone on, or handed back -/
inductive Lp (S R : Type) where
  | go (s : S)
  | ret (r : R)
def bindL {S R T : Type} (o : Option (Lp S R)) (f : S → Option T) (g : R → Option T) : Option T := o.bind fun l => match l with
  | .go s => f s
  | .ret r => g r
theorem ifT {α : Type} {c : Bool} {a b : α} {r : α} (h : c = true) (e : (if c = true then a else b) = r) : a = r := by rw [if_pos h] at e; exact e
theorem ifF {α : Type} {c : Bool} {a b : α} {r : α} (h : c = false) (e : (if c = true then a else b) = r) : b = r := by rw [if_neg (by rw [h]; decide)] at e; exact e
theorem iteB {c : Bool} {A B : Prop} (h1 : c = true → A) (h2 : c = false → B) : if c = true then A else B := by
  cases c with
  | true => exact h1 rfl
  | false => exact h2 rfl
theorem drop_at {α : Type} {xs : List α} {i : Nat} {x : α} (h : xs[i]? = some x) : xs.drop i = x :: xs.drop (i + 1) := by
  obtain ⟨h1, h2⟩ := List.getElem?_eq_some_iff.mp h
  rw [List.drop_eq_getElem_cons h1, h2]
theorem drop_end {α : Type} {xs : List α} {n : Nat} (h : n = xs.length) : xs.drop n = [] := by subst h; exact List.drop_length
end G
/-! My base, part 2: operations of the makings, and their rules. -/
namespace G
open PySem PySem.Spec PyProof.Rows L2 TL

/-! ### ints, truths -/
def eqI (a b : Int) : Bool := decide (V.int a = V.int b)
def neI (a b : Int) : Bool := !decide (V.int a = V.int b)
def eqB (a b : Bool) : Bool := decide (V.bl a = V.bl b)
def neB (a b : Bool) : Bool := !decide (V.bl a = V.bl b)
def eqS (a b : Str) : Bool := decide (V.str a = V.str b)
def neS (a b : Str) : Bool := !decide (V.str a = V.str b)
theorem eqI_iff {a b : Int} : eqI a b = decide (a = b) := by unfold eqI; simp
theorem neI_iff {a b : Int} : neI a b = !decide (a = b) := by unfold neI; simp
theorem eqB_iff {a b : Bool} : eqB a b = decide (a = b) := by unfold eqB; simp
theorem neB_iff {a b : Bool} : neB a b = !decide (a = b) := by unfold neB; simp
theorem eqS_iff {a b : Str} : eqS a b = decide (a = b) := by unfold eqS; simp
theorem neS_iff {a b : Str} : neS a b = !decide (a = b) := by unfold neS; simp
def toI (b : Bool) : Int := if b then 1 else 0
def mulI (a b : Int) : Option Int := if a.natAbs.log2 + b.natAbs.log2 < 1000000 then some (a * b) else none
def divI (a b : Int) : Option Int := if 0 < b ∧ b.natAbs.log2 < 9000 then some (a / b) else none
def modI (a b : Int) : Option Int := if 0 < b then some (a % b) else none
def shlI (a b : Int) : Option Int := if 0 ≤ b ∧ b ≤ 1000000 ∧ a.natAbs < 2 ^ 64 then some (a * 2 ^ b.toNat) else none
def shrI (a b : Int) : Option Int := if 0 ≤ b then some (a / 2 ^ b.toNat) else none
theorem mulI_ok {a b r : Int} (h : mulI a b = some r) : CMulW a b ∧ a * b = r := by
  unfold mulI at h
  split at h
  · exact ⟨by assumption, Option.some.inj h⟩
  · cases h
theorem divI_ok {a b r : Int} (h : divI a b = some r) : CDivW a b ∧ a / b = r := by
  unfold divI at h
  split at h
  · exact ⟨by assumption, Option.some.inj h⟩
  · cases h
theorem modI_ok {a b r : Int} (h : modI a b = some r) : 0 < b ∧ a % b = r := by
  unfold modI at h
  split at h
  · exact ⟨by assumption, Option.some.inj h⟩
  · cases h
theorem shlI_ok {a b r : Int} (h : shlI a b = some r) : CPow a b ∧ a * 2 ^ b.toNat = r := by
  unfold shlI at h
  split at h
  · exact ⟨by assumption, Option.some.inj h⟩
  · cases h
theorem shrI_ok {a b r : Int} (h : shrI a b = some r) : 0 ≤ b ∧ a / 2 ^ b.toNat = r := by
  unfold shrI at h
  split at h
  · exact ⟨by assumption, Option.some.inj h⟩
  · cases h
theorem maxI_eq {i j : Int} : (if j > i then j else i) = max i j := by omega
theorem minI_eq {i j : Int} : (if j < i then j else i) = min i j := by omega

/-! ### texts -/
def sgn (c : Nat) : Str := ⟨#[c]⟩
theorem GS.of {x : Str} (h1 : (tl x).length ≤ sizeLine) (h2 : ∀ c ∈ tl x, c < 0x110000) : GS x := by
  refine ⟨by rw [len_tl]; exact h1, ?_⟩
  show x.cps.all (fun c => decide (c < 0x110000)) = true
  rw [Array.all_eq_true']
  intro c hc
  exact decide_eq_true (h2 c (by simpa [tl] using hc))
theorem GS.mem {x : Str} (g : GS x) : ∀ c ∈ tl x, c < 0x110000 := by
  intro c hc
  have h : x.cps.all (fun c => decide (c < 0x110000)) = true := g.ok
  rw [Array.all_eq_true'] at h
  exact of_decide_eq_true (h c (by simpa [tl] using hc))
theorem GS.tll {x : Str} (g : GS x) : (tl x).length ≤ sizeLine := by rw [← len_tl]; exact g.len
theorem GS.sg {x : Str} {c : Nat} (g : GS x) (h : c ∈ tl x) : GS (sgn c) := GS.of (by show 1 ≤ sizeLine; decide) (fun d hd => by
  have e : d = c := by simpa [tl, sgn] using hd
  rw [e]
  exact g.mem c h)
theorem GS.cut {x : Str} (g : GS x) (lo hi : Option Int) : GS (cutS x lo hi) := GS.of (by
    rw [← len_tl]
    exact Nat.le_trans (cutS_length x lo hi) g.len)
  fun c hc => g.mem c (List.mem_of_mem_drop (List.mem_of_mem_take (show c ∈ ((tl x).drop _).take _ from hc)))
def catS (a b : Str) : Option Str := if a.length + b.length ≤ sizeLine then some (a ++ b) else none
theorem catS_ok {a b r : Str} (h : catS a b = some r) : a.length + b.length ≤ sizeLine ∧ a ++ b = r := by
  unfold catS at h
  split at h
  · exact ⟨by assumption, Option.some.inj h⟩
  · cases h
theorem GS.cat {a b r : Str} (ga : GS a) (gb : GS b) (h : catS a b = some r) : GS r := by
  obtain ⟨h1, rfl⟩ := catS_ok h
  refine GS.of ?_ fun c hc => ?_
  · rw [tl_append, List.length_append, ← len_tl, ← len_tl]
    exact h1
  · rw [tl_append] at hc
    rcases List.mem_append.mp hc with k | k
    · exact ga.mem c k
    · exact gb.mem c k
/-- the sign at a place -/
def codeAt (x : Str) (i : Int) : Option Nat := atI (tl x) i
theorem codeAt_mem {x : Str} {i : Int} {c : Nat} (h : codeAt x i = some c) : c ∈ tl x := by
  unfold codeAt atI at h
  cases e : ixN (tl x).length i with
  | none => rw [e] at h; cases h
  | some j => rw [e] at h; exact List.mem_of_getElem? h
def mulS (x : Str) (n : Int) : Option Str := if -(2 ^ 63 : Int) ≤ n ∧ n ≤ 16777216 ∧ x.length * n.toNat ≤ 16777216 then some (Txt.mul x n) else none
theorem mulS_ok {x r : Str} {n : Int} (h : mulS x n = some r) : MulOk x n ∧ Txt.mul x n = r := by
  unfold mulS at h
  split at h
  · rename_i q
    exact ⟨mulOk_of x.length n.toNat (Nat.le_refl _) (by omega) q.1 (by omega) q.2.2, Option.some.inj h⟩
  · cases h
theorem foldl_app (cs : Array Nat) : ∀ (k : Nat) (acc : Array Nat), ((List.replicate k cs).foldl (· ++ ·) acc).toList = acc.toList ++ (List.replicate k cs.toList).flatten
  | 0, acc => by simp
  | k + 1, acc => by
    rw [List.replicate_succ, List.foldl_cons, foldl_app cs k, List.replicate_succ, List.flatten_cons, Array.toList_append, List.append_assoc]
theorem tl_mul (x : Str) (n : Int) : tl (Txt.mul x n) = (List.replicate n.toNat (tl x)).flatten := by
  unfold Txt.mul
  split
  · have e : n.toNat = 0 := by omega
    rw [e]
    rfl
  · split
    · rename_i h1 h2
      rcases Bool.or_eq_true_iff.mp h2 with h | h
      · have e : n = 1 := eq_of_beq h
        subst e
        show tl x = [tl x].flatten
        simp
      · have e : x.length = 0 := eq_of_beq h
        have e2 : tl x = [] := List.eq_nil_of_length_eq_zero (by rw [← len_tl]; exact e)
        rw [e2]
        simp
    · show ((List.replicate n.toNat x.cps).foldl (· ++ ·) #[]).toList = _
      rw [foldl_app]
      rfl
theorem GS.mul {x r : Str} {n : Int} (g : GS x) (h : mulS x n = some r) : GS r := by
  have h0 := h
  unfold mulS at h0
  split at h0
  · rename_i q
    obtain ⟨_, rfl⟩ := mulS_ok h
    refine GS.of ?_ fun c hc => ?_
    · rw [tl_mul, List.length_flatten, List.map_replicate, List.sum_replicate_nat, ← len_tl, sizeLine_eq, Nat.mul_comm]
      exact q.2.2
    · rw [tl_mul] at hc
      obtain ⟨l, hl, hc⟩ := List.mem_flatten.mp hc
      rw [(List.mem_replicate.mp hl).2] at hc
      exact g.mem c hc
  · cases h0
def joinS (sep : Str) (ys : List Str) : Option Str := if (ys.map (·.length)).sum + ys.length * sep.length ≤ 16777216 then some (Txt.join sep ys) else none
theorem joinS_ok {sep r : Str} {ys : List Str} (h : joinS sep ys = some r) : (ys.map (·.length)).sum + ys.length * sep.length ≤ 16777216 ∧ Txt.join sep ys = r := by
  unfold joinS at h
  split at h
  · exact ⟨by assumption, Option.some.inj h⟩
  · cases h
theorem tl_joinS (sep : Str) (ys : List Str) : tl (Txt.join sep ys) = joinL (tl sep) (ys.map tl) := by
  have e : Txt.join sep ys = Str.join sep ys := by
    unfold Txt.join; exact StrLaws.glued_eq_join sep ys
  rw [e, tl_join]
end G
/-! My base, part 3: rules. -/
namespace G
open PySem PySem.Spec PyProof.Rows L2 TL

section
variable {X : Cx}
theorem CallR.imp {f : Value} {r r' : List V → Hp → VK → Prop} (h : CallR X f r) (k : ∀ xs H Q, r' xs H Q → r xs H Q) : CallR X f r' :=
  fun pins s σ H xs us Q I rx q => h pins s σ H xs us Q I rx (k _ _ _ q)
theorem OpR.imp {f : Value → Value → Sem Value} {r r' : R2} (h : OpR X f r) (k : ∀ x y H Q, r' x y H Q → r x y H Q) : OpR X f r' :=
  fun pins s σ H x y v u Q I rx ry q => h pins s σ H x y v u Q I rx ry (k _ _ _ _ q)
/-- int(a truth) -/
theorem call_toI : CallR X (.type "int") (fun xs H Q => ∃ k, xs = [.bl k] ∧ Q (.int (toI k)) H) := CallR.imp call_int1 fun xs H Q ⟨k, e, q⟩ => .inr ⟨k, e, q⟩
/-- len(a list or tuple), told -/
theorem call_lenL : CallR X (.builtin "len") (fun xs H Q => ∃ p ys n, xs = [.ref p] ∧ (SqL X.K H p ys ∨ SqT X.K H p ys) ∧ ys.length = n ∧ Q (.int (n : Nat)) H) :=
  CallR.imp call_len_seq fun xs H Q ⟨p, ys, n, e, h, e2, q⟩ => ⟨p, ys, e, h, by rw [e2]; exact q⟩
/-- is None, told -/
theorem op_isO : OpR X (compareOp .Is) (fun x y H Q => ∃ b, y = .non ∧ decide (x = .non) = b ∧ Q (.bl b) H) := OpR.imp op_isN fun x y H Q ⟨b, e, e2, q⟩ => ⟨e, by rw [e2]; exact q⟩
theorem op_notO : OpR X (compareOp .IsNot) (fun x y H Q => ∃ b, y = .non ∧ decide (x = .non) = b ∧ Q (.bl (!b)) H) := OpR.imp op_notN fun x y H Q ⟨b, e, e2, q⟩ => ⟨e, by rw [e2]; exact q⟩
theorem op_mulS : OpR X (binaryOp .Mult) (fun x y H Q => ∃ z n, x = .str z ∧ y = .int n ∧ MulOk z n ∧ Q (.str (Txt.mul z n)) H) := by
  intro pins s σ H x y v u Q I rx ry h
  obtain ⟨z, n, rfl, rfl, ok, q⟩ := h
  obtain ⟨t, rfl⟩ := rx
  obtain ⟨t', rfl⟩ := ry
  exact SB.mul ok fun t' k => ⟨.str _, H, I.tok k, ⟨t', rfl⟩, q⟩
/-- xs + ys, lists that are read -/
def rCatL (K : PySem.W.Frag) : R2 := fun x y H Q => ∃ l b xs zs, x = .ref l ∧ y = .ref b ∧ SqL K H l xs ∧ SqL K H b zs ∧ xs.length + zs.length ≤ sizeLine ∧ ∀ p, H p = none → Q (.ref p) (upd H p (.lst (xs ++ zs)))
theorem op_catL : OpR X (binaryOp .Add) (rCatL X.K) := by
  intro pins s σ H x y v u Q I rx ry h
  obtain ⟨l, b, xs, zs, rfl, rfl, hH, hB, hz, q⟩ := h
  cases rx
  cases ry
  obtain ⟨its, r, p1, hl⟩ := I.list hH
  obtain ⟨its2, r2, p2, hl2⟩ := I.list hB
  obtain ⟨⟨cls, dd, data, sl⟩, ho, hc, n, hd⟩ := p1.isList
  obtain ⟨⟨cls2, dd2, data2, sl2⟩, ho2, hc2, n2, hd2⟩ := p2.isList
  simp only at hc hd hc2 hd2
  subst hc hd hc2 hd2
  have ea : its.toArray ++ its2.toArray = (its ++ its2).toArray := by simp
  have e1 := r.length
  have e2 := r2.length
  refine concat_meets ⟨_, ho, rfl⟩ ⟨_, ho2, rfl⟩ noFill_list_add seq_list_add PySem.F.slot_list_add PySem.F.entry_list_add (PySem.F.args_list_add_2 _ _) (PyProof.Rows.list_addW l b its.toArray its2.toArray n n2 dd dd2 sl sl2 (by simp; omega)) ⟨ho, ho2, ?_⟩
  rw [ea]
  exact ⟨.ref _, _, I.lnew (t' := s.toks) (r.append r2) (by rw [List.length_append]; omega), rfl, q _ I.fresh⟩
end

/-! ### parts of an expression, closed: what they come to, whatever follows -/
section
variable {M : Addr → Prop} {F H : Hp} {σ : L2.St} {ta tb tc : TE} {Q : VK} {a c k : Bool}
/-- t comes to the truth c -/
def EvB (M : Addr → Prop) (F H : Hp) (t : VK → Prop) (c : Bool) : Prop := ∀ Q : VK, (∀ F' H', Gr M F H F' H' → Q (.bl c) H') → t Q
def EvT (M : Addr → Prop) (F H : Hp) (t : (Bool → Hp → Prop) → Prop) (c : Bool) : Prop := ∀ Q : Bool → Hp → Prop, (∀ F' H', Gr M F H F' H' → Q c H') → t Q
theorem andV_g (h1 : EvB M F H (fun Q => ta σ H Q) a) (h2 : a = true → ∀ F1 H1, Gr M F H F1 H1 → EvB M F1 H1 (fun Q => tb σ H1 Q) c) (h3 : a = false → c = false)
    (q : ∀ F' H', Gr M F H F' H' → Q (.bl c) H') : tAndV ta tb σ H Q := h1 _ fun F1 H1 g1 => ⟨a, rfl, by
  cases e : a with
  | true => exact iteT (h2 e F1 H1 g1 _ fun F2 H2 g2 => q F2 H2 (g1.trans g2))
  | false =>
    have ec := h3 e
    subst ec
    exact iteF (q F1 H1 g1)⟩
theorem orV_g (h1 : EvB M F H (fun Q => ta σ H Q) a) (h2 : a = false → ∀ F1 H1, Gr M F H F1 H1 → EvB M F1 H1 (fun Q => tb σ H1 Q) c) (h3 : a = true → c = true)
    (q : ∀ F' H', Gr M F H F' H' → Q (.bl c) H') : tOrV ta tb σ H Q := h1 _ fun F1 H1 g1 => ⟨a, rfl, by
  cases e : a with
  | false => exact iteF (h2 e F1 H1 g1 _ fun F2 H2 g2 => q F2 H2 (g1.trans g2))
  | true =>
    have ec := h3 e
    subst ec
    exact iteT (q F1 H1 g1)⟩
theorem andT_g {ta tb : TT} {Q : Bool → Hp → Prop} (h1 : EvT M F H (fun Q => ta σ H Q) a) (h2 : a = true → ∀ F1 H1, Gr M F H F1 H1 → EvT M F1 H1 (fun Q => tb σ H1 Q) c) (h3 : a = false → c = false)
    (q : ∀ F' H', Gr M F H F' H' → Q c H') : tAnd ta tb σ H Q := h1 _ fun F1 H1 g1 => by
  cases e : a with
  | true => exact iteT (h2 e F1 H1 g1 _ fun F2 H2 g2 => q F2 H2 (g1.trans g2))
  | false =>
    have ec := h3 e
    subst ec
    exact iteF (q F1 H1 g1)
theorem orT_g {ta tb : TT} {Q : Bool → Hp → Prop} (h1 : EvT M F H (fun Q => ta σ H Q) a) (h2 : a = false → ∀ F1 H1, Gr M F H F1 H1 → EvT M F1 H1 (fun Q => tb σ H1 Q) c) (h3 : a = true → c = true)
    (q : ∀ F' H', Gr M F H F' H' → Q c H') : tOr ta tb σ H Q := h1 _ fun F1 H1 g1 => by
  cases e : a with
  | false => exact iteF (h2 e F1 H1 g1 _ fun F2 H2 g2 => q F2 H2 (g1.trans g2))
  | true =>
    have ec := h3 e
    subst ec
    exact iteT (q F1 H1 g1)
/-- a < b < c -/
theorem chainV_g {r r' : R2} (h1 : EvB M F H (fun Q => ta σ H fun x H1 => tb σ H1 fun y H2 => r x y H2 Q) a) (h : tChain r r' ta tb tc σ H Q) : tChain r r' ta tb tc σ H Q := h
/-- e if t else e': it comes to what P says -/
theorem ifE_g {tt : TT} {P : V → Hp → Hp → Prop} (h1 : EvT M F H (fun Q => tt σ H Q) a)
    (h2 : a = true → ∀ F1 H1, Gr M F H F1 H1 → ∀ Q : VK, (∀ v F' H', Gr M F1 H1 F' H' → P v F' H' → Q v H') → ta σ H1 Q)
    (h3 : a = false → ∀ F1 H1, Gr M F H F1 H1 → ∀ Q : VK, (∀ v F' H', Gr M F1 H1 F' H' → P v F' H' → Q v H') → tb σ H1 Q)
    (q : ∀ v F' H', Gr M F H F' H' → P v F' H' → Q v H') : tIf tt ta tb σ H Q := h1 _ fun F1 H1 g1 => by
  cases e : a with
  | true => exact iteT (h2 e F1 H1 g1 _ fun v F2 H2 g2 => q v F2 H2 (g1.trans g2))
  | false => exact iteF (h3 e F1 H1 g1 _ fun v F2 H2 g2 => q v F2 H2 (g1.trans g2))
end

/-! ### peeling a statement -/
section
variable {D : Ends} {σ : L2.St} {H : Hp} {t u : TS} {te : TE} {g : TG} {c : TT}
theorem p_seq (h : t { D with nx := u D } σ H) : tSeq t u D σ H := h
theorem p_asg (h : te σ H (fun x H1 => g x σ H1 D.nx)) : tAsg te g D σ H := h
theorem p_ret (h : te σ H D.rt) : tRet te D σ H := h
theorem p_if (h : c σ H (fun b H1 => if b = true then t D σ H1 else u D σ H1)) : tIfS c t u D σ H := h
theorem p_drop (h : te σ H (fun _ H1 => D.nx σ H1)) : tDrop te D σ H := h
/-- a statement, then the rest, with a word between them -/
def tCut (t u : TS) : TS := fun D σ H => ∃ Mid : L2.St → Hp → Prop, t { D with nx := Mid } σ H ∧ ∀ σ' H', Mid σ' H' → u D σ' H'
theorem pss_cut {X : Cx} {st : Stmt} {rest : List Stmt} (h1 : PS X st t) (h2 : PSs X rest u) : PSs X (st :: rest) (tCut t u) := by
  refine ⟨fun pins s σ H D I h => ?_⟩
  obtain ⟨Mid, hm, hu⟩ := h
  refine wpAny_execs_cons (thn (h1.run pins s σ H { D with nx := Mid } I hm) fun f s1 q => ?_)
  cases f with
  | next =>
    obtain ⟨σ', H', I', q⟩ := q
    exact h2.run pins s1 σ' H' D I' (hu σ' H' q)
  | ret v => exact q
  | brk => exact q
  | cont => exact q
end

/-! ### a call by names alone -/
section
variable {X : Cx} {CX : CXT} {k : Nat} {f : Addr} {fd : FuncData} {ps ks : List Str} {sp : Sp} {E : XK} {x : Str} {p pos : Pos} {kws : List Keyword} {tk : TA} {g : List Value → List Value → List Value} {gV : List V → List V → List V}
theorem pe_callK0 (F : FnOk X.prog X.w X.K X.mg X.base CX k f fd ps sp) (hr : Room k X.A) (hg : Gl X x) (hm : X.mg x = some (.ref f)) (hk : PySem.W.keepIn X.K (.ref f) = true) (hb : KBinds X.K fd ps ks g gV) (hx : Passes CX X E)
    (hkw : PK X kws tk) (hall : (backToKw pos (keywordEach kws X.env)).all (·.1.isSome) = true := by rfl) (hks : (backToKw pos (keywordEach kws X.env)).filterMap (·.1) = ks := by rfl)
    (hdb : (x == ("__debug__" : Str)) = false := by decide)
    (hpl : ((backTo pos (starEach [] X.env)).any (·.1) || (backToKw pos (keywordEach kws X.env)).any (·.1.isNone)) = false := by rfl) :
    PE X (.Call (.Name x p) [] kws pos) (tCallK sp gV E tNil tk) := by
  refine ⟨fun pins s σ H Q I h => ?_⟩
  refine wpAny_Call_Name_kw (ld_glob I hg hm ?_ hdb)
  refine PySem.W.callWith_KW0 (h₀ := X.base) I.ok.mod.kin hk hall ?_ hpl
  refine thn (hkw.run pos pins s σ H _ I h) fun ws s2 ⟨zs, H2, I2, rz, q2⟩ => ⟨I2.kIn, ?_⟩
  rw [hks]
  exact run_fnk F hr hb hx I2 .nil rz q2
end

/-! ### texts kept in a written table -/
def dgetS (kvs : List (Str × Str)) (k d : Str) : Str := ((kvs.find? fun kv => decide (kv.1 = k)).map (·.2)).getD d
def kvS (kvs : List (Str × Str)) : List (Key × V) := kvs.map fun kv => (Sum.inr kv.1, V.str kv.2)
theorem valS (k : Str) : ∀ kvs : List (Str × Str), valV (kvS kvs) (Sum.inr k) = ((kvs.find? fun kv => decide (kv.1 = k)).map (·.2)).map V.str
  | [] => rfl
  | kv :: r => by
    unfold valV kvS
    rw [List.map_cons, List.find?_cons, List.find?_cons]
    by_cases h : kv.1 = k
    · have h' : (Sum.inr kv.1 : Key) = Sum.inr k := by rw [h]
      simp only [decide_eq_true h, decide_eq_true h', Option.map_some]
    · have h' : ¬ (Sum.inr kv.1 : Key) = Sum.inr k := fun e => h (Sum.inr.inj e)
      simp only [decide_eq_false h, decide_eq_false h']
      exact valS k r
theorem rd_dgets {ty tx : TE} {σ : L2.St} {H : Hp} {Q : VK} {k d : Str} (trs : List (TE × TE)) (kvs : List (Str × Str)) (he : trs = kvs.map fun kv => (tC (.str kv.1), tC (.str kv.2))) (h15 : kvs.length ≤ 15) (hm : mergeK [] (kvS kvs) = kvS kvs)
    (hy : ∀ H1 Q', Q' (.str k) H1 → ty σ H1 Q') (hx : ∀ H1 Q', Q' (.str d) H1 → tx σ H1 Q') (q : ∀ p, H p = none → Q (.str (dgetS kvs k d)) (upd H p (.dK (kvS kvs)))) : tDGet2 (tDisp trs) ty tx σ H Q := by
  intro p hp
  have walk : ∀ (l : List (Str × Str)) (R : List (V × V) → Hp → Prop) (H1 : Hp), R (l.map fun kv => (V.str kv.1, V.str kv.2)) H1 → tPairs (l.map fun kv => (tC (.str kv.1), tC (.str kv.2))) σ H1 R := by
    intro l
    induction l with
    | nil => intro R H1 h; exact h
    | cons kv l ih => intro R H1 h; exact ih (fun ps H3 => R ((V.str kv.1, V.str kv.2) :: ps) H3) H1 h
  rw [he]
  refine walk kvs _ _ ⟨upd_same, kvS kvs, ?_, ?_, ?_⟩
  · unfold kvS
    rw [List.map_map]
    rfl
  · unfold kvS
    rw [List.length_map]
    exact h15
  · rw [hm, upd_upd]
    refine ⟨p, rfl, .inl ⟨_, .inl upd_same⟩, hy _ _ (hx _ _ ⟨_, DGet.k (k := Sum.inr k) upd_same, ?_⟩)⟩
    rw [valS]
    have e : (((kvs.find? fun kv => decide (kv.1 = k)).map (·.2)).map V.str).getD (.str d) = .str (dgetS kvs k d) := by
      unfold dgetS
      cases (kvs.find? fun kv => decide (kv.1 = k)) <;> rfl
    rw [e]
    exact q p hp
theorem GS.dg {kvs : List (Str × Str)} {k d : Str} (h : ∀ kv ∈ kvs, GS kv.2) (hd : GS d) : GS (dgetS kvs k d) := by
  unfold dgetS
  cases e : (kvs.find? fun kv => decide (kv.1 = k)) with
  | none => exact hd
  | some kv => exact h kv (List.mem_of_find?_eq_some e)
end G
/-! My base, part 4: lists of one's own, the bag. -/
namespace G
open PySem PySem.Spec PyProof.Rows L2 TL

/-- a list of one's own at p: made behind the entry (H0), not among what stays (F) -/
structure Ow (H0 F H : Hp) (p : Addr) (ws : List V) : Prop where
  h : H p = some (.lst ws)
  nF : F p = none
  n0 : H0 p = none
section
variable {M : Addr → Prop} {F0 H0 F H F' H' : Hp} {p q : Addr} {o : HO} {K : PySem.W.Frag} {xs ws us : List V}
theorem Ow.new (g : Gr M F0 H0 F H) (hp : H p = none) : Ow H0 F (upd H p (.lst ws)) p ws := ⟨upd_same, g.noneF hp, g.none0 hp⟩
theorem Ow.frz (w : Ow H0 F H p ws) (hq : H q = none) : Ow H0 (upd F q o) (upd H q o) p ws :=
  have ne := ne_of_none w.h hq
  ⟨(upd_ne ne).trans w.h, (upd_ne ne).trans w.nF, w.n0⟩
theorem Ow.own (w : Ow H0 F H p ws) (hq : H q = none) : Ow H0 F (upd H q o) p ws :=
  have ne := ne_of_none w.h hq
  ⟨(upd_ne ne).trans w.h, w.nF, w.n0⟩
theorem Ow.put (w : Ow H0 F H p ws) : Ow H0 F (upd H p (.lst us)) p us := ⟨upd_same, w.nF, w.n0⟩
theorem Ow.other (w : Ow H0 F H p ws) (ne : p ≠ q) : Ow H0 F (upd H q o) p ws := ⟨(upd_ne ne).trans w.h, w.nF, w.n0⟩
theorem Ow.ne (w : Ow H0 F H p ws) (hq : H q = none) : p ≠ q := ne_of_none w.h hq
theorem Ow.gr (w : Ow H0 F H p ws) (g : Gr M F H F' H') (m : ¬ M p) : Ow H0 F' H' p ws :=
  ⟨g.keep _ _ m w.h, g.newL (by rw [w.h]; simp) w.nF (fun ts z => by rw [g.keep _ _ m w.h] at z; cases z), w.n0⟩
theorem Ow.gr0 (w : Ow H0 F H p ws) (g : Gr M0 F H F' H') : Ow H0 F' H' p ws := w.gr g id
theorem Ow.fz (w : Ow H0 F H p ws) (ne : p ≠ q) : Ow H0 (upd F q o) H p ws := ⟨w.h, (upd_ne ne).trans w.nF, w.n0⟩
theorem Gr.put (g : Gr M F0 H0 F H) (w : Ow H0 F H p ws) : Gr M F0 H0 F (upd H p o) := g.mut w.nF (.inl w.n0)
theorem Gr.fz (g : Gr M F0 H0 F H) (w : Ow H0 F H p ws) : Gr M F0 H0 (upd F p (.lst ws)) H := g.freeze w.h w.n0
theorem Ow.sq (w : Ow H0 F H p ws) : SqL K H p ws := .inl (.inl w.h)
theorem Ow.sf (w : Ow H0 F H p ws) : Same F (upd F p (.lst ws)) := same_new w.nF
theorem fzS : SqL K (upd F p (.lst ws)) p ws := .inl (.inl upd_same)
theorem fzT : (upd F p (.tup ws)) p = some (.tup ws) := upd_same
end

/-- the bag of a law: its cells, which is next, the seed, how many were stirred -/
structure Bag where
  cells : List Int
  at_ : Nat
  seed : Int
  cnt : Int
structure BagOk (b : Bag) : Prop where
  lo : 0 ≤ b.seed
  hi : b.seed < 2 ^ 31
abbrev Bc (B C : Addr) : Addr → Prop := fun a => a = B ∨ a = C
structure BagAt (F H : Hp) (B C : Addr) (b : Bag) : Prop where
  hB : H B = some (.lst [.ref C, .int (b.at_ : Nat), .int b.seed, .int b.cnt])
  hC : H C = some (.lst (b.cells.map V.int))
  ne : B ≠ C
  fB : F B = none
  fC : F C = none
section
variable {M : Addr → Prop} {F0 H0 F H F' H' : Hp} {p q B C : Addr} {o : HO} {b b' : Bag} {ws : List V}
theorem BagAt.frz (a : BagAt F H B C b) (hq : H q = none) : BagAt (upd F q o) (upd H q o) B C b :=
  have n1 := ne_of_none a.hB hq
  have n2 := ne_of_none a.hC hq
  ⟨(upd_ne n1).trans a.hB, (upd_ne n2).trans a.hC, a.ne, (upd_ne n1).trans a.fB, (upd_ne n2).trans a.fC⟩
theorem BagAt.own (a : BagAt F H B C b) (hq : H q = none) : BagAt F (upd H q o) B C b :=
  have n1 := ne_of_none a.hB hq
  have n2 := ne_of_none a.hC hq
  ⟨(upd_ne n1).trans a.hB, (upd_ne n2).trans a.hC, a.ne, a.fB, a.fC⟩
theorem BagAt.nb (a : BagAt F H B C b) (hq : H q = none) : ¬ Bc B C q := fun z => by
  rcases z with z | z
  · exact ne_of_none a.hB hq z.symm
  · exact ne_of_none a.hC hq z.symm
theorem BagAt.other (a : BagAt F H B C b) (m : ¬ Bc B C q) : BagAt F (upd H q o) B C b :=
  have n1 : B ≠ q := fun z => m (.inl z.symm)
  have n2 : C ≠ q := fun z => m (.inr z.symm)
  ⟨(upd_ne n1).trans a.hB, (upd_ne n2).trans a.hC, a.ne, a.fB, a.fC⟩
theorem BagAt.fz (a : BagAt F H B C b) (m : ¬ Bc B C q) : BagAt (upd F q o) H B C b :=
  have n1 : B ≠ q := fun z => m (.inl z.symm)
  have n2 : C ≠ q := fun z => m (.inr z.symm)
  ⟨a.hB, a.hC, a.ne, (upd_ne n1).trans a.fB, (upd_ne n2).trans a.fC⟩
theorem BagAt.gr0 (a : BagAt F H B C b) (g : Gr M0 F H F' H') : BagAt F' H' B C b :=
  ⟨g.keep _ _ id a.hB, g.keep _ _ id a.hC, a.ne, g.newL (by rw [a.hB]; simp) a.fB (fun ts z => by rw [g.keep _ _ id a.hB] at z; cases z), g.newL (by rw [a.hC]; simp) a.fC (fun ts z => by rw [g.keep _ _ id a.hC] at z; cases z)⟩
/-- a promise over the whole heap as what stays: the caller's own part stays apart -/
theorem Gr.apart (g : Gr M F0 H0 F H) (k : Gr M0 H H F' H') : Gr M F0 H0 F H' :=
  ⟨g.fh.trans fun a o e => k.keep a o id e, g.ff, fun a o m e => k.keep a o id (g.keep a o m e), fun a e => k.there a (g.there a e), fun a e n => (g.new a e n).imp id fun ⟨ts, z⟩ => ⟨ts, k.keep _ _ id z⟩⟩
theorem Ow.apart (w : Ow H0 F H p ws) (k : Gr M0 H H F' H') : Ow H0 F H' p ws := ⟨k.keep _ _ id w.h, w.nF, w.n0⟩
theorem BagAt.apart (a : BagAt F H B C b) (k : Gr M0 H H F' H') : BagAt F H' B C b := ⟨k.keep _ _ id a.hB, k.keep _ _ id a.hC, a.ne, a.fB, a.fC⟩
end
end G
namespace G
open PySem PySem.Spec PyProof.Rows L2 TL
/-! ### loops' ends in the makings -/
def lpK {S R T : Type} (l : Lp S R) (f : S → Option T) (g : R → Option T) : Option T := match l with
  | .go s => f s
  | .ret r => g r
def bindL0 {R T : Type} (o : Option (Lp Unit R)) (f : Option T) (g : R → Option T) : Option T := o.bind fun l => lpK l (fun _ => f) g
def bindL1 {α R T : Type} (o : Option (Lp α R)) (f : α → Option T) (g : R → Option T) : Option T := o.bind fun l => lpK l f g
def bindL2 {α β R T : Type} (o : Option (Lp (α × β) R)) (f : α → β → Option T) (g : R → Option T) : Option T := o.bind fun l => lpK l (fun s => f s.1 s.2) g
def bindL3 {α β γ R T : Type} (o : Option (Lp (α × β × γ) R)) (f : α → β → γ → Option T) (g : R → Option T) : Option T := o.bind fun l => lpK l (fun s => f s.1 s.2.1 s.2.2) g
def bindL4 {α β γ δ R T : Type} (o : Option (Lp (α × β × γ × δ) R)) (f : α → β → γ → δ → Option T) (g : R → Option T) : Option T := o.bind fun l => lpK l (fun s => f s.1 s.2.1 s.2.2.1 s.2.2.2) g
section
variable {α β γ δ R T : Type} {g : R → Option T} {r : R} {t : T}
theorem bndL0 {o : Option (Lp Unit R)} {f : Option T} (h : bindL0 o f g = some t) : ∃ l, o = some l ∧ lpK l (fun _ => f) g = some t := Option.bind_eq_some_iff.mp h
theorem bndL1 {o : Option (Lp α R)} {f : α → Option T} (h : bindL1 o f g = some t) : ∃ l, o = some l ∧ lpK l f g = some t := Option.bind_eq_some_iff.mp h
theorem bndL2 {o : Option (Lp (α × β) R)} {f : α → β → Option T} (h : bindL2 o f g = some t) : ∃ l, o = some l ∧ lpK l (fun s => f s.1 s.2) g = some t := Option.bind_eq_some_iff.mp h
theorem bndL3 {o : Option (Lp (α × β × γ) R)} {f : α → β → γ → Option T} (h : bindL3 o f g = some t) : ∃ l, o = some l ∧ lpK l (fun s => f s.1 s.2.1 s.2.2) g = some t := Option.bind_eq_some_iff.mp h
theorem bndL4 {o : Option (Lp (α × β × γ × δ) R)} {f : α → β → γ → δ → Option T} (h : bindL4 o f g = some t) : ∃ l, o = some l ∧ lpK l (fun s => f s.1 s.2.1 s.2.2.1 s.2.2.2) g = some t := Option.bind_eq_some_iff.mp h
theorem bgo0 {f : Option T} (h : lpK (.go ()) (fun _ => f) g = some t) : f = some t := h
theorem bgo1 {f : α → Option T} {a : α} (h : lpK (.go a) f g = some t) : f a = some t := h
theorem bgo2 {f : α → β → Option T} {a : α} {b : β} (h : lpK (.go (a, b)) (fun s => f s.1 s.2) g = some t) : f a b = some t := h
theorem bgo3 {f : α → β → γ → Option T} {a : α} {b : β} {c : γ} (h : lpK (.go (a, b, c)) (fun s => f s.1 s.2.1 s.2.2) g = some t) : f a b c = some t := h
theorem bgo4 {f : α → β → γ → δ → Option T} {a : α} {b : β} {c : γ} {d : δ} (h : lpK (.go (a, b, c, d)) (fun s => f s.1 s.2.1 s.2.2.1 s.2.2.2) g = some t) : f a b c d = some t := h
theorem bret {S : Type} {f : S → Option T} (h : lpK (.ret r) f g = some t) : g r = some t := h
end
/-- ranges -/
def rangeL (lo : Int) (n : Nat) : List Int := (List.range n).map fun k => lo + (k : Nat)
theorem rangeL_at {lo : Int} {n i : Nat} (h : i < n) : (rangeL lo n)[i]? = some (lo + (i : Nat)) := by
  unfold rangeL
  rw [List.getElem?_map, List.getElem?_range h]
  rfl
theorem rangeL_len (lo : Int) (n : Nat) : (rangeL lo n).length = n := by unfold rangeL; simp
def rangeO (lo hi : Int) : Option (List Int) := if (-(2 ^ 62) ≤ lo ∧ lo < 2 ^ 62 ∧ -(2 ^ 62) ≤ hi ∧ hi < 2 ^ 62) ∧ (hi - lo).toNat ≤ sizeLine then some (rangeL lo (hi - lo).toNat) else none
theorem rangeO_ok {lo hi : Int} {l : List Int} (h : rangeO lo hi = some l) : ((-(2 ^ 62) ≤ lo ∧ lo < 2 ^ 62 ∧ -(2 ^ 62) ≤ hi ∧ hi < 2 ^ 62) ∧ (hi - lo).toNat ≤ sizeLine) ∧ rangeL lo (hi - lo).toNat = l := by
  unfold rangeO at h
  split at h
  · exact ⟨by assumption, Option.some.inj h⟩
  · cases h
def appL {α : Type} (xs : List α) (x : α) : Option (List α) := if xs.length < sizeLine then some (xs ++ [x]) else none
theorem appL_ok {α : Type} {xs r : List α} {x : α} (h : appL xs x = some r) : xs.length < sizeLine ∧ xs ++ [x] = r := by
  unfold appL at h
  split at h
  · exact ⟨by assumption, Option.some.inj h⟩
  · cases h
def conL {α : Type} (xs ys : List α) : Option (List α) := if xs.length + ys.length ≤ sizeLine then some (xs ++ ys) else none
theorem conL_ok {α : Type} {xs ys r : List α} (h : conL xs ys = some r) : xs.length + ys.length ≤ sizeLine ∧ xs ++ ys = r := by
  unfold conL at h
  split at h
  · exact ⟨by assumption, Option.some.inj h⟩
  · cases h
def cutL {α : Type} (xs : List α) (lo hi : Option Int) : List α := (xs.drop (HT.sIx xs.length 0 lo)).take (HT.sIx xs.length xs.length hi - HT.sIx xs.length 0 lo)
theorem str_at {x : Str} {i c : Nat} (h : x.cps[i]? = some c) : (tl x)[i]? = some c := by simpa [tl] using h
theorem str_size {x : Str} : x.cps.size = (tl x).length := by simp [tl]
theorem lt_line {a i n : Nat} (h : a ≤ i) (h2 : i < n) (h3 : n ≤ sizeLine) : a < sizeLine := by omega
theorem snoc_rest {α : Type} {ds rest res : List α} {x : α} (h : ds ++ (x :: rest) = res) : (ds ++ [x]) ++ rest = res := by rw [← h, List.append_assoc]; rfl
theorem sjoin {α : Type} {a b : α} (h : some a = some b) : a = b := Option.some.inj h
end G
/-! My base, part 5: more peeling, walks over texts, lists' operations. -/
namespace G
open PySem PySem.Spec PyProof.Rows L2 TL

section
variable {D : Ends} {σ : L2.St} {H : Hp} {t u : TS} {te : TE} {g : TG} {c : TT} {wi : TI} {i : Nat} {v : V} {k : L2.St → Hp → Prop}
theorem p_next (h : D.nx σ H) : tNext D σ H := h
theorem p_cont (h : D.ct σ H) : tCont D σ H := h
theorem p_brk (h : D.bk σ H) : tBreak D σ H := h
theorem p_name (h : k (σ.set i (some v)) H) : gName i v σ H k := h
theorem p_nm {v' : V} (e : v = v') (h : k (σ.set i (some v')) H) : gName i v σ H k := by subst e; exact h
theorem p_nx {f : L2.St → Hp → Prop} {r : VK} {bk ct : L2.St → Hp → Prop} (h : f σ H) : (Ends.mk f r bk ct).nx σ H := h
theorem p_yes {A B : Hp → Prop} (h : A H) : tYes σ H (fun b H3 => if b = true then A H3 else B H3) := h
theorem p_for (h : tFor wi g t D σ H) : tFor wi g t D σ H := h
theorem p_id (h : t D σ H) : t D σ H := h
end
theorem pjoin {α β : Type} {a c : α} {b d : β} (h : some (a, b) = some (c, d)) : a = c ∧ b = d := by
  injection h with h
  injection h with h1 h2
  exact ⟨h1, h2⟩
theorem pjoin3 {α β γ : Type} {a a' : α} {b b' : β} {c c' : γ} (h : some (a, b, c) = some (a', b', c')) : a = a' ∧ b = b' ∧ c = c' := by
  injection h with h
  injection h with h1 h2
  injection h2 with h2 h3
  exact ⟨h1, h2, h3⟩
theorem pjoin4 {α β γ δ : Type} {a a' : α} {b b' : β} {c c' : γ} {d d' : δ} (h : some (a, b, c, d) = some (a', b', c', d')) : a = a' ∧ b = b' ∧ c = c' ∧ d = d' := by
  injection h with h
  injection h with h1 h2
  injection h2 with h2 h3
  injection h3 with h3 h4
  exact ⟨h1, h2, h3, h4⟩
theorem pjoin5 {α β γ δ ε : Type} {a a' : α} {b b' : β} {c c' : γ} {d d' : δ} {e e' : ε} (h : some (a, b, c, d, e) = some (a', b', c', d', e')) : a = a' ∧ b = b' ∧ c = c' ∧ d = d' ∧ e = e' := by
  injection h with h
  injection h with h1 h2
  injection h2 with h2 h3
  injection h3 with h3 h4
  injection h4 with h4 h5
  exact ⟨h1, h2, h3, h4, h5⟩

/-! ### parts whose value is told -/
def tVal (t : TE) : TE := fun σ H Q => ∃ v, (∀ Q' : VK, Q' v H → t σ H Q') ∧ Q v H
def tValT (t : TT) : TT := fun σ H Q => ∃ b, (∀ Q' : Bool → Hp → Prop, Q' b H → t σ H Q') ∧ Q b H
section
variable {X : Cx}
theorem pe_val {e : Expr} {t : TE} (h : PE X e t) : PE X e (tVal t) := ⟨fun pins s σ H Q I q => by
  obtain ⟨v, k, q⟩ := q
  exact h.run pins s σ H Q I (k Q q)⟩
theorem pt_valT {e : Expr} {t : TT} (h : PT X e t) : PT X e (tValT t) := ⟨fun pins s σ H Q I q => by
  obtain ⟨v, k, q⟩ := q
  exact h.run pins s σ H Q I (k Q q)⟩
end
section
variable {a b : Bool} {H : Hp}
theorem qTv {Q : VK} (h : a = true) (q : Q (.bl (a && b)) H) : Q (.bl b) H := by subst h; exact q
theorem qFv {Q : VK} (h : a = false) (q : Q (.bl (a && b)) H) : Q (.bl false) H := by subst h; exact q
theorem qTb {Q : Bool → Hp → Prop} (h : a = true) (q : Q (a && b) H) : Q b H := by subst h; exact q
theorem qFb {Q : Bool → Hp → Prop} (h : a = false) (q : Q (a && b) H) : Q false H := by subst h; exact q
end
section
variable {F H : Hp} {σ : L2.St} {ta tb : TE} {Q : VK} {a b : Bool}
theorem andV_t (h1 : EvB M0 F H (fun Q => ta σ H Q) a) (h2 : a = true → ∀ F1 H1, Gr M0 F H F1 H1 → EvB M0 F1 H1 (fun Q => tb σ H1 Q) b)
    (q : ∀ F' H', Gr M0 F H F' H' → Q (.bl (a && b)) H') : tAndV ta tb σ H Q :=
  andV_g (c := a && b) h1 (fun e F1 H1 g => by rw [e]; exact h2 e F1 H1 g) (fun e => by rw [e]; rfl) q
theorem orV_t (h1 : EvB M0 F H (fun Q => ta σ H Q) a) (h2 : a = false → ∀ F1 H1, Gr M0 F H F1 H1 → EvB M0 F1 H1 (fun Q => tb σ H1 Q) b)
    (q : ∀ F' H', Gr M0 F H F' H' → Q (.bl (a || b)) H') : tOrV ta tb σ H Q :=
  orV_g (c := a || b) h1 (fun e F1 H1 g => by rw [e]; exact h2 e F1 H1 g) (fun e => by rw [e]; rfl) q
theorem andT_t {ta tb : TT} {Q : Bool → Hp → Prop} (h1 : EvT M0 F H (fun Q => ta σ H Q) a) (h2 : a = true → ∀ F1 H1, Gr M0 F H F1 H1 → EvT M0 F1 H1 (fun Q => tb σ H1 Q) b)
    (q : ∀ F' H', Gr M0 F H F' H' → Q (a && b) H') : tAnd ta tb σ H Q :=
  andT_g (c := a && b) h1 (fun e F1 H1 g => by rw [e]; exact h2 e F1 H1 g) (fun e => by rw [e]; rfl) q
theorem orT_t {ta tb : TT} {Q : Bool → Hp → Prop} (h1 : EvT M0 F H (fun Q => ta σ H Q) a) (h2 : a = false → ∀ F1 H1, Gr M0 F H F1 H1 → EvT M0 F1 H1 (fun Q => tb σ H1 Q) b)
    (q : ∀ F' H', Gr M0 F H F' H' → Q (a || b) H') : tOr ta tb σ H Q :=
  orT_g (c := a || b) h1 (fun e F1 H1 g => by rw [e]; exact h2 e F1 H1 g) (fun e => by rw [e]; rfl) q
end

/-! ### e if c else e', behind its test -/
section
variable {M : Addr → Prop} {F H : Hp} {σ : L2.St} {ta tb : TE} {Q : VK} {c : Bool}
theorem ifJ {P : V → Hp → Hp → Prop} (h2 : c = true → ∀ Q : VK, (∀ v F' H', Gr M F H F' H' → P v F' H' → Q v H') → ta σ H Q)
    (h3 : c = false → ∀ Q : VK, (∀ v F' H', Gr M F H F' H' → P v F' H' → Q v H') → tb σ H Q)
    (q : ∀ v F' H', Gr M F H F' H' → P v F' H' → Q v H') : if c = true then ta σ H Q else tb σ H Q := by
  cases e : c with
  | true => exact iteT (h2 e Q q)
  | false => exact iteF (h3 e Q q)
end

section
variable {M : Addr → Prop} {F H : Hp} {σ : L2.St} {tb : TE} {ub : TT} {Q : VK} {U : Bool → Hp → Prop} {a c : Bool} {P : Hp → Hp → Prop}
theorem andJV (h2 : a = true → ∀ Q : VK, (∀ F' H', Gr M F H F' H' → P F' H' → Q (.bl c) H') → tb σ H Q) (h3 : a = false → c = false ∧ P F H) (fh : Same F H)
    (q : ∀ F' H', Gr M F H F' H' → P F' H' → Q (.bl c) H') : if a = true then tb σ H Q else Q (.bl false) H := by
  cases e : a with
  | true => exact iteT (h2 e Q q)
  | false =>
    obtain ⟨ec, p⟩ := h3 e
    subst ec
    exact iteF (q _ _ (Gr.refl fh) p)
theorem orJV (h2 : a = false → ∀ Q : VK, (∀ F' H', Gr M F H F' H' → P F' H' → Q (.bl c) H') → tb σ H Q) (h3 : a = true → c = true ∧ P F H) (fh : Same F H)
    (q : ∀ F' H', Gr M F H F' H' → P F' H' → Q (.bl c) H') : if a = true then Q (.bl true) H else tb σ H Q := by
  cases e : a with
  | false => exact iteF (h2 e Q q)
  | true =>
    obtain ⟨ec, p⟩ := h3 e
    subst ec
    exact iteT (q _ _ (Gr.refl fh) p)
theorem andJT (h2 : a = true → ∀ U : Bool → Hp → Prop, (∀ F' H', Gr M F H F' H' → P F' H' → U c H') → ub σ H U) (h3 : a = false → c = false ∧ P F H) (fh : Same F H)
    (q : ∀ F' H', Gr M F H F' H' → P F' H' → U c H') : if a = true then ub σ H U else U false H := by
  cases e : a with
  | true => exact iteT (h2 e U q)
  | false =>
    obtain ⟨ec, p⟩ := h3 e
    subst ec
    exact iteF (q _ _ (Gr.refl fh) p)
theorem orJT (h2 : a = false → ∀ U : Bool → Hp → Prop, (∀ F' H', Gr M F H F' H' → P F' H' → U c H') → ub σ H U) (h3 : a = true → c = true ∧ P F H) (fh : Same F H)
    (q : ∀ F' H', Gr M F H F' H' → P F' H' → U c H') : if a = true then U true H else ub σ H U := by
  cases e : a with
  | false => exact iteF (h2 e U q)
  | true =>
    obtain ⟨ec, p⟩ := h3 e
    subst ec
    exact iteT (q _ _ (Gr.refl fh) p)
end
theorem qOv {a b : Bool} {H : Hp} {Q : VK} (h : a = false) (q : Q (.bl (a || b)) H) : Q (.bl b) H := by subst h; exact q
theorem qOb {a b : Bool} {H : Hp} {Q : Bool → Hp → Prop} (h : a = false) (q : Q (a || b) H) : Q b H := by subst h; exact q
theorem anF {a b : Bool} (h : a = false) : (a && b) = false := by rw [h]; rfl
theorem orTt {a b : Bool} (h : a = true) : (a || b) = true := by rw [h]; rfl
theorem ifTr {c : Bool} {A B : Prop} (h : c = true) (q : A) : if c = true then A else B := by rw [if_pos h]; exact q
theorem ifFr {c : Bool} {A B : Prop} (h : c = false) (q : B) : if c = true then A else B := by rw [if_neg (by rw [h]; decide)]; exact q

/-! ### None -/
class NN (α : Type) [Enc α] : Prop where
  ne : ∀ x : α, Enc.d x ≠ .none
instance : NN Int := ⟨fun _ => nofun⟩
instance : NN Bool := ⟨fun _ => nofun⟩
instance : NN Str := ⟨fun _ => nofun⟩
instance {α : Type} [Enc α] : NN (List α) := ⟨fun _ => nofun⟩
instance {α : Type} [Enc α] : NN (VT α) := ⟨fun _ => nofun⟩
instance {α β : Type} [Enc α] [Enc β] : NN (α × β) := ⟨fun _ => nofun⟩
instance {α β γ : Type} [Enc α] [Enc β] [Enc γ] : NN (T3 α β γ) := ⟨fun _ => nofun⟩
instance {α β γ δ : Type} [Enc α] [Enc β] [Enc γ] [Enc δ] : NN (T4 α β γ δ) := ⟨fun _ => nofun⟩
instance {α β γ δ ε : Type} [Enc α] [Enc β] [Enc γ] [Enc δ] [Enc ε] : NN (T5 α β γ δ ε) := ⟨fun _ => nofun⟩
theorem isN_eq {α : Type} [Enc α] [NN α] {K : PySem.W.Frag} {F : Hp} {v : V} {o : Option α} (r : R K F v o) : decide (v = .non) = o.isNone := by
  cases o with
  | none =>
    have e := R.non_v r
    subst e
    rfl
  | some x =>
    have r' : Rp K F v (Enc.d x) := r
    have h : v ≠ .non := fun e => by
      subst e
      have n := NN.ne x
      revert r' n
      generalize Enc.d x = d
      intro r' n
      cases r'
      exact n rfl
    exact decide_eq_false h

/-! ### walks over texts -/
theorem str_lt {x : Str} {i c : Nat} (h : x.cps[i]? = some c) : i < x.cps.size := (Array.getElem?_eq_some_iff.mp h).1
theorem for_str {z : Str} {g : TG} {tb : TS} {D : Ends} {σ : L2.St} {H : Hp} (Pv : Nat → L2.St → Hp → Prop) (h0 : Pv 0 σ H)
    (hs : ∀ i c σ H, z.cps[i]? = some c → Pv i σ H → g (.str (sgn c)) σ H fun σ2 H2 => tb { D with nx := Pv (i + 1), ct := Pv (i + 1), bk := D.nx } σ2 H2) (hd : ∀ σ H, Pv z.cps.size σ H → D.nx σ H) :
    ∃ W : Nat → Nat → L2.St → Hp → Prop, (∃ m, W 0 m σ H) ∧ ∀ i m σ H, W i m σ H →
      ((Its z).stop i H ∧ D.nx σ H) ∨ ((Its z).go i H ∧ ∃ N : L2.St → Hp → Prop, (∀ σ' H', N σ' H' → ∃ m', m' < m ∧ W (i + 1) m' σ' H') ∧ ∀ x H', (Its z).yld i H x H' → g x σ H' fun σ2 H2 => tb { D with nx := N, ct := N, bk := D.nx } σ2 H2) :=
  for_it walk_str Pv h0 (fun _ _ _ _ _ => trivial) (fun i x σ H H' _ p y => by
    obtain ⟨rfl, c, hc, rfl⟩ := y
    exact hs i c σ _ hc p) hd
theorem lc_str {z : Str} {g : TG} {tt : TT} {te : TE} {vs : List Nat} {σ : L2.St} {H1 : Hp} {D : Addr} {Qd : Hp → Prop} (Pv : Nat → Hp → Prop) (h0 : Pv 0 (upd H1 D (.lst [])))
    (hs : ∀ i c H, z.cps[i]? = some c → Pv i H → g (.str (sgn c)) (wipe σ vs) H fun σ2 H2 => wipe σ2 vs = wipe σ vs ∧ tt σ2 H2 fun b H3 =>
      if b = true then te σ2 H3 fun y H4 => ∃ acc, H4 D = some (.lst acc) ∧ acc.length < sizeLine ∧ Pv (i + 1) (upd H4 D (.lst (acc ++ [y]))) else Pv (i + 1) H3) (hd : ∀ H, Pv z.cps.size H → Qd H) :
    ∃ W : Nat → Nat → Hp → Prop, (∃ m, W 0 m (upd H1 D (.lst []))) ∧ ∀ i m H, W i m H →
      ((Its z).stop i H ∧ Qd H) ∨ ((Its z).go i H ∧ ∃ Nx : Hp → Prop, (∀ H', Nx H' → ∃ m', m' < m ∧ W (i + 1) m' H') ∧ ∀ x H', (Its z).yld i H x H' → g x (wipe σ vs) H' fun σ2 H2 => wipe σ2 vs = wipe σ vs ∧ tt σ2 H2 fun b H3 =>
        if b = true then te σ2 H3 fun y H4 => ∃ acc, H4 D = some (.lst acc) ∧ acc.length < sizeLine ∧ Nx (upd H4 D (.lst (acc ++ [y]))) else Nx H3) :=
  lc_it walk_str Pv h0 (fun _ _ _ _ => trivial) (fun i x H H' _ p y => by
    obtain ⟨rfl, c, hc, rfl⟩ := y
    exact hs i c _ hc p) hd

/-! ### ranges from nought, lists -/
def rangeO1 (hi : Int) : Option (List Int) := if (-(2 ^ 62) ≤ hi ∧ hi < 2 ^ 62) ∧ hi.toNat ≤ sizeLine then some (rangeL 0 hi.toNat) else none
theorem rangeO1_ok {hi : Int} {l : List Int} (h : rangeO1 hi = some l) : ((-(2 ^ 62) ≤ hi ∧ hi < 2 ^ 62) ∧ hi.toNat ≤ sizeLine) ∧ rangeL 0 hi.toNat = l := by
  unfold rangeO1 at h
  split at h
  · exact ⟨by assumption, Option.some.inj h⟩
  · cases h
def setL {α : Type} (xs : List α) (i : Int) (x : α) : Option (List α) := (ixN xs.length i).map fun j => xs.set j x
theorem setL_ok {α : Type} {xs r : List α} {i : Int} {x : α} (h : setL xs i x = some r) : ∃ j, ixN xs.length i = some j ∧ xs.set j x = r := by
  unfold setL at h
  cases e : ixN xs.length i with
  | none => rw [e] at h; cases h
  | some j =>
    rw [e] at h
    exact ⟨j, rfl, Option.some.inj h⟩
/-- sorted whole numbers -/
def sortI (xs : List Int) : List Int := xs.mergeSort fun a b => decide (a ≤ b)
theorem sortI_perm (xs : List Int) : (sortI xs).Perm xs := List.mergeSort_perm _ _
theorem sortI_sorted (xs : List Int) : (sortI xs).Pairwise (· ≤ ·) := by
  have h := List.pairwise_mergeSort (le := fun a b : Int => decide (a ≤ b)) (fun a b c h1 h2 => decide_eq_true (Int.le_trans (of_decide_eq_true h1) (of_decide_eq_true h2)))
    (fun a b => by
      rcases Int.le_total a b with h | h
      · rw [decide_eq_true h]; rfl
      · rw [decide_eq_true h, Bool.or_true]) xs
  exact h.imp fun h => of_decide_eq_true h
theorem sortI_len (xs : List Int) : (sortI xs).length = xs.length := (sortI_perm xs).length_eq
theorem sorted_uniq : ∀ {xs ys : List Int}, xs.Perm ys → xs.Pairwise (· ≤ ·) → ys.Pairwise (· ≤ ·) → xs = ys
  | xs, ys, h, h1, h2 => h.eq_of_pairwise (le := (· ≤ ·)) (fun a b _ _ h3 h4 => Int.le_antisymm h3 h4) h1 h2
theorem sortI_uniq {ns ys : List Int} (h : ys.Perm ns) (h2 : ys.Pairwise (· ≤ ·)) : sortI ns = ys :=
  sorted_uniq ((sortI_perm ns).trans h.symm) (sortI_sorted ns) h2

/-! ### texts: what is stripped, joined -/
theorem GS.sub {x y : Str} (g : GS x) (h : ∀ c ∈ tl y, c ∈ tl x) (hl : (tl y).length ≤ (tl x).length) : GS y := GS.of (Nat.le_trans hl g.tll) fun c hc => g.mem c (h c hc)
theorem GS.join {sep r : Str} {ys : List Str} (gs : GS sep) (gy : ∀ y ∈ ys, GS y) (h : joinS sep ys = some r) : GS r := by
  obtain ⟨h1, rfl⟩ := joinS_ok h
  refine GS.of ?_ fun c hc => ?_
  · rw [← len_tl]
    have e : Txt.join sep ys = Str.join sep ys := by unfold Txt.join; exact StrLaws.glued_eq_join sep ys
    rw [e]
    refine Nat.le_trans (StrLaws.join_length_le sep ys) ?_
    rw [sizeLine_eq]
    exact h1
  · rw [tl_joinS] at hc
    have mem : ∀ (l : List (List Nat)), c ∈ joinL (tl sep) l → c ∈ tl sep ∨ ∃ p ∈ l, c ∈ p := by
      intro l
      induction l with
      | nil => intro h; cases h
      | cons p r ih =>
        cases r with
        | nil => intro h; exact .inr ⟨p, List.mem_singleton.mpr rfl, h⟩
        | cons q r =>
          intro h
          rcases List.mem_append.mp (show c ∈ p ++ (tl sep ++ joinL (tl sep) (q :: r)) from h) with h | h
          · exact .inr ⟨p, List.mem_cons_self .., h⟩
          · rcases List.mem_append.mp h with h | h
            · exact .inl h
            · rcases ih h with h | ⟨p', hp, h⟩
              · exact .inl h
              · exact .inr ⟨p', List.mem_cons_of_mem _ hp, h⟩
    rcases mem _ hc with h | ⟨p, hp, h⟩
    · exact gs.mem c h
    · obtain ⟨y, hy, rfl⟩ := List.mem_map.mp hp
      exact (gy y hy).mem c h
theorem GS.strip {x : Str} (g : GS x) (y : Str) : GS (Txt.stripChars x y) := by
  unfold Txt.stripChars Txt.stripBy
  split
  · exact g
  · have e : ∀ i j, tl (Builtin.Str.strSub x i j) = ((tl x).take j).drop i := fun i j => by
      show (x.cps.extract i j).toList = _
      rw [List.drop_take]
      simp [tl]
    refine g.sub (fun c hc => ?_) ?_
    · unfold stripped at hc
      rw [e] at hc
      exact List.mem_of_mem_take (List.mem_of_mem_drop hc)
    · unfold stripped
      rw [e, List.length_drop, List.length_take]
      omega
end G
/-! My base, part 6: defs by data. -/
namespace G
open PySem PySem.Spec PyProof.Rows L2 TL
abbrev FnP (K : PySem.W.Frag) (x : Str) (st : Stmt) (f : Addr) (fd : FuncData) : Prop := FunD K x x (defArgs st) (defBody st) (defScope st) [] [] f fd
section
variable {P : Program} {w : World} {K : PySem.W.Frag} {mg : Str → Option Value} {base : Heap} {x qual : Str} {params : Arguments} {body : List Stmt} {scope : Scope} {f : Addr} {fd : FuncData}
theorem fd_ok {N ps : List Str} {k : Nat} {sp : Sp} (F : FunD K x qual params body scope [] [] f fd) (S : FnScope N ps scope) (len : ∀ vs H Q E, sp vs H Q E → vs.length = ps.length)
    (hbody : ∀ (cdv : Value) (A : Around) (outer : List Env) (s : Shared) (H : Hp) (vs : List V) (Q : VK) (E : XK), Room k (A.deeper (envOfC qual scope s.heap.objs.size f cdv)) → sp vs H Q E →
      ∃ t, PSs (cxOf CX0 P w K mg base N qual scope f cdv A outer s H E).nox body t ∧ t { nx := fun _ H' => Q .non H', rt := Q } (start N vs) H) : FnOk P w K mg base CX0 (k + 1) f fd ps sp :=
  FunD.ok F S len fun cdv A outer s H vs Q E hr hsp =>
    let ⟨t, h, q⟩ := hbody cdv A outer s H vs Q E hr hsp
    ⟨t, h.nox, q⟩
theorem fd_plain (F : FunD K x qual params body scope [] [] f fd) : ∃ kV doc pm an cdv ct, fd = PySem.W.fnOf x qual params body scope .none kV doc pm an cdv ct := by
  obtain ⟨oc, od, dV, kV, doc, pm, an, cdv, ct, osl, rfl, lk, hcd, hD, hK⟩ := F.ex
  rcases hD with ⟨_, rfl⟩ | ⟨e, _⟩
  · exact ⟨kV, doc, pm, an, cdv, ct, rfl⟩
  · exact absurd rfl e
end
end G
/-! My base, part 7: a text turned round. -/
namespace G
open PySem PySem.Spec PyProof.Rows L2 TL
def revS (x : Str) : Str := ⟨(tl x).reverse.toArray⟩
theorem tl_revS (x : Str) : tl (revS x) = (tl x).reverse := by unfold revS tl; simp
theorem revS_len (x : Str) : (revS x).length = x.length := by rw [len_tl, tl_revS, List.length_reverse, ← len_tl]
theorem GS.rev {x : Str} (g : GS x) : GS (revS x) := g.sub (fun c hc => by rw [tl_revS] at hc; exact List.mem_reverse.mp hc) (by rw [tl_revS, List.length_reverse]; exact Nat.le_refl _)
theorem rev_pick (z : Str) : (⟨((Builtin.Str.strSliceIndices none none (-1) z.length).filterMap (z.cps[·]?)).toArray⟩ : Str) = revS z := by
  have h := step_rev_list z default
  unfold Txt.sliceBy slicePicked at h
  rw [if_neg (by intro h; exact absurd (Bool.and_eq_true_iff.mp h).1 (by decide))] at h
  unfold revS
  have e2 : (tl z).reverse = (List.range z.length).map fun k => z.cps.getD (z.length - 1 - k) 0 := by
    refine List.ext_getElem (by rw [List.length_reverse, List.length_map, List.length_range, ← len_tl]) fun i h1 h2 => ?_
    rw [List.getElem_reverse, List.getElem_map, List.getElem_range]
    have hi : i < z.length := by rw [List.length_reverse, ← len_tl] at h1; exact h1
    have hz : z.cps.size = z.length := rfl
    simp only [tl, Array.getElem_toList, Array.length_toList]
    rw [Array.getD, dif_pos (show z.length - 1 - i < z.cps.size by omega)]
    rfl
  rw [e2, ← h]
  rfl
def tRevS (te : TE) : TE := fun σ H Q => te σ H fun x H1 => ∃ z, x = .str z ∧ z.length ≤ sizeLine ∧ Q (.str (revS z)) H1
theorem pe_revS {X : Cx} {e : Expr} {te : TE} {k : Nat} {p1 p2 p3 pos : Pos} (he : PE X e te) : PE X (.Subscript e (.Slice none none (some (.UnaryOp .USub (.Constant (.int 1) k p1) p2)) p3) pos) (tRevS te) := by
  refine ⟨fun pins s σ H Q I h => ?_⟩
  refine Subscript_ (thn (he.run pins s σ H _ I h) fun v s1 ⟨x, H1, I1, r1, q1⟩ => ?_)
  obtain ⟨z, ex, hz, q⟩ := q1
  subst ex
  obtain ⟨t, rfl⟩ := r1
  have hst : PO X (some (.UnaryOp .USub (.Constant (.int 1) k p1) p2)) (tPart (tUn (rU fun i => .int (-i)) (tC (.int 1)))) := po_some (pe_un un_neg pe_int)
  refine wpAny_Slice (thn (po_none.run pins s1 σ H1 (fun o H2 => o = none ∧ H2 = H1) I1 ⟨rfl, rfl⟩) fun vl s2 ⟨l, H2, I2, pl, el, e2⟩ => ?_)
  subst el e2
  refine thn (po_none.run pins s2 σ H2 (fun o H3 => o = none ∧ H3 = H2) I2 ⟨rfl, rfl⟩) fun vu s3 ⟨u, H3, I3, pu, eu, e3⟩ => ?_
  subst eu e3
  refine thn (hst.run pins s3 σ H3 (fun o H4 => o = some (-1) ∧ H4 = H3) I3 ⟨1, rfl, -1, rfl, rfl, rfl⟩) fun vs s4 ⟨o, H4, I4, ps, eo, e4⟩ => ?_
  subst eo e4
  have I5 : Inv X pins σ H4 { s4 with heap := s4.heap.push { cls := .type "slice", data := .fields #[vl, vu, vs] } } := I4.kept (t' := s4.toks) fun b ob q => Heap.get?_push_of_some _ q
  cases pl
  cases pu
  cases ps with | int _ t2 => ?_
  show wpAny (model X.prog X.w) X.A (subscriptTail e (.Slice none none (some (.UnaryOp .USub (.Constant (.int 1) k p1) p2)) p3) (.str z t) (.ref s4.heap.objs.size)) (EP X pins σ Q) X.xe { s4 with heap := s4.heap.push { cls := .type "slice", data := .fields #[.none, .none, .int (-1) t2] } }
  refine tail_any (ops := [.str z t, .ref s4.heap.objs.size]) (typeIs_str _ _ _) F.slot_str_getitem.lookup ?_ (by with_unfolding_all rfl)
  obtain ⟨os, hos, hcs, hds⟩ := Heap.IsSliceOf.new s4.heap Value.none Value.none (Value.int (-1) t2)
  refine wpAny_getItem_str_slice (l := none) (u := none) (st := some (-1, t2)) ⟨os, hos, hcs, hds⟩ rfl ?_
  have e1 : sliceMade z t none none (some (-1, t2)) = .str (revS z) := by
    unfold sliceMade
    rw [if_neg (by intro h; exact absurd (show ((-1 : Int) == 1) = true from (Bool.and_eq_true_iff.mp h).1) (by decide))]
    exact congrArg Made.str (rev_pick z)
  rw [e1]
  have hl : (revS z).length ≤ sizeLine := by rw [revS_len]; exact hz
  exact ⟨hl, .str _, _, I5.tok _, ⟨_, rfl⟩, q⟩
end G
/-! My base, part 8: which type a thing is of; alike. -/
namespace G
open PySem PySem.Spec PyProof.Rows L2 TL
def tyD : PyData → String
  | .none => "NoneType"
  | .bool _ => "bool"
  | .int _ => "int"
  | .str _ => "str"
  | .list _ => "list"
  | .tuple _ => "tuple"
  | .dict _ => "dict"
def isSq (d : PyData) : Bool := tyD d == "list" || tyD d == "tuple"
section
variable {K : PySem.W.Frag} {F H : Hp} {v : V} {d : PyData} {a : Addr} {xs : List V}
theorem SqL.ty (h : SqL K H a xs) : TyX K H (.ref a) (.type "list") := by
  rcases h with (h | ⟨o, h⟩) | ⟨o, its, n, e, c, _⟩
  · exact .base (.lst h)
  · exact .base (.frz h)
  · exact .kList e c
theorem SqT.ty (h : SqT K H a xs) : TyX K H (.ref a) (.type "tuple") := by
  rcases h with (h | ⟨o, h⟩) | ⟨o, its, n, e, c, _⟩
  · exact .base (.tup h)
  · exact .fTuple h
  · exact .kTuple e c
theorem Rp.ty (h : Rp K H v d) : TyX K H v (.type (tyD d)) := by
  cases h with
  | non => exact .base .non
  | bl b => exact .base (.bl b)
  | int i => exact .base (.int i)
  | str x _ => exact .base (.str x)
  | lst hs _ _ => exact SqL.ty hs
  | tup hs _ _ => exact .base (.tup hs)
/-- the six kinds -/
def Knd (s : String) : Prop := s = "NoneType" ∨ s = "bool" ∨ s = "int" ∨ s = "str" ∨ s = "list" ∨ s = "tuple"
theorem Rp.knd (h : Rp K H v d) : Knd (tyD d) := by
  cases h with
  | non => exact .inl rfl
  | bl _ => exact .inr (.inl rfl)
  | int _ => exact .inr (.inr (.inl rfl))
  | str _ _ => exact .inr (.inr (.inr (.inl rfl)))
  | lst _ _ _ => exact .inr (.inr (.inr (.inr (.inl rfl))))
  | tup _ _ _ => exact .inr (.inr (.inr (.inr (.inr rfl))))
theorem kit_two (s : String) (b c : Bool) (h1 : kitB s "list" = some b) (h2 : kitB s "tuple" = some c) : PySem.W.kitAny K (.type s) [.type "list", .type "tuple"] = some (b || c) := by
  refine kitAny_cons (b := b) (kit_ty h1) (fun hb => ?_) (fun hb => by rw [hb]; rfl)
  refine kitAny_cons (b := c) (kit_ty h2) (fun hc => ?_) (fun hc => by rw [hc, Bool.or_true])
  rw [hb, hc]
  exact kitAny_nil
theorem kit_lt {s : String} (h : Knd s) : PySem.W.kitAny K (.type s) [.type "list", .type "tuple"] = some (s == "list" || s == "tuple") := by
  rcases h with rfl | rfl | rfl | rfl | rfl | rfl <;> exact kit_two _ _ _ (by decide +kernel) (by decide +kernel)
theorem kit_one {s : String} (h : Knd s) (t : String) (ht : t = "list" ∨ t = "bool" ∨ t = "str") : PySem.W.kitOne K (.type s) (.type t) = some (s == t) := by
  rcases ht with rfl | rfl | rfl <;> rcases h with rfl | rfl | rfl | rfl | rfl | rfl <;> exact kit_ty (by decide +kernel)
theorem kit_int {s : String} (h : Knd s) : PySem.W.kitOne K (.type s) (.type "int") = some (s == "int" || s == "bool") := by
  rcases h with rfl | rfl | rfl | rfl | rfl | rfl <;> exact kit_ty (by decide +kernel)
end
/-- no value of the data is deeper than n -/
theorem depth_list {n : Nat} {ds : List PyData} (h : PyData.depthAll ds + 1 ≤ n + 1) {d : PyData} (hd : d ∈ ds) : d.depth ≤ n := by
  have : ∀ (l : List PyData), d ∈ l → d.depth ≤ PyData.depthAll l := by
    intro l
    induction l with
    | nil => intro h; cases h
    | cons x l ih =>
      intro h
      simp only [PyData.depthAll]
      rcases List.mem_cons.mp h with rfl | h
      · omega
      · have := ih h
        omega
  have := this ds hd
  omega
def sp_alike (n : Nat) (K : PySem.W.Frag) : Sp := fun vs H Q _ => ∃ (v1 v2 : V) (d : PyData), vs = [v1, v2] ∧ Rp K H v1 d ∧ Rp K H v2 d ∧ d.depth ≤ n ∧ (∀ F' H', Gr M0 H H F' H' → Q (.bl true) H')
theorem al_sc {K : PySem.W.Frag} {H : Hp} {v1 v2 : V} {d : PyData} (r1 : Rp K H v1 d) (r2 : Rp K H v2 d) (hc : (tyD d == "list" || tyD d == "tuple") = false) : v1 = v2 ∧ scal v1 v2 = true := by
  cases r1 with
  | non => cases r2; exact ⟨rfl, rfl⟩
  | bl b => cases r2; exact ⟨rfl, rfl⟩
  | int i => cases r2; exact ⟨rfl, rfl⟩
  | str x _ => cases r2; exact ⟨rfl, rfl⟩
  | lst h1 h2 h3 => exact absurd hc (by simp [tyD])
  | tup h1 h2 h3 => exact absurd hc (by simp [tyD])
theorem ix_go {K : PySem.W.Frag} {H : Hp} {p : Addr} {xs : List V} {i : Nat} {v : V} {Q : VK} (h : SqL K H p xs ∨ SqT K H p xs) (e : xs[i]? = some v) (q : Q v H) : rIx K (.ref p) (.int (0 + (i : Nat))) H Q := by
  have ha : atI xs (0 + (i : Nat)) = some v := by rw [Int.zero_add]; exact atI_nat e
  rcases h with h | h
  · exact .inl ⟨p, xs, _, v, rfl, rfl, h, ha, q⟩
  · exact .inr (.inl ⟨p, xs, _, v, rfl, rfl, h, ha, q⟩)
theorem sq_up {K : PySem.W.Frag} {H H' : Hp} {p : Addr} {xs : List V} (h : SqL K H p xs ∨ SqT K H p xs) (e : Same H H') : SqL K H' p xs ∨ SqT K H' p xs := by
  rcases h with h | h
  · exact .inl (e.seq h)
  · exact .inr (SqT_mono e h)
def spA : Nat → PySem.W.Frag → Sp
  | 0, _ => fun _ _ _ _ => False
  | n + 1, K => sp_alike n K
theorem al_sq {K : PySem.W.Frag} {H : Hp} {v1 v2 : V} {d : PyData} {n : Nat} (r1 : Rp K H v1 d) (r2 : Rp K H v2 d) (hc : (tyD d == "list" || tyD d == "tuple") = true) (hd : d.depth ≤ n) :
    ∃ a1 ws1 a2 ws2 ds m, v1 = .ref a1 ∧ v2 = .ref a2 ∧ (SqL K H a1 ws1 ∨ SqT K H a1 ws1) ∧ (SqL K H a2 ws2 ∨ SqT K H a2 ws2) ∧ ws1.length ≤ sizeLine ∧ ws2.length ≤ sizeLine ∧ RpA K H ws1 ds ∧ RpA K H ws2 ds ∧ n = m + 1 ∧ ∀ d ∈ ds, d.depth ≤ m := by
  cases r1 with
  | non => exact absurd hc (by decide)
  | bl b => exact absurd hc (by simp [tyD])
  | int i => exact absurd hc (by simp [tyD])
  | str x _ => exact absurd hc (by simp [tyD])
  | lst h1 h2 h3 =>
    cases r2 with
    | lst k1 k2 k3 =>
      cases n with
      | zero => exact absurd hd (Nat.not_succ_le_zero _)
      | succ m => exact ⟨_, _, _, _, _, m, rfl, rfl, .inl h1, .inl k1, h2, k2, h3, k3, rfl, fun d hd2 => depth_list hd hd2⟩
  | tup h1 h2 h3 =>
    cases r2 with
    | tup k1 k2 k3 =>
      cases n with
      | zero => exact absurd hd (Nat.not_succ_le_zero _)
      | succ m => exact ⟨_, _, _, _, _, m, rfl, rfl, .inr (.inl (.inl h1)), .inr (.inl (.inl k1)), h2, k2, h3, k3, rfl, fun d hd2 => depth_list hd hd2⟩
theorem R.of_eq {α : Type} [Enc α] {K : PySem.W.Frag} {F : Hp} {v : V} {x y : α} (h : x = y) (r : R K F v y) : R K F v x := by rw [h]; exact r
theorem retQ {e : Bool} {Q : VK} {H : Hp} (h : e = true) (q : Q (.bl true) H) : Q (.bl e) H := by rw [h]; exact q
def m_l_alike {α : Type} [DecidableEq α] (x y : α) : Option Bool := if x = y then some true else none
theorem alike_ok {α : Type} [DecidableEq α] {x y : α} {r : Bool} (h : m_l_alike x y = some r) : x = y ∧ true = r := by
  unfold m_l_alike at h
  split at h
  · exact ⟨by assumption, Option.some.inj h⟩
  · cases h
theorem op_powW {X : Cx} : OpR X (binaryOp .Pow) (rI (fun i j => 0 ≤ j ∧ (Builtin.Int.intBits i : Int) * j ≤ 2 ^ 27) fun i j => .int (i ^ j.toNat)) := opI fun _ _ _ _ _ _ _ hc q => pow_int hc.1 hc.2 q
end G
/-! My base, part 9: parts of a text. -/
namespace G
open PySem PySem.Spec PyProof.Rows L2 TL
theorem GS.sub_ {x : Str} (g : GS x) (i j : Nat) : GS (Builtin.Str.strSub x i j) := by
  have e : tl (Builtin.Str.strSub x i j) = ((tl x).take j).drop i := by
    show (x.cps.extract i j).toList = _
    rw [List.drop_take]
    simp [tl]
  refine g.sub (fun c hc => ?_) ?_
  · rw [e] at hc
    exact List.mem_of_mem_take (List.mem_of_mem_drop hc)
  · rw [e, List.length_drop, List.length_take]
    omega
theorem GS.empty : GS Str.empty := ⟨Nat.zero_le _, by decide +kernel⟩
theorem GS.part {x y : Str} (gx : GS x) (gy : GS y) : GS (Txt.partition x y).1 ∧ GS (Txt.partition x y).2.1 ∧ GS (Txt.partition x y).2.2 := by
  unfold Txt.partition
  split
  · exact ⟨gx.sub_ _ _, gy, gx.sub_ _ _⟩
  · exact ⟨gx, .empty, .empty⟩
def partS (x y : Str) : T3 Str Str Str := ⟨(Txt.partition x y).1, (Txt.partition x y).2.1, (Txt.partition x y).2.2⟩
theorem lpgo {S R T : Type} {s : S} {f : S → Option T} {g : R → Option T} {t : T} (h : lpK (.go s) f g = some t) : f s = some t := h
end G
/-! My base, part 10: sorted(set(a list of whole numbers)). -/
namespace G
open PySem PySem.Spec PyProof.Rows L2 TL
section
variable {P : Program} {w : World} {A : Around} {E : Value → Shared → Prop} {s : Shared}
/-- the empty set, as it is laid -/
abbrev newS (w : World) : Obj := { cls := .type "set", dict := none, data := .set #[] 0 (.fresh 0 0 (!w.params.followText "set-order")) }
theorem set_of_list {l : Addr} {xs : Array Value} (ks : List Int) {Q : Value → Shared → Prop} (hh : A.handled = none) (hl : s.heap.IsList l xs) (hk : IntsAre xs.toList ks) (hb : ks.length + 1 < scanBound)
    (hq : ∀ (h' : Heap) (tk c : Nat), SetR w h' s.heap.objs.size (fun j => decide (j ∈ ks)) c → c ≤ ks.length → (∀ b o, s.heap.get? b = some o → h'.get? b = some o) → Q (.ref s.heap.objs.size) { s with heap := h', toks := tk }) :
    wpAny (model P w) A (call (.type "set") [.ref l]) Q E s := by
  have hsz : xs.size = ks.length := (Array.length_toList (xs := xs)).symm.trans (IntsAre.length hk)
  obtain ⟨c0, tl0, hmro⟩ := F.called_set.mro
  have hmade := F.called_set.made; have hsub := F.called_set.sub
  refine wpAny_call (codeAny_of_tree ?_); show wpAny _ _ (callAny (.type "set") _) _ _ _
  refine wpAny_pure ⟨Code.quiet_builtin _ (by decide +kernel), codeAny_builtin F.entry_type_call ?_⟩; rw [Around.under_plain (weight_type_call_type "set" [.ref l] []) rfl]
  have n1 := F.called_set.notType; have n2 := F.called_set.canCreate; have n3 := F.typeCall_set_1 (.ref l)
  repeat (any_goals (first | assumption | wp_step))
  refine codeAny_mono (code_set_led1 (A := A.in1) (.ref l) (E := E) (Q₁ := fun ob s₁ => ob = .ref s.heap.objs.size ∧ s₁ = { s with heap := s.heap.push (newS w) }) ⟨rfl, rfl⟩) fun r s₁ hr => ?_
  cases r with
  | error e => exact hr
  | ok fl =>
    cases fl with
    | next => exact hr.elim
    | brk => exact hr.elim
    | cont => exact hr.elim
    | ret ob =>
      obtain ⟨rfl, rfl⟩ := hr
      have hS : (s.heap.push (newS w)).get? s.heap.objs.size = some (newS w) := Heap.get?_push_size _ rfl
      have hT : Shared.TypeIs { s with heap := s.heap.push (newS w) } (.ref s.heap.objs.size) "set" := ⟨_, hS, rfl⟩
      have hli := F.called_set.init.lookup; have hbi := F.called_set.init.bind (.ref s.heap.objs.size)
      repeat (any_goals (first | assumption | wp_step))
      refine codeAny_mono (codeAny_call_builtin (R := wants (fun rr s₂ => rr = .none ∧ ∃ h' tk c, s₂ = { s with heap := h', toks := tk } ∧ SetR w h' s.heap.objs.size (fun j => decide (j ∈ ks)) c ∧ c ≤ ks.length ∧ (∀ b o, s.heap.get? b = some o → h'.get? b = some o)) E)
        F.called_set.init.plain F.entry_set_init (check_set_init_1 hT ?_)) fun r2 s2 hr2 => ?_
      · obtain ⟨⟨lc, ld, lt, ls⟩, hol, hcl, nl, hdl⟩ := hl
        simp only at hcl hdl; subst hcl; subst hdl
        have hol' : (s.heap.push (newS w)).get? l = some { cls := .type "list", dict := ld, data := .seq xs nl, slots := ls } := Heap.get?_push_of_some _ hol
        have b1 := F.sub_list_set; have b2 := F.sub_list_frozenset
        have b3 : (Value.type "list" == Value.type "dict") = false := by decide
        have hl1 : (s.heap.push (newS w)).IsList l xs := ⟨_, hol', rfl, nl, rfl⟩
        unfold Builtin.«set.__init__» noKeywords Builtin.Frozenset.updateFrom; generalize hPI : pyIter = PI
        wp_walk
        subst hPI; refine wpAny_pyIter_list hl1 ?_
        refine wpAny_bind (wpAny_runValue ?_); have lS : l < s.heap.objs.size := Heap.lt_size hol
        have hh3 : A.in1.in1.in1.handled = none := by simp [hh]
        have lI : l ≠ (s.heap.push (newS w)).objs.size := by rw [Heap.size_push]; exact Nat.ne_of_lt (Nat.lt_succ_of_lt lS)
        have sI : s.heap.objs.size ∉ [(s.heap.push (newS w)).objs.size, l] := by
          rw [Heap.size_push]
          intro z
          rcases List.mem_cons.mp z with z | z
          · exact absurd z (Nat.ne_of_lt (Nat.lt_succ_self _))
          · exact absurd (List.mem_singleton.mp z) (Nat.ne_of_gt lS)
        have each : ∀ (i : Nat) (v : Value), xs[i]? = some v → ∃ k t, ks[i]? = some k ∧ v = .int k t := fun i v hv => by
          have hi : i < ks.length := by rw [← hsz]; exact (Array.getElem?_eq_some_iff.mp hv).1
          obtain ⟨t, e⟩ := PyProof.Rows.IntsAre.int_at hk i v (by rw [Array.getElem?_toList]; exact hv)
          exact ⟨ks[i], t, List.getElem?_eq_getElem hi, by rw [e, List.getD_eq_getElem?_getD, List.getElem?_eq_getElem hi]; rfl⟩
        refine set_update_ints ((Walks.list hh3 _ l lI xs).toS) s.heap.objs.size sI ks hsz hb each (xs.size - 0) 0 _ (by omega) (Nat.zero_le _) ⟨⟨_, Heap.get?_push_size _ rfl, rfl, rfl⟩, (hl1.push _)⟩ ⟨0, Nat.le_refl 0, setR_new_at (Heap.get?_push_of_some _ hS)⟩ (fun s' c' hm hc' hS' => ?_)
        obtain ⟨h', g2, d', tk', os'⟩ := s'
        have eg : g2 = s.gens := hm.gens; have ed : d' = s.drawn := hm.drawn
        have eo : os' = s.os := hm.os; subst eg; subst ed; subst eo
        show wpAny _ _ _ _ _ _; refine wpAny_pure ?_
        show wpAny _ _ (ret Value.none) _ _ _; rw [hsz] at hc'
        refine wpAny_pure ⟨rfl, h', tk', c', rfl, hS', hc', fun b o e => ?_⟩
        have m0 : b < s.heap.objs.size := Heap.lt_size e
        refine hm.heap b o (fun z => ?_) (Heap.get?_push_of_some _ (Heap.get?_push_of_some _ e))
        rcases List.mem_cons.mp z with z | z
        · exact absurd z (Nat.ne_of_lt m0)
        · have z := List.mem_singleton.mp z
          rw [Heap.size_push] at z
          exact absurd z (Nat.ne_of_lt (Nat.lt_succ_of_lt m0))
      · cases r2 with
        | error e => exact hr2
        | ok fl2 =>
          cases fl2 with
          | next => exact hr2.elim
          | brk => exact hr2.elim
          | cont => exact hr2.elim
          | ret rr =>
            obtain ⟨rfl, h', tk, c, rfl, hS', hc', hk'⟩ := hr2
            repeat (any_goals (first | assumption | wp_step))
            exact hq _ _ _ hS' hc' hk'
end
end G
/-! My base, part 11: the set sorted. -/
namespace G
open PySem PySem.Spec PyProof.Rows L2 TL
section
variable {P : Program} {w : World} {A : Around} {E : Value → Shared → Prop} {s : Shared} {a : Addr}
theorem set_sorted {S : Int → Bool} {n : Nat} {Q : Value → Shared → Prop} (R : SetR w s.heap a S n) (hh : A.handled = none)
    (hq : ∀ s' p (out : List Value) (c : Nat) (ns : List Int), (∀ b o, s.heap.get? b = some o → s'.heap.get? b = some o) → s'.gens = s.gens → s'.os = s.os → s.heap.objs.size ≤ p →
      s'.heap.get? p = some (seqObj "list" out.toArray c) → IntsAre out ns → ns.Pairwise (· < ·) → (∀ k, k ∈ ns ↔ S k = true) → ns.length ≤ n → Q (.ref p) s') :
    wpAny (model P w) A (call (.builtin "sorted") [.ref a]) Q E s := by
  obtain ⟨o, es, ep, t, ho, hex, hd, good, nd, hm, hb, hf, hn, hr, hl⟩ := R
  refine Calls.call_function_entry kind_sorted plain_sorted entry_sorted (args_sorted1 _) ?_; unfold Builtin.«sorted»
  refine wpAny_bind (m := checkCount "sorted" 1 1 _) (wpAny_pure ?_)
  refine wpAny_bind (collect_set (A := A.in1) hh ⟨o, ho, hex.1, hd⟩ hf hb hr hl fun s1 vs k1 hz g1 o1 pm => ?_)
  have hvl : vs.length = n := by rw [pm.length_eq, List.length_map, Array.length_toList]; exact hn
  have hI : IntsAre vs (vs.map Builtin.Re.reRawOf) := ints_of vs fun v hv => by
    obtain ⟨e, he, q⟩ := List.mem_map.mp (pm.mem_iff.mp hv)
    obtain ⟨k, tk, h1, _⟩ := good e he
    exact ⟨k, tk, q ▸ h1⟩
  have pk : (vs.map Builtin.Re.reRawOf).Perm (es.toList.map keyOf) := by
    have q := pm.map Builtin.Re.reRawOf
    rwa [List.map_map] at q
  have hsl : vs.length ≤ sizeLine := by
    rw [hvl, ← hn, sizeLine_eq]
    have := hb
    unfold scanBound at this
    omega
  refine wpAny_bind (wpAny_newList ?_ hsl)
  have hoL : (s1.heap.push (seqObj "list" vs.toArray 0)).get? s1.heap.objs.size = some (seqObj "list" vs.toArray 0) := Heap.get?_push_size _ rfl
  refine wpAny_bind (wpAny_holding (wpAny_call_entry slot_list_sort ⟨_, hoL, rfl⟩ entry_list_sort (SrtO.list_sort_ord SrtO.swo_int hoL hsl (fun h2 => SrtO.ints_sortable hI h2) fun out h1 h2 => ⟨_, rfl, ?_⟩) (args_list_sort _)))
  obtain ⟨z1, z2, z3⟩ := SrtO.ints_out hI h1 h2
  obtain ⟨c, hc⟩ := sortedHeap_at (vs := vs) (out := out.toArray) hoL
  have pn := z2.trans pk
  refine wpAny_pure ⟨_, rfl, hq _ s1.heap.objs.size out c _ (fun b u e => ?_) g1 o1 hz hc z1 (lt_of_le_nodup _ z3 (pn.nodup_iff.mpr nd)) (fun k => by rw [pn.mem_iff, ← hm k]) (by rw [pn.length_eq, List.length_map, Array.length_toList, hn]; exact Nat.le_refl _)⟩
  have q := k1 b u e
  have hlt := Heap.lt_size q
  show (sortedHeap (s1.heap.push (seqObj "list" vs.toArray 0)) s1.heap.objs.size vs out.toArray).get? b = some u
  rw [sortedHeap_old (Nat.ne_of_lt hlt) (by rw [Heap.size_push]; exact Nat.lt_succ_of_lt hlt)]
  exact Heap.get?_push_of_some _ q
end
end G
/-! My base, part 12: the rule. -/
namespace G
open PySem PySem.Spec PyProof.Rows L2 TL
section
variable {X : Cx}
/-- sorted(set(a list of whole numbers)) -/
def tSSet (K : PySem.W.Frag) (ta : TE) : TE := fun σ H Q => ta σ H fun x H1 => ∃ (l : Addr) (ks : List Int), x = V.ref l ∧ SqL K H1 l (ks.map V.int) ∧ ks.length < 4000 ∧
  ∀ (ns : List Int) (p : Addr), ns.Pairwise (· < ·) → (∀ k, k ∈ ns ↔ k ∈ ks) → ns.length ≤ ks.length → H1 p = none → Q (.ref p) (upd H1 p (.lst (ns.map V.int)))
theorem pe_sset {a : Expr} {ta : TE} {p p2 q pos : Pos} (hc : X.calm = true) (hg : Gl X "sorted") (hm : X.mg "sorted" = none) (hg2 : Gl X "set") (hm2 : X.mg "set" = none) (ha : PE X a ta)
    (na : starEach [a] X.env = (false, eval a X.env) :: starEach [] X.env := by rfl) : PE X (.Call (.Name "sorted" p) [.Call (.Name "set" p2) [a] [] q] [] pos) (tSSet X.K ta) := by
  refine ⟨fun pins s σ H Q I h => ?_⟩
  refine Call_ (ld_blt I hg hm (u := .builtin "sorted") (by decide +kernel) ?_)
  refine PyProof.Rows.callWith_builtin1 (PyProof.Rows.args_cons ?_ rfl) rfl rfl
  refine Call_ (ld_blt I hg2 hm2 PyProof.Rows.boot_set ?_)
  refine PyProof.Rows.callWith_type1 (PyProof.Rows.args_cons (thn (ha.run pins s σ H _ I h) fun v s1 ⟨x, H1, I1, r1, q1⟩ => PyProof.Rows.args_nil ?_) na) na rfl
  obtain ⟨l, ks, rfl, hq, h4, q1⟩ := q1
  cases r1
  obtain ⟨its, r, pl, hz⟩ := I1.list hq
  refine set_of_list ks (I1.ok.hd hc) pl.isList (by simpa using r.ints) (by unfold scanBound; omega) fun h' tk c hS hck hk => ?_
  refine PyProof.Rows.args_nil ?_
  have I2 : Inv X pins σ H1 { s1 with heap := h', toks := tk } := I1.kept fun b o e => hk b o e
  refine set_sorted hS (I2.ok.hd hc) fun s' p out c2 ns k g o hp hgt hi hs hmem hlen => ?_
  have hlen2 : ns.length ≤ ks.length := Nat.le_trans hlen hck
  have hlz : (ns.map V.int).length ≤ sizeLine := by rw [List.length_map, sizeLine_eq]; omega
  have hn : H1 p = none := I2.hok.fresh hp
  have J : Inv X pins σ (upd H1 p (.lst (ns.map V.int))) s' := Inv.call' (ch := []) I2 o (Un.laid k hp hn) (I2.hok.laid k hp ⟨hlz, out, c2, vals_of_ints hi, hgt⟩) (by rw [g]; exact I2.bare) (fun _ z => nomatch z)
  exact ⟨.ref p, _, J, rfl, q1 ns p hs (fun k => by rw [hmem k, decide_eq_true_iff]) hlen2 hn⟩
end
end G
/-! My base, part 13: what sorted(set(..)) comes to. -/
namespace G
open PySem PySem.Spec PyProof.Rows L2 TL
/-- x put into a rising list, once -/
def ins (x : Int) : List Int → List Int
  | [] => [x]
  | y :: ys => if x < y then x :: y :: ys else if x = y then y :: ys else y :: ins x ys
def ssort (xs : List Int) : List Int := xs.foldr ins []
theorem ins_mem {x k : Int} : ∀ {l : List Int}, k ∈ ins x l ↔ k = x ∨ k ∈ l
  | [] => by simp [ins]
  | y :: ys => by
    unfold ins
    split
    · simp
    · split
      · rename_i h
        subst h
        simp
      · rw [List.mem_cons, ins_mem, List.mem_cons]
        constructor
        · rintro (h | h | h)
          · exact .inr (.inl h)
          · exact .inl h
          · exact .inr (.inr h)
        · rintro (h | h | h)
          · exact .inr (.inl h)
          · exact .inl h
          · exact .inr (.inr h)
theorem ins_sorted {x : Int} : ∀ {l : List Int}, l.Pairwise (· < ·) → (ins x l).Pairwise (· < ·)
  | [], _ => List.pairwise_singleton _ _
  | y :: ys, h => by
    obtain ⟨h1, h2⟩ := List.pairwise_cons.mp h
    unfold ins
    split
    · rename_i hx
      exact List.pairwise_cons.mpr ⟨fun z hz => by
        rcases List.mem_cons.mp hz with rfl | hz
        · exact hx
        · exact Int.lt_trans hx (h1 z hz), h⟩
    · split
      · exact h
      · refine List.pairwise_cons.mpr ⟨fun z hz => ?_, ins_sorted h2⟩
        rcases ins_mem.mp hz with rfl | hz
        · omega
        · exact h1 z hz
theorem ssort_mem {k : Int} : ∀ {l : List Int}, k ∈ ssort l ↔ k ∈ l
  | [] => Iff.rfl
  | x :: l => by
    show k ∈ ins x (ssort l) ↔ _
    rw [ins_mem, ssort_mem, List.mem_cons]
theorem ssort_sorted : ∀ l : List Int, (ssort l).Pairwise (· < ·)
  | [] => List.Pairwise.nil
  | x :: l => ins_sorted (ssort_sorted l)
theorem rise_uniq : ∀ {a b : List Int}, a.Pairwise (· < ·) → b.Pairwise (· < ·) → (∀ k, k ∈ a ↔ k ∈ b) → a = b
  | [], [], _, _, _ => rfl
  | [], y :: _, _, _, h => absurd ((h y).mpr (List.mem_cons_self ..)) (fun z => nomatch z)
  | x :: _, [], _, _, h => absurd ((h x).mp (List.mem_cons_self ..)) (fun z => nomatch z)
  | x :: a, y :: b, ha, hb, h => by
    obtain ⟨a1, a2⟩ := List.pairwise_cons.mp ha
    obtain ⟨b1, b2⟩ := List.pairwise_cons.mp hb
    have e : x = y := by
      rcases List.mem_cons.mp ((h x).mp (List.mem_cons_self ..)) with z | z
      · exact z
      · rcases List.mem_cons.mp ((h y).mpr (List.mem_cons_self ..)) with z2 | z2
        · exact z2.symm
        · have := b1 x z
          have := a1 y z2
          omega
    subst e
    rw [rise_uniq a2 b2 fun k => ?_]
    constructor
    · intro hk
      rcases List.mem_cons.mp ((h k).mp (List.mem_cons_of_mem _ hk)) with z | z
      · have := a1 k hk; omega
      · exact z
    · intro hk
      rcases List.mem_cons.mp ((h k).mpr (List.mem_cons_of_mem _ hk)) with z | z
      · have := b1 k hk; omega
      · exact z
theorem ssort_uniq {xs ns : List Int} (h1 : ns.Pairwise (· < ·)) (h2 : ∀ k, k ∈ ns ↔ k ∈ xs) : ssort xs = ns :=
  rise_uniq (ssort_sorted xs) h1 fun k => by rw [ssort_mem, h2]
def ssetO (xs : List Int) : Option (List Int) := if xs.length < 4000 then some (ssort xs) else none
theorem ssetO_ok {xs r : List Int} (h : ssetO xs = some r) : xs.length < 4000 ∧ ssort xs = r := by
  unfold ssetO at h
  split at h
  · exact ⟨by assumption, Option.some.inj h⟩
  · cases h
end G
/-! My base, part 14: list(zip(two lists)). -/
namespace G
open PySem PySem.Spec PyProof.Rows L2 TL
theorem zip_nolen : typeLookup (.type "zip") "__len__" = pure none := by rw [typeLookup_type, builtinLookup_eq_fast]; kernel_rfl
theorem zip_nohint : typeLookup (.type "zip") "__length_hint__" = pure none := by rw [typeLookup_type, builtinLookup_eq_fast]; kernel_rfl
/-- where the gathering of a zip stands: Ts are the pairs handed out, all of them still there -/
structure ZSt (z TI TO i1 i2 l1 l2 : Addr) (lo : Nat) (xs ys : Array Value) (h : Heap) (Ts : List Addr) : Prop where
  ti : IsPair h TI (.ref i1) (.ref i2)
  z : (Ts = [] ∧ IsZip h z TI TO .none ∧ ∃ a b, IsPair h TO a b) ∨ ∃ T f, T ∈ Ts ∧ IsZipHeld h z TI TO T f
  a1 : h.IsListIter i1 l1 Ts.length
  a2 : h.IsListIter i2 l2 Ts.length
  b1 : h.IsList l1 xs
  b2 : h.IsList l2 ys
  prs : ∀ (j : Nat) (T : Addr), Ts[j]? = some T → ∃ x y, xs[j]? = some x ∧ ys[j]? = some y ∧ IsPair h T x y
  fr : ∀ T ∈ Ts, lo ≤ T
  nd : Ts.Nodup
theorem ne_lo {a b lo : Nat} (h : a < lo) (h2 : lo ≤ b) : b ≠ a := fun e => absurd (e ▸ h2) (Nat.not_le_of_lt h)
section
variable {P : Program} {w : World} {A : Around} {E : Value → Shared → Prop} {s : Shared} {z TI TO i1 i2 l1 l2 S : Addr} {lo : Nat} {xs ys : Array Value} {h h' : Heap} {Ts : List Addr}
theorem ZSt.at_T (Z : ZSt z TI TO i1 i2 l1 l2 lo xs ys h Ts) {T : Addr} (hT : T ∈ Ts) : ∃ o, h.get? T = some o := by
  obtain ⟨j, hj⟩ := List.getElem?_of_mem hT
  obtain ⟨x, y, _, _, p⟩ := Z.prs j T hj
  exact ⟨_, p⟩
/-- what is kept of it by a write elsewhere -/
theorem ZSt.keep (Z : ZSt z TI TO i1 i2 l1 l2 lo xs ys h Ts) (hS : S < lo) (S1 : S ≠ z) (S2 : S ≠ TI) (S3 : S ≠ TO) (S4 : S ≠ i1) (S5 : S ≠ i2) (S6 : S ≠ l1) (S7 : S ≠ l2) (k : ∀ b o, b ≠ S → h.get? b = some o → h'.get? b = some o) : ZSt z TI TO i1 i2 l1 l2 lo xs ys h' Ts := by
  refine ⟨k _ _ S2.symm Z.ti, ?_, Z.a1.at fun o e => k _ o S4.symm e, Z.a2.at fun o e => k _ o S5.symm e, Z.b1.at fun o e => k _ o S6.symm e, Z.b2.at fun o e => k _ o S7.symm e, fun j T hj => ?_, Z.fr, Z.nd⟩
  · rcases Z.z with ⟨e, q, a, b, r⟩ | ⟨T, f, hT, q⟩
    · exact .inl ⟨e, k _ _ S1.symm q, a, b, k _ _ S3.symm r⟩
    · exact .inr ⟨T, f, hT, k _ _ S1.symm q⟩
  · obtain ⟨x, y, e1, e2, p⟩ := Z.prs j T hj
    have hT := Z.fr T (List.mem_of_getElem? hj)
    exact ⟨x, y, e1, e2, k _ _ (ne_lo hS hT) p⟩
/-- one pair more -/
theorem ZSt.more (Z : ZSt z TI TO i1 i2 l1 l2 lo xs ys h Ts) (D : ZipApart z TI TO i1 i2 l1 l2) (hlo : lo ≤ h.objs.size) (hl : z < lo ∧ TO < lo ∧ i1 < lo ∧ i2 < lo) {f : Bool} {x y : Value} (c1 : IsZipHeld h' z TI TO h.objs.size f ∨ ∃ T, T ∈ Ts ∧ IsZipHeld h' z TI TO T f)
    (c2 : h'.IsListIter i1 l1 (Ts.length + 1)) (c3 : h'.IsListIter i2 l2 (Ts.length + 1)) (c4 : IsPair h' h.objs.size x y) (e1 : xs[Ts.length]? = some x) (e2 : ys[Ts.length]? = some y)
    (k : ∀ c o, c ≠ z → c ≠ TO → c ≠ i1 → c ≠ i2 → h.get? c = some o → h'.get? c = some o) : ZSt z TI TO i1 i2 l1 l2 lo xs ys h' (Ts ++ [h.objs.size]) := by
  have hn : h.objs.size ∉ Ts := fun m => by
    obtain ⟨o, e⟩ := Z.at_T m
    exact absurd (Heap.lt_size e) (Nat.lt_irrefl _)
  refine ⟨k _ _ D.TIz D.TITO D.TIi1 D.TIi2 Z.ti, .inr ?_, ?_, ?_, Z.b1.at fun o e => k _ o D.l1z D.l1TO D.l1i1 D.l1i2 e, Z.b2.at fun o e => k _ o D.l2z D.l2TO D.l2i1 D.l2i2 e, fun j T hj => ?_, fun T hT => ?_, ?_⟩
  · rcases c1 with c1 | ⟨T, hT, c1⟩
    · exact ⟨_, f, List.mem_append.mpr (.inr (List.mem_singleton.mpr rfl)), c1⟩
    · exact ⟨T, f, List.mem_append.mpr (.inl hT), c1⟩
  · rw [List.length_append]; exact c2
  · rw [List.length_append]; exact c3
  · by_cases hjl : j < Ts.length
    · rw [List.getElem?_append_left hjl] at hj
      obtain ⟨x', y', f1, f2, p⟩ := Z.prs j T hj
      have hT := Z.fr T (List.mem_of_getElem? hj)
      exact ⟨x', y', f1, f2, k _ _ (ne_lo hl.1 hT) (ne_lo hl.2.1 hT) (ne_lo hl.2.2.1 hT) (ne_lo hl.2.2.2 hT) p⟩
    · rw [List.getElem?_append_right (by omega)] at hj
      have hj0 : j - Ts.length = 0 := by
        cases q : j - Ts.length with
        | zero => rfl
        | succ m => rw [q] at hj; simp at hj
      rw [hj0] at hj
      have eT : h.objs.size = T := Option.some.inj hj
      have ej : j = Ts.length := by omega
      subst ej
      subst eT
      exact ⟨x, y, e1, e2, c4⟩
  · rcases List.mem_append.mp hT with m | m
    · exact Z.fr T m
    · rw [List.mem_singleton.mp m]; exact hlo
  · exact List.nodup_append.mpr ⟨Z.nd, by simp, fun a ha b hb => by
      rw [List.mem_singleton.mp hb]
      intro e
      rw [e] at ha
      exact hn ha⟩
theorem zip_gather {R : Result → Shared → Prop} (hh : A.in1.handled = none) (D : ZipApart z TI TO i1 i2 l1 l2) (hl : z < lo ∧ TO < lo ∧ i1 < lo ∧ i2 < lo) (hS : S < lo) (S1 : S ≠ z) (S2 : S ≠ TI) (S3 : S ≠ TO) (S4 : S ≠ i1) (S5 : S ≠ i2) (S6 : S ≠ l1) (S7 : S ≠ l2) (hn : min xs.size ys.size ≤ sizeLine) (res : Value) :
    ∀ (k : Nat) (s : Shared) (Ts : List Addr) (c : Nat), min xs.size ys.size - Ts.length = k → Ts.length ≤ min xs.size ys.size → lo ≤ s.heap.objs.size → ZSt z TI TO i1 i2 l1 l2 lo xs ys s.heap Ts →
    s.heap.get? S = some { cls := .type "list", dict := none, data := .seq (Ts.map Value.ref).toArray c, slots := #[] } →
    (∀ (s' : Shared) (Ts' : List Addr) (c' : Nat), s'.gens = s.gens → s'.os = s.os → (∀ (j : Nat) (T : Addr), Ts'[j]? = some T → ∃ x y, xs[j]? = some x ∧ ys[j]? = some y ∧ IsPair s'.heap T x y) → (∀ T ∈ Ts', lo ≤ T) → Ts'.Nodup → Ts'.length = min xs.size ys.size → s'.heap.get? S = some { cls := .type "list", dict := none, data := .seq (Ts'.map Value.ref).toArray c', slots := #[] } →
      (∀ b o, b ≠ S → b ≠ z → b ≠ TO → b ≠ i1 → b ≠ i2 → s.heap.get? b = some o → s'.heap.get? b = some o) → R (.ok (.ret res)) s') →
    codeAny (model P w) A (.builtin "list.extend.loop" ⟨[.ref S, .ref z, res], []⟩) R s := by
  intro k
  induction k with
  | zero =>
    intro s Ts c hk hle hlo Z hSo hR
    have hlen : Ts.length = min xs.size ys.size := by omega
    refine codeAny_builtin F.entry_extend_loop ?_; rw [Around.under_plainId F.plain_extend_loop _]
    show wpAny _ A.in1 (pyNext (.ref z) >>= _) _ _ s
    have hend : xs[Ts.length]? = none ∨ ys[Ts.length]? = none := by
      rcases Nat.le_total xs.size ys.size with q | q
      · exact .inl (Array.getElem?_eq_none (by omega))
      · exact .inr (Array.getElem?_eq_none (by omega))
    have fin : ∀ h' : Heap, (∀ c o, c ≠ z → c ≠ TO → c ≠ i1 → c ≠ i2 → s.heap.get? c = some o → h'.get? c = some o) → R (.ok (.ret res)) { s with heap := h' } := fun h' kk => by
      refine hR { s with heap := h' } Ts c rfl rfl (fun j T hj => ?_) Z.fr Z.nd hlen (kk _ _ S1 S3 S4 S5 hSo) (fun b o _ b2 b3 b4 b5 e => kk b o b2 b3 b4 b5 e)
      obtain ⟨x, y, e1, e2, p⟩ := Z.prs j T hj
      have hT := Z.fr T (List.mem_of_getElem? hj)
      exact ⟨x, y, e1, e2, kk _ _ (ne_lo hl.1 hT) (ne_lo hl.2.1 hT) (ne_lo hl.2.2.1 hT) (ne_lo hl.2.2.2 hT) p⟩
    rcases Z.z with ⟨e, q, a, b, r⟩ | ⟨T, f, hT, q⟩
    · refine wpAny_bind (wpAny_pyNext_zip_end hh D q Z.ti r Z.a1 Z.a2 Z.b1 Z.b2 hend fun h' kk => ?_)
      exact wpAny_pure (fin h' kk)
    · obtain ⟨oT, eT⟩ := Z.at_T hT
      refine wpAny_bind (wpAny_pyNext_zip_end_held hh D q eT Z.ti Z.a1 Z.a2 Z.b1 Z.b2 hend fun h' kk => ?_)
      exact wpAny_pure (fin h' fun c o c1 _ c3 c4 e => kk c o c1 c3 c4 e)
  | succ k ih =>
    intro s Ts c hk hle hlo Z hSo hR
    have hlt : Ts.length < min xs.size ys.size := by omega
    have hx : Ts.length < xs.size := by omega
    have hy : Ts.length < ys.size := by omega
    have e1 : xs[Ts.length]? = some xs[Ts.length] := Array.getElem?_eq_getElem hx
    have e2 : ys[Ts.length]? = some ys[Ts.length] := Array.getElem?_eq_getElem hy
    refine codeAny_builtin F.entry_extend_loop ?_; rw [Around.under_plainId F.plain_extend_loop _]
    show wpAny _ A.in1 (pyNext (.ref z) >>= _) _ _ s
    have go : ∀ h' : Heap, h'.objs.size = s.heap.objs.size + 1 → ZSt z TI TO i1 i2 l1 l2 lo xs ys h' (Ts ++ [s.heap.objs.size]) → (∀ c o, c ≠ z → c ≠ TO → c ≠ i1 → c ≠ i2 → s.heap.get? c = some o → h'.get? c = some o) →
        wpAny (model P w) A.in1 (updateSeq S (·.push (Value.ref s.heap.objs.size)) >>= fun _ => again (.builtin "list.extend.loop" ⟨[.ref S, .ref z, res], []⟩)) (fun fin s' => match fin with | .done f => R (.ok f) s' | .again c' => c'.quiet = true ∧ codeAny (model P w) A c' R s') (fun e s' => R (.error e) s') { s with heap := h' } := fun h' hsz Z' kk => by
      have hS' : h'.get? S = some { cls := .type "list", dict := none, data := .seq (Ts.map Value.ref).toArray c, slots := #[] } := kk _ _ S1 S3 S4 S5 hSo
      have hlen1 : ((Ts.map Value.ref).toArray).size = Ts.length := by simp
      refine wpAny_bind ?_
      refine wpAny_updateSeq (s := { s with heap := h' }) hS' rfl (wpAny_pure ⟨plainId_quiet F.plain_extend_loop _, ?_⟩) (by rw [hlen1]; omega) (by show ((Ts.map Value.ref).toArray.push _).size ≤ sizeLine + 1; rw [Array.size_push, hlen1]; omega)
      have hS2 := Heap.get?_update_self (Obj.mapSeq (·.push (Value.ref s.heap.objs.size))) hS' rfl
      have kS : ∀ b o, b ≠ S → h'.get? b = some o → (h'.update S (Obj.mapSeq (·.push (Value.ref s.heap.objs.size)))).get? b = some o := fun b o hb e => (Heap.get?_update_other _ _ (Ne.symm hb)).trans e
      have eA : (Ts.map Value.ref).toArray.push (Value.ref s.heap.objs.size) = ((Ts ++ [s.heap.objs.size]).map Value.ref).toArray := by simp
      refine ih _ (Ts ++ [s.heap.objs.size]) _ (by rw [List.length_append]; show _ - (Ts.length + 1) = k; omega) (by rw [List.length_append]; show Ts.length + 1 ≤ _; omega) ?_ (Z'.keep hS S1 S2 S3 S4 S5 S6 S7 kS) (by rw [← eA]; exact hS2) (fun s' Ts' c' g1 g2 g3 g4 g5 g6 g7 g8 => ?_)
      · show lo ≤ (h'.update S _).objs.size
        rw [(Heap.SameBut.update h' S _).1, hsz]
        omega
      · exact hR s' Ts' c' g1 g2 g3 g4 g5 g6 g7 fun b o b1 b2 b3 b4 b5 e => g8 b o b1 b2 b3 b4 b5 (kS b o b1 (kk b o b2 b3 b4 b5 e))
    rcases Z.z with ⟨e, q, a, b, r⟩ | ⟨T, f, hT, q⟩
    · refine wpAny_bind (wpAny_pyNext_zip_item D q Z.ti r Z.a1 Z.a2 Z.b1 Z.b2 e1 e2 fun h' d1 d2 d3 d4 d5 d6 kk => ?_)
      exact go h' d6 (Z.more D hlo hl (f := false) (.inl d1) d3 d4 d5 e1 e2 kk) kk
    · obtain ⟨oT, eT⟩ := Z.at_T hT
      refine wpAny_bind (wpAny_pyNext_zip_item_held D q eT Z.ti Z.a1 Z.a2 Z.b1 Z.b2 e1 e2 fun h' d1 d3 d4 d5 d6 kk => ?_)
      exact go h' d6 (Z.more D hlo hl (f := true) (.inr ⟨T, hT, d1⟩) d3 d4 d5 e1 e2 fun c o c1 _ c3 c4 e => kk c o c1 c3 c4 e) fun c o c1 _ c3 c4 e => kk c o c1 c3 c4 e
end
end G
/-! My base, part 15: list(zip(..)), the call. -/
namespace G
open PySem PySem.Spec PyProof.Rows L2 TL
section
variable {P : Program} {w : World} {A : Around} {E : Value → Shared → Prop} {s : Shared} {z TI TO i1 i2 l1 l2 S : Addr} {lo : Nat} {xs ys : Array Value}
theorem zip_extend {R : Result → Shared → Prop} (hh : A.handled = none) (D : ZipApart z TI TO i1 i2 l1 l2) (hl : z < lo ∧ TO < lo ∧ i1 < lo ∧ i2 < lo) (hS : S < lo) (S1 : S ≠ z) (S2 : S ≠ TI) (S3 : S ≠ TO) (S4 : S ≠ i1) (S5 : S ≠ i2) (S6 : S ≠ l1) (S7 : S ≠ l2) (hn : min xs.size ys.size ≤ sizeLine) (res : Value)
    (c0 : Nat) (hlo : lo ≤ s.heap.objs.size) (Z : ZSt z TI TO i1 i2 l1 l2 lo xs ys s.heap []) (hSo : s.heap.get? S = some { cls := .type "list", dict := none, data := .seq #[] c0, slots := #[] })
    (hR : ∀ (s' : Shared) (Ts' : List Addr) (c' : Nat), s'.gens = s.gens → s'.os = s.os → (∀ (j : Nat) (T : Addr), Ts'[j]? = some T → ∃ x y, xs[j]? = some x ∧ ys[j]? = some y ∧ IsPair s'.heap T x y) → (∀ T ∈ Ts', lo ≤ T) → Ts'.Nodup → Ts'.length = min xs.size ys.size → s'.heap.get? S = some { cls := .type "list", dict := none, data := .seq (Ts'.map Value.ref).toArray c', slots := #[] } →
      (∀ b o, b ≠ S → b ≠ z → b ≠ TO → b ≠ i1 → b ≠ i2 → s.heap.get? b = some o → s'.heap.get? b = some o) → R (.ok (.ret res)) s') :
    wpAny (model P w) A.in1 (Builtin.List.listExtendWith (.ref S) (.ref z) res) (fun fin s' => match fin with | .done f => R (.ok f) s' | .again c' => c'.quiet = true ∧ codeAny (model P w) A c' R s') (fun e s' => R (.error e) s') s := by
  have hh1 : A.in1.handled = none := by simp [hh]
  obtain ⟨q0, q, ta, tb, tr⟩ : ([] : List Addr) = [] ∧ IsZip s.heap z TI TO .none ∧ ∃ a b, IsPair s.heap TO a b := by
    rcases Z.z with h | ⟨T, f, hT, _⟩
    · exact h
    · exact nomatch hT
  have hT : s.TypeIs (.ref z) "zip" := ⟨_, q, rfl⟩
  unfold Builtin.List.listExtendWith; refine wpAny_bind (wpAny_typeOf hT ?_)
  have m1 : Builtin.List.listSameRef (.ref S) (.ref z) = false := by simp [Builtin.List.listSameRef, S1]
  have m2 : (Value.type "zip" == Value.type "list") = false := by decide
  have m3 : (Value.type "zip" == Value.type "tuple") = false := by decide
  simp only [m1, m2, m3, Bool.or_false, Bool.false_eq_true, if_false]
  refine wpAny_bind (wpAny_pyIter_zip q ?_)
  refine wpAny_bind (wpAny_holding ?_); unfold Builtin.List.listLengthHint
  refine wpAny_bind (wpAny_specialOf hT zip_nolen ?_)
  show wpAny _ A.in1 (specialOf (Value.ref z) (Str.ofString "__length_hint__") >>= _) _ _ _
  refine wpAny_bind (wpAny_specialOf hT zip_nohint ?_); refine wpAny_pure ?_
  show wpAny _ A.in1 (rule "list.extend.makes-room" >>= fun _ => Builtin.List.listTouch (.ref S) >>= fun _ => again (.builtin "list.extend.loop" ⟨[.ref S, .ref z, res], []⟩)) _ _ _
  refine wpAny_bind (wpAny_rule ?_); refine wpAny_bind ?_
  show wpAny _ A.in1 (updateSeq S (·.push .none) >>= fun _ => updateSeq S (·.pop)) _ _ _
  refine wpAny_bind (wpAny_updateSeq hSo rfl ?_)
  have hS2 := Heap.get?_update_self (Obj.mapSeq (·.push Value.none)) hSo rfl
  refine wpAny_updateSeq (hz := by seq_fits) hS2 rfl ?_
  have hS3 := Heap.get?_update_self (Obj.mapSeq (·.pop)) hS2 rfl
  have oth : ∀ b o, b ≠ S → s.heap.get? b = some o → ((s.heap.update S (Obj.mapSeq (·.push Value.none))).update S (Obj.mapSeq (·.pop))).get? b = some o := fun b o hb e => (Heap.get?_update_other _ _ (Ne.symm hb)).trans ((Heap.get?_update_other _ _ (Ne.symm hb)).trans e)
  refine wpAny_pure ⟨plainId_quiet F.plain_extend_loop _, zip_gather hh1 D hl hS S1 S2 S3 S4 S5 S6 S7 hn res (min xs.size ys.size) _ [] _ rfl (Nat.zero_le _) ?_ (Z.keep hS S1 S2 S3 S4 S5 S6 S7 oth) hS3 fun s' Ts' c' g1 g2 g3 g4 g5 g6 g7 g8 => ?_⟩
  · show lo ≤ ((s.heap.update S _).update S _).objs.size
    rw [(Heap.SameBut.update _ S _).1, (Heap.SameBut.update _ S _).1]
    exact hlo
  · exact hR s' Ts' c' g1 g2 g3 g4 g5 g6 g7 fun b o b1 b2 b3 b4 b5 e => g8 b o b1 b2 b3 b4 b5 (oth b o b1 e)
theorem list_zip {Q : Value → Shared → Prop} (hh : A.handled = none) (D : ZipApart z TI TO i1 i2 l1 l2) (hl : z < s.heap.objs.size ∧ TO < s.heap.objs.size ∧ i1 < s.heap.objs.size ∧ i2 < s.heap.objs.size ∧ TI < s.heap.objs.size ∧ l1 < s.heap.objs.size ∧ l2 < s.heap.objs.size) (hn : min xs.size ys.size ≤ sizeLine)
    (hz : IsZip s.heap z TI TO .none) (hTI : IsPair s.heap TI (.ref i1) (.ref i2)) {a b : Value} (hTO : IsPair s.heap TO a b) (a1 : s.heap.IsListIter i1 l1 0) (a2 : s.heap.IsListIter i2 l2 0) (b1 : s.heap.IsList l1 xs) (b2 : s.heap.IsList l2 ys)
    (hq : ∀ (s' : Shared) (Ts' : List Addr) (c' : Nat), s'.gens = s.gens → s'.os = s.os → (∀ (j : Nat) (T : Addr), Ts'[j]? = some T → ∃ x y, xs[j]? = some x ∧ ys[j]? = some y ∧ IsPair s'.heap T x y) → (∀ T ∈ Ts', s.heap.objs.size + 1 ≤ T) → Ts'.Nodup → Ts'.length = min xs.size ys.size → s'.heap.get? s.heap.objs.size = some { cls := .type "list", dict := none, data := .seq (Ts'.map Value.ref).toArray c', slots := #[] } →
      (∀ b o, b ≠ z → b ≠ TO → b ≠ i1 → b ≠ i2 → s.heap.get? b = some o → s'.heap.get? b = some o) → Q (.ref s.heap.objs.size) s') :
    wpAny (model P w) A (call (.type "list") [.ref z]) Q E s := by
  obtain ⟨z1, z2, z3, z4, z5, z6, z7⟩ := hl
  refine callType_codes (Q₁ := fun ob s₁ => ob = .ref s.heap.objs.size ∧ s₁ = { s with heap := s.heap.push { cls := .type "list", data := .seq #[] } }) F.called_list (F.typeCall_list_1 _) F.entry_list_init (code_list_new _ ⟨rfl, rfl⟩) fun ob s₁ h₁ => ?_
  obtain ⟨rfl, rfl⟩ := h₁
  have hSo : (s.heap.push { cls := .type "list", data := .seq #[] }).get? s.heap.objs.size = some { cls := .type "list", data := .seq #[] } := Heap.get?_push_size _ rfl
  have hsz : (s.heap.push { cls := .type "list", data := .seq #[] }).objs.size = s.heap.objs.size + 1 := Heap.size_push ..
  have up : ∀ b o, s.heap.get? b = some o → (s.heap.push { cls := .type "list", data := .seq #[] }).get? b = some o := fun b o e => Heap.get?_push_of_some _ e
  refine ⟨⟨_, hSo, rfl⟩, F.args_list_init_2 _ _, ?_⟩
  show wpAny _ _ (do let old ← Builtin.List.listItems (.ref s.heap.objs.size); Builtin.List.listUpdate (.ref s.heap.objs.size) (fun _ => #[]); letGo old.toList.reverse; Builtin.List.listExtendWith (.ref s.heap.objs.size) (.ref z) .none) _ _ _
  refine wpAny_bind ?_; unfold Builtin.List.listItems
  refine wpAny_bind (wpAny_seqItems hSo rfl (wpAny_pure ?_))
  show wpAny _ _ (updateSeq s.heap.objs.size (fun _ => #[]) >>= fun _ => letGo (#[] : Array Value).toList.reverse >>= fun _ => Builtin.List.listExtendWith (.ref s.heap.objs.size) (.ref z) .none) _ _ _
  refine wpAny_bind (wpAny_updateSeq hSo rfl ?_)
  have hS2 := Heap.get?_update_self (Obj.mapSeq (fun _ => (#[] : Array Value))) hSo rfl
  have oth : ∀ b o, b ≠ s.heap.objs.size → s.heap.get? b = some o → ((s.heap.push { cls := .type "list", data := .seq #[] }).update s.heap.objs.size (Obj.mapSeq (fun _ => (#[] : Array Value)))).get? b = some o := fun b o hb e => (Heap.get?_update_other _ _ (Ne.symm hb)).trans (up b o e)
  refine wpAny_bind (wpAny_letGo ?_)
  have ne : ∀ {b : Addr}, b < s.heap.objs.size → b ≠ s.heap.objs.size := fun hb => Nat.ne_of_lt hb
  refine zip_extend (lo := s.heap.objs.size + 1) (by simp [hh]) D ⟨Nat.lt_succ_of_lt z1, Nat.lt_succ_of_lt z2, Nat.lt_succ_of_lt z3, Nat.lt_succ_of_lt z4⟩ (Nat.lt_succ_self _) (ne z1).symm (ne z5).symm (ne z2).symm (ne z3).symm (ne z4).symm (ne z6).symm (ne z7).symm hn .none _ ?_
    ⟨oth _ _ (ne z5) hTI, .inl ⟨rfl, oth _ _ (ne z1) hz, a, b, oth _ _ (ne z2) hTO⟩, a1.at fun o e => oth _ o (ne z3) e, a2.at fun o e => oth _ o (ne z4) e, b1.at fun o e => oth _ o (ne z6) e, b2.at fun o e => oth _ o (ne z7) e, (fun j T hj => by simp at hj), (fun T hT => nomatch hT), List.nodup_nil⟩ hS2 (fun s' Ts' c' g1 g2 g3 g4 g5 g6 g7 g8 => ?_)
  · show _ ≤ ((s.heap.push _).update _ _).objs.size
    rw [(Heap.SameBut.update _ _ _).1, hsz]
    exact Nat.le_refl _
  · exact ⟨rfl, hq s' Ts' c' g1 g2 g3 g4 g5 g6 g7 fun b o b2 b3 b4 b5 e => g8 b o (Nat.ne_of_lt (Heap.lt_size e)) b2 b3 b4 b5 (oth b o (Nat.ne_of_lt (Heap.lt_size e)) e)⟩
end
end G
/-! My base, part 16: list(zip(..)), the rule; many new pairs. -/
namespace G
open PySem PySem.Spec PyProof.Rows L2 TL
/-- pairs that are laid, one behind another -/
def tupsU (H : Hp) : List (Addr × V × V) → Hp
  | [] => H
  | q :: l => tupsU (upd H q.1 (.tup [q.2.1, q.2.2])) l
structure NewP (H : Hp) (l : List (Addr × V × V)) : Prop where
  none : ∀ q ∈ l, H q.1 = none
  nd : (l.map (·.1)).Nodup
theorem NewP.tail {H : Hp} {q : Addr × V × V} {l : List (Addr × V × V)} (n : NewP H (q :: l)) {o : HO} : NewP (upd H q.1 o) l := by
  have hd := List.nodup_cons.mp (show (q.1 :: l.map (·.1)).Nodup from n.nd)
  refine ⟨fun r hr => ?_, hd.2⟩
  rw [upd_ne (fun e => hd.1 (by rw [← e]; exact List.mem_map.mpr ⟨r, hr, rfl⟩))]
  exact n.none r (List.mem_cons_of_mem _ hr)
theorem tupsU_at : ∀ {l : List (Addr × V × V)} {H : Hp} {a : Addr}, (∀ q ∈ l, q.1 ≠ a) → tupsU H l a = H a
  | [], _, _, _ => rfl
  | q :: l, H, a, h => by
    show tupsU _ l a = _
    rw [tupsU_at fun r hr => h r (List.mem_cons_of_mem _ hr), upd_ne (h q (List.mem_cons_self ..)).symm]
theorem tupsU_in : ∀ {l : List (Addr × V × V)} {H : Hp} {q : Addr × V × V}, (l.map (·.1)).Nodup → q ∈ l → tupsU H l q.1 = some (.tup [q.2.1, q.2.2])
  | r :: l, H, q, hn, hq => by
    have hd := List.nodup_cons.mp (show (r.1 :: l.map (·.1)).Nodup from hn)
    show tupsU _ l q.1 = _
    rcases List.mem_cons.mp hq with rfl | hq
    · rw [tupsU_at fun z hz e => hd.1 (by rw [← e]; exact List.mem_map.mpr ⟨z, hz, rfl⟩), upd_same]
    · exact tupsU_in hd.2 hq
theorem tupsU_gr {M : Addr → Prop} : ∀ {l : List (Addr × V × V)} {F0 H0 F H : Hp}, Gr M F0 H0 F H → NewP H l → Gr M F0 H0 (tupsU F l) (tupsU H l)
  | [], _, _, _, _, g, _ => g
  | q :: l, F0, H0, F, H, g, n => by
    show Gr M F0 H0 (tupsU (upd F q.1 (.tup [q.2.1, q.2.2])) l) (tupsU (upd H q.1 (.tup [q.2.1, q.2.2])) l)
    exact tupsU_gr (g.frz (n.none q (List.mem_cons_self ..))) n.tail
theorem tupsU_RL {α β : Type} [Enc α] [Enc β] {K : PySem.W.Frag} {F : Hp} : ∀ {l : List (Addr × V × V)} {xs : List α} {ys : List β}, (l.map (·.1)).Nodup → (∀ q ∈ l, F q.1 = some (.tup [q.2.1, q.2.2])) → RL K F (l.map (·.2.1)) xs → RL K F (l.map (·.2.2)) ys →
    RL K F (l.map fun q => V.ref q.1) (xs.zip ys)
  | [], _, _, _, _, h1, h2 => by
    have e1 := RL.len h1
    have e3 : ∀ {γ : Type} (z : List γ), ([] : List V).length = z.length → z = [] := fun z h => List.eq_nil_of_length_eq_zero h.symm
    rw [e3 _ e1]
    exact RpA.nil
  | q :: l, [], _, _, _, h1, _ => by cases h1
  | q :: l, _ :: _, [], _, _, _, h2 => by cases h2
  | q :: l, x :: xs, y :: ys, hn, hF, h1, h2 => by
    cases h1 with
    | cons r1 h1 =>
      cases h2 with
      | cons r2 h2 =>
        have hd := List.nodup_cons.mp (show (q.1 :: l.map (·.1)).Nodup from hn)
        exact RL.cons (R.mk2 (hF q (List.mem_cons_self ..)) r1 r2) (tupsU_RL hd.2 (fun z hz => hF z (List.mem_cons_of_mem _ hz)) h1 h2)
theorem HOk.track {P : Program} {w : World} {H : Hp} {h : Heap} {a : Addr} {o : HO} (x : HOk P w H h) (hn : H a = none) (new : ObjOk P w (upd H a o) h a o) : HOk P w (upd H a o) h := fun b u e => by
  by_cases hb : b = a
  · subst hb; rw [upd_same] at e; cases e; exact new
  · rw [upd_ne hb] at e
    exact (x b u e).stay (fun c v _ q => q) (fun c q => by rw [upd_ne (ne_of_none q hn)]; exact q) fun c zs q => by rw [upd_ne (ne_of_none q hn)]; exact q
theorem HOk.tracks {P : Program} {w : World} {h : Heap} : ∀ {l : List (Addr × V × V)} {H : Hp}, HOk P w H h → NewP H l → (∀ q ∈ l, ∃ x y, IsPair h q.1 x y ∧ RelV q.2.1 x ∧ RelV q.2.2 y) → HOk P w (tupsU H l) h
  | [], _, x, _, _ => x
  | q :: l, H, x, n, hp => by
    obtain ⟨a, b, p, r1, r2⟩ := hp q (List.mem_cons_self ..)
    refine HOk.tracks (l := l) (H := upd H q.1 (.tup [q.2.1, q.2.2])) (HOk.track x (n.none q (List.mem_cons_self ..)) ⟨by show 2 ≤ sizeLine; decide, [a, b], .cons r1 (.cons r2 .nil), ⟨_, p, rfl, _, rfl⟩⟩) n.tail fun z hz => hp z (List.mem_cons_of_mem _ hz)
theorem vals_refs : ∀ Ts : List Addr, Vals (Ts.map V.ref) (Ts.map Value.ref)
  | [] => .nil
  | _ :: Ts => .cons rfl (vals_refs Ts)
section
variable {X : Cx}
/-- list(zip(xs, ys)) of two lists -/
def tLZip (K : PySem.W.Frag) (ta : TA) : TE := fun σ H Q => ta σ H fun vs H1 => ∃ (a b : Addr) (xs ys : List V), vs = [.ref a, .ref b] ∧ SqL K H1 a xs ∧ SqL K H1 b ys ∧
  ∀ (l : List (Addr × V × V)) (p : Addr), NewP H1 l → l.map (·.2.1) = xs.take (min xs.length ys.length) → l.map (·.2.2) = ys.take (min xs.length ys.length) → tupsU H1 l p = none → Q (.ref p) (upd (tupsU H1 l) p (.lst (l.map fun q => V.ref q.1)))
theorem pe_lzip {e e2 : Expr} {ta : TA} {p p2 q pos : Pos} (hc : X.calm = true) (hg : Gl X "list") (hm : X.mg "list" = none) (hg2 : Gl X "zip") (hm2 : X.mg "zip" = none) (ha : PA X [e, e2] ta)
    (hs : starEach [e, e2] X.env = (false, eval e X.env) :: starEach [e2] X.env := by rfl) (hpl : (backTo q (starEach [e2] X.env)).any (·.1) = false := by rfl) :
    PE X (.Call (.Name "list" p) [.Call (.Name "zip" p2) [e, e2] [] q] [] pos) (tLZip X.K ta) := by
  refine ⟨fun pins s σ H Q I h => ?_⟩
  refine Call_ (ld_blt I hg hm (u := .type "list") (by decide +kernel) ?_)
  refine PyProof.Rows.callWith_type1 (PyProof.Rows.args_cons ?_ rfl) rfl rfl
  refine Call_ (ld_blt I hg2 hm2 PyProof.Rows.boot_zip (PyProof.Rows.callWith_type1 (thn (ha.run q pins s σ H _ I h) fun us s1 ⟨vs, H1, I1, r1, q1⟩ => ?_) hs hpl))
  obtain ⟨a, b, xs, ys, ex, hqx, hqy, q1⟩ := q1
  subst ex
  obtain ⟨u1, u2, rfl, ra, rb⟩ := vals2 r1
  cases (show u1 = Value.ref a from ra)
  cases (show u2 = Value.ref b from rb)
  obtain ⟨its, rv, p1, hz1⟩ := I1.list hqx
  obtain ⟨its2, rv2, pq2, hz2⟩ := I1.list hqy
  have la : a < s1.heap.objs.size := p1.lt
  have lb : b < s1.heap.objs.size := pq2.lt
  refine call_zip_2 p1.isList pq2.isList fun h' hz hTI hTO h1 h2 hsz hk => ?_
  refine PyProof.Rows.args_nil ?_
  have hmin : min its.toArray.size its2.toArray.size = min xs.length ys.length := by simp [← rv.length, ← rv2.length]
  refine list_zip (s := { s1 with heap := h' }) (I1.ok.hd hc) (PySem.W.ktu_apart s1.heap.objs.size a b la lb) ?_ (by rw [hmin]; exact Nat.le_trans (Nat.min_le_left _ _) hz1) hz hTI hTO h1 h2 (p1.isList.at fun o e => hk a o e) (pq2.isList.at fun o e => hk b o e) fun s' Ts c g1 g2 g3 g4 g5 g6 g7 g8 => ?_
  · show _ < h'.objs.size ∧ _ < h'.objs.size ∧ _ < h'.objs.size ∧ _ < h'.objs.size ∧ _ < h'.objs.size ∧ a < h'.objs.size ∧ b < h'.objs.size
    rw [hsz]
    have la' : (a : Nat) < s1.heap.objs.size := la
    have lb' : (b : Nat) < s1.heap.objs.size := lb
    refine ⟨?_, ?_, ?_, ?_, ?_, ?_, ?_⟩ <;> (first | exact Nat.lt_succ_self _ | exact Nat.add_lt_add_left (by decide) _ | exact Nat.lt_of_lt_of_le la (Nat.le_add_right _ _) | exact Nat.lt_of_lt_of_le lb (Nat.le_add_right _ _) | exact Nat.lt_add_of_pos_right (by decide))
  · have hsz' : h'.objs.size = s1.heap.objs.size + 5 := hsz
    have kept : ∀ b o, s1.heap.get? b = some o → s'.heap.get? b = some o := fun b o e => by
      have hb := Heap.lt_size e
      exact g8 b o (Nat.ne_of_lt (Nat.lt_of_lt_of_le hb (Nat.le_add_right _ _))) (Nat.ne_of_lt (Nat.lt_of_lt_of_le hb (Nat.le_add_right _ _))) (Nat.ne_of_lt hb) (Nat.ne_of_lt (Nat.lt_of_lt_of_le hb (Nat.le_add_right _ _))) (hk b o e)
    generalize hn : min xs.length ys.length = n at hmin
    have hl1 : (xs.take n).length = n := by rw [List.length_take]; omega
    have hl2 : (ys.take n).length = n := by rw [List.length_take]; omega
    have hT : Ts.length = n := g6.trans hmin
    have hz2' : ((xs.take n).zip (ys.take n)).length = n := by rw [List.length_zip, hl1, hl2, Nat.min_self]
    obtain ⟨l, hl⟩ : ∃ l, l = Ts.zip ((xs.take n).zip (ys.take n)) := ⟨_, rfl⟩
    have m1 : l.map (·.1) = Ts := by rw [hl]; exact List.map_fst_zip (by rw [hT, hz2']; exact Nat.le_refl _)
    have m2 : l.map (·.2) = (xs.take n).zip (ys.take n) := by rw [hl]; exact List.map_snd_zip (by rw [hT, hz2']; exact Nat.le_refl _)
    have m3 : l.map (·.2.1) = xs.take n := by
      have : (l.map (·.2)).map (·.1) = xs.take n := by rw [m2]; exact List.map_fst_zip (by rw [hl1, hl2]; exact Nat.le_refl _)
      rwa [List.map_map] at this
    have m4 : l.map (·.2.2) = ys.take n := by
      have : (l.map (·.2)).map (·.2) = ys.take n := by rw [m2]; exact List.map_snd_zip (by rw [hl1, hl2]; exact Nat.le_refl _)
      rwa [List.map_map] at this
    have m5 : (l.map fun q => V.ref q.1) = Ts.map V.ref := by rw [← m1, List.map_map]; rfl
    have hTlo : ∀ T ∈ Ts, s1.heap.objs.size + 6 ≤ T := fun T hm => by
      have := g4 T hm
      have e : h'.objs.size + 1 = s1.heap.objs.size + 6 := by rw [hsz']
      rw [← e]
      exact this
    have newp : NewP H1 l := ⟨fun q hq => I1.hok.fresh (Nat.le_trans (Nat.le_add_right _ 6) (hTlo q.1 (by rw [← m1]; exact List.mem_map.mpr ⟨q, hq, rfl⟩))), by rw [m1]; exact g5⟩
    have hp0 : ∀ q ∈ l, q.1 ≠ h'.objs.size := fun q hq e => by
      have := g4 q.1 (by rw [← m1]; exact List.mem_map.mpr ⟨q, hq, rfl⟩)
      rw [e] at this
      exact absurd this (Nat.not_succ_le_self _)
    have hpn : tupsU H1 l h'.objs.size = none := by
      rw [tupsU_at hp0]
      exact I1.hok.fresh (by rw [hsz']; exact Nat.le_add_right _ _)
    have prs : ∀ q ∈ l, ∃ x y, IsPair s'.heap q.1 x y ∧ RelV q.2.1 x ∧ RelV q.2.2 y := fun q hq => by
      obtain ⟨j, hj⟩ := List.getElem?_of_mem hq
      have j1 : Ts[j]? = some q.1 := by rw [← m1, List.getElem?_map, hj]; rfl
      have j2 : (xs.take n)[j]? = some q.2.1 := by rw [← m3, List.getElem?_map, hj]; rfl
      have j3 : (ys.take n)[j]? = some q.2.2 := by rw [← m4, List.getElem?_map, hj]; rfl
      obtain ⟨x, y, e1, e2, pr⟩ := g3 j q.1 j1
      have k2 : xs[j]? = some q.2.1 := by
        have := List.getElem?_take_of_lt (l := xs) (show j < n by rw [← hT]; exact (List.getElem?_eq_some_iff.mp j1).1)
        rw [← this]
        exact j2
      have k3 : ys[j]? = some q.2.2 := by
        have := List.getElem?_take_of_lt (l := ys) (show j < n by rw [← hT]; exact (List.getElem?_eq_some_iff.mp j1).1)
        rw [← this]
        exact j3
      obtain ⟨w1, f1, r1⟩ := rv.get k2
      obtain ⟨w2, f2, r2⟩ := rv2.get k3
      have x1 : w1 = x := by
        have : its[j]? = some x := by simpa using e1
        rw [f1] at this
        exact Option.some.inj this
      have x2 : w2 = y := by
        have : its2[j]? = some y := by simpa using e2
        rw [f2] at this
        exact Option.some.inj this
      exact ⟨x, y, pr, x1 ▸ r1, x2 ▸ r2⟩
    have old : ∀ b, b < s1.heap.objs.size → upd (tupsU H1 l) h'.objs.size (.lst (l.map fun q => V.ref q.1)) b = H1 b := fun b hb => by
      rw [upd_ne (Nat.ne_of_lt (Nat.lt_of_lt_of_le hb (by rw [hsz']; exact Nat.le_add_right _ _)))]
      refine tupsU_at fun q hq e => ?_
      have := hTlo q.1 (by rw [← m1]; exact List.mem_map.mpr ⟨q, hq, rfl⟩)
      rw [e] at this
      exact absurd (Nat.lt_of_lt_of_le hb (Nat.le_trans (Nat.le_add_right _ 6) this)) (Nat.lt_irrefl _)
    have oldS : ∀ {b : Addr} {o : HO}, H1 b = some o → upd (tupsU H1 l) h'.objs.size (.lst (l.map fun q => V.ref q.1)) b = some o := fun e => by rw [old _ (I1.hok.lt e)]; exact e
    have hok : HOk X.prog X.w (upd (tupsU H1 l) h'.objs.size (.lst (l.map fun q => V.ref q.1))) s'.heap :=
      HOk.track (HOk.tracks (I1.hok.kept kept) newp prs) hpn ⟨by rw [m5, List.length_map, hT, ← hn]; exact Nat.le_trans (Nat.min_le_left _ _) hz1, Ts.map Value.ref, c, by rw [m5]; exact vals_refs Ts, g7⟩
    have un : Un (frs X.stack) [] H1 (upd (tupsU H1 l) h'.objs.size (.lst (l.map fun q => V.ref q.1))) s1.heap s'.heap :=
      ⟨fun b o e _ _ _ => kept b o e, fun b o e _ _ _ => ⟨o.slots, kept b o e⟩, fun b o e n _ => by rw [old b (Heap.lt_size e)]; exact n, fun b o e _ => ⟨o, kept b o e⟩, fun b zs e => oldS e, fun b o u e => oldS e, fun b ps e => ⟨#[], by rw [oldS e]; simp⟩⟩
    have J : Inv X pins σ (upd (tupsU H1 l) h'.objs.size (.lst (l.map fun q => V.ref q.1))) s' := Inv.call' (ch := []) I1 g2 un hok (by rw [g1]; exact I1.bare) (fun _ z => nomatch z)
    exact ⟨.ref h'.objs.size, _, J, rfl, q1 l h'.objs.size newp (by rw [m3, hn]) (by rw [m4, hn]) hpn⟩
end
end G
/-! My base, part 17: xs.extend(a tuple). -/
namespace G
open PySem PySem.Spec PyProof.Rows L2 TL
theorem ext_tup (l : Addr) (xs : Array Value) (n : Nat) (b : Addr) (ys : Array Value) (n2 : Nat) (dd : Option Addr) (sl : Array (Option Value)) (h0 : ¬(!xs.isEmpty && Builtin.List.listTooLong (xs.size + ys.size)) = true) (h1 : xs.size ≤ sizeLine) (h2 : xs.size + ys.size ≤ sizeLine + 1) :
    Meets (Builtin.«list.extend» ⟨[.ref l, .ref b], []⟩) (fun _ R s => s.heap.get? l = some { cls := .type "list", dict := none, data := .seq xs n, slots := #[] } ∧ s.heap.get? b = some { cls := .type "tuple", dict := dd, data := .seq ys n2, slots := sl } ∧ R (.ok (.ret Value.none)) { s with heap := s.heap.update l (Obj.mapSeq fun x => x ++ ys), toks := s.toks }) :=
  .of_wp fun prog w A R s h => by
    obtain ⟨hp, g, d, tk, os⟩ := s; obtain ⟨hl, hb, h⟩ := h; have q1 := AutoSeq1.idx_int; have q2 := AutoSeq1.sub_tuple_tuple; have q3 := AutoSeq1.sub_list_list; have q4 := AutoSeq1.sub_tuple_list; have q5 := AutoSeq1.sub_list_tuple
    have hz : (xs ++ ys).size ≤ sizeLine + 1 := by rw [Array.size_append]; exact h2
    wp_walk using (wpAny_updateSeq hl rfl (hz := h1) (_hz' := hz)), AutoSeq1.wpAny_loadPart' hl, AutoSeq1.wpAny_loadPart' hb; exact ⟨_, rfl, h⟩
section
variable {X : Cx}
def rExtT (K : PySem.W.Frag) : V → List V → Hp → VK → Prop := fun x vs H Q => ∃ l b xs zs, x = .ref l ∧ vs = [.ref b] ∧ H l = some (.lst xs) ∧ SqT K H b zs ∧ xs.length + zs.length ≤ sizeLine ∧ Q .non (upd H l (.lst (xs ++ zs)))
theorem mt_extT : MtM X "list.extend" (rExtT X.K) := by
  intro pins s σ H x vs v us Q I rx rv h
  obtain ⟨l, b, xs, zs, rfl, rfl, hH, hB, hz, q⟩ := h
  cases rx
  obtain ⟨u, rfl, ru⟩ := rv.one
  cases ru
  obtain ⟨z, its, n, r, hl, e⟩ := I.lstM hH
  obtain ⟨its2, r2, ⟨⟨oc, od, dt, sl⟩, ho, hc, n2, hd⟩, hz2⟩ := I.tuple hB
  simp only at hc hd
  subst hc; subst hd
  have hl2 := r2.length
  have hsz : its.toArray.size + its2.toArray.size ≤ sizeLine := by rw [List.size_toArray, List.size_toArray]; omega
  have hlong : ¬ (!its.toArray.isEmpty && Builtin.List.listTooLong (its.toArray.size + its2.toArray.size)) = true := by rw [notLongL hsz, Bool.and_false]; exact Bool.false_ne_true
  refine call_meets F.slot_list_extend ⟨_, e, rfl⟩ F.entry_list_extend (F.args_list_extend_2 _ _) (ext_tup l its.toArray n b its2.toArray n2 od sl hlong (by rw [List.size_toArray]; omega) (by omega)) ⟨e, ho, ?_⟩
  exact ⟨.non, _, I.lset (its' := its ++ its2) hH e (by simp) (r.append r2) (by rw [List.length_append]; omega), rfl, q⟩
end
end G
/-! My base, part 18: what list(zip(..)) stands for; extend. -/
namespace G
open PySem PySem.Spec PyProof.Rows L2 TL
theorem zip_tk {α β : Type} : ∀ (xs : List α) (ys : List β) (n : Nat), n = min xs.length ys.length → (xs.take n).zip (ys.take n) = xs.zip ys
  | [], ys, n, h => by simp
  | x :: xs, [], n, h => by simp
  | x :: xs, y :: ys, n, h => by
    have e : n = min xs.length ys.length + 1 := by rw [h, List.length_cons, List.length_cons]; omega
    subst e
    rw [List.take_succ_cons, List.take_succ_cons, List.zip_cons_cons, List.zip_cons_cons, zip_tk xs ys _ rfl]
section
variable {α β : Type} [Enc α] [Enc β] {K : PySem.W.Frag} {F H : Hp} {l : List (Addr × V × V)} {ws ws2 : List V} {xs : List α} {ys : List β}
theorem RL.tk (n : Nat) (h : RL K F ws xs) : RL K F (ws.take n) (xs.take n) := by
  show RpA K F _ _
  rw [List.map_take]
  exact RpA.take n h
theorem lz_RL (nw : NewP H l) (sm : Same F (tupsU F l)) (e1 : l.map (·.2.1) = ws.take (min ws.length ws2.length)) (e2 : l.map (·.2.2) = ws2.take (min ws.length ws2.length)) (h1 : RL K F ws xs) (h2 : RL K F ws2 ys) :
    RL K (tupsU F l) (l.map fun q => V.ref q.1) (List.zip xs ys) := by
  rw [← zip_tk xs ys (min ws.length ws2.length) (by rw [h1.len, h2.len])]
  refine tupsU_RL nw.nd (fun q hq => tupsU_in nw.nd hq) ?_ ?_
  · rw [e1]
    exact RpA.up (RL.tk _ h1) sm
  · rw [e2]
    exact RpA.up (RL.tk _ h2) sm
theorem lz_len (e1 : l.map (·.2.1) = ws.take (min ws.length ws2.length)) (hl : ws.length ≤ sizeLine) : (l.map fun q => V.ref q.1).length ≤ sizeLine := by
  have h := congrArg List.length e1
  rw [List.length_map, List.length_take] at h
  rw [List.length_map, h]
  exact Nat.le_trans (Nat.min_le_right _ _) hl
end
def extL {α : Type} (xs ys : List α) : Option (List α) := conL xs ys
end G
/-! My base, part 19: rules that name K. -/
namespace G
open PySem PySem.Spec PyProof.Rows L2 TL
theorem RL.re {α : Type} [Enc α] {K : PySem.W.Frag} {F : Hp} {ws : List V} {x y : List α} (h : x = y) (r : RL K F ws x) : RL K F ws y := h ▸ r
section
variable {X : Cx} {K : PySem.W.Frag}
theorem ix_listK (h : X.K = K := by rfl) : IxR X (rIxL K) := h ▸ ix_list
theorem ix_tupK (h : X.K = K := by rfl) : IxR X (rIxT K) := h ▸ ix_tup
theorem sl_listK (h : X.K = K := by rfl) : SlR X (rSlL K) := h ▸ sl_list
theorem call_lenLK (h : X.K = K := by rfl) : CallR X (.builtin "len") (fun xs H Q => ∃ p ys n, xs = [.ref p] ∧ (SqL K H p ys ∨ SqT K H p ys) ∧ ys.length = n ∧ Q (.int (n : Nat)) H) := by subst h; exact call_lenL
theorem call_isi_ (h : X.K = K := by rfl) : CallR X (.builtin "isinstance") (rIsi K) := by subst h; exact call_isi
theorem call_list_of_ (h : X.K = K := by rfl) : CallR X (.type "list") (fun xs H Q => ∃ p ys, xs = [.ref p] ∧ (SqL K H p ys ∨ SqT K H p ys) ∧ ∀ l, H l = none → Q (.ref l) (upd H l (.lst ys))) := by subst h; exact call_list_of
theorem cr_all_ (hc : X.calm = true) (h : X.K = K := by rfl) : CallR X (.builtin "all") (rAll K) := by subst h; exact cr_all hc
theorem cr_any_ (hc : X.calm = true) (h : X.K = K := by rfl) : CallR X (.builtin "any") (rAny K) := by subst h; exact cr_any hc
theorem cr_sortedI_ (h : X.K = K := by rfl) : CallR X (.builtin "sorted") (rSortedI K) := by subst h; exact cr_sortedI
theorem op_catLK (h : X.K = K := by rfl) : OpR X (binaryOp .Add) (rCatL K) := by subst h; exact op_catL
theorem op_eqDK (hu : X.A.units + 64 < cLine) (h : X.K = K := by rfl) : OpR X (compareOp .Eq) (rEqD K) := by subst h; exact op_eqD hu
theorem op_neDK (hu : X.A.units + 64 < cLine) (h : X.K = K := by rfl) : OpR X (compareOp .NotEq) (rNeD K) := by subst h; exact op_neD hu
theorem pi_listK {tg l : Expr} {tl : TE} (hl : PE X l tl) (h : X.K = K := by rfl) : PI X tg l (iList K tl) := by subst h; exact pi_list hl
theorem pi_tupK {tg l : Expr} {tl : TE} (hl : PE X l tl) (h : X.K = K := by rfl) : PI X tg l (iTup K tl) := by subst h; exact pi_tup hl
theorem pg_tupK {es : List Expr} {k : Nat} {pos : Pos} {t : TGs} (n : Nat) (hc : X.calm = true) (ht : PGs X es t) (h : X.K = K := by rfl)
    (hn : (assignEach es X.env).length = n := by rfl) (hst : (assignEach es X.env).findIdx? (·.1) = none := by rfl) : PG X (.Tuple es k pos) (gTup K n t) := by subst h; exact pg_tup hc ht hn hst
theorem pe_bmK {o e : Expr} {es : List Expr} {to : TE} {t : TA} {name : Str} {apos cpos : Pos} {T id : String} {r : V → List V → Hp → VK → Prop} (pa : PlainAttrs T) (slot : Slot T name id) (hty : typeOf (.builtin id) = pure (.type "method_descriptor")) (hm : MtR X id r) (ho : PE X o to) (ha : PA X (e :: es) t) (h : X.K = K := by rfl)
    (hbase : attributeBase o name X.env (eval o X.env) = eval o X.env := by rfl)
    (hfew : ((backTo cpos (starEach (e :: es) X.env)).all (fun x => !x.1) && (backToKw cpos (keywordEach [] X.env)).all (fun x => x.1.isSome) && decide ((e :: es).length + ([] : List Keyword).length + (if ([] : List Keyword).isEmpty then 0 else 1) < 30)) = true := by rfl)
    (hline : (apos.endLine == cpos.line) = true := by rfl) (hs : starEach (e :: es) X.env = (false, eval e X.env) :: starEach es X.env := by rfl) (hplain : (backTo cpos (starEach es X.env)).any (·.1) = false := by rfl) :
    PE X (.Call (.Attribute o name apos) (e :: es) [] cpos) (tBM K T r to t) := by subst h; exact pe_bm pa slot hty hm ho ha hbase hfew hline hs hplain
theorem pe_bm0K {o : Expr} {to : TE} {name : Str} {apos cpos : Pos} {T id : String} {r : V → List V → Hp → VK → Prop} (pa : PlainAttrs T) (slot : Slot T name id) (hty : typeOf (.builtin id) = pure (.type "method_descriptor")) (hm : MtR X id r) (ho : PE X o to) (h : X.K = K := by rfl)
    (hbase : attributeBase o name X.env (eval o X.env) = eval o X.env := by rfl) (hline : (apos.endLine == cpos.line) = true := by rfl) : PE X (.Call (.Attribute o name apos) [] [] cpos) (tBM0 K T r to) := by subst h; exact pe_bm0 pa slot hty hm ho hbase hline
def rJoin (K : PySem.W.Frag) : V → List V → Hp → VK → Prop := fun x xs H Q => ∃ a p, ∃ ys : List Str, x = .str a ∧ xs = [.ref p] ∧ (SqL K H p (ys.map V.str) ∨ SqT K H p (ys.map V.str)) ∧
  (ys.map (·.length)).sum + ys.length * a.length ≤ 16777216 ∧ Q (.str (Txt.join a ys)) H
theorem pe_joinK {o e : Expr} {to te : TE} {apos pos : Pos} (ho : PE X o to) (he : PE X e te) (h : X.K = K := by rfl) (hs : starEach [e] X.env = [(false, eval e X.env)] := by rfl) (hbase : attributeBase o "join" X.env (eval o X.env) = eval o X.env := by rfl) (hline : (apos.endLine == pos.line) = true := by rfl) :
    PE X (.Call (.Attribute o "join" apos) [e] [] pos) (tM1 (rJoin K) to te) := by subst h; exact pe_join ho he hs hbase hline
theorem pe_revLK {e : Expr} {te : TE} {k : Nat} {p1 p2 p3 pos : Pos} (he : PE X e te) (h : X.K = K := by rfl) : PE X (.Subscript e (.Slice none none (some (.UnaryOp .USub (.Constant (.int 1) k p1) p2)) p3) pos) (tRevL K te) := by subst h; exact pe_revL he
theorem pe_ssetK {a : Expr} {ta : TE} {p p2 q pos : Pos} (hc : X.calm = true) (hg : Gl X "sorted") (hm : X.mg "sorted" = none) (hg2 : Gl X "set") (hm2 : X.mg "set" = none) (ha : PE X a ta) (h : X.K = K := by rfl)
    (na : starEach [a] X.env = (false, eval a X.env) :: starEach [] X.env := by rfl) : PE X (.Call (.Name "sorted" p) [.Call (.Name "set" p2) [a] [] q] [] pos) (tSSet K ta) := by subst h; exact pe_sset hc hg hm hg2 hm2 ha na
theorem pe_lzipK {e e2 : Expr} {ta : TA} {p p2 q pos : Pos} (hc : X.calm = true) (hg : Gl X "list") (hm : X.mg "list" = none) (hg2 : Gl X "zip") (hm2 : X.mg "zip" = none) (ha : PA X [e, e2] ta) (h : X.K = K := by rfl)
    (hs : starEach [e, e2] X.env = (false, eval e X.env) :: starEach [e2] X.env := by rfl) (hpl : (backTo q (starEach [e2] X.env)).any (·.1) = false := by rfl) :
    PE X (.Call (.Name "list" p) [.Call (.Name "zip" p2) [e, e2] [] q] [] pos) (tLZip K ta) := by subst h; exact pe_lzip hc hg hm hg2 hm2 ha hs hpl
theorem mt_extTK (h : X.K = K := by rfl) : MtM X "list.extend" (rExtT K) := by subst h; exact mt_extT
end
end G
/-! sorted(texts), any number; sorted(pairs of ints), any number. -/
namespace G
open PySem PySem.Spec PyProof.Rows L2 TL
def leT (a b : Str) : Bool := decide (tl a ≤ tl b)
def sortT (xs : List Str) : List Str := xs.mergeSort leT
theorem leT_trans (a b c : Str) (h1 : leT a b = true) (h2 : leT b c = true) : leT a c = true := decide_eq_true (List.le_trans (of_decide_eq_true h1) (of_decide_eq_true h2))
theorem leT_total (a b : Str) : (leT a b || leT b a) = true := by
  unfold leT
  rcases List.le_total (tl a) (tl b) with h | h
  · rw [decide_eq_true h]; rfl
  · rw [decide_eq_true h, Bool.or_true]
theorem sortT_perm (xs : List Str) : (sortT xs).Perm xs := List.mergeSort_perm _ _
theorem sortT_sorted (xs : List Str) : (sortT xs).Pairwise fun a b => leT a b = true := List.pairwise_mergeSort leT_trans leT_total xs
theorem sortT_len (xs : List Str) : (sortT xs).length = xs.length := (sortT_perm xs).length_eq
theorem tl_eq {x y : Str} (h : tl x = tl y) : x = y := by
  cases x; cases y
  simp only [tl] at h
  congr
  exact Array.toList_inj.mp h
theorem rising_pw : ∀ (r : List Str) (p : Str), risingS p r = true → (p :: r).Pairwise fun a b => leT a b = true
  | [], p, _ => List.pairwise_singleton _ _
  | x :: r, p, h => by
    have h' : (!ltCps x.cps.toList p.cps.toList && risingS x r) = true := h
    rw [Bool.and_eq_true, ltCps_eq, Bool.not_eq_true', decide_eq_false_iff_not] at h'
    have ih := rising_pw r x h'.2
    have hx : leT p x = true := decide_eq_true h'.1
    refine List.pairwise_cons.mpr ⟨fun z hz => ?_, ih⟩
    rcases List.mem_cons.mp hz with rfl | hz
    · exact hx
    · exact leT_trans _ _ _ hx ((List.pairwise_cons.mp ih).1 z hz)
theorem sortedS_pw : ∀ l : List Str, sortedS l = true → l.Pairwise fun a b => leT a b = true
  | [], _ => List.Pairwise.nil
  | x :: r, h => rising_pw r x h
theorem sortT_uniq {xs ys : List Str} (h : ys.Perm xs) (h2 : sortedS ys = true) : sortT xs = ys :=
  ((sortT_perm xs).trans h.symm).eq_of_pairwise (le := fun a b => leT a b = true) (fun a b _ _ h3 h4 => tl_eq (List.le_antisymm (of_decide_eq_true h3) (of_decide_eq_true h4))) (sortT_sorted xs) (sortedS_pw ys h2)
def rSortedSA (K : PySem.W.Frag) : List V → Hp → VK → Prop := fun vs H Q => ∃ (a : Addr) (xs : List Str), vs = [V.ref a] ∧ SqL K H a (xs.map V.str) ∧
  ∀ (p : Addr), H p = none → Q (.ref p) (upd H p (.lst ((sortT xs).map V.str)))
section
variable {X : Cx} {K : PySem.W.Frag}
theorem cr_sortedSA : CallR X (.builtin "sorted") (rSortedSA X.K) := by
  intro pins s σ H vs us Q I r h
  obtain ⟨a, xs, rfl, hs, q⟩ := h
  obtain ⟨its, rv, hl, hz⟩ := I.list hs
  rw [Vals.ref1 r]
  have hlen0 := rv.length
  refine PyProof.Rows.sorted_strsAny hl.isList rv.strs (by rw [← hlen0]; exact hz) fun out ys h1 h2 h3 => ?_
  obtain rfl := sortT_uniq h2 h3
  obtain ⟨ep, he'⟩ := PyProof.Rows.sortedAll_at s.heap its out
  have hlen : ((sortT xs).map V.str).length ≤ sizeLine := by rw [List.length_map, sortT_len]; rw [List.length_map] at hz; exact hz
  exact ⟨.ref _, upd H (s.heap.objs.size + 1) (.lst ((sortT xs).map V.str)), I.laid (t' := s.toks) (fun _ _ => PyProof.Rows.sortedAll_old) (Nat.le_succ _) ⟨hlen, out.toList, ep, vals_of_strs h1, he'⟩, rfl, q _ (I.hok.fresh (Nat.le_succ _))⟩
theorem cr_sortedSA_ (h : X.K = K := by rfl) : CallR X (.builtin "sorted") (rSortedSA K) := by subst h; exact cr_sortedSA
end
/-! ### pairs -/
def leP (p q : Int × Int) : Bool := decide (p.1 < q.1 ∨ (p.1 = q.1 ∧ p.2 ≤ q.2))
def sortP (xs : List (Int × Int)) : List (Int × Int) := xs.mergeSort leP
theorem leP_trans (a b c : Int × Int) (h1 : leP a b = true) (h2 : leP b c = true) : leP a c = true := by
  have h1 := of_decide_eq_true h1
  have h2 := of_decide_eq_true h2
  exact decide_eq_true (by omega)
theorem leP_total (a b : Int × Int) : (leP a b || leP b a) = true := by
  unfold leP
  by_cases h : a.1 < b.1 ∨ (a.1 = b.1 ∧ a.2 ≤ b.2)
  · rw [decide_eq_true h]; rfl
  · rw [decide_eq_true (p := b.1 < a.1 ∨ (b.1 = a.1 ∧ b.2 ≤ a.2)) (by omega), Bool.or_true]
theorem sortP_perm (xs : List (Int × Int)) : (sortP xs).Perm xs := List.mergeSort_perm _ _
theorem sortP_sorted (xs : List (Int × Int)) : (sortP xs).Pairwise fun a b => leP a b = true := List.pairwise_mergeSort leP_trans leP_total xs
theorem sortP_len (xs : List (Int × Int)) : (sortP xs).length = xs.length := (sortP_perm xs).length_eq
theorem sortP_uniq {xs ys : List (Int × Int)} (h : ys.Perm xs) (h2 : ys.Pairwise fun a b => leP a b = true) : sortP xs = ys :=
  ((sortP_perm xs).trans h.symm).eq_of_pairwise (le := fun a b => leP a b = true) (fun a b _ _ h3 h4 => by
    have h3 := of_decide_eq_true h3
    have h4 := of_decide_eq_true h4
    exact Prod.ext (by omega) (by omega)) (sortP_sorted xs) h2
open Classical in
noncomputable def keyV (K : PySem.W.Frag) (H : Hp) (v : V) : Int × Int := if h : ∃ x : Int × Int, R K H v x then h.choose else (0, 0)
theorem keyV_spec {K : PySem.W.Frag} {H : Hp} {v : V} {x : Int × Int} (h : R K H v x) : R K H v (keyV K H v) := by
  unfold keyV
  rw [dif_pos ⟨x, h⟩]
  exact Exists.choose_spec (⟨x, h⟩ : ∃ x : Int × Int, R K H v x)
def rSortedPK (K : PySem.W.Frag) : List V → Hp → VK → Prop := fun vs H Q => ∃ (a : Addr) (xs : List V) (ds : List (Int × Int)), vs = [V.ref a] ∧ SqL K H a xs ∧ RL K H xs ds ∧
  ∀ (ys : List V) (p : Addr), ys.length = xs.length → (∀ F, RL K F xs ds → RL K F ys (sortP ds)) → H p = none → Q (.ref p) (upd H p (.lst ys))
section
variable {X : Cx} {K : PySem.W.Frag}
theorem cr_sortedPK : CallR X (.builtin "sorted") (rSortedPK X.K) := by
  intro pins s σ H vs us Q I r h
  obtain ⟨a, xs, ds, rfl, hs, hA, q⟩ := h
  have hkey : ∀ i v x, xs[i]? = some v → ds[i]? = some x → keyV X.K H v = x ∧ ∃ t, v = .ref t ∧ SqT X.K H t [.int x.1, .int x.2] := fun i v x hv hx => by
    obtain ⟨x', hx', r⟩ := RL.get hA hv
    rw [hx] at hx'
    cases hx'
    have r2 := keyV_spec r
    obtain ⟨p, v1, v2, e, h1, r3, r4⟩ := R.p2_v r
    obtain ⟨p', w1, w2, e', h2, r5, r6⟩ := R.p2_v r2
    subst e
    cases e'
    obtain rfl := R.int_v r3
    obtain rfl := R.int_v r4
    obtain rfl := R.int_v r5
    obtain rfl := R.int_v r6
    have := I.tuple_inj h1 h2
    simp only [List.cons.injEq, V.int.injEq, and_true] at this
    exact ⟨Prod.ext this.1.symm this.2.symm, p, rfl, h1⟩
  have hlen : xs.length = ds.length := RL.len hA
  have hmem : ∀ v ∈ xs, ∃ t, v = .ref t ∧ SqT X.K H t [.int (keyV X.K H v).1, .int (keyV X.K H v).2] := fun v hv => by
    obtain ⟨i, hi, rfl⟩ := List.getElem_of_mem hv
    obtain ⟨k1, k2⟩ := hkey i xs[i] (ds[i]'(by omega)) (List.getElem?_eq_getElem hi) (List.getElem?_eq_getElem (by omega))
    rw [k1]
    exact k2
  obtain ⟨its, rv, hl, hz⟩ := I.list hs
  obtain ⟨u, rfl, ru⟩ := vals1 r
  obtain rfl : u = Value.ref a := ru
  obtain ⟨e1, e2⟩ := refs_back rv fun x m => by
    obtain ⟨t, e, _⟩ := hmem x m
    exact ⟨t, e⟩
  refine SrtO.sorted_pairsO (k := fun u => keyV X.K H (backV u)) hl.isList (by rw [← rv.length]; exact hz) (fun v hv => ?_) fun h' d out h1 h2 kp hd hn => ?_
  · obtain ⟨t, rfl⟩ := e2 v hv
    have hm : V.ref t ∈ xs := by rw [e1]; exact List.mem_map.mpr ⟨_, hv, rfl⟩
    obtain ⟨t', e, ht⟩ := hmem _ hm
    cases e
    obtain ⟨its2, r2, ⟨o, ho, hc, n, hd⟩, _⟩ := I.tuple ht
    obtain ⟨u1, u2, rfl, ri, rj⟩ := vals2 r2
    obtain ⟨t1, rfl⟩ := ri
    obtain ⟨t2, rfl⟩ := rj
    exact ⟨t, o, t1, t2, n, rfl, ho, hc, hd⟩
  · have h3 : ∀ u ∈ out, ∃ a, u = Value.ref a := fun u hu => e2 u (h2.perm.mem_iff.mp hu)
    obtain ⟨n, hn⟩ := hn
    have hb : SrtO.Stb (ltP (keyV X.K H)) (out.map backV) xs := by
      rw [e1]
      exact SrtO.Stb.map (ltP_swo (keyV X.K H)) backV h2
    have hsr : SrtO.Srtd (ltP (keyV X.K H)) (out.map backV) := SrtO.srtd_map h1
    have hds : xs.map (keyV X.K H) = ds := List.ext_getElem? fun i => by
      rw [List.getElem?_map]
      by_cases hi : i < xs.length
      · rw [List.getElem?_eq_getElem hi, List.getElem?_eq_getElem (by omega)]
        exact congrArg some (hkey i xs[i] (ds[i]'(by omega)) (List.getElem?_eq_getElem hi) (List.getElem?_eq_getElem (by omega))).1
      · rw [List.getElem?_eq_none (by omega), List.getElem?_eq_none (by omega)]
        rfl
    have hso : sortP ds = (out.map backV).map (keyV X.K H) := by
      refine sortP_uniq (by rw [← hds]; exact hb.perm.map _) (List.pairwise_map.mpr (hsr.imp fun {x y} h => ?_))
      have := SrtO.lexB_no.mp h
      exact decide_eq_true (by omega)
    refine ⟨.ref d, upd H d (.lst (out.map backV)), I.laid (t' := s.toks) kp hd ⟨?_, out, n, vals_back h3, hn⟩, rfl, q _ d hb.len (fun F hF => ?_) (I.hok.fresh hd)⟩
    · rw [hb.len]
      exact hz
    · rw [hso]
      have hall : ∀ v ∈ out.map backV, R X.K F v (keyV X.K H v) := fun v hv => by
        obtain ⟨i, hi, rfl⟩ := List.getElem_of_mem (hb.perm.mem_iff.mp hv)
        obtain ⟨x, hx, rx⟩ := RL.get hF (List.getElem?_eq_getElem hi)
        rw [(hkey i xs[i] x (List.getElem?_eq_getElem hi) hx).1]
        exact rx
      have go : ∀ l : List V, (∀ v ∈ l, R X.K F v (keyV X.K H v)) → RL X.K F l (l.map (keyV X.K H)) := fun l => by
        induction l with
        | nil => exact fun _ => .nil
        | cons v l ih => exact fun h => .cons (h v (List.mem_cons_self ..)) (ih fun u hu => h u (List.mem_cons_of_mem _ hu))
      exact go _ hall
theorem cr_sortedPK_ (h : X.K = K := by rfl) : CallR X (.builtin "sorted") (rSortedPK K) := by subst h; exact cr_sortedPK
end
/-! ### lists lent, walked over -/
def Lent {α : Type} [Enc α] (K : PySem.W.Frag) (H F : Hp) (M : Addr → Prop) (v : V) (e : List α) : Prop := ∃ p ws, v = .ref p ∧ SqL K H p ws ∧ ws.length ≤ sizeLine ∧ RL K F ws e ∧ ¬ M p
inductive LentL {α : Type} [Enc α] (K : PySem.W.Frag) (H F : Hp) (M : Addr → Prop) : List V → List (List α) → Prop
  | nil : LentL K H F M [] []
  | cons {v e vs es} : Lent K H F M v e → LentL K H F M vs es → LentL K H F M (v :: vs) (e :: es)
theorem LentL.len {α : Type} [Enc α] {K : PySem.W.Frag} {H F : Hp} {M : Addr → Prop} : ∀ {vs : List V} {es : List (List α)}, LentL K H F M vs es → vs.length = es.length
  | _, _, .nil => rfl
  | _, _, .cons _ t => congrArg (· + 1) t.len
theorem LentL.get {α : Type} [Enc α] {K : PySem.W.Frag} {H F : Hp} {M : Addr → Prop} : ∀ {vs : List V} {es : List (List α)} {i : Nat} {v : V}, LentL K H F M vs es → vs[i]? = some v → ∃ e, es[i]? = some e ∧ Lent K H F M v e
  | _, _, _, _, .nil, h => by simp at h
  | _, _, 0, _, .cons r _, h => ⟨_, rfl, by simp at h; exact h ▸ r⟩
  | _, _, i + 1, _, .cons _ t, h => by
    obtain ⟨e, h1, h2⟩ := LentL.get t (i := i) (by simpa using h)
    exact ⟨e, by simpa using h1, h2⟩
end G
/-! zip and enumerate walked over; a text looked up in a written table. -/
namespace G
open PySem PySem.Spec PyProof.Rows L2 TL
section
variable {K : PySem.W.Frag}
theorem pi_zipK {X : Cx} {e e2 : Expr} {ta : TA} {p pos tpos : Pos} {elts : List Expr} {kk : Nat} (hg : Gl X "zip") (hm : X.mg "zip" = none) (ha : PA X [e, e2] ta) (h : X.K = K := by rfl)
    (hs : starEach [e, e2] X.env = (false, eval e X.env) :: starEach [e2] X.env := by rfl) (hpl : (backTo pos (starEach [e2] X.env)).any (·.1) = false := by rfl) :
    PI X (.Tuple elts kk tpos) (.Call (.Name "zip" p) [e, e2] [] pos) (iZip K ta) := by subst h; exact pi_zip hg hm ha hs hpl
theorem pi_enumK {X : Cx} {e : Expr} {ta : TA} {p pos tpos : Pos} {elts : List Expr} {kk : Nat} (hg : Gl X "enumerate") (hm : X.mg "enumerate" = none) (ha : PA X [e] ta) (h : X.K = K := by rfl) (hs : starEach [e] X.env = [(false, eval e X.env)] := by rfl) :
    PI X (.Tuple elts kk tpos) (.Call (.Name "enumerate" p) [e] [] pos) (iEnum K ta) := by subst h; exact pi_enum hg hm ha hs
theorem for_zip {a b : Addr} {xs ys : List V} {g : TG} {tb : TS} {D : Ends} {σ : L2.St} {H : Hp} (Pv : Nat → L2.St → Hp → Prop) (h0 : Pv 0 σ H)
    (hl : ∀ i σ H, i ≤ min xs.length ys.length → Pv i σ H → SqL K H a xs ∧ SqL K H b ys)
    (hs : ∀ i x y T σ H, xs[i]? = some x → ys[i]? = some y → H T = none → Pv i σ H → g (.ref T) σ (upd H T (.tup [x, y])) fun σ2 H2 => tb { D with nx := Pv (i + 1), ct := Pv (i + 1), bk := D.nx } σ2 H2) (hd : ∀ σ H, Pv (min xs.length ys.length) σ H → D.nx σ H) :
    ∃ W : Nat → Nat → L2.St → Hp → Prop, (∃ m, W 0 m σ H) ∧ ∀ i m σ H, W i m σ H →
      ((Itz K a b).stop i H ∧ D.nx σ H) ∨ ((Itz K a b).go i H ∧ ∃ N : L2.St → Hp → Prop, (∀ σ' H', N σ' H' → ∃ m', m' < m ∧ W (i + 1) m' σ' H') ∧ ∀ x H', (Itz K a b).yld i H x H' → g x σ H' fun σ2 H2 => tb { D with nx := N, ct := N, bk := D.nx } σ2 H2) :=
  for_it (walk_zip rfl) Pv h0 hl (fun i v σ H H' _ p ⟨T, x, y, e1, e2, e3, e4, e5⟩ => by subst e1 e3; exact hs i x y T σ H e4 e5 e2 p) hd
theorem for_enum {a : Addr} {xs : List V} {g : TG} {tb : TS} {D : Ends} {σ : L2.St} {H : Hp} (Pv : Nat → L2.St → Hp → Prop) (h0 : Pv 0 σ H)
    (hl : ∀ i σ H, i ≤ xs.length → Pv i σ H → SqL K H a xs)
    (hs : ∀ i x T σ H, xs[i]? = some x → H T = none → Pv i σ H → g (.ref T) σ (upd H T (.tup [.int (i : Nat), x])) fun σ2 H2 => tb { D with nx := Pv (i + 1), ct := Pv (i + 1), bk := D.nx } σ2 H2) (hd : ∀ σ H, Pv xs.length σ H → D.nx σ H) :
    ∃ W : Nat → Nat → L2.St → Hp → Prop, (∃ m, W 0 m σ H) ∧ ∀ i m σ H, W i m σ H →
      ((Ite K a).stop i H ∧ D.nx σ H) ∨ ((Ite K a).go i H ∧ ∃ N : L2.St → Hp → Prop, (∀ σ' H', N σ' H' → ∃ m', m' < m ∧ W (i + 1) m' σ' H') ∧ ∀ x H', (Ite K a).yld i H x H' → g x σ H' fun σ2 H2 => tb { D with nx := N, ct := N, bk := D.nx } σ2 H2) :=
  for_it walk_enum Pv h0 hl (fun i v σ H H' _ p ⟨T, x, y, e1, e2, e3, e4, e5⟩ => by
    subst e1 e3
    cases e4
    exact hs i y T σ H e5 e2 p) hd
theorem lc_zip {a b : Addr} {xs ys : List V} {g : TG} {tt : TT} {te : TE} {vs : List Nat} {σ : L2.St} {H1 : Hp} {D : Addr} {Qd : Hp → Prop} (Pv : Nat → Hp → Prop) (h0 : Pv 0 (upd H1 D (.lst [])))
    (hl : ∀ i H, i ≤ min xs.length ys.length → Pv i H → SqL K H a xs ∧ SqL K H b ys)
    (hs : ∀ i x y T H, xs[i]? = some x → ys[i]? = some y → H T = none → Pv i H → g (.ref T) (wipe σ vs) (upd H T (.tup [x, y])) fun σ2 H2 => wipe σ2 vs = wipe σ vs ∧ tt σ2 H2 fun b H3 =>
      if b = true then te σ2 H3 fun y H4 => ∃ acc, H4 D = some (.lst acc) ∧ acc.length < sizeLine ∧ Pv (i + 1) (upd H4 D (.lst (acc ++ [y]))) else Pv (i + 1) H3) (hd : ∀ H, Pv (min xs.length ys.length) H → Qd H) :
    ∃ W : Nat → Nat → Hp → Prop, (∃ m, W 0 m (upd H1 D (.lst []))) ∧ ∀ i m H, W i m H →
      ((Itz K a b).stop i H ∧ Qd H) ∨ ((Itz K a b).go i H ∧ ∃ Nx : Hp → Prop, (∀ H', Nx H' → ∃ m', m' < m ∧ W (i + 1) m' H') ∧ ∀ x H', (Itz K a b).yld i H x H' → g x (wipe σ vs) H' fun σ2 H2 => wipe σ2 vs = wipe σ vs ∧ tt σ2 H2 fun b H3 =>
        if b = true then te σ2 H3 fun y H4 => ∃ acc, H4 D = some (.lst acc) ∧ acc.length < sizeLine ∧ Nx (upd H4 D (.lst (acc ++ [y]))) else Nx H3) :=
  lc_it (walk_zip rfl) Pv h0 hl (fun i v H H' _ p ⟨T, x, y, e1, e2, e3, e4, e5⟩ => by subst e1 e3; exact hs i x y T H e4 e5 e2 p) hd
theorem lc_enum {a : Addr} {xs : List V} {g : TG} {tt : TT} {te : TE} {vs : List Nat} {σ : L2.St} {H1 : Hp} {D : Addr} {Qd : Hp → Prop} (Pv : Nat → Hp → Prop) (h0 : Pv 0 (upd H1 D (.lst [])))
    (hl : ∀ i H, i ≤ xs.length → Pv i H → SqL K H a xs)
    (hs : ∀ i x T H, xs[i]? = some x → H T = none → Pv i H → g (.ref T) (wipe σ vs) (upd H T (.tup [.int (i : Nat), x])) fun σ2 H2 => wipe σ2 vs = wipe σ vs ∧ tt σ2 H2 fun b H3 =>
      if b = true then te σ2 H3 fun y H4 => ∃ acc, H4 D = some (.lst acc) ∧ acc.length < sizeLine ∧ Pv (i + 1) (upd H4 D (.lst (acc ++ [y]))) else Pv (i + 1) H3) (hd : ∀ H, Pv xs.length H → Qd H) :
    ∃ W : Nat → Nat → Hp → Prop, (∃ m, W 0 m (upd H1 D (.lst []))) ∧ ∀ i m H, W i m H →
      ((Ite K a).stop i H ∧ Qd H) ∨ ((Ite K a).go i H ∧ ∃ Nx : Hp → Prop, (∀ H', Nx H' → ∃ m', m' < m ∧ W (i + 1) m' H') ∧ ∀ x H', (Ite K a).yld i H x H' → g x (wipe σ vs) H' fun σ2 H2 => wipe σ2 vs = wipe σ vs ∧ tt σ2 H2 fun b H3 =>
        if b = true then te σ2 H3 fun y H4 => ∃ acc, H4 D = some (.lst acc) ∧ acc.length < sizeLine ∧ Nx (upd H4 D (.lst (acc ++ [y]))) else Nx H3) :=
  lc_it walk_enum Pv h0 hl (fun i v H H' _ p ⟨T, x, y, e1, e2, e3, e4, e5⟩ => by
    subst e1 e3
    cases e4
    exact hs i y T H e5 e2 p) hd
theorem gzip_get {α β : Type} {xs : List α} {ys : List β} {i : Nat} {x : α} {y : β} (h1 : xs[i]? = some x) (h2 : ys[i]? = some y) : (List.zip xs ys)[i]? = some (x, y) := by
  rw [List.zip, List.getElem?_zipWith, h1, h2]
theorem enum_get {α : Type} {xs : List α} {i : Nat} {x : α} (h : xs[i]? = some x) : (List.zip (rangeL 0 xs.length) xs)[i]? = some (((i : Nat) : Int), x) := by
  have hi : i < xs.length := (List.getElem?_eq_some_iff.mp h).1
  have := rangeL_at (lo := 0) hi
  rw [Int.zero_add] at this
  exact gzip_get this h
theorem zip_lenV {α β γ δ : Type} {xs : List α} {ys : List β} {vs : List γ} {ws : List δ} (h1 : vs.length = xs.length) (h2 : ws.length = ys.length) : min vs.length ws.length = (List.zip xs ys).length := by rw [List.length_zip, h1, h2]
theorem enum_lenV {α γ : Type} {xs : List α} {vs : List γ} (h1 : vs.length = xs.length) : vs.length = (List.zip (rangeL 0 xs.length) xs).length := by rw [List.length_zip, rangeL_len, h1]; exact (Nat.min_self _).symm
end
/-! ### texts looked up in a written table -/
def dgetI (kvs : List (Str × Str)) (k : Str) : Option Str := (kvs.find? fun kv => decide (kv.1 = k)).map (·.2)
theorem rd_dgetI {ty : TE} {σ : L2.St} {H : Hp} {Q : VK} {k v : Str} (trs : List (TE × TE)) (kvs : List (Str × Str)) (he : trs = kvs.map fun kv => (tC (.str kv.1), tC (.str kv.2))) (h15 : kvs.length ≤ 15) (hm : mergeK [] (kvS kvs) = kvS kvs)
    (hk : dgetI kvs k = some v) (hy : ∀ H1 Q', Q' (.str k) H1 → ty σ H1 Q') (q : ∀ p, H p = none → Q (.str v) (upd H p (.dK (kvS kvs)))) : tDGet (tDisp trs) ty σ H Q := by
  intro p hp
  have walk : ∀ (l : List (Str × Str)) (R : List (V × V) → Hp → Prop) (H1 : Hp), R (l.map fun kv => (V.str kv.1, V.str kv.2)) H1 → tPairs (l.map fun kv => (tC (.str kv.1), tC (.str kv.2))) σ H1 R := by
    intro l
    induction l with
    | nil => intro R H1 h; exact h
    | cons kv l ih => intro R H1 h; exact ih (fun ps H3 => R ((V.str kv.1, V.str kv.2) :: ps) H3) H1 h
  rw [he]
  refine walk kvs _ _ ⟨upd_same, kvS kvs, ?_, ?_, ?_⟩
  · unfold kvS
    rw [List.map_map]
    rfl
  · unfold kvS
    rw [List.length_map]
    exact h15
  · rw [hm, upd_upd]
    have e : valV (kvS kvs) (Sum.inr k) = some (.str v) := by
      rw [valS]
      unfold dgetI at hk
      rw [hk]
      rfl
    exact hy _ _ ⟨p, .str v, rfl, e ▸ DGet.k (k := Sum.inr k) upd_same, q p hp⟩
theorem GS.di {kvs : List (Str × Str)} {k v : Str} (h : ∀ kv ∈ kvs, GS kv.2) (hk : dgetI kvs k = some v) : GS v := by
  unfold dgetI at hk
  cases e : (kvs.find? fun kv => decide (kv.1 = k)) with
  | none => rw [e] at hk; cases hk
  | some kv =>
    rw [e] at hk
    cases hk
    exact h kv (List.mem_of_find?_eq_some e)
end G
/-! tuples of one, things of either type; the bag of five; membership, pop, tuples. -/
namespace G
open PySem PySem.Spec PyProof.Rows L2 TL
structure T1 (α : Type) where
  a : α
  deriving DecidableEq
instance {α : Type} [Enc α] : Enc (T1 α) := ⟨fun p => .tuple [Enc.d p.a]⟩
instance {α : Type} [Enc α] [Dep α] : Dep (T1 α) := ⟨Dep.n α + 1, fun p => by
  have h1 := Dep.le p.a
  show PyData.depthAll [Enc.d p.a] + 1 ≤ _
  simp only [PyData.depthAll]
  omega⟩
instance {α : Type} [Enc α] : NN (T1 α) := ⟨fun _ => nofun⟩
instance {α β : Type} [Enc α] [Enc β] : Enc (α ⊕ β) := ⟨fun s => match s with | .inl x => Enc.d x | .inr y => Enc.d y⟩
instance {α β : Type} [Enc α] [Enc β] [Dep α] [Dep β] : Dep (α ⊕ β) := ⟨max (Dep.n α) (Dep.n β), fun s => match s with
  | .inl x => Nat.le_trans (Dep.le x) (Nat.le_max_left _ _)
  | .inr y => Nat.le_trans (Dep.le y) (Nat.le_max_right _ _)⟩
instance {α β : Type} [Enc α] [Enc β] [NN α] [NN β] : NN (α ⊕ β) := ⟨fun s => match s with
  | .inl x => NN.ne x
  | .inr y => NN.ne y⟩
section
variable {K : PySem.W.Frag} {F : Hp} {v : V} {p : Addr} {α β γ : Type} [Enc α] [Enc β] [Enc γ]
theorem R.p1_v {x : T1 α} (h : R K F v x) : ∃ p v1, v = .ref p ∧ SqT K F p [v1] ∧ R K F v1 x.a := by
  have h' : Rp K F v (.tuple [Enc.d x.a]) := h
  cases h' with
  | tup hs hl ha =>
    cases ha with
    | cons h1 h2 =>
      cases h2
      exact ⟨_, _, rfl, .inl (.inl hs), h1⟩
theorem R.p1_s {x : T1 α} (h : R K F v x) : ∃ p v1, v = .ref p ∧ F p = some (.tup [v1]) ∧ R K F v1 x.a := by
  have h' : Rp K F v (.tuple [Enc.d x.a]) := h
  cases h' with
  | tup hs hl ha =>
    cases ha with
    | cons h1 h2 =>
      cases h2
      exact ⟨_, _, rfl, hs, h1⟩
theorem R.mk1 {v1 : V} {x : α} (h1 : F p = some (.tup [v1])) (r1 : R K F v1 x) : R K F (.ref p) (T1.mk x) := .tup h1 (by show 1 ≤ sizeLine; decide) (.cons r1 .nil)
theorem R.inl {x : α} (r : R K F v x) : R K F v (Sum.inl x : α ⊕ β) := r
theorem R.inr {y : β} (r : R K F v y) : R K F v (Sum.inr y : α ⊕ β) := r
theorem R.some_ {x : α} (r : R K F v x) : R K F v (some x) := r
theorem R.omap {x : Option α} {f : α → β} (h : ∀ a, (Enc.d (f a) : PyData) = Enc.d a) (r : R K F v x) : R K F v (x.map f) := by
  cases x with
  | none => exact r
  | some a => show Rp K F v (Enc.d (f a)); rw [h]; exact r
def getL {α β : Type} : α ⊕ β → Option α
  | .inl x => some x
  | .inr _ => none
def getR {α β : Type} : α ⊕ β → Option β
  | .inr y => some y
  | .inl _ => none
theorem getL_ok {s : α ⊕ β} {x : α} (h : getL s = some x) (r : R K F v s) : R K F v x := by
  cases s with
  | inl a => cases h; exact r
  | inr b => cases h
theorem getR_ok {s : α ⊕ β} {y : β} (h : getR s = some y) (r : R K F v s) : R K F v y := by
  cases s with
  | inr a => cases h; exact r
  | inl b => cases h
theorem getO_ok {s : Option α} {x : α} (h : s = some x) (r : R K F v s) : R K F v x := by subst h; exact r
end
/-- the bag of five: cells, which is next, what is left of the last, the stir, how many were stirred -/
structure Bag2 where
  cells : List Int
  at_ : Nat
  left : Int
  stir : Int
  cnt : Int
structure BagAt2 (F H : Hp) (B C : Addr) (b : Bag2) : Prop where
  hB : H B = some (.lst [.ref C, .int (b.at_ : Nat), .int b.left, .int b.stir, .int b.cnt])
  hC : H C = some (.lst (b.cells.map V.int))
  ne : B ≠ C
  fB : F B = none
  fC : F C = none
section
variable {M : Addr → Prop} {F0 H0 F H F' H' : Hp} {p q B C : Addr} {o : HO} {b b' : Bag2} {ws : List V}
theorem BagAt2.frz (a : BagAt2 F H B C b) (hq : H q = none) : BagAt2 (upd F q o) (upd H q o) B C b :=
  have n1 := ne_of_none a.hB hq
  have n2 := ne_of_none a.hC hq
  ⟨(upd_ne n1).trans a.hB, (upd_ne n2).trans a.hC, a.ne, (upd_ne n1).trans a.fB, (upd_ne n2).trans a.fC⟩
theorem BagAt2.own (a : BagAt2 F H B C b) (hq : H q = none) : BagAt2 F (upd H q o) B C b :=
  have n1 := ne_of_none a.hB hq
  have n2 := ne_of_none a.hC hq
  ⟨(upd_ne n1).trans a.hB, (upd_ne n2).trans a.hC, a.ne, a.fB, a.fC⟩
theorem BagAt2.nb (a : BagAt2 F H B C b) (hq : H q = none) : ¬ Bc B C q := fun z => by
  rcases z with z | z
  · exact ne_of_none a.hB hq z.symm
  · exact ne_of_none a.hC hq z.symm
theorem BagAt2.other (a : BagAt2 F H B C b) (m : ¬ Bc B C q) : BagAt2 F (upd H q o) B C b :=
  have n1 : B ≠ q := fun z => m (.inl z.symm)
  have n2 : C ≠ q := fun z => m (.inr z.symm)
  ⟨(upd_ne n1).trans a.hB, (upd_ne n2).trans a.hC, a.ne, a.fB, a.fC⟩
theorem BagAt2.fz (a : BagAt2 F H B C b) (m : ¬ Bc B C q) : BagAt2 (upd F q o) H B C b :=
  have n1 : B ≠ q := fun z => m (.inl z.symm)
  have n2 : C ≠ q := fun z => m (.inr z.symm)
  ⟨a.hB, a.hC, a.ne, (upd_ne n1).trans a.fB, (upd_ne n2).trans a.fC⟩
theorem BagAt2.gr0 (a : BagAt2 F H B C b) (g : Gr M0 F H F' H') : BagAt2 F' H' B C b :=
  ⟨g.keep _ _ id a.hB, g.keep _ _ id a.hC, a.ne, g.newL (by rw [a.hB]; simp) a.fB (fun ts z => by rw [g.keep _ _ id a.hB] at z; cases z), g.newL (by rw [a.hC]; simp) a.fC (fun ts z => by rw [g.keep _ _ id a.hC] at z; cases z)⟩
theorem BagAt2.apart (a : BagAt2 F H B C b) (k : Gr M0 H H F' H') : BagAt2 F H' B C b := ⟨k.keep _ _ id a.hB, k.keep _ _ id a.hC, a.ne, a.fB, a.fC⟩
theorem BagAt2.put (a : BagAt2 F H B C b) (e : b'.cells = b.cells) : BagAt2 F (upd H B (.lst [.ref C, .int (b'.at_ : Nat), .int b'.left, .int b'.stir, .int b'.cnt])) B C b' :=
  ⟨upd_same, by rw [upd_ne a.ne.symm, a.hC, e], a.ne, a.fB, a.fC⟩
end
/-! ### membership -/
def rInI (K : PySem.W.Frag) : R2 := fun x y H Q => ∃ (k : Int) (p : Addr) (ns : List Int), x = .int k ∧ y = .ref p ∧ (SqL K H p (ns.map V.int) ∨ SqT K H p (ns.map V.int)) ∧ Q (.bl (decide (k ∈ ns))) H
def rNotInI (K : PySem.W.Frag) : R2 := fun x y H Q => ∃ (k : Int) (p : Addr) (ns : List Int), x = .int k ∧ y = .ref p ∧ (SqL K H p (ns.map V.int) ∨ SqT K H p (ns.map V.int)) ∧ Q (.bl (!decide (k ∈ ns))) H
theorem inV_ints (k : Int) (ns : List Int) : inV (.int k) (ns.map V.int) = decide (k ∈ ns) := by
  rw [Bool.eq_iff_iff, decide_eq_true_iff]
  unfold inV
  rw [List.any_map, List.any_eq_true]
  constructor
  · rintro ⟨x, hx, e⟩
    have e' : (x == k) = true := e
    rw [← beq_iff_eq.mp e']
    exact hx
  · intro h
    exact ⟨k, h, beq_iff_eq.mpr rfl⟩
theorem flat_ints (ns : List Int) : (ns.map V.int).all flatV = true := by
  rw [List.all_map, List.all_eq_true]
  intro x _
  rfl
section
variable {X : Cx} {K : PySem.W.Frag}
theorem op_inI (h : X.K = K := by rfl) : OpR X (compareOp .In) (rInI K) := by
  subst h
  intro pins s σ H x y v u Q I rx ry ⟨k, p, ns, e1, e2, hs, q⟩
  exact op_in_seq pins s σ H x y v u Q I rx ry ⟨p, _, e2, hs, by rw [e1]; rfl, flat_ints ns, by rw [e1, inV_ints]; exact q⟩
theorem op_notInI (h : X.K = K := by rfl) : OpR X (compareOp .NotIn) (rNotInI K) := by
  subst h
  intro pins s σ H x y v u Q I rx ry ⟨k, p, ns, e1, e2, hs, q⟩
  exact op_notIn_seq pins s σ H x y v u Q I rx ry ⟨p, _, e2, hs, by rw [e1]; rfl, flat_ints ns, by rw [e1, inV_ints]; exact q⟩
theorem op_inDK (hu : X.A.units + 65 < cLine) (h : X.K = K := by rfl) : OpR X (compareOp .In) (rInD K) := by subst h; exact op_inD hu
theorem op_notInDK (hu : X.A.units + 65 < cLine) (h : X.K = K := by rfl) : OpR X (compareOp .NotIn) (rNotInD K) := by subst h; exact op_notInD hu
theorem sl_tupK (h : X.K = K := by rfl) : SlR X (rSlA K) := by subst h; exact sl_tupA
theorem op_catTK (h : X.K = K := by rfl) : OpR X (binaryOp .Add) (rCatA K) := by subst h; exact op_catA
theorem cr_maxK (hc : X.calm = true) (h : X.K = K := by rfl) : CallR X (.builtin "max") (rMax K) := by subst h; exact cr_max hc
theorem cr_minK' (hc : X.calm = true) (h : X.K = K := by rfl) : CallR X (.builtin "min") (rMin K) := by subst h; exact cr_min hc
theorem pe_tupleOfK {a : Expr} {ta : TE} {p pos : Pos} (hg : Gl X "tuple") (hm : X.mg "tuple" = none) (ha : PE X a ta) (h : X.K = K := by rfl) (na : starEach [a] X.env = (false, eval a X.env) :: starEach [] X.env := by rfl) :
    PE X (.Call (.Name "tuple" p) [a] [] pos) (tThen ta (kTup K)) := by subst h; exact pe_tupleOf hg hm ha na
end
def inD {α : Type} [Enc α] (x : α) (xs : List α) : Bool := (xs.map Enc.d).any fun z => PyData.eqv z (Enc.d x)
/-! ### the least, the greatest -/
def maxO : List Int → Option Int
  | [] => none
  | x :: r => some (r.foldl max x)
def minO : List Int → Option Int
  | [] => none
  | x :: r => some (r.foldl min x)
theorem foldl_max (r : List Int) : ∀ x : Int, (r.foldl max x ∈ x :: r) ∧ ∀ y ∈ x :: r, y ≤ r.foldl max x := by
  induction r with
  | nil => intro x; exact ⟨List.mem_cons_self .., fun y hy => by rw [List.mem_singleton.mp hy]; exact Int.le_refl _⟩
  | cons z r ih =>
    intro x
    obtain ⟨h1, h2⟩ := ih (max x z)
    refine ⟨?_, fun y hy => ?_⟩
    · show List.foldl max (max x z) r ∈ _
      rcases List.mem_cons.mp h1 with e | e
      · rw [e]
        by_cases h : x ≤ z
        · rw [Int.max_eq_right h]; exact List.mem_cons_of_mem _ (List.mem_cons_self ..)
        · rw [Int.max_eq_left (by omega)]; exact List.mem_cons_self ..
      · exact List.mem_cons_of_mem _ (List.mem_cons_of_mem _ e)
    · show y ≤ List.foldl max (max x z) r
      have h3 := h2 (max x z) (List.mem_cons_self ..)
      rcases List.mem_cons.mp hy with e | hy
      · omega
      · rcases List.mem_cons.mp hy with e | hy
        · omega
        · exact h2 y (List.mem_cons_of_mem _ hy)
theorem foldl_min (r : List Int) : ∀ x : Int, (r.foldl min x ∈ x :: r) ∧ ∀ y ∈ x :: r, r.foldl min x ≤ y := by
  induction r with
  | nil => intro x; exact ⟨List.mem_cons_self .., fun y hy => by rw [List.mem_singleton.mp hy]; exact Int.le_refl _⟩
  | cons z r ih =>
    intro x
    obtain ⟨h1, h2⟩ := ih (min x z)
    refine ⟨?_, fun y hy => ?_⟩
    · show List.foldl min (min x z) r ∈ _
      rcases List.mem_cons.mp h1 with e | e
      · rw [e]
        by_cases h : x ≤ z
        · rw [Int.min_eq_left h]; exact List.mem_cons_self ..
        · rw [Int.min_eq_right (by omega)]; exact List.mem_cons_of_mem _ (List.mem_cons_self ..)
      · exact List.mem_cons_of_mem _ (List.mem_cons_of_mem _ e)
    · show List.foldl min (min x z) r ≤ y
      have h3 := h2 (min x z) (List.mem_cons_self ..)
      rcases List.mem_cons.mp hy with e | hy
      · omega
      · rcases List.mem_cons.mp hy with e | hy
        · omega
        · exact h2 y (List.mem_cons_of_mem _ hy)
theorem maxO_ok {xs : List Int} {m : Int} (h : maxO xs = some m) : 0 < xs.length ∧ m ∈ xs ∧ ∀ y ∈ xs, y ≤ m := by
  cases xs with
  | nil => cases h
  | cons x r =>
    cases h
    exact ⟨Nat.succ_pos _, (foldl_max r x).1, (foldl_max r x).2⟩
theorem minO_ok {xs : List Int} {m : Int} (h : minO xs = some m) : 0 < xs.length ∧ m ∈ xs ∧ ∀ y ∈ xs, m ≤ y := by
  cases xs with
  | nil => cases h
  | cons x r =>
    cases h
    exact ⟨Nat.succ_pos _, (foldl_min r x).1, (foldl_min r x).2⟩
theorem max_uniq {xs : List Int} {m k : Int} (h : maxO xs = some m) (hk : k ∈ xs) (hl : ∀ y, y ∈ xs → y ≤ k) : k = m := by
  obtain ⟨_, h1, h2⟩ := maxO_ok h
  have := h2 k hk
  have := hl m h1
  omega
theorem min_uniq {xs : List Int} {m k : Int} (h : minO xs = some m) (hk : k ∈ xs) (hl : ∀ y, y ∈ xs → k ≤ y) : k = m := by
  obtain ⟨_, h1, h2⟩ := minO_ok h
  have := h2 k hk
  have := hl m h1
  omega
/-! ### pop -/
def popI {α : Type} (xs : List α) (i : Int) : Option (α × List α) := (ixN xs.length i).bind fun j => xs[j]?.map fun x => (x, xs.eraseIdx j)
theorem popI_ok {α : Type} {xs r : List α} {i : Int} {x : α} (h : popI xs i = some (x, r)) : ∃ j, ixN xs.length i = some j ∧ xs[j]? = some x ∧ xs.eraseIdx j = r := by
  unfold popI at h
  obtain ⟨j, h1, h2⟩ := Option.bind_eq_some_iff.mp h
  obtain ⟨y, h3, h4⟩ := Option.map_eq_some_iff.mp h2
  cases h4
  exact ⟨j, h1, h3, rfl⟩
theorem popI_at {i : Int} {n j : Nat} (h : ixN n i = some j) (hn : n ≤ sizeLine) : (-(2 ^ 63) ≤ i ∧ i < 2 ^ 63) ∧ seqIndex? i n = some j := by
  obtain ⟨h1, h2, h3, h4⟩ := ixN_seq h
  rw [sizeLine_eq] at hn
  exact ⟨by omega, h1⟩
theorem RpA.erase {K : PySem.W.Frag} {F : Hp} : ∀ {vs : List V} {ds : List PyData} (j : Nat), RpA K F vs ds → RpA K F (vs.eraseIdx j) (ds.eraseIdx j)
  | _, _, _, .nil => .nil
  | _, _, 0, .cons _ t => t
  | _, _, j + 1, .cons h t => .cons h (RpA.erase j t)
theorem map_er {α β : Type} (f : α → β) : ∀ (l : List α) (j : Nat), (l.eraseIdx j).map f = (l.map f).eraseIdx j
  | [], _ => rfl
  | _ :: _, 0 => rfl
  | x :: l, j + 1 => congrArg (f x :: ·) (map_er f l j)
theorem RL.erase {α : Type} [Enc α] {K : PySem.W.Frag} {F : Hp} {vs : List V} {xs : List α} (j : Nat) (h : RL K F vs xs) : RL K F (vs.eraseIdx j) (xs.eraseIdx j) := by
  have := RpA.erase j h
  rw [← map_er] at this
  exact this
theorem erase_le {α : Type} {xs : List α} {j n : Nat} (h : xs.length ≤ n) : (xs.eraseIdx j).length ≤ n := Nat.le_trans (List.length_eraseIdx_le _ _) h
/-! ### a list so many times -/
def repL {α : Type} (xs : List α) (k : Int) : Option (List α) := if -(2 ^ 63) ≤ k ∧ k < 2 ^ 63 ∧ xs.length * k.toNat ≤ sizeLine then some (List.replicate k.toNat xs).flatten else none
theorem repL_ok {α : Type} {xs r : List α} {k : Int} (h : repL xs k = some r) : (-(2 ^ 63) ≤ k ∧ k < 2 ^ 63 ∧ xs.length * k.toNat ≤ sizeLine) ∧ (List.replicate k.toNat xs).flatten = r := by
  unfold repL at h
  split at h
  · exact ⟨by assumption, Option.some.inj h⟩
  · cases h
theorem RL.rep {α : Type} [Enc α] {K : PySem.W.Frag} {F : Hp} {vs : List V} {xs : List α} (h : RL K F vs xs) : ∀ n : Nat, RL K F (List.replicate n vs).flatten (List.replicate n xs).flatten
  | 0 => RpA.nil
  | n + 1 => by rw [List.replicate_succ, List.replicate_succ, List.flatten_cons, List.flatten_cons]; exact RL.app h (RL.rep h n)
theorem rep_len {α : Type} (xs : List α) (n : Nat) : (List.replicate n xs).flatten.length = xs.length * n := by
  rw [List.length_flatten, List.map_replicate, List.sum_replicate_nat, Nat.mul_comm]
theorem units65 {k : Nat} {A : Around} (r : Room k A) : A.units + 65 < cLine := by have := r.un; omega
def rSlF (K : PySem.W.Frag) : V → Option Int → Option Int → Hp → VK → Prop := fun x lo hi H Q => ∃ (F : Hp) (a : Addr) (xs : List V), x = .ref a ∧ F a = some (.tup xs) ∧ Same F H ∧
  ∀ q F' H', Gr M0 F H F' H' → F' q = some (.tup (cutV xs lo hi)) → Q (.ref q) H'
theorem sl_tupF {X : Cx} {K : PySem.W.Frag} (h : X.K = K := by rfl) : SlR X (rSlF K) := by
  subst h
  intro pins s σ H x v vl vu lo hi sl Q I rx hs pl pu ⟨F, a, xs, e, hx, hF, q⟩
  refine sl_tupA pins s σ H x v vl vu lo hi sl Q I rx hs pl pu ⟨a, xs, e, .inl (.inl (hF _ _ hx)), fun hfull => ?_, fun _ p hp => ?_⟩
  · refine q a F H (Gr.refl hF) ?_
    unfold cutV
    rw [hfull.1, hfull.2, List.drop_zero, Nat.sub_zero, List.take_length]
    exact hx
  · exact q p _ _ ((Gr.refl hF).frz (o := .tup (cutV xs lo hi)) hp) fzT
def popL {α : Type} (xs : List α) : Option (α × List α) := xs[xs.length - 1]?.map fun x => (x, xs.dropLast)
theorem popL_ok {α : Type} {xs r : List α} {x : α} (h : popL xs = some (x, r)) : xs[xs.length - 1]? = some x ∧ xs.dropLast = r := by
  unfold popL at h
  obtain ⟨y, h3, h4⟩ := Option.map_eq_some_iff.mp h
  cases h4
  exact ⟨h3, rfl⟩
/-! ### how many unlike tuples of ints -/
class IK (α : Type) [Enc α] where
  ks : α → List Int
  enc : ∀ x, Enc.d x = .tuple ((ks x).map .int)
  few : ∀ x, (ks x).length ≤ 8
  pos : ∀ x, 0 < (ks x).length
  inj : ∀ x y, ks x = ks y → x = y
instance : IK (Int × Int) := ⟨fun x => [x.1, x.2], fun _ => rfl, fun _ => by show 2 ≤ 8; decide, fun _ => Nat.succ_pos _, fun x y h => by
  obtain ⟨h1, h2⟩ := List.cons.inj h
  exact Prod.ext h1 (List.cons.inj h2).1⟩
instance : IK (T4 Int Int Int Int) := ⟨fun x => [x.a, x.b, x.c, x.e], fun _ => rfl, fun _ => by show 4 ≤ 8; decide, fun _ => Nat.succ_pos _, fun x y h => by
  obtain ⟨h1, h2⟩ := List.cons.inj h
  obtain ⟨h3, h4⟩ := List.cons.inj h2
  obtain ⟨h5, h6⟩ := List.cons.inj h4
  cases x
  cases y
  simp only at h1 h3 h5 h6
  rw [h1, h3, h5, (List.cons.inj h6).1]⟩
instance : IK (T3 Int Int Int) := ⟨fun x => [x.a, x.b, x.c], fun _ => rfl, fun _ => by show 3 ≤ 8; decide, fun _ => Nat.succ_pos _, fun x y h => by
  obtain ⟨h1, h2⟩ := List.cons.inj h
  obtain ⟨h3, h4⟩ := List.cons.inj h2
  cases x
  cases y
  simp only at h1 h3 h4
  rw [h1, h3, (List.cons.inj h4).1]⟩
theorem rp_ints {K : PySem.W.Frag} {F : Hp} : ∀ {ns : List Int} {vs : List V}, RpA K F vs (ns.map .int) → vs = ns.map V.int
  | [], _, .nil => rfl
  | _ :: _, _, .cons h t => by
    cases h
    rw [rp_ints t]
    rfl
theorem ik_rows {α : Type} [Enc α] [IK α] {K : PySem.W.Frag} {F : Hp} : ∀ (ds : List α) {vs : List V}, RpA K F vs (ds.map Enc.d) → ∃ ks : List (Addr × List Int), vs = ks.map (fun p => V.ref p.1) ∧ ds.map IK.ks = ks.map (·.2) ∧ ∀ p ∈ ks, SqT K F p.1 (p.2.map V.int)
  | [], _, h => by cases h; exact ⟨[], rfl, rfl, fun _ h => nomatch h⟩
  | x :: ds, _, h => by
    cases h with
    | cons h t =>
      obtain ⟨ks, e1, e2, e3⟩ := ik_rows ds t
      rw [IK.enc x] at h
      cases h with
      | tup hs hl ha =>
        obtain rfl := rp_ints ha
        refine ⟨(_, IK.ks x) :: ks, by rw [e1]; rfl, by rw [List.map_cons, List.map_cons, e2], fun p hp => ?_⟩
        rcases List.mem_cons.mp hp with rfl | hp
        · exact .inl (.inl hs)
        · exact e3 p hp
theorem len_same {α : Type} [DecidableEq α] {a b : List α} (ha : a.Nodup) (hb : b.Nodup) (h : ∀ x, x ∈ a ↔ x ∈ b) : a.length = b.length := by
  refine Nat.le_antisymm ?_ ?_
  · exact go ha fun x hx => (h x).mp hx
  · exact go hb fun x hx => (h x).mpr hx
where
  go : ∀ {a b : List α}, a.Nodup → (∀ x ∈ a, x ∈ b) → a.length ≤ b.length
    | [], _, _, _ => Nat.zero_le _
    | x :: a, b, ha, h => by
      obtain ⟨h1, h2⟩ := List.nodup_cons.mp ha
      have hx := h x (List.mem_cons_self ..)
      have := go (a := a) (b := b.erase x) h2 fun y hy => (List.mem_erase_of_ne (fun e => by rw [e] at hy; exact h1 hy)).mpr (h y (List.mem_cons_of_mem _ hy))
      rw [List.length_erase_of_mem hx] at this
      have hp := List.length_pos_of_mem hx
      rw [List.length_cons]
      omega
def undup {α : Type} [DecidableEq α] : List α → List α
  | [] => []
  | x :: l => if x ∈ l then undup l else x :: undup l
theorem mem_undup {α : Type} [DecidableEq α] {x : α} : ∀ {l : List α}, x ∈ undup l ↔ x ∈ l
  | [] => Iff.rfl
  | y :: l => by
    unfold undup
    by_cases h : y ∈ l
    · rw [if_pos h, mem_undup, List.mem_cons]
      exact ⟨.inr, fun e => e.elim (fun e => e ▸ h) id⟩
    · rw [if_neg h, List.mem_cons, List.mem_cons, mem_undup]
theorem nodup_undup {α : Type} [DecidableEq α] : ∀ l : List α, (undup l).Nodup
  | [] => List.nodup_nil
  | y :: l => by
    unfold undup
    by_cases h : y ∈ l
    · rw [if_pos h]; exact nodup_undup l
    · rw [if_neg h]
      exact List.nodup_cons.mpr ⟨fun z => h (mem_undup.mp z), nodup_undup l⟩
def lsetT {α : Type} [DecidableEq α] (xs : List α) : Option Int := if xs.length < 64 then some (((undup xs).length : Nat) : Int) else none
theorem lsetT_ok {α : Type} [DecidableEq α] {xs : List α} {n : Int} (h : lsetT xs = some n) : xs.length < 64 ∧ (((undup xs).length : Nat) : Int) = n := by
  unfold lsetT at h
  split at h
  · exact ⟨by assumption, Option.some.inj h⟩
  · cases h
def tLenSetT (K : PySem.W.Frag) {α : Type} [Enc α] [IK α] [DecidableEq α] (ta : TE) : TE := fun σ H Q => ta σ H fun x H1 => ∃ (l : Addr) (vs : List V) (ds : List α), x = V.ref l ∧ SqL K H1 l vs ∧ RL K H1 vs ds ∧ ds.length < 64 ∧ Q (.int ((undup ds).length : Nat)) H1
theorem pe_lenSetT {X : Cx} {K : PySem.W.Frag} {α : Type} [Enc α] [IK α] [DecidableEq α] {a : Expr} {ta : TE} {p p2 q pos : Pos} (hc : X.calm = true) (hu : X.A.units + 64 < cLine) (hg : Gl X "len") (hm : X.mg "len" = none) (hg2 : Gl X "set") (hm2 : X.mg "set" = none) (ha : PE X a ta) (hK : X.K = K := by rfl)
    (na : starEach [a] X.env = (false, eval a X.env) :: starEach [] X.env := by rfl) : PE X (.Call (.Name "len" p) [.Call (.Name "set" p2) [a] [] q] [] pos) (tLenSetT (α := α) K ta) := by
  subst hK
  refine ⟨fun pins s σ H Q I h => ?_⟩
  refine Call_ (ld_blt I hg hm PySem.boot_len ?_)
  refine PyProof.Rows.callWith_builtin1 (PyProof.Rows.args_cons ?_ rfl) rfl rfl
  refine Call_ (ld_blt I hg2 hm2 PyProof.Rows.boot_set ?_)
  refine PyProof.Rows.callWith_type1 (PyProof.Rows.args_cons (thn (ha.run pins s σ H _ I h) fun v s1 ⟨x, H1, I1, r1, q1⟩ => PyProof.Rows.args_nil ?_) na) na rfl
  obtain ⟨l, vs, ds, rfl, hq, hA, h1, q1⟩ := q1
  cases r1
  obtain ⟨ks, rfl, e2, e3⟩ := ik_rows ds hA
  obtain ⟨its, rv, pl, hz⟩ := I1.list hq
  have hlen : ks.length = ds.length := by have := congrArg List.length e2; rwa [List.length_map, List.length_map, eq_comm] at this
  refine call_set_tups (P := X.prog) (w := X.w) ks (I1.ok.hd hc) pl.isList (by simpa using refs_of_vals rv) (fun p hp => I1.isT (e3 p hp)) (by omega) (by omega) fun h' tk L es ep t R g k => ?_
  have hL : L.length = (undup ds).length := by
    have k1 := R.nd
    have k2 : ((undup ds).map IK.ks).Nodup := by
      refine List.pairwise_map.mpr ((nodup_undup ds).imp fun {x y} hne e => hne (IK.inj x y e))
    have := len_same k1 k2 fun z => by
      constructor
      · intro hz
        obtain ⟨p, hp, rfl⟩ := List.mem_map.mp hz
        have hp2 := List.mem_of_mem_take (g.sub p hp)
        have : p.2 ∈ ds.map IK.ks := by rw [e2]; exact List.mem_map.mpr ⟨p, hp2, rfl⟩
        obtain ⟨x, hx, e⟩ := List.mem_map.mp this
        exact List.mem_map.mpr ⟨x, mem_undup.mpr hx, e⟩
      · intro hz
        obtain ⟨x, hx, rfl⟩ := List.mem_map.mp hz
        have : IK.ks x ∈ ks.map (·.2) := by rw [← e2]; exact List.mem_map.mpr ⟨x, mem_undup.mp hx, rfl⟩
        obtain ⟨p, hp, e⟩ := List.mem_map.mp this
        rw [← e]
        exact g.all p (by rw [List.take_length]; exact hp)
    rwa [List.length_map, List.length_map] at this
  refine PyProof.Rows.args_nil ?_
  obtain ⟨o, ho, hex, hd⟩ := R.ob
  have I2 : Inv X pins σ H1 { s1 with heap := h', toks := tk } := I1.kept fun b o e => k b o e
  have hsz : es.size = L.length := SetTR.size (s := { s1 with heap := h', toks := tk }) R
  have hfit : t.fits es.size = true := SetTR.fits (s := { s1 with heap := h', toks := tk }) R
  have hfew := R.few
  refine call_len_set (s := { s1 with heap := h', toks := tk }) ho hex hd hfit (by rw [hsz]; omega) ⟨.int ((undup ds).length : Nat), H1, I2.tok _, ⟨_, by rw [hsz, hL]⟩, q1⟩
end G
/-! My base, part 23: dicts of one's own. -/
namespace G
open PySem PySem.Spec PyProof.Rows L2 TL

/-- a thing of one's own at p, whatever it is, but no tuple -/
structure Od (H0 F H : Hp) (p : Addr) (ob : HO) : Prop where
  h : H p = some ob
  nF : F p = none
  n0 : H0 p = none
  nt : ∀ ts, ob ≠ .tup ts
section
variable {M : Addr → Prop} {F0 H0 F H F' H' : Hp} {p q B C : Addr} {ob o u : HO} {K : PySem.W.Frag} {xs ws us : List V} {b : Bag} {b2 : Bag2}
theorem Od.new (g : Gr M F0 H0 F H) (hp : H p = none) (nt : ∀ ts, o ≠ .tup ts) : Od H0 F (upd H p o) p o := ⟨upd_same, g.noneF hp, g.none0 hp, nt⟩
theorem Od.frz (w : Od H0 F H p ob) (hq : H q = none) : Od H0 (upd F q o) (upd H q o) p ob :=
  have ne := ne_of_none w.h hq
  ⟨(upd_ne ne).trans w.h, (upd_ne ne).trans w.nF, w.n0, w.nt⟩
theorem Od.own (w : Od H0 F H p ob) (hq : H q = none) : Od H0 F (upd H q o) p ob :=
  have ne := ne_of_none w.h hq
  ⟨(upd_ne ne).trans w.h, w.nF, w.n0, w.nt⟩
theorem Od.put (w : Od H0 F H p ob) (nt : ∀ ts, o ≠ .tup ts) : Od H0 F (upd H p o) p o := ⟨upd_same, w.nF, w.n0, nt⟩
theorem Od.other (w : Od H0 F H p ob) (ne : p ≠ q) : Od H0 F (upd H q o) p ob := ⟨(upd_ne ne).trans w.h, w.nF, w.n0, w.nt⟩
theorem Od.ne (w : Od H0 F H p ob) (hq : H q = none) : p ≠ q := ne_of_none w.h hq
theorem Od.gr (w : Od H0 F H p ob) (g : Gr M F H F' H') (m : ¬ M p) : Od H0 F' H' p ob :=
  ⟨g.keep _ _ m w.h, g.newL (by rw [w.h]; simp) w.nF (fun ts z => by rw [g.keep _ _ m w.h] at z; exact w.nt ts (Option.some.inj z)), w.n0, w.nt⟩
theorem Od.gr0 (w : Od H0 F H p ob) (g : Gr M0 F H F' H') : Od H0 F' H' p ob := w.gr g id
theorem Od.fz (w : Od H0 F H p ob) (ne : p ≠ q) : Od H0 (upd F q o) H p ob := ⟨w.h, (upd_ne ne).trans w.nF, w.n0, w.nt⟩
theorem Od.apart (w : Od H0 F H p ob) (k : Gr M0 H H F' H') : Od H0 F H' p ob := ⟨k.keep _ _ id w.h, w.nF, w.n0, w.nt⟩
theorem Od.adopt {ts : List V} (w : Od H0 F H p ob) (h : H q = some (.tup ts)) : Od H0 (upd F q (.tup ts)) H p ob :=
  have ne : p ≠ q := fun z => by subst z; rw [w.h] at h; exact w.nt ts (Option.some.inj h)
  ⟨w.h, (upd_ne ne).trans w.nF, w.n0, w.nt⟩
theorem Ow.adopt {ts : List V} (w : Ow H0 F H p ws) (h : H q = some (.tup ts)) : Ow H0 (upd F q (.tup ts)) H p ws :=
  have ne : p ≠ q := fun z => by subst z; rw [w.h] at h; cases h
  ⟨w.h, (upd_ne ne).trans w.nF, w.n0⟩
theorem BagAt.adopt {ts : List V} (a : BagAt F H B C b) (h : H q = some (.tup ts)) : BagAt (upd F q (.tup ts)) H B C b :=
  have n1 : B ≠ q := fun z => by subst z; rw [a.hB] at h; cases h
  have n2 : C ≠ q := fun z => by subst z; rw [a.hC] at h; cases h
  ⟨a.hB, a.hC, a.ne, (upd_ne n1).trans a.fB, (upd_ne n2).trans a.fC⟩
theorem BagAt2.adopt {ts : List V} (a : BagAt2 F H B C b2) (h : H q = some (.tup ts)) : BagAt2 (upd F q (.tup ts)) H B C b2 :=
  have n1 : B ≠ q := fun z => by subst z; rw [a.hB] at h; cases h
  have n2 : C ≠ q := fun z => by subst z; rw [a.hC] at h; cases h
  ⟨a.hB, a.hC, a.ne, (upd_ne n1).trans a.fB, (upd_ne n2).trans a.fC⟩
end

/-! ### tables of pairs -/
section
variable {α β γ : Type} [DecidableEq α]
def dval (xs : List (α × β)) (x : α) : Option β := (xs.find? fun p => decide (p.1 = x)).map (·.2)
def dput (xs : List (α × β)) (x : α) (y : β) : List (α × β) := if (dval xs x).isSome then xs.map (fun p => if p.1 = x then (p.1, y) else p) else xs ++ [(x, y)]
def dputO (xs : List (α × β)) (x : α) (y : β) : Option (List (α × β)) := if xs.length < sizeLine then some (dput xs x y) else none
theorem dputO_ok {xs r : List (α × β)} {x : α} {y : β} (h : dputO xs x y = some r) : xs.length < sizeLine ∧ dput xs x y = r := by
  unfold dputO at h
  split at h
  · next h1 => exact ⟨h1, Option.some.inj h⟩
  · cases h
theorem dval_nil (x : α) : dval ([] : List (α × β)) x = none := rfl
theorem dval_pos {p : α × β} {r : List (α × β)} {x : α} (e : p.1 = x) : dval (p :: r) x = some p.2 := by simp [dval, List.find?_cons, e]
theorem dval_neg {p : α × β} {r : List (α × β)} {x : α} (e : ¬ p.1 = x) : dval (p :: r) x = dval r x := by simp [dval, List.find?_cons, e]
theorem dput_len (xs : List (α × β)) (x : α) (y : β) : (dput xs x y).length ≤ xs.length + 1 := by
  unfold dput
  split
  · rw [List.length_map]; exact Nat.le_succ _
  · rw [List.length_append]; exact Nat.le_refl _
end

/-- things that are keys: ints, texts, tuples of these -/
class DK (α : Type) [Enc α] where
  Kt : Type
  dec : DecidableEq Kt
  ho : List (Kt × V) → HO
  k : α → Kt
  inj : ∀ {x y : α}, k x = k y → x = y
  ok : α → Prop
  okR : ∀ {K : PySem.W.Frag} {F : Hp} {v : V} {x : α}, R K F v x → ok x
  nt : ∀ kvs ts, ho kvs ≠ .tup ts
  mu : ∀ kvs, Mut (some (ho kvs))
  isD : ∀ {H : Hp} {p : Addr} {kvs : List (Kt × V)}, Rd H p (ho kvs) → IsD H p
  get : ∀ {K : PySem.W.Frag} {F H : Hp} {p : Addr} {y : V} {x : α} {kvs : List (Kt × V)}, Rd H p (ho kvs) → R K F y x → Same F H → DGet H p y (@valV Kt dec kvs (k x))
  put : ∀ {K : PySem.W.Frag} {F H : Hp} {p : Addr} {y v : V} {x : α} {kvs : List (Kt × V)}, H p = some (ho kvs) → R K F y x → Same F H → kvs.length < sizeLine → DPut H p y v (upd H p (ho (@putK Kt dec kvs (k x) v)))
instance {α : Type} [Enc α] [DK α] : DecidableEq (DK.Kt α) := DK.dec
instance : DK Int where
  Kt := Key
  dec := inferInstance
  ho := .dK
  k := Sum.inl
  inj := fun h => Sum.inl.inj h
  ok := fun _ => True
  okR := fun _ => trivial
  nt := fun _ _ z => nomatch z
  mu := fun _ => trivial
  isD := fun h => .inl ⟨_, h⟩
  get := fun h r s => by
    obtain rfl := R.int_v r
    exact .inl ⟨_, _, h, rfl, rfl⟩
  put := fun h r s hl => by
    obtain rfl := R.int_v r
    exact .inl ⟨_, _, h, rfl, hl, rfl⟩
instance : DK Str where
  Kt := Key
  dec := inferInstance
  ho := .dK
  k := Sum.inr
  inj := fun h => Sum.inr.inj h
  ok := GS
  okR := fun r => (R.str_v r).2
  nt := fun _ _ z => nomatch z
  mu := fun _ => trivial
  isD := fun h => .inl ⟨_, h⟩
  get := fun h r s => by
    obtain ⟨rfl, _⟩ := R.str_v r
    exact .inl ⟨_, _, h, rfl, rfl⟩
  put := fun h r s hl => by
    obtain ⟨rfl, _⟩ := R.str_v r
    exact .inl ⟨_, _, h, rfl, hl, rfl⟩
/-- a tuple of ints as a key -/
abbrev ikeys (ns : List Int) : List Key := ns.map Sum.inl
theorem ikeys_kV (ns : List Int) : (ikeys ns).map kV = ns.map V.int := by rw [ikeys, List.map_map]; rfl
theorem ik_tup {α : Type} [Enc α] [IK α] {K : PySem.W.Frag} {F : Hp} {v : V} {x : α} (r : R K F v x) : ∃ b, v = .ref b ∧ F b = some (.tup ((ikeys (IK.ks x)).map kV)) := by
  have r' : Rp K F v (.tuple ((IK.ks x).map .int)) := by rw [← IK.enc x]; exact r
  cases r' with
  | tup hs hl ha =>
    obtain rfl := rp_ints ha
    exact ⟨_, rfl, by rw [ikeys_kV]; exact hs⟩
theorem ikeys_inj : ∀ {a b : List Int}, ikeys a = ikeys b → a = b
  | [], [], _ => rfl
  | [], _ :: _, h => by cases h
  | _ :: _, [], h => by cases h
  | x :: a, y :: b, h => by
    have h' : Sum.inl x :: ikeys a = Sum.inl y :: ikeys b := h
    obtain ⟨h1, h2⟩ := List.cons.inj h'
    rw [Sum.inl.inj h1, ikeys_inj h2]
instance {α : Type} [Enc α] [IK α] : DK α where
  Kt := List Key
  dec := inferInstance
  ho := .dT
  k := fun x => ikeys (IK.ks x)
  inj := fun h => IK.inj _ _ (ikeys_inj h)
  ok := fun _ => True
  okR := fun _ => trivial
  nt := fun _ _ z => nomatch z
  mu := fun _ => trivial
  isD := fun h => .inr ⟨_, h⟩
  get := fun h r s => by
    obtain ⟨b, rfl, hb⟩ := ik_tup r
    exact .inr ⟨_, _, b, h, rfl, s _ _ hb, rfl⟩
  put := fun h r s hl => by
    obtain ⟨b, rfl, hb⟩ := ik_tup r
    exact .inr ⟨_, _, b, h, rfl, s _ _ hb, hl, rfl⟩

/-- the entries kvs stand for the pairs xs -/
def RD {α β : Type} [Enc α] [DK α] [Enc β] (K : PySem.W.Frag) (F : Hp) (kvs : List (DK.Kt α × V)) (xs : List (α × β)) : Prop :=
  kvs.map (·.1) = xs.map (fun p => DK.k p.1) ∧ RL K F (kvs.map (·.2)) (xs.map (·.2)) ∧ ∀ p ∈ xs, DK.ok p.1
section
variable {α β : Type} [Enc α] [DK α] [Enc β] {K : PySem.W.Frag} {F F' : Hp} {kvs : List (DK.Kt α × V)} {xs : List (α × β)}
theorem RD.nil : RD K F ([] : List (DK.Kt α × V)) ([] : List (α × β)) := ⟨rfl, RpA.nil, fun _ h => nomatch h⟩
theorem RD.up (h : RD K F kvs xs) (e : Same F F') : RD K F' kvs xs := ⟨h.1, RpA.up h.2.1 e, h.2.2⟩
theorem RD.len (h : RD K F kvs xs) : kvs.length = xs.length := by
  have := congrArg List.length h.1
  rwa [List.length_map, List.length_map] at this
theorem RD.cons_iff {q : DK.Kt α × V} {p : α × β} : RD K F (q :: kvs) (p :: xs) ↔ (q.1 = DK.k p.1 ∧ R K F q.2 p.2 ∧ DK.ok p.1) ∧ RD K F kvs xs := by
  constructor
  · rintro ⟨h1, h2, ho⟩
    obtain ⟨h3, h4⟩ := List.cons.inj h1
    cases h2 with
    | cons r rs => exact ⟨⟨h3, r, ho _ (List.mem_cons_self ..)⟩, h4, rs, fun p hp => ho p (List.mem_cons_of_mem _ hp)⟩
  · rintro ⟨⟨h3, r, o⟩, h4, rs, ho⟩
    refine ⟨by rw [List.map_cons, List.map_cons, h3, h4], RpA.cons r rs, fun p hp => ?_⟩
    rcases List.mem_cons.mp hp with rfl | hp
    · exact o
    · exact ho p hp
theorem RD.nil_l (h : RD K F kvs ([] : List (α × β))) : kvs = [] := List.eq_nil_of_length_eq_zero h.len
theorem RD.cons_l {p : α × β} (h : RD K F kvs (p :: xs)) : ∃ q qs, kvs = q :: qs := by
  cases kvs with
  | nil => exact absurd h.len (by simp)
  | cons q qs => exact ⟨q, qs, rfl⟩
variable [DecidableEq α]
theorem RD.val : ∀ {xs : List (α × β)} {kvs : List (DK.Kt α × V)}, RD K F kvs xs → ∀ x : α, (dval xs x = none ∧ valV kvs (DK.k x) = none) ∨ ∃ y v, dval xs x = some y ∧ valV kvs (DK.k x) = some v ∧ R K F v y
  | [], kvs, h, x => by
    obtain rfl := h.nil_l
    exact .inl ⟨rfl, rfl⟩
  | p :: xs, kvs, h, x => by
    obtain ⟨q, qs, rfl⟩ := h.cons_l
    obtain ⟨⟨h1, h2, ho⟩, h3⟩ := RD.cons_iff.mp h
    by_cases e : p.1 = x
    · exact .inr ⟨p.2, q.2, dval_pos e, valV_pos (by rw [h1, e]), h2⟩
    · have e2 : ¬ q.1 = DK.k x := fun z => e (DK.inj (h1.symm.trans z))
      rw [dval_neg e, valV_neg e2]
      exact RD.val h3 x
theorem RD.get (h : RD K F kvs xs) {x : α} {y : β} (e : dval xs x = some y) : ∃ v, valV kvs (DK.k x) = some v ∧ R K F v y := by
  rcases h.val x with ⟨z, _⟩ | ⟨y', v, z, e2, r⟩
  · rw [z] at e; cases e
  · rw [z] at e; cases e; exact ⟨v, e2, r⟩
theorem RD.is (h : RD K F kvs xs) (x : α) : (valV kvs (DK.k x)).isSome = (dval xs x).isSome := by
  rcases h.val x with ⟨z, z2⟩ | ⟨y', v, z, e2, r⟩
  · rw [z, z2]; rfl
  · rw [z, e2]; rfl
theorem RD.getD (h : RD K F kvs xs) (x : α) {z : V} {d : β} (r : R K F z d) : R K F ((valV kvs (DK.k x)).getD z) ((dval xs x).getD d) := by
  rcases h.val x with ⟨e, e2⟩ | ⟨y', v, e, e2, r2⟩
  · rw [e, e2]; exact r
  · rw [e, e2]; exact r2
theorem RD.getO (h : RD K F kvs xs) (x : α) : R K F ((valV kvs (DK.k x)).getD .non) (dval xs x) := by
  rcases h.val x with ⟨e, e2⟩ | ⟨y', v, e, e2, r2⟩
  · rw [e, e2]; exact Rp.non
  · rw [e, e2]; exact r2
theorem RD.app {us : List (DK.Kt α × V)} {ys : List (α × β)} (h : RD K F kvs xs) (h2 : RD K F us ys) : RD K F (kvs ++ us) (xs ++ ys) :=
  ⟨by rw [List.map_append, List.map_append, h.1, h2.1], by rw [List.map_append, List.map_append]; exact RL.app h.2.1 h2.2.1, fun p hp => (List.mem_append.mp hp).elim (h.2.2 p) (h2.2.2 p)⟩
theorem RD.repl (x : α) {y : β} {v : V} (r : R K F v y) : ∀ {xs : List (α × β)} {kvs : List (DK.Kt α × V)}, RD K F kvs xs → RD K F (kvs.map fun kv => if kv.1 = DK.k x then (kv.1, v) else kv) (xs.map fun p => if p.1 = x then (p.1, y) else p)
  | [], kvs, h => by
    obtain rfl := h.nil_l
    exact RD.nil
  | p :: xs, kvs, h => by
    obtain ⟨q, qs, rfl⟩ := h.cons_l
    obtain ⟨⟨h1, h2, ho⟩, h3⟩ := RD.cons_iff.mp h
    rw [List.map_cons, List.map_cons]
    refine RD.cons_iff.mpr ⟨?_, RD.repl x r h3⟩
    by_cases e : p.1 = x
    · rw [if_pos e, if_pos (by rw [h1, e])]; exact ⟨h1, r, ho⟩
    · rw [if_neg e, if_neg (fun z => e (DK.inj (h1.symm.trans z)))]; exact ⟨h1, h2, ho⟩
theorem RD.put (h : RD K F kvs xs) (x : α) (hx : DK.ok x) {y : β} {v : V} (r : R K F v y) : RD K F (putK kvs (DK.k x) v) (dput xs x y) := by
  have e : (kvs.any fun kv => decide (kv.1 = DK.k x)) = (dval xs x).isSome := by rw [valV_any]; exact h.is x
  unfold putK dput
  rw [e]
  by_cases q : (dval xs x).isSome = true
  · rw [if_pos q, if_pos q]; exact RD.repl x r h
  · rw [if_neg q, if_neg q]
    exact h.app (RD.cons_iff.mpr ⟨⟨rfl, r, hx⟩, RD.nil⟩)
omit [DecidableEq α] in
theorem RD.at : ∀ {xs : List (α × β)} {kvs : List (DK.Kt α × V)} {i : Nat} {q : DK.Kt α × V}, RD K F kvs xs → kvs[i]? = some q → ∃ p, xs[i]? = some p ∧ q.1 = DK.k p.1 ∧ R K F q.2 p.2 ∧ DK.ok p.1
  | [], kvs, i, q, h, e => by
    obtain rfl := h.nil_l
    simp at e
  | p :: xs, kvs, i, q, h, e => by
    obtain ⟨q', qs, rfl⟩ := h.cons_l
    obtain ⟨⟨h1, h2, ho⟩, h3⟩ := RD.cons_iff.mp h
    cases i with
    | zero =>
      rw [List.getElem?_cons_zero] at e
      cases e
      exact ⟨p, rfl, h1, h2, ho⟩
    | succ j =>
      rw [List.getElem?_cons_succ] at e
      rw [List.getElem?_cons_succ]
      exact RD.at h3 e
end

/-! ### rules -/
section
variable {X : Cx}
def rInDic : R2 := fun x y H Q => ∃ a o b, y = .ref a ∧ DGet H a x o ∧ o.isSome = b ∧ Q (.bl b) H
def rNotInDic : R2 := fun x y H Q => ∃ a o b, y = .ref a ∧ DGet H a x o ∧ o.isSome = b ∧ Q (.bl (!b)) H
theorem op_inDic (hu : X.A.units + 1 < cLine) : OpR X (compareOp .In) rInDic := by
  intro pins s σ H x y v u Q I rx ry ⟨a, o, b, e, g, e2, q⟩
  subst e e2
  obtain rfl : u = Value.ref a := ry
  exact d_in hu I g rx fun s1 I1 => ⟨.bl o.isSome, H, I1, rfl, q⟩
theorem op_notInDic (hu : X.A.units + 1 < cLine) : OpR X (compareOp .NotIn) rNotInDic := by
  intro pins s σ H x y v u Q I rx ry ⟨a, o, b, e, g, e2, q⟩
  subst e e2
  obtain rfl : u = Value.ref a := ry
  exact d_notIn hu I g rx fun s1 I1 => ⟨.bl (!o.isSome), H, I1, rfl, q⟩
/-- d.get(k), d.get(k, z): what comes is named -/
def tGet1 (td ty : TE) : TE := fun σ H Q => td σ H fun x H1 => ∃ a, x = .ref a ∧ IsD H1 a ∧ ty σ H1 fun y H2 => ∃ o r, DGet H2 a y o ∧ o.getD .non = r ∧ Q r H2
def tGet2 (td ty tx : TE) : TE := fun σ H Q => td σ H fun x H1 => ∃ a, x = .ref a ∧ IsD H1 a ∧ ty σ H1 fun y H2 => tx σ H2 fun z H3 => ∃ o r, DGet H3 a y o ∧ o.getD z = r ∧ Q r H3
theorem pe_get1 {o e : Expr} {apos cpos : Pos} {td ty : TE} (hu : X.A.units + 1 < cLine) (ho : PE X o td) (he : PE X e ty) (m : M1 X o "get" apos e cpos) : PE X (.Call (.Attribute o "get" apos) [e] [] cpos) (tGet1 td ty) := by
  refine ⟨fun pins s σ H Q I h => ?_⟩
  refine wpAny_Call_method m.base m.few m.line PySem.F.plainAttrs_dict PySem.F.slot_dict_get PySem.F.type_dict_get (thn (ho.run pins s σ H _ I h) fun u s1 ⟨x, H1, I1, rx, a, ex, d, q1⟩ => ?_)
  subst ex
  obtain rfl : u = Value.ref a := rx
  obtain ⟨t1, t2, _⟩ := isD_at I1 d
  refine ⟨t1, t2, ?_⟩
  rw [m.trees]
  refine Calls.callWith_builtin rfl (Calls.evalArgs_plain (Calls.spliced_cons (thn (he.run pins s1 σ H1 _ I1 q1) fun iv s2 ⟨y, H2, I2, ry, ov, r, g, e, q2⟩ => Calls.spliced_nil ?_)))
  subst e
  exact d_get1 hu I2 g ry fun w' s3 I3 rw' => ⟨_, H2, I3, rw', q2⟩
theorem pe_get2 {o e f : Expr} {apos cpos : Pos} {td ty tx : TE} (hu : X.A.units + 1 < cLine) (ho : PE X o td) (he : PE X e ty) (hf : PE X f tx) (m : M2 X o "get" apos e f cpos) : PE X (.Call (.Attribute o "get" apos) [e, f] [] cpos) (tGet2 td ty tx) := by
  refine ⟨fun pins s σ H Q I h => ?_⟩
  refine wpAny_Call_method m.base m.few m.line PySem.F.plainAttrs_dict PySem.F.slot_dict_get PySem.F.type_dict_get (thn (ho.run pins s σ H _ I h) fun u s1 ⟨x, H1, I1, rx, a, ex, d, q1⟩ => ?_)
  subst ex
  obtain rfl : u = Value.ref a := rx
  obtain ⟨t1, t2, _⟩ := isD_at I1 d
  refine ⟨t1, t2, ?_⟩
  rw [m.trees]
  refine Calls.callWith_builtin rfl (Calls.evalArgs_plain (Calls.spliced_cons (thn (he.run pins s1 σ H1 _ I1 q1) fun iv s2 ⟨y, H2, I2, ry, q2⟩ =>
    Calls.spliced_cons (thn (hf.run pins s2 σ H2 _ I2 q2) fun fv s3 ⟨z, H3, I3, rz, ov, r, g, e, q3⟩ => Calls.spliced_nil ?_))))
  subst e
  exact d_get2 hu I3 g ry rz fun w' s4 I4 rw' => ⟨_, H3, I4, rw', q3⟩
/-- {k: v}, k a tuple of ints and texts -/
def tDispT (tk tv : TE) : TE := fun σ H Q => ∀ p, H p = none → tk σ (upd H p (.dT [])) fun y H1 => tv σ H1 fun v H2 =>
  H2 p = some (.dT []) ∧ ∃ (b : Addr) (k : List Key), y = .ref b ∧ H2 b = some (.tup (k.map kV)) ∧ Q (.ref p) (upd H2 p (.dT [(k, v)]))
theorem pe_dispT {pos : Pos} {k v : Expr} {tk tv : TE} (hu : X.A.units < cLine) (hk : PE X k tk) (hv : PE X v tv) : PE X (.Dict [some k] [v] pos) (tDispT tk tv) := by
  refine ⟨fun pins s σ H Q I q => ?_⟩
  have hn := I.hok.fresh (Nat.le_refl s.heap.objs.size)
  have I1 := I.laid (a := s.heap.objs.size) (o := .dT []) (h' := s.heap.push { cls := .type "dict", data := .dict #[] }) (t' := s.toks) (fun _ _ q => Heap.get?_push_of_some _ q) (Nat.le_refl _) (dt_empty s.heap I.big)
  have sh := zip_pairTrees [some k] [v] X.env pos rfl rfl
  rw [arm_eval_Dict, sh, dictDisplay_pairs (pairTrees [some k] [v] X.env pos) (fun z => nomatch z) (by show 1 < 17; decide)]
  refine wpAny_bind (wpAny_standAt (wpAny_bind (wpAny_subDictH (knd := tupleKind (mixKind X.prog X.w)) hu (by show 1 ≤ 15; decide) ?_)))
  refine pairTrees_cons_walk (thn (hk.run pins _ σ _ _ I1 (q _ hn)) fun u s1 ⟨y, H1, I2, ry, q1⟩ => thn (hv.run pins s1 σ H1 _ I2 q1) fun w2 s2 ⟨y2, H2, I3, ry2, q2⟩ => pairTrees_nil_walk ?_)
  obtain ⟨e, b, ks, e1, hb, q3⟩ := q2
  subst e1
  obtain rfl : u = Value.ref b := ry
  obtain ⟨z, hd, xs, rel, dd⟩ := dt_of I3.hok e
  cases rel
  refine ⟨[(ks, b, w2)], ⟨rfl, rfl, key_of I3.hok hb, trivial⟩, dd, fun h' tk' dd' hs => wpAny_pure ?_⟩
  refine ⟨.ref s.heap.objs.size, _, ?_, rfl, q3⟩
  have he : ∃ q, h'.get? s.heap.objs.size = some q := let ⟨q, _, _, hq, _⟩ := dd'; ⟨q, hq⟩
  have neb : b ≠ s.heap.objs.size := ne_of hb e (fun z => nomatch z)
  refine d_write I3 (by rw [e]; exact True.intro) hs he ?_
  obtain ⟨o, es, ep, h1, h2, h3, h4, h5, h6⟩ := dd'
  refine ⟨by show 1 ≤ sizeLine; decide, hd, [(ks, b, w2)], .cons ⟨rfl, ?_, ry2⟩ .nil, o, es, ep, h1, h2, h3, h4, h6⟩
  show upd H2 _ _ b = _
  rw [upd_ne neb]
  exact hb
end

/-! ### walking -/
/-- the pairs of a locked dict with tuple keys, each a new tuple -/
def ItiT (d : Addr) (o : Obj) (kvs : List (List Key × V)) : It :=
  ⟨fun i H => H d = some (.frz o (.dT kvs)) ∧ i < kvs.length, fun i H x H' => ∃ T k v q, kvs[i]? = some (k, v) ∧ x = .ref T ∧ H T = none ∧ H q = some (.tup (k.map kV)) ∧ H' = upd H T (.tup [.ref q, v]), fun i H => H d = some (.frz o (.dT kvs)) ∧ kvs.length ≤ i⟩

section
variable {X : Cx} {pins : List (Addr × Obj)} {σ : L2.St} {H : Hp} {s : Shared} {d : Addr} {o : Obj}
theorem frzT2 {kvs : List (List Key × V)} (I : Inv X pins σ H s) (h : H d = some (.frz o (.dT kvs))) :
    (d == sysModules) = false ∧ s.heap.get? d = some o ∧ o.ExactDict ∧ ∃ (es : Array DictEntry) (ep : Nat), o.data = .dict es ep ∧ es.size = kvs.length ∧
      ∀ (i : Nat) (k : List Key) (v : V), kvs[i]? = some (k, v) → ∃ (en : DictEntry) (q : Addr), es[i]? = some en ∧ en.key = .ref q ∧ H q = some (.tup (k.map kV)) ∧ RelV v en.val := by
  obtain ⟨hd, z, hs, xs, pr, o', es, ep, ho, hx, hdt, he, _⟩ := I.hok d _ h
  rw [hd] at ho
  cases ho
  refine ⟨hs, hd, hx, es, ep, hdt, ?_, fun i k v e => ?_⟩
  · have l1 : es.size = xs.length := size_of_entries he
    have l2 : kvs.length = xs.length := Paired.length pr
    omega
  · obtain ⟨b, hb, e1, e2, e3⟩ := paired_get pr e
    have q := entry_at he i
    rw [hb] at q
    exact ⟨_, b.2.1, q, rfl, e2, e3⟩
end
section
variable {P : Program} {w : World} {K : PySem.W.Frag} {d : Addr} {o : Obj} {es : Array DictEntry} {ep : Nat}
theorem turn_itemsT {kvs : List (List Key × V)} {elts : List Expr} {kk : Nat} {tpos : Pos} (it : Addr) (hod : o.data = .dict es ep) :
    Turn P w K (.Tuple elts kk tpos) (ItiT d o kvs) [it] it (fun i h => ∃ ok ov, IsItemIter h it d i kvs.length ep ok ov) where
  mem := by simp
  obj := fun i h st b hb => by
    have e : b = it := by simpa using hb
    subst e
    obtain ⟨ok, ov, e⟩ := st
    exact ⟨_, e, fun v z => nomatch z⟩
  keep := fun i h h' st k => let ⟨ok, ov, e⟩ := st; ⟨ok, ov, k it (by simp) _ e⟩
  item := by
    intro X hP hw hK hc i pins s σ H E I hf st hg
    subst hP hw hK
    obtain ⟨hd, hi⟩ := hg
    obtain ⟨hs, hgd, hx, es', ep', hdt, hsz, ent⟩ := frzT2 I hd
    obtain ⟨rfl, rfl⟩ := dict_ep hod hdt
    obtain ⟨⟨k, v⟩, hkv⟩ : ∃ p, kvs[i]? = some p := ⟨kvs[i], List.getElem?_eq_getElem hi⟩
    obtain ⟨en, q, hen, hkey, hq, ru⟩ := ent i k v hkv
    obtain ⟨ok, ov, he⟩ := st
    rw [← hsz] at he
    have hlt : it < s.heap.objs.size := Heap.lt_size he
    have hi2 : i < es'.size := by omega
    have hen2 : es'[i] = en := by rw [Array.getElem?_eq_getElem hi2] at hen; exact Option.some.inj hen
    refine DT.nextI he ⟨o, hgd, hx, hdt⟩ hi2 fun h' ho hT hz hk => ?_
    rw [hen2] at ho hT
    refine ⟨_, rfl, wpAny_letOwnedTupleGo_items (s := { s with heap := h' }) ho fun h'' he' sb => ?_⟩
    have hT2 : h''.get? s.heap.objs.size = some { cls := .type "tuple", data := .seq #[en.key, en.val] } := (sb.2 _ (Nat.ne_of_gt hlt)).trans hT
    have new : ObjOk X.prog X.w (upd H s.heap.objs.size (.tup [.ref q, v])) h'' s.heap.objs.size (.tup [.ref q, v]) :=
      ⟨by show 2 ≤ sizeLine; decide, [en.key, en.val], .cons hkey (.cons ru .nil), ⟨_, hT2, rfl, _, rfl⟩⟩
    have I1 : Inv X pins σ (upd H s.heap.objs.size (.tup [.ref q, v])) { s with heap := h'' } :=
      I.turnedNew (t' := s.toks) (ch := [it]) (fun b ob hb e => (sb.2 b (by simpa using hb)).trans (hk b ob (by simpa using hb) e)) hf (Nat.le_refl _) new
    refine ⟨.ref s.heap.objs.size, _, I1, rfl, ⟨_, k, v, q, hkv, rfl, I.hok.fresh (Nat.le_refl _), hq, rfl⟩, ⟨en.key, en.val, ?_⟩, fun b hb => ?_⟩
    · rw [← hsz]; exact he'
    · have e : b = it := by simpa using hb
      rw [e, upd_ne (Nat.ne_of_lt hlt)]
      exact (hf it (by simp)).1
  done := by
    intro X hP hw hK hc i pins s σ H E I hf st hg
    subst hP hw hK
    obtain ⟨hd, hi⟩ := hg
    obtain ⟨f0, f1, f2, f3, f4, f5⟩ := hf it (by simp)
    obtain ⟨hs, hgd, hx, es', ep', hdt, hsz, ent⟩ := frzT2 I hd
    obtain ⟨rfl, rfl⟩ := dict_ep hod hdt
    obtain ⟨ok, ov, he⟩ := st
    rw [← hsz] at he
    exact DT.endI (I.ok.hd hc) he ⟨o, hgd, hx, hdt⟩ (by omega) fun h' eb => ⟨rfl, I.turned (t' := s.toks) (fun b ob hb e => eb b ob hb e) f0 f1 f3 f4 f5⟩
  self := fun A i s Q E st h => let ⟨_, _, e⟩ := st; PySem.W.kcp_self e h
end
def iItemsT (td : TE) : TI := fun σ H R => td σ H fun x H1 => ∃ d o kvs, x = .ref d ∧ H1 d = some (.frz o (.dT kvs)) ∧ R (ItiT d o kvs) H1
theorem pi_itemsT {X : Cx} {e : Expr} {td : TE} {apos cpos : Pos} {elts : List Expr} {kk : Nat} {tpos : Pos} (he : PE X e td) (hbase : attributeBase e "items" X.env (eval e X.env) = eval e X.env := by rfl) (hline : (apos.endLine == cpos.line) = true := by rfl) :
    PI X (.Tuple elts kk tpos) (.Call (.Attribute e "items" apos) [] [] cpos) (iItemsT td) := by
  refine ⟨fun pins s σ H R I h => ?_⟩
  refine wpAny_Call_method (T := "dict") (id := "dict.items") hbase rfl hline F.plainAttrs_dict F.slot_dict_items F.type_dict_items (thn (he.run pins s σ H _ I h) fun u s1 ⟨x, H1, I1, rx, d, o, kvs, ex, hd, q⟩ => ?_)
  subst ex
  obtain rfl : u = Value.ref d := rx
  obtain ⟨hs, hgd, hx, es, ep, hdt, hsz, ent⟩ := frzT2 I1 hd
  have hm : DT.Raw s1.heap d es ep := ⟨o, hgd, hx, hdt⟩
  refine ⟨hm.typeIs, fun b q => by cases q; exact ⟨o, hgd, hx.2.1⟩, ?_⟩
  have I2 : Inv X pins σ H1 { s1 with heap := s1.heap.push { cls := .type "dict_items", data := .fields #[.ref d] } } := I1.kept (t' := s1.toks) fun b ob q => Heap.get?_push_of_some _ q
  have fin : wpAny (model X.prog X.w) X.A (pyIter (.ref s1.heap.objs.size)) (PIE X pins σ (.Tuple elts kk tpos) R) X.xe { s1 with heap := s1.heap.push { cls := .type "dict_items", data := .fields #[.ref d] } } := by
    refine DT.iterI (d := d) ⟨_, Heap.get?_push_size _ rfl, rfl, rfl⟩ (hm.push _) (pi_one (tk := s1.toks) I2 _ (turn_itemsT _ hdt) ⟨.none, .none, ?_⟩ q)
    rw [← hsz]
    exact Heap.get?_push_size _ rfl
  show wpAny _ _ (callWith cpos (.builtin "dict.items") [.ref d] [] []) _ X.xe s1
  exact method_meetsIn F.slot_dict_items F.entry_dict_items rfl (PySem.evalArgs_none ⟨rfl, hm.typeIs, F.args_dict_items_1 _, _, DT.meetsItems (es := es) (ep := ep) hs, hm, fin⟩)

/-- the kinds of keys, walked: what a turn gives -/
def YKeyT (kvs : List (List Key × V)) : Nat → Hp → V → Hp → Prop := fun i H x H' => H' = H ∧ ∃ (k : List Key) (v : V) (q : Addr), kvs[i]? = some (k, v) ∧ x = .ref q ∧ H q = some (.tup (k.map kV))
def YKeyK (kvs : List (Key × V)) : Nat → Hp → V → Hp → Prop := fun i H x H' => H' = H ∧ ∃ k v, kvs[i]? = some (k, v) ∧ x = kV k
def YItT (kvs : List (List Key × V)) : Nat → Hp → V → Hp → Prop := fun i H x H' => ∃ T k v q, kvs[i]? = some (k, v) ∧ x = .ref T ∧ H T = none ∧ H q = some (.tup (k.map kV)) ∧ H' = upd H T (.tup [.ref q, v])
theorem walk_keysT {d : Addr} {o : Obj} {kvs : List (List Key × V)} : Walk (Itkt d o kvs) kvs.length (fun H => H d = some (.frz o (.dT kvs))) (YKeyT kvs) :=
  ⟨fun i H hi h => ⟨h, hi⟩, fun H h => ⟨h, Nat.le_refl _⟩, fun i H x H' hi h y => y⟩
theorem walk_keysK {d : Addr} {o : Obj} {kvs : List (Key × V)} : Walk (Itk d o kvs) kvs.length (fun H => H d = some (.frz o (.dK kvs))) (YKeyK kvs) :=
  ⟨fun i H hi h => ⟨h, hi⟩, fun H h => ⟨h, Nat.le_refl _⟩, fun i H x H' hi h y => y⟩
theorem walk_itemsT {d : Addr} {o : Obj} {kvs : List (List Key × V)} : Walk (ItiT d o kvs) kvs.length (fun H => H d = some (.frz o (.dT kvs))) (YItT kvs) :=
  ⟨fun i H hi h => ⟨h, hi⟩, fun H h => ⟨h, Nat.le_refl _⟩, fun i H x H' hi h y => y⟩
/-- for k in d | a comprehension over d's keys, d locked -/
def iKeysT (td : TE) : TI := fun σ H R => td σ H fun x H1 => ∃ d o kvs, x = .ref d ∧ H1 d = some (.frz o (.dT kvs)) ∧ R (Itkt d o kvs) H1
def iKeysK (td : TE) : TI := fun σ H R => td σ H fun x H1 => ∃ d o kvs, x = .ref d ∧ H1 d = some (.frz o (.dK kvs)) ∧ R (Itk d o kvs) H1
section
variable {X : Cx} {tg e : Expr} {td : TE}
theorem pi_keysT (he : PE X e td) : PI X tg e (iKeysT td) := by
  refine ⟨fun pins s σ H R I h => ?_⟩
  refine thn (he.run pins s σ H _ I h) fun u s1 ⟨x, H1, I1, rx, d, o, kvs, ex, hd, q⟩ => ?_
  subst ex
  obtain rfl : u = Value.ref d := rx
  obtain ⟨hs, hgd, hx, es, ep, hdt, hsz, ent⟩ := I1.frzT hd
  refine iter_keys hs hgd hx hdt (pi_one (tk := s1.toks) I1 _ (turn_keysT _ hdt) ⟨_, Heap.get?_push_size _ rfl, rfl, ?_⟩ q)
  rw [hsz] <;> rfl
theorem pi_keysK (he : PE X e td) : PI X tg e (iKeysK td) := by
  refine ⟨fun pins s σ H R I h => ?_⟩
  refine thn (he.run pins s σ H _ I h) fun u s1 ⟨x, H1, I1, rx, d, o, kvs, ex, hd, q⟩ => ?_
  subst ex
  obtain rfl : u = Value.ref d := rx
  obtain ⟨hs, hgd, hx, es, ep, vs, hdt, hsz, kv, hm⟩ := I1.frzK hd
  refine iter_keys hs hgd hx hdt (pi_one (tk := s1.toks) I1 _ (turn_keys _ hdt) ⟨_, Heap.get?_push_size _ rfl, rfl, ?_⟩ q)
  rw [hsz] <;> rfl
end
section
variable {g : TG} {tt : TT} {te : TE} {tb : TS} {D : Ends} {vs : List Nat} {σ : L2.St} {H1 : Hp} {Dl d : Addr} {o : Obj} {Qd : Hp → Prop}
theorem lc_keysT {kvs : List (List Key × V)} (Pv : Nat → Hp → Prop) (h0 : Pv 0 (upd H1 Dl (.lst []))) (hG : ∀ i H, i ≤ kvs.length → Pv i H → H d = some (.frz o (.dT kvs)))
    (hs : ∀ i k v q H, kvs[i]? = some (k, v) → H q = some (.tup (k.map kV)) → Pv i H → g (.ref q) (wipe σ vs) H fun σ2 H2 => wipe σ2 vs = wipe σ vs ∧ tt σ2 H2 fun b H3 =>
      if b = true then te σ2 H3 fun y H4 => ∃ acc, H4 Dl = some (.lst acc) ∧ acc.length < sizeLine ∧ Pv (i + 1) (upd H4 Dl (.lst (acc ++ [y]))) else Pv (i + 1) H3) (hd : ∀ H, Pv kvs.length H → Qd H) :
    ∃ W : Nat → Nat → Hp → Prop, (∃ m, W 0 m (upd H1 Dl (.lst []))) ∧ ∀ i m H, W i m H →
      ((Itkt d o kvs).stop i H ∧ Qd H) ∨ ((Itkt d o kvs).go i H ∧ ∃ Nx : Hp → Prop, (∀ H', Nx H' → ∃ m', m' < m ∧ W (i + 1) m' H') ∧ ∀ x H', (Itkt d o kvs).yld i H x H' → g x (wipe σ vs) H' fun σ2 H2 => wipe σ2 vs = wipe σ vs ∧ tt σ2 H2 fun b H3 =>
        if b = true then te σ2 H3 fun y H4 => ∃ acc, H4 Dl = some (.lst acc) ∧ acc.length < sizeLine ∧ Nx (upd H4 Dl (.lst (acc ++ [y]))) else Nx H3) :=
  lc_it walk_keysT Pv h0 hG (fun i x H H' hi p ⟨e1, k, v, q, e2, e3, e4⟩ => by subst e1 e3; exact hs i k v q _ e2 e4 p) hd
theorem lc_keysK {kvs : List (Key × V)} (Pv : Nat → Hp → Prop) (h0 : Pv 0 (upd H1 Dl (.lst []))) (hG : ∀ i H, i ≤ kvs.length → Pv i H → H d = some (.frz o (.dK kvs)))
    (hs : ∀ i k v H, kvs[i]? = some (k, v) → Pv i H → g (kV k) (wipe σ vs) H fun σ2 H2 => wipe σ2 vs = wipe σ vs ∧ tt σ2 H2 fun b H3 =>
      if b = true then te σ2 H3 fun y H4 => ∃ acc, H4 Dl = some (.lst acc) ∧ acc.length < sizeLine ∧ Pv (i + 1) (upd H4 Dl (.lst (acc ++ [y]))) else Pv (i + 1) H3) (hd : ∀ H, Pv kvs.length H → Qd H) :
    ∃ W : Nat → Nat → Hp → Prop, (∃ m, W 0 m (upd H1 Dl (.lst []))) ∧ ∀ i m H, W i m H →
      ((Itk d o kvs).stop i H ∧ Qd H) ∨ ((Itk d o kvs).go i H ∧ ∃ Nx : Hp → Prop, (∀ H', Nx H' → ∃ m', m' < m ∧ W (i + 1) m' H') ∧ ∀ x H', (Itk d o kvs).yld i H x H' → g x (wipe σ vs) H' fun σ2 H2 => wipe σ2 vs = wipe σ vs ∧ tt σ2 H2 fun b H3 =>
        if b = true then te σ2 H3 fun y H4 => ∃ acc, H4 Dl = some (.lst acc) ∧ acc.length < sizeLine ∧ Nx (upd H4 Dl (.lst (acc ++ [y]))) else Nx H3) :=
  lc_it walk_keysK Pv h0 hG (fun i x H H' hi p ⟨e1, k, v, e2, e3⟩ => by subst e1 e3; exact hs i k v _ e2 p) hd
theorem lc_itemsT {kvs : List (List Key × V)} (Pv : Nat → Hp → Prop) (h0 : Pv 0 (upd H1 Dl (.lst []))) (hG : ∀ i H, i ≤ kvs.length → Pv i H → H d = some (.frz o (.dT kvs)))
    (hs : ∀ i k v q T H, kvs[i]? = some (k, v) → H q = some (.tup (k.map kV)) → H T = none → Pv i H → g (.ref T) (wipe σ vs) (upd H T (.tup [.ref q, v])) fun σ2 H2 => wipe σ2 vs = wipe σ vs ∧ tt σ2 H2 fun b H3 =>
      if b = true then te σ2 H3 fun y H4 => ∃ acc, H4 Dl = some (.lst acc) ∧ acc.length < sizeLine ∧ Pv (i + 1) (upd H4 Dl (.lst (acc ++ [y]))) else Pv (i + 1) H3) (hd : ∀ H, Pv kvs.length H → Qd H) :
    ∃ W : Nat → Nat → Hp → Prop, (∃ m, W 0 m (upd H1 Dl (.lst []))) ∧ ∀ i m H, W i m H →
      ((ItiT d o kvs).stop i H ∧ Qd H) ∨ ((ItiT d o kvs).go i H ∧ ∃ Nx : Hp → Prop, (∀ H', Nx H' → ∃ m', m' < m ∧ W (i + 1) m' H') ∧ ∀ x H', (ItiT d o kvs).yld i H x H' → g x (wipe σ vs) H' fun σ2 H2 => wipe σ2 vs = wipe σ vs ∧ tt σ2 H2 fun b H3 =>
        if b = true then te σ2 H3 fun y H4 => ∃ acc, H4 Dl = some (.lst acc) ∧ acc.length < sizeLine ∧ Nx (upd H4 Dl (.lst (acc ++ [y]))) else Nx H3) :=
  lc_it walk_itemsT Pv h0 hG (fun i x H H' hi p ⟨T, k, v, q, e2, e3, e4, e5, e6⟩ => by subst e3 e6; exact hs i k v q T _ e2 e5 e4 p) hd
theorem for_keysT {kvs : List (List Key × V)} {H : Hp} (Pv : Nat → L2.St → Hp → Prop) (h0 : Pv 0 σ H) (hG : ∀ i σ H, i ≤ kvs.length → Pv i σ H → H d = some (.frz o (.dT kvs)))
    (hs : ∀ i k v q σ H, kvs[i]? = some (k, v) → H q = some (.tup (k.map kV)) → Pv i σ H → g (.ref q) σ H fun σ2 H2 => tb { D with nx := Pv (i + 1), ct := Pv (i + 1), bk := D.nx } σ2 H2) (hd : ∀ σ H, Pv kvs.length σ H → D.nx σ H) :
    ∃ W : Nat → Nat → L2.St → Hp → Prop, (∃ m, W 0 m σ H) ∧ ∀ i m σ H, W i m σ H →
      ((Itkt d o kvs).stop i H ∧ D.nx σ H) ∨ ((Itkt d o kvs).go i H ∧ ∃ N : L2.St → Hp → Prop, (∀ σ' H', N σ' H' → ∃ m', m' < m ∧ W (i + 1) m' σ' H') ∧ ∀ x H', (Itkt d o kvs).yld i H x H' → g x σ H' fun σ2 H2 => tb { D with nx := N, ct := N, bk := D.nx } σ2 H2) :=
  for_it walk_keysT Pv h0 hG (fun i x σ H H' hi p ⟨e1, k, v, q, e2, e3, e4⟩ => by subst e1 e3; exact hs i k v q σ _ e2 e4 p) hd
end
/-- the key of a turn, as a thing -/
theorem ik_of {α : Type} [Enc α] [IK α] {K : PySem.W.Frag} {F : Hp} {b : Addr} {x : α} (h : F b = some (.tup ((ikeys (IK.ks x)).map kV))) : R K F (.ref b) x := by
  show Rp K F _ (Enc.d x)
  rw [IK.enc x]
  rw [ikeys_kV] at h
  refine .tup h (by rw [List.length_map]; exact Nat.le_trans (IK.few x) (by decide)) ?_
  generalize IK.ks x = ns
  induction ns with
  | nil => exact .nil
  | cons n ns ih => exact .cons (.int n) ih
theorem RD.re {α β : Type} [Enc α] [DK α] [Enc β] {K : PySem.W.Frag} {F : Hp} {kvs : List (DK.Kt α × V)} {xs ys : List (α × β)} (e : xs = ys) (h : RD K F kvs xs) : RD K F kvs ys := e ▸ h
theorem RD.keyT {α β : Type} [Enc α] [IK α] [Enc β] {K : PySem.W.Frag} {F : Hp} {kvs : List (List Key × V)} {xs : List (α × β)} {i : Nat} {k : List Key} {v : V} (h : RD (α := α) K F kvs xs) (e : kvs[i]? = some (k, v)) :
    ∃ x y, xs[i]? = some (x, y) ∧ (xs.map Prod.fst)[i]? = some x ∧ k = ikeys (IK.ks x) ∧ R K F v y := by
  obtain ⟨p, e1, e2, r, _⟩ := RD.at h e
  refine ⟨p.1, p.2, e1, by rw [List.getElem?_map, e1]; rfl, e2, r⟩
theorem RD.lenk {α β : Type} [Enc α] [DK α] [Enc β] {K : PySem.W.Frag} {F : Hp} {kvs : List (DK.Kt α × V)} {xs : List (α × β)} (h : RD K F kvs xs) : kvs.length = (xs.map Prod.fst).length := by rw [List.length_map]; exact h.len
theorem RD.one {α β : Type} [Enc α] [DK α] [Enc β] {K : PySem.W.Frag} {F : Hp} (x : α) (hx : DK.ok x) {y : β} {v : V} (r : R K F v y) : RD K F [(DK.k x, v)] [(x, y)] := RD.cons_iff.mpr ⟨⟨rfl, r, hx⟩, RD.nil⟩
theorem RD.keyI {β : Type} [Enc β] {K : PySem.W.Frag} {F : Hp} {kvs : List (Key × V)} {xs : List (Int × β)} {i : Nat} {k : Key} {v : V} (h : RD (α := Int) K F kvs xs) (e : kvs[i]? = some (k, v)) :
    ∃ x y, xs[i]? = some (x, y) ∧ (xs.map Prod.fst)[i]? = some x ∧ k = Sum.inl x ∧ R K F v y := by
  obtain ⟨p, e1, e2, r, _⟩ := RD.at h e
  exact ⟨p.1, p.2, e1, by rw [List.getElem?_map, e1]; rfl, e2, r⟩
theorem dput_le {α β : Type} [Enc α] [DK α] [Enc β] [DecidableEq α] {K : PySem.W.Frag} {F : Hp} {kvs : List (DK.Kt α × V)} {xs : List (α × β)} (h : RD K F kvs xs) {x : α} {v : V} (hl : xs.length < sizeLine) : (putK kvs (DK.k x) v).length ≤ sizeLine := by
  have := length_putK kvs (DK.k x) v
  rw [h.len] at this
  omega
theorem RD.keyS {β : Type} [Enc β] {K : PySem.W.Frag} {F : Hp} {kvs : List (Key × V)} {xs : List (Str × β)} {i : Nat} {k : Key} {v : V} (h : RD (α := Str) K F kvs xs) (e : kvs[i]? = some (k, v)) :
    ∃ x y, xs[i]? = some (x, y) ∧ (xs.map Prod.fst)[i]? = some x ∧ k = Sum.inr x ∧ R K F v y ∧ GS x := by
  obtain ⟨p, e1, e2, r, o⟩ := RD.at h e
  exact ⟨p.1, p.2, e1, by rw [List.getElem?_map, e1]; rfl, e2, r, o⟩
end G
/-! My base, part 24: lists of tuples of ints, sorted. -/
namespace G
open PySem PySem.Spec PyProof.Rows L2 TL
section
variable {α : Type} [Enc α] [IK α]
abbrev itZ (ns : List Int) : List (Int ⊕ List Nat) := ns.map Sum.inl
theorem itZ_inj : ∀ {a b : List Int}, itZ a = itZ b → a = b
  | [], [], _ => rfl
  | [], _ :: _, h => by cases h
  | _ :: _, [], h => by cases h
  | x :: a, y :: b, h => by
    have h' : Sum.inl x :: itZ a = Sum.inl y :: itZ b := h
    obtain ⟨h1, h2⟩ := List.cons.inj h'
    rw [Sum.inl.inj h1, itZ_inj h2]
def ltK (a b : α) : Bool := lexLt itemOrd (itZ (IK.ks a)) (itZ (IK.ks b))
def leK (a b : α) : Bool := !ltK b a
def sortK (xs : List α) : List α := xs.mergeSort leK
theorem leK_trans (a b c : α) (h1 : leK a b = true) (h2 : leK b c = true) : leK a c = true := by
  unfold leK at *
  rw [Bool.not_eq_true'] at *
  exact KeyOrd.kle_trans (O := listOrd itemOrd) (show (listOrd itemOrd).kle (itZ (IK.ks a)) (itZ (IK.ks b)) from h1) h2
theorem leK_total (a b : α) : (leK a b || leK b a) = true := by
  unfold leK
  cases h : ltK b a with
  | false => rfl
  | true =>
    have : ltK a b = false := KeyOrd.klt_asymm (O := listOrd itemOrd) h
    rw [this]; rfl
theorem sortK_perm (xs : List α) : (sortK xs).Perm xs := List.mergeSort_perm _ _
theorem sortK_sorted (xs : List α) : (sortK xs).Pairwise fun a b => leK a b = true := List.pairwise_mergeSort leK_trans leK_total xs
theorem sortK_len (xs : List α) : (sortK xs).length = xs.length := (sortK_perm xs).length_eq
theorem leK_anti {a b : α} (h1 : leK a b = true) (h2 : leK b a = true) : a = b := by
  unfold leK at *
  rw [Bool.not_eq_true'] at *
  exact IK.inj _ _ (itZ_inj ((listOrd itemOrd).total _ _ h2 h1))
theorem sortK_uniq {xs ys : List α} (h : ys.Perm xs) (h2 : ys.Pairwise fun a b => leK a b = true) : sortK xs = ys :=
  ((sortK_perm xs).trans h.symm).eq_of_pairwise (le := fun a b => leK a b = true) (fun a b _ _ h3 h4 => leK_anti h3 h4) (sortK_sorted xs) h2
theorem ik_same {K : PySem.W.Frag} {H : Hp} {v : V} {x y : α} (h1 : R K H v x) (h2 : R K H v y) : x = y := by
  obtain ⟨b, rfl, hb⟩ := ik_tup h1
  obtain ⟨b', e, hb'⟩ := ik_tup h2
  cases e
  rw [hb] at hb'
  rw [ikeys_kV, ikeys_kV] at hb'
  have e1 := Option.some.inj hb'
  have e2 : (IK.ks x).map V.int = (IK.ks y).map V.int := by injection e1
  refine IK.inj _ _ ?_
  generalize IK.ks x = a at e2
  generalize IK.ks y = b at e2
  clear hb hb' e1 h1 h2
  induction a generalizing b with
  | nil => cases b with
    | nil => rfl
    | cons _ _ => cases e2
  | cons p a ih => cases b with
    | nil => cases e2
    | cons q b =>
      rw [List.map_cons, List.map_cons] at e2
      obtain ⟨h1, h2⟩ := List.cons.inj e2
      injection h1 with h1
      rw [h1, ih b h2]
open Classical in
noncomputable def keyT [Inhabited α] (K : PySem.W.Frag) (H : Hp) (v : V) : α := if h : ∃ x : α, R K H v x then h.choose else default
theorem keyT_spec [Inhabited α] {K : PySem.W.Frag} {H : Hp} {v : V} {x : α} (h : R K H v x) : keyT K H v = x := by
  unfold keyT
  rw [dif_pos ⟨x, h⟩]
  exact ik_same (Exists.choose_spec (⟨x, h⟩ : ∃ x : α, R K H v x)) h
theorem tupItems_ints : ∀ (i : Nat) {ns : List Int} {vs : List Value}, Vals (ns.map V.int) vs → tupItems (fun _ => false) i vs = some (itZ ns)
  | i, [], _, r => by cases r; rfl
  | i, n :: ns, _, r => by
    rw [List.map_cons] at r
    cases r with
    | cons h t =>
      obtain ⟨tk, rfl⟩ := h
      show (if false = true then none else (tupItems (fun _ => false) (i + 1) _).map (Sum.inl n :: ·)) = _
      rw [if_neg Bool.false_ne_true, tupItems_ints (i + 1) t]
      rfl
def rSortedTK (α : Type) [Enc α] [IK α] (K : PySem.W.Frag) : List V → Hp → VK → Prop := fun vs H Q => ∃ (a : Addr) (xs : List V) (ds : List α), vs = [V.ref a] ∧ SqL K H a xs ∧ RL K H xs ds ∧
  ∀ (ys : List V) (p : Addr), ys.length = xs.length → (∀ F, RL K F xs ds → RL K F ys (sortK ds)) → H p = none → Q (.ref p) (upd H p (.lst ys))
theorem kkC {h : Heap} {ps : Array Keyed} {i : Nat} {p : Keyed} (e : ps[i]? = some p) : KK (G.tupKindC h (fun _ => false)) ps i = (G.tupKeyC h (fun _ => false) p.1).getD [] := by
  unfold KK
  rw [e]
theorem cr_sortedTK {X : Cx} [Inhabited α] : CallR X (.builtin "sorted") (rSortedTK α X.K) := by
  intro pins s σ H vs us Q I r h
  obtain ⟨a, xs, ds, rfl, hs, hA, q⟩ := h
  have hlen : xs.length = ds.length := RL.len hA
  have hkey : ∀ i v x, xs[i]? = some v → ds[i]? = some x → keyT X.K H v = x := fun i v x hv hx => by
    obtain ⟨x', hx', r⟩ := RL.get hA hv
    rw [hx] at hx'
    cases hx'
    exact keyT_spec r
  have hmem : ∀ v ∈ xs, R X.K H v (keyT X.K H v : α) := fun v hv => by
    obtain ⟨i, hi, rfl⟩ := List.getElem_of_mem hv
    obtain ⟨x, hx, r⟩ := RL.get hA (List.getElem?_eq_getElem hi)
    rw [keyT_spec r]
    exact r
  obtain ⟨its, rv, hl, hz⟩ := I.list hs
  obtain ⟨u, rfl, ru⟩ := vals1 r
  obtain rfl : u = Value.ref a := ru
  obtain ⟨e1, e2⟩ := refs_back rv fun x m => by
    obtain ⟨b, e, _⟩ := ik_tup (hmem x m)
    exact ⟨b, e⟩
  have hin : ∀ v ∈ its, backV v ∈ xs := fun v hv => by rw [e1]; exact List.mem_map.mpr ⟨_, hv, rfl⟩
  have hobj : ∀ v ∈ its, ∃ (t : Addr) (o : Obj) (its2 : List Value) (n : Nat), v = .ref t ∧ s.heap.get? t = some o ∧ o.cls = .type "tuple" ∧ o.data = .seq its2.toArray n ∧ Vals ((IK.ks (keyT X.K H (backV v) : α)).map V.int) its2 := fun v hv => by
    obtain ⟨t, rfl⟩ := e2 v hv
    obtain ⟨b, e, hb⟩ := ik_tup (hmem _ (hin _ hv))
    have e' : V.ref t = V.ref b := e
    cases e'
    rw [ikeys_kV] at hb
    obtain ⟨_, its2, r2, o, ho, hc, n, hd⟩ := (show ObjOk X.prog X.w H s.heap t (.tup _) from I.hok t _ hb)
    exact ⟨t, o, its2, n, rfl, ho, hc, hd, r2⟩
  have hkC : ∀ v ∈ its, G.tupKeyC s.heap (fun _ => false) v = some (itZ (IK.ks (keyT X.K H (backV v) : α))) := fun v hv => by
    obtain ⟨t, o, its2, n, rfl, ho, hc, hd, r2⟩ := hobj v hv
    have hi := tupItems_ints 0 r2
    have h1 : G.isTupObj s.heap (.ref t) = true := by simp [G.isTupObj, ho, hc]
    have h2 : tupKey s.heap (fun _ => false) (.ref t) = some (itZ (IK.ks (keyT X.K H (backV (.ref t)) : α))) := by
      simp only [tupKey, ho, hd]
      exact hi
    unfold G.tupKeyC
    rw [if_pos h1]
    exact h2
  have hT : ∃ fs, TupsOf s.heap (fun _ => false) its fs := by
    have go : ∀ l : List Value, (∀ v ∈ l, v ∈ its) → ∃ fs, TupsOf s.heap (fun _ => false) l fs := fun l => by
      induction l with
      | nil => exact fun _ => ⟨[], .nil⟩
      | cons v l ih =>
        intro hh
        obtain ⟨fs, t⟩ := ih fun u hu => hh u (List.mem_cons_of_mem _ hu)
        obtain ⟨t', o, its2, n, rfl, ho, hc, hd, r2⟩ := hobj v (hh v (List.mem_cons_self ..))
        have hp := IK.pos (keyT X.K H (backV (.ref t')) : α)
        generalize IK.ks (keyT X.K H (backV (.ref t')) : α) = ns at hp r2
        cases ns with
        | nil => exact absurd hp (by simp)
        | cons m ns =>
          rw [List.map_cons] at r2
          cases r2 with
          | @cons _ u1 _ us1 h1 t1 =>
            obtain ⟨tk, rfl⟩ := h1
            exact ⟨_, .cons ⟨t', o, _, n, rfl, ho, hc, hd, by simp, fun _ => ⟨m, tk, rfl⟩, fun z => nomatch z⟩ t⟩
    exact go its fun _ h => h
  obtain ⟨fs, hT⟩ := hT
  refine G.sorted_tups hl.isList hT (fun v hv => ⟨_, hkC v hv⟩) (by rw [← rv.length]; exact hz) fun st' p1 p2 _ => ?_
  have hpair : ∀ p ∈ (arrOf st').toList, p.1 = p.2 ∧ p.1 ∈ its := fun p hp => by
    have : p ∈ (pairsOf its).toList := p1.toList.mem_iff.mp hp
    rw [pairsOf_toList] at this
    exact mem_zip_self this
  have hperm : ((arrOf st').map (·.2)).toList.Perm its := by
    rw [Array.toList_map]
    have z := p1.toList.map Prod.snd
    rw [pairsOf_toList, List.map_snd_zip (Nat.le_refl _)] at z
    exact z
  obtain ⟨out, hout⟩ : ∃ out : Array Value, (arrOf st').map (·.2) = out := ⟨_, rfl⟩
  have hsz : (arrOf st').size = its.length := by
    have := p1.size_eq
    rw [this, pairsOf_size]
  have h3 : ∀ u ∈ out.toList, ∃ a, u = Value.ref a := fun u hu => e2 u ((hout ▸ hperm).mem_iff.mp hu)
  have hds : xs.map (keyT X.K H : V → α) = ds := List.ext_getElem? fun i => by
    rw [List.getElem?_map]
    by_cases hi : i < xs.length
    · rw [List.getElem?_eq_getElem hi, List.getElem?_eq_getElem (by omega)]
      exact congrArg some (hkey i xs[i] (ds[i]'(by omega)) (List.getElem?_eq_getElem hi) (List.getElem?_eq_getElem (by omega)))
    · rw [List.getElem?_eq_none (by omega), List.getElem?_eq_none (by omega)]
      rfl
  have hb : (out.toList.map backV).Perm xs := by
    rw [e1, ← hout]
    exact hperm.map _
  have hso : sortK ds = (out.toList.map backV).map (keyT X.K H : V → α) := by
    refine sortK_uniq (by rw [← hds]; exact hb.map _) ?_
    rw [List.map_map, ← hout, Array.toList_map, List.map_map]
    refine List.pairwise_iff_getElem.mpr fun i j hi hj hij => ?_
    rw [List.length_map] at hi hj
    rw [Array.length_toList] at hi hj
    have g := p2 i j (Nat.le_of_lt hij) (by rw [← p1.size_eq]; exact hj)
    have gi : (arrOf st')[i]? = some (arrOf st')[i] := Array.getElem?_eq_getElem hi
    have gj : (arrOf st')[j]? = some (arrOf st')[j] := Array.getElem?_eq_getElem hj
    rw [kkC gi, kkC gj] at g
    obtain ⟨a1, a2⟩ := hpair (arrOf st')[i] (by simp)
    obtain ⟨b1, b2⟩ := hpair (arrOf st')[j] (by simp)
    rw [hkC _ a2, hkC _ b2] at g
    rw [List.getElem_map, List.getElem_map, Array.getElem_toList, Array.getElem_toList]
    unfold leK
    rw [Bool.not_eq_true']
    show lexLt itemOrd (itZ (IK.ks (keyT X.K H (backV (arrOf st')[j].2) : α))) (itZ (IK.ks (keyT X.K H (backV (arrOf st')[i].2) : α))) = false
    rw [← a1, ← b1]
    exact g
  obtain ⟨ep, he'⟩ := sortedAll_at s.heap its out
  have hlen2 : (out.toList.map backV).length ≤ sizeLine := by rw [hb.length_eq]; exact hz
  rw [hout]
  refine ⟨.ref _, upd H (s.heap.objs.size + 1) (.lst (out.toList.map backV)), I.laid (t' := s.toks) (fun _ _ => sortedAll_old) (Nat.le_succ _) ⟨hlen2, out.toList, ep, vals_back h3, he'⟩, rfl, q _ _ hb.length_eq (fun F hF => ?_) (I.hok.fresh (Nat.le_succ _))⟩
  rw [hso]
  have hall : ∀ v ∈ out.toList.map backV, R X.K F v (keyT X.K H v : α) := fun v hv => by
    obtain ⟨i, hi, rfl⟩ := List.getElem_of_mem (hb.mem_iff.mp hv)
    obtain ⟨x, hx, rx⟩ := RL.get hF (List.getElem?_eq_getElem hi)
    rw [hkey i xs[i] x (List.getElem?_eq_getElem hi) hx]
    exact rx
  have go : ∀ l : List V, (∀ v ∈ l, R X.K F v (keyT X.K H v : α)) → RL X.K F l (l.map (keyT X.K H : V → α)) := fun l => by
    induction l with
    | nil => exact fun _ => .nil
    | cons v l ih => exact fun h => .cons (h v (List.mem_cons_self ..)) (ih fun u hu => h u (List.mem_cons_of_mem _ hu))
  exact go _ hall
theorem cr_sortedTK_ {X : Cx} {K : PySem.W.Frag} [Inhabited α] (h : X.K = K := by rfl) : CallR X (.builtin "sorted") (rSortedTK α K) := by subst h; exact cr_sortedTK
end
instance : Inhabited (T3 Int Int Int) := ⟨⟨0, 0, 0⟩⟩
instance : Inhabited (T4 Int Int Int Int) := ⟨⟨0, 0, 0, 0⟩⟩
end G
/-! My base, part 25: a list of lists, all of one's own. -/
namespace G
open PySem PySem.Spec PyProof.Rows L2 TL
abbrev refsN (rows : List (Addr × List V)) : List V := rows.map fun r => V.ref r.1
structure Nest (H0 F H : Hp) (f : Addr) (rows : List (Addr × List V)) : Prop where
  h : H f = some (.lst (refsN rows))
  nF : F f = none
  n0 : H0 f = none
  rh : ∀ r ∈ rows, H r.1 = some (.lst r.2)
  rF : ∀ r ∈ rows, F r.1 = none
  r0 : ∀ r ∈ rows, H0 r.1 = none
  rf : ∀ r ∈ rows, r.1 ≠ f
  nd : (rows.map (·.1)).Nodup
/-- q is none of them -/
def Apt (f : Addr) (rows : List (Addr × List V)) (q : Addr) : Prop := f ≠ q ∧ ∀ r ∈ rows, r.1 ≠ q
section
variable {M : Addr → Prop} {F0 H0 F H F' H' : Hp} {f p q : Addr} {o : HO} {K : PySem.W.Frag} {rows : List (Addr × List V)} {us ws : List V}
theorem Nest.ne (w : Nest H0 F H f rows) (hq : H q = none) : Apt f rows q := ⟨ne_of_none w.h hq, fun r hr => ne_of_none (w.rh r hr) hq⟩
theorem Nest.other (w : Nest H0 F H f rows) (a : Apt f rows q) : Nest H0 F (upd H q o) f rows :=
  ⟨(upd_ne a.1).trans w.h, w.nF, w.n0, fun r hr => (upd_ne (a.2 r hr)).trans (w.rh r hr), w.rF, w.r0, w.rf, w.nd⟩
theorem Nest.own (w : Nest H0 F H f rows) (hq : H q = none) : Nest H0 F (upd H q o) f rows := w.other (w.ne hq)
theorem Nest.fz (w : Nest H0 F H f rows) (a : Apt f rows q) : Nest H0 (upd F q o) H f rows :=
  ⟨w.h, (upd_ne a.1).trans w.nF, w.n0, w.rh, fun r hr => (upd_ne (a.2 r hr)).trans (w.rF r hr), w.r0, w.rf, w.nd⟩
theorem Nest.frz (w : Nest H0 F H f rows) (hq : H q = none) : Nest H0 (upd F q o) (upd H q o) f rows := (w.own hq).fz (w.ne hq)
theorem Nest.gr0 (w : Nest H0 F H f rows) (g : Gr M0 F H F' H') : Nest H0 F' H' f rows :=
  ⟨g.keep _ _ id w.h, g.newL (by rw [w.h]; simp) w.nF (fun ts z => by rw [g.keep _ _ id w.h] at z; cases z), w.n0, fun r hr => g.keep _ _ id (w.rh r hr),
    fun r hr => g.newL (by rw [w.rh r hr]; simp) (w.rF r hr) (fun ts z => by rw [g.keep _ _ id (w.rh r hr)] at z; cases z), w.r0, w.rf, w.nd⟩
theorem Nest.apart (w : Nest H0 F H f rows) (k : Gr M0 H H F' H') : Nest H0 F H' f rows :=
  ⟨k.keep _ _ id w.h, w.nF, w.n0, fun r hr => k.keep _ _ id (w.rh r hr), w.rF, w.r0, w.rf, w.nd⟩
theorem Nest.adopt {ts : List V} (w : Nest H0 F H f rows) (h : H q = some (.tup ts)) : Nest H0 (upd F q (.tup ts)) H f rows :=
  w.fz ⟨(fun z => by subst z; rw [w.h] at h; cases h), (fun r hr z => by subst z; rw [w.rh r hr] at h; cases h)⟩
theorem Nest.nil (g : Gr M F0 H0 F H) (hp : H p = none) : Nest H0 F (upd H p (.lst [])) p [] :=
  ⟨upd_same, g.noneF hp, g.none0 hp, (fun _ h => nomatch h), (fun _ h => nomatch h), (fun _ h => nomatch h), (fun _ h => nomatch h), List.nodup_nil⟩
theorem Nest.grow (w : Nest H0 F H f rows) (g : Gr M F0 H0 F H) (hp : H p = none) : Nest H0 F (upd (upd H p (.lst [])) f (.lst (refsN rows ++ [.ref p]))) f (rows ++ [(p, [])]) := by
  have a := w.ne hp
  refine ⟨by rw [upd_same, refsN, refsN, List.map_append]; rfl, w.nF, w.n0, fun r hr => ?_, fun r hr => ?_, fun r hr => ?_, fun r hr => ?_, ?_⟩
  · rcases List.mem_append.mp hr with hr | hr
    · rw [upd_ne (w.rf r hr), upd_ne (a.2 r hr)]; exact w.rh r hr
    · rw [List.mem_singleton.mp hr, upd_ne a.1.symm, upd_same]
  · rcases List.mem_append.mp hr with hr | hr
    · exact w.rF r hr
    · rw [List.mem_singleton.mp hr]; exact g.noneF hp
  · rcases List.mem_append.mp hr with hr | hr
    · exact w.r0 r hr
    · rw [List.mem_singleton.mp hr]; exact g.none0 hp
  · rcases List.mem_append.mp hr with hr | hr
    · exact w.rf r hr
    · rw [List.mem_singleton.mp hr]; exact a.1.symm
  · rw [List.map_append]
    refine List.nodup_append.mpr ⟨w.nd, by simp, fun x hx y hy => ?_⟩
    obtain ⟨r, hr, rfl⟩ := List.mem_map.mp hx
    have hy' : y = p := by simpa using hy
    rw [hy']
    exact a.2 r hr
theorem Nest.put (w : Nest H0 F H f rows) {j : Nat} {r : Addr × List V} (hj : rows[j]? = some r) : Nest H0 F (upd H r.1 (.lst us)) f (rows.set j (r.1, us)) := by
  have hr : r ∈ rows := List.mem_of_getElem? hj
  have hjl : j < rows.length := (List.getElem?_eq_some_iff.mp hj).1
  have e1 : (rows.set j (r.1, us)).map (·.1) = rows.map (·.1) := by
    rw [List.map_set]
    refine List.ext_getElem? fun i => ?_
    rw [List.getElem?_set]
    by_cases hi : j = i
    · subst hi
      rw [if_pos rfl, if_pos (by rw [List.length_map]; exact hjl), List.getElem?_map, hj]
      rfl
    · rw [if_neg hi]
  have e2 : refsN (rows.set j (r.1, us)) = refsN rows := by
    have : ∀ l : List (Addr × List V), refsN l = (l.map (·.1)).map V.ref := fun l => by rw [refsN, List.map_map]; rfl
    rw [this, this, e1]
  have hmem : ∀ x ∈ rows.set j (r.1, us), x = (r.1, us) ∨ (x ∈ rows ∧ x.1 ≠ r.1) := fun x hx => by
    obtain ⟨i, hi⟩ := List.mem_iff_getElem?.mp hx
    rw [List.getElem?_set] at hi
    by_cases hij : j = i
    · rw [if_pos hij] at hi
      split at hi
      · exact .inl (Option.some.inj hi).symm
      · next hn => exact absurd (hij ▸ hjl) hn
    · rw [if_neg hij] at hi
      refine .inr ⟨List.mem_of_getElem? hi, fun z => hij ?_⟩
      have h1 : (rows.map (·.1))[j]? = some r.1 := by rw [List.getElem?_map, hj]; rfl
      have h2 : (rows.map (·.1))[i]? = some r.1 := by rw [List.getElem?_map, hi]; exact congrArg some z
      exact (List.getElem?_inj (List.getElem?_eq_some_iff.mp h1).1 w.nd).mp (h1.trans h2.symm)
  refine ⟨by rw [upd_ne (w.rf r hr).symm, e2]; exact w.h, w.nF, w.n0, fun x hx => ?_, fun x hx => ?_, fun x hx => ?_, fun x hx => ?_, by rw [e1]; exact w.nd⟩
  · rcases hmem x hx with rfl | ⟨hx, n⟩
    · exact upd_same
    · rw [upd_ne n]; exact w.rh x hx
  · rcases hmem x hx with rfl | ⟨hx, n⟩
    · exact w.rF r hr
    · exact w.rF x hx
  · rcases hmem x hx with rfl | ⟨hx, n⟩
    · exact w.r0 r hr
    · exact w.r0 x hx
  · rcases hmem x hx with rfl | ⟨hx, n⟩
    · exact w.rf r hr
    · exact w.rf x hx
end
def RN {α : Type} [Enc α] (K : PySem.W.Frag) (F : Hp) (rows : List (Addr × List V)) (xs : List (List α)) : Prop :=
  rows.length = xs.length ∧ ∀ (j : Nat) (r : Addr × List V), rows[j]? = some r → ∃ x, xs[j]? = some x ∧ RL K F r.2 x ∧ r.2.length ≤ sizeLine
def appN {α : Type} (xs : List (List α)) (i : Int) (y : α) : Option (List (List α)) :=
  (ixN xs.length i).bind fun j => xs[j]?.bind fun r => if r.length < sizeLine then some (xs.set j (r ++ [y])) else none
theorem appN_ok {α : Type} {xs zs : List (List α)} {i : Int} {y : α} (h : appN xs i y = some zs) : ∃ j r, ixN xs.length i = some j ∧ xs[j]? = some r ∧ r.length < sizeLine ∧ xs.set j (r ++ [y]) = zs := by
  unfold appN at h
  obtain ⟨j, h1, h⟩ := Option.bind_eq_some_iff.mp h
  obtain ⟨r, h2, h⟩ := Option.bind_eq_some_iff.mp h
  split at h
  · exact ⟨j, r, h1, h2, by assumption, Option.some.inj h⟩
  · cases h
section
variable {α : Type} [Enc α] {K : PySem.W.Frag} {F F' : Hp} {rows : List (Addr × List V)} {xs ys : List (List α)}
theorem RN.up (h : RN K F rows xs) (e : Same F F') : RN K F' rows xs := ⟨h.1, fun j r hr => let ⟨x, h1, h2, h3⟩ := h.2 j r hr; ⟨x, h1, RpA.up h2 e, h3⟩⟩
theorem RN.re (e : xs = ys) (h : RN K F rows xs) : RN K F rows ys := e ▸ h
theorem RN.len (h : RN K F rows xs) : (refsN rows).length = xs.length := by rw [List.length_map]; exact h.1
theorem RN.row (h : RN K F rows xs) {j : Nat} {x : List α} (e : xs[j]? = some x) : ∃ r, rows[j]? = some r ∧ RL K F r.2 x ∧ r.2.length ≤ sizeLine := by
  have hj : j < rows.length := by rw [h.1]; exact (List.getElem?_eq_some_iff.mp e).1
  obtain ⟨x', h1, h2, h3⟩ := h.2 j _ (List.getElem?_eq_getElem hj)
  rw [e] at h1
  cases h1
  exact ⟨_, List.getElem?_eq_getElem hj, h2, h3⟩
theorem RN.at_ (h : RN K F rows xs) {i : Int} {j : Nat} {r : Addr × List V} (e : ixN xs.length i = some j) (hr : rows[j]? = some r) : atI (refsN rows) i = some (V.ref r.1) := by
  unfold atI
  rw [h.len, e]
  show (refsN rows)[j]? = _
  rw [refsN, List.getElem?_map, hr]
  rfl
theorem RN.get (h : RN K F rows xs) {i : Nat} {v : V} (e : (refsN rows)[i]? = some v) : ∃ x r, xs[i]? = some x ∧ r ∈ rows ∧ v = .ref r.1 ∧ RL K F r.2 x ∧ r.2.length ≤ sizeLine := by
  rw [refsN, List.getElem?_map] at e
  obtain ⟨r, hr, rfl⟩ := Option.map_eq_some_iff.mp e
  obtain ⟨x, h1, h2, h3⟩ := h.2 i r hr
  exact ⟨x, r, h1, List.mem_of_getElem? hr, rfl, h2, h3⟩
theorem RN.put (h : RN K F rows xs) {j : Nat} {r : Addr × List V} {x : List α} {us : List V} (hr : rows[j]? = some r) (hx : RL K F us x) (hl : us.length ≤ sizeLine) : RN K F (rows.set j (r.1, us)) (xs.set j x) := by
  refine ⟨by rw [List.length_set, List.length_set]; exact h.1, fun k q hq => ?_⟩
  rw [List.getElem?_set] at hq ⊢
  by_cases hk : j = k
  · subst hk
    rw [if_pos rfl] at hq ⊢
    have hj : j < rows.length := (List.getElem?_eq_some_iff.mp hr).1
    rw [if_pos hj] at hq
    rw [if_pos (by rw [← h.1]; exact hj)]
    cases hq
    exact ⟨x, rfl, hx, hl⟩
  · rw [if_neg hk] at hq ⊢
    exact h.2 k q hq
theorem RN.empty {β : Type} {l : List β} (h : rows.length = l.length) (he : ∀ r ∈ rows, r.2 = []) : RN K F rows (l.map fun _ => ([] : List α)) := by
  refine ⟨by rw [List.length_map]; exact h, fun j r hr => ⟨[], ?_, ?_, ?_⟩⟩
  · have hj : j < rows.length := (List.getElem?_eq_some_iff.mp hr).1
    rw [List.getElem?_map, List.getElem?_eq_getElem (by omega)]
    rfl
  · rw [he r (List.mem_of_getElem? hr)]; exact RpA.nil
  · rw [he r (List.mem_of_getElem? hr)]; exact Nat.zero_le _
end
theorem Apt.put {f q : Addr} {rows : List (Addr × List V)} {j : Nat} {r : Addr × List V} {us : List V} (a : Apt f rows q) (hj : rows[j]? = some r) : Apt f (rows.set j (r.1, us)) q :=
  ⟨a.1, fun x hx => by
    rcases List.mem_or_eq_of_mem_set hx with h | h
    · exact a.2 x h
    · rw [h]; exact a.2 r (List.mem_of_getElem? hj)⟩
end G
/-! My base, part 26: sorted(set(a tuple of whole numbers)); tuples put together. -/
namespace G
open PySem PySem.Spec PyProof.Rows L2 TL
section
variable {P : Program} {w : World} {A : Around} {E : Value → Shared → Prop} {s : Shared}
theorem set_of_tuple {l : Addr} {xs : Array Value} (ks : List Int) {Q : Value → Shared → Prop} (hh : A.handled = none) (hl : s.heap.IsTuple l xs) (hk : IntsAre xs.toList ks) (hb : ks.length + 1 < scanBound)
    (hq : ∀ (h' : Heap) (tk c : Nat), SetR w h' s.heap.objs.size (fun j => decide (j ∈ ks)) c → c ≤ ks.length → (∀ b o, s.heap.get? b = some o → h'.get? b = some o) → Q (.ref s.heap.objs.size) { s with heap := h', toks := tk }) :
    wpAny (model P w) A (call (.type "set") [.ref l]) Q E s := by
  have hsz : xs.size = ks.length := (Array.length_toList (xs := xs)).symm.trans (IntsAre.length hk)
  obtain ⟨c0, tl0, hmro⟩ := F.called_set.mro
  have hmade := F.called_set.made; have hsub := F.called_set.sub
  refine wpAny_call (codeAny_of_tree ?_); show wpAny _ _ (callAny (.type "set") _) _ _ _
  refine wpAny_pure ⟨Code.quiet_builtin _ (by decide +kernel), codeAny_builtin F.entry_type_call ?_⟩; rw [Around.under_plain (weight_type_call_type "set" [.ref l] []) rfl]
  have n1 := F.called_set.notType; have n2 := F.called_set.canCreate; have n3 := F.typeCall_set_1 (.ref l)
  repeat (any_goals (first | assumption | wp_step))
  refine codeAny_mono (code_set_led1 (A := A.in1) (.ref l) (E := E) (Q₁ := fun ob s₁ => ob = .ref s.heap.objs.size ∧ s₁ = { s with heap := s.heap.push (newS w) }) ⟨rfl, rfl⟩) fun r s₁ hr => ?_
  cases r with
  | error e => exact hr
  | ok fl =>
    cases fl with
    | next => exact hr.elim
    | brk => exact hr.elim
    | cont => exact hr.elim
    | ret ob =>
      obtain ⟨rfl, rfl⟩ := hr
      have hS : (s.heap.push (newS w)).get? s.heap.objs.size = some (newS w) := Heap.get?_push_size _ rfl
      have hT : Shared.TypeIs { s with heap := s.heap.push (newS w) } (.ref s.heap.objs.size) "set" := ⟨_, hS, rfl⟩
      have hli := F.called_set.init.lookup; have hbi := F.called_set.init.bind (.ref s.heap.objs.size)
      repeat (any_goals (first | assumption | wp_step))
      refine codeAny_mono (codeAny_call_builtin (R := wants (fun rr s₂ => rr = .none ∧ ∃ h' tk c, s₂ = { s with heap := h', toks := tk } ∧ SetR w h' s.heap.objs.size (fun j => decide (j ∈ ks)) c ∧ c ≤ ks.length ∧ (∀ b o, s.heap.get? b = some o → h'.get? b = some o)) E)
        F.called_set.init.plain F.entry_set_init (check_set_init_1 hT ?_)) fun r2 s2 hr2 => ?_
      · obtain ⟨⟨lc, ld, lt, ls⟩, hol, hcl, nl, hdl⟩ := hl
        simp only at hcl hdl; subst hcl; subst hdl
        have hol' : (s.heap.push (newS w)).get? l = some { cls := .type "tuple", dict := ld, data := .seq xs nl, slots := ls } := Heap.get?_push_of_some _ hol
        have b1 := F.sub_tuple_set; have b2 := F.sub_tuple_frozenset
        have b3 : (Value.type "tuple" == Value.type "dict") = false := by decide
        have hl1 : (s.heap.push (newS w)).IsTuple l xs := ⟨_, hol', rfl, nl, rfl⟩
        unfold Builtin.«set.__init__» noKeywords Builtin.Frozenset.updateFrom; generalize hPI : pyIter = PI
        wp_walk
        subst hPI; refine wpAny_pyIter_tuple hl1 ?_
        refine wpAny_bind (wpAny_runValue ?_); have lS : l < s.heap.objs.size := Heap.lt_size hol
        have hh3 : A.in1.in1.in1.handled = none := by simp [hh]
        have lI : l ≠ (s.heap.push (newS w)).objs.size := by rw [Heap.size_push]; exact Nat.ne_of_lt (Nat.lt_succ_of_lt lS)
        have sI : s.heap.objs.size ∉ [(s.heap.push (newS w)).objs.size, l] := by
          rw [Heap.size_push]
          intro z
          rcases List.mem_cons.mp z with z | z
          · exact absurd z (Nat.ne_of_lt (Nat.lt_succ_self _))
          · exact absurd (List.mem_singleton.mp z) (Nat.ne_of_gt lS)
        have each : ∀ (i : Nat) (v : Value), xs[i]? = some v → ∃ k t, ks[i]? = some k ∧ v = .int k t := fun i v hv => by
          have hi : i < ks.length := by rw [← hsz]; exact (Array.getElem?_eq_some_iff.mp hv).1
          obtain ⟨t, e⟩ := PyProof.Rows.IntsAre.int_at hk i v (by rw [Array.getElem?_toList]; exact hv)
          exact ⟨ks[i], t, List.getElem?_eq_getElem hi, by rw [e, List.getD_eq_getElem?_getD, List.getElem?_eq_getElem hi]; rfl⟩
        refine set_update_ints ((Walks.tuple hh3 _ l lI xs).toS) s.heap.objs.size sI ks hsz hb each (xs.size - 0) 0 _ (by omega) (Nat.zero_le _) ⟨⟨_, Heap.get?_push_size _ rfl, rfl, rfl⟩, (hl1.push _)⟩ ⟨0, Nat.le_refl 0, setR_new_at (Heap.get?_push_of_some _ hS)⟩ (fun s' c' hm hc' hS' => ?_)
        obtain ⟨h', g2, d', tk', os'⟩ := s'
        have eg : g2 = s.gens := hm.gens; have ed : d' = s.drawn := hm.drawn
        have eo : os' = s.os := hm.os; subst eg; subst ed; subst eo
        show wpAny _ _ _ _ _ _; refine wpAny_pure ?_
        show wpAny _ _ (ret Value.none) _ _ _; rw [hsz] at hc'
        refine wpAny_pure ⟨rfl, h', tk', c', rfl, hS', hc', fun b o e => ?_⟩
        have m0 : b < s.heap.objs.size := Heap.lt_size e
        refine hm.heap b o (fun z => ?_) (Heap.get?_push_of_some _ (Heap.get?_push_of_some _ e))
        rcases List.mem_cons.mp z with z | z
        · exact absurd z (Nat.ne_of_lt m0)
        · have z := List.mem_singleton.mp z
          rw [Heap.size_push] at z
          exact absurd z (Nat.ne_of_lt (Nat.lt_succ_of_lt m0))
      · cases r2 with
        | error e => exact hr2
        | ok fl2 =>
          cases fl2 with
          | next => exact hr2.elim
          | brk => exact hr2.elim
          | cont => exact hr2.elim
          | ret rr =>
            obtain ⟨rfl, h', tk, c, rfl, hS', hc', hk'⟩ := hr2
            repeat (any_goals (first | assumption | wp_step))
            exact hq _ _ _ hS' hc' hk'
end
section
variable {X : Cx}
def tSSetT (K : PySem.W.Frag) (ta : TE) : TE := fun σ H Q => ta σ H fun x H1 => ∃ (l : Addr) (ks : List Int), x = V.ref l ∧ SqT K H1 l (ks.map V.int) ∧ ks.length < 4000 ∧
  ∀ (ns : List Int) (p : Addr), ns.Pairwise (· < ·) → (∀ k, k ∈ ns ↔ k ∈ ks) → ns.length ≤ ks.length → H1 p = none → Q (.ref p) (upd H1 p (.lst (ns.map V.int)))
theorem pe_ssetT {a : Expr} {ta : TE} {p p2 q pos : Pos} (hc : X.calm = true) (hg : Gl X "sorted") (hm : X.mg "sorted" = none) (hg2 : Gl X "set") (hm2 : X.mg "set" = none) (ha : PE X a ta)
    (na : starEach [a] X.env = (false, eval a X.env) :: starEach [] X.env := by rfl) : PE X (.Call (.Name "sorted" p) [.Call (.Name "set" p2) [a] [] q] [] pos) (tSSetT X.K ta) := by
  refine ⟨fun pins s σ H Q I h => ?_⟩
  refine Call_ (ld_blt I hg hm (u := .builtin "sorted") (by decide +kernel) ?_)
  refine PyProof.Rows.callWith_builtin1 (PyProof.Rows.args_cons ?_ rfl) rfl rfl
  refine Call_ (ld_blt I hg2 hm2 PyProof.Rows.boot_set ?_)
  refine PyProof.Rows.callWith_type1 (PyProof.Rows.args_cons (thn (ha.run pins s σ H _ I h) fun v s1 ⟨x, H1, I1, r1, q1⟩ => PyProof.Rows.args_nil ?_) na) na rfl
  obtain ⟨l, ks, rfl, hq, h4, q1⟩ := q1
  cases r1
  obtain ⟨its, r, pl, hz⟩ := I1.tuple hq
  refine set_of_tuple ks (I1.ok.hd hc) pl (by simpa using r.ints) (by unfold scanBound; omega) fun h' tk c hS hck hk => ?_
  refine PyProof.Rows.args_nil ?_
  have I2 : Inv X pins σ H1 { s1 with heap := h', toks := tk } := I1.kept fun b o e => hk b o e
  refine set_sorted hS (I2.ok.hd hc) fun s' p out c2 ns k g o hp hgt hi hs hmem hlen => ?_
  have hlen2 : ns.length ≤ ks.length := Nat.le_trans hlen hck
  have hlz : (ns.map V.int).length ≤ sizeLine := by rw [List.length_map, sizeLine_eq]; omega
  have hn : H1 p = none := I2.hok.fresh hp
  have J : Inv X pins σ (upd H1 p (.lst (ns.map V.int))) s' := Inv.call' (ch := []) I2 o (Un.laid k hp hn) (I2.hok.laid k hp ⟨hlz, out, c2, vals_of_ints hi, hgt⟩) (by rw [g]; exact I2.bare) (fun _ z => nomatch z)
  exact ⟨.ref p, _, J, rfl, q1 ns p hs (fun k => by rw [hmem k, decide_eq_true_iff]) hlen2 hn⟩
theorem pe_ssetTK {K : PySem.W.Frag} {a : Expr} {ta : TE} {p p2 q pos : Pos} (hc : X.calm = true) (hg : Gl X "sorted") (hm : X.mg "sorted" = none) (hg2 : Gl X "set") (hm2 : X.mg "set" = none) (ha : PE X a ta) (h : X.K = K := by rfl)
    (na : starEach [a] X.env = (false, eval a X.env) :: starEach [] X.env := by rfl) : PE X (.Call (.Name "sorted" p) [.Call (.Name "set" p2) [a] [] q] [] pos) (tSSetT K ta) := by subst h; exact pe_ssetT hc hg hm hg2 hm2 ha na
/-- two tuples, put together -/
def rCatF : R2 := fun x y H Q => ∃ (F : Hp) (a b : Addr) (xs ys : List V), x = .ref a ∧ y = .ref b ∧ F a = some (.tup xs) ∧ F b = some (.tup ys) ∧ Same F H ∧ xs.length + ys.length ≤ sizeLine ∧
  ∀ q F' H', Gr M0 F H F' H' → F' q = some (.tup (xs ++ ys)) → Q (.ref q) H'
theorem op_catF : OpR X (binaryOp .Add) rCatF := by
  intro pins s σ H x y v u Q I rx ry ⟨F, a, b, xs, ys, e1, e2, ha, hb, hF, hl, q⟩
  refine op_catA pins s σ H x y v u Q I rx ry ⟨a, b, xs, ys, e1, e2, .inl (.inl (hF _ _ ha)), .inl (.inl (hF _ _ hb)), hl, fun h => ?_, fun h1 h2 => ?_, fun h1 h2 p hp => ?_⟩
  · exact q b F H (Gr.refl hF) (by rw [h, List.nil_append]; exact hb)
  · exact q a F H (Gr.refl hF) (by rw [h2, List.append_nil]; exact ha)
  · exact q p _ _ ((Gr.refl hF).frz (o := .tup (xs ++ ys)) hp) fzT
end
def conV {α : Type} (xs ys : VT α) : Option (VT α) := if xs.l.length + ys.l.length ≤ sizeLine then some (VT.mk (xs.l ++ ys.l)) else none
theorem conV_ok {α : Type} {xs ys r : VT α} (h : conV xs ys = some r) : xs.l.length + ys.l.length ≤ sizeLine ∧ VT.mk (xs.l ++ ys.l) = r := by
  unfold conV at h
  split at h
  · exact ⟨by assumption, Option.some.inj h⟩
  · cases h
end G
/-! My base, part 27: sorted(a dict of texts). -/
namespace G
open PySem PySem.Spec PyProof.Rows L2 TL PySem.Calls PySem.W
section
variable {prog : Program} {w : World} {A : Around} {E : Value → Shared → Prop} {s : Shared} {T : String} {r d : Addr} {n : Nat} {P : Nat → Value → Prop} {OK : Heap → Prop}
/-- what an iterable of the kit's gives, gathered -/
theorem gather {R : List Value → Shared → Prop} (K : KdlSrc prog w T r d n P OK) (hh : A.handled = none) (hok : OK s.heap) (hn : n ≤ sizeLine)
    (h : ∀ (h' : Heap) (tk : Nat) (vs : List Value), (∀ b o, s.heap.get? b = some o → h'.get? b = some o) → s.heap.objs.size < h'.objs.size → vs.length = n → (∀ j v, vs[j]? = some v → P j v) → R vs { s with heap := h', toks := tk }) :
    wpAny (model prog w) A (collect (.ref r)) R E s := by
  obtain ⟨hr, hd⟩ := K.there _ hok
  unfold collect
  refine wpAny_bind (wpAny_runValue (codeAny_builtin entry_proto_collect' ?_))
  rw [Around.under_plainId PySem.F.plain_proto_collect _]
  show wpAny _ A.in1 (newList [] >>= fun l => again (.builtin "list.__iadd__" ⟨[l, .ref r], []⟩)) _ _ s
  refine wpAny_bind (wpAny_newObj_type ?_)
  refine wpAny_pure ⟨plainId_quiet PySem.F.plain_list_iadd _, codeAny_builtin entry_list_iadd' ?_⟩
  rw [Around.under_plainId PySem.F.plain_list_iadd _]
  have hS : (s.heap.push { cls := .type "list", data := .seq ([] : List Value).toArray }).get? s.heap.objs.size = some { cls := .type "list", data := .seq #[] } := Heap.get?_push_size _ rfl
  show wpAny _ A.in1 (Builtin.List.listExtendWith (.ref s.heap.objs.size) (.ref r) (.ref s.heap.objs.size)) _ _ _
  have key := kdl_extend (prog := prog) (w := w) (A := A) (s := { s with heap := s.heap.push { cls := .type "list", data := .seq ([] : List Value).toArray } }) (R := fun (q : Result) (s' : Shared) => ∃ (h' : Heap) (tk : Nat) (acc' : Array Value) (c' : Nat), q = .ok (.ret (.ref s.heap.objs.size)) ∧ s' = { s with heap := h', toks := tk } ∧
      (∀ b o, b ≠ s.heap.objs.size → (s.heap.push { cls := .type "list", data := .seq ([] : List Value).toArray }).get? b = some o → h'.get? b = some o) ∧ h'.get? s.heap.objs.size = some { cls := .type "list", dict := none, data := .seq acc' c', slots := #[] } ∧ ItemsOf P acc' n)
    K hh (K.keep _ _ hok fun b _ o e => Heap.get?_push_of_some _ e) s.heap.objs.size (Nat.ne_of_gt hr) (Nat.ne_of_gt hd) (.ref s.heap.objs.size) 0 hS
    (fun h' tk acc' c' hk hS' hacc => ⟨h', tk, acc', c', rfl, rfl, hk, hS', hacc⟩) hn
  refine wpAny_mono key (fun fin s' x => ?_) fun e s' x => ?_
  · cases fin with
    | done f =>
      obtain ⟨h', tk, acc', c', e, rfl, hk, hS', hacc⟩ := x
      cases e
      refine wpAny_bind (wpAny_load hS' ?_)
      exact wpAny_pure (h h' tk acc'.toList (fun b o e => hk b o (Nat.ne_of_lt (Heap.lt_size e)) (Heap.get?_push_of_some _ e)) (Heap.lt_size hS') (by rw [Array.length_toList]; exact hacc.1) fun j v e => hacc.2 j v (by rw [← Array.getElem?_toList]; exact e))
    | again c₁ =>
      refine ⟨x.1, codeAny_mono x.2 fun q s₂ y => ?_⟩
      obtain ⟨h', tk, acc', c', rfl, rfl, hk, hS', hacc⟩ := y
      refine wpAny_bind (wpAny_load hS' ?_)
      exact wpAny_pure (h h' tk acc'.toList (fun b o e => hk b o (Nat.ne_of_lt (Heap.lt_size e)) (Heap.get?_push_of_some _ e)) (Heap.lt_size hS') (by rw [Array.length_toList]; exact hacc.1) fun j v e => hacc.2 j v (by rw [← Array.getElem?_toList]; exact e))
  · obtain ⟨_, _, _, _, e', _⟩ := x
    cases e'
end
theorem strs_by : ∀ {vs : List Value} {xs : List Str}, vs.length = xs.length → (∀ (j : Nat) (v : Value), vs[j]? = some v → ∃ (x : Str) (t : Tok), xs[j]? = some x ∧ v = Value.str x t) → StrsAre vs xs
  | [], [], _, _ => .nil
  | [], _ :: _, h, _ => by cases h
  | _ :: _, [], h, _ => by cases h
  | v :: vs, x :: xs, h, k => by
    obtain ⟨x', t, e1, e2⟩ := k 0 v rfl
    cases e1
    subst e2
    exact .cons _ _ (strs_by (by simpa using h) fun j v e => k (j + 1) v e)
theorem ints_by : ∀ {vs : List Value} {xs : List Int}, vs.length = xs.length → (∀ (j : Nat) (v : Value), vs[j]? = some v → ∃ (x : Int) (t : Tok), xs[j]? = some x ∧ v = Value.int x t) → IntsAre vs xs
  | [], [], _, _ => .nil
  | [], _ :: _, h, _ => by cases h
  | _ :: _, [], h, _ => by cases h
  | v :: vs, x :: xs, h, k => by
    obtain ⟨x', t, e1, e2⟩ := k 0 v rfl
    cases e1
    subst e2
    exact .cons _ _ (ints_by (by simpa using h) fun j v e => k (j + 1) v e)
/-- sorted(a dict of texts) -/
def rSortedDS : List V → Hp → VK → Prop := fun vs H Q => ∃ (a : Addr) (kvs : List (Key × V)) (xs : List Str), vs = [V.ref a] ∧ Rd H a (.dK kvs) ∧ kvs.map (·.1) = xs.map Sum.inr ∧
  ∀ p : Addr, H p = none → Q (.ref p) (upd H p (.lst ((sortT xs).map V.str)))
theorem cr_sortedDS {X : Cx} (hc : X.calm = true) : CallR X (.builtin "sorted") rSortedDS := by
  intro pins s σ H vs us Q I r h
  obtain ⟨a, kvs, xs, rfl, ha, hk, q⟩ := h
  obtain ⟨u, rfl, ru⟩ := vals1 r
  obtain rfl : u = Value.ref a := ru
  obtain ⟨z, hd, vs0, rel, o, es, ep, ho, hx, hdt, rest⟩ := dk_rd I.hok ha
  have hlen : kvs.length = vs0.length := Paired.length rel
  have hxl : kvs.length = xs.length := by have := congrArg List.length hk; rwa [List.length_map, List.length_map] at this
  have hat : s.heap.DictAt (mixKind X.prog X.w) a vs0 ep := ⟨o, es, ho, hx, hdt, rest⟩
  refine Calls.call_function_entry kind_sorted plain_sorted entry_sorted (args_sorted1 _) ?_
  unfold Builtin.«sorted»
  refine wpAny_bind (m := checkCount "sorted" 1 1 _) (wpAny_pure ?_)
  refine wpAny_bind (gather (kdl_dict (prog := X.prog) (w := X.w) (knd := mixKind X.prog X.w) (kvs := vs0) (ep := ep) hd) (I.ok.hd hc) hat (by omega) fun h' tk vs1 hkp hsz1 hl1 hv1 => ?_)
  have hS : StrsAre vs1 xs := strs_by (by omega) fun j v e => by
    obtain ⟨k, x, e1, e2⟩ := hv1 j v e
    have hj : j < kvs.length := by rw [hlen]; exact (List.getElem?_eq_some_iff.mp e1).1
    obtain ⟨u, e3, _⟩ := kv_get rel (i := j) (k := (kvs[j]).1) (v := (kvs[j]).2) (List.getElem?_eq_getElem hj)
    rw [e1] at e3
    have e4 : k = (kvs[j]).1 := congrArg Prod.fst (Option.some.inj e3)
    have e5 : (kvs.map (·.1))[j]? = some (kvs[j]).1 := by rw [List.getElem?_map, List.getElem?_eq_getElem hj]; rfl
    rw [hk, List.getElem?_map] at e5
    obtain ⟨x', e6, e7⟩ := Option.map_eq_some_iff.mp e5
    rw [e4, ← e7] at e2
    rcases keyIs_shape (show keyIs (Sum.inr x') v = true from e2) with ⟨i, t, z1, _⟩ | ⟨y, t, z1, z2⟩
    · cases z1
    · cases z1
      exact ⟨_, t, e6, z2⟩
  have hl1' : vs1.length ≤ sizeLine := by omega
  refine wpAny_bind (wpAny_newList ?_ hl1')
  have hoL : (h'.push (seqObj "list" vs1.toArray 0)).get? h'.objs.size = some (seqObj "list" vs1.toArray 0) := Heap.get?_push_size _ rfl
  show wpAny _ _ _ _ _ { s with heap := h'.push (seqObj "list" vs1.toArray 0), toks := tk }
  refine wpAny_bind (wpAny_holding (wpAny_call_entry slot_list_sort ⟨_, hoL, rfl⟩ entry_list_sort (list_sort_treeKAny strKind_oneLt hoL hS.keysOf (fun v₁ v₂ rest e => keyKind_strs (by rw [← e]; exact hS)) hl1' fun st' a1 a2 => ⟨_, rfl, ?_⟩) (args_list_sort _)))
  refine wpAny_pure ⟨_, rfl, ?_⟩
  obtain ⟨ss', h1, h2, h3⟩ := sorted_out_str hS a1 a2
  obtain ⟨out, hout⟩ : ∃ out, (arrOf st').map (·.2) = out := ⟨_, rfl⟩
  rw [hout] at h1 ⊢
  obtain rfl := sortT_uniq h2 h3
  obtain ⟨e, hfin⟩ := sortedHeap_at (vs := vs1) (out := out) hoL
  have hlz : ((sortT xs).map V.str).length ≤ sizeLine := by rw [List.length_map, sortT_len]; omega
  have hkeep : ∀ b u, s.heap.get? b = some u → (sortedHeap (h'.push (seqObj "list" vs1.toArray 0)) h'.objs.size vs1 out).get? b = some u := fun b u e => by
    have e2 := hkp b u e
    have hlt := Heap.lt_size e2
    rw [sortedHeap_old (Nat.ne_of_lt hlt) (by rw [Heap.size_push]; exact Nat.lt_succ_of_lt hlt), Heap.get?_push_ne _ _ _ (Nat.ne_of_lt hlt)]
    exact e2
  have hfr : s.heap.objs.size ≤ h'.objs.size := Nat.le_of_lt hsz1
  exact ⟨.ref h'.objs.size, upd H h'.objs.size (.lst ((sortT xs).map V.str)), I.laid (t' := tk) hkeep hfr ⟨hlz, out.toList, e, vals_of_strs h1, hfin⟩, rfl, q _ (I.hok.fresh hfr)⟩
theorem scr_stays {K : PySem.W.Frag} {M : Addr → Prop} {F0 H0 F H H1 : Hp} {a : Addr} {xs : List V} (hS : SqL K H1 a xs) (hN : ∀ o, H1 a = some o → ¬ M a) (h : SqL K H0 a xs) (g : Gr M F0 H0 F H) : SqL K H a xs := by
  rcases hS with (e | ⟨o, e⟩) | e
  · exact g.seq (hN _ e) h
  · exact g.seq (hN _ e) h
  · exact .inr e
end G
/-! My base, part 28: dict(a list of pairs), the keys tuples of ints. -/
namespace G
open PySem PySem.Spec PyProof.Rows L2 TL
def putAllK (xs : List (List Key × V)) : List (List Key × V) → List (List Key × V)
  | [] => xs
  | p :: ps => putAllK (putK xs p.1 p.2) ps
def dputAll {α β : Type} [DecidableEq α] (xs : List (α × β)) : List (α × β) → List (α × β)
  | [] => xs
  | p :: ps => dputAll (dput xs p.1 p.2) ps
theorem putAllK_len : ∀ (ps xs : List (List Key × V)), (putAllK xs ps).length ≤ xs.length + ps.length
  | [], xs => Nat.le_refl _
  | p :: ps, xs => by
    have h1 := putAllK_len ps (putK xs p.1 p.2)
    have h2 := length_putK xs p.1 p.2
    rw [putAllK, List.length_cons]
    omega
section
variable {α β : Type} [Enc α] [IK α] [Enc β] {K : PySem.W.Frag}
theorem kt_all {H : Hp} : ∀ {ps : List (List Key × V)} {qs : List (List Key × Addr × Value)} {kvs : List (List Key × V)} {xs : List (List Key × Addr × Value)}, KT H kvs xs → KT H ps qs → KT H (putAllK kvs ps) (storedAllH xs qs)
  | [], _, _, _, h, .nil => h
  | p :: ps, _, _, _, h, .cons r t => by
    obtain ⟨r1, r2, r3⟩ := r
    rw [putAllK, storedAllH, List.foldl_cons]
    have h2 := KT.put h p.1 r2 r3
    rw [r1] at h2 ⊢
    exact kt_all h2 t
theorem rd_all [DecidableEq α] {F : Hp} : ∀ {ps : List (List Key × V)} {ys : List (α × β)} {kvs : List (List Key × V)} {xs : List (α × β)}, RD (α := α) K F kvs xs → RD (α := α) K F ps ys → RD (α := α) K F (putAllK kvs ps) (dputAll xs ys)
  | ps, [], kvs, xs, h, h2 => by
    obtain rfl := h2.nil_l
    exact h
  | ps, y :: ys, kvs, xs, h, h2 => by
    obtain ⟨q, qs, rfl⟩ := h2.cons_l
    obtain ⟨⟨e, r, o⟩, h3⟩ := RD.cons_iff.mp h2
    rw [putAllK, dputAll]
    refine rd_all ?_ h3
    rw [e]
    exact RD.put h y.1 o r
/-- the rows of a list of pairs: each its tuple, its key's tuple, the key, the value -/
theorem rows_of {F : Hp} : ∀ {xs : List (α × β)} {ws : List V}, RL K F ws xs → ∃ rs : List (Addr × Addr × V), ws = rs.map (fun r => V.ref r.1) ∧ rs.length = xs.length ∧
    ∀ (j : Nat) (x : α × β) (r : Addr × Addr × V), xs[j]? = some x → rs[j]? = some r → F r.1 = some (.tup [.ref r.2.1, r.2.2]) ∧ F r.2.1 = some (.tup ((ikeys (IK.ks x.1)).map kV)) ∧ R K F r.2.2 x.2
  | [], ws, h => by
    cases h
    exact ⟨[], rfl, rfl, fun j x r e => by simp at e⟩
  | x :: xs, ws, h => by
    cases h with
    | cons r t =>
      obtain ⟨p, v1, v2, e, hp, r1, r2⟩ := R.p2_s (x := x) r
      obtain ⟨b, e2, hb⟩ := ik_tup r1
      subst e e2
      obtain ⟨rs, e3, e4, e5⟩ := rows_of t
      refine ⟨(p, b, v2) :: rs, by rw [e3]; rfl, by rw [List.length_cons, List.length_cons, e4], fun j y q hy hq => ?_⟩
      cases j with
      | zero =>
        cases hy
        cases hq
        exact ⟨hp, hb, r2⟩
      | succ j => exact e5 j y q (by simpa using hy) (by simpa using hq)
def rDictT (α β : Type) [Enc α] [IK α] [Enc β] [DecidableEq α] (K : PySem.W.Frag) : List V → Hp → VK → Prop := fun vs H Q => ∃ (a : Addr) (ws : List V) (xs : List (α × β)), vs = [V.ref a] ∧ SqL K H a ws ∧ RL K H ws xs ∧
  ∀ (p : Addr) (kvs : List (List Key × V)), H p = none → kvs.length ≤ xs.length → (∀ F, Same F H → RL K F ws xs → RD (α := α) (β := β) K F kvs (dputAll [] xs)) → Q (.ref p) (upd H p (.dT kvs))
theorem call_dictT [DecidableEq α] {X : Cx} (hcalm : X.calm = true) (hu : X.A.units + 4 < cLine) : CallR X (.type "dict") (rDictT α β X.K) := by
  intro pins s σ H vs us Q I r q
  obtain ⟨a, ws, xs, ex, hq, hA, q⟩ := q
  subst ex
  obtain ⟨u, eu, rx⟩ := vals1 r
  subst eu
  cases rx
  obtain ⟨its, rv, pl, hz⟩ := I.list hq
  obtain ⟨rs, e1, e2, e3⟩ := rows_of hA
  subst e1
  obtain ⟨o, n, ho, hc, hd, hdat⟩ := pl
  have hil : its.length = rs.length := by have := rv.length; rw [List.length_map] at this; omega
  have row : ∀ (j : Nat) (x : α × β) (r : Addr × Addr × V), xs[j]? = some x → rs[j]? = some r → H r.1 = some (.tup [.ref r.2.1, r.2.2]) ∧ H r.2.1 = some (.tup ((ikeys (IK.ks x.1)).map kV)) ∧ ∃ u : Value, IsTup s.heap r.1 #[.ref r.2.1, u] ∧ RelV r.2.2 u := fun j x r hx hr => by
    obtain ⟨h1, h2, h3⟩ := e3 j x r hx hr
    obtain ⟨_, its2, r2, ht⟩ := (show ObjOk X.prog X.w H s.heap r.1 (.tup _) from I.hok _ _ h1)
    obtain ⟨u1, u2, rfl, ra, rb⟩ := vals2 r2
    obtain rfl : u1 = Value.ref r.2.1 := ra
    exact ⟨h1, h2, u2, ht, rb⟩
  -- the values of the rows
  have vals : ∃ us : List Value, us.length = rs.length ∧ ∀ (j : Nat) (r : Addr × Addr × V) (u : Value), rs[j]? = some r → us[j]? = some u → IsTup s.heap r.1 #[.ref r.2.1, u] ∧ RelV r.2.2 u := by
    have go : ∀ (l : List (Addr × Addr × V)), (∀ r ∈ l, ∃ u : Value, IsTup s.heap r.1 #[.ref r.2.1, u] ∧ RelV r.2.2 u) → ∃ us : List Value, us.length = l.length ∧ ∀ (j : Nat) (r : Addr × Addr × V) (u : Value), l[j]? = some r → us[j]? = some u → IsTup s.heap r.1 #[.ref r.2.1, u] ∧ RelV r.2.2 u := fun l => by
      induction l with
      | nil => exact fun _ => ⟨[], rfl, fun j r u e => by simp at e⟩
      | cons r l ih =>
        intro h
        obtain ⟨us, h1, h2⟩ := ih fun r hr => h r (List.mem_cons_of_mem _ hr)
        obtain ⟨u, h3⟩ := h r (List.mem_cons_self ..)
        refine ⟨u :: us, by rw [List.length_cons, List.length_cons, h1], fun j r' u' hr hu => ?_⟩
        cases j with
        | zero => cases hr; cases hu; exact h3
        | succ j => exact h2 j r' u' (by simpa using hr) (by simpa using hu)
    refine go rs fun r hr => ?_
    obtain ⟨j, hj⟩ := List.mem_iff_getElem?.mp hr
    have hjl : j < xs.length := by rw [← e2]; exact (List.getElem?_eq_some_iff.mp hj).1
    obtain ⟨_, _, u, h⟩ := row j _ r (List.getElem?_eq_getElem hjl) hj
    exact ⟨u, h⟩
  obtain ⟨us, hul, hus⟩ := vals
  obtain ⟨ps, hps⟩ : ∃ ps : List (List Key × Addr × Value), ps = (List.zip xs (List.zip rs us)).map fun z => (ikeys (IK.ks z.1.1), z.2.1.2.1, z.2.2) := ⟨_, rfl⟩
  obtain ⟨kvs, hkvs⟩ : ∃ kvs : List (List Key × V), kvs = (List.zip xs rs).map fun z => (ikeys (IK.ks z.1.1), z.2.2.2) := ⟨_, rfl⟩
  have psl : ps.length = rs.length := by rw [hps, List.length_map, List.length_zip, List.length_zip]; omega
  have psg : ∀ (j : Nat) (x : α × β) (r : Addr × Addr × V) (u : Value), xs[j]? = some x → rs[j]? = some r → us[j]? = some u → ps[j]? = some (ikeys (IK.ks x.1), r.2.1, u) := fun j x r u h1 h2 h3 => by
    rw [hps, List.getElem?_map, List.zip, List.getElem?_zipWith, h1]
    rw [List.zip, List.getElem?_zipWith, h2, h3]
    rfl
  have all3 : ∀ j, j < rs.length → ∃ x r u, xs[j]? = some x ∧ rs[j]? = some r ∧ us[j]? = some u := fun j hj =>
    ⟨_, _, _, List.getElem?_eq_getElem (by omega), List.getElem?_eq_getElem hj, List.getElem?_eq_getElem (by omega)⟩
  have hkt : KT H kvs ps := by
    rw [hkvs, hps]
    have go : ∀ (xs : List (α × β)) (rs : List (Addr × Addr × V)) (us : List Value), rs.length = xs.length → us.length = rs.length → (∀ (j : Nat) x r u, xs[j]? = some x → rs[j]? = some r → us[j]? = some u → H r.2.1 = some (.tup ((ikeys (IK.ks x.1)).map kV)) ∧ RelV r.2.2 u) →
        KT H ((List.zip xs rs).map fun z => (ikeys (IK.ks z.1.1), z.2.2.2)) ((List.zip xs (List.zip rs us)).map fun z => (ikeys (IK.ks z.1.1), z.2.1.2.1, z.2.2)) := fun xs => by
      induction xs with
      | nil =>
        intro rs us h1 h2 _
        obtain rfl := List.eq_nil_of_length_eq_zero h1
        exact .nil
      | cons x xs ih =>
        intro rs us h1 h2 h3
        cases rs with
        | nil => cases h1
        | cons r rs =>
          cases us with
          | nil => cases h2
          | cons u us =>
            obtain ⟨h4, h5⟩ := h3 0 x r u rfl rfl rfl
            exact .cons ⟨rfl, h4, h5⟩ (ih rs us (by simpa using h1) (by simpa using h2) fun j x r u a b c => h3 (j + 1) x r u a b c)
    refine go xs rs us e2 hul fun j x r u h1 h2 h3 => ?_
    exact ⟨(row j x r h1 h2).2.1, (hus j r u h2 h3).2⟩
  have hlast : (putAllK [] kvs).length ≤ xs.length := by
    have := putAllK_len kvs []
    rw [hkvs] at this ⊢
    rw [List.length_map, List.length_zip, List.length_nil] at this
    omega
  have hsz : rs.length ≤ sizeLine := by rw [List.length_map] at hz; exact hz
  have key : ∀ x ∈ ps, (tupleKind (mixKind X.prog X.w)).is s.heap x.1 x.2.1 := fun x hx => by
    obtain ⟨j, hj⟩ := List.mem_iff_getElem?.mp hx
    have hjl : j < rs.length := by rw [← psl]; exact (List.getElem?_eq_some_iff.mp hj).1
    obtain ⟨y, r, u, h1, h2, h3⟩ := all3 j hjl
    rw [psg j y r u h1 h2 h3] at hj
    cases hj
    exact key_of I.hok (row j y r h1 h2).2.1
  refine call_dict_pairsH (knd := tupleKind (mixKind X.prog X.w)) (ps := ps) (PairArg.list a its.toArray (fun j => ((rs[j]?).map (·.1)).getD 0) (ps.map fun p => (Value.ref p.2.1, p.2.2))) (I.ok.hd hcalm) (tupleKind_room_in1 (by simp only [Around.in1_units]; omega)) ⟨⟨o, n, ho, hc, hd, hdat⟩, ?_, ?_⟩ ⟨?_, ?_⟩ ?_ (by rw [List.length_map, psl]; exact hsz) fun h' tk dd hk => ?_
  · rw [List.size_toArray, List.length_map, psl]; exact hil
  · intro j k v hj
    rw [List.getElem?_map] at hj
    obtain ⟨p, hp, ep⟩ := Option.map_eq_some_iff.mp hj
    have hjl : j < rs.length := by rw [← psl]; exact (List.getElem?_eq_some_iff.mp hp).1
    obtain ⟨y, r, u, h1, h2, h3⟩ := all3 j hjl
    rw [psg j y r u h1 h2 h3] at hp
    cases hp
    cases ep
    refine ⟨?_, ?_⟩
    · have rv2 : Vals ((rs.map (·.1)).map V.ref) its := by rw [List.map_map]; exact rv
      have e9 := refs_at rv2
      have e10 : ((rs[j]?).map (·.1)).getD 0 = r.1 := by rw [h2]; rfl
      show _ = some (Value.ref (((rs[j]?).map (·.1)).getD 0))
      rw [e10, List.getElem?_toArray, e9, List.getElem?_map, List.getElem?_map, h2]
      rfl
    · show PairAt s.heap (((rs[j]?).map (·.1)).getD 0) _ _
      rw [h2]
      obtain ⟨o2, ho2, hc2, n2, hd2⟩ := (hus j r u h2 h3).1
      exact .inl ⟨o2, ho2, hc2, n2, hd2⟩
  · rw [List.length_map]
  · intro i k v hi
    have hi' : (ps.map fun p => (Value.ref p.2.1, p.2.2))[i]? = some (k, v) := hi
    rw [List.getElem?_map] at hi'
    obtain ⟨p, hp, ep⟩ := Option.map_eq_some_iff.mp hi'
    cases ep
    exact ⟨p.1, p.2.1, hp, rfl⟩
  · intro h' hk x hx
    obtain ⟨o2, items, n2, g1, g2, g3, g4⟩ := key x hx
    exact ⟨o2, items, n2, hk _ _ (Nat.ne_of_lt (Heap.lt_size g1)) (fun z => nomatch z) g1, g2, g3, g4⟩
  · have hm : (s.heap.objs.size == sysModules) = false := beq_eq_false_iff_ne.mpr (Nat.ne_of_gt I.big)
    obtain ⟨od, es, ep, d1, d2, d3, d4, d5, d6⟩ := dd
    have hn : H s.heap.objs.size = none := I.hok.fresh (Nat.le_refl _)
    have kt2 : KT H (putAllK [] kvs) (storedAllH [] ps) := kt_all .nil hkt
    refine ⟨.ref s.heap.objs.size, upd H s.heap.objs.size (.dT (putAllK [] kvs)), I.laid (t' := tk) (fun b o e => hk b o (fun z => nomatch z) e) (Nat.le_refl _) (show ObjOk X.prog X.w _ _ _ (.dT (putAllK [] kvs)) from ⟨by rw [List.length_map] at hz; omega, hm, storedAllH [] ps, Paired.mapP kt2 fun p q z => ⟨z.1, by rw [upd_ne (ne_of_none z.2.1 hn)]; exact z.2.1, z.2.2⟩, od, es, ep, d1, d2, d3, d4, d6⟩), rfl, q _ _ hn hlast (fun F hFH hF => ?_)⟩
    refine rd_all RD.nil ?_
    rw [hkvs]
    have go : ∀ (xs : List (α × β)) (rs : List (Addr × Addr × V)), rs.length = xs.length → (∀ (j : Nat) x r, xs[j]? = some x → rs[j]? = some r → R X.K F r.2.2 x.2) → RD (α := α) (β := β) X.K F ((List.zip xs rs).map fun z => (ikeys (IK.ks z.1.1), z.2.2.2)) xs := fun xs => by
      induction xs with
      | nil =>
        intro rs h1 _
        obtain rfl := List.eq_nil_of_length_eq_zero h1
        exact RD.nil
      | cons x xs ih =>
        intro rs h1 h2
        cases rs with
        | nil => cases h1
        | cons r rs => exact RD.cons_iff.mpr ⟨⟨rfl, h2 0 x r rfl rfl, trivial⟩, ih rs (by simpa using h1) fun j x r a b => h2 (j + 1) x r a b⟩
    refine go xs rs e2 fun j x r h1 h2 => ?_
    obtain ⟨y, hy, ry⟩ := RL.get hF (v := V.ref r.1) (i := j) (by rw [List.getElem?_map, h2]; rfl)
    rw [h1] at hy
    cases hy
    obtain ⟨p, v1, v2, e, hp, r1, r2⟩ := R.p2_s ry
    cases e
    have := hFH _ _ hp
    rw [(row j x r h1 h2).1] at this
    cases this
    exact r2
end
end G
/-! My base, part 29: < > <= >= of data of one type (ints, texts, lists, tuples of these). -/
namespace G
open PySem PySem.Spec PyProof.Rows L2 TL
/-- two of the type can be put in order, place by place -/
class Alk (α : Type) [Enc α] : Prop where
  ak : ∀ x y : α, PySem.W.alike (Enc.d x) (Enc.d y) = true
  nn : ∀ x : α, Enc.d x ≠ PyData.none
open PySem.W (alike alikeAll)
theorem alikeAll_enc {α : Type} [Enc α] [Alk α] : ∀ xs ys : List α, alikeAll (xs.map Enc.d) (ys.map Enc.d) = true
  | [], _ => by rw [List.map_nil, alikeAll]
  | _ :: _, [] => by rw [List.map_nil, List.map_cons, alikeAll]
  | x :: xs, y :: ys => by
    rw [List.map_cons, List.map_cons, alikeAll, Alk.ak x y, alikeAll_enc xs ys]
    rfl
instance : Alk Int := ⟨fun x y => by show alike (.int x) (.int y) = true; simp only [alike], fun x h => nomatch h⟩
instance : Alk Str := ⟨fun x y => by show alike (.str x) (.str y) = true; simp only [alike], fun x h => nomatch h⟩
instance {α : Type} [Enc α] [Alk α] : Alk (List α) := ⟨fun x y => by show alike (.list _) (.list _) = true; simp only [alike]; exact alikeAll_enc x y, fun x h => nomatch h⟩
instance {α β : Type} [Enc α] [Enc β] [Alk α] [Alk β] : Alk (α × β) := ⟨fun x y => by show alike (.tuple [_, _]) (.tuple [_, _]) = true; simp only [alike, alikeAll, Alk.ak, Bool.and_self], fun x h => nomatch h⟩
/-- x < y -/
def ltD {α : Type} [Enc α] (x y : α) : Bool := PySem.W.dataLt (Enc.d x) (Enc.d y)
section
variable {K : PySem.W.Frag} {X : Cx}
def rOrd (α : Type) [Enc α] (f : α → α → Bool) (K : PySem.W.Frag) : R2 := fun x y H Q => ∃ d e : α, R K H x d ∧ R K H y e ∧ Q (.bl (f d e)) H
theorem op_gtD {α : Type} [Enc α] [Alk α] [Dep α] (hd : Dep.n α ≤ 64) (hu : X.A.units + 64 < cLine) : OpR X (compareOp .Gt) (rOrd α (fun x y => ltD y x) X.K) := by
  intro pins s σ H x y v u Q I rx ry h
  obtain ⟨d, e, hd, he, q⟩ := h
  obtain ⟨as, r1⟩ := Dp.reads I _ x v (Rp.dp _ _ hd) rx
  obtain ⟨bs, r2⟩ := Dp.reads I _ y u (Rp.dp _ _ he) ry
  exact PySem.W.rcGt_alike _ _ _ _ _ _ _ _ r1 r2 (Alk.ak d e) (Alk.nn d) (SeqAt.room_of_shaped (R.shaped hd (by assumption)) hu) _ _ _ _ ⟨.bl _, H, I, rfl, q⟩
theorem op_ltD {α : Type} [Enc α] [Alk α] [Dep α] (hd : Dep.n α ≤ 64) (hu : X.A.units + 64 < cLine) : OpR X (compareOp .Lt) (rOrd α (fun x y => ltD x y) X.K) := by
  intro pins s σ H x y v u Q I rx ry h
  obtain ⟨d, e, hd, he, q⟩ := h
  obtain ⟨as, r1⟩ := Dp.reads I _ x v (Rp.dp _ _ hd) rx
  obtain ⟨bs, r2⟩ := Dp.reads I _ y u (Rp.dp _ _ he) ry
  exact PySem.W.rcLt_alike _ _ _ _ _ _ _ _ r1 r2 (Alk.ak d e) (Alk.nn d) (SeqAt.room_of_shaped (R.shaped hd (by assumption)) hu) _ _ _ _ ⟨.bl _, H, I, rfl, q⟩
theorem op_leD {α : Type} [Enc α] [Alk α] [Dep α] (hd : Dep.n α ≤ 64) (hu : X.A.units + 64 < cLine) : OpR X (compareOp .LtE) (rOrd α (fun x y => !ltD y x) X.K) := by
  intro pins s σ H x y v u Q I rx ry h
  obtain ⟨d, e, hd, he, q⟩ := h
  obtain ⟨as, r1⟩ := Dp.reads I _ x v (Rp.dp _ _ hd) rx
  obtain ⟨bs, r2⟩ := Dp.reads I _ y u (Rp.dp _ _ he) ry
  exact PySem.W.rcLe_alike _ _ _ _ _ _ _ _ r1 r2 (Alk.ak d e) (Alk.nn d) (SeqAt.room_of_shaped (R.shaped hd (by assumption)) hu) _ _ _ _ ⟨.bl _, H, I, rfl, q⟩
theorem op_geD {α : Type} [Enc α] [Alk α] [Dep α] (hd : Dep.n α ≤ 64) (hu : X.A.units + 64 < cLine) : OpR X (compareOp .GtE) (rOrd α (fun x y => !ltD x y) X.K) := by
  intro pins s σ H x y v u Q I rx ry h
  obtain ⟨d, e, hd, he, q⟩ := h
  obtain ⟨as, r1⟩ := Dp.reads I _ x v (Rp.dp _ _ hd) rx
  obtain ⟨bs, r2⟩ := Dp.reads I _ y u (Rp.dp _ _ he) ry
  exact PySem.W.rcGe_alike _ _ _ _ _ _ _ _ r1 r2 (Alk.ak d e) (Alk.nn d) (SeqAt.room_of_shaped (R.shaped hd (by assumption)) hu) _ _ _ _ ⟨.bl _, H, I, rfl, q⟩
end
section
variable {K : PySem.W.Frag} {X : Cx}
theorem op_gtDK {α : Type} [Enc α] [Alk α] [Dep α] (hu : X.A.units + 64 < cLine) (hd : Dep.n α ≤ 64 := by decide) (h : X.K = K := by rfl) : OpR X (compareOp .Gt) (rOrd α (fun x y => ltD y x) K) := by subst h; exact op_gtD hd hu
theorem op_ltDK {α : Type} [Enc α] [Alk α] [Dep α] (hu : X.A.units + 64 < cLine) (hd : Dep.n α ≤ 64 := by decide) (h : X.K = K := by rfl) : OpR X (compareOp .Lt) (rOrd α (fun x y => ltD x y) K) := by subst h; exact op_ltD hd hu
theorem op_leDK {α : Type} [Enc α] [Alk α] [Dep α] (hu : X.A.units + 64 < cLine) (hd : Dep.n α ≤ 64 := by decide) (h : X.K = K := by rfl) : OpR X (compareOp .LtE) (rOrd α (fun x y => !ltD y x) K) := by subst h; exact op_leD hd hu
theorem op_geDK {α : Type} [Enc α] [Alk α] [Dep α] (hu : X.A.units + 64 < cLine) (hd : Dep.n α ≤ 64 := by decide) (h : X.K = K := by rfl) : OpR X (compareOp .GtE) (rOrd α (fun x y => !ltD x y) K) := by subst h; exact op_geD hd hu
end
/-! what the order is -/
theorem ltD_ints (xs ys : List Int) : ltD xs ys = decide (xs < ys) := by
  have h := PySem.W.dataLt_ints xs ys
  rw [← h]
  exact PySem.W.dataLt_list _ _
theorem ltD_int (x y : Int) : ltD x y = decide (x < y) := PySem.W.dataLt_int x y
theorem ltD_p2 {α β : Type} [Enc α] [Enc β] [Alk α] [Alk β] (x y : α × β) : ltD x y = if eqD x.1 y.1 = true then (if eqD x.2 y.2 = true then false else ltD x.2 y.2) else ltD x.1 y.1 :=
  PySem.W.dataLt_pair (Alk.ak x.1 y.1) (Alk.ak x.2 y.2)
theorem call_dictTK {α β : Type} [Enc α] [IK α] [Enc β] [DecidableEq α] {X : Cx} {K : PySem.W.Frag} (hcalm : X.calm = true) (hu : X.A.units + 64 < cLine) (h : X.K = K := by rfl) : CallR X (.type "dict") (rDictT α β K) := by
  subst h
  exact call_dictT hcalm (by omega)
end G
/-! My base, part 30: list(range(n)). -/
namespace G
open PySem PySem.Spec PyProof.Rows L2 TL
section
variable {X : Cx}
theorem cr_range1 : CallR X (.type "range") (fun vs H Q => ∃ j, vs = [V.int j] ∧ ∀ p, H p = none → Q (.ref p) (upd H p (.rng 0 j))) := by
  intro pins s σ H vs us Q I r h
  obtain ⟨j, rfl, q⟩ := h
  obtain ⟨u1, rfl, ri⟩ := vals1 r
  obtain ⟨t, rfl⟩ := ri
  refine call_range_1 ⟨.ref s.heap.objs.size, upd H s.heap.objs.size (.rng 0 j), I.laid (t' := s.toks + 2) (fun b o e => Heap.get?_push_of_some _ e) (Nat.le_refl _) ?_, rfl, q _ (I.hok.fresh (Nat.le_refl _))⟩
  exact ⟨_, _, _, Heap.get?_push_size _ rfl⟩
theorem cr_listRng (hc : X.calm = true) : CallR X (.type "list") (fun vs H Q => ∃ p lo hi, vs = [V.ref p] ∧ H p = some (.rng lo hi) ∧ (-(2 ^ 62) ≤ lo ∧ lo < 2 ^ 62 ∧ -(2 ^ 62) ≤ hi ∧ hi < 2 ^ 62) ∧ (hi - lo).toNat ≤ sizeLine ∧
    ∀ q, H q = none → Q (.ref q) (upd H q (.lst ((rangeL lo (hi - lo).toNat).map V.int)))) := by
  intro pins s σ H vs us Q I r h
  obtain ⟨p, lo, hi, rfl, hp, hb, hz, q⟩ := h
  obtain ⟨u1, rfl, ri⟩ := vals1 r
  obtain rfl : u1 = .ref p := ri
  obtain ⟨t, u, v, ho⟩ := I.hok _ _ hp
  refine call_list_range (n := (hi - lo).toNat) (I.ok.hd hc) ho (small_one hb.1 hb.2.1 hb.2.2.1 hb.2.2.2) (rangeSize_nat _ _) (by rw [sizeLine_eq] at hz; omega) fun h' tk acc c hk hD hI => ?_
  refine ⟨.ref s.heap.objs.size, upd H s.heap.objs.size (.lst ((rangeL lo (hi - lo).toNat).map V.int)), I.laid (t' := tk) hk (Nat.le_refl _) (show ObjOk X.prog X.w _ _ _ (.lst _) from ⟨by rw [List.length_map, rangeL_len]; exact hz, acc.toList, c, ?_, by rw [Array.toArray_toList]; exact hD⟩), rfl, q _ (I.hok.fresh (Nat.le_refl _))⟩
  obtain ⟨h1, h2⟩ := hI
  have go : ∀ (n : Nat) (k : Nat) (vs : List Value), vs.length = n → (∀ i v, vs[i]? = some v → ∃ t, v = Value.int (lo + ((k + i : Nat) : Int) * 1) t) → Vals ((List.range' k n).map fun j => V.int (lo + (j : Nat))) vs := fun n => by
    induction n with
    | zero =>
      intro k vs e _
      obtain rfl := List.eq_nil_of_length_eq_zero e
      exact .nil
    | succ n ih =>
      intro k vs e hv
      cases vs with
      | nil => cases e
      | cons v vs =>
        rw [List.range'_succ, List.map_cons]
        refine .cons ?_ (ih (k + 1) vs (by simpa using e) fun i w hw => ?_)
        · obtain ⟨t, e2⟩ := hv 0 v rfl
          rw [Int.mul_one] at e2
          exact ⟨t, e2⟩
        · obtain ⟨t, e2⟩ := hv (i + 1) w (by simpa using hw)
          exact ⟨t, by rw [e2]; congr 3; omega⟩
  have := go (hi - lo).toNat 0 acc.toList (by rw [Array.length_toList]; exact h1) fun i v hv => by
    obtain ⟨t, e⟩ := h2 i v (by rw [← hv, Array.getElem?_toList])
    exact ⟨t, by rw [e, Nat.zero_add]⟩
  unfold rangeL
  rw [List.map_map, List.range_eq_range']
  exact this
end
end G
/-! My base, part 31: dict comprehensions, the keys of any kind that a dict of one's own can have. -/
namespace G
open PySem PySem.Spec PyProof.Rows L2 TL
/-- how a dict of a kind begins, and how it takes a value -/
structure StoreOk (S : Hp → Addr → V → V → Hp → Prop) (ob0 : HO) : Prop where
  empty : ∀ (P : Program) (w : World) (H : Hp) (h : Heap), sysModules < h.objs.size → ObjOk P w H (h.push { cls := .type "dict", data := .dict #[] }) h.objs.size ob0
  set : ∀ {X : Cx} {pins : List (Addr × Obj)} {σ : L2.St} {H H' : Hp} {s : Shared} {E : Value → Shared → Prop} {D : Addr} {y z : V} {u r : Value} {Q : Unit → Shared → Prop}, X.A.units + 1 < cLine → Inv X pins σ H s → S H D y z H' → RelV y u → RelV z r →
    (∀ s', Inv X pins σ H' s' → Q () s') → wpAny (model X.prog X.w) X.A (dictSet D u r) Q E s
theorem store_put {X : Cx} {pins : List (Addr × Obj)} {σ : L2.St} {H H' : Hp} {s : Shared} {E : Value → Shared → Prop} {D : Addr} {y z : V} {u r : Value} {Q : Unit → Shared → Prop} (hu : X.A.units + 1 < cLine) (I : Inv X pins σ H s) (g : DPut H D y z H') (ry : RelV y u) (rv : RelV z r)
    (h : ∀ s', Inv X pins σ H' s' → Q () s') : wpAny (model X.prog X.w) X.A (dictSet D u r) Q E s := by
  rcases g with ⟨kvs, k, e, rfl, l, rfl⟩ | ⟨kvs, k, b, e, rfl, eb, l, rfl⟩
  · exact d_dictSet I e l ry rv h
  · obtain rfl : u = Value.ref b := ry
    obtain ⟨len, hd, xs, rel, dd⟩ := dt_of I.hok e
    have hz : xs.length ≤ sizeLine := by rw [← Paired.length rel]; exact len
    have hl : (putK kvs k z).length ≤ sizeLine := by have := length_putK kvs k z; omega
    refine wpAny_dictSet_heap (hsz := hz) (knd := tupleKind (mixKind X.prog X.w)) (show X.A.units < cLine by omega) (key_of I.hok eb) dd fun h' dd' hs => h _ ?_
    obtain ⟨q, es, ep, hq, h2, h3, h4, _, h5⟩ := dd'
    refine d_write I (by rw [e]; exact True.intro) hs ⟨q, hq⟩ ⟨hl, hd, _, KT.keeps (rel.put k eb rv) fun c ys ec => ?_, q, es, ep, hq, h2, h3, h4, h5⟩
    rw [upd_ne (ne_of ec e (fun z => nomatch z))]
    exact ec
theorem storeK : StoreOk DPut (.dK []) := ⟨fun P w H h hb => dk_empty h hb, fun hu I g ry rv h => store_put hu I g ry rv h⟩
theorem storeT : StoreOk DPut (.dT []) := ⟨fun P w H h hb => dt_empty h hb, fun hu I g ry rv h => store_put hu I g ry rv h⟩
section
variable {X : Cx}
/-- {k: v for target in iter if ..} into a dict that begins as ob0 and takes by S -/
def tDcS (S : Hp → Addr → V → V → Hp → Prop) (ob0 : HO) (wi : TI) (g : TG) (tt : TT) (tk tv : TE) (vs : List Nat) : TE := fun σ H Q => wi σ H fun J H1 => ∀ D, H1 D = none →
  ∃ W : Nat → Nat → Hp → Prop, (∃ m, W 0 m (upd H1 D ob0)) ∧ ∀ i m H, W i m H →
    (J.stop i H ∧ Q (.ref D) H) ∨ (J.go i H ∧ ∃ Nx : Hp → Prop, (∀ H', Nx H' → ∃ m', m' < m ∧ W (i + 1) m' H') ∧ ∀ x H', J.yld i H x H' → g x (wipe σ vs) H' fun σ2 H2 => wipe σ2 vs = wipe σ vs ∧ tt σ2 H2 fun b H3 =>
      if b = true then tk σ2 H3 fun y H4 => tv σ2 H4 fun z H5 => ∃ H6, S H5 D y z H6 ∧ Nx H6 else Nx H3)
theorem dc_coreS {pins : List (Addr × Obj)} {s : Shared} {σ : L2.St} {H : Hp} {Q : VK} {pos' : Pos} {use : Option (Value → Sem Unit)} {Qf : Value → Shared → Prop} {S : Hp → Addr → V → V → Hp → Prop} {ob0 : HO} (so : StoreOk S ob0) {kx vx tg iter : Expr} {ifs : List Expr} {scope : Scope} {own : List (Str × Nat)} {pos : Pos} {wi : TI} {g : TG} {tt : TT} {tk tv : TE} (hc : X.calm = true) (hu : X.A.units + 1 < cLine) (hN : X.N.Nodup) (I : Inv X pins σ H s)
    (hi : PI X tg iter wi) (ok : BlkOk X.N X.env.scope scope own)
    (hg : ∀ (s : Shared) (H : Hp) (C : Addr) (cl : List (Str × Addr)) (fp : List Addr), PG (X.blk s H scope (compEnvC scope cl C X.env) fp) tg g) (ht : ∀ (s : Shared) (H : Hp) (C : Addr) (cl : List (Str × Addr)) (fp : List Addr), PTs (X.blk s H scope (compEnvC scope cl C X.env) fp) ifs tt)
    (hk : ∀ (s : Shared) (H : Hp) (C : Addr) (cl : List (Str × Addr)) (fp : List Addr), PE (X.blk s H scope (compEnvC scope cl C X.env) fp) kx tk)
    (he : ∀ (s : Shared) (H : Hp) (C : Addr) (cl : List (Str × Addr)) (fp : List Addr), PE (X.blk s H scope (compEnvC scope cl C X.env) fp) vx tv) (hs : ∀ x, foldedSetIterable iter X.env x = pure x)
    (h : tDcS S ob0 wi g tt tk tv (own.map (·.2)) σ H Q)
    (hRR : ∀ D C s' m H', Inv X pins σ H' s' → Q (.ref D) H' → s'.heap.Ns C m → FpOk X pins H' C → compPost (model X.prog X.w) X.A X.xe use Qf (.ref D) C (.ok .next) s') :
    wpAny (model X.prog X.w) X.A (comprehension (.DictComp kx vx [⟨tg, iter, ifs, 0⟩] scope pos) scope X.env pos' newDict false (eval iter X.env) use) Qf X.xe s := by
  have cells : ∀ y ∈ scope.names, y.2 = .free → ∃ c, X.env.cells.lookup y.1 = some c := fun y hy e => (ok.free y hy e).elim (fun k => I.ok.has _ (.inl k)) (fun k => I.ok.has _ (.inr k))
  refine wpAny_comprehension_free (use := use) rfl hs (closure_ok cells) ok.kind (fun y hy e => by rw [ok.uniq y hy, e]) (thn (hi.run pins s σ H _ I h) fun xv s1 hx => thn hx fun itv s2 ⟨it, fp, tn, J, H2, ei, I2, T, st2, f2, q⟩ => ?_)
  subst ei
  refine wpAny_newObj_type (newEnv_comp ?_)
  have hDn : H2 s2.heap.objs.size = none := I2.hok.fresh (Nat.le_refl _)
  obtain ⟨W, ⟨m0, w0⟩, turn⟩ := q _ hDn
  generalize hD : s2.heap.objs.size = D at hDn w0 turn ⊢
  generalize hs3 : ({ s2 with heap := s2.heap.push { cls := .type "dict", data := .dict #[] } } : Shared) = s3
  have h3 : s3.heap = s2.heap.push { cls := .type "dict", data := .dict #[] } := by rw [← hs3]
  have I3 : Inv X pins σ (upd H2 D ob0) s3 := by
    subst hD hs3
    exact I2.laid (t' := s2.toks) (fun b o e => Heap.get?_push_of_some _ e) (Nat.le_refl _) (so.empty _ _ _ _ I2.big)
  have f3 : ∀ b ∈ fp, FpOk X pins (upd H2 D ob0) b ∧ b < s3.heap.objs.size := fun b hb => by
    obtain ⟨o, e, _⟩ := T.obj _ _ st2 b hb
    have hlt := Heap.lt_size e
    exact ⟨⟨by rw [upd_ne (by rw [← hD]; exact Nat.ne_of_lt hlt)]; exact (f2 b hb).1, (f2 b hb).2⟩, by rw [h3, Heap.size_push]; exact Nat.lt_succ_of_lt hlt⟩
  have st3 : tn 0 s3.heap := T.keep _ _ _ st2 fun b _ o e => by rw [h3]; exact Heap.get?_push_of_some _ e
  have I4 := block_start I3 ok hN f3
  have pg := hg s3 (upd H2 D ob0) s3.heap.objs.size (cellsFrom (s3.heap.objs.size + 1) scope.names (cloFrom X.env.cells scope.names [])) fp
  have pt := ht s3 (upd H2 D ob0) s3.heap.objs.size (cellsFrom (s3.heap.objs.size + 1) scope.names (cloFrom X.env.cells scope.names [])) fp
  have pk := hk s3 (upd H2 D ob0) s3.heap.objs.size (cellsFrom (s3.heap.objs.size + 1) scope.names (cloFrom X.env.cells scope.names [])) fp
  have pv := he s3 (upd H2 D ob0) s3.heap.objs.size (cellsFrom (s3.heap.objs.size + 1) scope.names (cloFrom X.env.cells scope.names [])) fp
  show codeAny _ _ (.compStart (.DictComp kx vx [⟨tg, iter, ifs, 0⟩] scope pos) 0 (.ref it) (.ref D) (compEnvC scope (cellsFrom (s3.heap.objs.size + 1) scope.names (cloFrom X.env.cells scope.names [])) s3.heap.objs.size X.env)) (compPost (model X.prog X.w) X.A X.xe use Qf (.ref D) s3.heap.objs.size)
    { s3 with heap := pushCells (s3.heap.push { cls := .type "dict", data := .dict #[] }) scope.names }
  have none3 : ∀ b ∈ fp, (upd H2 D ob0) b = none := fun b hb => (f3 b hb).1.1
  generalize hce : compEnvC scope (cellsFrom (s3.heap.objs.size + 1) scope.names (cloFrom X.env.cells scope.names [])) s3.heap.objs.size X.env = ce at I4 pg pt pk pv ⊢
  have loc : ce.locals = s3.heap.objs.size := by rw [← hce]; rfl
  generalize hH3 : upd H2 D ob0 = H3 at I3 I4 pg pt pk pv w0 none3 f3
  generalize hs4 : ({ s3 with heap := pushCells (s3.heap.push { cls := .type "dict", data := .dict #[] }) scope.names } : Shared) = s4 at I4 ⊢
  have st4 : tn 0 s4.heap := T.keep _ _ _ st3 fun b _ o e => by rw [← hs4]; exact pushCells_keeps _ _ _ _ (Heap.get?_push_of_some _ e)
  have stays : ∀ {σ' : L2.St} {H' : Hp} {s' : Shared}, Inv (X.blk s3 H3 scope ce fp) [] σ' H' s' → (∀ b ∈ fp, H' b = none) → ∀ b ∈ fp, FpOk (X.blk s3 H3 scope ce fp) [] H' b := fun {σ' H' s'} I' hn b hb =>
    ⟨hn b hb, (I'.ok.exf b hb).1, I'.ok.exfs b hb, .inl hb, fun x c e => (I'.ok.exf b hb).2 x c e, fun p hp => nomatch (show p ∈ ([] : List (Addr × Obj)) from hp)⟩
  have loop : codeAny (model X.prog X.w) X.A (.compLoop (.DictComp kx vx [⟨tg, iter, ifs, 0⟩] scope pos) 0 (.ref it) (.ref D) ce) (compPost (model X.prog X.w) X.A X.xe use Qf (.ref D) s3.heap.objs.size) s4 := by
    refine compLoop_anyD (fun n s' => ∃ i H', Inv (X.blk s3 H3 scope ce fp) [] (wipe σ (own.map (·.2))) H' s' ∧ tn i s'.heap ∧ (∀ b ∈ fp, H' b = none) ∧ W i n H') (fun n s5 ⟨i, H5, I5, st5, n5, w5⟩ => ?_) m0 ⟨0, H3, I4, st4, none3, w0⟩
    rcases turn i n H5 w5 with ⟨stop, qq⟩ | ⟨go, Nx, hNx, step⟩
    · -- no more turns
      refine thnF (T.done (X.blk s3 H3 scope ce fp) rfl rfl rfl hc i [] s5 _ H5 (fun _ _ => False) I5 (stays I5 n5) st5 stop) fun r s6 ⟨hr, I6⟩ => ?_
      subst hr
      have I7 : Inv X pins σ H5 s6 := I3.call' (ch := fp) I6.os I6.base I6.hok I6.bare fun b hb => ⟨(f3 b hb).1.2.2.2.1, (f3 b hb).1.2.1, (f3 b hb).1.2.2.2.2.1, (f3 b hb).1.2.2.2.2.2⟩
      have nC : H5 s3.heap.objs.size = none := loc ▸ I6.free
      obtain ⟨m, hn, _⟩ := I6.loc
      have hn : s6.heap.Ns s3.heap.objs.size m := loc ▸ hn
      exact hRR D s3.heap.objs.size s6 m H5 I7 qq hn (I3.fpOk (Nat.le_refl _) nC)
    · -- a turn
      refine thnF (T.item (X.blk s3 H3 scope ce fp) rfl rfl rfl hc i [] s5 _ H5 (fun _ _ => False) I5 (stays I5 n5) st5 go) fun r s6 ⟨u, hr, h6⟩ => ?_
      subst hr
      refine thnF h6 fun _ s7 ⟨x, H7, I7, r7, y7, st7, n7⟩ => ?_
      refine thnF (pg.run _ s7 _ H7 x u _ (I7.pinned (stays I7 n7) (T.obj _ _ st7)) r7 (step x H7 y7)) fun _ s8 ⟨σ8, H8, I8, hw8, q8⟩ => thnF (pt.run _ s8 σ8 H8 _ I8 q8) fun b s9 ⟨H9, I9, q9⟩ => ?_
      have close : ∀ {s' : Shared} {H' : Hp}, Inv (X.blk s3 H3 scope ce fp) ([] ++ pinsAt fp s7.heap) σ8 H' s' → Nx H' → ∃ m, m < n ∧ ∃ i H', Inv (X.blk s3 H3 scope ce fp) [] (wipe σ (own.map (·.2))) H' s' ∧ tn i s'.heap ∧ (∀ b ∈ fp, H' b = none) ∧ W i m H' := fun {s' H'} I' nx => by
        obtain ⟨m', hm, w'⟩ := hNx H' nx
        have pin' : ∀ b ∈ fp, ∀ o, s7.heap.get? b = some o → s'.heap.get? b = some o ∧ H' b = none := fun b hb o e =>
          have z := I'.pin (b, o) (List.mem_append_right _ (List.mem_append_right _ (mem_pinsAt hb e)))
          ⟨z.1, z.2.1⟩
        refine ⟨m', hm, i + 1, H', (I'.unpinned (pins := [])).weak (by rw [← hw8, wipe_length]) (fun j v e => by rw [← hw8] at e; exact (wipe_some e).1), T.keep _ _ _ st7 fun b hb o e => (pin' b hb o e).1, fun b hb => ?_, w'⟩
        obtain ⟨o, e, _⟩ := T.obj _ _ st7 b hb
        exact (pin' b hb o e).2
      cases b with
      | false => exact close I9 q9
      | true =>
        simp only [if_true] at q9 ⊢
        exact thnF (pk.run _ s9 σ8 H9 _ I9 q9) fun ku s10 ⟨yk, H10, I10, r10, q10⟩ => thnF (pv.run _ s10 σ8 H10 _ I10 q10) fun vu s11 ⟨yv, H11, I11, r11, H12, sd, nx⟩ =>
          so.set (X := X.blk s3 H3 scope ce fp) hu I11 sd r10 r11 fun s12 I12 => close I12 nx
  exact codeAny_compStart_dict loop (T.self X.A 0 _ _ _ st4 loop)
theorem pe_dcS {S : Hp → Addr → V → V → Hp → Prop} {ob0 : HO} (so : StoreOk S ob0) {kx vx tg iter : Expr} {ifs : List Expr} {scope : Scope} {own : List (Str × Nat)} {pos : Pos} {wi : TI} {g : TG} {tt : TT} {tk tv : TE} (hc : X.calm = true) (hu : X.A.units + 1 < cLine) (hN : X.N.Nodup)
    (hi : PI X tg iter wi) (ok : BlkOk X.N X.env.scope scope own)
    (hg : ∀ (s : Shared) (H : Hp) (C : Addr) (cl : List (Str × Addr)) (fp : List Addr), PG (X.blk s H scope (compEnvC scope cl C X.env) fp) tg g) (ht : ∀ (s : Shared) (H : Hp) (C : Addr) (cl : List (Str × Addr)) (fp : List Addr), PTs (X.blk s H scope (compEnvC scope cl C X.env) fp) ifs tt)
    (hk : ∀ (s : Shared) (H : Hp) (C : Addr) (cl : List (Str × Addr)) (fp : List Addr), PE (X.blk s H scope (compEnvC scope cl C X.env) fp) kx tk)
    (he : ∀ (s : Shared) (H : Hp) (C : Addr) (cl : List (Str × Addr)) (fp : List Addr), PE (X.blk s H scope (compEnvC scope cl C X.env) fp) vx tv) (hs : ∀ x, foldedSetIterable iter X.env x = pure x := by intro _; rfl) :
    PE X (.DictComp kx vx [⟨tg, iter, ifs, 0⟩] scope pos) (tDcS S ob0 wi g tt tk tv (own.map (·.2))) := by
  refine ⟨fun pins s σ H Q I h => ?_⟩
  rw [arm_eval_DictComp]
  refine dc_coreS so hc hu hN I hi ok hg ht hk he hs h fun D C s' m H' I' q hn f => ⟨m, hn, fun h'' sb => ?_⟩
  obtain ⟨f0, f1, f2, f3, f4, f5⟩ := f
  exact ⟨.ref D, H', I'.turned (t' := s'.toks) (fun b o hb e => (sb.2 b hb).trans e) f0 f1 f3 f4 f5, rfl, q⟩
/-- name = {..}, the name a local -/
theorem ps_setDcS {i : Nat} {y : Str} {py spos : Pos} {S : Hp → Addr → V → V → Hp → Prop} {ob0 : HO} (so : StoreOk S ob0) {kx vx tg iter : Expr} {ifs : List Expr} {scope : Scope} {own : List (Str × Nat)} {pos : Pos} {wi : TI} {g : TG} {tt : TT} {tk tv : TE} (hc : X.calm = true) (hu : X.A.units + 1 < cLine) (hN : X.N.Nodup) (hy : X.N[i]? = some y) (hyl : X.env.scope.names.lookup y = some .local)
    (hsw : swapsWith (.DictComp kx vx [⟨tg, iter, ifs, 0⟩] scope pos) (some (.Name y py)) spos.line X.env = pure true) (hi : PI X tg iter wi) (ok : BlkOk X.N X.env.scope scope own)
    (hg : ∀ (s : Shared) (H : Hp) (C : Addr) (cl : List (Str × Addr)) (fp : List Addr), PG (X.blk s H scope (compEnvC scope cl C X.env) fp) tg g) (ht : ∀ (s : Shared) (H : Hp) (C : Addr) (cl : List (Str × Addr)) (fp : List Addr), PTs (X.blk s H scope (compEnvC scope cl C X.env) fp) ifs tt)
    (hk : ∀ (s : Shared) (H : Hp) (C : Addr) (cl : List (Str × Addr)) (fp : List Addr), PE (X.blk s H scope (compEnvC scope cl C X.env) fp) kx tk)
    (he : ∀ (s : Shared) (H : Hp) (C : Addr) (cl : List (Str × Addr)) (fp : List Addr), PE (X.blk s H scope (compEnvC scope cl C X.env) fp) vx tv) (hs : ∀ x, foldedSetIterable iter X.env x = pure x := by intro _; rfl) :
    PS X (.Assign [.Name y py] (.DictComp kx vx [⟨tg, iter, ifs, 0⟩] scope pos) spos) (tAsg (tDcS S ob0 wi g tt tk tv (own.map (·.2))) (gName i)) := by
  refine ⟨fun pins s σ H D I h => ?_⟩
  rw [exec_Assign_Name_used _ _ _ _ hsw]
  refine wpAny_bind (wpAny_standAt (wpAny_bind ?_))
  show wpAny _ X.A (do let _ ← comprehension (.DictComp kx vx [⟨tg, iter, ifs, 0⟩] scope pos) scope X.env (firstIterPos [⟨tg, iter, ifs, 0⟩] pos) newDict false (eval iter X.env) (some (assign (.Name y py) X.env))) _ _ s
  have h : tDcS S ob0 wi g tt tk tv (own.map (·.2)) σ H (fun x H1 => gName i x σ H1 D.nx) := h
  refine wpAny_bind (thn (dc_coreS (Qf := fun _ s' => SP X pins D .next s') so hc hu hN I hi ok hg ht hk he hs h fun L C s' m H' I' q hn f => ?_) fun _ s' hq => wpAny_pure (wpAny_pure hq))
  show wpAny _ _ (assign (.Name y py) X.env (.ref L)) _ _ _
  refine wpAny_assign_Name (store_ok2 (v := V.ref L) I' hN hy (.inl hyl) rfl (fun s2 I2 ⟨a, sb, ha⟩ => ?_) (.inr hyl))
  obtain ⟨f0, f1, f2, f3, f4, f5⟩ := f
  have haC : C ≠ a := by
    rcases ha with z | z
    · rw [z]; exact f1
    · exact fun e => f4 y a z e.symm
  refine ⟨m, hn.sameBut sb haC, fun h3 sb3 => ?_⟩
  exact ⟨_, H', I2.turned (t' := s2.toks) (fun b o hb e => (sb3.2 b hb).trans e) f0 f1 f3 f4 f5, q⟩
theorem sw_trueD {kx vx : Expr} {gs : List Comprehension} {scope : Scope} {pos py : Pos} {y : Str} {l : Nat} {env : Env} (hk : env.scope.kind = .function) (hy : env.scope.names.lookup y = some .local) (hl : (py.line == pos.line) = true)
    (ha : (scope.names.any fun (n, k) => n == y && (k == .local || k == .cell)) = false) : swapsWith (.DictComp kx vx gs scope pos) (some (.Name y py)) l env = pure true := by
  have ky : env.kindOf y = some .local := hy
  have hb : env.blockKind = .function := by unfold Env.blockKind; rw [hk]; rfl
  unfold swapsWith
  simp only [hb, ky, ha, Expr.pos, hl]
  rfl
end
end G
/-! My base, part 32: walks of dict comprehensions; a < b < c whose last part has effects. -/
namespace G
open PySem PySem.Spec PyProof.Rows L2 TL
section
variable {J : It} {n : Nat} {Gd : Hp → Prop} {Y : Nat → Hp → V → Hp → Prop} {S : Hp → Addr → V → V → Hp → Prop} {ob0 : HO} {g : TG} {tt : TT} {tk tv : TE} {vs : List Nat} {σ : L2.St} {H1 : Hp} {D : Addr} {Qd : Hp → Prop} {K : PySem.W.Frag}
theorem dS_it (w : Walk J n Gd Y) (Pv : Nat → Hp → Prop) (h0 : Pv 0 (upd H1 D ob0)) (hG : ∀ i H, i ≤ n → Pv i H → Gd H)
    (hs : ∀ i x H H', i < n → Pv i H → Y i H x H' → g x (wipe σ vs) H' fun σ2 H2 => wipe σ2 vs = wipe σ vs ∧ tt σ2 H2 fun b H3 =>
      if b = true then tk σ2 H3 fun y H4 => tv σ2 H4 fun z H5 => ∃ H6, S H5 D y z H6 ∧ Pv (i + 1) H6 else Pv (i + 1) H3) (hd : ∀ H, Pv n H → Qd H) :
    ∃ W : Nat → Nat → Hp → Prop, (∃ m, W 0 m (upd H1 D ob0)) ∧ ∀ i m H, W i m H →
      (J.stop i H ∧ Qd H) ∨ (J.go i H ∧ ∃ Nx : Hp → Prop, (∀ H', Nx H' → ∃ m', m' < m ∧ W (i + 1) m' H') ∧ ∀ x H', J.yld i H x H' → g x (wipe σ vs) H' fun σ2 H2 => wipe σ2 vs = wipe σ vs ∧ tt σ2 H2 fun b H3 =>
        if b = true then tk σ2 H3 fun y H4 => tv σ2 H4 fun z H5 => ∃ H6, S H5 D y z H6 ∧ Nx H6 else Nx H3) := by
  refine ⟨fun i m H => m = n - i ∧ i ≤ n ∧ Pv i H, ⟨n, by simp, Nat.zero_le _, h0⟩, ?_⟩
  rintro i m H ⟨rfl, hi, p⟩
  have q := hG i H hi p
  by_cases hlt : i < n
  · exact .inr ⟨w.goes i H hlt q, Pv (i + 1), fun H' p' => ⟨n - (i + 1), by omega, rfl, hlt, p'⟩, fun x H' y => hs i x H H' hlt p (w.yields i H x H' hlt q y)⟩
  · have e : i = n := by omega
    subst e
    exact .inl ⟨w.stops H q, hd H p⟩
abbrev DcGoal (S : Hp → Addr → V → V → Hp → Prop) (ob0 : HO) (J : It) (g : TG) (tt : TT) (tk tv : TE) (vs : List Nat) (σ : L2.St) (H1 : Hp) (D : Addr) (Qd : Hp → Prop) : Prop :=
    ∃ W : Nat → Nat → Hp → Prop, (∃ m, W 0 m (upd H1 D ob0)) ∧ ∀ i m H, W i m H →
      (J.stop i H ∧ Qd H) ∨ (J.go i H ∧ ∃ Nx : Hp → Prop, (∀ H', Nx H' → ∃ m', m' < m ∧ W (i + 1) m' H') ∧ ∀ x H', J.yld i H x H' → g x (wipe σ vs) H' fun σ2 H2 => wipe σ2 vs = wipe σ vs ∧ tt σ2 H2 fun b H3 =>
        if b = true then tk σ2 H3 fun y H4 => tv σ2 H4 fun z H5 => ∃ H6, S H5 D y z H6 ∧ Nx H6 else Nx H3)
abbrev DcStep (S : Hp → Addr → V → V → Hp → Prop) (g : TG) (tt : TT) (tk tv : TE) (vs : List Nat) (σ : L2.St) (D : Addr) (N : Hp → Prop) (x : V) (H : Hp) : Prop :=
  g x (wipe σ vs) H fun σ2 H2 => wipe σ2 vs = wipe σ vs ∧ tt σ2 H2 fun b H3 => if b = true then tk σ2 H3 fun y H4 => tv σ2 H4 fun z H5 => ∃ H6, S H5 D y z H6 ∧ N H6 else N H3
theorem dS_list {a : Addr} {xs : List V} (Pv : Nat → Hp → Prop) (h0 : Pv 0 (upd H1 D ob0)) (hl : ∀ i H, i ≤ xs.length → Pv i H → SqL K H a xs)
    (hs : ∀ i x H, xs[i]? = some x → Pv i H → DcStep S g tt tk tv vs σ D (Pv (i + 1)) x H) (hd : ∀ H, Pv xs.length H → Qd H) : DcGoal S ob0 (Itl K a) g tt tk tv vs σ H1 D Qd :=
  dS_it walk_list Pv h0 hl (fun i x H H' _ p y => by obtain ⟨e, y⟩ := y; subst e; exact hs i x _ y p) hd
theorem dS_tup {a : Addr} {xs : List V} (Pv : Nat → Hp → Prop) (h0 : Pv 0 (upd H1 D ob0)) (hl : ∀ i H, i ≤ xs.length → Pv i H → SqT K H a xs)
    (hs : ∀ i x H, xs[i]? = some x → Pv i H → DcStep S g tt tk tv vs σ D (Pv (i + 1)) x H) (hd : ∀ H, Pv xs.length H → Qd H) : DcGoal S ob0 (Itt K a) g tt tk tv vs σ H1 D Qd :=
  dS_it walk_tup Pv h0 hl (fun i x H H' _ p y => by obtain ⟨e, y⟩ := y; subst e; exact hs i x _ y p) hd
theorem dS_range {lo : Int} {n : Nat} (Pv : Nat → Hp → Prop) (h0 : Pv 0 (upd H1 D ob0))
    (hs : ∀ i H, i < n → Pv i H → DcStep S g tt tk tv vs σ D (Pv (i + 1)) (.int (lo + i)) H) (hd : ∀ H, Pv n H → Qd H) : DcGoal S ob0 (Itr lo n) g tt tk tv vs σ H1 D Qd :=
  dS_it walk_range Pv h0 (fun _ _ _ _ => trivial) (fun i x H H' hi p y => by obtain ⟨e, y⟩ := y; subst e y; exact hs i _ hi p) hd
theorem dS_zip {a b : Addr} {xs ys : List V} (Pv : Nat → Hp → Prop) (h0 : Pv 0 (upd H1 D ob0)) (hl : ∀ i H, i ≤ min xs.length ys.length → Pv i H → SqL K H a xs ∧ SqL K H b ys)
    (hs : ∀ i x y T H, xs[i]? = some x → ys[i]? = some y → H T = none → Pv i H → DcStep S g tt tk tv vs σ D (Pv (i + 1)) (.ref T) (upd H T (.tup [x, y]))) (hd : ∀ H, Pv (min xs.length ys.length) H → Qd H) : DcGoal S ob0 (Itz K a b) g tt tk tv vs σ H1 D Qd :=
  dS_it (walk_zip rfl) Pv h0 hl (fun i v H H' _ p ⟨T, x, y, e1, e2, e3, e4, e5⟩ => by subst e1 e3; exact hs i x y T H e4 e5 e2 p) hd
theorem dS_enum {a : Addr} {xs : List V} (Pv : Nat → Hp → Prop) (h0 : Pv 0 (upd H1 D ob0)) (hl : ∀ i H, i ≤ xs.length → Pv i H → SqL K H a xs)
    (hs : ∀ i x T H, xs[i]? = some x → H T = none → Pv i H → DcStep S g tt tk tv vs σ D (Pv (i + 1)) (.ref T) (upd H T (.tup [.int (i : Nat), x]))) (hd : ∀ H, Pv xs.length H → Qd H) : DcGoal S ob0 (Ite K a) g tt tk tv vs σ H1 D Qd :=
  dS_it walk_enum Pv h0 hl (fun i v H H' _ p ⟨T, x, y, e1, e2, e3, e4, e5⟩ => by
    subst e1 e3
    cases e4
    exact hs i y T H e5 e2 p) hd
theorem dS_str {z : Str} (Pv : Nat → Hp → Prop) (h0 : Pv 0 (upd H1 D ob0))
    (hs : ∀ i c H, z.cps[i]? = some c → Pv i H → DcStep S g tt tk tv vs σ D (Pv (i + 1)) (.str (sgn c)) H) (hd : ∀ H, Pv z.cps.size H → Qd H) : DcGoal S ob0 (Its z) g tt tk tv vs σ H1 D Qd :=
  dS_it walk_str Pv h0 (fun _ _ _ _ => trivial) (fun i x H H' _ p y => by
    obtain ⟨rfl, c, hc, rfl⟩ := y
    exact hs i c _ hc p) hd
theorem dS_keysT {d : Addr} {o : Obj} {kvs : List (List Key × V)} (Pv : Nat → Hp → Prop) (h0 : Pv 0 (upd H1 D ob0)) (hG : ∀ i H, i ≤ kvs.length → Pv i H → H d = some (.frz o (.dT kvs)))
    (hs : ∀ i k v q H, kvs[i]? = some (k, v) → H q = some (.tup (k.map kV)) → Pv i H → DcStep S g tt tk tv vs σ D (Pv (i + 1)) (.ref q) H) (hd : ∀ H, Pv kvs.length H → Qd H) : DcGoal S ob0 (Itkt d o kvs) g tt tk tv vs σ H1 D Qd :=
  dS_it walk_keysT Pv h0 hG (fun i x H H' hi p ⟨e1, k, v, q, e2, e3, e4⟩ => by subst e1 e3; exact hs i k v q _ e2 e4 p) hd
theorem dS_keysK {d : Addr} {o : Obj} {kvs : List (Key × V)} (Pv : Nat → Hp → Prop) (h0 : Pv 0 (upd H1 D ob0)) (hG : ∀ i H, i ≤ kvs.length → Pv i H → H d = some (.frz o (.dK kvs)))
    (hs : ∀ i k v H, kvs[i]? = some (k, v) → Pv i H → DcStep S g tt tk tv vs σ D (Pv (i + 1)) (kV k) H) (hd : ∀ H, Pv kvs.length H → Qd H) : DcGoal S ob0 (Itk d o kvs) g tt tk tv vs σ H1 D Qd :=
  dS_it walk_keysK Pv h0 hG (fun i x H H' hi p ⟨e1, k, v, e2, e3⟩ => by subst e1 e3; exact hs i k v _ e2 p) hd
theorem dS_itemsT {d : Addr} {o : Obj} {kvs : List (List Key × V)} (Pv : Nat → Hp → Prop) (h0 : Pv 0 (upd H1 D ob0)) (hG : ∀ i H, i ≤ kvs.length → Pv i H → H d = some (.frz o (.dT kvs)))
    (hs : ∀ i k v q T H, kvs[i]? = some (k, v) → H q = some (.tup (k.map kV)) → H T = none → Pv i H → DcStep S g tt tk tv vs σ D (Pv (i + 1)) (.ref T) (upd H T (.tup [.ref q, v]))) (hd : ∀ H, Pv kvs.length H → Qd H) : DcGoal S ob0 (ItiT d o kvs) g tt tk tv vs σ H1 D Qd :=
  dS_it walk_itemsT Pv h0 hG (fun i x H H' hi p ⟨T, k, v, q, e2, e3, e4, e5, e6⟩ => by subst e3 e6; exact hs i k v q T _ e2 e5 e4 p) hd
end
theorem dputAll_snoc {α β : Type} [DecidableEq α] : ∀ (xs : List (α × β)) (D : List (α × β)) (x : α) (y : β), dputAll D (xs ++ [(x, y)]) = dput (dputAll D xs) x y
  | [], _, _, _ => rfl
  | p :: xs, D, x, y => dputAll_snoc xs (dput D p.1 p.2) x y
section
variable {M : Addr → Prop} {F H : Hp} {σ : L2.St} {tc : TE} {r' : R2} {y : V} {Q : VK} {a c : Bool} {P : Hp → Hp → Prop}
theorem chJV (h2 : a = true → ∀ Q : VK, (∀ F' H', Gr M F H F' H' → P F' H' → Q (.bl c) H') → tc σ H fun w' H4 => r' y w' H4 Q) (h3 : a = false → c = false ∧ P F H) (fh : Same F H)
    (q : ∀ F' H', Gr M F H F' H' → P F' H' → Q (.bl c) H') : if a = true then (tc σ H fun w' H4 => r' y w' H4 Q) else Q (.bl false) H :=
  andJV (tb := fun σ H Q => tc σ H fun w' H4 => r' y w' H4 Q) h2 h3 fh q
end
/-- a list of one kind or of another -/
def lenA {α β : Type} : List α ⊕ List β → Nat
  | .inl xs => xs.length
  | .inr ys => ys.length
theorem R.alt_lst {α β : Type} [Enc α] [Enc β] {K : PySem.W.Frag} {F : Hp} {v : V} {x : List α ⊕ List β} (h : R K F v x) : ∃ p ws, v = .ref p ∧ SqL K F p ws ∧ ws.length = lenA x := by
  cases x with
  | inl xs =>
    obtain ⟨p, ws, e, hS, _, hA⟩ := R.lst_v (show R K F v xs from h)
    exact ⟨p, ws, e, hS, RL.len hA⟩
  | inr xs =>
    obtain ⟨p, ws, e, hS, _, hA⟩ := R.lst_v (show R K F v xs from h)
    exact ⟨p, ws, e, hS, RL.len hA⟩
end G
/-! Plain laws: how the makings come out. -/
namespace G
open PySem PySem.Spec PyProof.Rows L2 TL
section
variable {α β γ δ S : Type} {I : S → Prop}
def O1 (o : Option α) (P : α → Prop) : Prop := ∃ a, o = some a ∧ P a
def O2 (I : S → Prop) (o : Option (α × S)) (P : α → Prop) : Prop := ∃ a b, o = some (a, b) ∧ I b ∧ P a
theorem O1.ret {a : α} {P : α → Prop} (h : P a) : O1 (some a) P := ⟨a, rfl, h⟩
theorem O1.imp {o : Option α} {P Q : α → Prop} (h : O1 o P) (k : ∀ a, P a → Q a) : O1 o Q := let ⟨a, e, p⟩ := h; ⟨a, e, k a p⟩
theorem O1.bind {o : Option α} {f : α → Option β} {P : α → Prop} {Q : β → Prop} (h : O1 o P) (k : ∀ a, P a → O1 (f a) Q) : O1 (Option.bind o f) Q := by
  obtain ⟨a, rfl, p⟩ := h
  exact k a p
theorem O2.ret {a : α} {b : S} {P : α → Prop} (hb : I b) (h : P a) : O2 I (some (a, b)) P := ⟨a, b, rfl, hb, h⟩
theorem O2.imp {o : Option (α × S)} {P Q : α → Prop} (h : O2 I o P) (k : ∀ a, P a → Q a) : O2 I o Q := let ⟨a, b, e, i, p⟩ := h; ⟨a, b, e, i, k a p⟩
theorem O2.bind1 {o : Option α} {f : α → Option (β × S)} {P : α → Prop} {Q : β → Prop} (h : O1 o P) (k : ∀ a, P a → O2 I (f a) Q) : O2 I (Option.bind o f) Q := by
  obtain ⟨a, rfl, p⟩ := h
  exact k a p
theorem O2.ite {c : Bool} {x y : Option (α × S)} {P : α → Prop} (h1 : c = true → O2 I x P) (h2 : c = false → O2 I y P) : O2 I (if c = true then x else y) P := by
  cases c with
  | true => exact h1 rfl
  | false => exact h2 rfl
theorem O1.ite {c : Bool} {x y : Option α} {P : α → Prop} (h1 : c = true → O1 x P) (h2 : c = false → O1 y P) : O1 (if c = true then x else y) P := by
  cases c with
  | true => exact h1 rfl
  | false => exact h2 rfl
end
section
variable {α β : Type} {S : Type} {I : S → Prop}
theorem O2.bind {o : Option (α × S)} {f : α → S → Option (β × S)} {P : α → Prop} {Q : β → Prop} (h : O2 I o P) (k : ∀ a b, I b → P a → O2 I (f a b) Q) : O2 I (bind2 o f) Q := by
  obtain ⟨a, b, rfl, i, p⟩ := h
  exact k a b i p
end
section
variable {α β γ δ R T S : Type} {I : S → Prop} {Q : T → Prop} {g : R → Option (T × S)}
theorem O2.bL0 {o : Option (Lp Unit R)} {f : Option (T × S)} (e : o = some (.go ())) (k : O2 I f Q) : O2 I (bindL0 o f g) Q := by subst e; exact k
theorem O2.bL1 {o : Option (Lp α R)} {f : α → Option (T × S)} {a : α} (e : o = some (.go a)) (k : O2 I (f a) Q) : O2 I (bindL1 o f g) Q := by subst e; exact k
theorem O2.bL2 {o : Option (Lp (α × β) R)} {f : α → β → Option (T × S)} {a : α} {b : β} (e : o = some (.go (a, b))) (k : O2 I (f a b) Q) : O2 I (bindL2 o f g) Q := by subst e; exact k
theorem O2.bL3 {o : Option (Lp (α × β × γ) R)} {f : α → β → γ → Option (T × S)} {a : α} {b : β} {c : γ} (e : o = some (.go (a, b, c))) (k : O2 I (f a b c) Q) : O2 I (bindL3 o f g) Q := by subst e; exact k
end
theorem O2.true_ {S : Type} {I : S → Prop} {o : Option (Bool × S)} (h : O2 I o (fun r => r = true)) : ∃ b, o = some (true, b) := by
  obtain ⟨r, b, e, _, rfl⟩ := h
  exact ⟨b, e⟩
/-! ### lists and texts -/
theorem atI_O {α : Type} {xs : List α} {i : Int} {P : α → Prop} (h0 : 0 ≤ i) (h1 : i < xs.length) (h : ∀ x ∈ xs, P x) : O1 (atI xs i) P := by
  obtain ⟨n, rfl⟩ := Int.eq_ofNat_of_zero_le h0
  have hn : n < xs.length := by omega
  have e : xs[n]? = some xs[n] := List.getElem?_eq_getElem hn
  exact ⟨_, atI_nat e, h _ (List.getElem_mem hn)⟩
theorem tl_inj {x y : Str} (h : tl x = tl y) : x = y := by
  obtain ⟨⟨l⟩⟩ := x
  obtain ⟨⟨m⟩⟩ := y
  have h' : l = m := h
  rw [h']
theorem eqS_tl {x y : Str} : eqS x y = decide (tl x = tl y) := by
  rw [eqS_iff]
  exact decide_eq_decide.mpr ⟨fun h => by rw [h], tl_inj⟩
theorem tl_cut {z : Str} {lo hi : Option Int} : tl (cutS z lo hi) = ((tl z).drop (HT.sIx (tl z).length 0 lo)).take (HT.sIx (tl z).length (tl z).length hi - HT.sIx (tl z).length 0 lo) := by
  rw [← len_tl]
  unfold cutS tl
  rfl
theorem sIx_neg (n d : Nat) {k : Nat} (hk : 0 < k) : HT.sIx n d (some (-(k : Int))) = n - k := by
  show (if (-(k : Int)) < 0 then (-(k : Int) + (n : Int)).toNat else min (-(k : Int)).toNat n) = n - k
  rw [if_pos (by omega)]
  omega
theorem sIx_neg1 (n d : Nat) : HT.sIx n d (some (-1)) = n - 1 := sIx_neg n d (k := 1) (by decide)
theorem sIx_n (n d : Nat) : HT.sIx n d none = d := rfl
theorem tl_sgn (c : Nat) : tl (sgn c) = [c] := rfl
theorem catS_O {a b : Str} {P : Str → Prop} (h : (tl a).length + (tl b).length ≤ 16777216) (p : P (a ++ b)) : O1 (catS a b) P := by
  refine ⟨a ++ b, ?_, p⟩
  unfold catS
  rw [if_pos (by rw [len_tl, len_tl, sizeLine_eq]; exact h)]
theorem mulS_O {x : Str} {n : Int} {P : Str → Prop} (h1 : -(2 ^ 63 : Int) ≤ n) (h2 : n ≤ 16777216) (h3 : (tl x).length * n.toNat ≤ 16777216) (p : P (Txt.mul x n)) : O1 (mulS x n) P := by
  refine ⟨_, ?_, p⟩
  unfold mulS
  rw [if_pos ⟨h1, h2, by rw [len_tl]; exact h3⟩]
theorem codeAt_O {x : Str} {i : Int} {P : Nat → Prop} (h0 : 0 ≤ i) (h1 : i < (tl x).length) (h : ∀ c ∈ tl x, P c) : O1 (codeAt x i) P := atI_O h0 h1 h
theorem rangeO1_O {n : Int} {P : List Int → Prop} (h : n ≤ 16777216) (h0 : -(2 ^ 62) ≤ n) (p : P (rangeL 0 n.toNat)) : O1 (rangeO1 n) P := by
  refine ⟨_, ?_, p⟩
  unfold rangeO1
  rw [if_pos ⟨⟨h0, by omega⟩, by rw [sizeLine_eq]; omega⟩]
theorem joinS_O {sep : Str} {ys : List Str} {P : Str → Prop} (h : (ys.map fun y => (tl y).length).sum + ys.length * (tl sep).length ≤ 16777216) (p : P (Txt.join sep ys)) : O1 (joinS sep ys) P := by
  refine ⟨_, ?_, p⟩
  unfold joinS
  rw [if_pos]
  have e : (ys.map fun y => y.length) = ys.map fun y => (tl y).length := List.map_congr_left fun y _ => len_tl y
  show (ys.map fun y => y.length).sum + ys.length * sep.length ≤ _
  rw [e, len_tl]
  exact h
theorem tl_empty : tl ("" : Str) = [] := by decide +kernel
theorem joinL_nil : ∀ (ys : List (List Nat)), joinL [] ys = ys.flatten
  | [] => rfl
  | [y] => by show y = [y].flatten; simp
  | y :: z :: r => by
    show y ++ ([] ++ joinL [] (z :: r)) = _
    rw [joinL_nil (z :: r)]
    simp
theorem tl_join0 (ys : List Str) : tl (Txt.join ("" : Str) ys) = (ys.map tl).flatten := by rw [tl_joinS, tl_empty, joinL_nil]
/-- a text of no more than n signs -/
def Sh (n : Nat) (x : Str) : Prop := (tl x).length ≤ n
theorem Sh.mono {n m : Nat} {x : Str} (h : Sh n x) (k : n ≤ m) : Sh m x := Nat.le_trans h k
theorem Sh.cut {n : Nat} {x : Str} {lo hi : Option Int} (h : Sh n x) : Sh n (cutS x lo hi) := by
  unfold Sh at *
  rw [tl_cut, List.length_take, List.length_drop]
  omega
theorem Sh.sgn {c : Nat} : Sh 1 (sgn c) := Nat.le_refl 1
theorem Sh.rev {n : Nat} {x : Str} (h : Sh n x) : Sh n (revS x) := by
  unfold Sh at *
  rw [tl_revS, List.length_reverse]
  exact h
theorem Sh.cat {n m : Nat} {a b : Str} (ha : Sh n a) (hb : Sh m b) : Sh (n + m) (a ++ b) := by
  unfold Sh at *
  rw [tl_append, List.length_append]
  omega
theorem Sh.cat_O {n m : Nat} {a b : Str} (ha : Sh n a) (hb : Sh m b) (h : n + m ≤ 16777216 := by decide) : O1 (catS a b) (Sh (n + m)) :=
  catS_O (Nat.le_trans (Nat.add_le_add ha hb) h) (ha.cat hb)
theorem tl_mul_len (x : Str) (n : Int) : (tl (Txt.mul x n)).length = n.toNat * (tl x).length := by
  rw [tl_mul, List.length_flatten, List.map_replicate, List.sum_replicate_nat]
theorem Sh.mul_O {n m : Nat} {x : Str} {i : Int} (hx : Sh n x) (h0 : -1000000 ≤ i) (h1 : i ≤ (m : Nat)) (h2 : m * n ≤ 16777216) (h3 : m ≤ 16777216) : O1 (mulS x i) (Sh (m * n)) := by
  have h4 : i.toNat ≤ m := by omega
  have h5 : i.toNat * (tl x).length ≤ m * n := Nat.mul_le_mul h4 hx
  refine mulS_O (by omega) (by omega) (by rw [Nat.mul_comm]; omega) ?_
  unfold Sh
  rw [tl_mul_len]
  exact h5
theorem sh_sum {n : Nat} : ∀ {ys : List Str}, (∀ y ∈ ys, Sh n y) → (ys.map fun y => (tl y).length).sum ≤ ys.length * n
  | [], _ => by simp
  | y :: ys, h => by
    have h1 := sh_sum (n := n) (ys := ys) fun z hz => h z (List.mem_cons_of_mem _ hz)
    have h2 : (tl y).length ≤ n := h y (List.mem_cons_self ..)
    rw [List.map_cons, List.sum_cons, List.length_cons, Nat.add_mul, Nat.one_mul]
    omega
theorem Sh.join_O {n m : Nat} {ys : List Str} (h : ∀ y ∈ ys, Sh n y) (hm : ys.length ≤ m) (h2 : m * n ≤ 16777216) : O1 (joinS ("" : Str) ys) (Sh (m * n)) := by
  have h1 := sh_sum h
  have h3 : ys.length * n ≤ m * n := Nat.mul_le_mul_right n hm
  have e : (tl ("" : Str)).length = 0 := by rw [tl_empty]; rfl
  refine joinS_O (by rw [e]; omega) ?_
  unfold Sh
  rw [tl_join0, List.length_flatten, List.map_map]
  exact Nat.le_trans h1 h3
theorem rangeL_length {lo : Int} {n : Nat} : (rangeL lo n).length = n := rangeL_len lo n
/-! ### == of data -/
class EqvD (α : Type) [Enc α] : Prop where
  iff : ∀ x y : α, PyData.eqv (Enc.d x) (Enc.d y) = true ↔ x = y
instance : EqvD Int := ⟨fun x y => by show (x == y) = true ↔ _; exact beq_iff_eq⟩
instance : EqvD Bool := ⟨fun x y => by show (x == y) = true ↔ _; exact beq_iff_eq⟩
instance : EqvD Str := ⟨fun x y => by show (x == y) = true ↔ _; exact beq_iff_eq⟩
instance {α : Type} [Enc α] [EqvD α] [NN α] : EqvD (Option α) := ⟨fun x y => by
  cases x with
  | none =>
    cases y with
    | none => exact ⟨fun _ => rfl, fun _ => rfl⟩
    | some y =>
      have n := NN.ne y
      refine ⟨fun h => ?_, (fun h => nomatch h)⟩
      have h' : PyData.eqv .none (Enc.d y) = true := h
      revert h' n
      generalize Enc.d y = d
      intro n h'
      cases d <;> first | exact absurd rfl n | cases h'
  | some x =>
    cases y with
    | none =>
      have n := NN.ne x
      refine ⟨fun h => ?_, (fun h => nomatch h)⟩
      have h' : PyData.eqv (Enc.d x) .none = true := h
      revert h' n
      generalize Enc.d x = d
      intro n h'
      cases d <;> first | exact absurd rfl n | cases h'
    | some y => exact ⟨fun h => congrArg some ((EqvD.iff x y).mp h), fun h => (EqvD.iff x y).mpr (Option.some.inj h)⟩⟩
theorem eqvAll_iff {α : Type} [Enc α] [EqvD α] : ∀ xs ys : List α, PyData.eqvAll (xs.map Enc.d) (ys.map Enc.d) = true ↔ xs = ys
  | [], [] => ⟨fun _ => rfl, fun _ => rfl⟩
  | [], _ :: _ => ⟨(fun h => nomatch h), (fun h => nomatch h)⟩
  | _ :: _, [] => ⟨(fun h => nomatch h), (fun h => nomatch h)⟩
  | x :: xs, y :: ys => by
    show (PyData.eqv (Enc.d x) (Enc.d y) && PyData.eqvAll (xs.map Enc.d) (ys.map Enc.d)) = true ↔ _
    rw [Bool.and_eq_true, EqvD.iff, eqvAll_iff xs ys, List.cons.injEq]
instance {α : Type} [Enc α] [EqvD α] : EqvD (List α) := ⟨fun x y => eqvAll_iff x y⟩
instance {α : Type} [Enc α] [EqvD α] : EqvD (VT α) := ⟨fun x y => by
  obtain ⟨x⟩ := x
  obtain ⟨y⟩ := y
  rw [VT.mk.injEq]
  exact eqvAll_iff x y⟩
instance {α β : Type} [Enc α] [Enc β] [EqvD α] [EqvD β] : EqvD (α × β) := ⟨fun x y => by
  obtain ⟨a, b⟩ := x
  obtain ⟨c, d⟩ := y
  show (PyData.eqv (Enc.d a) (Enc.d c) && (PyData.eqv (Enc.d b) (Enc.d d) && true)) = true ↔ _
  rw [Bool.and_true, Bool.and_eq_true, EqvD.iff, EqvD.iff, Prod.mk.injEq]⟩
instance {α β γ : Type} [Enc α] [Enc β] [Enc γ] [EqvD α] [EqvD β] [EqvD γ] : EqvD (T3 α β γ) := ⟨fun x y => by
  obtain ⟨a, b, e⟩ := x
  obtain ⟨c, d, f⟩ := y
  show (PyData.eqv (Enc.d a) (Enc.d c) && (PyData.eqv (Enc.d b) (Enc.d d) && (PyData.eqv (Enc.d e) (Enc.d f) && true))) = true ↔ _
  rw [Bool.and_true, Bool.and_eq_true, Bool.and_eq_true, EqvD.iff, EqvD.iff, EqvD.iff, T3.mk.injEq]⟩
instance {α β γ δ : Type} [Enc α] [Enc β] [Enc γ] [Enc δ] [EqvD α] [EqvD β] [EqvD γ] [EqvD δ] : EqvD (T4 α β γ δ) := ⟨fun x y => by
  obtain ⟨a, b, e, g⟩ := x
  obtain ⟨c, d, f, h⟩ := y
  show (PyData.eqv (Enc.d a) (Enc.d c) && (PyData.eqv (Enc.d b) (Enc.d d) && (PyData.eqv (Enc.d e) (Enc.d f) && (PyData.eqv (Enc.d g) (Enc.d h) && true)))) = true ↔ _
  rw [Bool.and_true, Bool.and_eq_true, Bool.and_eq_true, Bool.and_eq_true, EqvD.iff, EqvD.iff, EqvD.iff, EqvD.iff, T4.mk.injEq]⟩
theorem eqD_iff {α : Type} [Enc α] [EqvD α] {x y : α} : eqD x y = true ↔ x = y := EqvD.iff x y
theorem eqD_dec {α : Type} [Enc α] [EqvD α] [DecidableEq α] {x y : α} : eqD x y = decide (x = y) := by
  rw [Bool.eq_iff_iff, eqD_iff, decide_eq_true_iff]
theorem eqD_refl {α : Type} [Enc α] [EqvD α] (x : α) : eqD x x = true := eqD_iff.mpr rfl
theorem eqD_false {α : Type} [Enc α] [EqvD α] {x y : α} (h : x ≠ y) : eqD x y = false := Bool.eq_false_iff.mpr fun e => h (eqD_iff.mp e)
theorem alike_self {α : Type} [DecidableEq α] (x : α) : m_l_alike x x = some true := by
  unfold m_l_alike
  rw [if_pos rfl]
theorem bind2_some {α β γ : Type} {a : α} {b : β} {f : α → β → Option γ} : bind2 (some (a, b)) f = f a b := rfl
theorem notT {α : Type} {a b : α} : (if (!true) = true then a else b) = b := rfl
theorem alike_O {α : Type} [DecidableEq α] {x y : α} {P : Bool → Prop} (h : x = y) (p : P true) : O1 (m_l_alike x y) P := by
  refine ⟨true, ?_, p⟩
  unfold m_l_alike
  rw [if_pos h]
end G
/-! Plain laws: patterns, their worth, addresses written. -/
namespace G
open PySem PySem.Spec PyProof.Rows L2 TL
/-- a sign of '01' -/
def isB (c : Nat) : Bool := decide (c ∈ [48, 49])
theorem isB_iff {c : Nat} : isB c = true ↔ c = 48 ∨ c = 49 := by unfold isB; simp
theorem tl01 : tl ("01" : Str) = [48, 49] := by decide +kernel
theorem tlStar : tl ("*" : Str) = [42] := by decide +kernel
theorem tl0 : tl ("0" : Str) = [48] := by decide +kernel
theorem tl1 : tl ("1" : Str) = [49] := by decide +kernel
def Bits (bs : List Nat) : Prop := ∀ c ∈ bs, isB c = true
theorem Bits.nil : Bits [] := fun _ h => nomatch h
theorem Bits.app {a b : List Nat} (ha : Bits a) (hb : Bits b) : Bits (a ++ b) := fun c h => (List.mem_append.mp h).elim (ha c) (hb c)
theorem Bits.take {a : List Nat} (n : Nat) (ha : Bits a) : Bits (a.take n) := fun c h => ha c (List.mem_of_mem_take h)
theorem Bits.drop {a : List Nat} (n : Nat) (ha : Bits a) : Bits (a.drop n) := fun c h => ha c (List.mem_of_mem_drop h)
theorem Bits.one {c : Nat} (h : isB c = true) : Bits [c] := fun d hd => by rw [List.mem_singleton.mp hd]; exact h
theorem Bits.mem01 {c : Nat} (h : c ∈ tl ("01" : Str)) : isB c = true := by rw [tl01] at h; exact decide_eq_true h
theorem Bits.no42 {a : List Nat} (ha : Bits a) : 42 ∉ a := fun h => absurd (ha 42 h) (by decide)
/-- the pattern of w signs that bits bs make -/
def patL (w : Nat) (bs : List Nat) : List Nat := bs ++ (if bs.length < w then [42] else [])
structure Pat (w : Nat) (bs : List Nat) (x : Str) : Prop where
  bits : Bits bs
  le : bs.length ≤ w
  eq : tl x = patL w bs
theorem tl_strip (x y : Str) : tl (Txt.stripChars x y) = ((tl x).take (stripHi y.cps.contains true x (stripLo y.cps.contains true x))).drop (stripLo y.cps.contains true x) := by
  unfold Txt.stripChars
  rw [stripBy_eq]
  show (x.cps.extract _ _).toList = _
  rw [List.drop_take]
  simp [tl]
theorem tw0 {p : Nat → Bool} : ∀ l : List Nat, (∀ c, l.head? = some c → p c = false) → l.takeWhile p = []
  | [], _ => rfl
  | c :: r, h => by rw [List.takeWhile_cons, if_neg (by rw [h c rfl]; exact Bool.false_ne_true)]
theorem strip_star {x : Str} {bs st : List Nat} (e : tl x = bs ++ st) (h : 42 ∉ bs) (hs : st = [] ∨ st = [42]) : tl (Txt.stripChars x ("*" : Str)) = bs := by
  have hc : ∀ c : Nat, (("*" : Str)).cps.contains c = decide (c = 42) := fun c => by
    have e1 : (("*" : Str)).cps = #[42] := by decide +kernel
    rw [e1]
    simp [Bool.beq_eq_decide_eq]
  rw [tl_strip]
  generalize hg : (("*" : Str)).cps.contains = g at *
  have hx : x.cps.toList = bs ++ st := e
  have hlen : x.length = bs.length + st.length := by rw [len_tl, e, List.length_append]
  cases bs with
  | nil =>
    rcases hs with rfl | rfl
    · rw [e]; simp
    · have h1 : stripLo g true x = 1 := by
        unfold stripLo
        rw [if_pos rfl, hx]
        show (List.takeWhile g [42]).length = 1
        rw [List.takeWhile_cons, if_pos (by rw [hc]; decide)]
        rfl
      rw [h1, e]
      rw [List.drop_eq_nil_iff, List.length_take]
      exact Nat.min_le_right _ _
  | cons c r =>
    have hc42 : g c = false := by rw [hc]; exact decide_eq_false fun z => h (by rw [z]; exact List.mem_cons_self ..)
    have h1 : stripLo g true x = 0 := by
      unfold stripLo
      rw [if_pos rfl, hx]
      show (List.takeWhile g (c :: (r ++ st))).length = 0
      rw [List.takeWhile_cons, if_neg (by rw [hc42]; decide)]
      rfl
    have hlast : ∀ l : List Nat, 42 ∉ l → l.reverse.takeWhile g = [] := fun l hl => tw0 _ fun d hd => by
      rw [hc]
      refine decide_eq_false fun z => hl ?_
      rw [← z]
      exact List.mem_reverse.mp (List.mem_of_mem_head? hd)
    have h2 : stripHi g true x 0 = (c :: r).length := by
      unfold stripHi
      rw [if_pos rfl, hx, List.drop_zero, hlen]
      rcases hs with rfl | rfl
      · rw [List.append_nil, hlast _ h]
        simp
      · rw [List.reverse_append]
        show _ - (List.takeWhile g (42 :: (c :: r).reverse)).length = _
        rw [List.takeWhile_cons, if_pos (by rw [hc]; decide), hlast _ h]
        simp
    rw [h1, h2, e, List.drop_zero, List.take_left]
theorem part_star {x : Str} {bs st : List Nat} (e : tl x = bs ++ st) (h : 42 ∉ bs) (hs : st = [] ∨ st = [42]) : tl (partS x ("*" : Str)).a = bs := by
  have ex : x = ⟨bs.toArray⟩ ++ (⟨st.toArray⟩ : Str) := tl_inj (by rw [tl_append, e])
  have hb : 42 ∉ tl (⟨bs.toArray⟩ : Str) := by simpa [tl] using h
  rcases hs with rfl | rfl
  · have e2 : x = ⟨bs.toArray⟩ := tl_inj (by rw [e]; simp [tl])
    show tl (Txt.partition x ("*" : Str)).1 = bs
    rw [e2, TL.partition_none tlStar hb]
  · have e2 : x = (⟨bs.toArray⟩ : Str) ++ ("*" : Str) ++ Str.empty := tl_inj (by rw [tl_append, tl_append, tlStar, e]; simp [tl, Str.empty])
    show tl (Txt.partition x ("*" : Str)).1 = bs
    rw [e2, TL.partition_app tlStar hb]
theorem Pat.strip {w : Nat} {bs : List Nat} {x : Str} (p : Pat w bs x) : tl (Txt.stripChars x ("*" : Str)) = bs := by
  refine strip_star (st := if bs.length < w then [42] else []) p.eq p.bits.no42 ?_
  split
  · exact .inr rfl
  · exact .inl rfl
theorem Pat.part {w : Nat} {bs : List Nat} {x : Str} (p : Pat w bs x) : tl (partS x ("*" : Str)).a = bs := by
  refine part_star (st := if bs.length < w then [42] else []) p.eq p.bits.no42 ?_
  split
  · exact .inr rfl
  · exact .inl rfl
theorem Pat.len {w : Nat} {bs : List Nat} {x : Str} (p : Pat w bs x) : (tl x).length ≤ w := by
  rw [p.eq, patL, List.length_append]
  have := p.le
  split
  · simp; omega
  · simp; omega
/-! ### worth -/
def wr (bs : List Nat) : Nat := bs.foldl (fun n c => 2 * n + (if c = 49 then 1 else 0)) 0
theorem wr_from (bs : List Nat) : ∀ a : Nat, bs.foldl (fun n c => 2 * n + (if c = 49 then 1 else 0)) a = a * 2 ^ bs.length + wr bs := by
  induction bs with
  | nil => intro a; simp [wr]
  | cons c bs ih =>
    intro a
    have h0 := ih (2 * 0 + (if c = 49 then 1 else 0))
    show List.foldl _ (2 * a + (if c = 49 then 1 else 0)) bs = _
    rw [ih]
    have h1 : wr (c :: bs) = (2 * 0 + (if c = 49 then 1 else 0)) * 2 ^ bs.length + wr bs := h0
    rw [h1, List.length_cons, Nat.pow_succ]
    generalize (if c = 49 then 1 else 0) = d
    generalize 2 ^ bs.length = p
    rw [Nat.add_mul, Nat.mul_zero, Nat.zero_add, Nat.add_assoc, Nat.mul_comm 2 a, Nat.mul_assoc, Nat.mul_comm 2 p]
theorem wr_app (a b : List Nat) : wr (a ++ b) = wr a * 2 ^ b.length + wr b := by
  unfold wr
  rw [List.foldl_append]
  exact wr_from b _
theorem wr_cons (c : Nat) (b : List Nat) : wr (c :: b) = (if c = 49 then 1 else 0) * 2 ^ b.length + wr b := by
  have := wr_app [c] b
  rw [List.singleton_append] at this
  rw [this]
  congr 2
  simp [wr]
theorem wr_snoc (a : List Nat) (c : Nat) : wr (a ++ [c]) = 2 * wr a + (if c = 49 then 1 else 0) := by
  unfold wr
  rw [List.foldl_append]
  rfl
theorem wr_lt : ∀ bs : List Nat, wr bs < 2 ^ bs.length
  | [] => by decide
  | c :: bs => by
    have := wr_lt bs
    rw [wr_cons, List.length_cons, Nat.pow_succ]
    split <;> omega
theorem wr_zeros (k : Nat) : wr (List.replicate k 48) = 0 := by
  induction k with
  | zero => rfl
  | succ k ih => rw [List.replicate_succ, wr_cons, ih]; simp
theorem wr_ones (k : Nat) : wr (List.replicate k 49) + 1 = 2 ^ k := by
  induction k with
  | zero => rfl
  | succ k ih =>
    rw [List.replicate_succ, wr_cons, List.length_replicate, Nat.pow_succ, if_pos rfl]
    omega
theorem wr_inj : ∀ {a b : List Nat}, Bits a → Bits b → a.length = b.length → wr a = wr b → a = b
  | [], [], _, _, _, _ => rfl
  | [], _ :: _, _, _, h, _ => nomatch h
  | _ :: _, [], _, _, h, _ => nomatch h
  | c :: a, d :: b, ha, hb, h, e => by
    have hl : a.length = b.length := Nat.succ.inj h
    rw [wr_cons, wr_cons, hl] at e
    have h1 := wr_lt a
    have h2 := wr_lt b
    rw [hl] at h1
    have hc := isB_iff.mp (ha c (List.mem_cons_self ..))
    have hd := isB_iff.mp (hb d (List.mem_cons_self ..))
    have he : c = d ∧ wr a = wr b := by
      rcases hc with rfl | rfl <;> rcases hd with rfl | rfl <;> simp at e ⊢ <;> omega
    rw [he.1, wr_inj (fun x hx => ha x (List.mem_cons_of_mem _ hx)) (fun x hx => hb x (List.mem_cons_of_mem _ hx)) hl he.2]
theorem toI_sgn1 (c : Nat) : toI (eqS (sgn c) ("1" : Str)) = ((if c = 49 then 1 else 0 : Nat) : Int) := by
  rw [eqS_tl, tl_sgn, tl1]
  by_cases h : c = 49
  · subst h; rfl
  · rw [decide_eq_false (fun e => h (List.cons.inj e).1), if_neg h]; rfl
theorem log2_lt64 {a : Nat} (h : a < 2 ^ 64) : a.log2 < 64 := by
  by_cases h0 : a = 0
  · subst h0; decide
  · exact (Nat.log2_lt h0).mpr h
theorem mulI_nat {a b : Nat} (ha : a < 2 ^ 64) (hb : b < 2 ^ 64) : mulI (a : Int) (b : Int) = some ((a * b : Nat) : Int) := by
  unfold mulI
  have h1 := log2_lt64 ha
  have h2 := log2_lt64 hb
  rw [if_pos (by rw [Int.natAbs_natCast, Int.natAbs_natCast]; omega)]
  rfl
theorem shlI_one {k : Nat} (h : k ≤ 1000000) : shlI 1 (k : Int) = some ((2 ^ k : Nat) : Int) := by
  unfold shlI
  rw [if_pos ⟨by omega, by omega, by decide⟩, Int.one_mul, Int.toNat_natCast]
  simp
theorem shrI_nat {n k : Nat} : shrI (n : Int) (k : Int) = some ((n / 2 ^ k : Nat) : Int) := by
  unfold shrI
  rw [if_pos (by omega), Int.toNat_natCast]
  simp
theorem and_one (n : Nat) : Builtin.bitAnd (n : Int) 1 = ((n % 2 : Nat) : Int) := by
  have := Bits.bitAnd_mask (x := (n : Int)) 1 (by omega)
  rw [show ((2 : Int) ^ 1 - 1) = 1 by decide] at this
  rw [this]
  simp
theorem pow_lt64 {k : Nat} (h : k < 64) : 2 ^ k < 2 ^ 64 := Nat.pow_lt_pow_right (by decide) h
/-! ### an address written with w signs -/
def bin : Nat → Nat → List Nat
  | 0, _ => []
  | w + 1, n => bin w (n / 2) ++ [48 + n % 2]
theorem bin_len : ∀ w n : Nat, (bin w n).length = w
  | 0, _ => rfl
  | w + 1, n => by rw [bin, List.length_append, bin_len w]; rfl
theorem bin_bits : ∀ w n : Nat, Bits (bin w n)
  | 0, _ => Bits.nil
  | w + 1, n => (bin_bits w _).app (Bits.one (isB_iff.mpr (by have := Nat.mod_two_eq_zero_or_one n; omega)))
theorem wr_bin : ∀ w n : Nat, wr (bin w n) = n % 2 ^ w
  | 0, n => by rw [Nat.pow_zero, Nat.mod_one]; rfl
  | w + 1, n => by
    rw [bin, wr_snoc, wr_bin w, Nat.pow_succ, Nat.mul_comm (2 ^ w) 2, Nat.mod_mul]
    have : (if 48 + n % 2 = 49 then 1 else 0) = n % 2 := by
      have := Nat.mod_two_eq_zero_or_one n
      split <;> omega
    rw [this]
    omega
theorem bin_take : ∀ (k j n : Nat), (bin (k + j) n).take k = bin k (n / 2 ^ j)
  | k, 0, n => by
    rw [Nat.add_zero, Nat.pow_zero, Nat.div_one]
    exact List.take_of_length_le (by rw [bin_len]; exact Nat.le_refl _)
  | k, j + 1, n => by
    show (bin (k + j) (n / 2) ++ [48 + n % 2]).take k = _
    rw [List.take_append_of_le_length (by rw [bin_len]; omega), bin_take k j, Nat.div_div_eq_div_mul, Nat.pow_succ, Nat.mul_comm 2]
theorem bin_top : ∀ k n : Nat, bin (k + 1) n = (48 + n / 2 ^ k % 2) :: bin k n
  | 0, n => by rw [Nat.pow_zero, Nat.div_one]; rfl
  | k + 1, n => by
    rw [bin, bin_top k (n / 2), Nat.div_div_eq_div_mul, Nat.mul_comm 2, ← Nat.pow_succ]
    rfl
theorem code01 {d : Nat} (h : d < 2) : codeAt ("01" : Str) (d : Nat) = some (48 + d) := by
  have : d = 0 ∨ d = 1 := by omega
  rcases this with rfl | rfl
  · exact atI_nat (by rw [tl01]; rfl)
  · exact atI_nat (by rw [tl01]; rfl)
end G
namespace G
open PySem PySem.Spec PyProof.Rows L2 TL
/-! ### addresses that spans have within a block -/
def cn1 (s : Int × Int) (a e : Int) : Int := max 0 (min e s.2 - max a s.1)
def ct (S : List (Int × Int)) (a e : Int) : Int := (S.map fun s => cn1 s a e).sum
theorem ct_nil (a e : Int) : ct [] a e = 0 := rfl
theorem ct_cons (s : Int × Int) (S : List (Int × Int)) (a e : Int) : ct (s :: S) a e = cn1 s a e + ct S a e := by unfold ct; rw [List.map_cons, List.sum_cons]
theorem ct_app (S T : List (Int × Int)) (a e : Int) : ct (S ++ T) a e = ct S a e + ct T a e := by
  induction S with
  | nil => rw [List.nil_append, ct_nil]; omega
  | cons s S ih => rw [List.cons_append, ct_cons, ct_cons, ih]; omega
theorem cn1_nn (s : Int × Int) (a e : Int) : 0 ≤ cn1 s a e := by unfold cn1; omega
theorem ct_nn (S : List (Int × Int)) (a e : Int) : 0 ≤ ct S a e := by
  induction S with
  | nil => exact Int.le_refl _
  | cons s S ih => rw [ct_cons]; have := cn1_nn s a e; omega
theorem cn1_cut {s : Int × Int} {a m e : Int} (h1 : a ≤ m) (h2 : m ≤ e) : cn1 s a e = cn1 s a m + cn1 s m e ∨ s.2 ≤ s.1 := by
  unfold cn1
  omega
/-- rising spans, that may touch -/
def Rise (S : List (Int × Int)) : Prop := (∀ s ∈ S, s.1 < s.2) ∧ S.Pairwise fun s t => s.2 ≤ t.1
/-- rising spans with gaps -/
def Gaps (S : List (Int × Int)) : Prop := (∀ s ∈ S, s.1 < s.2) ∧ S.Pairwise fun s t => s.2 < t.1
theorem Gaps.rise {S : List (Int × Int)} (h : Gaps S) : Rise S := ⟨h.1, h.2.imp fun h => Int.le_of_lt h⟩
theorem Rise.tail {s : Int × Int} {S : List (Int × Int)} (h : Rise (s :: S)) : Rise S := ⟨fun t ht => h.1 t (List.mem_cons_of_mem _ ht), (List.pairwise_cons.mp h.2).2⟩
theorem Gaps.tail {s : Int × Int} {S : List (Int × Int)} (h : Gaps (s :: S)) : Gaps S := ⟨fun t ht => h.1 t (List.mem_cons_of_mem _ ht), (List.pairwise_cons.mp h.2).2⟩
theorem ct_cut {S : List (Int × Int)} (h : Rise S) {a m e : Int} (h1 : a ≤ m) (h2 : m ≤ e) : ct S a e = ct S a m + ct S m e := by
  induction S with
  | nil => rfl
  | cons s S ih =>
    rw [ct_cons, ct_cons, ct_cons, ih h.tail]
    have := h.1 s (List.mem_cons_self ..)
    rcases cn1_cut (s := s) h1 h2 with e | e <;> omega
/-- what stands behind k alone has at most what is behind k -/
theorem ct_from {S : List (Int × Int)} (h : Rise S) {k a e : Int} (hk : ∀ s ∈ S, k ≤ s.1) : ct S a e ≤ max 0 (e - max a k) := by
  induction S generalizing k with
  | nil => rw [ct_nil]; omega
  | cons s S ih =>
    rw [ct_cons]
    have h1 := h.1 s (List.mem_cons_self ..)
    have h2 := hk s (List.mem_cons_self ..)
    have h3 := ih h.tail (k := s.2) fun t ht => (List.pairwise_cons.mp h.2).1 t ht
    unfold cn1
    omega
theorem ct_le {S : List (Int × Int)} (h : Rise S) {a e : Int} (hae : a ≤ e) : ct S a e ≤ e - a := by
  cases S with
  | nil => rw [ct_nil]; omega
  | cons s S =>
    have h3 := ct_from h.tail (k := s.2) (a := a) (e := e) fun t ht => (List.pairwise_cons.mp h.2).1 t ht
    have h1 := h.1 s (List.mem_cons_self ..)
    rw [ct_cons]
    unfold cn1
    omega
/-- a block that is had whole is had by one, where there are gaps -/
theorem ct_full {S : List (Int × Int)} (h : Gaps S) {a e : Int} (hae : a < e) (hc : ct S a e = e - a) : ∃ A s B, S = A ++ s :: B ∧ s.1 ≤ a ∧ e ≤ s.2 ∧ (∀ t ∈ A, cn1 t a e = 0) ∧ (∀ t ∈ B, cn1 t a e = 0) := by
  induction S with
  | nil => rw [ct_nil] at hc; omega
  | cons s S ih =>
    rw [ct_cons] at hc
    have h1 := h.1 s (List.mem_cons_self ..)
    have hp := (List.pairwise_cons.mp h.2).1
    by_cases hz : cn1 s a e = 0
    · obtain ⟨A, t, B, rfl, k1, k2, k3, k4⟩ := ih h.tail (by omega)
      refine ⟨s :: A, t, B, rfl, k1, k2, fun u hu => ?_, k4⟩
      rcases List.mem_cons.mp hu with rfl | hu
      · exact hz
      · exact k3 u hu
    · have h3 := ct_from h.tail.rise (k := s.2 + 1) (a := a) (e := e) fun t ht => hp t ht
      have hb : s.1 ≤ a ∧ e ≤ s.2 := by unfold cn1 at hz hc; omega
      refine ⟨[], s, S, rfl, hb.1, hb.2, (fun t ht => absurd ht (List.not_mem_nil)), fun t ht => ?_⟩
      have := hp t ht
      unfold cn1
      omega
def ends1 (s : Int × Int) (a e : Int) : Nat := (if a < s.1 ∧ s.1 < e then 1 else 0) + (if a < s.2 ∧ s.2 < e then 1 else 0)
def ends (S : List (Int × Int)) (a e : Int) : Nat := (S.map fun s => ends1 s a e).sum
theorem ends_cons (s : Int × Int) (S : List (Int × Int)) (a e : Int) : ends (s :: S) a e = ends1 s a e + ends S a e := by unfold ends; rw [List.map_cons, List.sum_cons]
theorem ends_le (S : List (Int × Int)) (a e : Int) : ends S a e ≤ 2 * S.length := by
  induction S with
  | nil => exact Nat.le_refl _
  | cons s S ih =>
    rw [ends_cons, List.length_cons]
    have : ends1 s a e ≤ 2 := by unfold ends1; split <;> split <;> omega
    omega
theorem ends_cut (S : List (Int × Int)) {a m e : Int} (h1 : a ≤ m) (h2 : m ≤ e) : ends S a m + ends S m e ≤ ends S a e := by
  induction S with
  | nil => exact Nat.le_refl _
  | cons s S ih =>
    rw [ends_cons, ends_cons, ends_cons]
    have : ends1 s a m + ends1 s m e ≤ ends1 s a e := by
      unfold ends1
      repeat' split
      all_goals omega
    omega
theorem ends_zero {S : List (Int × Int)} (h : Rise S) {a e : Int} (hae : a < e) (hz : ends S a e = 0) : ct S a e = 0 ∨ ct S a e = e - a := by
  induction S with
  | nil => exact .inl rfl
  | cons s S ih =>
    rw [ends_cons] at hz
    have hl := ct_le h (Int.le_of_lt hae)
    rw [ct_cons] at hl ⊢
    have h1 := h.1 s (List.mem_cons_self ..)
    have h0 : ends1 s a e = 0 := by omega
    have hs : cn1 s a e = 0 ∨ cn1 s a e = e - a := by
      unfold ends1 at h0
      unfold cn1
      split at h0 <;> split at h0 <;> omega
    have hn := ct_nn S a e
    rcases ih h.tail (by omega) with e1 | e1 <;> rcases hs with e2 | e2 <;> omega
/-! ### the leaves -/
abbrev H2 (j : Nat) : Int := ((2 ^ j : Nat) : Int)
theorem H2_succ (j : Nat) : H2 (j + 1) = 2 * H2 j := by show ((2 ^ (j + 1) : Nat) : Int) = 2 * ((2 ^ j : Nat) : Int); rw [Nat.pow_succ]; omega
theorem H2_pos (j : Nat) : 0 < H2 j := Int.ofNat_lt.mpr (Nat.two_pow_pos j)
theorem H2_zero : H2 0 = 1 := rfl
def can (S : List (Int × Int)) : Nat → Int → List Nat → List (List Nat)
  | 0, a, bs => if ct S a (a + H2 0) = 0 then [] else [bs]
  | j + 1, a, bs => if ct S a (a + H2 (j + 1)) = 0 then [] else if ct S a (a + H2 (j + 1)) = H2 (j + 1) then [bs ++ [42]] else can S j a (bs ++ [48]) ++ can S j (a + H2 j) (bs ++ [49])
/-- a leaf as it is written -/
def leaf (j : Nat) (bs : List Nat) : List Nat := if j = 0 then bs else bs ++ [42]
theorem can_none {S : List (Int × Int)} {j : Nat} {a : Int} {bs : List Nat} (h : ct S a (a + H2 j) = 0) : can S j a bs = [] := by
  cases j <;> (unfold can; rw [if_pos h])
theorem can_full {S : List (Int × Int)} {j : Nat} {a : Int} {bs : List Nat} (h : ct S a (a + H2 j) = H2 j) : can S j a bs = [leaf j bs] := by
  have := H2_pos j
  cases j with
  | zero => unfold can; rw [if_neg (by omega)]; rfl
  | succ j => unfold can; rw [if_neg (by omega), if_pos h]; rfl
theorem can_part {S : List (Int × Int)} {j : Nat} {a : Int} {bs : List Nat} (h1 : ct S a (a + H2 (j + 1)) ≠ 0) (h2 : ct S a (a + H2 (j + 1)) ≠ H2 (j + 1)) : can S (j + 1) a bs = can S j a (bs ++ [48]) ++ can S j (a + H2 j) (bs ++ [49]) := by
  conv => lhs; unfold can
  rw [if_neg h1, if_neg h2]
theorem can_len {S : List (Int × Int)} (h : Rise S) : ∀ (j : Nat) (a : Int) (bs : List Nat), (can S j a bs).length ≤ 1 + j * ends S a (a + H2 j)
  | 0, a, bs => by
    unfold can
    split
    · exact Nat.zero_le _
    · exact Nat.le_add_right _ _
  | j + 1, a, bs => by
    have hp := H2_pos (j + 1)
    have hj := H2_pos j
    have hs := H2_succ j
    by_cases h0 : ct S a (a + H2 (j + 1)) = 0
    · rw [can_none h0]; exact Nat.zero_le _
    · by_cases h1 : ct S a (a + H2 (j + 1)) = H2 (j + 1)
      · rw [can_full h1]; exact Nat.le_add_right _ _
      · rw [can_part h0 h1, List.length_append]
        have l := can_len h j a (bs ++ [48])
        have r := can_len h j (a + H2 j) (bs ++ [49])
        have he : a + H2 j + H2 j = a + H2 (j + 1) := by omega
        rw [he] at r
        have hc := ends_cut S (a := a) (m := a + H2 j) (e := a + H2 (j + 1)) (by omega) (by omega)
        have hz : ends S a (a + H2 (j + 1)) ≠ 0 := fun e => by
          rcases ends_zero h (by omega) e with e | e <;> omega
        generalize ends S a (a + H2 (j + 1)) = x at *
        generalize ends S a (a + H2 j) = y at *
        generalize ends S (a + H2 j) (a + H2 (j + 1)) = z at *
        have : j * y + j * z ≤ j * x := by rw [← Nat.mul_add]; exact Nat.mul_le_mul_left _ hc
        have : (j + 1) * x = j * x + x := Nat.succ_mul j x
        omega
theorem can_congr {S T : List (Int × Int)} : ∀ (j : Nat) (a : Int) (bs : List Nat), (∀ f b, a ≤ f → b ≤ a + H2 j → ct S f b = ct T f b) → can S j a bs = can T j a bs
  | 0, a, bs, h => by
    unfold can
    rw [h a (a + H2 0) (Int.le_refl _) (Int.le_refl _)]
  | j + 1, a, bs, h => by
    have hj := H2_pos j
    have hs := H2_succ j
    unfold can
    rw [h a _ (Int.le_refl _) (Int.le_refl _), can_congr j a _ fun f b h1 h2 => h f b h1 (by omega), can_congr j (a + H2 j) _ fun f b h1 h2 => h f b (by omega) (by omega)]
theorem flat_nil {α β : Type} {f : α → List β} : ∀ {l : List α}, (∀ x ∈ l, f x = []) → l.flatMap f = []
  | [], _ => rfl
  | x :: l, h => by rw [List.flatMap_cons, h x (List.mem_cons_self ..), flat_nil fun y hy => h y (List.mem_cons_of_mem _ hy)]; rfl
theorem ct_zero {S : List (Int × Int)} {a e : Int} : ct S a e = 0 ↔ ∀ s ∈ S, cn1 s a e = 0 := by
  induction S with
  | nil => exact ⟨fun _ t h => absurd h (List.not_mem_nil), fun _ => rfl⟩
  | cons s S ih =>
    rw [ct_cons]
    have h1 := cn1_nn s a e
    have h2 := ct_nn S a e
    constructor
    · intro h t ht
      rcases List.mem_cons.mp ht with rfl | ht
      · omega
      · exact ih.mp (by omega) t ht
    · intro h
      have h3 := h s (List.mem_cons_self ..)
      have h4 := ih.mpr fun t ht => h t (List.mem_cons_of_mem _ ht)
      omega
theorem ct_one (s : Int × Int) (a e : Int) : ct [s] a e = cn1 s a e := by rw [ct_cons, ct_nil]; omega
/-- the leaves of spans with gaps are those of each -/
theorem can_each {S : List (Int × Int)} (h : Gaps S) : ∀ (j : Nat) (a : Int) (bs : List Nat), can S j a bs = S.flatMap fun s => can [s] j a bs := fun j => by
  induction j with
  | zero =>
    intro a bs
    by_cases h0 : ct S a (a + H2 0) = 0
    · rw [can_none h0, flat_nil fun s hs => can_none (by rw [ct_one]; exact ct_zero.mp h0 s hs)]
    · have hl := ct_le h.rise (a := a) (e := a + H2 0) (by rw [H2_zero]; omega)
      have hn := ct_nn S a (a + H2 0)
      exact full h 0 a bs (by rw [H2_zero] at *; omega)
  | succ j ih =>
    intro a bs
    have hj := H2_pos j
    have hs := H2_succ j
    by_cases h0 : ct S a (a + H2 (j + 1)) = 0
    · rw [can_none h0, flat_nil fun s hs => can_none (by rw [ct_one]; exact ct_zero.mp h0 s hs)]
    · by_cases h1 : ct S a (a + H2 (j + 1)) = H2 (j + 1)
      · exact full h (j + 1) a bs h1
      · rw [can_part h0 h1, ih, ih]
        have e1 : S.flatMap (fun s => can [s] (j + 1) a bs) = S.flatMap fun s => can [s] j a (bs ++ [48]) ++ can [s] j (a + H2 j) (bs ++ [49]) := by
          have hle : ∀ T : List (Int × Int), (∀ t ∈ T, t.1 < t.2) → ct T a (a + H2 (j + 1)) < H2 (j + 1) → (T.flatMap fun s => can [s] (j + 1) a bs) = T.flatMap fun s => can [s] j a (bs ++ [48]) ++ can [s] j (a + H2 j) (bs ++ [49]) := fun T => by
            induction T with
            | nil => exact fun _ _ => rfl
            | cons t T ihT =>
              intro ht hc
              rw [ct_cons] at hc
              have n1 := cn1_nn t a (a + H2 (j + 1))
              have n2 := ct_nn T a (a + H2 (j + 1))
              rw [List.flatMap_cons, List.flatMap_cons, ihT (fun u hu => ht u (List.mem_cons_of_mem _ hu)) (by omega)]
              congr 1
              have ht1 := ht t (List.mem_cons_self ..)
              by_cases hz : ct [t] a (a + H2 (j + 1)) = 0
              · rw [can_none hz]
                have hcut := ct_cut (S := [t]) ⟨fun u hu => by rw [List.mem_singleton.mp hu]; exact ht1, List.pairwise_singleton _ _⟩ (a := a) (m := a + H2 j) (e := a + H2 (j + 1)) (by omega) (by omega)
                have m1 := ct_nn [t] a (a + H2 j)
                have m2 := ct_nn [t] (a + H2 j) (a + H2 (j + 1))
                have he : a + H2 j + H2 j = a + H2 (j + 1) := by omega
                rw [can_none (by omega : ct [t] a (a + H2 j) = 0), can_none (by rw [he]; omega)]
                rfl
              · exact can_part hz (by rw [ct_one]; omega)
          have hl := ct_le h.rise (a := a) (e := a + H2 (j + 1)) (by omega)
          exact hle S h.1 (by omega)
        rw [e1]
        exact (inter h (m := a + H2 j) (L := fun s => can [s] j a (bs ++ [48])) (R := fun s => can [s] j (a + H2 j) (bs ++ [49])) (fun s hs => can_none (by rw [ct_one]; unfold cn1; omega)) (fun s hs => can_none (by rw [ct_one]; unfold cn1; omega)))
where
  full {S : List (Int × Int)} (h : Gaps S) (j : Nat) (a : Int) (bs : List Nat) (h1 : ct S a (a + H2 j) = H2 j) : can S j a bs = S.flatMap fun s => can [s] j a bs := by
    have hj := H2_pos j
    obtain ⟨A, s, B, rfl, k1, k2, k3, k4⟩ := ct_full h (a := a) (e := a + H2 j) (by omega) (by omega)
    rw [can_full h1, List.flatMap_append, List.flatMap_cons, flat_nil fun t ht => can_none (by rw [ct_one]; exact k3 t ht), flat_nil fun t ht => can_none (by rw [ct_one]; exact k4 t ht), can_full (by rw [ct_one]; unfold cn1; omega)]
    rfl
  inter {S : List (Int × Int)} {m : Int} {L R : Int × Int → List (List Nat)} (h : Gaps S) (hL : ∀ s, m ≤ s.1 → L s = []) (hR : ∀ s, s.2 ≤ m → R s = []) : S.flatMap L ++ S.flatMap R = S.flatMap fun s => L s ++ R s := by
    induction S with
    | nil => rfl
    | cons s S ih =>
      rw [List.flatMap_cons, List.flatMap_cons, List.flatMap_cons, ← ih h.tail]
      by_cases hs : s.2 ≤ m
      · rw [hR s hs]; simp
      · have : S.flatMap L = [] := flat_nil fun t ht => hL t (by have := (List.pairwise_cons.mp h.2).1 t ht; omega)
        rw [this]; simp
end G
namespace G
open PySem PySem.Spec PyProof.Rows L2 TL
/-! ### the address at which a block begins -/
abbrev beg (bs : List Nat) (j : Nat) : Int := ((wr bs * 2 ^ j : Nat) : Int)
theorem beg0 (bs : List Nat) (j : Nat) : beg (bs ++ [48]) j = beg bs (j + 1) := by
  unfold beg
  rw [wr_snoc, if_neg (by decide), Nat.pow_succ, Nat.add_zero, Nat.mul_comm 2, Nat.mul_assoc, Nat.mul_comm 2]
theorem beg1 (bs : List Nat) (j : Nat) : beg (bs ++ [49]) j = beg bs (j + 1) + H2 j := by
  unfold beg
  rw [wr_snoc, if_pos rfl, Nat.pow_succ, Nat.add_mul, Nat.one_mul, Nat.mul_comm 2, Nat.mul_assoc, Nat.mul_comm 2, Int.natCast_add]
theorem beg_nil (j : Nat) : beg [] j = 0 := by unfold beg; rw [show wr [] = 0 from rfl, Nat.zero_mul]; rfl
/-! ### the leaves without their stars -/
def canB (S : List (Int × Int)) : Nat → Int → List Nat → List (List Nat)
  | 0, a, bs => if ct S a (a + H2 0) = 0 then [] else [bs]
  | j + 1, a, bs => if ct S a (a + H2 (j + 1)) = 0 then [] else if ct S a (a + H2 (j + 1)) = H2 (j + 1) then [bs] else canB S j a (bs ++ [48]) ++ canB S j (a + H2 j) (bs ++ [49])
theorem canB_none {S : List (Int × Int)} {j : Nat} {a : Int} {bs : List Nat} (h : ct S a (a + H2 j) = 0) : canB S j a bs = [] := by
  cases j <;> (unfold canB; rw [if_pos h])
theorem canB_full {S : List (Int × Int)} {j : Nat} {a : Int} {bs : List Nat} (h : ct S a (a + H2 j) = H2 j) : canB S j a bs = [bs] := by
  have := H2_pos j
  cases j with
  | zero => unfold canB; rw [if_neg (by omega)]
  | succ j => unfold canB; rw [if_neg (by omega), if_pos h]
theorem canB_part {S : List (Int × Int)} {j : Nat} {a : Int} {bs : List Nat} (h1 : ct S a (a + H2 (j + 1)) ≠ 0) (h2 : ct S a (a + H2 (j + 1)) ≠ H2 (j + 1)) : canB S (j + 1) a bs = canB S j a (bs ++ [48]) ++ canB S j (a + H2 j) (bs ++ [49]) := by
  conv => lhs; unfold canB
  rw [if_neg h1, if_neg h2]
/-- which of the three -/
theorem can_cases {S : List (Int × Int)} (h : Rise S) {P : Nat → Int → List Nat → Prop} (j : Nat) (a : Int) (bs : List Nat)
    (h0 : ∀ j a bs, ct S a (a + H2 j) = 0 → P j a bs) (h1 : ∀ j a bs, ct S a (a + H2 j) = H2 j → P j a bs)
    (h2 : ∀ j a bs, ct S a (a + H2 (j + 1)) ≠ 0 → ct S a (a + H2 (j + 1)) ≠ H2 (j + 1) → P j a (bs ++ [48]) → P j (a + H2 j) (bs ++ [49]) → P (j + 1) a bs) : P j a bs := by
  induction j generalizing a bs with
  | zero =>
    by_cases e : ct S a (a + H2 0) = 0
    · exact h0 _ _ _ e
    · have l := ct_le h (a := a) (e := a + H2 0) (by rw [H2_zero]; omega)
      have n := ct_nn S a (a + H2 0)
      exact h1 _ _ _ (by have := H2_zero; omega)
  | succ j ih =>
    by_cases e : ct S a (a + H2 (j + 1)) = 0
    · exact h0 _ _ _ e
    · by_cases e2 : ct S a (a + H2 (j + 1)) = H2 (j + 1)
      · exact h1 _ _ _ e2
      · exact h2 _ _ _ e e2 (ih _ _) (ih _ _)
theorem patL_leaf {w j : Nat} {bs : List Nat} (h : bs.length + j = w) : patL w bs = leaf j bs := by
  unfold patL leaf
  by_cases e : j = 0
  · rw [if_neg (by omega), if_pos e, List.append_nil]
  · rw [if_pos (by omega), if_neg e]
theorem can_canB {S : List (Int × Int)} (h : Rise S) {w : Nat} (j : Nat) (a : Int) (bs : List Nat) : bs.length + j = w → can S j a bs = (canB S j a bs).map (patL w) :=
  can_cases h (P := fun j a bs => bs.length + j = w → can S j a bs = (canB S j a bs).map (patL w)) j a bs
    (fun j a bs e _ => by rw [can_none e, canB_none e]; rfl)
    (fun j a bs e hl => by rw [can_full e, canB_full e, List.map_cons, patL_leaf hl]; rfl)
    (fun j a bs e1 e2 i1 i2 hl => by
      rw [can_part e1 e2, canB_part e1 e2, List.map_append, i1 (by rw [List.length_append]; show _ + 1 + _ = _; omega), i2 (by rw [List.length_append]; show _ + 1 + _ = _; omega)])
theorem canB_pre {S : List (Int × Int)} (h : Rise S) (j : Nat) (a : Int) (bs : List Nat) : ∀ x ∈ canB S j a bs, ∃ u, x = bs ++ u ∧ u.length ≤ j ∧ Bits u ∧ (u = [] → ct S a (a + H2 j) = H2 j) :=
  can_cases h (P := fun j a bs => ∀ x ∈ canB S j a bs, ∃ u, x = bs ++ u ∧ u.length ≤ j ∧ Bits u ∧ (u = [] → ct S a (a + H2 j) = H2 j)) j a bs
    (fun j a bs e x hx => by rw [canB_none e] at hx; exact (List.not_mem_nil hx).elim)
    (fun j a bs e x hx => by
      rw [canB_full e] at hx
      rw [List.mem_singleton.mp hx]
      exact ⟨[], (List.append_nil _).symm, Nat.zero_le _, Bits.nil, fun _ => e⟩)
    (fun j a bs e1 e2 i1 i2 x hx => by
      rw [canB_part e1 e2] at hx
      rcases List.mem_append.mp hx with hx | hx
      · obtain ⟨u, rfl, hl, hb, _⟩ := i1 x hx
        exact ⟨48 :: u, by simp, Nat.succ_le_succ hl, (Bits.one (by decide)).app hb, fun z => nomatch z⟩
      · obtain ⟨u, rfl, hl, hb, _⟩ := i2 x hx
        exact ⟨49 :: u, by simp, Nat.succ_le_succ hl, (Bits.one (by decide)).app hb, fun z => nomatch z⟩)
/-- not the two halves of one -/
def NoSib (x y : List Nat) : Prop := ¬ (x.length = y.length ∧ x.dropLast = y.dropLast)
theorem canB_sib {S : List (Int × Int)} (h : Rise S) (j : Nat) (a : Int) (bs : List Nat) : (canB S j a bs).Pairwise NoSib :=
  can_cases h (P := fun j a bs => (canB S j a bs).Pairwise NoSib) j a bs
    (fun j a bs e => by rw [canB_none e]; exact List.Pairwise.nil)
    (fun j a bs e => by rw [canB_full e]; exact List.pairwise_singleton _ _)
    (fun j a bs e1 e2 i1 i2 => by
      rw [canB_part e1 e2]
      refine List.pairwise_append.mpr ⟨i1, i2, fun x hx y hy => ?_⟩
      obtain ⟨u, rfl, hl, _, hu⟩ := canB_pre h _ _ _ x hx
      obtain ⟨v, rfl, hl2, _, hv⟩ := canB_pre h _ _ _ y hy
      rintro ⟨z1, z2⟩
      have hlen : u.length = v.length := by simp at z1; exact z1
      cases u with
      | nil =>
        cases v with
        | nil =>
          have a1 := hu rfl
          have a2 := hv rfl
          have hj := H2_pos j
          have hs := H2_succ j
          have hc := ct_cut h (a := a) (m := a + H2 j) (e := a + H2 (j + 1)) (by omega) (by omega)
          rw [show a + H2 j + H2 j = a + H2 (j + 1) by omega] at a2
          omega
        | cons _ _ => simp at hlen
      | cons c u =>
        cases v with
        | nil => simp at hlen
        | cons d v =>
          rw [List.append_assoc, List.append_assoc, List.dropLast_append_of_ne_nil (by simp), List.dropLast_append_of_ne_nil (by simp), List.dropLast_append_of_ne_nil (by simp)] at z2
          have := List.append_cancel_left z2
          simp at this)
/-! ### the spans of leaves -/
def spB (w : Nat) (x : List Nat) : Int × Int := (beg x (w - x.length), beg x (w - x.length) + H2 (w - x.length))
theorem spB_at {w j : Nat} {bs : List Nat} (h : bs.length + j = w) : spB w bs = (beg bs j, beg bs j + H2 j) := by
  unfold spB
  rw [show w - bs.length = j by omega]
theorem ct_sub {S : List (Int × Int)} (h : Rise S) {a e x y : Int} (h1 : a ≤ x) (h2 : x ≤ y) (h3 : y ≤ e) : ct S a e = ct S a x + ct S x y + ct S y e := by
  rw [ct_cut h (a := a) (m := x) (e := e) h1 (by omega), ct_cut h (a := x) (m := y) (e := e) h2 h3]
  omega
theorem ct_rev {S : List (Int × Int)} {x y : Int} (h : y ≤ x) : ct S x y = 0 := ct_zero.mpr fun s _ => by unfold cn1; omega
theorem ct_canB {S : List (Int × Int)} (h : Rise S) {w : Nat} (j : Nat) (a : Int) (bs : List Nat) : bs.length + j = w → a = beg bs j → ∀ f b, ct ((canB S j a bs).map (spB w)) f b = ct S (max f a) (min b (a + H2 j)) :=
  can_cases h (P := fun j a bs => bs.length + j = w → a = beg bs j → ∀ f b, ct ((canB S j a bs).map (spB w)) f b = ct S (max f a) (min b (a + H2 j))) j a bs
    (fun j a bs e _ _ f b => by
      have hj := H2_pos j
      rw [canB_none e, List.map_nil, ct_nil]
      by_cases hh : max f a ≤ min b (a + H2 j)
      · have := ct_sub h (a := a) (e := a + H2 j) (x := max f a) (y := min b (a + H2 j)) (by omega) hh (by omega)
        have n1 := ct_nn S a (max f a)
        have n2 := ct_nn S (max f a) (min b (a + H2 j))
        have n3 := ct_nn S (min b (a + H2 j)) (a + H2 j)
        omega
      · rw [ct_rev (by omega)])
    (fun j a bs e hl ha f b => by
      have hj := H2_pos j
      rw [canB_full e, List.map_cons, List.map_nil, ct_one, spB_at hl, ← ha]
      unfold cn1
      show max 0 (min b (a + H2 j) - max f a) = _
      by_cases hh : max f a ≤ min b (a + H2 j)
      · have := ct_sub h (a := a) (e := a + H2 j) (x := max f a) (y := min b (a + H2 j)) (by omega) hh (by omega)
        have n1 := ct_le h (a := a) (e := max f a) (by omega)
        have n2 := ct_le h (a := max f a) (e := min b (a + H2 j)) hh
        have n3 := ct_le h (a := min b (a + H2 j)) (e := a + H2 j) (by omega)
        omega
      · rw [ct_rev (by omega)]; omega)
    (fun j a bs e1 e2 i1 i2 hl ha f b => by
      have hj := H2_pos j
      have hs := H2_succ j
      rw [canB_part e1 e2, List.map_append, ct_app, i1 (by rw [List.length_append]; show _ + 1 + _ = _; omega) (by rw [beg0]; exact ha), i2 (by rw [List.length_append]; show _ + 1 + _ = _; omega) (by rw [beg1, ha])]
      rw [show a + H2 j + H2 j = a + H2 (j + 1) by omega]
      by_cases k1 : max f a ≤ min b (a + H2 (j + 1))
      · by_cases k2 : max f a ≤ a + H2 j
        · by_cases k3 : a + H2 j ≤ min b (a + H2 (j + 1))
          · rw [ct_cut h (a := max f a) (m := a + H2 j) (e := min b (a + H2 (j + 1))) k2 k3, show min b (a + H2 j) = a + H2 j by omega, show max f (a + H2 j) = a + H2 j by omega]
          · rw [ct_rev (x := max f (a + H2 j)) (by omega), show min b (a + H2 j) = min b (a + H2 (j + 1)) by omega]
            omega
        · rw [ct_rev (x := max f a) (y := min b (a + H2 j)) (by omega), show max f (a + H2 j) = max f a by omega]
          omega
      · rw [ct_rev (x := max f a) (y := min b (a + H2 j)) (by omega), ct_rev (x := max f (a + H2 j)) (by omega), ct_rev (by omega)]
        omega)
theorem spB_in {S : List (Int × Int)} (h : Rise S) {w : Nat} (j : Nat) (a : Int) (bs : List Nat) : bs.length + j = w → a = beg bs j → ∀ s ∈ (canB S j a bs).map (spB w), a ≤ s.1 ∧ s.1 < s.2 ∧ s.2 ≤ a + H2 j :=
  can_cases h (P := fun j a bs => bs.length + j = w → a = beg bs j → ∀ s ∈ (canB S j a bs).map (spB w), a ≤ s.1 ∧ s.1 < s.2 ∧ s.2 ≤ a + H2 j) j a bs
    (fun j a bs e _ _ s hs => by rw [canB_none e] at hs; exact (List.not_mem_nil hs).elim)
    (fun j a bs e hl ha s hs => by
      have hj := H2_pos j
      rw [canB_full e, List.map_cons, List.map_nil] at hs
      rw [List.mem_singleton.mp hs, spB_at hl, ← ha]
      exact ⟨Int.le_refl _, by show a < a + H2 j; omega, Int.le_refl _⟩)
    (fun j a bs e1 e2 i1 i2 hl ha s hs => by
      have hj := H2_pos j
      have hs2 := H2_succ j
      rw [canB_part e1 e2, List.map_append] at hs
      rcases List.mem_append.mp hs with hs | hs
      · have := i1 (by rw [List.length_append]; show _ + 1 + _ = _; omega) (by rw [beg0]; exact ha) s hs
        omega
      · have := i2 (by rw [List.length_append]; show _ + 1 + _ = _; omega) (by rw [beg1, ha]) s hs
        omega)
theorem spB_rise {S : List (Int × Int)} (h : Rise S) {w : Nat} (j : Nat) (a : Int) (bs : List Nat) : bs.length + j = w → a = beg bs j → Rise ((canB S j a bs).map (spB w)) := fun hl ha =>
  ⟨fun s hs => (spB_in h j a bs hl ha s hs).2.1, can_cases h (P := fun j a bs => bs.length + j = w → a = beg bs j → ((canB S j a bs).map (spB w)).Pairwise fun s t => s.2 ≤ t.1) j a bs
    (fun j a bs e _ _ => by rw [canB_none e]; exact List.Pairwise.nil)
    (fun j a bs e _ _ => by rw [canB_full e]; exact List.pairwise_singleton _ _)
    (fun j a bs e1 e2 i1 i2 hl ha => by
      rw [canB_part e1 e2, List.map_append]
      have l1 : (bs ++ [48]).length + j = w := by rw [List.length_append]; show _ + 1 + _ = _; omega
      have l2 : (bs ++ [49]).length + j = w := by rw [List.length_append]; show _ + 1 + _ = _; omega
      have b1 : a = beg (bs ++ [48]) j := by rw [beg0]; exact ha
      have b2 : a + H2 j = beg (bs ++ [49]) j := by rw [beg1, ha]
      refine List.pairwise_append.mpr ⟨i1 l1 b1, i2 l2 b2, fun s hs t ht => ?_⟩
      have := spB_in h j a _ l1 b1 s hs
      have := spB_in h j _ _ l2 b2 t ht
      omega) hl ha⟩
/-! ### the leaves of both -/
def canM (S : List (Int × Int)) : Nat → Int → List Nat → List (List Nat)
  | 0, _, bs => [bs]
  | j + 1, a, bs => if ct S a (a + H2 (j + 1)) = 0 ∨ ct S a (a + H2 (j + 1)) = H2 (j + 1) then [bs] else canM S j a (bs ++ [48]) ++ canM S j (a + H2 j) (bs ++ [49])
theorem canM_one {S : List (Int × Int)} {j : Nat} {a : Int} {bs : List Nat} (h : ct S a (a + H2 j) = 0 ∨ ct S a (a + H2 j) = H2 j) : canM S j a bs = [bs] := by
  cases j with
  | zero => rfl
  | succ j => unfold canM; rw [if_pos h]
theorem canM_part {S : List (Int × Int)} {j : Nat} {a : Int} {bs : List Nat} (h1 : ct S a (a + H2 (j + 1)) ≠ 0) (h2 : ct S a (a + H2 (j + 1)) ≠ H2 (j + 1)) : canM S (j + 1) a bs = canM S j a (bs ++ [48]) ++ canM S j (a + H2 j) (bs ++ [49]) := by
  conv => lhs; unfold canM
  rw [if_neg (by rintro (h | h); exact h1 h; exact h2 h)]
theorem canM_perm {S R : List (Int × Int)} (h : Rise S) (j : Nat) (a : Int) (bs : List Nat) : (∀ x y, a ≤ x → x ≤ y → y ≤ a + H2 j → ct S x y + ct R x y = y - x) → (canM S j a bs).Perm (canB S j a bs ++ canB R j a bs) :=
  can_cases h (P := fun j a bs => (∀ x y, a ≤ x → x ≤ y → y ≤ a + H2 j → ct S x y + ct R x y = y - x) → (canM S j a bs).Perm (canB S j a bs ++ canB R j a bs)) j a bs
    (fun j a bs e hc => by
      have hj := H2_pos j
      have := hc a (a + H2 j) (Int.le_refl _) (by omega) (Int.le_refl _)
      rw [canM_one (.inl e), canB_none e, canB_full (by omega : ct R a (a + H2 j) = H2 j)]
      exact List.Perm.refl _)
    (fun j a bs e hc => by
      have hj := H2_pos j
      have := hc a (a + H2 j) (Int.le_refl _) (by omega) (Int.le_refl _)
      rw [canM_one (.inr e), canB_full e, canB_none (by omega : ct R a (a + H2 j) = 0)]
      exact List.Perm.refl _)
    (fun j a bs e1 e2 i1 i2 hc => by
      have hj := H2_pos j
      have hs := H2_succ j
      have := hc a (a + H2 (j + 1)) (Int.le_refl _) (by omega) (Int.le_refl _)
      rw [canM_part e1 e2, canB_part e1 e2, canB_part (by omega : ct R a (a + H2 (j + 1)) ≠ 0) (by omega)]
      refine ((i1 fun x y h1 h2 h3 => hc x y h1 h2 (by omega)).append (i2 fun x y h1 h2 h3 => hc x y (by omega) h2 (by omega))).trans ?_
      rw [List.append_assoc, List.append_assoc]
      refine List.Perm.append_left _ ?_
      rw [← List.append_assoc, ← List.append_assoc]
      exact List.Perm.append_right _ List.perm_append_comm)
/-- the one has a 0 where the other has a 1, all alike ahead of it -/
def Apart (x y : List Nat) : Prop := ∃ c u v, x = c ++ 48 :: u ∧ y = c ++ 49 :: v
theorem canM_pre {S : List (Int × Int)} (h : Rise S) (j : Nat) (a : Int) (bs : List Nat) : ∀ x ∈ canM S j a bs, ∃ u, x = bs ++ u ∧ u.length ≤ j ∧ Bits u :=
  can_cases h (P := fun j a bs => ∀ x ∈ canM S j a bs, ∃ u, x = bs ++ u ∧ u.length ≤ j ∧ Bits u) j a bs
    (fun j a bs e x hx => by
      rw [canM_one (.inl e)] at hx
      exact ⟨[], by rw [List.mem_singleton.mp hx, List.append_nil], Nat.zero_le _, Bits.nil⟩)
    (fun j a bs e x hx => by
      rw [canM_one (.inr e)] at hx
      exact ⟨[], by rw [List.mem_singleton.mp hx, List.append_nil], Nat.zero_le _, Bits.nil⟩)
    (fun j a bs e1 e2 i1 i2 x hx => by
      rw [canM_part e1 e2] at hx
      rcases List.mem_append.mp hx with hx | hx
      · obtain ⟨u, rfl, hl, hb⟩ := i1 x hx
        exact ⟨48 :: u, by simp, Nat.succ_le_succ hl, (Bits.one (by decide)).app hb⟩
      · obtain ⟨u, rfl, hl, hb⟩ := i2 x hx
        exact ⟨49 :: u, by simp, Nat.succ_le_succ hl, (Bits.one (by decide)).app hb⟩)
theorem canM_apart {S : List (Int × Int)} (h : Rise S) (j : Nat) (a : Int) (bs : List Nat) : (canM S j a bs).Pairwise Apart :=
  can_cases h (P := fun j a bs => (canM S j a bs).Pairwise Apart) j a bs
    (fun j a bs e => by rw [canM_one (.inl e)]; exact List.pairwise_singleton _ _)
    (fun j a bs e => by rw [canM_one (.inr e)]; exact List.pairwise_singleton _ _)
    (fun j a bs e1 e2 i1 i2 => by
      rw [canM_part e1 e2]
      refine List.pairwise_append.mpr ⟨i1, i2, fun x hx y hy => ?_⟩
      obtain ⟨u, rfl, _⟩ := canM_pre h _ _ _ x hx
      obtain ⟨v, rfl, _⟩ := canM_pre h _ _ _ y hy
      exact ⟨bs, u, v, by simp, by simp⟩)
/-! ### spans one behind the other -/
def Tile : Int → List (Int × Int) → Int → Prop
  | a, [], e => a = e
  | a, s :: T, e => s.1 = a ∧ s.1 < s.2 ∧ Tile s.2 T e
theorem Tile.app : ∀ {T U : List (Int × Int)} {a m e : Int}, Tile a T m → Tile m U e → Tile a (T ++ U) e
  | [], _, _, _, _, h, k => by cases (show _ = _ from h); exact k
  | _ :: _, _, _, _, _, ⟨h1, h2, h3⟩, k => ⟨h1, h2, Tile.app h3 k⟩
theorem Tile.le : ∀ {T : List (Int × Int)} {a e : Int}, Tile a T e → a ≤ e
  | [], _, _, h => Int.le_of_eq h
  | _ :: _, _, _, ⟨h1, h2, h3⟩ => by have := h3.le; omega
theorem Tile.mem : ∀ {T : List (Int × Int)} {a e : Int}, Tile a T e → ∀ s ∈ T, a ≤ s.1 ∧ s.1 < s.2 ∧ s.2 ≤ e
  | s :: T, a, e, ⟨h1, h2, h3⟩, t, ht => by
    rcases List.mem_cons.mp ht with rfl | ht
    · exact ⟨by omega, h2, h3.le⟩
    · have := h3.mem t ht
      omega
theorem Tile.rise : ∀ {T : List (Int × Int)} {a e : Int}, Tile a T e → Rise T
  | [], _, _, _ => ⟨fun _ h => (List.not_mem_nil h).elim, List.Pairwise.nil⟩
  | s :: T, a, e, h@⟨h1, h2, h3⟩ => ⟨fun t ht => (h.mem t ht).2.1, List.pairwise_cons.mpr ⟨fun t ht => (h3.mem t ht).1, h3.rise.2⟩⟩
theorem Tile.ct : ∀ {T : List (Int × Int)} {a e : Int}, Tile a T e → ∀ x y, ct T x y = max 0 (min y e - max x a)
  | [], a, e, h, x, y => by cases (show _ = _ from h); rw [ct_nil]; omega
  | s :: T, a, e, ⟨h1, h2, h3⟩, x, y => by
    rw [ct_cons, h3.ct]
    have := h3.le
    unfold cn1
    omega
theorem Tile.sum : ∀ {T : List (Int × Int)} {a e : Int}, Tile a T e → (T.map fun s => s.2 - s.1).sum = e - a
  | [], a, e, h => by cases (show _ = _ from h); exact (Int.sub_self _).symm
  | s :: T, a, e, ⟨h1, h2, h3⟩ => by rw [List.map_cons, List.sum_cons, h3.sum]; omega
theorem canM_tile {S : List (Int × Int)} (h : Rise S) {w : Nat} (j : Nat) (a : Int) (bs : List Nat) : bs.length + j = w → a = beg bs j → Tile a ((canM S j a bs).map (spB w)) (a + H2 j) := by
  have one : ∀ (j : Nat) (a : Int) (bs : List Nat), bs.length + j = w → a = beg bs j → Tile a ([bs].map (spB w)) (a + H2 j) := fun j a bs hl ha => by
    rw [List.map_cons, spB_at hl, ← ha]
    exact ⟨rfl, by have := H2_pos j; show a < a + H2 j; omega, rfl⟩
  exact can_cases h (P := fun j a bs => bs.length + j = w → a = beg bs j → Tile a ((canM S j a bs).map (spB w)) (a + H2 j)) j a bs
    (fun j a bs e hl ha => by rw [canM_one (.inl e)]; exact one j a bs hl ha)
    (fun j a bs e hl ha => by rw [canM_one (.inr e)]; exact one j a bs hl ha)
    (fun j a bs e1 e2 i1 i2 hl ha => by
      have hs := H2_succ j
      rw [canM_part e1 e2, List.map_append]
      have k2 := i2 (by rw [List.length_append]; show _ + 1 + _ = _; omega) (by rw [beg1, ha])
      rw [show a + H2 j + H2 j = a + H2 (j + 1) by omega] at k2
      exact (i1 (by rw [List.length_append]; show _ + 1 + _ = _; omega) (by rw [beg0]; exact ha)).app k2)
end G
/-! Plain laws: what many laws' texts share. -/
namespace G
open PySem PySem.Spec PyProof.Rows L2 TL
def spanL (w : Nat) (bs : List Nat) : Nat × Nat := (wr bs * 2 ^ (w - bs.length), (wr bs + 1) * 2 ^ (w - bs.length))
theorem notF {α : Type} {a b : α} : (if (!false) = true then a else b) = a := rfl
theorem bin_wr {bs : List Nat} (h : Bits bs) : bin bs.length (wr bs) = bs :=
  wr_inj (bin_bits _ _) h (bin_len _ _) (by rw [wr_bin, Nat.mod_eq_of_lt (wr_lt bs)])
/-! ### the widest block from an address on -/
theorem shlI_w {w J : Nat} (h : J ≤ 60) : shlI (1 : Int) ((w : Int) - ((w : Int) - (J : Int))) = some (H2 J) := by
  rw [show (w : Int) - ((w : Int) - (J : Int)) = (J : Nat) by omega]
  exact shlI_one (by omega)
theorem mod_up {a : Int} {j k : Nat} (h : a % H2 k = 0) (hk : j ≤ k) : a % H2 j = 0 := by
  obtain ⟨d, rfl⟩ := Nat.exists_eq_add_of_le hk
  have : H2 (j + d) = H2 j * H2 d := by show ((2 ^ (j + d) : Nat) : Int) = _; rw [Nat.pow_add, Int.natCast_mul]
  rw [this] at h
  exact Int.emod_eq_zero_of_dvd (Int.dvd_trans (Int.dvd_mul_right _ _) (Int.dvd_of_emod_eq_zero h))
theorem H2_mono {j k : Nat} (h : j ≤ k) : H2 j ≤ H2 k := Int.ofNat_le.mpr (Nat.pow_le_pow_right (by decide) h)
theorem beg_mod (bs : List Nat) (j : Nat) : beg bs j % H2 j = 0 := by
  unfold beg
  rw [Int.natCast_mul]
  exact Int.mul_emod_left _ _
theorem appL_some {α : Type} {l : List α} {x : α} (h : l.length ≤ 1000000) : appL l x = some (l ++ [x]) := by unfold appL; rw [if_pos (by rw [sizeLine_eq]; omega)]
theorem setL_last {α : Type} (F : List α) (x y : α) : setL (F ++ [x]) (-1) y = some (F ++ [y]) := by
  unfold setL ixN
  rw [List.length_append]
  show Option.map _ (if (0 : Int) ≤ -1 then _ else if -((F.length + 1 : Nat) : Int) ≤ -1 then _ else none) = _
  rw [if_neg (by omega), if_pos (by omega)]
  show some ((F ++ [x]).set (-1 + ((F.length + 1 : Nat) : Int)).toNat y) = _
  rw [show (-1 + ((F.length + 1 : Nat) : Int)).toNat = F.length by omega, List.set_append_right _ _ (Nat.le_refl _), Nat.sub_self]
  rfl
theorem gaps_snoc {F : List (Int × Int)} {x : Int × Int} (h : Gaps F) (hx : x.1 < x.2) (hb : ∀ s ∈ F, s.2 < x.1) : Gaps (F ++ [x]) :=
  ⟨fun s hs => (List.mem_append.mp hs).elim (h.1 s) fun e => by rw [List.mem_singleton.mp e]; exact hx,
   List.pairwise_append.mpr ⟨h.2, List.pairwise_singleton _ _, fun s hs t ht => by rw [List.mem_singleton.mp ht]; exact hb s hs⟩⟩
/-! ### drawn stretches -/
theorem rangeL_succ (n : Int) (k : Nat) : rangeL n (k + 1) = n :: rangeL (n + 1) k := by
  unfold rangeL
  rw [List.range_succ_eq_map, List.map_cons, List.map_map]
  congr 1
  · omega
  · refine List.map_congr_left fun i _ => ?_
    show n + ((i + 1 : Nat) : Int) = n + 1 + (i : Nat)
    omega
theorem ins_len (k : Int) : ∀ l : List Int, (ins k l).length ≤ l.length + 1
  | [] => Nat.le_refl _
  | x :: l => by
    unfold ins
    split
    · exact Nat.le_refl _
    · split
      · exact Nat.le_succ _
      · exact Nat.succ_le_succ (ins_len k l)
theorem ssort_len : ∀ l : List Int, (ssort l).length ≤ l.length
  | [] => Nat.le_refl _
  | x :: l => Nat.le_trans (ins_len x (ssort l)) (Nat.succ_le_succ (ssort_len l))
theorem rangeL_add : ∀ (a : Nat) (n : Int) (c : Nat), rangeL n (a + c) = rangeL n a ++ rangeL (n + (a : Nat)) c
  | 0, n, c => by
    rw [Nat.zero_add, show n + ((0 : Nat) : Int) = n by omega]
    rfl
  | a + 1, n, c => by
    rw [show a + 1 + c = (a + c) + 1 by omega, rangeL_succ, rangeL_succ, rangeL_add a (n + 1) c, List.cons_append, show n + 1 + (a : Nat) = n + ((a + 1 : Nat) : Int) by omega]
theorem map_tl_inj : ∀ {xs ys : List Str}, xs.map tl = ys.map tl → xs = ys
  | [], [], _ => rfl
  | [], _ :: _, h => nomatch h
  | _ :: _, [], h => nomatch h
  | x :: xs, y :: ys, h => by
    obtain ⟨h1, h2⟩ := List.cons.inj h
    rw [tl_inj h1, map_tl_inj h2]
/-! ### spans of patterns, by their texts -/
def bsOf (x : Str) : List Nat := (tl x).takeWhile isB
theorem bsOf_pat {w : Nat} {bs : List Nat} {x : Str} (p : Pat w bs x) : bsOf x = bs := by
  unfold bsOf
  rw [p.eq, patL]
  have h : ∀ (l r : List Nat), Bits l → (∀ c, r.head? = some c → isB c = false) → (l ++ r).takeWhile isB = l := by
    intro l r hl hr
    induction l with
    | nil => exact tw0 r hr
    | cons c l ih =>
      show List.takeWhile isB (c :: (l ++ r)) = _
      rw [List.takeWhile_cons, if_pos (hl c (List.mem_cons_self ..)), ih fun d hd => hl d (List.mem_cons_of_mem _ hd)]
  refine h bs _ p.bits fun c hc => ?_
  split at hc
  · have : c = 42 := (Option.some.inj hc).symm
    subst this
    decide
  · cases hc
def spI (w : Nat) (x : Str) : Int × Int := (((spanL w (bsOf x)).1 : Int), ((spanL w (bsOf x)).2 : Int))
def IsPat (w : Nat) (x : Str) : Prop := ∃ bs, Pat w bs x
theorem spI_ok {w : Nat} {x : Str} (p : IsPat w x) : 0 ≤ (spI w x).1 ∧ (spI w x).1 < (spI w x).2 ∧ (spI w x).2 ≤ ((2 ^ w : Nat) : Int) := by
  obtain ⟨bs, p⟩ := p
  unfold spI
  rw [bsOf_pat p]
  have h1 := wr_lt bs
  have hle := p.le
  have h2 : 2 ^ bs.length * 2 ^ (w - bs.length) = 2 ^ w := by rw [← Nat.pow_add]; congr 1; omega
  have h3 : (wr bs + 1) * 2 ^ (w - bs.length) ≤ 2 ^ bs.length * 2 ^ (w - bs.length) := Nat.mul_le_mul_right _ h1
  have h4 : 0 < 2 ^ (w - bs.length) := Nat.two_pow_pos _
  refine ⟨Int.natCast_nonneg _, ?_, ?_⟩
  · show ((wr bs * 2 ^ (w - bs.length) : Nat) : Int) < (((wr bs + 1) * 2 ^ (w - bs.length) : Nat) : Int)
    rw [Nat.add_mul, Nat.one_mul]
    omega
  · show (((wr bs + 1) * 2 ^ (w - bs.length) : Nat) : Int) ≤ _
    omega
/-! ### edges -/
def flat2 (S : List (Int × Int)) : List Int := S.flatMap fun s => [s.1, s.2]
theorem mem_flat2 {S : List (Int × Int)} {k : Int} : k ∈ flat2 S ↔ ∃ s ∈ S, k = s.1 ∨ k = s.2 := by
  unfold flat2
  simp [List.mem_flatMap]
theorem flat2_len (S : List (Int × Int)) : (flat2 S).length = 2 * S.length := by
  induction S with
  | nil => rfl
  | cons s S ih =>
    show ([s.1, s.2] ++ flat2 S).length = _
    rw [List.length_append, ih]
    show 2 + 2 * S.length = 2 * (S.length + 1)
    omega
/-- neighbours -/
def prsL : List Int → List (Int × Int)
  | x :: y :: r => (x, y) :: prsL (y :: r)
  | _ => []
theorem zip_prs : ∀ l : List Int, List.zip l (l.drop 1) = prsL l
  | [] => rfl
  | [_] => rfl
  | x :: y :: r => by
    show (x, y) :: List.zip (y :: r) r = _
    have := zip_prs (y :: r)
    exact congrArg _ this
def edgesOf (w : Nat) (S : List (Int × Int)) : List Int := ssort ([0, ((2 ^ w : Nat) : Int)] ++ flat2 S)
/-! ### what stands in which -/
def hereL (S : List (Int × Int)) (f b : Int) : List Bool := S.map fun s => (decide (s.1 ≤ f)) && (decide (b ≤ s.2))
def apartL (S : List (Int × Int)) (f b : Int) : List Bool := S.map fun s => (decide (b ≤ s.1)) || (decide (s.2 ≤ f))
/-- no edge lies between -/
def Gap (S : List (Int × Int)) (f b : Int) : Prop := f < b ∧ ∀ s ∈ S, s.1 < s.2 ∧ (s.1 ≤ f ∨ b ≤ s.1) ∧ (s.2 ≤ f ∨ b ≤ s.2)
/-- at an edge what stands changes -/
theorem here_ne {S : List (Int × Int)} {p e b : Int} (g1 : Gap S p e) (g2 : Gap S e b) (he : ∃ s ∈ S, e = s.1 ∨ e = s.2) : hereL S e b ≠ hereL S p e := by
  obtain ⟨s, hs, h⟩ := he
  intro z
  have := List.map_eq_map_iff.mp z s hs
  rw [Bool.eq_iff_iff, Bool.and_eq_true, Bool.and_eq_true, decide_eq_true_iff, decide_eq_true_iff, decide_eq_true_iff, decide_eq_true_iff] at this
  obtain ⟨f1, k1⟩ := g1
  obtain ⟨f2, k2⟩ := g2
  obtain ⟨a1, a2, a3⟩ := k1 s hs
  obtain ⟨b1, b2, b3⟩ := k2 s hs
  omega
def El (S : List (Int × Int)) (e : Int) (o : Option (List Bool)) : Prop := o = none ∨ ∃ p, Gap S p e ∧ o = some (hereL S p e) ∧ ∃ s ∈ S, e = s.1 ∨ e = s.2
theorem El.ne {S : List (Int × Int)} {e b : Int} {o : Option (List Bool)} (h : El S e o) (g : Gap S e b) : some (hereL S e b) ≠ o := by
  rcases h with rfl | ⟨p, g1, rfl, hs⟩
  · exact fun z => nomatch z
  · exact fun z => here_ne g1 g hs (Option.some.inj z)
theorem rangeO_len {n : Nat} (h : n ≤ 16777216) : rangeO1 (n : Int) = some (rangeL 0 n) := by
  unfold rangeO1
  rw [if_pos ⟨by omega, by rw [sizeLine_eq]; omega⟩, Int.toNat_natCast]
theorem mem_rangeL {n : Nat} {k : Int} (h : k ∈ rangeL 0 n) : 0 ≤ k ∧ k < (n : Nat) := by
  unfold rangeL at h
  obtain ⟨i, hi, rfl⟩ := List.mem_map.mp h
  have := List.mem_range.mp hi
  omega
/-! ### the edges of a row of spans -/
structure SpOk (w : Nat) (S : List (Int × Int)) : Prop where
  ok : ∀ s ∈ S, 0 ≤ s.1 ∧ s.1 < s.2 ∧ s.2 ≤ ((2 ^ w : Nat) : Int)
theorem prs_adj : ∀ {l : List Int} {f b : Int}, l.Pairwise (· < ·) → (f, b) ∈ prsL l → f < b ∧ ∀ x ∈ l, x ≤ f ∨ b ≤ x
  | [], _, _, _, h => nomatch h
  | [_], _, _, _, h => nomatch h
  | x :: y :: r, f, b, hp, h => by
    obtain ⟨h1, h2⟩ := List.pairwise_cons.mp hp
    rcases List.mem_cons.mp (show (f, b) ∈ (x, y) :: prsL (y :: r) from h) with e | h
    · have e1 : f = x := congrArg Prod.fst e
      have e2 : b = y := congrArg Prod.snd e
      subst e1 e2
      refine ⟨h1 b (List.mem_cons_self ..), fun z hz => ?_⟩
      rcases List.mem_cons.mp hz with rfl | hz
      · exact .inl (Int.le_refl _)
      · rcases List.mem_cons.mp hz with rfl | hz
        · exact .inr (Int.le_refl _)
        · have := (List.pairwise_cons.mp h2).1 z hz
          exact .inr (by omega)
    · obtain ⟨k1, k2⟩ := prs_adj h2 h
      have hf : f ∈ y :: r := prs_mem h
      have hxf := h1 f hf
      refine ⟨k1, fun z hz => ?_⟩
      rcases List.mem_cons.mp hz with rfl | hz
      · exact .inl (by omega)
      · exact k2 z hz
where
  prs_mem : ∀ {l : List Int} {f b : Int}, (f, b) ∈ prsL l → f ∈ l
    | [], _, _, h => nomatch h
    | [_], _, _, h => nomatch h
    | x :: y :: r, f, b, h => by
      rcases List.mem_cons.mp (show (f, b) ∈ (x, y) :: prsL (y :: r) from h) with e | h
      · have e1 : f = x := congrArg Prod.fst e
        subst e1
        exact List.mem_cons_self ..
      · exact List.mem_cons_of_mem _ (prs_mem h)
theorem edges_facts {w : Nat} {S : List (Int × Int)} (h : SpOk w S) : ∃ l, edgesOf w S = 0 :: l ∧ (∀ q ∈ prsL (0 :: l), Gap S q.1 q.2) ∧ (∀ k ∈ l.dropLast, ∃ s ∈ S, k = s.1 ∨ k = s.2) ∧ (0 :: l).getLast? = some ((2 ^ w : Nat) : Int) ∧ l ≠ [] := by
  have hs := ssort_sorted ([0, ((2 ^ w : Nat) : Int)] ++ flat2 S)
  have hm : ∀ k, k ∈ edgesOf w S ↔ k = 0 ∨ k = ((2 ^ w : Nat) : Int) ∨ ∃ s ∈ S, k = s.1 ∨ k = s.2 := fun k => by
    unfold edgesOf
    rw [ssort_mem, List.mem_append, mem_flat2]
    simp only [List.mem_cons, List.not_mem_nil, or_false, or_assoc]
  have hW : (0 : Int) < ((2 ^ w : Nat) : Int) := by have := Nat.two_pow_pos w; omega
  have hlo : ∀ k ∈ edgesOf w S, 0 ≤ k ∧ k ≤ ((2 ^ w : Nat) : Int) := fun k hk => by
    rcases (hm k).mp hk with rfl | rfl | ⟨s, hs, rfl | rfl⟩
    · omega
    · omega
    · have := h.ok s hs; omega
    · have := h.ok s hs; omega
  change (edgesOf w S).Pairwise (· < ·) at hs
  have h0 := (hm 0).mpr (.inl rfl)
  have hWm := (hm ((2 ^ w : Nat) : Int)).mpr (.inr (.inl rfl))
  generalize edgesOf w S = E at hs hm hlo h0 hWm
  cases E with
  | nil => cases h0
  | cons x l =>
    obtain ⟨s1, s2⟩ := List.pairwise_cons.mp hs
    have ex : x = 0 := by
      rcases List.mem_cons.mp h0 with e | e
      · exact e.symm
      · have := s1 0 e
        have := hlo x (List.mem_cons_self ..)
        omega
    subst ex
    have hne : l ≠ [] := fun e => by
      subst e
      have := List.mem_singleton.mp hWm
      omega
    have hlast : (0 :: l).getLast? = some ((2 ^ w : Nat) : Int) := by
      obtain ⟨m, z, rfl⟩ : ∃ m z, l = m ++ [z] := ⟨l.dropLast, l.getLast hne, (List.dropLast_concat_getLast hne).symm⟩
      have hz : z = ((2 ^ w : Nat) : Int) := by
        rcases List.mem_cons.mp hWm with e | e
        · omega
        · rcases List.mem_append.mp e with e | e
          · have h3 := (List.pairwise_append.mp s2).2.2 _ e z (List.mem_singleton.mpr rfl)
            have := hlo z (List.mem_cons_of_mem _ (List.mem_append.mpr (.inr (List.mem_singleton.mpr rfl))))
            omega
          · exact (List.mem_singleton.mp e).symm
      subst hz
      rw [← List.cons_append]
      exact List.getLast?_concat
    refine ⟨l, rfl, fun q hq => ?_, fun k hk => ?_, hlast, hne⟩
    · obtain ⟨k1, k2⟩ := prs_adj hs hq
      exact ⟨k1, fun s hs2 => ⟨(h.ok s hs2).2.1, k2 s.1 ((hm s.1).mpr (.inr (.inr ⟨s, hs2, .inl rfl⟩))), k2 s.2 ((hm s.2).mpr (.inr (.inr ⟨s, hs2, .inr rfl⟩)))⟩⟩
    · rcases (hm k).mp (List.mem_cons_of_mem _ (List.dropLast_subset _ hk)) with rfl | rfl | e
      · have := s1 0 (List.dropLast_subset _ hk); omega
      · exfalso
        obtain ⟨m, z, rfl⟩ : ∃ m z, l = m ++ [z] := ⟨l.dropLast, l.getLast hne, (List.dropLast_concat_getLast hne).symm⟩
        rw [List.dropLast_concat] at hk
        have h3 := (List.pairwise_append.mp s2).2.2 _ hk z (List.mem_singleton.mpr rfl)
        have := hlo z (List.mem_cons_of_mem _ (List.mem_append.mpr (.inr (List.mem_singleton.mpr rfl))))
        omega
      · exact e
theorem spOk {w : Nat} {ps : List Str} (h : ∀ p ∈ ps, IsPat w p) : SpOk w (ps.map (spI w)) := ⟨fun s hs => by
  obtain ⟨p, hp, rfl⟩ := List.mem_map.mp hs
  exact spI_ok (h p hp)⟩
theorem prs_len : ∀ l : List Int, (prsL l).length ≤ l.length
  | [] => Nat.le_refl _
  | [_] => Nat.zero_le _
  | x :: y :: r => by
    show (prsL (y :: r)).length + 1 ≤ (y :: r).length + 1
    exact Nat.succ_le_succ (prs_len (y :: r))
end G
/-! Plain laws: patterns written out of signs; sorted texts; tiles and parts. -/
namespace G
open PySem PySem.Spec PyProof.Rows L2 TL
theorem conL_some {α : Type} {a b : List α} (h : a.length + b.length ≤ 1000000) : conL a b = some (a ++ b) := by unfold conL; rw [if_pos (by rw [sizeLine_eq]; omega)]
section
variable {α β γ R T : Type} {g : R → Option T}
theorem bL0_go {f : Option T} : bindL0 (some (.go ())) f g = f := rfl
theorem bL1_go {f : α → Option T} {a : α} : bindL1 (some (.go a)) f g = f a := rfl
theorem bL2_go {f : α → β → Option T} {a : α} {b : β} : bindL2 (some (.go (a, b))) f g = f a b := rfl
theorem bL3_go {f : α → β → γ → Option T} {a : α} {b : β} {c : γ} : bindL3 (some (.go (a, b, c))) f g = f a b c := rfl
end
theorem shlI_H {k : Nat} (h : k ≤ 1000000) : shlI 1 (k : Int) = some (H2 k) := shlI_one h
theorem rangeO_1 {n : Nat} (h : n ≤ 1000000) : rangeO (1 : Int) ((n : Nat) : Int) = some (rangeL 1 (n - 1)) := by
  unfold rangeO
  rw [if_pos ⟨by omega, by rw [sizeLine_eq]; omega⟩, show (((n : Nat) : Int) - 1).toNat = n - 1 by omega]
theorem mem_range1 {n : Nat} {k : Int} (h : k ∈ rangeL 1 (n - 1)) : ∃ i : Nat, k = ((i + 1 : Nat) : Int) ∧ i + 1 < n := by
  unfold rangeL at h
  obtain ⟨i, hi, rfl⟩ := List.mem_map.mp h
  have := List.mem_range.mp hi
  exact ⟨i, by omega, by omega⟩
/-- texts that write the patterns of some signs -/
structure Pats (w : Nat) (us : List (List Nat)) (ys : List Str) : Prop where
  eq : ys.map tl = us.map (patL w)
  ok : ∀ u ∈ us, Bits u ∧ u.length ≤ w
theorem Pats.app {w : Nat} {us vs : List (List Nat)} {ys zs : List Str} (h : Pats w us ys) (k : Pats w vs zs) : Pats w (us ++ vs) (ys ++ zs) :=
  ⟨by rw [List.map_append, List.map_append, h.eq, k.eq], fun u hu => (List.mem_append.mp hu).elim (h.ok u) (k.ok u)⟩
theorem Pats.len {w : Nat} {us : List (List Nat)} {ys : List Str} (h : Pats w us ys) : ys.length = us.length := by
  have := congrArg List.length h.eq
  rwa [List.length_map, List.length_map] at this
theorem Pats.tail {w : Nat} {u : List Nat} {us : List (List Nat)} {y : Str} {ys : List Str} (h : Pats w (u :: us) (y :: ys)) : Pat w u y ∧ Pats w us ys := by
  have e := h.eq
  rw [List.map_cons, List.map_cons] at e
  obtain ⟨e1, e2⟩ := List.cons.inj e
  have := h.ok u (List.mem_cons_self ..)
  exact ⟨⟨this.1, this.2, e1⟩, e2, fun v hv => h.ok v (List.mem_cons_of_mem _ hv)⟩
theorem Pats.rec_ {w : Nat} {P : List (List Nat) → List Str → Prop} (h0 : P [] []) (h1 : ∀ u us y ys, Pat w u y → Pats w us ys → P us ys → P (u :: us) (y :: ys)) : ∀ {us ys}, Pats w us ys → P us ys
  | [], [], _ => h0
  | [], _ :: _, h => nomatch h.len
  | _ :: _, [], h => nomatch h.len
  | u :: us, y :: ys, h => h1 u us y ys h.tail.1 h.tail.2 (Pats.rec_ h0 h1 h.tail.2)
theorem Pats.each {w : Nat} {us : List (List Nat)} {ys : List Str} (h : Pats w us ys) : ∀ y ∈ ys, IsPat w y :=
  Pats.rec_ (P := fun us ys => ∀ y ∈ ys, IsPat w y) (fun _ h => nomatch h) (fun u us y ys p _ ih z hz => by
    rcases List.mem_cons.mp hz with rfl | hz
    · exact ⟨u, p⟩
    · exact ih z hz) h
theorem spI_spB {w : Nat} {u : List Nat} {y : Str} (p : Pat w u y) : spI w y = spB w u := by
  unfold spI spB spanL
  rw [bsOf_pat p]
  refine Prod.ext rfl ?_
  show (((wr u + 1) * 2 ^ (w - u.length) : Nat) : Int) = ((wr u * 2 ^ (w - u.length) : Nat) : Int) + ((2 ^ (w - u.length) : Nat) : Int)
  rw [Nat.add_mul, Nat.one_mul, Int.natCast_add]
theorem Pats.spans {w : Nat} {us : List (List Nat)} {ys : List Str} (h : Pats w us ys) : ys.map (spI w) = us.map (spB w) :=
  Pats.rec_ (P := fun us ys => ys.map (spI w) = us.map (spB w)) rfl (fun u us y ys p _ ih => by rw [List.map_cons, List.map_cons, ih, spI_spB p]) h
theorem Pats.strip {w : Nat} {us : List (List Nat)} {ys : List Str} (h : Pats w us ys) : (ys.map fun y => Txt.stripChars y ("*" : Str)).map tl = us :=
  Pats.rec_ (P := fun us ys => (ys.map fun y => Txt.stripChars y ("*" : Str)).map tl = us) rfl (fun u us y ys p _ ih => by rw [List.map_cons, List.map_cons, ih, p.strip]) h
/-- the leaves of all addresses -/
theorem canB_root {S : List (Int × Int)} (h : Rise S) (w : Nat) : ∀ u ∈ canB S w 0 [], Bits u ∧ u.length ≤ w := fun u hu => by
  obtain ⟨v, rfl, h1, h2, _⟩ := canB_pre h w 0 [] u hu
  exact ⟨h2, h1⟩
theorem can_pats {S : List (Int × Int)} (h : Rise S) {w : Nat} {ys : List Str} (e : ys.map tl = can S w 0 []) : Pats w (canB S w 0 []) ys :=
  ⟨by rw [e, can_canB h w 0 [] (Nat.zero_add w)], canB_root h w⟩
theorem can_len0 {S : List (Int × Int)} (h : Rise S) (w : Nat) : (can S w 0 []).length ≤ 1 + w * (2 * S.length) := by
  have h1 := can_len h w 0 []
  exact Nat.le_trans h1 (Nat.add_le_add_left (Nat.mul_le_mul_left _ (ends_le _ _ _)) 1)
/-! ### sorted texts -/
theorem Apart.le {x y : List Nat} (h : Apart x y) : x ≤ y := by
  obtain ⟨c, u, v, rfl, rfl⟩ := h
  refine List.le_of_lt ?_
  induction c with
  | nil => exact List.Lex.rel (by decide)
  | cons a c ih => exact List.Lex.cons ih
theorem Apart.take {x y : List Nat} (h : Apart x y) : y.take x.length ≠ x := by
  obtain ⟨c, u, v, rfl, rfl⟩ := h
  intro e
  have h1 : (c ++ 49 :: v).take (c ++ 48 :: u).length = c ++ (49 :: v).take (u.length + 1) := by
    rw [List.length_append, List.take_length_add_append]
    rfl
  rw [h1] at e
  have := List.append_cancel_left e
  rw [List.take_succ_cons] at this
  exact absurd (List.cons.inj this).1 (by decide)
theorem sortT_map {L : List Str} {C : List (List Nat)} (hp : (L.map tl).Perm C) (hs : C.Pairwise fun a b => a ≤ b) : (sortT L).map tl = C := by
  have h1 : ((sortT L).map tl).Perm C := ((sortT_perm L).map tl).trans hp
  have h2 : ((sortT L).map tl).Pairwise fun a b => a ≤ b := List.pairwise_map.mpr ((sortT_sorted L).imp fun h => of_decide_eq_true h)
  exact h1.eq_of_pairwise (le := fun a b => a ≤ b) (fun a b _ _ h3 h4 => List.le_antisymm h3 h4) h2 hs
/-! ### tiles -/
theorem Tile.sortP {T U : List (Int × Int)} {a e : Int} (h : Tile a T e) (hp : T.Perm U) : sortP U = T :=
  sortP_uniq hp (h.rise.2.imp_of_mem fun {s t} hs ht k => decide_eq_true (.inl (by have := (h.mem s hs).2.1; omega)))
theorem Tile.prs : ∀ {T : List (Int × Int)} {a e : Int}, Tile a T e → prsL (a :: T.map (·.2)) = T
  | [], _, _, _ => rfl
  | [s], a, e, ⟨h1, h2, h3⟩ => by
    show [(a, s.2)] = [s]
    rw [← h1]
  | s :: t :: T, a, e, ⟨h1, h2, h3⟩ => by
    show (a, s.2) :: prsL (s.2 :: (t :: T).map (·.2)) = _
    rw [Tile.prs h3, ← h1]
theorem Tile.ends_mem : ∀ {T : List (Int × Int)} {a e k : Int}, Tile a T e → (k ∈ a :: T.map (·.2) ↔ k = a ∨ k = e ∨ ∃ s ∈ T, k = s.1 ∨ k = s.2)
  | [], a, e, k, h => by
    cases (show _ = _ from h)
    simp
  | s :: T, a, e, k, ⟨h1, h2, h3⟩ => by
    have ih := Tile.ends_mem (k := k) h3
    rw [List.map_cons]
    constructor
    · intro h
      rcases List.mem_cons.mp h with rfl | h
      · exact .inl rfl
      · rcases ih.mp h with rfl | rfl | ⟨t, ht, hk⟩
        · exact .inr (.inr ⟨s, List.mem_cons_self .., .inr rfl⟩)
        · exact .inr (.inl rfl)
        · exact .inr (.inr ⟨t, List.mem_cons_of_mem _ ht, hk⟩)
    · rintro (rfl | rfl | ⟨t, ht, hk⟩)
      · exact List.mem_cons_self ..
      · exact List.mem_cons_of_mem _ (ih.mpr (.inr (.inl rfl)))
      · rcases List.mem_cons.mp ht with rfl | ht
        · rcases hk with rfl | rfl
          · rw [h1]; exact List.mem_cons_self ..
          · exact List.mem_cons_of_mem _ (List.mem_cons_self ..)
        · exact List.mem_cons_of_mem _ (ih.mpr (.inr (.inr ⟨t, ht, hk⟩)))
theorem Tile.sorted : ∀ {T : List (Int × Int)} {a e : Int}, Tile a T e → (a :: T.map (·.2)).Pairwise (· < ·)
  | [], a, e, _ => List.pairwise_singleton _ _
  | s :: T, a, e, ⟨h1, h2, h3⟩ => by
    have ih := Tile.sorted h3
    refine List.pairwise_cons.mpr ⟨fun k hk => ?_, ih⟩
    rw [List.map_cons] at hk
    rcases List.mem_cons.mp hk with rfl | hk
    · omega
    · have := (List.pairwise_cons.mp ih).1 k hk
      omega
/-- the parts of tiles are the tiles -/
theorem Tile.parts {T U : List (Int × Int)} {w : Nat} (h : Tile 0 T (H2 w)) (hp : ∀ s, s ∈ U ↔ s ∈ T) : prsL (edgesOf w U) = T := by
  have e : edgesOf w U = 0 :: T.map (·.2) := by
    unfold edgesOf
    refine ssort_uniq h.sorted fun k => ?_
    rw [h.ends_mem, List.mem_append, mem_flat2]
    simp only [List.mem_cons, List.not_mem_nil, or_false, or_assoc, hp]
  rw [e, h.prs]
/-! ### the one leaf of all -/
theorem can_all {S : List (Int × Int)} {w : Nat} (h : ct S 0 (0 + H2 w) = H2 w) (hw : 1 ≤ w) : can S w 0 [] = [[42]] := by
  rw [can_full h]
  unfold leaf
  rw [if_neg (by omega)]
  rfl
theorem star_eq {ys : List Str} (h : ys.map tl = [[42]]) : ys = [("*" : Str)] := map_tl_inj (by rw [h, List.map_cons, tlStar]; rfl)
theorem Tile.all {T : List (Int × Int)} {w : Nat} (h : Tile 0 T (H2 w)) : G.ct T 0 (0 + H2 w) = H2 w := by
  rw [h.ct]
  have := H2_pos w
  omega
theorem prs_tile : ∀ {l : List Int} {a z : Int}, (a :: l).Pairwise (· < ·) → (a :: l).getLast? = some z → Tile a (prsL (a :: l)) z
  | [], a, z, _, hz => Option.some.inj hz
  | b :: l, a, z, hp, hz => by
    obtain ⟨h1, h2⟩ := List.pairwise_cons.mp hp
    refine ⟨rfl, h1 b (List.mem_cons_self ..), prs_tile h2 ?_⟩
    rw [List.getLast?_cons_cons] at hz
    exact hz
theorem parts_tile {w : Nat} {S : List (Int × Int)} (h : SpOk w S) : Tile 0 (prsL (edgesOf w S)) (H2 w) := by
  obtain ⟨l, e1, _, _, e4, _⟩ := edges_facts h
  have hs := ssort_sorted ([0, ((2 ^ w : Nat) : Int)] ++ flat2 S)
  change (edgesOf w S).Pairwise (· < ·) at hs
  rw [e1] at hs ⊢
  exact prs_tile hs e4
/-! ### an address in spans -/
theorem cn1_at (s : Int × Int) (n : Int) : cn1 s n (n + 1) = if ((decide (s.1 ≤ n)) && (decide (n < s.2))) = true then 1 else 0 := by
  unfold cn1
  by_cases h : s.1 ≤ n ∧ n < s.2
  · rw [decide_eq_true h.1, decide_eq_true h.2, if_pos (show (true && true) = true from rfl)]
    omega
  · rw [if_neg (by rw [Bool.and_eq_true, decide_eq_true_iff, decide_eq_true_iff]; exact h)]
    omega
end G
/-! Plain laws: how the signs of two patterns stand to one another. -/
namespace G
open PySem PySem.Spec PyProof.Rows L2 TL
theorem signs_cmp : ∀ (u v : List Nat), Bits u → Bits v → (∃ r, v = u ++ r) ∨ (∃ r, r ≠ [] ∧ u = v ++ r) ∨ Apart u v ∨ Apart v u
  | [], v, _, _ => .inl ⟨v, rfl⟩
  | a :: u, [], _, _ => .inr (.inl ⟨a :: u, by simp, rfl⟩)
  | a :: u, b :: v, hu, hv => by
    have ha := isB_iff.mp (hu a (List.mem_cons_self ..))
    have hb := isB_iff.mp (hv b (List.mem_cons_self ..))
    have diff : a ≠ b → (a = 48 ∧ b = 49) ∨ (b = 48 ∧ a = 49) := fun h => by omega
    by_cases h : a = b
    · subst h
      rcases signs_cmp u v (fun c hc => hu c (List.mem_cons_of_mem _ hc)) (fun c hc => hv c (List.mem_cons_of_mem _ hc)) with ⟨r, rfl⟩ | ⟨r, h1, rfl⟩ | ⟨c, p, q, rfl, rfl⟩ | ⟨c, p, q, rfl, rfl⟩
      · exact .inl ⟨r, rfl⟩
      · exact .inr (.inl ⟨r, h1, rfl⟩)
      · exact .inr (.inr (.inl ⟨a :: c, p, q, rfl, rfl⟩))
      · exact .inr (.inr (.inr ⟨a :: c, p, q, rfl, rfl⟩))
    · rcases diff h with ⟨rfl, rfl⟩ | ⟨rfl, rfl⟩
      · exact .inr (.inr (.inl ⟨[], u, v, rfl, rfl⟩))
      · exact .inr (.inr (.inr ⟨[], v, u, rfl, rfl⟩))
theorem spB_lt (w : Nat) (u : List Nat) : (spB w u).1 < (spB w u).2 := by
  unfold spB
  have := H2_pos (w - u.length)
  show beg u _ < beg u _ + H2 _
  omega
/-- what goes on from some signs lies within -/
theorem spB_nest {w : Nat} {u r : List Nat} (h : (u ++ r).length ≤ w) : (spB w u).1 ≤ (spB w (u ++ r)).1 ∧ (spB w (u ++ r)).2 ≤ (spB w u).2 := by
  rw [List.length_append] at h
  have hr := wr_lt r
  have e1 : beg (u ++ r) (w - (u ++ r).length) = ((wr u * 2 ^ (w - u.length) + wr r * 2 ^ (w - (u ++ r).length) : Nat) : Int) := by
    unfold beg
    rw [wr_app, List.length_append, Nat.add_mul, Nat.mul_assoc, ← Nat.pow_add, show r.length + (w - (u.length + r.length)) = w - u.length by omega]
  have e2 : 2 ^ r.length * 2 ^ (w - (u ++ r).length) = 2 ^ (w - u.length) := by
    rw [← Nat.pow_add, List.length_append, show r.length + (w - (u.length + r.length)) = w - u.length by omega]
  have e3 : (wr r + 1) * 2 ^ (w - (u ++ r).length) ≤ 2 ^ r.length * 2 ^ (w - (u ++ r).length) := Nat.mul_le_mul_right _ hr
  rw [e2, Nat.add_mul, Nat.one_mul] at e3
  unfold spB
  rw [e1]
  show ((wr u * 2 ^ (w - u.length) : Nat) : Int) ≤ _ ∧ _ + ((2 ^ (w - (u ++ r).length) : Nat) : Int) ≤ ((wr u * 2 ^ (w - u.length) : Nat) : Int) + ((2 ^ (w - u.length) : Nat) : Int)
  generalize 2 ^ (w - (u ++ r).length) = x at *
  generalize wr r * x = y at *
  generalize 2 ^ (w - u.length) = z at *
  generalize wr u * z = t at *
  omega
theorem spB_apart {w : Nat} {u v : List Nat} (h : Apart u v) (hu : u.length ≤ w) (hv : v.length ≤ w) : (spB w u).2 ≤ (spB w v).1 := by
  obtain ⟨c, p, q, rfl, rfl⟩ := h
  have e1 : c ++ 48 :: p = (c ++ [48]) ++ p := by simp
  have e2 : c ++ 49 :: q = (c ++ [49]) ++ q := by simp
  rw [e1] at hu ⊢
  rw [e2] at hv ⊢
  have h1 := (spB_nest (w := w) (u := c ++ [48]) (r := p) hu).2
  have h2 := (spB_nest (w := w) (u := c ++ [49]) (r := q) hv).1
  have hl : c.length + 1 ≤ w := by rw [List.length_append, List.length_append] at hu; have : [48].length = 1 := rfl; omega
  have k1 : (spB w (c ++ [48])).2 = (spB w (c ++ [49])).1 := by
    rw [spB_at (j := w - (c.length + 1)) (by rw [List.length_append]; show c.length + 1 + _ = _; omega), spB_at (j := w - (c.length + 1)) (by rw [List.length_append]; show c.length + 1 + _ = _; omega)]
    show beg (c ++ [48]) _ + H2 _ = beg (c ++ [49]) _
    rw [beg0, beg1]
  omega
/-- the second goes on from the first, or is greater at a sign -/
def Ord (u v : List Nat) : Prop := (∃ r, v = u ++ r) ∨ Apart u v
theorem lex_app {a b : Nat} (h : a < b) {x y : List Nat} : ∀ c : List Nat, c ++ a :: x < c ++ b :: y
  | [] => List.Lex.rel h
  | _ :: c => List.Lex.cons (lex_app h c)
theorem ord_of_le {w : Nat} {u v : List Nat} (hu : Bits u ∧ u.length ≤ w) (hv : Bits v ∧ v.length ≤ w) (hle : patL w u ≤ patL w v) : Ord u v := by
  rcases signs_cmp u v hu.1 hv.1 with ⟨r, rfl⟩ | ⟨r, h1, rfl⟩ | h | ⟨c, p, q, rfl, rfl⟩
  · exact .inl ⟨r, rfl⟩
  · exfalso
    cases r with
    | nil => exact h1 rfl
    | cons d r =>
      have hd := isB_iff.mp (hu.1 d (List.mem_append.mpr (.inr (List.mem_cons_self ..))))
      have hl := hu.2
      rw [List.length_append, List.length_cons] at hl
      refine List.not_le.mpr ?_ hle
      unfold patL
      rw [if_pos (show v.length < w by omega), List.append_assoc]
      exact lex_app (by omega) v
  · exact .inr h
  · exfalso
    refine List.not_le.mpr ?_ hle
    unfold patL
    rw [List.append_assoc, List.append_assoc]
    exact lex_app (by decide) c
theorem Ord.span {w : Nat} {u v : List Nat} (hu : u.length ≤ w) (hv : v.length ≤ w) (h : Ord u v) : ((spB w u).1 ≤ (spB w v).1 ∧ (spB w v).2 ≤ (spB w u).2) ∨ (spB w u).2 ≤ (spB w v).1 := by
  rcases h with ⟨r, rfl⟩ | h
  · exact .inl (spB_nest hv)
  · exact .inr (spB_apart h hu hv)
theorem any_span {w : Nat} {u v : List Nat} (hu : Bits u ∧ u.length ≤ w) (hv : Bits v ∧ v.length ≤ w) :
    ((spB w u).1 ≤ (spB w v).1 ∧ (spB w v).2 ≤ (spB w u).2) ∨ ((spB w v).1 ≤ (spB w u).1 ∧ (spB w u).2 ≤ (spB w v).2) ∨ (spB w u).2 ≤ (spB w v).1 ∨ (spB w v).2 ≤ (spB w u).1 := by
  rcases signs_cmp u v hu.1 hv.1 with ⟨r, rfl⟩ | ⟨r, _, rfl⟩ | h | h
  · exact .inl (spB_nest hv.2)
  · exact .inr (.inl (spB_nest hu.2))
  · exact .inr (.inr (.inl (spB_apart h hu.2 hv.2)))
  · exact .inr (.inr (.inr (spB_apart h hv.2 hu.2)))
/-! ### what a pattern's text is -/
def patB (cs : List Nat) (w : Int) : Bool :=
  let o : Bool := decide (cs.drop (cs.length - 1) = [42])
  let bits := cs.take (cs.length - (if o then 1 else 0))
  if bits.all isB then (if o then decide ((bits.length : Int) < w) else decide ((bits.length : Int) = w)) else false
theorem patB_pat {w : Nat} {u : List Nat} (hu : Bits u) (hl : u.length ≤ w) : patB (patL w u) (w : Int) = true := by
  have hall : u.all isB = true := List.all_eq_true.mpr hu
  unfold patL
  by_cases h : u.length < w
  · rw [if_pos h]
    have e1 : (u ++ [42]).drop ((u ++ [42]).length - 1) = [42] := by rw [List.length_append]; exact List.drop_left
    have e2 : (u ++ [42]).take ((u ++ [42]).length - 1) = u := by rw [List.length_append]; exact List.take_left
    have e3 : decide ((u ++ [42]).drop ((u ++ [42]).length - 1) = [42]) = true := decide_eq_true e1
    unfold patB
    simp only [e3, if_true, e2, hall]
    exact decide_eq_true (by omega)
  · rw [if_neg h, List.append_nil]
    have e1 : ¬ u.drop (u.length - 1) = [42] := fun z => hu.no42 (List.mem_of_mem_drop (show 42 ∈ u.drop (u.length - 1) by rw [z]; exact List.mem_singleton.mpr rfl))
    have e3 : decide (u.drop (u.length - 1) = [42]) = false := decide_eq_false e1
    have e2 : u.take (u.length - 0) = u := List.take_length
    unfold patB
    rw [e3]
    show (if (u.take (u.length - 0)).all isB = true then decide (((u.take (u.length - 0)).length : Int) = (w : Int)) else false) = true
    rw [e2, hall, if_pos rfl]
    exact decide_eq_true (by omega)
end G
/-! Plain laws: signs turned, signs put ahead and behind. -/
namespace G
open PySem PySem.Spec PyProof.Rows L2 TL
def flip (c : Nat) : Nat := 97 - c
def fl (u : List Nat) : List Nat := u.map flip
theorem fl_len (u : List Nat) : (fl u).length = u.length := List.length_map ..
theorem fl_bits {u : List Nat} (h : Bits u) : Bits (fl u) := fun c hc => by
  obtain ⟨d, hd, rfl⟩ := List.mem_map.mp hc
  have := isB_iff.mp (h d hd)
  exact isB_iff.mpr (by unfold flip; omega)
theorem fl_app (u v : List Nat) : fl (u ++ v) = fl u ++ fl v := List.map_append
theorem wr_fl : ∀ {u : List Nat}, Bits u → wr (fl u) + wr u + 1 = 2 ^ u.length
  | [], _ => rfl
  | c :: u, h => by
    have ih := wr_fl (u := u) fun d hd => h d (List.mem_cons_of_mem _ hd)
    have hc := isB_iff.mp (h c (List.mem_cons_self ..))
    show wr (flip c :: fl u) + _ + 1 = _
    rw [wr_cons, wr_cons, fl_len, List.length_cons, Nat.pow_succ]
    unfold flip
    rcases hc with rfl | rfl <;> simp <;> omega
/-- from the other end -/
def mir (W : Int) (s : Int × Int) : Int × Int := (W - s.2, W - s.1)
def shf (h : Int) (s : Int × Int) : Int × Int := (s.1 + h, s.2 + h)
def dbl (s : Int × Int) : Int × Int := (2 * s.1, 2 * s.2)
theorem spB_fl {w : Nat} {u : List Nat} (h : Bits u) (hl : u.length ≤ w) : spB w (fl u) = mir (H2 w) (spB w u) := by
  have e1 := wr_fl h
  have e2 : 2 ^ u.length * 2 ^ (w - u.length) = 2 ^ w := by rw [← Nat.pow_add]; congr 1; omega
  rw [← e1, Nat.add_mul, Nat.add_mul, Nat.one_mul] at e2
  unfold spB mir
  rw [fl_len]
  unfold beg H2
  generalize 2 ^ (w - u.length) = z at *
  generalize wr (fl u) * z = x at *
  generalize wr u * z = y at *
  refine Prod.ext ?_ ?_
  · show ((x : Nat) : Int) = ((2 ^ w : Nat) : Int) - (((y : Nat) : Int) + ((z : Nat) : Int))
    rw [← e2]; omega
  · show ((x : Nat) : Int) + ((z : Nat) : Int) = ((2 ^ w : Nat) : Int) - ((y : Nat) : Int)
    rw [← e2]; omega
theorem spB_0 {w : Nat} {u : List Nat} : spB (w + 1) (48 :: u) = spB w u := by
  unfold spB beg
  rw [wr_cons, if_neg (by decide), Nat.zero_mul, Nat.zero_add, List.length_cons, show w + 1 - (u.length + 1) = w - u.length by omega]
theorem spB_1 {w : Nat} {u : List Nat} (hl : u.length ≤ w) : spB (w + 1) (49 :: u) = shf (H2 w) (spB w u) := by
  have e2 : 2 ^ u.length * 2 ^ (w - u.length) = 2 ^ w := by rw [← Nat.pow_add]; congr 1; omega
  unfold spB beg shf H2
  rw [wr_cons, if_pos rfl, Nat.one_mul, List.length_cons, show w + 1 - (u.length + 1) = w - u.length by omega, Nat.add_mul, e2]
  refine Prod.ext ?_ ?_
  · show ((2 ^ w + wr u * 2 ^ (w - u.length) : Nat) : Int) = ((wr u * 2 ^ (w - u.length) : Nat) : Int) + ((2 ^ w : Nat) : Int)
    rw [Int.natCast_add]; omega
  · show ((2 ^ w + wr u * 2 ^ (w - u.length) : Nat) : Int) + ((2 ^ (w - u.length) : Nat) : Int) = ((wr u * 2 ^ (w - u.length) : Nat) : Int) + ((2 ^ (w - u.length) : Nat) : Int) + ((2 ^ w : Nat) : Int)
    rw [Int.natCast_add]; omega
theorem spB_dbl {w : Nat} {u : List Nat} (hl : u.length ≤ w) : spB (w + 1) u = dbl (spB w u) := by
  unfold spB beg dbl H2
  rw [show w + 1 - u.length = (w - u.length) + 1 by omega, Nat.pow_succ, ← Nat.mul_assoc]
  generalize wr u * 2 ^ (w - u.length) = x
  generalize 2 ^ (w - u.length) = z
  refine Prod.ext ?_ ?_
  · show ((x * 2 : Nat) : Int) = 2 * ((x : Nat) : Int)
    omega
  · show ((x * 2 : Nat) : Int) + ((z * 2 : Nat) : Int) = 2 * (((x : Nat) : Int) + ((z : Nat) : Int))
    omega
/-! ### ends -/
def EndOf (S : List (Int × Int)) (k : Int) : Prop := ∃ s ∈ S, k = s.1 ∨ k = s.2
theorem prs_snd : ∀ (l : List Int) (a : Int), (prsL (a :: l)).map (·.2) = l
  | [], _ => rfl
  | b :: l, a => by
    show b :: (prsL (b :: l)).map (·.2) = _
    rw [prs_snd l b]
theorem mem_edges {w : Nat} {S : List (Int × Int)} {k : Int} : k ∈ edgesOf w S ↔ k = 0 ∨ k = H2 w ∨ EndOf S k := by
  unfold edgesOf
  rw [ssort_mem, List.mem_append, mem_flat2]
  simp only [List.mem_cons, List.not_mem_nil, or_false, or_assoc]
  exact Iff.rfl
theorem parts_ends {w : Nat} {S : List (Int × Int)} (h : SpOk w S) (k : Int) : (k = 0 ∨ k = H2 w ∨ EndOf (prsL (edgesOf w S)) k) ↔ (k = 0 ∨ k = H2 w ∨ EndOf S k) := by
  have ht := parts_tile h
  obtain ⟨l, e1, _⟩ := edges_facts h
  have e2 := ht.ends_mem (k := k)
  refine Iff.trans ?_ mem_edges
  rw [e1] at e2 ⊢
  rw [prs_snd] at e2
  exact e2.symm
theorem parts_char {w : Nat} {T U : List (Int × Int)} (h : Tile 0 T (H2 w)) (hk : ∀ k, (k = 0 ∨ k = H2 w ∨ EndOf T k) ↔ (k = 0 ∨ k = H2 w ∨ EndOf U k)) : prsL (edgesOf w U) = T := by
  have e : edgesOf w U = 0 :: T.map (·.2) := by
    have hm : ∀ k, k ∈ 0 :: T.map (·.2) ↔ k ∈ edgesOf w U := fun k => by rw [h.ends_mem, mem_edges]; exact hk k
    unfold edgesOf at hm ⊢
    exact ssort_uniq h.sorted fun k => (hm k).trans ssort_mem
  rw [e, h.prs]
theorem Tile.mir : ∀ {T : List (Int × Int)} {a e W : Int}, Tile a T e → Tile (W - e) (T.map (G.mir W)).reverse (W - a)
  | [], a, e, W, h => by cases (show _ = _ from h); rfl
  | s :: T, a, e, W, ⟨h1, h2, h3⟩ => by
    rw [List.map_cons, List.reverse_cons]
    refine Tile.app (m := W - s.2) (Tile.mir h3) ⟨rfl, ?_, ?_⟩
    · show W - s.2 < W - s.1; omega
    · show W - s.1 = W - a; omega
theorem Tile.shf : ∀ {T : List (Int × Int)} {a e : Int} (h : Int), Tile a T e → Tile (a + h) (T.map (G.shf h)) (e + h)
  | [], a, e, h, k => by cases (show _ = _ from k); rfl
  | s :: T, a, e, h, ⟨h1, h2, h3⟩ => ⟨by show s.1 + h = a + h; omega, by show s.1 + h < s.2 + h; omega, Tile.shf h h3⟩
theorem Tile.dbl : ∀ {T : List (Int × Int)} {a e : Int}, Tile a T e → Tile (2 * a) (T.map G.dbl) (2 * e)
  | [], a, e, k => by cases (show _ = _ from k); rfl
  | s :: T, a, e, ⟨h1, h2, h3⟩ => ⟨by show 2 * s.1 = 2 * a; omega, by show 2 * s.1 < 2 * s.2; omega, Tile.dbl h3⟩
theorem Tile.last : ∀ {T : List (Int × Int)} {a e : Int}, Tile a T e → a < e → EndOf T e
  | [], a, e, h, hl => by cases (show _ = _ from h); omega
  | [s], a, e, ⟨h1, h2, h3⟩, _ => ⟨s, List.mem_cons_self .., .inr (show s.2 = e from h3).symm⟩
  | s :: t :: T, a, e, ⟨h1, h2, h3⟩, _ => by
    obtain ⟨r, hr, hk⟩ := Tile.last h3 (by have := h3.2.1; have := h3.1; have := h3.2.2.le; omega)
    exact ⟨r, List.mem_cons_of_mem _ hr, hk⟩
theorem end_mir {S : List (Int × Int)} {W k : Int} : EndOf (S.map (mir W)) k ↔ EndOf S (W - k) := by
  constructor
  · rintro ⟨t, ht, hk⟩
    obtain ⟨s, hs, rfl⟩ := List.mem_map.mp ht
    refine ⟨s, hs, ?_⟩
    have : k = W - s.2 ∨ k = W - s.1 := hk
    omega
  · rintro ⟨s, hs, hk⟩
    refine ⟨mir W s, List.mem_map.mpr ⟨s, hs, rfl⟩, ?_⟩
    show k = W - s.2 ∨ k = W - s.1
    omega
theorem end_rev {S : List (Int × Int)} {k : Int} : EndOf S.reverse k ↔ EndOf S k := by
  unfold EndOf
  simp only [List.mem_reverse]
theorem end_shf {S : List (Int × Int)} {h k : Int} : EndOf (S.map (shf h)) k ↔ EndOf S (k - h) := by
  constructor
  · rintro ⟨t, ht, hk⟩
    obtain ⟨s, hs, rfl⟩ := List.mem_map.mp ht
    refine ⟨s, hs, ?_⟩
    have : k = s.1 + h ∨ k = s.2 + h := hk
    omega
  · rintro ⟨s, hs, hk⟩
    refine ⟨shf h s, List.mem_map.mpr ⟨s, hs, rfl⟩, ?_⟩
    show k = s.1 + h ∨ k = s.2 + h
    omega
theorem end_app {S T : List (Int × Int)} {k : Int} : EndOf (S ++ T) k ↔ EndOf S k ∨ EndOf T k := by
  unfold EndOf
  constructor
  · rintro ⟨s, hs, hk⟩
    exact (List.mem_append.mp hs).elim (fun h => .inl ⟨s, h, hk⟩) fun h => .inr ⟨s, h, hk⟩
  · rintro (⟨s, hs, hk⟩ | ⟨s, hs, hk⟩)
    · exact ⟨s, List.mem_append.mpr (.inl hs), hk⟩
    · exact ⟨s, List.mem_append.mpr (.inr hs), hk⟩
theorem end_dbl {S : List (Int × Int)} {k : Int} : EndOf (S.map dbl) k ↔ ∃ j, k = 2 * j ∧ EndOf S j := by
  constructor
  · rintro ⟨t, ht, hk⟩
    obtain ⟨s, hs, rfl⟩ := List.mem_map.mp ht
    have : k = 2 * s.1 ∨ k = 2 * s.2 := hk
    rcases this with h | h
    · exact ⟨s.1, h, s, hs, .inl rfl⟩
    · exact ⟨s.2, h, s, hs, .inr rfl⟩
  · rintro ⟨j, rfl, s, hs, hk⟩
    refine ⟨dbl s, List.mem_map.mpr ⟨s, hs, rfl⟩, ?_⟩
    show 2 * j = 2 * s.1 ∨ 2 * j = 2 * s.2
    omega
theorem parts_mir {w : Nat} {S : List (Int × Int)} (h : SpOk w S) : prsL (edgesOf w (S.map (mir (H2 w)))) = ((prsL (edgesOf w S)).map (mir (H2 w))).reverse := by
  have ht := (parts_tile h).mir (W := H2 w)
  rw [Int.sub_self, Int.sub_zero] at ht
  refine parts_char ht fun k => ?_
  have := parts_ends h (H2 w - k)
  rw [end_rev, end_mir, end_mir]
  constructor
  · intro hk
    have := this.mp (by rcases hk with rfl | rfl | hk; exact .inr (.inl (by omega)); exact .inl (by omega); exact .inr (.inr hk))
    rcases this with h | h | h
    · exact .inr (.inl (by omega))
    · exact .inl (by omega)
    · exact .inr (.inr h)
  · intro hk
    have := this.mpr (by rcases hk with rfl | rfl | hk; exact .inr (.inl (by omega)); exact .inl (by omega); exact .inr (.inr hk))
    rcases this with h | h | h
    · exact .inr (.inl (by omega))
    · exact .inl (by omega)
    · exact .inr (.inr h)
theorem parts_ahead {w : Nat} {S : List (Int × Int)} (h : SpOk w S) : prsL (edgesOf (w + 1) (S ++ S.map (shf (H2 w)) ++ [(0, H2 w)])) = prsL (edgesOf w S) ++ (prsL (edgesOf w S)).map (shf (H2 w)) := by
  have hp := H2_pos w
  have h2 := H2_succ w
  have t := parts_tile h
  have ht := t.shf (H2 w)
  rw [Int.zero_add] at ht
  have hl := t.last hp
  refine parts_char (by rw [show H2 (w + 1) = H2 w + H2 w by omega]; exact t.app ht) fun k => ?_
  have a1 := parts_ends h k
  have a2 := parts_ends h (k - H2 w)
  rw [end_app, end_shf, end_app, end_app, end_shf]
  have hone : EndOf [((0 : Int), H2 w)] k ↔ k = 0 ∨ k = H2 w := by
    unfold EndOf
    simp
  rw [hone]
  constructor
  · rintro (hk | hk | hk | hk)
    · exact .inl hk
    · exact .inr (.inl hk)
    · rcases a1.mp (.inr (.inr hk)) with e | e | e
      · exact .inl e
      · exact .inr (.inr (.inr (.inr e)))
      · exact .inr (.inr (.inl (.inl e)))
    · rcases a2.mp (.inr (.inr hk)) with e | e | e
      · exact .inr (.inr (.inr (.inr (by omega))))
      · exact .inr (.inl (by omega))
      · exact .inr (.inr (.inl (.inr e)))
  · rintro (hk | hk | (hk | hk) | hk | hk)
    · exact .inl hk
    · exact .inr (.inl hk)
    · rcases a1.mpr (.inr (.inr hk)) with e | e | e
      · exact .inl e
      · exact .inr (.inr (.inl (e ▸ hl)))
      · exact .inr (.inr (.inl e))
    · rcases a2.mpr (.inr (.inr hk)) with e | e | e
      · exact .inr (.inr (.inl (by rw [show k = H2 w by omega]; exact hl)))
      · exact .inr (.inl (by omega))
      · exact .inr (.inr (.inr e))
    · exact .inl hk
    · exact .inr (.inr (.inl (hk ▸ hl)))
theorem parts_dbl {w : Nat} {S : List (Int × Int)} (h : SpOk w S) : prsL (edgesOf (w + 1) (S.map dbl)) = (prsL (edgesOf w S)).map dbl := by
  have h2 := H2_succ w
  have ht := (parts_tile h).dbl
  refine parts_char (by rw [h2]; exact ht) fun k => ?_
  rw [end_dbl, end_dbl]
  constructor
  · rintro (hk | hk | ⟨j, rfl, hk⟩)
    · exact .inl hk
    · exact .inr (.inl hk)
    · rcases (parts_ends h j).mp (.inr (.inr hk)) with e | e | e
      · exact .inl (by omega)
      · exact .inr (.inl (by omega))
      · exact .inr (.inr ⟨j, rfl, e⟩)
  · rintro (hk | hk | ⟨j, rfl, hk⟩)
    · exact .inl hk
    · exact .inr (.inl hk)
    · rcases (parts_ends h j).mpr (.inr (.inr hk)) with e | e | e
      · exact .inl (by omega)
      · exact .inr (.inl (by omega))
      · exact .inr (.inr ⟨j, rfl, e⟩)
/-! ### leaves -/
theorem ct_map {S : List (Int × Int)} {f : Int × Int → Int × Int} {x y x' y' c : Int} (h : ∀ s ∈ S, cn1 (f s) x y = c * cn1 s x' y') : ct (S.map f) x y = c * ct S x' y' := by
  induction S with
  | nil => rw [List.map_nil, ct_nil, ct_nil, Int.mul_zero]
  | cons s S ih => rw [List.map_cons, ct_cons, ct_cons, ih fun t ht => h t (List.mem_cons_of_mem _ ht), h s (List.mem_cons_self ..), Int.mul_add]
theorem ct_rever (S : List (Int × Int)) (x y : Int) : ct S.reverse x y = ct S x y := by
  induction S with
  | nil => rfl
  | cons s S ih => rw [List.reverse_cons, ct_app, ct_one, ct_cons, ih]; omega
theorem ct_mir (S : List (Int × Int)) (W x y : Int) : ct ((S.map (mir W)).reverse) x y = ct S (W - y) (W - x) := by
  rw [ct_rever, ct_map (c := 1) (x' := W - y) (y' := W - x) fun s _ => by unfold cn1 mir; show max 0 (min y (W - s.1) - max x (W - s.2)) = _; omega]
  omega
theorem ct_shf (S : List (Int × Int)) (h x y : Int) : ct (S.map (shf h)) x y = ct S (x - h) (y - h) := by
  rw [ct_map (c := 1) (x' := x - h) (y' := y - h) fun s _ => by unfold cn1 shf; show max 0 (min y (s.2 + h) - max x (s.1 + h)) = _; omega]
  omega
theorem ct_dbl (S : List (Int × Int)) (x y : Int) : ct (S.map dbl) (2 * x) (2 * y) = 2 * ct S x y :=
  ct_map (c := 2) fun s _ => by unfold cn1 dbl; show max 0 (min (2 * y) (2 * s.2) - max (2 * x) (2 * s.1)) = _; omega
theorem canB_mir {S : List (Int × Int)} (h : Rise S) (W : Int) (j : Nat) (a : Int) (bs : List Nat) : canB ((S.map (mir W)).reverse) j (W - (a + H2 j)) (fl bs) = ((canB S j a bs).map fl).reverse :=
  can_cases h (P := fun j a bs => canB ((S.map (mir W)).reverse) j (W - (a + H2 j)) (fl bs) = ((canB S j a bs).map fl).reverse) j a bs
    (fun j a bs e => by rw [canB_none e, canB_none (by rw [ct_mir, ← e]; congr 1 <;> omega)]; rfl)
    (fun j a bs e => by
      rw [canB_full e, canB_full (by rw [ct_mir]; rw [show W - (W - (a + H2 j) + H2 j) = a by omega, show W - (W - (a + H2 j)) = a + H2 j by omega]; exact e)]
      rfl)
    (fun j a bs e1 e2 i1 i2 => by
      have h2 := H2_succ j
      have e : ct ((S.map (mir W)).reverse) (W - (a + H2 (j + 1))) (W - (a + H2 (j + 1)) + H2 (j + 1)) = ct S a (a + H2 (j + 1)) := by
        rw [ct_mir, show W - (W - (a + H2 (j + 1)) + H2 (j + 1)) = a by omega, show W - (W - (a + H2 (j + 1))) = a + H2 (j + 1) by omega]
      rw [canB_part e1 e2, canB_part (by rw [e]; exact e1) (by rw [e]; exact e2), List.map_append, List.reverse_append, ← i1, ← i2, fl_app, fl_app,
        show W - (a + H2 (j + 1)) + H2 j = W - (a + H2 j) by omega, show a + H2 j + H2 j = a + H2 (j + 1) by omega]
      rfl)
theorem canB_shf {S : List (Int × Int)} (h : Rise S) (d : Int) (p : List Nat) (j : Nat) (a : Int) (bs : List Nat) : canB (S.map (shf d)) j (a + d) (p ++ bs) = (canB S j a bs).map (p ++ ·) :=
  can_cases h (P := fun j a bs => canB (S.map (shf d)) j (a + d) (p ++ bs) = (canB S j a bs).map (p ++ ·)) j a bs
    (fun j a bs e => by rw [canB_none e, canB_none (by rw [ct_shf, ← e]; congr 1 <;> omega)]; rfl)
    (fun j a bs e => by
      rw [canB_full e, canB_full (by rw [ct_shf, show a + d - d = a by omega, show a + d + H2 j - d = a + H2 j by omega]; exact e)]
      rfl)
    (fun j a bs e1 e2 i1 i2 => by
      have e : ct (S.map (shf d)) (a + d) (a + d + H2 (j + 1)) = ct S a (a + H2 (j + 1)) := by
        rw [ct_shf, show a + d - d = a by omega, show a + d + H2 (j + 1) - d = a + H2 (j + 1) by omega]
      rw [canB_part e1 e2, canB_part (by rw [e]; exact e1) (by rw [e]; exact e2), List.map_append, ← i1, ← i2, List.append_assoc, List.append_assoc, show a + d + H2 j = a + H2 j + d by omega])
theorem canB_dbl {S : List (Int × Int)} (h : Rise S) (j : Nat) (a : Int) (bs : List Nat) : canB (S.map dbl) (j + 1) (2 * a) bs = canB S j a bs :=
  can_cases h (P := fun j a bs => canB (S.map dbl) (j + 1) (2 * a) bs = canB S j a bs) j a bs
    (fun j a bs e => by
      have h2 := H2_succ j
      rw [canB_none e, canB_none (by rw [show 2 * a + H2 (j + 1) = 2 * (a + H2 j) by omega, ct_dbl, e]; rfl)])
    (fun j a bs e => by
      have h2 := H2_succ j
      rw [canB_full e, canB_full (by rw [show 2 * a + H2 (j + 1) = 2 * (a + H2 j) by omega, ct_dbl, e]; omega)])
    (fun j a bs e1 e2 i1 i2 => by
      have h2 := H2_succ j
      have h3 := H2_succ (j + 1)
      have e : ct (S.map dbl) (2 * a) (2 * a + H2 (j + 1 + 1)) = 2 * ct S a (a + H2 (j + 1)) := by rw [show 2 * a + H2 (j + 1 + 1) = 2 * (a + H2 (j + 1)) by omega, ct_dbl]
      rw [canB_part e1 e2, canB_part (by rw [e]; omega) (by rw [e]; omega), i1, show 2 * a + H2 (j + 1) = 2 * (a + H2 j) by omega, i2])
theorem canB_ahead {S : List (Int × Int)} (h : Rise S) {w : Nat} (hb : ∀ s ∈ S, 0 ≤ s.1 ∧ s.2 ≤ H2 w) : canB (S.map (shf (H2 w))) (w + 1) 0 [] = (canB S w 0 []).map ([49] ++ ·) := by
  have hp := H2_pos w
  have h2 := H2_succ w
  have neg : ∀ y, y ≤ H2 w → ct S (0 - H2 w) y = ct S 0 y := fun y _ => by
    have := ct_map (S := S) (f := id) (c := 1) (x := 0 - H2 w) (y := y) (x' := 0) (y' := y) fun s hs => by
      have := hb s hs
      unfold cn1
      show max 0 (min y s.2 - max (0 - H2 w) s.1) = _
      omega
    rw [List.map_id] at this
    omega
  have e0 : ct (S.map (shf (H2 w))) 0 (0 + H2 (w + 1)) = ct S 0 (0 + H2 w) := by rw [ct_shf, show 0 + H2 (w + 1) - H2 w = 0 + H2 w by omega, neg _ (by omega)]
  by_cases hz : ct S 0 (0 + H2 w) = 0
  · rw [canB_none hz, canB_none (by rw [e0]; exact hz)]
    rfl
  · have hl := ct_le h (a := 0) (e := 0 + H2 w) (by omega)
    have k1 : ct (S.map (shf (H2 w))) 0 (0 + H2 w) = 0 := by
      rw [ct_shf, show 0 + H2 w - H2 w = 0 by omega, neg 0 (by omega)]
      exact ct_rev (Int.le_refl _)
    rw [canB_part (by rw [e0]; exact hz) (by rw [e0]; omega), canB_none k1]
    have := canB_shf h (H2 w) [49] w 0 []
    rw [List.append_nil] at this
    exact this
theorem Pats.of {w : Nat} : ∀ {ps : List Str}, (∀ p ∈ ps, IsPat w p) → Pats w (ps.map bsOf) ps
  | [], _ => ⟨rfl, fun _ h => nomatch h⟩
  | p :: ps, h => by
    obtain ⟨u, pu⟩ := h p (List.mem_cons_self ..)
    have ih := Pats.of (ps := ps) fun q hq => h q (List.mem_cons_of_mem _ hq)
    rw [List.map_cons, bsOf_pat pu]
    refine ⟨by rw [List.map_cons, List.map_cons, pu.eq, ih.eq], fun v hv => ?_⟩
    rcases List.mem_cons.mp hv with rfl | hv
    · exact ⟨pu.bits, pu.le⟩
    · exact ih.ok v hv
theorem Pats.cons {w : Nat} {u : List Nat} {us : List (List Nat)} {y : Str} {ys : List Str} (p : Pat w u y) (h : Pats w us ys) : Pats w (u :: us) (y :: ys) :=
  ⟨by rw [List.map_cons, List.map_cons, p.eq, h.eq], fun v hv => by
    rcases List.mem_cons.mp hv with rfl | hv
    · exact ⟨p.bits, p.le⟩
    · exact h.ok v hv⟩
theorem Pats.nil {w : Nat} : Pats w [] [] := ⟨rfl, fun _ h => nomatch h⟩
theorem Pats.rev {w : Nat} {us : List (List Nat)} {ys : List Str} (h : Pats w us ys) : Pats w us.reverse ys.reverse :=
  ⟨by rw [List.map_reverse, List.map_reverse, h.eq], fun u hu => h.ok u (List.mem_reverse.mp hu)⟩
theorem Pats.uniq {w : Nat} {us : List (List Nat)} {ys zs : List Str} (h : Pats w us ys) (k : Pats w us zs) : ys = zs := G.map_tl_inj (by rw [h.eq, k.eq])
end G
/-! Plain laws: things of either type, membership, the bag of five. -/
namespace G
open PySem PySem.Spec PyProof.Rows L2 TL
instance {α : Type} [Enc α] [EqvD α] : EqvD (T1 α) := ⟨fun x y => by
  obtain ⟨a⟩ := x
  obtain ⟨c⟩ := y
  show (PyData.eqv (Enc.d a) (Enc.d c) && true) = true ↔ _
  rw [Bool.and_true, EqvD.iff, T1.mk.injEq]⟩
instance {α β γ δ ε : Type} [Enc α] [Enc β] [Enc γ] [Enc δ] [Enc ε] [EqvD α] [EqvD β] [EqvD γ] [EqvD δ] [EqvD ε] : EqvD (T5 α β γ δ ε) := ⟨fun x y => by
  obtain ⟨a, b, e, g, i⟩ := x
  obtain ⟨c, d, f, h, j⟩ := y
  show (PyData.eqv (Enc.d a) (Enc.d c) && (PyData.eqv (Enc.d b) (Enc.d d) && (PyData.eqv (Enc.d e) (Enc.d f) && (PyData.eqv (Enc.d g) (Enc.d h) && (PyData.eqv (Enc.d i) (Enc.d j) && true))))) = true ↔ _
  rw [Bool.and_true, Bool.and_eq_true, Bool.and_eq_true, Bool.and_eq_true, Bool.and_eq_true, EqvD.iff, EqvD.iff, EqvD.iff, EqvD.iff, EqvD.iff, T5.mk.injEq]⟩
theorem inD_dec {α : Type} [Enc α] [EqvD α] [DecidableEq α] {x : α} {xs : List α} : inD x xs = decide (x ∈ xs) := by
  rw [Bool.eq_iff_iff, decide_eq_true_iff]
  unfold inD
  rw [List.any_map, List.any_eq_true]
  constructor
  · rintro ⟨y, hy, e⟩
    have e' : PyData.eqv (Enc.d y) (Enc.d x) = true := e
    rw [← (EqvD.iff y x).mp e']
    exact hy
  · intro h
    exact ⟨x, h, (EqvD.iff x x).mpr rfl⟩
theorem inD_true {α : Type} [Enc α] [EqvD α] {x : α} {xs : List α} (h : x ∈ xs) : inD x xs = true := by
  unfold inD
  rw [List.any_map, List.any_eq_true]
  exact ⟨x, h, (EqvD.iff x x).mpr rfl⟩
theorem inD_false {α : Type} [Enc α] [EqvD α] {x : α} {xs : List α} (h : x ∉ xs) : inD x xs = false := by
  unfold inD
  rw [List.any_map, List.any_eq_false]
  intro y hy e
  have e' : PyData.eqv (Enc.d y) (Enc.d x) = true := e
  rw [← (EqvD.iff y x).mp e'] at h
  exact h hy
theorem rangeL_cons (lo : Int) (n : Nat) : rangeL lo (n + 1) = lo :: rangeL (lo + 1) n := rangeL_succ lo n
theorem bind3_some {α β γ δ : Type} {a : α} {b : β} {c : γ} {f : α → β → γ → Option δ} : bind3 (some (a, b, c)) f = f a b c := rfl
theorem bind4_some {α β γ δ ε : Type} {a : α} {b : β} {c : γ} {d : δ} {f : α → β → γ → δ → Option ε} : bind4 (some (a, b, c, d)) f = f a b c d := rfl
theorem erase_perm {α : Type} : ∀ {l : List α} {j : Nat} (h : j < l.length), (l[j] :: l.eraseIdx j).Perm l
  | x :: l, 0, _ => List.Perm.refl _
  | x :: l, j + 1, h => by
    have hj : j < l.length := by rw [List.length_cons] at h; omega
    have ih := erase_perm (l := l) (j := j) hj
    show (l[j] :: x :: l.eraseIdx j).Perm (x :: l)
    exact (List.Perm.swap _ _ _).trans (ih.cons x)
theorem popI_O {α : Type} {xs : List α} {i : Int} {P : α × List α → Prop} (h0 : 0 ≤ i) (h1 : i < xs.length) (h : ∀ j : Nat, ∀ hj : j < xs.length, i = (j : Nat) → P (xs[j], xs.eraseIdx j)) : O1 (popI xs i) P := by
  obtain ⟨n, rfl⟩ := Int.eq_ofNat_of_zero_le h0
  have hn : n < xs.length := by omega
  refine ⟨_, ?_, h n hn rfl⟩
  unfold popI ixN
  rw [if_pos (by omega), if_pos (by omega)]
  show Option.bind (some (Int.toNat (n : Int))) _ = _
  rw [Option.bind_some, Int.toNat_natCast, List.getElem?_eq_getElem hn]
  rfl
theorem mem_erase_idx {α : Type} {xs : List α} {j : Nat} {x : α} (h : x ∈ xs.eraseIdx j) : x ∈ xs := List.eraseIdx_subset h
theorem mem_cutL {α : Type} {xs : List α} {lo hi : Option Int} {x : α} (h : x ∈ cutL xs lo hi) : x ∈ xs := List.mem_of_mem_drop (List.mem_of_mem_take h)
theorem cutL_len {α : Type} (xs : List α) (lo hi : Option Int) : (cutL xs lo hi).length ≤ xs.length := by
  unfold cutL
  rw [List.length_take, List.length_drop]
  omega
theorem cutL_to {α : Type} (xs : List α) (n : Nat) : cutL xs none (some (n : Int)) = xs.take n := by
  unfold cutL
  rw [sIx_n, HT.sIx_nat, List.drop_zero, Nat.sub_zero]
  by_cases h : n ≤ xs.length
  · rw [Nat.min_eq_left h]
  · rw [Nat.min_eq_right (by omega), List.take_length, List.take_of_length_le (by omega)]
theorem cutL_from {α : Type} (xs : List α) (n : Nat) : cutL xs (some (n : Int)) none = xs.drop n := by
  unfold cutL
  rw [sIx_n, HT.sIx_nat]
  by_cases h : n ≤ xs.length
  · rw [Nat.min_eq_left h, List.take_of_length_le (by rw [List.length_drop]; omega)]
  · rw [Nat.min_eq_right (by omega), List.drop_length, List.take_nil, List.drop_of_length_le (by omega)]
theorem cutL_at {α : Type} (xs : List α) (n m : Nat) : cutL xs (some (n : Int)) (some (m : Int)) = (xs.drop n).take (m - n) := by
  unfold cutL
  rw [HT.sIx_nat, HT.sIx_nat]
  by_cases h : n ≤ xs.length
  · rw [Nat.min_eq_left h]
    by_cases h2 : m ≤ xs.length
    · rw [Nat.min_eq_left h2]
    · rw [Nat.min_eq_right (by omega), List.take_of_length_le (by rw [List.length_drop]; omega), List.take_of_length_le (by rw [List.length_drop]; omega)]
  · rw [show min n xs.length = xs.length from Nat.min_eq_right (by omega), List.drop_length, List.take_nil, List.drop_of_length_le (by omega), List.take_nil]
theorem undup_le {α : Type} [DecidableEq α] : ∀ l : List α, (undup l).length ≤ l.length
  | [] => Nat.le_refl _
  | x :: l => by
    have := undup_le l
    unfold undup
    split
    · rw [List.length_cons]; omega
    · rw [List.length_cons, List.length_cons]; omega
theorem undup_lt {α : Type} [DecidableEq α] : ∀ {l : List α}, (undup l).length < l.length ↔ ¬ l.Nodup
  | [] => by simp [undup]
  | x :: l => by
    have h1 := undup_le l
    have h2 := undup_lt (l := l)
    unfold undup
    rw [List.nodup_cons]
    by_cases h : x ∈ l
    · rw [if_pos h, List.length_cons]
      exact ⟨fun _ z => z.1 h, fun _ => by omega⟩
    · rw [if_neg h, List.length_cons, List.length_cons, Nat.add_lt_add_iff_right, h2]
      exact ⟨fun z w => z w.2, fun z w => z ⟨h, w⟩⟩
end G
/-! Plain: lists by length and then by signs; going through a net from near to far. -/
namespace G
/-- as long, and first by signs -/
def lx : List Int → List Int → Prop
  | x :: xs, y :: ys => x < y ∨ (x = y ∧ lx xs ys)
  | _, _ => False
def Lt2 (a b : List Int) : Prop := a.length < b.length ∨ (a.length = b.length ∧ lx a b)
def Le2 (a b : List Int) : Prop := a = b ∨ Lt2 a b
theorem lx_irrefl : ∀ a : List Int, ¬ lx a a
  | [], h => h
  | x :: a, h => by
    rcases h with h | ⟨_, h⟩
    · omega
    · exact lx_irrefl a h
theorem lx_trans : ∀ {a b c : List Int}, lx a b → lx b c → lx a c
  | [], _, _, h, _ => h.elim
  | _ :: _, [], _, h, _ => h.elim
  | _ :: _, _ :: _, [], _, h => h.elim
  | x :: a, y :: b, z :: c, h1, h2 => by
    rcases h1 with h1 | ⟨e1, h1⟩ <;> rcases h2 with h2 | ⟨e2, h2⟩
    · exact .inl (by omega)
    · exact .inl (by omega)
    · exact .inl (by omega)
    · exact .inr ⟨e1.trans e2, lx_trans h1 h2⟩
theorem lx_tri : ∀ {a b : List Int}, a.length = b.length → a = b ∨ lx a b ∨ lx b a
  | [], [], _ => .inl rfl
  | [], _ :: _, h => by cases h
  | _ :: _, [], h => by cases h
  | x :: a, y :: b, h => by
    have h' : a.length = b.length := by simpa using h
    rcases Int.lt_trichotomy x y with c | c | c
    · exact .inr (.inl (.inl c))
    · rcases lx_tri h' with e | e | e
      · exact .inl (by rw [c, e])
      · exact .inr (.inl (.inr ⟨c, e⟩))
      · exact .inr (.inr (.inr ⟨c.symm, e⟩))
    · exact .inr (.inr (.inl c))
theorem lx_app : ∀ {a b : List Int} (c d : List Int), a.length = b.length → lx a b → lx (a ++ c) (b ++ d)
  | [], _, _, _, _, h => h.elim
  | _ :: _, [], _, _, _, h => h.elim
  | x :: a, y :: b, c, d, hl, h => by
    rcases h with h | ⟨e, h⟩
    · exact .inl h
    · exact .inr ⟨e, lx_app c d (by simpa using hl) h⟩
theorem lx_same : ∀ (a : List Int) {c d : List Int}, lx c d → lx (a ++ c) (a ++ d)
  | [], _, _, h => h
  | _ :: a, _, _, h => .inr ⟨rfl, lx_same a h⟩
theorem Lt2.irrefl (a : List Int) : ¬ Lt2 a a := fun h => h.elim (Nat.lt_irrefl _) (fun h => lx_irrefl a h.2)
theorem Lt2.trans {a b c : List Int} (h1 : Lt2 a b) (h2 : Lt2 b c) : Lt2 a c := by
  rcases h1 with h1 | ⟨e1, h1⟩ <;> rcases h2 with h2 | ⟨e2, h2⟩
  · exact .inl (by omega)
  · exact .inl (by omega)
  · exact .inl (by omega)
  · exact .inr ⟨e1.trans e2, lx_trans h1 h2⟩
theorem Lt2.tri (a b : List Int) : a = b ∨ Lt2 a b ∨ Lt2 b a := by
  rcases Nat.lt_trichotomy a.length b.length with c | c | c
  · exact .inr (.inl (.inl c))
  · rcases lx_tri c with e | e | e
    · exact .inl e
    · exact .inr (.inl (.inr ⟨c, e⟩))
    · exact .inr (.inr (.inr ⟨c.symm, e⟩))
  · exact .inr (.inr (.inl c))
theorem Le2.refl (a : List Int) : Le2 a a := .inl rfl
theorem Le2.trans {a b c : List Int} (h1 : Le2 a b) (h2 : Le2 b c) : Le2 a c := by
  rcases h1 with rfl | h1
  · exact h2
  · rcases h2 with rfl | h2
    · exact .inr h1
    · exact .inr (h1.trans h2)
theorem Le2.anti {a b : List Int} (h1 : Le2 a b) (h2 : Le2 b a) : a = b := by
  rcases h1 with e | h1
  · exact e
  · rcases h2 with e | h2
    · exact e.symm
    · exact absurd (h1.trans h2) (Lt2.irrefl a)
theorem Le2.len {a b : List Int} (h : Le2 a b) : a.length ≤ b.length := by
  rcases h with rfl | h | h
  · exact Nat.le_refl _
  · exact Nat.le_of_lt h
  · exact Nat.le_of_eq h.1
theorem Lt2.snoc {a b : List Int} (x y : Int) (h : Lt2 a b) : Lt2 (a ++ [x]) (b ++ [y]) := by
  rcases h with h | ⟨e, h⟩
  · exact .inl (by simp; exact h)
  · exact .inr ⟨by simp; exact e, lx_app _ _ e h⟩
theorem Lt2.last (a : List Int) {x y : Int} (h : x < y) : Lt2 (a ++ [x]) (a ++ [y]) := .inr ⟨by simp, lx_same a (.inl h)⟩
theorem Le2.snoc {a b : List Int} (x : Int) (h : Le2 a b) : Le2 (a ++ [x]) (b ++ [x]) := by
  rcases h with rfl | h
  · exact .inl rfl
  · exact .inr (h.snoc x x)
/-- put together -/
theorem Le2.app {a b c d : List Int} (h1 : Le2 a b) (h2 : Le2 c d) : Le2 (a ++ c) (b ++ d) := by
  rcases h1 with rfl | h1
  · rcases h2 with rfl | h2
    · exact .inl rfl
    · refine .inr ?_
      rcases h2 with h2 | ⟨e, h2⟩
      · exact .inl (by simp; exact h2)
      · exact .inr ⟨by simp; exact e, lx_same a h2⟩
  · refine .inr ?_
    have l2 := h2.len
    rcases h1 with h1 | ⟨e, h1⟩
    · exact .inl (by simp; omega)
    · by_cases hl : c.length = d.length
      · exact .inr ⟨by simp; omega, lx_app _ _ e h1⟩
      · exact .inl (by simp; omega)

/-! ### from near to far -/
section
variable {S : Type} [DecidableEq S] (hs : S → Int) (out : S → List S) (ex : List Int → Prop) (b : S)
/-- a walk from b, by its signs -/
inductive Wk : S → List Int → Prop
  | one : Wk b [hs b]
  | step {u : S} {l : List Int} {o : S} : Wk u l → o ∈ out u → Wk o (l ++ [hs o])
structure BI (D P : List (S × List Int)) : Prop where
  nd : ((D ++ P).map (·.1)).Nodup
  srt : ((D ++ P).map (·.2)).Pairwise Lt2
  par : ∀ e ∈ D ++ P, e = (b, [hs b]) ∨ ∃ u ∈ D, ex u.2 ∧ e.1 ∈ out u.1 ∧ e.2 = u.2 ++ [hs e.1]
  cl : ∀ u ∈ D, ex u.2 → ∀ o ∈ out u.1, ∃ l, (o, l) ∈ D ++ P ∧ Le2 l (u.2 ++ [hs o])
  bg : (b, [hs b]) ∈ D ++ P
structure BJ (D : List (S × List Int)) (u : S × List Int) (P : List (S × List Int)) (dn os : List S) : Prop where
  sp : out u.1 = dn ++ os
  up : (out u.1).Pairwise fun x y => hs x < hs y
  eu : ex u.2
  nd : ((D ++ u :: P).map (·.1)).Nodup
  srt : ((D ++ u :: P).map (·.2)).Pairwise Lt2
  par : ∀ e ∈ D ++ u :: P, e = (b, [hs b]) ∨ (∃ v ∈ D, ex v.2 ∧ e.1 ∈ out v.1 ∧ e.2 = v.2 ++ [hs e.1]) ∨ (e.1 ∈ dn ∧ e.2 = u.2 ++ [hs e.1])
  cl : ∀ v ∈ D, ex v.2 → ∀ o ∈ out v.1, ∃ l, (o, l) ∈ D ++ u :: P ∧ Le2 l (v.2 ++ [hs o])
  cu : ∀ o ∈ dn, ∃ l, (o, l) ∈ D ++ u :: P ∧ Le2 l (u.2 ++ [hs o])
  bg : (b, [hs b]) ∈ D ++ u :: P
variable {hs out ex b}
theorem BI.start : BI hs out ex b [] [(b, [hs b])] :=
  ⟨by simp, by simp, fun e he => .inl (by simpa using he), (fun _ h => nomatch h), by simp⟩
theorem BI.open_ {D P : List (S × List Int)} {u : S × List Int} (h : BI hs out ex b D (u :: P)) (hu : ex u.2) (up : (out u.1).Pairwise fun x y => hs x < hs y) : BJ hs out ex b D u P [] (out u.1) :=
  ⟨rfl, up, hu, h.nd, h.srt, fun e he => (h.par e he).imp id .inl, h.cl, (fun _ h => nomatch h), h.bg⟩
theorem BI.pass {D P : List (S × List Int)} {u : S × List Int} (h : BI hs out ex b D (u :: P)) (hu : ¬ ex u.2) : BI hs out ex b (D ++ [u]) P := by
  have e : D ++ [u] ++ P = D ++ u :: P := by simp
  refine ⟨by rw [e]; exact h.nd, by rw [e]; exact h.srt, fun x hx => ?_, fun v hv hx o ho => ?_, by rw [e]; exact h.bg⟩
  · rcases h.par x (e ▸ hx) with z | ⟨v, hv, r⟩
    · exact .inl z
    · exact .inr ⟨v, List.mem_append_left _ hv, r⟩
  · rw [e]
    rcases List.mem_append.mp hv with hv | hv
    · exact h.cl v hv hx o ho
    · rw [List.mem_singleton.mp hv] at hx
      exact absurd hx hu
theorem BJ.done {D P : List (S × List Int)} {u : S × List Int} {dn : List S} (h : BJ hs out ex b D u P dn []) : BI hs out ex b (D ++ [u]) P := by
  have e : D ++ [u] ++ P = D ++ u :: P := by simp
  have sp : out u.1 = dn := by rw [h.sp, List.append_nil]
  refine ⟨by rw [e]; exact h.nd, by rw [e]; exact h.srt, fun x hx => ?_, fun v hv hx o ho => ?_, by rw [e]; exact h.bg⟩
  · rcases h.par x (e ▸ hx) with z | ⟨v, hv, r⟩ | ⟨h1, h2⟩
    · exact .inl z
    · exact .inr ⟨v, List.mem_append_left _ hv, r⟩
    · exact .inr ⟨u, by simp, h.eu, by rw [sp]; exact h1, h2⟩
  · rw [e]
    rcases List.mem_append.mp hv with hv | hv
    · exact h.cl v hv hx o ho
    · rw [List.mem_singleton.mp hv] at hx ho ⊢
      exact h.cu o (sp ▸ ho)
theorem BJ.ne {D P : List (S × List Int)} {u : S × List Int} {dn os : List S} (h : BJ hs out ex b D u P dn os) {e : S × List Int} (he : e ∈ D ++ u :: P) : 0 < e.2.length := by
  rcases h.par e he with z | ⟨v, _, _, _, z⟩ | ⟨_, z⟩
  · rw [z]; exact Nat.succ_pos _
  · rw [z, List.length_append]; exact Nat.succ_pos _
  · rw [z, List.length_append]; exact Nat.succ_pos _
/-- all that is there is ahead of what comes next -/
theorem BJ.less {D P : List (S × List Int)} {u : S × List Int} {dn os : List S} {o : S} (h : BJ hs out ex b D u P dn (o :: os)) {e : S × List Int} (he : e ∈ D ++ u :: P) : Lt2 e.2 (u.2 ++ [hs o]) := by
  have hu := h.ne (e := u) (by simp)
  rcases h.par e he with z | ⟨v, hv, _, _, z⟩ | ⟨h1, z⟩
  · rw [z]
    exact .inl (by simp; omega)
  · rw [z]
    refine Lt2.snoc _ _ ?_
    have := h.srt
    rw [List.map_append, List.map_cons, List.pairwise_append] at this
    exact this.2.2 v.2 (List.mem_map.mpr ⟨v, hv, rfl⟩) u.2 (List.mem_cons_self ..)
  · rw [z]
    refine Lt2.last _ ?_
    have := h.up
    rw [h.sp, List.pairwise_append] at this
    exact this.2.2 e.1 h1 o (List.mem_cons_self ..)
theorem BJ.skip {D P : List (S × List Int)} {u : S × List Int} {dn os : List S} {o : S} (h : BJ hs out ex b D u P dn (o :: os)) (hk : o ∈ (D ++ u :: P).map (·.1)) : BJ hs out ex b D u P (dn ++ [o]) os := by
  obtain ⟨e, he, rfl⟩ := List.mem_map.mp hk
  refine ⟨by rw [h.sp]; simp, h.up, h.eu, h.nd, h.srt, fun x hx => ?_, h.cl, fun x hx => ?_, h.bg⟩
  · rcases h.par x hx with z | z | ⟨h1, h2⟩
    · exact .inl z
    · exact .inr (.inl z)
    · exact .inr (.inr ⟨List.mem_append_left _ h1, h2⟩)
  · rcases List.mem_append.mp hx with hx | hx
    · exact h.cu x hx
    · rw [List.mem_singleton.mp hx]
      exact ⟨e.2, he, .inr (h.less he)⟩
theorem BJ.add {D P : List (S × List Int)} {u : S × List Int} {dn os : List S} {o : S} (h : BJ hs out ex b D u P dn (o :: os)) (hk : o ∉ (D ++ u :: P).map (·.1)) : BJ hs out ex b D u (P ++ [(o, u.2 ++ [hs o])]) (dn ++ [o]) os := by
  have e : D ++ u :: (P ++ [(o, u.2 ++ [hs o])]) = (D ++ u :: P) ++ [(o, u.2 ++ [hs o])] := by simp
  refine ⟨by rw [h.sp]; simp, h.up, h.eu, ?_, ?_, fun x hx => ?_, fun v hv hx z hz => ?_, fun x hx => ?_, by rw [e]; exact List.mem_append_left _ h.bg⟩
  · rw [e, List.map_append]
    refine List.nodup_append.mpr ⟨h.nd, by simp, fun x hx y hy => ?_⟩
    have hy' : y = o := by simpa using hy
    rw [hy']
    exact fun z => hk (z ▸ hx)
  · rw [e, List.map_append, List.pairwise_append]
    refine ⟨h.srt, by simp, fun x hx y hy => ?_⟩
    have hy' : y = u.2 ++ [hs o] := by simpa using hy
    rw [hy']
    obtain ⟨z, hz, rfl⟩ := List.mem_map.mp hx
    exact h.less hz
  · rw [e] at hx
    rcases List.mem_append.mp hx with hx | hx
    · rcases h.par x hx with z | z | ⟨h1, h2⟩
      · exact .inl z
      · exact .inr (.inl z)
      · exact .inr (.inr ⟨List.mem_append_left _ h1, h2⟩)
    · rw [List.mem_singleton.mp hx]
      exact .inr (.inr ⟨by simp, rfl⟩)
  · obtain ⟨l, h1, h2⟩ := h.cl v hv hx z hz
    exact ⟨l, by rw [e]; exact List.mem_append_left _ h1, h2⟩
  · rcases List.mem_append.mp hx with hx | hx
    · obtain ⟨l, h1, h2⟩ := h.cu x hx
      exact ⟨l, by rw [e]; exact List.mem_append_left _ h1, h2⟩
    · rw [List.mem_singleton.mp hx]
      exact ⟨u.2 ++ [hs o], by rw [e]; simp, .inl rfl⟩
/-- what stands there is a walk -/
theorem BI.walks {D : List (S × List Int)} (h : BI hs out ex b D []) : ∀ (n : Nat) (e : S × List Int), e ∈ D → e.2.length ≤ n → Wk hs out b e.1 e.2
  | 0, e, he, hn => by
    rcases h.par e (by simpa using he) with z | ⟨v, _, _, _, z⟩
    · rw [z] at hn; simp at hn
    · rw [z] at hn; simp at hn
  | n + 1, e, he, hn => by
    rcases h.par e (by simpa using he) with z | ⟨v, hv, _, ho, z⟩
    · rw [z]; exact .one
    · rw [z]
      refine .step (BI.walks h n v hv ?_) ho
      rw [z] at hn
      simp at hn
      exact hn
theorem Wk.ne {s : S} {l : List Int} (h : Wk hs out b s l) : 0 < l.length := by
  cases h with
  | one => exact Nat.succ_pos _
  | step _ _ => rw [List.length_append]; exact Nat.succ_pos _
/-- and none is ahead of it -/
theorem BI.best {D : List (S × List Int)} (h : BI hs out ex b D []) (exm : ∀ l l' : List Int, l.length ≤ l'.length → ex l' → ex l) {s : S} {w : List Int} (hw : Wk hs out b s w) : (w.length = 1 ∨ ex w.dropLast) → ∃ l, (s, l) ∈ D ∧ Le2 l w := by
  induction hw with
  | one => exact fun _ => ⟨_, by simpa using h.bg, .inl rfl⟩
  | @step u l o hw ho ih =>
    intro hx
    have hl := hw.ne
    have hx' : ex l := by
      rcases hx with z | z
      · rw [List.length_append, List.length_singleton] at z; omega
      · rwa [List.dropLast_concat] at z
    obtain ⟨l', h1, h2⟩ := ih (by
      by_cases hc : l.length = 1
      · exact .inl hc
      · exact .inr (exm _ _ (by rw [List.length_dropLast]; omega) hx'))
    obtain ⟨l2, h3, h4⟩ := h.cl (u, l') h1 (exm _ _ h2.len hx') o ho
    exact ⟨l2, by simpa using h3, h4.trans (h2.snoc _)⟩
/-- no more entries than there are stands -/
theorem BI.few {D P : List (S × List Int)} (h : BI hs out ex b D P) {U : List S} (hU : ∀ s, (∃ l, (s, l) ∈ D ++ P) → s ∈ U) : D.length + P.length ≤ U.length := by
  have := len_same.go h.nd (b := U) fun x hx => by
    obtain ⟨e, he, rfl⟩ := List.mem_map.mp hx
    exact hU e.1 ⟨e.2, he⟩
  rw [List.length_map, List.length_append] at this
  exact this
theorem BI.one {D : List (S × List Int)} (h : BI hs out ex b D []) {s : S} {l : List Int} (hl : (s, l) ∈ D) : dval D s = some l := by
  have nd := h.nd
  rw [List.append_nil] at nd
  clear h
  induction D with
  | nil => cases hl
  | cons e D ih =>
    rw [List.map_cons, List.nodup_cons] at nd
    rcases List.mem_cons.mp hl with rfl | hl
    · exact dval_pos rfl
    · rw [dval_neg (fun z => nd.1 (by rw [z]; exact List.mem_map.mpr ⟨_, hl, rfl⟩))]
      exact ih hl nd.2
theorem dval_mem {β : Type} {D : List (S × β)} {s : S} {l : β} (h : dval D s = some l) : (s, l) ∈ D := by
  induction D with
  | nil => cases h
  | cons e D ih =>
    by_cases hc : e.1 = s
    · rw [dval_pos hc] at h
      cases h
      rw [← hc]
      exact List.mem_cons_self ..
    · rw [dval_neg hc] at h
      exact List.mem_cons_of_mem _ (ih h)
theorem dval_isS {β : Type} {D : List (S × β)} {s : S} : (dval D s).isSome = true ↔ s ∈ D.map (·.1) := by
  induction D with
  | nil => simp [dval_nil]
  | cons e D ih =>
    rw [List.map_cons, List.mem_cons]
    by_cases hc : e.1 = s
    · rw [dval_pos hc]; simp [hc]
    · rw [dval_neg hc, ih]
      constructor
      · exact .inr
      · rintro (z | z)
        · exact absurd z.symm hc
        · exact z
theorem dput_new {β : Type} {D : List (S × β)} {s : S} {y : β} (h : s ∉ D.map (·.1)) : dput D s y = D ++ [(s, y)] := by
  unfold dput
  rw [if_neg (fun z => h (dval_isS.mp z))]
end
end G
namespace K28
open PySem PySem.Spec PyProof.Rows L2 TL G
def topS (i : Nat) : Stmt := PySem.Challenge.pw_wishnet_k28_whole_within_fewer_past_more.main.body.getD i (.Pass ⟨0, 0, 0, 0⟩)
abbrev s_whole_pairs : Stmt := topS 2
abbrev s_nearby : Stmt := topS 3
abbrev s_come_to : Stmt := topS 4
abbrev s_beginning : Stmt := topS 5
abbrev s_goal_of : Stmt := topS 6
abbrev s_leads : Stmt := topS 7
abbrev s_first_lists : Stmt := topS 8
abbrev s_way : Stmt := topS 9
abbrev s_is_entry : Stmt := topS 10
abbrev s_open_entry : Stmt := topS 11
abbrev s_none_fault : Stmt := topS 12
abbrev s_l_bag : Stmt := topS 14
abbrev s_l_stirred : Stmt := topS 15
abbrev s_l_draw : Stmt := topS 16
abbrev s_l_liked : Stmt := topS 17
abbrev s_l_town_drawn : Stmt := topS 18
abbrev s_l_torn_drawn : Stmt := topS 19
abbrev s_l_want_drawn : Stmt := topS 20
abbrev s_l_within : Stmt := topS 21
abbrev s_l_few : Stmt := topS 22
abbrev s_l_fewer_right : Stmt := topS 23
abbrev s_l_past_right : Stmt := topS 24
abbrev s_law : Stmt := topS 25
structure Txt (K : PySem.W.Frag) (mg : Str → Option Value) where
  a_whole_pairs : Addr
  d_whole_pairs : FuncData
  F_whole_pairs : FnP K "whole_pairs" s_whole_pairs a_whole_pairs d_whole_pairs
  g_whole_pairs : mg "whole_pairs" = some (.ref a_whole_pairs)
  a_nearby : Addr
  d_nearby : FuncData
  F_nearby : FnP K "nearby" s_nearby a_nearby d_nearby
  g_nearby : mg "nearby" = some (.ref a_nearby)
  a_come_to : Addr
  d_come_to : FuncData
  F_come_to : FnP K "come_to" s_come_to a_come_to d_come_to
  g_come_to : mg "come_to" = some (.ref a_come_to)
  a_beginning : Addr
  d_beginning : FuncData
  F_beginning : FnP K "beginning" s_beginning a_beginning d_beginning
  g_beginning : mg "beginning" = some (.ref a_beginning)
  a_goal_of : Addr
  d_goal_of : FuncData
  F_goal_of : FnP K "goal_of" s_goal_of a_goal_of d_goal_of
  g_goal_of : mg "goal_of" = some (.ref a_goal_of)
  a_leads : Addr
  d_leads : FuncData
  F_leads : FnP K "leads" s_leads a_leads d_leads
  g_leads : mg "leads" = some (.ref a_leads)
  a_first_lists : Addr
  d_first_lists : FuncData
  F_first_lists : FnP K "first_lists" s_first_lists a_first_lists d_first_lists
  g_first_lists : mg "first_lists" = some (.ref a_first_lists)
  a_way : Addr
  d_way : FuncData
  F_way : FnP K "way" s_way a_way d_way
  g_way : mg "way" = some (.ref a_way)
  a_is_entry : Addr
  d_is_entry : FuncData
  F_is_entry : FnP K "is_entry" s_is_entry a_is_entry d_is_entry
  g_is_entry : mg "is_entry" = some (.ref a_is_entry)
  a_open_entry : Addr
  d_open_entry : FuncData
  F_open_entry : FnP K "open_entry" s_open_entry a_open_entry d_open_entry
  g_open_entry : mg "open_entry" = some (.ref a_open_entry)
  a_none_fault : Addr
  d_none_fault : FuncData
  F_none_fault : FnP K "none_fault" s_none_fault a_none_fault d_none_fault
  g_none_fault : mg "none_fault" = some (.ref a_none_fault)
  a_l_bag : Addr
  d_l_bag : FuncData
  F_l_bag : FnP K "_law_bag" s_l_bag a_l_bag d_l_bag
  g_l_bag : mg "_law_bag" = some (.ref a_l_bag)
  a_l_stirred : Addr
  d_l_stirred : FuncData
  F_l_stirred : FnP K "_law_stirred" s_l_stirred a_l_stirred d_l_stirred
  g_l_stirred : mg "_law_stirred" = some (.ref a_l_stirred)
  a_l_draw : Addr
  d_l_draw : FuncData
  F_l_draw : FnP K "_law_draw" s_l_draw a_l_draw d_l_draw
  g_l_draw : mg "_law_draw" = some (.ref a_l_draw)
  a_l_liked : Addr
  d_l_liked : FuncData
  F_l_liked : FnP K "_law_liked" s_l_liked a_l_liked d_l_liked
  g_l_liked : mg "_law_liked" = some (.ref a_l_liked)
  a_l_town_drawn : Addr
  d_l_town_drawn : FuncData
  F_l_town_drawn : FnP K "_law_town_drawn" s_l_town_drawn a_l_town_drawn d_l_town_drawn
  g_l_town_drawn : mg "_law_town_drawn" = some (.ref a_l_town_drawn)
  a_l_torn_drawn : Addr
  d_l_torn_drawn : FuncData
  F_l_torn_drawn : FnP K "_law_torn_drawn" s_l_torn_drawn a_l_torn_drawn d_l_torn_drawn
  g_l_torn_drawn : mg "_law_torn_drawn" = some (.ref a_l_torn_drawn)
  a_l_want_drawn : Addr
  d_l_want_drawn : FuncData
  F_l_want_drawn : FnP K "_law_want_drawn" s_l_want_drawn a_l_want_drawn d_l_want_drawn
  g_l_want_drawn : mg "_law_want_drawn" = some (.ref a_l_want_drawn)
  a_l_within : Addr
  d_l_within : FuncData
  F_l_within : FnP K "_law_within" s_l_within a_l_within d_l_within
  g_l_within : mg "_law_within" = some (.ref a_l_within)
  a_l_few : Addr
  d_l_few : FuncData
  F_l_few : FnP K "_law_few" s_l_few a_l_few d_l_few
  g_l_few : mg "_law_few" = some (.ref a_l_few)
  a_l_fewer_right : Addr
  d_l_fewer_right : FuncData
  F_l_fewer_right : FnP K "_law_fewer_right" s_l_fewer_right a_l_fewer_right d_l_fewer_right
  g_l_fewer_right : mg "_law_fewer_right" = some (.ref a_l_fewer_right)
  a_l_past_right : Addr
  d_l_past_right : FuncData
  F_l_past_right : FnP K "_law_past_right" s_l_past_right a_l_past_right d_l_past_right
  g_l_past_right : mg "_law_past_right" = some (.ref a_l_past_right)
  a_law : Addr
  d_law : FuncData
  F_law : FnP K "law" s_law a_law d_law
  g_law : mg "law" = some (.ref a_law)
  n_abs : mg "abs" = none
  n_dict : mg "dict" = none
  n_enumerate : mg "enumerate" = none
  n_len : mg "len" = none
  n_max : mg "max" = none
  n_min : mg "min" = none
  n_range : mg "range" = none
  n_set : mg "set" = none
  n_sorted : mg "sorted" = none
  n_tuple : mg "tuple" = none
  t_FARTHEST : Tok
  k_FARTHEST : mg "FARTHEST" = some (.int 48 t_FARTHEST)
/-! ### the bag, the draws -/
abbrev Bag := G.Bag2
abbrev BagAt := @G.BagAt2
structure BOk (b : Bag) : Prop where
  lo : 0 ≤ b.stir
  hi : b.stir < 2147483648
  len : b.cells.length ≤ 63
abbrev N_l_bag : List Str := ["_law_script", "_law_stir", "_law_cell"]
theorem sc_l_bag : FnScope N_l_bag ["_law_script"] (defScope s_l_bag) := ⟨rfl, rfl, rfl, by decide +kernel, rfl, by decide +kernel, by decide +kernel⟩
def sp_l_bag (K : PySem.W.Frag) : Sp := fun vs H Q _ => ∃ (a : Addr) (ns : List Int), vs = [.ref a] ∧ SqL K H a (ns.map V.int) ∧ ns.length ≤ 63 ∧ (∀ (B C : Addr) (b : Bag) (F H' : Hp), Same F H' → BagAt F H' B C b → BOk b → SqL K H' a (ns.map V.int) → (∀ o, H a = some o → ¬ Bc B C a) → Q (.ref B) H')
def nxt (s c : Int) : Int := (s ^ 3 + 69621 * s + 1031 * c + 1) % 2147483647
def stirN (z c : Int) : Nat → Int × Int × Int
  | 0 => (z, c, 0)
  | n + 1 => (nxt (stirN z c n).1 ((stirN z c n).2.1 + 1), (stirN z c n).2.1 + 1, (stirN z c n).2.2 * 134217728 + nxt (stirN z c n).1 ((stirN z c n).2.1 + 1) / 16)
def m_l_stirred (b : Bag) (n : Int) : Option (Int × Bag) :=
  if (0 < n ∧ Builtin.Int.intBits n < 9000) ∧ (0 ≤ b.stir ∧ b.stir < 2147483648) then
    some ((stirN b.stir b.cnt (1 + Builtin.Int.intBits n / 27)).2.2 % n, { b with stir := (stirN b.stir b.cnt (1 + Builtin.Int.intBits n / 27)).1, cnt := (stirN b.stir b.cnt (1 + Builtin.Int.intBits n / 27)).2.1 })
  else none
def m_l_draw (b : Bag) (n : Int) : Option (Int × Bag) :=
  if (0 < n ∧ n.natAbs.log2 < 9000) ∧ b.cells.length ≤ sizeLine then
    if b.left = 0 then
      match b.cells[b.at_]? with
      | some x => some (x % n, { b with at_ := b.at_ + 1, left := x / n })
      | none => m_l_stirred b n
    else some (b.left % n, { b with left := b.left / n })
  else none
abbrev N_l_stirred : List Str := ["_law_bag_here", "_law_many", "_law_found", "_law_k"]
theorem sc_l_stirred : FnScope N_l_stirred ["_law_bag_here", "_law_many"] (defScope s_l_stirred) := ⟨rfl, rfl, rfl, by decide +kernel, rfl, by decide +kernel, by decide +kernel⟩
def sp_l_stirred (K : PySem.W.Frag) : Sp := fun vs H Q _ => ∃ (F : Hp) (B C : Addr) (b : Bag) (y_many : Int) (r : Int) (b' : Bag), vs = [.ref B, .int y_many] ∧ Same F H ∧ BagAt F H B C b ∧ m_l_stirred b y_many = some (r, b') ∧ (∀ F' H', Gr (Bc B C) F H F' H' → BagAt F' H' B C b' → Q (.int r) H')
abbrev N_l_draw : List Str := ["_law_bag_here", "_law_many", "_law_found"]
theorem sc_l_draw : FnScope N_l_draw ["_law_bag_here", "_law_many"] (defScope s_l_draw) := ⟨rfl, rfl, rfl, by decide +kernel, rfl, by decide +kernel, by decide +kernel⟩
def sp_l_draw (K : PySem.W.Frag) : Sp := fun vs H Q _ => ∃ (F : Hp) (B C : Addr) (b : Bag) (y_many : Int) (r : Int) (b' : Bag), vs = [.ref B, .int y_many] ∧ Same F H ∧ BagAt F H B C b ∧ m_l_draw b y_many = some (r, b') ∧ (∀ F' H', Gr (Bc B C) F H F' H' → BagAt F' H' B C b' → Q (.int r) H')
theorem atI_map {xs : List Int} {k : Nat} {x : Int} (h : xs[k]? = some x) : atI (xs.map V.int) (k : Nat) = some (.int x) := atI_nat (by rw [List.getElem?_map, h]; rfl)

/-! ### whole_pairs -/
def m_whole_pairs_c1 (x_broken : (List Int)) : List (Int × (Int × Int)) → List (Int × Int)
  | [] => []
  | e47 :: xs_ => if (!decide (e47.1 ∈ x_broken)) then e47.2 :: m_whole_pairs_c1 x_broken xs_ else m_whole_pairs_c1 x_broken xs_
def m_whole_pairs (x_net : (T4 Int Int (List (Int × Int)) (List Int))) (x_broken : (List Int)) : (List (Int × Int)) :=
  (m_whole_pairs_c1 x_broken (List.zip (rangeL 0 (x_net.c).length) x_net.c))
abbrev N_whole_pairs : List Str := ["net", "broken", "number", "pair"]
theorem sc_whole_pairs : FnScope N_whole_pairs ["net", "broken"] (defScope s_whole_pairs) := ⟨rfl, rfl, rfl, by decide +kernel, rfl, by decide +kernel, by decide +kernel⟩
def sp_whole_pairs (K : PySem.W.Frag) : Sp := fun vs H Q _ => ∃ (F : Hp) (v_x_net : V) (x_net : (T4 Int Int (List (Int × Int)) (List Int))) (p_x_broken : Addr) (ws_x_broken : List V) (x_broken : (List Int)), vs = [v_x_net, .ref p_x_broken] ∧ Same F H ∧ R K F v_x_net x_net ∧ SqL K H p_x_broken ws_x_broken ∧ ws_x_broken.length ≤ sizeLine ∧ RL K F ws_x_broken x_broken ∧ ¬ M0 p_x_broken ∧ (∀ p ws F' H', Gr M0 F H F' H' → H p = none → H' p = some (.lst ws) → F' p = none → ws.length ≤ sizeLine → RL K F' ws (m_whole_pairs x_net x_broken) → Q (.ref p) H')
/-! ### nearby -/
def m_nearby_l1  : List (Int × Int) → (List (List Int)) → (Option ((List (List Int))))
  | [], x_found => some x_found
  | e79 :: xs_, x_found =>
    Option.bind (appN x_found e79.1 e79.2) fun x_found89 =>
    Option.bind (appN x_found89 e79.2 e79.1) fun x_found108 =>
    m_nearby_l1  xs_ x_found108
def m_nearby_c2  : List (List Int) → List (List Int)
  | [] => []
  | e177 :: xs_ => (sortI e177) :: m_nearby_c2  xs_
def m_nearby (x_net : (T4 Int Int (List (Int × Int)) (List Int))) (x_broken : (List Int)) : Option (List (List Int)) :=
  Option.bind (rangeO1 x_net.b) fun l12 =>
  Option.bind (some ((l12).map fun _ => ([] : List Int))) fun x_found40 =>
  Option.bind (m_nearby_l1  (m_whole_pairs x_net x_broken) x_found40) fun x_found60 =>
  some (m_nearby_c2  x_found60)
abbrev N_nearby : List Str := ["net", "broken", "found", "one", "other", "house", "houses"]
theorem sc_nearby : FnScope N_nearby ["net", "broken"] (defScope s_nearby) := ⟨rfl, rfl, rfl, by decide +kernel, rfl, by decide +kernel, by decide +kernel⟩
def sp_nearby (K : PySem.W.Frag) : Sp := fun vs H Q _ => ∃ (F : Hp) (v_x_net : V) (x_net : (T4 Int Int (List (Int × Int)) (List Int))) (p_x_broken : Addr) (ws_x_broken : List V) (x_broken : (List Int)) (r : (List (List Int))), vs = [v_x_net, .ref p_x_broken] ∧ Same F H ∧ R K F v_x_net x_net ∧ SqL K H p_x_broken ws_x_broken ∧ ws_x_broken.length ≤ sizeLine ∧ RL K F ws_x_broken x_broken ∧ ¬ M0 p_x_broken ∧ m_nearby x_net x_broken = some r ∧ (∀ p ws F' H', Gr M0 F H F' H' → H p = none → H' p = some (.lst ws) → F' p = none → ws.length ≤ sizeLine → RL K F' ws r → Q (.ref p) H')
/-! ### come_to -/
def m_come_to (x_order : (T4 Int (VT Int) (VT Int) (Option Int))) (x_done : Int) (x_house : Int) : Option (Int × Int) :=
  Option.bind (if (decide (x_done < ((((x_order.b).l).length : Nat) : Int))) then (Option.bind (atI (x_order.b).l x_done) fun t24 => some ((eqI t24 x_house))) else some false) fun c19 =>
  if c19 then (some ((x_done + (1 : Int)), x_house)) else (some (x_done, x_house))
abbrev N_come_to : List Str := ["order", "done", "house", "by"]
theorem sc_come_to : FnScope N_come_to ["order", "done", "house"] (defScope s_come_to) := ⟨rfl, rfl, rfl, by decide +kernel, rfl, by decide +kernel, by decide +kernel⟩
def sp_come_to (K : PySem.W.Frag) : Sp := fun vs H Q _ => ∃ (F : Hp) (v_x_order : V) (x_order : (T4 Int (VT Int) (VT Int) (Option Int))) (x_done : Int) (x_house : Int) (r : (Int × Int)), vs = [v_x_order, .int x_done, .int x_house] ∧ Same F H ∧ R K F v_x_order x_order ∧ m_come_to x_order x_done x_house = some r ∧ (∀ v F' H', Gr M0 F H F' H' → R K F' v r → Q v H')
/-! ### beginning -/
def m_beginning (x_net : (T4 Int Int (List (Int × Int)) (List Int))) (x_door : Int) (x_order : (T4 Int (VT Int) (VT Int) (Option Int))) : Option (Option (Int × Int)) :=
  Option.bind (atI x_net.e x_door) fun t12 =>
  Option.bind (if (decide (t12 ∈ (x_order.c).l)) then ( some ((none : (Option (Int × Int))))) else (Option.bind (m_come_to x_order (0 : Int) t12) fun r48 => some ((some r48)))) fun c41 =>
  some c41
abbrev N_beginning : List Str := ["net", "door", "order", "house"]
theorem sc_beginning : FnScope N_beginning ["net", "door", "order"] (defScope s_beginning) := ⟨rfl, rfl, rfl, by decide +kernel, rfl, by decide +kernel, by decide +kernel⟩
def sp_beginning (K : PySem.W.Frag) : Sp := fun vs H Q _ => ∃ (F : Hp) (v_x_net : V) (x_net : (T4 Int Int (List (Int × Int)) (List Int))) (x_door : Int) (v_x_order : V) (x_order : (T4 Int (VT Int) (VT Int) (Option Int))) (r : (Option (Int × Int))), vs = [v_x_net, .int x_door, v_x_order] ∧ Same F H ∧ R K F v_x_net x_net ∧ R K F v_x_order x_order ∧ m_beginning x_net x_door x_order = some r ∧ (∀ v F' H', Gr M0 F H F' H' → R K F' v r → Q v H')
/-! ### goal_of -/
def m_goal_of (x_net : (T4 Int Int (List (Int × Int)) (List Int))) (x_order : (T4 Int (VT Int) (VT Int) (Option Int))) : Option (Int × Int) :=
  Option.bind (atI x_net.e x_order.a) fun t30 =>
  some (((((x_order.b).l).length : Nat) : Int), t30)
abbrev N_goal_of : List Str := ["net", "order"]
theorem sc_goal_of : FnScope N_goal_of ["net", "order"] (defScope s_goal_of) := ⟨rfl, rfl, rfl, by decide +kernel, rfl, by decide +kernel, by decide +kernel⟩
def sp_goal_of (K : PySem.W.Frag) : Sp := fun vs H Q _ => ∃ (F : Hp) (v_x_net : V) (x_net : (T4 Int Int (List (Int × Int)) (List Int))) (v_x_order : V) (x_order : (T4 Int (VT Int) (VT Int) (Option Int))) (r : (Int × Int)), vs = [v_x_net, v_x_order] ∧ Same F H ∧ R K F v_x_net x_net ∧ R K F v_x_order x_order ∧ m_goal_of x_net x_order = some r ∧ (∀ v F' H', Gr M0 F H F' H' → R K F' v r → Q v H')
/-! ### leads -/
def m_leads_c1 (x_order : (T4 Int (VT Int) (VT Int) (Option Int))) (x_done : Int) : List Int → Option (List (Int × Int))
  | [] => some []
  | e51 :: xs_ =>
    if (!decide (e51 ∈ (x_order.c).l)) then (Option.bind (m_come_to x_order x_done e51) fun r72 => Option.bind (m_leads_c1 x_order x_done xs_) fun rest82 => some (r72 :: rest82)) else m_leads_c1 x_order x_done xs_
def m_leads (x_near : (List (List Int))) (x_order : (T4 Int (VT Int) (VT Int) (Option Int))) (x_stand : (Int × Int)) : Option (List (Int × Int)) :=
  Option.bind (atI x_near x_stand.2) fun t8 =>
  Option.bind (m_leads_c1 x_order x_stand.1 t8) fun l23 =>
  some l23
abbrev N_leads : List Str := ["near", "order", "stand", "done", "house", "other"]
theorem sc_leads : FnScope N_leads ["near", "order", "stand"] (defScope s_leads) := ⟨rfl, rfl, rfl, by decide +kernel, rfl, by decide +kernel, by decide +kernel⟩
def sp_leads (K : PySem.W.Frag) : Sp := fun vs H Q _ => ∃ (F : Hp) (p_x_near : Addr) (ws_x_near : List V) (x_near : (List (List Int))) (v_x_order : V) (x_order : (T4 Int (VT Int) (VT Int) (Option Int))) (v_x_stand : V) (x_stand : (Int × Int)) (r : (List (Int × Int))), vs = [.ref p_x_near, v_x_order, v_x_stand] ∧ Same F H ∧ SqL K H p_x_near ws_x_near ∧ ws_x_near.length ≤ sizeLine ∧ RL K F ws_x_near x_near ∧ ¬ M0 p_x_near ∧ R K F v_x_order x_order ∧ R K F v_x_stand x_stand ∧ m_leads x_near x_order x_stand = some r ∧ (∀ p ws F' H', Gr M0 F H F' H' → H p = none → H' p = some (.lst ws) → F' p = none → ws.length ≤ sizeLine → RL K F' ws r → Q (.ref p) H')
/-! ### first_lists -/
def m_first_lists_l2 (x_houses : (List Int)) : List (Int × Int) → (List ((Int × Int) × (List Int))) → (List (Option (Int × Int))) → (Option ((List ((Int × Int) × (List Int))) × (List (Option (Int × Int)))))
  | [], x_lists, x_waiting => some (x_lists, x_waiting)
  | e232 :: xs_, x_lists, x_waiting =>
    if (!((dval x_lists e232).isSome)) then (Option.bind (conL x_houses ([e232.2] : List Int)) fun t255 =>
 Option.bind (dputO x_lists e232 t255) fun x_lists289 =>
 Option.bind (appL x_waiting (some e232)) fun t300 =>
 m_first_lists_l2 x_houses xs_ x_lists289 t300) else (m_first_lists_l2 x_houses xs_ x_lists x_waiting)
def m_first_lists_l1 (x_order : (T4 Int (VT Int) (VT Int) (Option Int))) (x_near : (List (List Int))) : Nat → (List (Option (Int × Int))) → (List ((Int × Int) × (List Int))) → (Option ((List (Option (Int × Int))) × (List ((Int × Int) × (List Int)))))
  | 0, _, _ => none
  | n_ + 1, x_waiting, x_lists =>
     if (!eqD x_waiting ([] : (List (Option (Int × Int))))) then (bind2 (popI x_waiting (0 : Int)) fun t123 x_waiting124 =>
    Option.bind (t123) fun t139 =>
    Option.bind (dval x_lists t139) fun t142 =>
    Option.bind (if (!(x_order.e).isNone) then (Option.bind (x_order.e) fun t170 => some ((decide (t170 < (((t142).length : Nat) : Int))))) else some false) fun c159 =>
    if c159 then (m_first_lists_l1 x_order x_near n_ x_waiting124 x_lists) else (Option.bind (t123) fun t182 =>
 Option.bind (m_leads x_near x_order t182) fun r185 =>
 bind2 (m_first_lists_l2 t142 r185 x_lists x_waiting124) fun x_lists208 x_waiting209 =>
 m_first_lists_l1 x_order x_near n_ x_waiting209 x_lists208)) else some (x_waiting, x_lists)
def m_first_lists (x_net : (T4 Int Int (List (Int × Int)) (List Int))) (x_broken : (List Int)) (x_door : Int) (x_order : (T4 Int (VT Int) (VT Int) (Option Int))) : Option (List ((Int × Int) × (List Int))) :=
  Option.bind (m_beginning x_net x_door x_order) fun r1 =>
  if (r1).isNone then (some ([] : (List ((Int × Int) × (List Int))))) else (Option.bind (m_nearby x_net x_broken) fun r14 =>
 Option.bind (r1) fun t36 =>
 Option.bind (r1) fun t39 =>
 Option.bind (some ([(t36, ([t39.2] : List Int))] : (List ((Int × Int) × (List Int))))) fun x_lists70 =>
 Option.bind (some ([r1] : List (Option (Int × Int)))) fun x_waiting83 =>
 bind2 (m_first_lists_l1 x_order r14 100000 x_waiting83 x_lists70) fun x_waiting87 x_lists88 =>
 some x_lists88)
abbrev N_first_lists : List Str := ["net", "broken", "door", "order", "begin", "near", "lists", "waiting", "stand", "houses", "other"]
theorem sc_first_lists : FnScope N_first_lists ["net", "broken", "door", "order"] (defScope s_first_lists) := ⟨rfl, rfl, rfl, by decide +kernel, rfl, by decide +kernel, by decide +kernel⟩
def sp_first_lists (K : PySem.W.Frag) : Sp := fun vs H Q _ => ∃ (F : Hp) (v_x_net : V) (x_net : (T4 Int Int (List (Int × Int)) (List Int))) (p_x_broken : Addr) (ws_x_broken : List V) (x_broken : (List Int)) (x_door : Int) (v_x_order : V) (x_order : (T4 Int (VT Int) (VT Int) (Option Int))) (r : (List ((Int × Int) × (List Int)))), vs = [v_x_net, .ref p_x_broken, .int x_door, v_x_order] ∧ Same F H ∧ R K F v_x_net x_net ∧ SqL K H p_x_broken ws_x_broken ∧ ws_x_broken.length ≤ sizeLine ∧ RL K F ws_x_broken x_broken ∧ ¬ M0 p_x_broken ∧ R K F v_x_order x_order ∧ m_first_lists x_net x_broken x_door x_order = some r ∧ (∀ p ws F' H', Gr M0 F H F' H' → H p = none → H' p = some (.dT ws) → F' p = none → ws.length ≤ sizeLine → RD (α := (Int × Int)) (β := (List Int)) K F' ws r → Q (.ref p) H')
/-! ### way -/
def m_way_c1  : List ((Int × Int) × (List Int)) → List (T3 Int Int Int)
  | [] => []
  | e97 :: xs_ => (T3.mk e97.1.1 e97.1.2 (T1.mk ((((e97.2).length : Nat) : Int) - (1 : Int))).a) :: m_way_c1  xs_
def m_way (x_net : (T4 Int Int (List (Int × Int)) (List Int))) (x_broken : (List Int)) (x_door : Int) (x_order : (T4 Int (VT Int) (VT Int) (Option Int))) : Option (Str × ((List Int) ⊕ (List (T3 Int Int Int)))) :=
  Option.bind (m_first_lists x_net x_broken x_door x_order) fun r1 =>
  Option.bind (m_goal_of x_net x_order) fun r16 =>
  if ((dval r1 r16).isSome) then (Option.bind (dval r1 r16) fun t25 =>
 some (("way" : Str), (((Sum.inl) t25) : ((List Int) ⊕ (List (T3 Int Int Int)))))) else (some (("none" : Str), (((Sum.inr) (sortK (m_way_c1  r1))) : ((List Int) ⊕ (List (T3 Int Int Int))))))
abbrev N_way : List Str := ["net", "broken", "door", "order", "lists", "goal", "stand", "houses"]
theorem sc_way : FnScope N_way ["net", "broken", "door", "order"] (defScope s_way) := ⟨rfl, rfl, rfl, by decide +kernel, rfl, by decide +kernel, by decide +kernel⟩
def sp_way (K : PySem.W.Frag) : Sp := fun vs H Q _ => ∃ (F : Hp) (v_x_net : V) (x_net : (T4 Int Int (List (Int × Int)) (List Int))) (p_x_broken : Addr) (ws_x_broken : List V) (x_broken : (List Int)) (x_door : Int) (v_x_order : V) (x_order : (T4 Int (VT Int) (VT Int) (Option Int))) (r : (Str × ((List Int) ⊕ (List (T3 Int Int Int))))), vs = [v_x_net, .ref p_x_broken, .int x_door, v_x_order] ∧ Same F H ∧ R K F v_x_net x_net ∧ SqL K H p_x_broken ws_x_broken ∧ ws_x_broken.length ≤ sizeLine ∧ RL K F ws_x_broken x_broken ∧ ¬ M0 p_x_broken ∧ R K F v_x_order x_order ∧ m_way x_net x_broken x_door x_order = some r ∧ (∀ v F' H', Gr M0 F H F' H' → R K F' v r → Q v H')
/-! ### is_entry -/
def m_is_entry (x_net : (T4 Int Int (List (Int × Int)) (List Int))) (x_order : (T4 Int (VT Int) (VT Int) (Option Int))) (x_entry : (T3 Int Int Int)) : Option Bool :=
  if ((!((decide ((0 : Int) ≤ x_entry.b)) && (decide (x_entry.b < x_net.b)))) || ((decide (x_entry.b ∈ (x_order.c).l)) || (!((decide ((0 : Int) ≤ x_entry.a)) && (decide (x_entry.a ≤ ((((x_order.b).l).length : Nat) : Int))))))) then (some false) else (Option.bind (m_come_to x_order x_entry.a x_entry.b) fun r67 =>
 Option.bind (if (eqD r67 (x_entry.a, x_entry.b)) then (Option.bind (if (decide ((0 : Int) ≤ x_entry.c)) then (Option.bind ((if (x_order.e).isNone then (some (48 : Int)) else x_order.e)) fun t117 => some ((decide (x_entry.c ≤ t117)))) else some false) fun c87 => some (c87)) else some false) fun c82 =>
 some c82)
abbrev N_is_entry : List Str := ["net", "order", "entry", "done", "house", "ties"]
theorem sc_is_entry : FnScope N_is_entry ["net", "order", "entry"] (defScope s_is_entry) := ⟨rfl, rfl, rfl, by decide +kernel, rfl, by decide +kernel, by decide +kernel⟩
def sp_is_entry (K : PySem.W.Frag) : Sp := fun vs H Q _ => ∃ (v_x_net : V) (x_net : (T4 Int Int (List (Int × Int)) (List Int))) (v_x_order : V) (x_order : (T4 Int (VT Int) (VT Int) (Option Int))) (v_x_entry : V) (x_entry : (T3 Int Int Int)) (r : Bool), vs = [v_x_net, v_x_order, v_x_entry] ∧ R K H v_x_net x_net ∧ R K H v_x_order x_order ∧ R K H v_x_entry x_entry ∧ m_is_entry x_net x_order x_entry = some r ∧ (∀ F' H', Gr M0 H H F' H' → Q (.bl r) H')
/-! ### open_entry -/
def m_open_entry_c1  : List (T3 Int Int Int) → List ((Int × Int) × Int)
  | [] => []
  | e28 :: xs_ => ((e28.a, e28.b), e28.c) :: m_open_entry_c1  xs_
def m_open_entry_l3 (x_ties_to : (List ((Int × Int) × Int))) (x_k : Int) (x_ties : Int) : List (Int × Int) → (Option (Lp (Unit) (Lp (Unit) ((Option Int)))))
  | [] => some (.go ())
  | e171 :: xs_ =>
    Option.bind (if (!((dval x_ties_to e171).isSome)) then some true else (Option.bind (dval x_ties_to e171) fun t179 => some ((decide ((x_ties + (1 : Int)) < t179))))) fun c174 =>
    if c174 then (some (.ret (.ret (some x_k)))) else (m_open_entry_l3 x_ties_to x_k x_ties xs_ )
def m_open_entry_l2 (x_near : (List (List Int))) (x_order : (T4 Int (VT Int) (VT Int) (Option Int))) (x_ties_to : (List ((Int × Int) × Int))) : List (Int × (T3 Int Int Int)) → (Option (Lp (Unit) ((Option Int))))
  | [] => some (.go ())
  | e83 :: xs_ =>
    Option.bind (if (x_order.e).isNone then some true else (Option.bind (x_order.e) fun t125 => some ((decide (e83.2.c < t125))))) fun c120 =>
    if c120 then (Option.bind (m_leads x_near x_order (e83.2.a, e83.2.b)) fun r141 =>
 bindL0 (m_open_entry_l3 x_ties_to e83.1 e83.2.c r141 ) (m_open_entry_l2 x_near x_order x_ties_to xs_ ) (fun r_ => some r_)) else (m_open_entry_l2 x_near x_order x_ties_to xs_ )
def m_open_entry (x_near : (List (List Int))) (x_order : (T4 Int (VT Int) (VT Int) (Option Int))) (x_stands : (List (T3 Int Int Int))) : Option (Option Int) :=
  Option.bind (some (dputAll ([] : (List ((Int × Int) × Int))) (m_open_entry_c1  x_stands))) fun x_ties_to61 =>
  bindL0 (m_open_entry_l2 x_near x_order x_ties_to61 (List.zip (rangeL 0 (x_stands).length) x_stands) ) (some (none : (Option Int))) (fun r_ => some r_)
abbrev N_open_entry : List Str := ["near", "order", "stands", "ties_to", "k", "done", "house", "ties", "other"]
theorem sc_open_entry : FnScope N_open_entry ["near", "order", "stands"] (defScope s_open_entry) := ⟨rfl, rfl, rfl, by decide +kernel, rfl, by decide +kernel, by decide +kernel⟩
def sp_open_entry (K : PySem.W.Frag) : Sp := fun vs H Q _ => ∃ (F : Hp) (p_x_near : Addr) (ws_x_near : List V) (x_near : (List (List Int))) (v_x_order : V) (x_order : (T4 Int (VT Int) (VT Int) (Option Int))) (p_x_stands : Addr) (ws_x_stands : List V) (x_stands : (List (T3 Int Int Int))) (r : (Option Int)), vs = [.ref p_x_near, v_x_order, .ref p_x_stands] ∧ Same F H ∧ SqL K H p_x_near ws_x_near ∧ ws_x_near.length ≤ sizeLine ∧ RL K F ws_x_near x_near ∧ ¬ M0 p_x_near ∧ R K F v_x_order x_order ∧ SqL K H p_x_stands ws_x_stands ∧ ws_x_stands.length ≤ sizeLine ∧ RL K F ws_x_stands x_stands ∧ ¬ M0 p_x_stands ∧ m_open_entry x_near x_order x_stands = some r ∧ (∀ v F' H', Gr M0 F H F' H' → R K F' v r → Q v H')
/-! ### none_fault -/
def m_none_fault_l1 (x_net : (T4 Int Int (List (Int × Int)) (List Int))) (x_order : (T4 Int (VT Int) (VT Int) (Option Int))) (x_stands : (List (T3 Int Int Int))) : List (Int × (T3 Int Int Int)) → (Option (Lp (Unit) ((Option ((T1 Str) ⊕ (Str × Int))))))
  | [] => some (.go ())
  | e15 :: xs_ =>
    Option.bind (m_is_entry x_net x_order e15.2) fun r30 =>
    Option.bind (if (!r30) then some true else (Option.bind (if (decide ((0 : Int) < e15.1)) then (Option.bind (atI x_stands (e15.1 - (1 : Int))) fun t75 => some ((!ltD (t75.a, t75.b) (e15.2.a, e15.2.b)))) else some false) fun c42 => some (c42))) fun c37 =>
    if c37 then (some (.ret (some (((Sum.inr) (("order" : Str), e15.1)) : ((T1 Str) ⊕ (Str × Int)))))) else (m_none_fault_l1 x_net x_order x_stands xs_ )
def m_none_fault_l2 (x_net : (T4 Int Int (List (Int × Int)) (List Int))) (x_order : (T4 Int (VT Int) (VT Int) (Option Int))) : List (Int × (T3 Int Int Int)) → (Option (Lp (Unit) ((Option ((T1 Str) ⊕ (Str × Int))))))
  | [] => some (.go ())
  | e220 :: xs_ =>
    Option.bind (m_goal_of x_net x_order) fun r261 =>
    if (eqD (e220.2.a, e220.2.b) r261) then (some (.ret (some (((Sum.inr) (("goal" : Str), e220.1)) : ((T1 Str) ⊕ (Str × Int)))))) else (m_none_fault_l2 x_net x_order xs_ )
def m_none_fault (x_net : (T4 Int Int (List (Int × Int)) (List Int))) (x_broken : (List Int)) (x_door : Int) (x_order : (T4 Int (VT Int) (VT Int) (Option Int))) (x_stands : (List (T3 Int Int Int))) : Option (Option ((T1 Str) ⊕ (Str × Int))) :=
  bindL0 (m_none_fault_l1 x_net x_order x_stands (List.zip (rangeL 0 (x_stands).length) x_stands) ) (Option.bind (m_beginning x_net x_door x_order) fun r135 =>
 if (r135).isNone then (some (((if (eqD x_stands ([] : (List (T3 Int Int Int)))) then (none : (Option (T1 Str))) else (some (T1.mk ("start" : Str))))).map (Sum.inl : (T1 Str) → ((T1 Str) ⊕ (Str × Int))))) else (Option.bind (r135) fun t178 =>
 if (!inD (T3.mk t178.1 t178.2 (T1.mk (0 : Int)).a) x_stands) then (some (some (((Sum.inl) (T1.mk ("start" : Str))) : ((T1 Str) ⊕ (Str × Int))))) else (bindL0 (m_none_fault_l2 x_net x_order (List.zip (rangeL 0 (x_stands).length) x_stands) ) (Option.bind (m_nearby x_net x_broken) fun r285 =>
 Option.bind (m_open_entry r285 x_order x_stands) fun r300 =>
 Option.bind (if (r300).isNone then ( some ((none : (Option (Str × Int))))) else (Option.bind (r300) fun t316 => some ((some (("step" : Str), t316))))) fun c309 =>
 some ((c309).map (Sum.inr : (Str × Int) → ((T1 Str) ⊕ (Str × Int))))) (fun r_ => some r_)))) (fun r_ => some r_)
abbrev N_none_fault : List Str := ["net", "broken", "door", "order", "stands", "k", "entry", "begin"]
theorem sc_none_fault : FnScope N_none_fault ["net", "broken", "door", "order", "stands"] (defScope s_none_fault) := ⟨rfl, rfl, rfl, by decide +kernel, rfl, by decide +kernel, by decide +kernel⟩
def sp_none_fault (K : PySem.W.Frag) : Sp := fun vs H Q _ => ∃ (F : Hp) (v_x_net : V) (x_net : (T4 Int Int (List (Int × Int)) (List Int))) (p_x_broken : Addr) (ws_x_broken : List V) (x_broken : (List Int)) (x_door : Int) (v_x_order : V) (x_order : (T4 Int (VT Int) (VT Int) (Option Int))) (p_x_stands : Addr) (ws_x_stands : List V) (x_stands : (List (T3 Int Int Int))) (r : (Option ((T1 Str) ⊕ (Str × Int)))), vs = [v_x_net, .ref p_x_broken, .int x_door, v_x_order, .ref p_x_stands] ∧ Same F H ∧ R K F v_x_net x_net ∧ SqL K H p_x_broken ws_x_broken ∧ ws_x_broken.length ≤ sizeLine ∧ RL K F ws_x_broken x_broken ∧ ¬ M0 p_x_broken ∧ R K F v_x_order x_order ∧ SqL K H p_x_stands ws_x_stands ∧ ws_x_stands.length ≤ sizeLine ∧ RL K F ws_x_stands x_stands ∧ ¬ M0 p_x_stands ∧ m_none_fault x_net x_broken x_door x_order x_stands = some r ∧ (∀ v F' H', Gr M0 F H F' H' → R K F' v r → Q v H')
/-! ### l_liked -/
def m_l_liked (y_style : Int) (y_pair : (Int × Int)) (y_homes : Int) : Option Bool :=
  Option.bind (some (y_pair.2 - y_pair.1)) fun y_apart8 =>
  if (eqI y_style (1 : Int)) then (some (eqI y_apart8 (1 : Int))) else (if (eqI y_style (2 : Int)) then (some (decide (y_apart8 ∈ ([(1 : Int), (y_homes - (1 : Int))] : List Int)))) else (some ((eqI y_style (3 : Int)) && ((eqI y_apart8 (4 : Int)) || ((eqI y_apart8 (1 : Int)) && (decide ((0 : Int) < (y_pair.2 % (4 : Int)))))))))
abbrev N_l_liked : List Str := ["_law_style", "_law_pair", "_law_homes", "_law_apart"]
theorem sc_l_liked : FnScope N_l_liked ["_law_style", "_law_pair", "_law_homes"] (defScope s_l_liked) := ⟨rfl, rfl, rfl, by decide +kernel, rfl, by decide +kernel, by decide +kernel⟩
def sp_l_liked (K : PySem.W.Frag) : Sp := fun vs H Q _ => ∃ (y_style : Int) (v_y_pair : V) (y_pair : (Int × Int)) (y_homes : Int) (r : Bool), vs = [.int y_style, v_y_pair, .int y_homes] ∧ R K H v_y_pair y_pair ∧ m_l_liked y_style y_pair y_homes = some r ∧ (∀ F' H', Gr M0 H H F' H' → Q (.bl r) H')
/-! ### l_town_drawn -/
def m_l_town_drawn_c1 (y_homes : Int) : List Int → Option (List (Int × Int))
  | [] => some []
  | e84 :: xs_ =>
    Option.bind (divI e84 y_homes) fun t86 =>
    Option.bind (modI e84 y_homes) fun t89 =>
    if (decide (t86 < t89)) then (Option.bind (divI e84 y_homes) fun t92 => Option.bind (modI e84 y_homes) fun t95 => Option.bind (m_l_town_drawn_c1 y_homes xs_) fun rest110 => some ((t92, t95) :: rest110)) else m_l_town_drawn_c1 y_homes xs_
def m_l_town_drawn_c2 (y_homes : Int) (y_style : Int) : List (Int × Int) → Option (List (Int × Int))
  | [] => some []
  | e176 :: xs_ =>
    Option.bind (m_l_liked y_style e176 y_homes) fun r179 =>
    if r179 then (Option.bind (m_l_town_drawn_c2 y_homes y_style xs_) fun rest191 => some (e176 :: rest191)) else m_l_town_drawn_c2 y_homes y_style xs_
def m_l_town_drawn_c3 (y_some : (List (Int × Int))) : List (Int × Int) → List (Int × Int)
  | [] => []
  | e258 :: xs_ => if (!inD e258 y_some) then e258 :: m_l_town_drawn_c3 y_some xs_ else m_l_town_drawn_c3 y_some xs_
def m_l_town_drawn_l4  : List Int → (List (Int × Int)) → (List (Int × Int)) → Bag → (Option ((List (Int × Int)) × (List (Int × Int)) × Bag))
  | [], y_some, y_left, b => some (y_some, y_left, b)
  | e331 :: xs_, y_some, y_left, b =>
    bind2 (m_l_draw b (((y_left).length : Nat) : Int)) fun r333 b334 =>
    bind2 (popI y_left r333) fun t344 y_left345 =>
    Option.bind (appL y_some t344) fun t359 =>
    m_l_town_drawn_l4  xs_ t359 y_left345 b334
def m_l_town_drawn_c5  : List Int → (List (Int × Int)) → Bag → Option (List (Int × Int) × (List (Int × Int)) × Bag)
  | [], y_some, b => some ([], y_some, b)
  | e427 :: xs_, y_some, b =>
    bind2 (m_l_draw b (((y_some).length : Nat) : Int)) fun r429 b430 =>
    bind2 (popI y_some r429) fun t441 y_some442 =>
    bind3 (m_l_town_drawn_c5  xs_ y_some442 b430) fun rest458 y_some459 b460 => some (t441 :: rest458, y_some459, b460)
def m_l_town_drawn_c6 (y_homes : Int) : List Int → Bag → Option (List Int × Bag)
  | [], b => some ([], b)
  | e538 :: xs_, b =>
    bind2 (m_l_draw b y_homes) fun r540 b541 =>
    bind2 (m_l_town_drawn_c6 y_homes xs_ b541) fun rest554 b555 => some (r540 :: rest554, b555)
def m_l_town_drawn (b : Bag)  : Option ((T4 Int Int (List (Int × Int)) (List Int)) × Bag) :=
  bind2 (m_l_draw b (4 : Int)) fun r1 b2 =>
  bind2 (m_l_draw b2 (12 : Int)) fun r10 b11 =>
  bind2 (m_l_draw b11 (3 : Int)) fun r26 b27 =>
  Option.bind (atI ([((1 : Int) + r1), ((1 : Int) + r10), (12 : Int)] : List Int) r26) fun t36 =>
  bind2 (m_l_draw b27 (4 : Int)) fun r41 b42 =>
  Option.bind (mulI t36 t36) fun t51 =>
  Option.bind (rangeO1 t51) fun l54 =>
  Option.bind (m_l_town_drawn_c1 t36 l54) fun l65 =>
  Option.bind (m_l_town_drawn_c2 t36 r41 l65) fun l142 =>
  Option.bind (some (m_l_town_drawn_c3 l142 l65)) fun y_left286 =>
  bind2 (m_l_draw b42 ((21 : Int) - (((l142).length : Nat) : Int))) fun r290 b291 =>
  Option.bind (rangeO1 (if r290 < (((y_left286).length : Nat) : Int) then r290 else (((y_left286).length : Nat) : Int))) fun l303 =>
  bind3 (m_l_town_drawn_l4  l303 l142 y_left286 b291) fun y_some306 y_left307 b308 =>
  Option.bind (rangeO1 (((y_some306).length : Nat) : Int)) fun l387 =>
  bind3 (m_l_town_drawn_c5  l387 y_some306 b308) fun l400 y_some402 b401 =>
  bind2 (m_l_draw b401 (8 : Int)) fun r488 b489 =>
  Option.bind (rangeO1 ((1 : Int) + r488)) fun l500 =>
  bind2 (m_l_town_drawn_c6 t36 l500 b489) fun l515 b516 =>
  bind2 (m_l_draw b516 (30 : Int)) fun r581 b582 =>
  some ((T4.mk ((1 : Int) + r581) t36 l400 l515), b582)
abbrev N_l_town_drawn : List Str := ["_law_bag_here", "_law_homes", "_law_style", "_law_pairs", "_law_some", "_law_left", "_law_k", "_law_ties", "_law_doors", "_law_pair"]
theorem sc_l_town_drawn : FnScope N_l_town_drawn ["_law_bag_here"] (defScope s_l_town_drawn) := ⟨rfl, rfl, rfl, by decide +kernel, rfl, by decide +kernel, by decide +kernel⟩
def sp_l_town_drawn (K : PySem.W.Frag) : Sp := fun vs H Q _ => ∃ (F : Hp) (B C : Addr) (b : Bag) (r : (T4 Int Int (List (Int × Int)) (List Int))) (b' : Bag), vs = [.ref B] ∧ Same F H ∧ BagAt F H B C b ∧ m_l_town_drawn b  = some (r, b') ∧ (∀ v F' H', Gr (Bc B C) F H F' H' → BagAt F' H' B C b' → R K F' v r → Q v H')
/-! ### l_torn_drawn -/
def m_l_torn_drawn_c1 (y_often : Int) : List Int → Bag → Option (List Int × Bag)
  | [], b => some ([], b)
  | e72 :: xs_, b =>
    bind2 (if (decide ((0 : Int) < y_often)) then (bind2 (m_l_draw b y_often) fun r79 b80 => some ((eqI r79 (0 : Int)), b80)) else some (false, b)) fun c74 b76 =>
    if c74 then (bind2 (m_l_torn_drawn_c1 y_often xs_ b76) fun rest99 b100 => some (e72 :: rest99, b100)) else m_l_torn_drawn_c1 y_often xs_ b76
def m_l_torn_drawn (b : Bag) (y_town : (T4 Int Int (List (Int × Int)) (List Int))) : Option ((List Int) × Bag) :=
  bind2 (m_l_draw b (4 : Int)) fun r8 b9 =>
  Option.bind (atI ([(0 : Int), (0 : Int), (8 : Int), (3 : Int)] : List Int) r8) fun t18 =>
  Option.bind (rangeO1 (((y_town.c).length : Nat) : Int)) fun l40 =>
  bind2 (m_l_torn_drawn_c1 t18 l40 b9) fun l51 b52 =>
  some (l51, b52)
abbrev N_l_torn_drawn : List Str := ["_law_bag_here", "_law_town", "_law_often", "_law_k"]
theorem sc_l_torn_drawn : FnScope N_l_torn_drawn ["_law_bag_here", "_law_town"] (defScope s_l_torn_drawn) := ⟨rfl, rfl, rfl, by decide +kernel, rfl, by decide +kernel, by decide +kernel⟩
def sp_l_torn_drawn (K : PySem.W.Frag) : Sp := fun vs H Q _ => ∃ (F : Hp) (B C : Addr) (b : Bag) (v_y_town : V) (y_town : (T4 Int Int (List (Int × Int)) (List Int))) (r : (List Int)) (b' : Bag), vs = [.ref B, v_y_town] ∧ Same F H ∧ BagAt F H B C b ∧ R K F v_y_town y_town ∧ m_l_torn_drawn b y_town = some (r, b') ∧ (∀ p ws F' H', Gr (Bc B C) F H F' H' → BagAt F' H' B C b' → H p = none → H' p = some (.lst ws) → F' p = none → ws.length ≤ sizeLine → RL K F' ws r → Q (.ref p) H')
/-! ### l_want_drawn -/
def m_l_want_drawn_l1 (y_town : (T4 Int Int (List (Int × Int)) (List Int))) : List Int → (List Int) → Bag → (Option ((List Int) × Bag))
  | [], y_by, b => some (y_by, b)
  | e41 :: xs_, y_by, b =>
    bind2 (m_l_draw b y_town.b) fun r54 b55 =>
    Option.bind (if (eqD y_by ([] : (List Int))) then some true else (Option.bind (atI y_by (-(1 : Int))) fun t80 => some ((neI t80 r54)))) fun c75 =>
    if c75 then (Option.bind (appL y_by r54) fun t93 =>
 m_l_want_drawn_l1 y_town xs_ t93 b55) else (m_l_want_drawn_l1 y_town xs_ y_by b55)
def m_l_want_drawn_c2 (y_town : (T4 Int Int (List (Int × Int)) (List Int))) : List Int → Bag → Option (List Int × Bag)
  | [], b => some ([], b)
  | e177 :: xs_, b =>
    bind2 (m_l_draw b y_town.b) fun r190 b191 =>
    bind2 (m_l_want_drawn_c2 y_town xs_ b191) fun rest203 b204 => some (r190 :: rest203, b204)
def m_l_want_drawn (b : Bag) (y_town : (T4 Int Int (List (Int × Int)) (List Int))) : Option ((T4 Int (VT Int) (VT Int) (Option Int)) × Bag) :=
  bind2 (m_l_draw b (4 : Int)) fun r8 b9 =>
  Option.bind (rangeO1 r8) fun l18 =>
  bind2 (m_l_want_drawn_l1 y_town l18 ([] : List Int) b9) fun y_by21 b22 =>
  bind2 (m_l_draw b22 (4 : Int)) fun r126 b127 =>
  Option.bind (atI ([(0 : Int), (0 : Int), (1 : Int), (3 : Int)] : List Int) r126) fun t137 =>
  Option.bind (rangeO1 t137) fun l142 =>
  bind2 (m_l_want_drawn_c2 y_town l142 b127) fun l155 b156 =>
  Option.bind (ssetO l155) fun t228 =>
  bind2 (m_l_draw b156 (7 : Int)) fun r249 b250 =>
  bind2 (m_l_draw b250 (49 : Int)) fun r262 b263 =>
  bind2 (m_l_draw b263 (5 : Int)) fun r290 b291 =>
  Option.bind (atI ([(none : (Option Int)), (none : (Option Int)), (some r249), (some r262), (some (((10 : Int) ^ (9 : Int).toNat) - (1 : Int)))] : List (Option Int)) r290) fun t304 =>
  bind2 (m_l_draw b291 (((y_town.e).length : Nat) : Int)) fun r326 b327 =>
  some ((T4.mk r326 (VT.mk y_by21) (VT.mk t228) t304), b327)
abbrev N_l_want_drawn : List Str := ["_law_bag_here", "_law_town", "_law_by", "_law_k", "_law_house", "_law_past", "_law_most"]
theorem sc_l_want_drawn : FnScope N_l_want_drawn ["_law_bag_here", "_law_town"] (defScope s_l_want_drawn) := ⟨rfl, rfl, rfl, by decide +kernel, rfl, by decide +kernel, by decide +kernel⟩
def sp_l_want_drawn (K : PySem.W.Frag) : Sp := fun vs H Q _ => ∃ (F : Hp) (B C : Addr) (b : Bag) (v_y_town : V) (y_town : (T4 Int Int (List (Int × Int)) (List Int))) (r : (T4 Int (VT Int) (VT Int) (Option Int))) (b' : Bag), vs = [.ref B, v_y_town] ∧ Same F H ∧ BagAt F H B C b ∧ R K F v_y_town y_town ∧ m_l_want_drawn b y_town = some (r, b') ∧ (∀ v F' H', Gr (Bc B C) F H F' H' → BagAt F' H' B C b' → R K F' v r → Q v H')
/-! ### l_within -/
def m_l_within (y_want : (T4 Int (VT Int) (VT Int) (Option Int))) (y_most : Int) : (T4 Int (VT Int) (VT Int) (Option Int)) :=
  (T4.mk y_want.a y_want.b y_want.c (some y_most))
abbrev N_l_within : List Str := ["_law_want", "_law_most"]
theorem sc_l_within : FnScope N_l_within ["_law_want", "_law_most"] (defScope s_l_within) := ⟨rfl, rfl, rfl, by decide +kernel, rfl, by decide +kernel, by decide +kernel⟩
def sp_l_within (K : PySem.W.Frag) : Sp := fun vs H Q _ => ∃ (F : Hp) (v_y_want : V) (y_want : (T4 Int (VT Int) (VT Int) (Option Int))) (y_most : Int), vs = [v_y_want, .int y_most] ∧ Same F H ∧ R K F v_y_want y_want ∧ (∀ v F' H', Gr M0 F H F' H' → R K F' v (m_l_within y_want y_most) → Q v H')
/-! ### l_few -/
def m_l_few_c1 (y_most : Int) : List (T3 Int Int Int) → List (T3 Int Int Int)
  | [] => []
  | e45 :: xs_ => if (decide (e45.c ≤ y_most)) then e45 :: m_l_few_c1 y_most xs_ else m_l_few_c1 y_most xs_
def m_l_few (y_told : (Str × ((List Int) ⊕ (List (T3 Int Int Int))))) (y_most : Int) : Option (Str × ((List Int) ⊕ (List (T3 Int Int Int)))) :=
  Option.bind (getR y_told.2) fun t9 =>
  some (("none" : Str), (((Sum.inr) (m_l_few_c1 y_most t9)) : ((List Int) ⊕ (List (T3 Int Int Int)))))
abbrev N_l_few : List Str := ["_law_told", "_law_most", "_law_one"]
theorem sc_l_few : FnScope N_l_few ["_law_told", "_law_most"] (defScope s_l_few) := ⟨rfl, rfl, rfl, by decide +kernel, rfl, by decide +kernel, by decide +kernel⟩
def sp_l_few (K : PySem.W.Frag) : Sp := fun vs H Q _ => ∃ (F : Hp) (v_y_told : V) (y_told : (Str × ((List Int) ⊕ (List (T3 Int Int Int))))) (y_most : Int) (r : (Str × ((List Int) ⊕ (List (T3 Int Int Int))))), vs = [v_y_told, .int y_most] ∧ Same F H ∧ R K F v_y_told y_told ∧ m_l_few y_told y_most = some r ∧ (∀ v F' H', Gr M0 F H F' H' → R K F' v r → Q v H')
/-! ### l_fewer_right -/
def m_l_fewer_right_l1 (y_town : (T4 Int Int (List (Int × Int)) (List Int))) (y_torn : (List Int)) (y_gate : Int) (y_want : (T4 Int (VT Int) (VT Int) (Option Int))) (y_told : (Str × ((List Int) ⊕ (List (T3 Int Int Int))))) (y_ties : Int) : List Int → Bag → (Option (Lp (Bag) (Bool × Bag)))
  | [], b => some (.go b)
  | e85 :: xs_, b =>
    Option.bind (m_way y_town y_torn y_gate (m_l_within y_want (if e85 > y_ties then e85 else y_ties))) fun r97 =>
    if (!eqD r97 y_told) then (some (.ret (false, b))) else (m_l_fewer_right_l1 y_town y_torn y_gate y_want y_told y_ties xs_ b)
def m_l_fewer_right_l2 (y_town : (T4 Int Int (List (Int × Int)) (List Int))) (y_torn : (List Int)) (y_gate : Int) (y_want : (T4 Int (VT Int) (VT Int) (Option Int))) (y_nearly : (Str × ((List Int) ⊕ (List (T3 Int Int Int))))) : List Int → Bag → (Option (Lp (Bag) (Bool × Bag)))
  | [], b => some (.go b)
  | e173 :: xs_, b =>
    Option.bind (m_way y_town y_torn y_gate (m_l_within y_want e173)) fun r185 =>
    Option.bind (if (neS r185.1 ("none" : Str)) then some true else (Option.bind (m_l_few y_nearly e173) fun r208 => some ((!eqD r185 r208)))) fun c203 =>
    if c203 then (some (.ret (false, b))) else (Option.bind (getR r185.2) fun t237 =>
 Option.bind (m_none_fault y_town y_torn y_gate (m_l_within y_want e173) t237) fun r246 =>
 if (!(r246).isNone) then (some (.ret (false, b))) else (Option.bind (getR r185.2) fun t256 =>
 Option.bind (m_none_fault y_town y_torn y_gate y_want t256) fun r265 =>
 if (r265).isNone then (some (.ret (false, b))) else (m_l_fewer_right_l2 y_town y_torn y_gate y_want y_nearly xs_ b)))
def m_l_fewer_right (b : Bag) (y_town : (T4 Int Int (List (Int × Int)) (List Int))) (y_torn : (List Int)) (y_gate : Int) (y_want : (T4 Int (VT Int) (VT Int) (Option Int))) (y_told : (Str × ((List Int) ⊕ (List (T3 Int Int Int))))) : Option (Bool × Bag) :=
  Option.bind (some (((lenA (y_told.2) : Nat) : Int) - (1 : Int))) fun y_ties14 =>
  if (eqS y_told.1 ("none" : Str)) then (bind2 (m_l_draw b (12 : Int)) fun r17 b18 =>
 Option.bind (m_way y_town y_torn y_gate (m_l_within y_want r17)) fun r34 =>
 Option.bind (m_l_few y_told r17) fun r43 =>
 some ((eqD r34 r43), b18)) else (bind2 (m_l_draw b (9 : Int)) fun r54 b55 =>
 bindL1 (m_l_fewer_right_l1 y_town y_torn y_gate y_want y_told y_ties14 ([y_ties14, ((y_ties14 + (1 : Int)) + r54), (48 : Int), (((10 : Int) ^ (9 : Int).toNat) - (1 : Int))] : List Int) b55) (fun b70 => if (eqI y_ties14 (0 : Int)) then (some (true, b70)) else (Option.bind (m_way y_town y_torn y_gate (m_l_within y_want (y_ties14 - (1 : Int)))) fun r128 =>
 bind2 (m_l_draw b70 y_ties14) fun r138 b139 =>
 bindL1 (m_l_fewer_right_l2 y_town y_torn y_gate y_want r128 ([(y_ties14 - (1 : Int)), r138] : List Int) b139) (fun b157 => some (true, b157)) (fun r_ => some r_))) (fun r_ => some r_))
abbrev N_l_fewer_right : List Str := ["_law_bag_here", "_law_town", "_law_torn", "_law_gate", "_law_want", "_law_told", "_law_ties", "_law_most", "_law_nearly", "_law_found"]
theorem sc_l_fewer_right : FnScope N_l_fewer_right ["_law_bag_here", "_law_town", "_law_torn", "_law_gate", "_law_want", "_law_told"] (defScope s_l_fewer_right) := ⟨rfl, rfl, rfl, by decide +kernel, rfl, by decide +kernel, by decide +kernel⟩
def sp_l_fewer_right (K : PySem.W.Frag) : Sp := fun vs H Q _ => ∃ (F : Hp) (B C : Addr) (b : Bag) (v_y_town : V) (y_town : (T4 Int Int (List (Int × Int)) (List Int))) (p_y_torn : Addr) (ws_y_torn : List V) (y_torn : (List Int)) (y_gate : Int) (v_y_want : V) (y_want : (T4 Int (VT Int) (VT Int) (Option Int))) (v_y_told : V) (y_told : (Str × ((List Int) ⊕ (List (T3 Int Int Int))))) (r : Bool) (b' : Bag), vs = [.ref B, v_y_town, .ref p_y_torn, .int y_gate, v_y_want, v_y_told] ∧ Same F H ∧ BagAt F H B C b ∧ R K F v_y_town y_town ∧ SqL K H p_y_torn ws_y_torn ∧ ws_y_torn.length ≤ sizeLine ∧ RL K F ws_y_torn y_torn ∧ (∀ F' H', Gr (Bc B C) F H F' H' → SqL K H' p_y_torn ws_y_torn) ∧ R K F v_y_want y_want ∧ R K F v_y_told y_told ∧ m_l_fewer_right b y_town y_torn y_gate y_want y_told = some (r, b') ∧ (∀ F' H', Gr (Bc B C) F H F' H' → BagAt F' H' B C b' → Q (.bl r) H')
/-! ### l_past_right -/
def m_l_past_right_c1  : List (T3 Int Int Int) → List ((Int × Int) × Int)
  | [] => []
  | e264 :: xs_ => ((e264.a, e264.b), e264.c) :: m_l_past_right_c1  xs_
def m_l_past_right_c2 (y_known : (List ((Int × Int) × Int))) : List (T3 Int Int Int) → List (T3 Int Int Int)
  | [] => []
  | e415 :: xs_ => if (decide (e415.c < ((dval y_known (e415.a, e415.b)).getD (100 : Int)))) then e415 :: m_l_past_right_c2 y_known xs_ else m_l_past_right_c2 y_known xs_
def m_l_past_right (b : Bag) (y_town : (T4 Int Int (List (Int × Int)) (List Int))) (y_torn : (List Int)) (y_gate : Int) (y_want : (T4 Int (VT Int) (VT Int) (Option Int))) (y_told : (Str × ((List Int) ⊕ (List (T3 Int Int Int))))) : Option (Bool × Bag) :=
  bind2 (m_l_draw b y_town.b) fun r12 b13 =>
  Option.bind (conV y_want.c (VT.mk [(T1.mk r12).a] : (VT Int))) fun t45 =>
  Option.bind (ssetO (t45).l) fun t79 =>
  Option.bind (m_way y_town y_torn y_gate (T4.mk y_want.a y_want.b (VT.mk t79) y_want.e)) fun r113 =>
  Option.bind (if (eqS y_told.1 ("way" : Str)) then (Option.bind (getL y_told.2) fun t136 => some ((!decide (r12 ∈ t136)))) else some false) fun c131 =>
  if c131 then (some ((eqD r113 y_told), b13)) else (if (eqS y_told.1 ("way" : Str)) then (Option.bind (if (eqS r113.1 ("none" : Str)) then some true else (Option.bind (getL r113.2) fun t167 => Option.bind (getL r113.2) fun t176 => Option.bind (getL y_told.2) fun t189 => Option.bind (getL y_told.2) fun t198 => some ((ltD ((((t189).length : Nat) : Int), t198) ((((t167).length : Nat) : Int), t176))))) fun c162 =>
 some (c162, b13)) else (Option.bind (getR y_told.2) fun t220 =>
 Option.bind (some (dputAll ([] : (List ((Int × Int) × Int))) (m_l_past_right_c1  t220))) fun y_known343 =>
 Option.bind (if (eqS r113.1 ("none" : Str)) then (Option.bind (getR r113.2) fun t360 => some ((eqD (m_l_past_right_c2 y_known343 t360) ([] : (List (T3 Int Int Int)))))) else some false) fun c355 =>
 some (c355, b13)))
abbrev N_l_past_right : List Str := ["_law_bag_here", "_law_town", "_law_torn", "_law_gate", "_law_want", "_law_told", "_law_house", "_law_more", "_law_known", "_law_one"]
theorem sc_l_past_right : FnScope N_l_past_right ["_law_bag_here", "_law_town", "_law_torn", "_law_gate", "_law_want", "_law_told"] (defScope s_l_past_right) := ⟨rfl, rfl, rfl, by decide +kernel, rfl, by decide +kernel, by decide +kernel⟩
def sp_l_past_right (K : PySem.W.Frag) : Sp := fun vs H Q _ => ∃ (F : Hp) (B C : Addr) (b : Bag) (v_y_town : V) (y_town : (T4 Int Int (List (Int × Int)) (List Int))) (p_y_torn : Addr) (ws_y_torn : List V) (y_torn : (List Int)) (y_gate : Int) (v_y_want : V) (y_want : (T4 Int (VT Int) (VT Int) (Option Int))) (v_y_told : V) (y_told : (Str × ((List Int) ⊕ (List (T3 Int Int Int))))) (r : Bool) (b' : Bag), vs = [.ref B, v_y_town, .ref p_y_torn, .int y_gate, v_y_want, v_y_told] ∧ Same F H ∧ BagAt F H B C b ∧ R K F v_y_town y_town ∧ SqL K H p_y_torn ws_y_torn ∧ ws_y_torn.length ≤ sizeLine ∧ RL K F ws_y_torn y_torn ∧ (∀ F' H', Gr (Bc B C) F H F' H' → SqL K H' p_y_torn ws_y_torn) ∧ R K F v_y_want y_want ∧ R K F v_y_told y_told ∧ m_l_past_right b y_town y_torn y_gate y_want y_told = some (r, b') ∧ (∀ F' H', Gr (Bc B C) F H F' H' → BagAt F' H' B C b' → Q (.bl r) H')
/-! ### law -/
def m_law_l2 (y_town : (T4 Int Int (List (Int × Int)) (List Int))) (y_torn : (List Int)) : List Int → Bag → (Option (Lp (Bag) (Lp (Bag) (Bool × Bag))))
  | [], b => some (.go b)
  | e69 :: xs_, b =>
    bind2 (m_l_draw b (((y_town.e).length : Nat) : Int)) fun r88 b89 =>
    bind2 (m_l_want_drawn b89 y_town) fun r98 b99 =>
    Option.bind (some (T4.mk r98.a r98.b (VT.mk (cutL (r98.c).l none (some (2 : Int)))) (none : (Option Int)))) fun y_want146 =>
    Option.bind (m_way y_town y_torn r88 y_want146) fun r150 =>
    bind2 (m_l_fewer_right b99 y_town y_torn r88 y_want146 r150) fun r160 b161 =>
    if (!r160) then (some (.ret (.ret (false, b161)))) else (bind2 (m_l_past_right b161 y_town y_torn r88 y_want146 r150) fun r171 b172 =>
 if (!r171) then (some (.ret (.ret (false, b172)))) else (m_law_l2 y_town y_torn xs_ b172))
def m_law_l1  : List Int → Bag → (Option (Lp (Bag) (Bool × Bag)))
  | [], b => some (.go b)
  | e21 :: xs_, b =>
    bind2 (m_l_town_drawn b ) fun r23 b24 =>
    bind2 (m_l_torn_drawn b24 r23) fun r33 b34 =>
    bindL1 (m_law_l2 r23 r33 (rangeL (0 : Int) 2) b34) (fun b51 => m_law_l1  xs_ b51) (fun r_ => some r_)
def m_law (b : Bag)  : Option (Bool × Bag) :=
  bindL1 (m_law_l1  (rangeL (0 : Int) 6) b) (fun b1 => some (true, b1)) (fun r_ => some r_)
abbrev N_law : List Str := ["_law_script", "_law_bag_here", "_law_turn", "_law_town", "_law_torn", "_law_k", "_law_gate", "_law_want", "_law_told"]
theorem sc_law : FnScope N_law ["_law_script"] (defScope s_law) := ⟨rfl, rfl, rfl, by decide +kernel, rfl, by decide +kernel, by decide +kernel⟩
def sp_law (K : PySem.W.Frag) : Sp := fun vs H Q _ => ∃ (a : Addr) (ns : List Int), vs = [.ref a] ∧ SqL K H a (ns.map V.int) ∧ ns.length ≤ 63 ∧ (∀ H', Q (.bl true) H')

end K28
namespace K28
open PySem PySem.Spec PyProof.Rows L2 TL G
theorem ok_whole_pairs {P : Program} {w : World} {K : PySem.W.Frag} {mg : Str → Option Value} {base : Heap} (T : Txt K mg) : FnOk P w K mg base CX0 1 T.a_whole_pairs T.d_whole_pairs ["net", "broken"] (sp_whole_pairs K) := by
  refine fd_ok T.F_whole_pairs sc_whole_pairs (fun vs H Q E h => ?_) (fun cdv A outer s H0 vs Q E hr h => ?_)
  · obtain ⟨_, _, _, _, _, _, rfl, _⟩ := h
    rfl
  · obtain ⟨F0, v_x_net, x_net, p_x_broken, ws_x_broken, x_broken, rfl, hS0, r_x_net, hS_x_broken, hl_x_broken, hA_x_broken, nm_x_broken, hQ⟩ := h
    refine ⟨_, (pss_one (ps_ret (pe_lc (own := [("number", 2), ("pair", 3)]) rfl sc_whole_pairs.nd (pi_enumK (by rfl) T.n_enumerate (pa_cons (pe_ix (ix_tupK (K := K)) (pv 0) pe_int (fun _ _ => rfl)) pa_nil)) (blkOk_by (own := [("number", 2), ("pair", 3)]) (N := N_whole_pairs) (sc := defScope s_whole_pairs) (by decide +kernel)) (fun _ _ _ _ _ => (pg_tupK (K := K) 2 rfl (pgs_cons (pg_name (i := 2) sc_whole_pairs.nd rfl (Or.inl rfl) (.inr rfl)) (pgs_cons (pg_name (i := 3) sc_whole_pairs.nd rfl (Or.inl rfl) (.inr rfl)) pgs_nil)))) (fun _ _ _ _ _ => (pts_one (pt_cmpR (op_notInI (K := K)) (pv 2) (pv 1) rfl))) (fun _ _ _ _ _ => (pv 3))))), ?_⟩
    have g0 : Gr M0 F0 H0 F0 H0 := Gr.refl hS0
    unfold m_whole_pairs at hQ
    refine p_ret ?_
    obtain ⟨p1, v4, v5, v6, v7, ev2, hS3, r8, r9, r10, r11⟩ := R.p4_v r_x_net
    obtain rfl := R.int_v r8
    obtain rfl := R.int_v r9
    obtain ⟨p12, ws13, ev14, hS15, hl16, hA17⟩ := R.lst_v r10
    refine ⟨v_x_net, rfl, p1, _, _, v6, ev2, rfl, (SqT_mono g0.fh hS3), rfl, p12, ws13, (by rw [ev14]), (Same.seq g0.fh hS15), fun D18 nD19 => ?_⟩
    have g20 := g0.own (o := (.lst [])) nD19
    have ow21 : Ow H0 F0 (upd H0 D18 (.lst [])) D18 [] := Ow.new g0 nD19
    refine lc_enum (K := K) (a := p12) (xs := ws13) (fun i H' => ∃ (F' : Hp) (acc : List V) (ds : List (Int × Int)), Gr M0 F0 H0 F' H' ∧ Same F0 F' ∧ Ow H0 F' H' D18 acc ∧ RL K F' acc ds ∧ acc.length ≤ i ∧ ds ++ m_whole_pairs_c1 x_broken ((List.zip (rangeL 0 (x_net.c).length) x_net.c).drop i) = (m_whole_pairs_c1 x_broken (List.zip (rangeL 0 (x_net.c).length) x_net.c))) ?_ ?_ ?_ ?_
    · exact ⟨F0, [], [], g20, Same.refl _, ow21, RpA.nil, Nat.le_refl _, rfl⟩
    · intro i H' _ hP
      obtain ⟨F23, acc24, ds25, g026, sm27, owD28, hA29, hi30, hr31⟩ := hP
      exact (Same.seq g026.fh (Same.seq sm27 hS15))
    · intro i33 xv32 T36 H35 hx34 nT37 hP
      obtain ⟨F38, acc39, ds40, g041, sm42, owD43, hA44, hi45, hr46⟩ := hP
      obtain ⟨e48, he49, r50⟩ := RL.get (hA17.up sm42) hx34
      have he51 := enum_get he49
      have ne52 := owD43.ne nT37
      have sm53 := same_new (o := (.tup [(V.int ((i33 : Nat) : Int)), xv32])) (g041.noneF nT37)
      have g54 := g041.frz (o := (.tup [(V.int ((i33 : Nat) : Int)), xv32])) nT37
      have ow55 := owD43.frz (o := (.tup [(V.int ((i33 : Nat) : Int)), xv32])) nT37
      have r56 : R K (upd F38 T36 (.tup [(V.int ((i33 : Nat) : Int)), xv32])) (.ref T36) ((((i33 : Nat) : Int), e48) : (Int × (Int × Int))) := R.mk2 fzT (Rp.int ((i33 : Nat) : Int)) (r50.up sm53)
      rw [drop_at he51, m_whole_pairs_c1.eq_2] at hr46
      obtain ⟨p57, v60, v61, ev58, hS59, r62, r63⟩ := R.p2_v r56
      obtain rfl := R.int_v r62
      refine ⟨p57, [(V.int (((i33 : Nat) : Int), e48).1), v61], ev58, (SqT_mono g54.fh hS59), rfl, (V.int (((i33 : Nat) : Int), e48).1), [v61], rfl, v61, [], rfl, rfl, rfl, (V.int (((i33 : Nat) : Int), e48).1), rfl, (V.ref p_x_broken), rfl, _, p_x_broken, _, rfl, rfl, (.inl (by rw [← RL.ints (hA_x_broken.up (Same.trans sm42 sm53))]; exact (g54.seq nm_x_broken hS_x_broken))), _, rfl, (iteB (fun hc => ?_) (fun hc => ?_))⟩
      · have hc : (!decide ((((i33 : Nat) : Int), e48).1 ∈ x_broken)) = true := hc
        rw [if_pos hc] at hr46
        have hA64 : RL K (upd F38 T36 (.tup [(V.int ((i33 : Nat) : Int)), xv32])) (acc39 ++ [v61]) (ds40 ++ [((((i33 : Nat) : Int), e48).2 : (Int × Int))]) := RL.snoc (hA44.up sm53) r63
        refine ⟨v61, rfl, acc39, ow55.h, (lt_line hi45 (List.getElem?_eq_some_iff.mp hx34).1 hl16), ?_⟩
        have g65 := g54.put (o := (.lst (acc39 ++ [v61]))) ow55
        have ow66 := ow55.put (us := (acc39 ++ [v61]))
        exact ⟨(upd F38 T36 (.tup [(V.int ((i33 : Nat) : Int)), xv32])), (acc39 ++ [v61]), (ds40 ++ [(((i33 : Nat) : Int), e48).2]), g65, (Same.trans sm42 sm53), ow66, hA64, (by rw [List.length_append]; exact Nat.succ_le_succ hi45), (snoc_rest hr46)⟩
      · have hc : (!decide ((((i33 : Nat) : Int), e48).1 ∈ x_broken)) = false := hc
        rw [if_neg (ne_true_of_eq_false hc)] at hr46
        exact ⟨(upd F38 T36 (.tup [(V.int ((i33 : Nat) : Int)), xv32])), acc39, ds40, g54, (Same.trans sm42 sm53), ow55, (hA44.up sm53), (Nat.le_succ_of_le hi45), hr46⟩
    intro H67 hP
    obtain ⟨F68, acc69, ds70, g072, sm73, owD74, hA75, hi76, hr77⟩ := hP
    rw [drop_end (enum_lenV (RL.len hA17))] at hr77
    rw [m_whole_pairs_c1.eq_1, List.append_nil] at hr77
    obtain rfl := hr77
    have hl78 : acc69.length ≤ sizeLine := Nat.le_trans hi76 hl16
    exact (hQ _ _ _ _ g072 owD74.n0 owD74.h owD74.nF hl78 hA75)
end K28
namespace K28
open PySem PySem.Spec PyProof.Rows L2 TL G
theorem ok_nearby {P : Program} {w : World} {K : PySem.W.Frag} {mg : Str → Option Value} {base : Heap} (T : Txt K mg) : FnOk P w K mg base CX0 2 T.a_nearby T.d_nearby ["net", "broken"] (sp_nearby K) := by
  have G_whole_pairs : FnOk P w K mg base CX0 1 T.a_whole_pairs T.d_whole_pairs ["net", "broken"] (sp_whole_pairs K) := ok_whole_pairs T
  have b_whole_pairs := T.F_whole_pairs.bindsN (ps := ["net", "broken"]) fun _ _ _ _ _ _ us hl => match us, hl with | [_, _], _ => rfl
  refine fd_ok T.F_nearby sc_nearby (fun vs H Q E h => ?_) (fun cdv A outer s H0 vs Q E hr h => ?_)
  · obtain ⟨_, _, _, _, _, _, _, rfl, _⟩ := h
    rfl
  · obtain ⟨F0, v_x_net, x_net, p_x_broken, ws_x_broken, x_broken, r, rfl, hS0, r_x_net, hS_x_broken, hl_x_broken, hA_x_broken, nm_x_broken, hm, hQ⟩ := h
    refine ⟨_, (pss_cons (ps_setLc (i := 2) (own := [("house", 5)]) rfl sc_nearby.nd rfl rfl (sw_true rfl rfl rfl (by decide +kernel)) (pi_range1 (by rfl) T.n_range (pa_cons (pe_ix (ix_tupK (K := K)) (pv 0) pe_int (fun _ _ => rfl)) pa_nil)) (blkOk_by (own := [("house", 5)]) (N := N_nearby) (sc := defScope s_nearby) (by decide +kernel)) (fun _ _ _ _ _ => (pg_name (i := 5) sc_nearby.nd rfl (Or.inl rfl) (.inr rfl))) (fun _ _ _ _ _ => pts_nil) (fun _ _ _ _ _ => (pe_lst pa_nil))) (pss_cons (ps_for PassesOwn.never rfl (pi_listK (K := K) (pe_call G_whole_pairs (hr.mono (by decide)) (by rfl) T.g_whole_pairs T.F_whole_pairs.kp b_whole_pairs .nil pass0 (pa_cons (pv 0) (pa_cons (pv 1) pa_nil)))) (pg_tupK (K := K) 2 rfl (pgs_cons (pg_name (i := 3) sc_nearby.nd rfl (Or.inl rfl)) (pgs_cons (pg_name (i := 4) sc_nearby.nd rfl (Or.inl rfl)) pgs_nil))) (pss_cons (ps_expr (pe_bmK (K := K) PySem.F.plainAttrs_list PySem.F.slot_list_append PySem.F.type_list_append mt_append (pe_ix (ix_listK (K := K)) (pv 2) (pv 3) (fun _ _ => rfl)) (pa_cons (pv 4) pa_nil))) (pss_one (ps_expr (pe_bmK (K := K) PySem.F.plainAttrs_list PySem.F.slot_list_append PySem.F.type_list_append mt_append (pe_ix (ix_listK (K := K)) (pv 2) (pv 4) (fun _ _ => rfl)) (pa_cons (pv 3) pa_nil)))))) (pss_one (ps_ret (pe_lc (own := [("houses", 6)]) rfl sc_nearby.nd (pi_listK (K := K) (pv 2)) (blkOk_by (own := [("houses", 6)]) (N := N_nearby) (sc := defScope s_nearby) (by decide +kernel)) (fun _ _ _ _ _ => (pg_name (i := 6) sc_nearby.nd rfl (Or.inl rfl) (.inr rfl))) (fun _ _ _ _ _ => pts_nil) (fun _ _ _ _ _ => (pe_callB (cr_sortedI_ (K := K)) (by rfl) T.n_sorted (by decide +kernel) (pa_cons (pv 6) pa_nil)))))))), ?_⟩
    have g0 : Gr M0 F0 H0 F0 H0 := Gr.refl hS0
    unfold m_nearby at hm
    refine p_seq ?_
    refine p_asg ?_
    obtain ⟨p1, v4, v5, v6, v7, ev2, hS3, r8, r9, r10, r11⟩ := R.p4_v r_x_net
    obtain rfl := R.int_v r8
    obtain rfl := R.int_v r9
    obtain ⟨l12, hb14, hm⟩ := bnd hm
    obtain ⟨hk13, rfl⟩ := rangeO1_ok hb14
    refine ⟨v_x_net, rfl, p1, _, _, (V.int x_net.b), ev2, rfl, (SqT_mono g0.fh hS3), rfl, _, rfl, hk13.1.1, hk13.1.2, fun D15 nD16 => ?_⟩
    have g17 := g0.own (o := (.lst [])) nD16
    have ow18 : Nest H0 F0 (upd H0 D15 (.lst [])) D15 [] := Nest.nil g0 nD16
    refine lc_range (lo := (0 : Int)) (n := (x_net.b).toNat) (fun i H' => ∃ (rows : List (Addr × List V)), Gr M0 F0 H0 F0 H' ∧ Nest H0 F0 H' D15 rows ∧ rows.length = i ∧ (∀ r ∈ rows, r.2 = [])) ?_ ?_ ?_
    · exact ⟨[], g17, ow18, rfl, (fun _ h => nomatch h)⟩
    · intro i19 H21 hx20 hP
      obtain ⟨rows22, g023, owD24, hi25, he26⟩ := hP
      have he28 := rangeL_at (lo := (0 : Int)) hx20
      refine ⟨rfl, (p_yes ?_)⟩
      refine ⟨(by show 0 ≤ sizeLine; decide), fun p29 np30 => ?_⟩
      have g31 := Gr.mut (o := (.lst (refsN rows22 ++ [.ref p29]))) (g023.own (o := .lst []) np30) owD24.nF (.inl owD24.n0)
      exact ⟨refsN rows22, (owD24.own np30).h, (lt_line (by rw [List.length_map]; exact Nat.le_of_eq hi25) hx20 hk13.2), rows22 ++ [(p29, [])], g31, (Nest.grow owD24 g023 np30), (by rw [List.length_append, hi25]; rfl), (fun r hr => (List.mem_append.mp hr).elim (he26 r) (fun z => by rw [List.mem_singleton.mp z]))⟩
    intro H32 hP
    obtain ⟨rows33, g034, owD35, hi36, he37⟩ := hP
    have hl38 : rows33.length ≤ sizeLine := by rw [hi36]; exact hk13.2
    have hA39 : RN (α := Int) K F0 rows33 (((rangeL (0 : Int) (x_net.b).toNat)).map fun _ => ([] : List Int)) := RN.empty (hi36.trans (rangeL_len _ _).symm) he37
    obtain ⟨x_found40, hb41, hm⟩ := bnd hm
    have hx42 : (((rangeL (0 : Int) (x_net.b).toNat)).map fun _ => ([] : List Int)) = x_found40 := sjoin hb41
    have hA43 : RN (α := Int) K F0 rows33 x_found40 := RN.re hx42 hA39
    refine p_name ?_
    refine p_nx ?_
    refine p_seq ?_
    refine p_for ?_
    refine ⟨v_x_net, rfl, (V.ref p_x_broken), rfl, F0, v_x_net, x_net, p_x_broken, ws_x_broken, x_broken, rfl, g034.fh, r_x_net, (g034.seq nm_x_broken hS_x_broken), hl_x_broken, hA_x_broken, id, fun p48 ws49 F45 H46 g47 np50 h51 nF52 hl53 hA54 => ?_⟩
    have ne55 := owD35.ne np50
    have n056 := g034.none0 np50
    have g57 := Gr.trans g034 g47
    have ow58 := owD35.gr0 g47
    have ow59 : Ow H0 F45 H46 p48 ws49 := ⟨h51, nF52, n056⟩
    refine ⟨p48, rfl, ⟨_, ow59.sq⟩, ?_⟩
    obtain ⟨x_found60, ht61, hm⟩ := bnd hm
    refine for_list (K := K) (a := p48) (xs := ws49) (fun i σ' H' => ∃ (F' : Hp) (o_x_other : Option V) (o_x_one : Option V) (x_found : (List (List Int))) (ws_x_found : (List (Addr × List V))), σ' = [(some v_x_net), (some (V.ref p_x_broken)), (some (V.ref D15)), o_x_one, o_x_other, none, none] ∧ Gr M0 F0 H0 F' H' ∧ Same F45 F' ∧ Nest H0 F' H' D15 ws_x_found ∧ ws_x_found.length ≤ sizeLine ∧ RN (α := Int) K F' ws_x_found x_found ∧ Ow H0 F' H' p48 ws49 ∧ Apt D15 ws_x_found p48 ∧ m_nearby_l1  ((m_whole_pairs x_net x_broken).drop i) x_found = some x_found60) ?_ ?_ ?_ ?_
    · exact ⟨F45, none, none, x_found40, rows33, rfl, g57, (Same.refl _), ow58, hl38, (hA43.up g47.ff), ow59, ne55, ht61⟩
    · intro i σ' H' _ hP
      obtain ⟨F', o_x_other, o_x_one, x_found, ws_x_found, rfl, g_, sm_, ow_x_found, hl_x_found, hA_x_found, owk0_, apt1_, hm_⟩ := hP
      exact owk0_.sq
    · intro i62 xv65 σ' H64 hx63 hP
      obtain ⟨F66, o_x_other67, o_x_one68, x_found69, ws_x_found70, rfl, g71, sm72, ow_x_found73, hl_x_found74, hA_x_found75, owk076, apt177, hm78⟩ := hP
      obtain ⟨e79, he80, r81⟩ := RL.get (hA54.up sm72) hx63
      rw [drop_at he80, m_nearby_l1.eq_2] at hm78
      obtain ⟨p82, v85, v86, ev83, hS84, r87, r88⟩ := R.p2_v r81
      obtain rfl := R.int_v r87
      obtain rfl := R.int_v r88
      refine ⟨p82, [(V.int e79.1), (V.int e79.2)], ev83, (SqT_mono g71.fh hS84), rfl, (V.int e79.1), [(V.int e79.2)], rfl, (V.int e79.2), [], rfl, rfl, ?_⟩
      refine p_seq ?_
      refine p_drop ?_
      obtain ⟨x_found89, hb90, hm78⟩ := bnd hm78
      obtain ⟨j91, r92, e93, e94, e95, rfl⟩ := appN_ok hb90
      obtain ⟨q96, hq97, hA98, hl99⟩ := RN.row hA_x_found75 e94
      have hm100 := List.mem_of_getElem? hq97
      refine ⟨(V.ref D15), rfl, (V.int e79.1), rfl, D15, (refsN ws_x_found70), _, (V.ref q96.1), rfl, rfl, (.inl (.inl ow_x_found73.h)), (RN.at_ hA_x_found75 e93 hq97), (.inl ⟨rfl, _, (.inl (.inl (ow_x_found73.rh _ hm100)))⟩), (V.int e79.2), rfl, q96.1, q96.2, (V.int e79.2), rfl, rfl, (ow_x_found73.rh _ hm100), (by rw [RL.len hA98]; exact e95), ?_⟩
      have hA101 : RL K F66 (q96.2 ++ [(V.int e79.2)]) (r92 ++ [(e79.2 : Int)]) := RL.snoc hA98 (Rp.int e79.2)
      have hl102 : (q96.2 ++ [(V.int e79.2)]).length ≤ sizeLine := by rw [List.length_append, RL.len hA98]; exact e95
      have hA103 := RN.put hA_x_found75 hq97 hA101 hl102
      have g104 := Gr.mut (o := (.lst (q96.2 ++ [(V.int e79.2)]))) g71 (ow_x_found73.rF _ hm100) (.inl (ow_x_found73.r0 _ hm100))
      have ow105 := owk076.other (o := (.lst (q96.2 ++ [(V.int e79.2)]))) (Ne.symm (apt177.2 _ hm100))
      have ap106 := Apt.put (us := (q96.2 ++ [(V.int e79.2)])) apt177 hq97
      have ow107 := ow_x_found73.put (us := (q96.2 ++ [(V.int e79.2)])) hq97
      refine p_nx ?_
      refine p_drop ?_
      obtain ⟨x_found108, hb109, hm78⟩ := bnd hm78
      obtain ⟨j110, r111, e112, e113, e114, rfl⟩ := appN_ok hb109
      obtain ⟨q115, hq116, hA117, hl118⟩ := RN.row hA103 e113
      have hm119 := List.mem_of_getElem? hq116
      refine ⟨(V.ref D15), rfl, (V.int e79.2), rfl, D15, (refsN (ws_x_found70.set j91 (q96.1, (q96.2 ++ [(V.int e79.2)])))), _, (V.ref q115.1), rfl, rfl, (.inl (.inl ow107.h)), (RN.at_ hA103 e112 hq116), (.inl ⟨rfl, _, (.inl (.inl (ow107.rh _ hm119)))⟩), (V.int e79.1), rfl, q115.1, q115.2, (V.int e79.1), rfl, rfl, (ow107.rh _ hm119), (by rw [RL.len hA117]; exact e114), ?_⟩
      have hA120 : RL K F66 (q115.2 ++ [(V.int e79.1)]) (r111 ++ [(e79.1 : Int)]) := RL.snoc hA117 (Rp.int e79.1)
      have hl121 : (q115.2 ++ [(V.int e79.1)]).length ≤ sizeLine := by rw [List.length_append, RL.len hA117]; exact e114
      have hA122 := RN.put hA103 hq116 hA120 hl121
      have g123 := Gr.mut (o := (.lst (q115.2 ++ [(V.int e79.1)]))) g104 (ow107.rF _ hm119) (.inl (ow107.r0 _ hm119))
      have ow124 := ow105.other (o := (.lst (q115.2 ++ [(V.int e79.1)]))) (Ne.symm (ap106.2 _ hm119))
      have ap125 := Apt.put (us := (q115.2 ++ [(V.int e79.1)])) ap106 hq116
      have ow126 := ow107.put (us := (q115.2 ++ [(V.int e79.1)])) hq116
      exact ⟨F66, (some (V.int e79.2)), (some (V.int e79.1)), ((x_found69.set j91 (r92 ++ [e79.2])).set j110 (r111 ++ [e79.1])), ((ws_x_found70.set j91 (q96.1, (q96.2 ++ [(V.int e79.2)]))).set j110 (q115.1, (q115.2 ++ [(V.int e79.1)]))), rfl, g123, sm72, ow126, (by rw [List.length_set]; exact (by rw [List.length_set]; exact hl_x_found74)), hA122, ow124, ap125, hm78⟩
    intro σ127 H128 hP
    obtain ⟨F129, o_x_other130, o_x_one131, x_found132, ws_x_found133, rfl, g134, sm135, ow_x_found136, hl_x_found137, hA_x_found138, owk0139, apt1140, hm141⟩ := hP
    rw [drop_end (RL.len (hA54.up sm135)), m_nearby_l1.eq_1] at hm141
    obtain rfl := sjoin hm141
    refine p_nx ?_
    refine p_ret ?_
    refine ⟨(V.ref D15), rfl, D15, rfl, ⟨_, (.inl (.inl ow_x_found136.h))⟩, fun D142 nD143 => ?_⟩
    have ne144 := ow_x_found136.ne nD143
    have ne145 := owk0139.ne nD143
    have g146 := g134.own (o := (.lst [])) nD143
    have ow147 := ow_x_found136.own (o := (.lst [])) nD143
    have ow148 := owk0139.own (o := (.lst [])) nD143
    have ow149 : Ow H0 F129 (upd H128 D142 (.lst [])) D142 [] := Ow.new g134 nD143
    refine lc_list (K := K) (a := D15) (xs := (refsN ws_x_found133)) (fun i H' => ∃ (F' : Hp) (acc : List V) (ds : List (List Int)), Gr M0 F0 H0 F' H' ∧ Same F129 F' ∧ Ow H0 F' H' D142 acc ∧ RL K F' acc ds ∧ acc.length ≤ i ∧ Nest H0 F' H' D15 ws_x_found133 ∧ Ow H0 F' H' p48 ws49 ∧ ds ++ m_nearby_c2  (x_found132.drop i) = (m_nearby_c2  x_found132)) ?_ ?_ ?_ ?_
    · exact ⟨F129, [], [], g146, Same.refl _, ow149, RpA.nil, Nat.le_refl _, ow147, ow148, rfl⟩
    · intro i H' _ hP
      obtain ⟨F151, acc152, ds153, g0154, sm155, owD156, hA157, hi158, ow0159, ow1160, hr161⟩ := hP
      exact (.inl (.inl ow0159.h))
    · intro i163 xv162 H165 hx164 hP
      obtain ⟨F166, acc167, ds168, g0169, sm170, owD171, hA172, hi173, ow0174, ow1175, hr176⟩ := hP
      obtain ⟨e177, q179, he178, hr180, rfl, hA181, hl182⟩ := RN.get (hA_x_found138.up sm170) hx164
      rw [drop_at he178, m_nearby_c2.eq_2] at hr176
      refine ⟨rfl, (p_yes ?_)⟩
      have ln188 := RL.len hA181
      refine ⟨(V.ref q179.1), rfl, q179.1, e177, rfl, (by rw [← RL.ints hA181]; exact (.inl (.inl (ow0174.rh _ hr180)))), fun ns183 p186 pm184 so185 np187 => ?_⟩
      obtain rfl := sortI_uniq pm184 so185
      have hl189 : ((sortI e177).map V.int).length ≤ sizeLine := by rw [List.length_map, sortI_len, ← ln188]; exact hl182
      have hA190 : RL K F166 ((sortI e177).map V.int) (sortI e177) := RL.ofInts _
      have ne191 := ow0174.ne np187
      have ne192 := ow1175.ne np187
      have ne193 := owD171.ne np187
      have g194 := g0169.own (o := (.lst ((sortI e177).map V.int))) np187
      have ow195 := ow0174.own (o := (.lst ((sortI e177).map V.int))) np187
      have ow196 := ow1175.own (o := (.lst ((sortI e177).map V.int))) np187
      have ow197 := owD171.own (o := (.lst ((sortI e177).map V.int))) np187
      have ow198 : Ow H0 F166 (upd H165 p186 (.lst ((sortI e177).map V.int))) p186 ((sortI e177).map V.int) := Ow.new g0169 np187
      have sm199 := ow198.sf
      have g200 := g194.fz ow198
      have ow201 : Nest H0 (upd F166 p186 (.lst ((sortI e177).map V.int))) (upd H165 p186 (.lst ((sortI e177).map V.int))) D15 ws_x_found133 := ow195.fz ne191
      have ow202 : Ow H0 (upd F166 p186 (.lst ((sortI e177).map V.int))) (upd H165 p186 (.lst ((sortI e177).map V.int))) p48 ws49 := ow196.fz ne192
      have ow203 : Ow H0 (upd F166 p186 (.lst ((sortI e177).map V.int))) (upd H165 p186 (.lst ((sortI e177).map V.int))) D142 acc167 := ow197.fz ne193
      have r204 : R K (upd F166 p186 (.lst ((sortI e177).map V.int))) (.ref p186) (sortI e177) := R.mkl fzS hl189 (RpA.up hA190 sm199)
      have hA205 : RL K (upd F166 p186 (.lst ((sortI e177).map V.int))) (acc167 ++ [(V.ref p186)]) (ds168 ++ [((sortI e177) : (List Int))]) := RL.snoc (hA172.up sm199) r204
      refine ⟨acc167, ow203.h, (lt_line hi173 (List.getElem?_eq_some_iff.mp hx164).1 (by rw [List.length_map]; exact hl_x_found137)), ?_⟩
      have g206 := g200.put (o := (.lst (acc167 ++ [(V.ref p186)]))) ow203
      have ow207 := ow201.other (o := (.lst (acc167 ++ [(V.ref p186)]))) ne144
      have ow208 := ow202.other (o := (.lst (acc167 ++ [(V.ref p186)]))) ne145
      have ow209 := ow203.put (us := (acc167 ++ [(V.ref p186)]))
      exact ⟨(upd F166 p186 (.lst ((sortI e177).map V.int))), (acc167 ++ [(V.ref p186)]), (ds168 ++ [(sortI e177)]), g206, (Same.trans sm170 sm199), ow209, hA205, (by rw [List.length_append]; exact Nat.succ_le_succ hi173), ow207, ow208, (snoc_rest hr176)⟩
    intro H210 hP
    obtain ⟨F211, acc212, ds213, g0215, sm216, owD217, hA218, hi219, ow0220, ow1221, hr222⟩ := hP
    rw [drop_end (RN.len hA_x_found138)] at hr222
    rw [m_nearby_c2.eq_1, List.append_nil] at hr222
    obtain rfl := hr222
    have hl223 : acc212.length ≤ sizeLine := Nat.le_trans hi219 (by rw [List.length_map]; exact hl_x_found137)
    obtain rfl := sjoin hm
    exact (hQ _ _ _ _ g0215 owD217.n0 owD217.h owD217.nF hl223 hA218)
end K28
namespace K28
open PySem PySem.Spec PyProof.Rows L2 TL G
theorem ok_come_to {P : Program} {w : World} {K : PySem.W.Frag} {mg : Str → Option Value} {base : Heap} (T : Txt K mg) : FnOk P w K mg base CX0 1 T.a_come_to T.d_come_to ["order", "done", "house"] (sp_come_to K) := by
  refine fd_ok T.F_come_to sc_come_to (fun vs H Q E h => ?_) (fun cdv A outer s H0 vs Q E hr h => ?_)
  · obtain ⟨_, _, _, _, _, _, rfl, _⟩ := h
    rfl
  · obtain ⟨F0, v_x_order, x_order, x_done, x_house, r, rfl, hS0, r_x_order, hm, hQ⟩ := h
    refine ⟨_, (pss_cons (ps_set (i := 3) sc_come_to.nd rfl (.inl rfl) (pe_ix (ix_tupK (K := K)) (pv 0) pe_int (fun _ _ => rfl))) (pss_cons (ps_if (PW.pt (pw_and (pt_cmpR op_lt (pv 1) (pe_callB (call_lenLK (K := K)) (by rfl) T.n_len (by decide +kernel) (pa_cons (pv 3) pa_nil)) (nomark _)) (pw_and1 (pt_cmpR op_eq (pe_ix (ix_tupK (K := K)) (pv 3) (pv 1) (fun _ _ => rfl)) (pv 2) (nomark _))))) (pss_one (ps_ret (pe_tup (pa_cons (pe_op op_add (pv 1) pe_int) (pa_cons (pv 2) pa_nil))))) pss_nil) (pss_one (ps_ret (pe_tup (pa_cons (pv 1) (pa_cons (pv 2) pa_nil))))))), ?_⟩
    have g0 : Gr M0 F0 H0 F0 H0 := Gr.refl hS0
    unfold m_come_to at hm
    refine p_seq ?_
    refine p_asg ?_
    obtain ⟨p1, v4, v5, v6, v7, ev2, hS3, r8, r9, r10, r11⟩ := R.p4_v r_x_order
    obtain rfl := R.int_v r8
    refine ⟨v_x_order, rfl, p1, _, _, v5, ev2, rfl, (SqT_mono g0.fh hS3), rfl, ?_⟩
    refine p_name ?_
    refine p_nx ?_
    refine p_seq ?_
    refine p_if ?_
    obtain ⟨p12, ws13, ev14, hs18, hl16, hA17⟩ := R.vt_s r9
    have hS15 : SqT K _ p12 ws13 := .inl (.inl hs18)
    refine ⟨(V.int x_done), rfl, v5, rfl, p12, ws13, _, (by rw [ev14]), (.inr (SqT_mono g0.fh hS15)), (RL.len hA17), _, _, rfl, rfl, _, rfl, ?_⟩
    obtain ⟨c19, hc20, hm⟩ := bnd hm
    refine andJT (M := M0) (F := F0) (c := c19) (P := fun _ _ => True) (fun ha => ?_) (fun ha => ⟨(sjoin (ifF ha hc20)).symm, trivial⟩) g0.fh ?_
    · intro Q22 q23
      have hc20 := ifT ha hc20
      obtain ⟨t24, hb25, hc20⟩ := bnd hc20
      obtain ⟨v26, ha27, r28⟩ := RL.at hA17 hb25
      obtain rfl := R.int_v r28
      obtain rfl := sjoin hc20
      refine ⟨v5, rfl, (V.int x_done), rfl, p12, ws13, _, (V.int t24), ev14, rfl, (SqT_mono g0.fh hS15), ha27, (V.int x_house), rfl, rfl, _, rfl, (q23 _ _ (Gr.refl (M := M0) g0.fh) trivial)⟩
    intro F29 H30 g31 hB32
    have g33 := Gr.trans g0 g31
    refine (iteB (fun hc => ?_) (fun hc => ?_))
    · have hm := ifT hc hm
      refine p_ret ?_
      refine ⟨(V.int x_done), rfl, _, _, rfl, rfl, (V.int x_house), rfl, (by show 2 ≤ sizeLine; decide), fun p34 np35 => ?_⟩
      have sm36 := same_new (o := (.tup [(V.int (x_done + (1 : Int))), (V.int x_house)])) (g33.noneF np35)
      have g37 := g33.frz (o := (.tup [(V.int (x_done + (1 : Int))), (V.int x_house)])) np35
      have r38 : R K (upd F29 p34 (.tup [(V.int (x_done + (1 : Int))), (V.int x_house)])) (.ref p34) (((x_done + (1 : Int)), x_house) : (Int × Int)) := R.mk2 fzT (Rp.int (x_done + (1 : Int))) (Rp.int x_house)
      obtain rfl := sjoin hm
      exact (hQ _ _ _ g37 r38)
    · have hm := ifF hc hm
      refine p_next ?_
      refine p_nx ?_
      refine p_ret ?_
      refine ⟨(V.int x_done), rfl, (V.int x_house), rfl, (by show 2 ≤ sizeLine; decide), fun p39 np40 => ?_⟩
      have sm41 := same_new (o := (.tup [(V.int x_done), (V.int x_house)])) (g33.noneF np40)
      have g42 := g33.frz (o := (.tup [(V.int x_done), (V.int x_house)])) np40
      have r43 : R K (upd F29 p39 (.tup [(V.int x_done), (V.int x_house)])) (.ref p39) ((x_done, x_house) : (Int × Int)) := R.mk2 fzT (Rp.int x_done) (Rp.int x_house)
      obtain rfl := sjoin hm
      exact (hQ _ _ _ g42 r43)
end K28
namespace K28
open PySem PySem.Spec PyProof.Rows L2 TL G
theorem ok_beginning {P : Program} {w : World} {K : PySem.W.Frag} {mg : Str → Option Value} {base : Heap} (T : Txt K mg) : FnOk P w K mg base CX0 2 T.a_beginning T.d_beginning ["net", "door", "order"] (sp_beginning K) := by
  have G_come_to : FnOk P w K mg base CX0 1 T.a_come_to T.d_come_to ["order", "done", "house"] (sp_come_to K) := ok_come_to T
  have b_come_to := T.F_come_to.bindsN (ps := ["order", "done", "house"]) fun _ _ _ _ _ _ us hl => match us, hl with | [_, _, _], _ => rfl
  refine fd_ok T.F_beginning sc_beginning (fun vs H Q E h => ?_) (fun cdv A outer s H0 vs Q E hr h => ?_)
  · obtain ⟨_, _, _, _, _, _, _, rfl, _⟩ := h
    rfl
  · obtain ⟨F0, v_x_net, x_net, x_door, v_x_order, x_order, r, rfl, hS0, r_x_net, r_x_order, hm, hQ⟩ := h
    refine ⟨_, (pss_cons (ps_set (i := 3) sc_beginning.nd rfl (.inl rfl) (pe_ix (ix_listK (K := K)) (pe_ix (ix_tupK (K := K)) (pv 0) pe_int (fun _ _ => rfl)) (pv 1) (fun _ _ => rfl))) (pss_one (ps_ret (pe_ifExp (pt_cmpR (op_inI (K := K)) (pv 3) (pe_ix (ix_tupK (K := K)) (pv 2) pe_int (fun _ _ => rfl)) rfl) pe_non (pe_call G_come_to (hr.mono (by decide)) (by rfl) T.g_come_to T.F_come_to.kp b_come_to .nil pass0 (pa_cons (pv 2) (pa_cons pe_int (pa_cons (pv 3) pa_nil)))))))), ?_⟩
    have g0 : Gr M0 F0 H0 F0 H0 := Gr.refl hS0
    unfold m_beginning at hm
    refine p_seq ?_
    refine p_asg ?_
    obtain ⟨p1, v4, v5, v6, v7, ev2, hS3, r8, r9, r10, r11⟩ := R.p4_v r_x_net
    obtain rfl := R.int_v r8
    obtain rfl := R.int_v r9
    obtain ⟨t12, hb13, hm⟩ := bnd hm
    obtain ⟨p14, ws15, ev16, hS17, hl18, hA19⟩ := R.lst_v r11
    obtain ⟨v20, ha21, r22⟩ := RL.at hA19 hb13
    obtain rfl := R.int_v r22
    refine ⟨v_x_net, rfl, p1, _, _, v7, ev2, rfl, (SqT_mono g0.fh hS3), rfl, (V.int x_door), rfl, p14, ws15, _, (V.int t12), ev16, rfl, (Same.seq g0.fh hS17), ha21, ?_⟩
    refine p_name ?_
    refine p_nx ?_
    refine p_ret ?_
    obtain ⟨p23, v26, v27, v28, v29, ev24, hS25, r30, r31, r32, r33⟩ := R.p4_v r_x_order
    obtain rfl := R.int_v r30
    obtain ⟨p34, ws35, ev36, hs40, hl38, hA39⟩ := R.vt_s r32
    have hS37 : SqT K _ p34 ws35 := .inl (.inl hs40)
    refine ⟨(V.int t12), rfl, v_x_order, rfl, p23, _, _, v28, ev24, rfl, (SqT_mono g0.fh hS25), rfl, _, p34, _, rfl, (by rw [ev36]), (.inr (by rw [← RL.ints hA39]; exact (SqT_mono g0.fh hS37))), _, rfl, ?_⟩
    obtain ⟨c41, hc43, hm⟩ := bnd hm
    refine ifJ (M := M0) (F := F0) (P := fun v' F' H' => R K F' v' (c41 : (Option (Int × Int)))) (fun ha => ?_) (fun ha => ?_) ?_
    · intro Q44 q45
      have ha : (decide (t12 ∈ (x_order.c).l)) = true := ha
      have hc43 := ifT ha hc43
      obtain rfl := sjoin hc43
      exact (q45 _ _ _ (Gr.refl (M := M0) g0.fh) Rp.non)
    · intro Q46 q47
      have ha : (decide (t12 ∈ (x_order.c).l)) = false := ha
      have hc43 := ifF ha hc43
      obtain ⟨r48, hb49, hc43⟩ := bnd hc43
      refine ⟨v_x_order, rfl, (V.int t12), rfl, F0, v_x_order, x_order, (0 : Int), t12, r48, rfl, g0.fh, r_x_order, hb49, fun v53 F50 H51 g52 r54 => ?_⟩
      have g55 := Gr.trans g0 g52
      have g56 := Gr.trans (Gr.refl (M := M0) g0.fh) g52
      obtain rfl := sjoin hc43
      exact (q47 _ _ _ g56 r54)
    intro v60 F57 H58 g59 hp61
    have g63 := Gr.trans g0 g59
    obtain rfl := sjoin hm
    exact (hQ _ _ _ g63 hp61)
end K28
namespace K28
open PySem PySem.Spec PyProof.Rows L2 TL G
theorem ok_goal_of {P : Program} {w : World} {K : PySem.W.Frag} {mg : Str → Option Value} {base : Heap} (T : Txt K mg) : FnOk P w K mg base CX0 1 T.a_goal_of T.d_goal_of ["net", "order"] (sp_goal_of K) := by
  refine fd_ok T.F_goal_of sc_goal_of (fun vs H Q E h => ?_) (fun cdv A outer s H0 vs Q E hr h => ?_)
  · obtain ⟨_, _, _, _, _, _, rfl, _⟩ := h
    rfl
  · obtain ⟨F0, v_x_net, x_net, v_x_order, x_order, r, rfl, hS0, r_x_net, r_x_order, hm, hQ⟩ := h
    refine ⟨_, (pss_one (ps_ret (pe_tup (pa_cons (pe_callB (call_lenLK (K := K)) (by rfl) T.n_len (by decide +kernel) (pa_cons (pe_ix (ix_tupK (K := K)) (pv 1) pe_int (fun _ _ => rfl)) pa_nil)) (pa_cons (pe_ix (ix_listK (K := K)) (pe_ix (ix_tupK (K := K)) (pv 0) pe_int (fun _ _ => rfl)) (pe_ix (ix_tupK (K := K)) (pv 1) pe_int (fun _ _ => rfl)) (fun _ _ => rfl)) pa_nil))))), ?_⟩
    have g0 : Gr M0 F0 H0 F0 H0 := Gr.refl hS0
    unfold m_goal_of at hm
    refine p_ret ?_
    obtain ⟨p1, v4, v5, v6, v7, ev2, hS3, r8, r9, r10, r11⟩ := R.p4_v r_x_order
    obtain rfl := R.int_v r8
    obtain ⟨p12, ws13, ev14, hs18, hl16, hA17⟩ := R.vt_s r9
    have hS15 : SqT K _ p12 ws13 := .inl (.inl hs18)
    obtain ⟨p19, v22, v23, v24, v25, ev20, hS21, r26, r27, r28, r29⟩ := R.p4_v r_x_net
    obtain rfl := R.int_v r26
    obtain rfl := R.int_v r27
    obtain ⟨t30, hb31, hm⟩ := bnd hm
    obtain ⟨p32, ws33, ev34, hS35, hl36, hA37⟩ := R.lst_v r29
    obtain ⟨v38, ha39, r40⟩ := RL.at hA37 hb31
    obtain rfl := R.int_v r40
    refine ⟨v_x_order, rfl, p1, _, _, v5, ev2, rfl, (SqT_mono g0.fh hS3), rfl, p12, ws13, _, (by rw [ev14]), (.inr (SqT_mono g0.fh hS15)), (RL.len hA17), v_x_net, rfl, p19, _, _, v25, ev20, rfl, (SqT_mono g0.fh hS21), rfl, v_x_order, rfl, p1, _, _, (V.int x_order.a), ev2, rfl, (SqT_mono g0.fh hS3), rfl, p32, ws33, _, (V.int t30), ev34, rfl, (Same.seq g0.fh hS35), ha39, (by show 2 ≤ sizeLine; decide), fun p41 np42 => ?_⟩
    have sm43 := same_new (o := (.tup [(V.int ((((x_order.b).l).length : Nat) : Int)), (V.int t30)])) (g0.noneF np42)
    have g44 := g0.frz (o := (.tup [(V.int ((((x_order.b).l).length : Nat) : Int)), (V.int t30)])) np42
    have r45 : R K (upd F0 p41 (.tup [(V.int ((((x_order.b).l).length : Nat) : Int)), (V.int t30)])) (.ref p41) ((((((x_order.b).l).length : Nat) : Int), t30) : (Int × Int)) := R.mk2 fzT (Rp.int ((((x_order.b).l).length : Nat) : Int)) (Rp.int t30)
    obtain rfl := sjoin hm
    exact (hQ _ _ _ g44 r45)
end K28
namespace K28
open PySem PySem.Spec PyProof.Rows L2 TL G
theorem ok_leads {P : Program} {w : World} {K : PySem.W.Frag} {mg : Str → Option Value} {base : Heap} (T : Txt K mg) : FnOk P w K mg base CX0 2 T.a_leads T.d_leads ["near", "order", "stand"] (sp_leads K) := by
  have G_come_to : FnOk P w K mg base CX0 1 T.a_come_to T.d_come_to ["order", "done", "house"] (sp_come_to K) := ok_come_to T
  have b_come_to := T.F_come_to.bindsN (ps := ["order", "done", "house"]) fun _ _ _ _ _ _ us hl => match us, hl with | [_, _, _], _ => rfl
  refine fd_ok T.F_leads sc_leads (fun vs H Q E h => ?_) (fun cdv A outer s H0 vs Q E hr h => ?_)
  · obtain ⟨_, _, _, _, _, _, _, _, _, rfl, _⟩ := h
    rfl
  · obtain ⟨F0, p_x_near, ws_x_near, x_near, v_x_order, x_order, v_x_stand, x_stand, r, rfl, hS0, hS_x_near, hl_x_near, hA_x_near, nm_x_near, r_x_order, r_x_stand, hm, hQ⟩ := h
    refine ⟨_, (pss_cons (ps_asg (pv 2) (pg_tupK (K := K) 2 rfl (pgs_cons (pg_name (i := 3) sc_leads.nd rfl (Or.inr rfl)) (pgs_cons (pg_name (i := 4) sc_leads.nd rfl (Or.inl rfl)) pgs_nil)))) (pss_one (ps_ret (pe_lc (own := [("other", 5)]) rfl sc_leads.nd (pi_listK (K := K) (pe_ix (ix_listK (K := K)) (pv 0) (pv 4) (fun _ _ => rfl))) (blkOk_by (own := [("other", 5)]) (N := N_leads) (sc := defScope s_leads) (by decide +kernel)) (fun _ _ _ _ _ => (pg_name (i := 5) sc_leads.nd rfl (Or.inl rfl) (.inr rfl))) (fun _ _ _ _ _ => (pts_one (pt_cmpR (op_notInI (K := K)) (pv 5) (pe_ix (ix_tupK (K := K)) (pv 1) pe_int (fun _ _ => rfl)) rfl))) (fun _ _ _ _ _ => (pe_call G_come_to (hr.mono (by decide)) (by rfl) T.g_come_to T.F_come_to.kp b_come_to .nil pass0 (pa_cons (pv 1) (pa_cons (pv 3) (pa_cons (pv 5) pa_nil))))))))), ?_⟩
    have g0 : Gr M0 F0 H0 F0 H0 := Gr.refl hS0
    unfold m_leads at hm
    refine p_seq ?_
    refine p_asg ?_
    refine ⟨v_x_stand, rfl, ?_⟩
    obtain ⟨p1, v4, v5, ev2, hS3, r6, r7⟩ := R.p2_v r_x_stand
    obtain rfl := R.int_v r6
    obtain rfl := R.int_v r7
    refine ⟨p1, [(V.int x_stand.1), (V.int x_stand.2)], ev2, (SqT_mono g0.fh hS3), rfl, (V.int x_stand.1), [(V.int x_stand.2)], rfl, (V.int x_stand.2), [], rfl, rfl, ?_⟩
    refine p_nx ?_
    refine p_ret ?_
    obtain ⟨t8, hb9, hm⟩ := bnd hm
    obtain ⟨v10, ha11, r12⟩ := RL.at hA_x_near hb9
    obtain ⟨p13, ws14, ev15, hS16, hl17, hA18⟩ := R.lst_v r12
    refine ⟨(V.ref p_x_near), rfl, (V.int x_stand.2), rfl, p_x_near, ws_x_near, _, v10, rfl, rfl, (g0.seq nm_x_near hS_x_near), ha11, p13, ev15, ⟨_, (Same.seq g0.fh hS16)⟩, fun D19 nD20 => ?_⟩
    have g21 := g0.own (o := (.lst [])) nD20
    have ow22 : Ow H0 F0 (upd H0 D19 (.lst [])) D19 [] := Ow.new g0 nD20
    obtain ⟨l23, hb24, hm⟩ := bnd hm
    refine lc_list (K := K) (a := p13) (xs := ws14) (fun i H' => ∃ (F' : Hp) (acc : List V) (ds : List (Int × Int)) (rest : List (Int × Int)), Gr M0 F0 H0 F' H' ∧ Same F0 F' ∧ Ow H0 F' H' D19 acc ∧ RL K F' acc ds ∧ acc.length ≤ i ∧ m_leads_c1 x_order x_stand.1 (t8.drop i) = some rest ∧ ds ++ rest = l23) ?_ ?_ ?_ ?_
    · exact ⟨F0, [], [], l23, g21, Same.refl _, ow22, RpA.nil, Nat.le_refl _, hb24, rfl⟩
    · intro i H' _ hP
      obtain ⟨F25, acc26, ds27, rest28, g029, sm30, owD31, hA32, hi33, hm34, hr35⟩ := hP
      exact (Same.seq g029.fh (Same.seq sm30 hS16))
    · intro i37 xv36 H39 hx38 hP
      obtain ⟨F40, acc41, ds42, rest43, g044, sm45, owD46, hA47, hi48, hm49, hr50⟩ := hP
      obtain ⟨e51, he52, r53⟩ := RL.get (hA18.up sm45) hx38
      obtain rfl := R.int_v r53
      rw [drop_at he52, m_leads_c1.eq_2] at hm49
      obtain ⟨p54, v57, v58, v59, v60, ev55, hS56, r61, r62, r63, r64⟩ := R.p4_v r_x_order
      obtain rfl := R.int_v r61
      obtain ⟨p65, ws66, ev67, hs71, hl69, hA70⟩ := R.vt_s r63
      have hS68 : SqT K _ p65 ws66 := .inl (.inl hs71)
      refine ⟨rfl, (V.int e51), rfl, v_x_order, rfl, p54, _, _, v59, ev55, rfl, (SqT_mono g044.fh (SqT_mono sm45 hS56)), rfl, _, p65, _, rfl, (by rw [ev67]), (.inr (by rw [← RL.ints (hA70.up sm45)]; exact (SqT_mono g044.fh (SqT_mono sm45 hS68)))), _, rfl, (iteB (fun hc => ?_) (fun hc => ?_))⟩
      · have hc : (!decide (e51 ∈ (x_order.c).l)) = true := hc
        have hm49 := ifT hc hm49
        obtain ⟨r72, hb73, hm49⟩ := bnd hm49
        refine ⟨v_x_order, rfl, (V.int x_stand.1), rfl, (V.int e51), rfl, F40, v_x_order, x_order, x_stand.1, e51, r72, rfl, g044.fh, (r_x_order.up sm45), hb73, fun v77 F74 H75 g76 r78 => ?_⟩
        have g79 := Gr.trans g044 g76
        have ow80 := owD46.gr0 g76
        have hA81 : RL K F74 (acc41 ++ [v77]) (ds42 ++ [(r72 : (Int × Int))]) := RL.snoc (hA47.up g76.ff) r78
        obtain ⟨rest82, h83, h84⟩ := bnd hm49
        obtain rfl := sjoin h84
        refine ⟨acc41, ow80.h, (lt_line hi48 (List.getElem?_eq_some_iff.mp hx38).1 hl17), ?_⟩
        have g85 := g79.put (o := (.lst (acc41 ++ [v77]))) ow80
        have ow86 := ow80.put (us := (acc41 ++ [v77]))
        exact ⟨F74, (acc41 ++ [v77]), (ds42 ++ [r72]), rest82, g85, (Same.trans sm45 g76.ff), ow86, hA81, (by rw [List.length_append]; exact Nat.succ_le_succ hi48), h83, (snoc_rest hr50)⟩
      · have hc : (!decide (e51 ∈ (x_order.c).l)) = false := hc
        have hm49 := ifF hc hm49
        exact ⟨F40, acc41, ds42, rest43, g044, sm45, owD46, hA47, (Nat.le_succ_of_le hi48), hm49, hr50⟩
    intro H87 hP
    obtain ⟨F88, acc89, ds90, _rest, g092, sm93, owD94, hA95, hi96, hm97, hr98⟩ := hP
    rw [drop_end (RL.len hA18)] at hm97
    rw [m_leads_c1.eq_1] at hm97
    obtain rfl := sjoin hm97
    rw [List.append_nil] at hr98
    obtain rfl := hr98
    have hl99 : acc89.length ≤ sizeLine := Nat.le_trans hi96 hl17
    obtain rfl := sjoin hm
    exact (hQ _ _ _ _ g092 owD94.n0 owD94.h owD94.nF hl99 hA95)
end K28
namespace K28
open PySem PySem.Spec PyProof.Rows L2 TL G
theorem ok_first_lists {P : Program} {w : World} {K : PySem.W.Frag} {mg : Str → Option Value} {base : Heap} (T : Txt K mg) : FnOk P w K mg base CX0 3 T.a_first_lists T.d_first_lists ["net", "broken", "door", "order"] (sp_first_lists K) := by
  have G_beginning : FnOk P w K mg base CX0 2 T.a_beginning T.d_beginning ["net", "door", "order"] (sp_beginning K) := ok_beginning T
  have b_beginning := T.F_beginning.bindsN (ps := ["net", "door", "order"]) fun _ _ _ _ _ _ us hl => match us, hl with | [_, _, _], _ => rfl
  have G_nearby : FnOk P w K mg base CX0 2 T.a_nearby T.d_nearby ["net", "broken"] (sp_nearby K) := ok_nearby T
  have b_nearby := T.F_nearby.bindsN (ps := ["net", "broken"]) fun _ _ _ _ _ _ us hl => match us, hl with | [_, _], _ => rfl
  have G_leads : FnOk P w K mg base CX0 2 T.a_leads T.d_leads ["near", "order", "stand"] (sp_leads K) := ok_leads T
  have b_leads := T.F_leads.bindsN (ps := ["near", "order", "stand"]) fun _ _ _ _ _ _ us hl => match us, hl with | [_, _, _], _ => rfl
  refine fd_ok T.F_first_lists sc_first_lists (fun vs H Q E h => ?_) (fun cdv A outer s H0 vs Q E hr h => ?_)
  · obtain ⟨_, _, _, _, _, _, _, _, _, _, rfl, _⟩ := h
    rfl
  · obtain ⟨F0, v_x_net, x_net, p_x_broken, ws_x_broken, x_broken, x_door, v_x_order, x_order, r, rfl, hS0, r_x_net, hS_x_broken, hl_x_broken, hA_x_broken, nm_x_broken, r_x_order, hm, hQ⟩ := h
    refine ⟨_, (pss_cons (ps_set (i := 4) sc_first_lists.nd rfl (.inl rfl) (pe_call G_beginning (hr.mono (by decide)) (by rfl) T.g_beginning T.F_beginning.kp b_beginning .nil pass0 (pa_cons (pv 0) (pa_cons (pv 2) (pa_cons (pv 3) pa_nil))))) (pss_cons (ps_if (pt_cmpR op_isO (pv 4) pe_non (nomark _)) (pss_one (ps_ret (pe_dnewT))) pss_nil) (pss_cons (ps_set (i := 5) sc_first_lists.nd rfl (.inl rfl) (pe_call G_nearby (hr.mono (by decide)) (by rfl) T.g_nearby T.F_nearby.kp b_nearby .nil pass0 (pa_cons (pv 0) (pa_cons (pv 1) pa_nil)))) (pss_cons (ps_set (i := 6) sc_first_lists.nd rfl (.inl rfl) (pe_dispT (Nat.lt_of_le_of_lt (Nat.le_add_right _ 64) hr.units) (pv 4) (pe_lst (pa_cons (pe_ix (ix_tupK (K := K)) (pv 4) pe_int (fun _ _ => rfl)) pa_nil)))) (pss_cons (ps_set (i := 7) sc_first_lists.nd rfl (.inl rfl) (pe_lst (pa_cons (pv 4) pa_nil))) (pss_cons (ps_while PassesOwn.never (pt_cmpR (op_neDK (K := K) hr.units) (pv 7) (pe_lst pa_nil) (nomark _)) (pss_cons (ps_set (i := 8) sc_first_lists.nd rfl (.inl rfl) (pe_bmK (K := K) PySem.F.plainAttrs_list PySem.F.slot_list_pop PySem.F.type_list_pop mt_popAt (pv 7) (pa_cons pe_int pa_nil))) (pss_cons (ps_set (i := 9) sc_first_lists.nd rfl (.inl rfl) (pe_dget (hu_of hr) (pv 6) (pv 8) (fun _ _ => rfl))) (pss_cons (ps_if (PW.pt (pw_and (pt_cmpR op_notO (pe_ix (ix_tupK (K := K)) (pv 3) pe_int (fun _ _ => rfl)) pe_non (nomark _)) (pw_and1 (pt_cmpR op_gt (pe_callB (call_lenLK (K := K)) (by rfl) T.n_len (by decide +kernel) (pa_cons (pv 9) pa_nil)) (pe_ix (ix_tupK (K := K)) (pv 3) pe_int (fun _ _ => rfl)) (nomark _))))) (pss_one ps_continue) pss_nil) (pss_one (ps_for PassesOwn.never rfl (pi_listK (K := K) (pe_call G_leads (hr.mono (by decide)) (by rfl) T.g_leads T.F_leads.kp b_leads .nil pass0 (pa_cons (pv 5) (pa_cons (pv 3) (pa_cons (pv 8) pa_nil))))) (pg_name (i := 10) sc_first_lists.nd rfl (Or.inl rfl)) (pss_one (ps_if (pt_cmpR (op_notInDic (hu_of hr)) (pv 10) (pv 6) rfl) (pss_cons (ps_dput (hu_of hr) (pv 6) (pv 10) (pe_op (op_catLK (K := K)) (pv 9) (pe_lst (pa_cons (pe_ix (ix_tupK (K := K)) (pv 10) pe_int (fun _ _ => rfl)) pa_nil))) (by rfl)) (pss_one (ps_expr (pe_bmK (K := K) PySem.F.plainAttrs_list PySem.F.slot_list_append PySem.F.type_list_append mt_append (pv 7) (pa_cons (pv 10) pa_nil))))) pss_nil)))))))) (pss_one (ps_ret (pv 6))))))))), ?_⟩
    have g0 : Gr M0 F0 H0 F0 H0 := Gr.refl hS0
    unfold m_first_lists at hm
    refine p_seq ?_
    refine p_asg ?_
    obtain ⟨r1, hb2, hm⟩ := bnd hm
    refine ⟨v_x_net, rfl, (V.int x_door), rfl, v_x_order, rfl, F0, v_x_net, x_net, x_door, v_x_order, x_order, r1, rfl, g0.fh, r_x_net, r_x_order, hb2, fun v6 F3 H4 g5 r7 => ?_⟩
    have g8 := Gr.trans g0 g5
    refine p_name ?_
    refine p_nx ?_
    refine p_seq ?_
    refine p_if ?_
    refine ⟨v6, rfl, _, rfl, (isN_eq r7), _, rfl, (iteB (fun hc => ?_) (fun hc => ?_))⟩
    · have hm := ifT hc hm
      refine p_ret ?_
      refine fun p9 np10 => ?_
      have g11 := g8.own (o := (.dT [])) np10
      have ow12 : Od H0 F3 (upd H4 p9 (.dT [])) p9 (.dT []) := Od.new g8 np10 (fun _ z => nomatch z)
      have hA13 : RD (α := (Int × Int)) (β := (List Int)) K F3 [] [] := RD.nil
      obtain rfl := sjoin hm
      exact (hQ _ _ _ _ g11 ow12.n0 ow12.h ow12.nF (Nat.zero_le _) hA13)
    · have hm := ifF hc hm
      refine p_next ?_
      refine p_nx ?_
      refine p_seq ?_
      refine p_asg ?_
      obtain ⟨r14, hb15, hm⟩ := bnd hm
      refine ⟨v_x_net, rfl, (V.ref p_x_broken), rfl, F3, v_x_net, x_net, p_x_broken, ws_x_broken, x_broken, r14, rfl, g8.fh, (r_x_net.up g5.ff), (g8.seq nm_x_broken hS_x_broken), hl_x_broken, (hA_x_broken.up g5.ff), id, hb15, fun p19 ws20 F16 H17 g18 np21 h22 nF23 hl24 hA25 => ?_⟩
      have n026 := g8.none0 np21
      have g27 := Gr.trans g8 g18
      have ow28 : Ow H0 F16 H17 p19 ws20 := ⟨h22, nF23, n026⟩
      refine p_name ?_
      refine p_nx ?_
      refine p_seq ?_
      refine p_asg ?_
      refine fun p29 np30 => ?_
      have ne31 := ow28.ne np30
      have g32 := g27.own (o := (.dT [])) np30
      have ow33 := ow28.own (o := (.dT [])) np30
      have ow34 : Od H0 F16 (upd H17 p29 (.dT [])) p29 (.dT []) := Od.new g27 np30 (fun _ z => nomatch z)
      have hA35 : RD (α := (Int × Int)) (β := (List Int)) K F16 [] [] := RD.nil
      obtain ⟨t36, hb37, hm⟩ := bnd hm
      have r38 := getO_ok (x := t36) hb37 (r7.up g18.ff)
      obtain ⟨t39, hb40, hm⟩ := bnd hm
      have r41 := getO_ok (x := t39) hb40 (r7.up g18.ff)
      obtain ⟨p42, v45, v46, ev43, hS44, r47, r48⟩ := R.p2_v r41
      obtain rfl := R.int_v r47
      obtain rfl := R.int_v r48
      refine ⟨v6, rfl, v6, rfl, p42, _, _, (V.int t39.2), ev43, rfl, (SqT_mono g32.fh hS44), rfl, (by show 1 ≤ sizeLine; decide), fun p49 np50 => ?_⟩
      have ne51 := ow33.ne np50
      have ne52 := ow34.ne np50
      have g53 := g32.own (o := (.lst [(V.int t39.2)])) np50
      have ow54 := ow33.own (o := (.lst [(V.int t39.2)])) np50
      have ow55 := ow34.own (o := (.lst [(V.int t39.2)])) np50
      have ow56 : Ow H0 F16 (upd (upd H17 p29 (.dT [])) p49 (.lst [(V.int t39.2)])) p49 [(V.int t39.2)] := Ow.new g32 np50
      have hA57 : RL K F16 [(V.int t39.2)] ([t39.2] : List Int) := (RpA.cons (Rp.int t39.2) RpA.nil)
      have sm58 := ow56.sf
      have g59 := g53.fz ow56
      have ow60 : Ow H0 (upd F16 p49 (.lst [(V.int t39.2)])) (upd (upd H17 p29 (.dT [])) p49 (.lst [(V.int t39.2)])) p19 ws20 := ow54.fz ne51
      have ow61 : Od H0 (upd F16 p49 (.lst [(V.int t39.2)])) (upd (upd H17 p29 (.dT [])) p49 (.lst [(V.int t39.2)])) p29 (.dT []) := ow55.fz ne52
      have r62 : R K (upd F16 p49 (.lst [(V.int t39.2)])) (.ref p49) ([t39.2] : List Int) := R.mkl fzS (by show 1 ≤ sizeLine; decide) (RpA.up hA57 sm58)
      obtain ⟨b63, e64, hb65⟩ := ik_tup (r38.up sm58)
      refine ⟨ow61.h, b63, (ikeys (IK.ks (t36 : (Int × Int)))), e64, (g59.fh _ _ hb65), ?_⟩
      have hA66 : RD (α := (Int × Int)) (β := (List Int)) K (upd F16 p49 (.lst [(V.int t39.2)])) [((DK.k (t36 : (Int × Int))), (V.ref p49))] [(t36, ([t39.2] : List Int))] := RD.one _ (DK.okR (r38.up sm58)) r62
      have g67 := Gr.mut (o := (.dT [((DK.k (t36 : (Int × Int))), (V.ref p49))])) g59 ow61.nF (.inl ow61.n0)
      have ow68 := ow60.other (o := (.dT [((DK.k (t36 : (Int × Int))), (V.ref p49))])) ne31
      have ow69 := ow61.put (o := (.dT [((DK.k (t36 : (Int × Int))), (V.ref p49))])) (fun _ z => nomatch z)
      obtain ⟨x_lists70, hb71, hm⟩ := bnd hm
      have hx72 : ([(t36, ([t39.2] : List Int))] : (List ((Int × Int) × (List Int)))) = x_lists70 := sjoin hb71
      have hA73 : RD (α := (Int × Int)) (β := (List Int)) K (upd F16 p49 (.lst [(V.int t39.2)])) [((DK.k (t36 : (Int × Int))), (V.ref p49))] x_lists70 := RD.re hx72 hA66
      refine p_name ?_
      refine p_nx ?_
      refine p_seq ?_
      refine p_asg ?_
      refine ⟨v6, rfl, (by show 1 ≤ sizeLine; decide), fun p74 np75 => ?_⟩
      have ne76 := ow68.ne np75
      have ne77 := ow69.ne np75
      have g78 := g67.own (o := (.lst [v6])) np75
      have ow79 := ow68.own (o := (.lst [v6])) np75
      have ow80 := ow69.own (o := (.lst [v6])) np75
      have ow81 : Ow H0 (upd F16 p49 (.lst [(V.int t39.2)])) (upd (upd (upd (upd H17 p29 (.dT [])) p49 (.lst [(V.int t39.2)])) p29 (.dT [((DK.k (t36 : (Int × Int))), (V.ref p49))])) p74 (.lst [v6])) p74 [v6] := Ow.new g67 np75
      have hA82 : RL K (upd F16 p49 (.lst [(V.int t39.2)])) [v6] ([r1] : List (Option (Int × Int))) := (RpA.cons (r7.up (Same.trans g18.ff sm58)) RpA.nil)
      obtain ⟨x_waiting83, hb84, hm⟩ := bnd hm
      have hx85 : ([r1] : List (Option (Int × Int))) = x_waiting83 := sjoin hb84
      have hA86 : RL K (upd F16 p49 (.lst [(V.int t39.2)])) [v6] x_waiting83 := RL.re hx85 hA82
      refine p_name ?_
      refine p_nx ?_
      refine p_seq ?_
      obtain ⟨x_waiting87, x_lists88, ht89, hm⟩ := bnd2 hm
      refine ⟨fun i σ' H' => ∃ (F' : Hp) (o_x_stand : Option V) (o_x_houses : Option V) (o_x_other : Option V) (x_waiting : (List (Option (Int × Int)))) (ws_x_waiting : List V) (x_lists : (List ((Int × Int) × (List Int)))) (ws_x_lists : (List (List Key × V))), σ' = [(some v_x_net), (some (V.ref p_x_broken)), (some (V.int x_door)), (some v_x_order), (some v6), (some (V.ref p19)), (some (V.ref p29)), (some (V.ref p74)), o_x_stand, o_x_houses, o_x_other] ∧ Gr M0 F0 H0 F' H' ∧ Same (upd F16 p49 (.lst [(V.int t39.2)])) F' ∧ Ow H0 F' H' p74 ws_x_waiting ∧ ws_x_waiting.length ≤ sizeLine ∧ RL K F' ws_x_waiting x_waiting ∧ Od H0 F' H' p29 (.dT ws_x_lists) ∧ ws_x_lists.length ≤ sizeLine ∧ RD (α := (Int × Int)) (β := (List Int)) K F' ws_x_lists x_lists ∧ Ow H0 F' H' p19 ws20 ∧ m_first_lists_l1 x_order r14 i x_waiting x_lists = some (x_waiting87, x_lists88), ⟨100000, ⟨(upd F16 p49 (.lst [(V.int t39.2)])), none, none, none, x_waiting83, [v6], x_lists70, [((DK.k (t36 : (Int × Int))), (V.ref p49))], rfl, g78, (Same.refl _), ow81, (by show 1 ≤ sizeLine; decide), hA86, ow80, (by show 1 ≤ sizeLine; decide), hA73, ow79, ht89⟩⟩, ?_⟩
      intro i σ90 H91 hP
      obtain ⟨F92, o_x_stand93, o_x_houses94, o_x_other95, x_waiting96, ws_x_waiting97, x_lists98, ws_x_lists99, rfl, g100, sm101, ow_x_waiting102, hl_x_waiting103, hA_x_waiting104, ow_x_lists105, hl_x_lists106, hA_x_lists107, owk0108, hm109⟩ := hP
      cases i with | zero => exact absurd hm109 (by rw [m_first_lists_l1.eq_1]; exact nofun) | succ i => ?_
      rw [m_first_lists_l1.eq_2] at hm109
      refine ⟨(V.ref p74), rfl, (by show 0 ≤ sizeLine; decide), fun p110 np111 => ?_⟩
      have ne112 := owk0108.ne np111
      have ne113 := ow_x_lists105.ne np111
      have ne114 := ow_x_waiting102.ne np111
      have g115 := g100.own (o := (.lst [])) np111
      have ow116 := owk0108.own (o := (.lst [])) np111
      have ow117 := ow_x_lists105.own (o := (.lst [])) np111
      have ow118 := ow_x_waiting102.own (o := (.lst [])) np111
      have ow119 : Ow H0 F92 (upd H91 p110 (.lst [])) p110 [] := Ow.new g100 np111
      have rH121 : R K (upd H91 p110 (.lst [])) (V.ref p74) x_waiting96 := (R.mkl ow118.sq hl_x_waiting103 (RpA.up hA_x_waiting104 g115.fh))
      have rH122 : R K (upd H91 p110 (.lst [])) (V.ref p110) ([] : (List (Option (Int × Int)))) := (R.mkl ow119.sq (by show 0 ≤ sizeLine; decide) (RpA.up RpA.nil g115.fh))
      refine ⟨_, _, (Rp.dp _ _ rH121), (Rp.dp _ _ rH122), (R.shaped rH121), (R.shaped rH122), _, rfl, (iteB (fun hc => ?_) (fun hc => ?_))⟩
      · have hm109 := ifT hc hm109
        refine ⟨fun σ' H' => ∃ (F' : Hp) (o_x_stand : Option V) (o_x_houses : Option V) (o_x_other : Option V) (x_waiting : (List (Option (Int × Int)))) (ws_x_waiting : List V) (x_lists : (List ((Int × Int) × (List Int)))) (ws_x_lists : (List (List Key × V))), σ' = [(some v_x_net), (some (V.ref p_x_broken)), (some (V.int x_door)), (some v_x_order), (some v6), (some (V.ref p19)), (some (V.ref p29)), (some (V.ref p74)), o_x_stand, o_x_houses, o_x_other] ∧ Gr M0 F0 H0 F' H' ∧ Same (upd F16 p49 (.lst [(V.int t39.2)])) F' ∧ Ow H0 F' H' p74 ws_x_waiting ∧ ws_x_waiting.length ≤ sizeLine ∧ RL K F' ws_x_waiting x_waiting ∧ Od H0 F' H' p29 (.dT ws_x_lists) ∧ ws_x_lists.length ≤ sizeLine ∧ RD (α := (Int × Int)) (β := (List Int)) K F' ws_x_lists x_lists ∧ Ow H0 F' H' p19 ws20 ∧ m_first_lists_l1 x_order r14 i x_waiting x_lists = some (x_waiting87, x_lists88), fun _ _ n => ⟨i, Nat.lt_succ_self i, n⟩, ?_⟩
        refine p_id ?_
        refine p_seq ?_
        refine p_asg ?_
        obtain ⟨t123, x_waiting124, hb125, hm109⟩ := bnd2 hm109
        obtain ⟨j126, hj127, hx128, rfl⟩ := popI_ok hb125
        obtain ⟨v129, hv130, r131⟩ := RL.back hA_x_waiting104 hx128
        have hi132 := popI_at (n := ws_x_waiting97.length) (by rw [RL.len hA_x_waiting104]; exact hj127) hl_x_waiting103
        refine ⟨(V.ref p74), rfl, (.inl ⟨rfl, _, ow118.sq⟩), p74, ws_x_waiting97, _, j126, v129, rfl, rfl, ow118.h, hi132.1.1, hi132.1.2, hi132.2, hv130, ?_⟩
        have hA133 := RL.erase j126 hA_x_waiting104
        have g134 := g115.put (o := (.lst (ws_x_waiting97.eraseIdx j126))) ow118
        have ow135 := ow116.other (o := (.lst (ws_x_waiting97.eraseIdx j126))) ne76
        have ow136 := ow117.other (o := (.lst (ws_x_waiting97.eraseIdx j126))) ne77
        have ow137 := ow119.other (o := (.lst (ws_x_waiting97.eraseIdx j126))) (Ne.symm ne114)
        have ow138 := ow118.put (us := (ws_x_waiting97.eraseIdx j126))
        refine p_name ?_
        refine p_nx ?_
        refine p_seq ?_
        refine p_asg ?_
        obtain ⟨t139, hb140, hm109⟩ := bnd hm109
        have r141 := getO_ok (x := t139) hb140 r131
        obtain ⟨t142, hb143, hm109⟩ := bnd hm109
        obtain ⟨v144, hv145, r146⟩ := RD.get hA_x_lists107 (x := t139) hb143
        have hg147 := (DK.get (α := (Int × Int)) (.inl ow136.h) r141 g134.fh)
        rw [hv145] at hg147
        refine ⟨(V.ref p29), rfl, v129, rfl, p29, v144, rfl, hg147, ?_⟩
        refine p_name ?_
        refine p_nx ?_
        refine p_seq ?_
        refine p_if ?_
        obtain ⟨p148, v151, v152, v153, v154, ev149, hS150, r155, r156, r157, r158⟩ := R.p4_v r_x_order
        obtain rfl := R.int_v r155
        refine ⟨v_x_order, rfl, p148, _, _, v154, ev149, rfl, (SqT_mono g134.fh (SqT_mono (Same.trans g5.ff (Same.trans g18.ff (Same.trans sm58 sm101))) hS150)), rfl, _, rfl, (isN_eq (r158.up (Same.trans g5.ff (Same.trans g18.ff (Same.trans sm58 sm101))))), _, rfl, ?_⟩
        obtain ⟨c159, hc160, hm109⟩ := bnd hm109
        refine andJT (M := M0) (F := F92) (c := c159) (P := fun _ _ => True) (fun ha => ?_) (fun ha => ⟨(sjoin (ifF ha hc160)).symm, trivial⟩) g134.fh ?_
        · intro Q162 q163
          have hc160 := ifT ha hc160
          obtain ⟨p164, ws165, ev166, hS167, hl168, hA169⟩ := R.lst_v r146
          obtain ⟨t170, hb171, hc160⟩ := bnd hc160
          have eq172 : v154 = V.int t170 := R.int_v (getO_ok (x := t170) hb171 (r158.up (Same.trans g5.ff (Same.trans g18.ff (Same.trans sm58 sm101)))))
          obtain rfl := sjoin hc160
          refine ⟨v144, rfl, p164, ws165, _, (by rw [ev166]), (.inl (Same.seq g134.fh hS167)), (RL.len hA169), v_x_order, rfl, p148, _, _, v154, ev149, rfl, (SqT_mono g134.fh (SqT_mono (Same.trans g5.ff (Same.trans g18.ff (Same.trans sm58 sm101))) hS150)), rfl, _, _, rfl, eq172, _, rfl, (q163 _ _ (Gr.refl (M := M0) g134.fh) trivial)⟩
        intro F173 H174 g175 hB176
        have g177 := Gr.trans g134 g175
        have ow178 := ow135.gr0 g175
        have ow179 := ow136.gr0 g175
        have ow180 := ow138.gr0 g175
        have ow181 := ow137.gr0 g175
        refine (iteB (fun hc => ?_) (fun hc => ?_))
        · have hm109 := ifT hc hm109
          refine p_cont ?_
          exact ⟨F173, (some v129), (some v144), o_x_other95, (x_waiting96.eraseIdx j126), (ws_x_waiting97.eraseIdx j126), x_lists98, ws_x_lists99, rfl, g177, (Same.trans sm101 g175.ff), ow180, (erase_le hl_x_waiting103), (hA133.up g175.ff), ow179, hl_x_lists106, (hA_x_lists107.up g175.ff), ow178, hm109⟩
        · have hm109 := ifF hc hm109
          refine p_next ?_
          refine p_nx ?_
          refine p_for ?_
          obtain ⟨t182, hb183, hm109⟩ := bnd hm109
          have r184 := getO_ok (x := t182) hb183 (r131.up g175.ff)
          obtain ⟨r185, hb186, hm109⟩ := bnd hm109
          refine ⟨(V.ref p19), rfl, v_x_order, rfl, v129, rfl, F173, p19, ws20, r14, v_x_order, x_order, v129, t182, r185, rfl, g177.fh, ow178.sq, hl24, (hA25.up (Same.trans sm58 (Same.trans sm101 g175.ff))), id, (r_x_order.up (Same.trans g5.ff (Same.trans g18.ff (Same.trans sm58 (Same.trans sm101 g175.ff))))), r184, hb186, fun p190 ws191 F187 H188 g189 np192 h193 nF194 hl195 hA196 => ?_⟩
          have ne197 := ow178.ne np192
          have ne198 := ow179.ne np192
          have ne199 := ow180.ne np192
          have ne200 := ow181.ne np192
          have n0201 := g177.none0 np192
          have g202 := Gr.trans g177 g189
          have ow203 := ow178.gr0 g189
          have ow204 := ow179.gr0 g189
          have ow205 := ow180.gr0 g189
          have ow206 := ow181.gr0 g189
          have ow207 : Ow H0 F187 H188 p190 ws191 := ⟨h193, nF194, n0201⟩
          refine ⟨p190, rfl, ⟨_, ow207.sq⟩, ?_⟩
          obtain ⟨x_lists208, x_waiting209, ht210, hm109⟩ := bnd2 hm109
          refine for_list (K := K) (a := p190) (xs := ws191) (fun i σ' H' => ∃ (F' : Hp) (o_x_other : Option V) (x_lists : (List ((Int × Int) × (List Int)))) (ws_x_lists : (List (List Key × V))) (x_waiting : (List (Option (Int × Int)))) (ws_x_waiting : List V), σ' = [(some v_x_net), (some (V.ref p_x_broken)), (some (V.int x_door)), (some v_x_order), (some v6), (some (V.ref p19)), (some (V.ref p29)), (some (V.ref p74)), (some v129), (some v144), o_x_other] ∧ Gr M0 F0 H0 F' H' ∧ Same F187 F' ∧ Od H0 F' H' p29 (.dT ws_x_lists) ∧ ws_x_lists.length ≤ sizeLine ∧ RD (α := (Int × Int)) (β := (List Int)) K F' ws_x_lists x_lists ∧ Ow H0 F' H' p74 ws_x_waiting ∧ ws_x_waiting.length ≤ sizeLine ∧ RL K F' ws_x_waiting x_waiting ∧ Ow H0 F' H' p19 ws20 ∧ Ow H0 F' H' p190 ws191 ∧ m_first_lists_l2 t142 (r185.drop i) x_lists x_waiting = some (x_lists208, x_waiting209)) ?_ ?_ ?_ ?_
          · exact ⟨F187, o_x_other95, x_lists98, ws_x_lists99, (x_waiting96.eraseIdx j126), (ws_x_waiting97.eraseIdx j126), rfl, g202, (Same.refl _), ow204, hl_x_lists106, (hA_x_lists107.up (Same.trans g175.ff g189.ff)), ow205, (erase_le hl_x_waiting103), (hA133.up (Same.trans g175.ff g189.ff)), ow203, ow207, ht210⟩
          · intro i σ' H' _ hP
            obtain ⟨F', o_x_other, x_lists, ws_x_lists, x_waiting, ws_x_waiting, rfl, g_, sm_, ow_x_lists, hl_x_lists, hA_x_lists, ow_x_waiting, hl_x_waiting, hA_x_waiting, owk0_, owk1_, hm_⟩ := hP
            exact owk1_.sq
          · intro i211 xv214 σ' H213 hx212 hP
            obtain ⟨F215, o_x_other216, x_lists217, ws_x_lists218, x_waiting219, ws_x_waiting220, rfl, g221, sm222, ow_x_lists223, hl_x_lists224, hA_x_lists225, ow_x_waiting226, hl_x_waiting227, hA_x_waiting228, owk0229, owk1230, hm231⟩ := hP
            obtain ⟨e232, he233, r234⟩ := RL.get (hA196.up sm222) hx212
            rw [drop_at he233, m_first_lists_l2.eq_2] at hm231
            refine p_name ?_
            refine p_if ?_
            refine ⟨xv214, rfl, (V.ref p29), rfl, p29, _, (dval x_lists217 e232).isSome, rfl, (DK.get (α := (Int × Int)) (.inl ow_x_lists223.h) r234 g221.fh), (RD.is hA_x_lists225 e232), _, rfl, (iteB (fun hc => ?_) (fun hc => ?_))⟩
            · have hm231 := ifT hc hm231
              refine p_seq ?_
              obtain ⟨p235, v238, v239, ev236, hS237, r240, r241⟩ := R.p2_v r234
              obtain rfl := R.int_v r240
              obtain rfl := R.int_v r241
              refine ⟨v144, rfl, xv214, rfl, p235, _, _, (V.int e232.2), ev236, rfl, (SqT_mono g221.fh hS237), rfl, (by show 1 ≤ sizeLine; decide), fun p242 np243 => ?_⟩
              have ne244 := owk0229.ne np243
              have ne245 := ow_x_lists223.ne np243
              have ne246 := ow_x_waiting226.ne np243
              have ne247 := owk1230.ne np243
              have g248 := g221.own (o := (.lst [(V.int e232.2)])) np243
              have ow249 := owk0229.own (o := (.lst [(V.int e232.2)])) np243
              have ow250 := ow_x_lists223.own (o := (.lst [(V.int e232.2)])) np243
              have ow251 := ow_x_waiting226.own (o := (.lst [(V.int e232.2)])) np243
              have ow252 := owk1230.own (o := (.lst [(V.int e232.2)])) np243
              have ow253 : Ow H0 F215 (upd H213 p242 (.lst [(V.int e232.2)])) p242 [(V.int e232.2)] := Ow.new g221 np243
              have hA254 : RL K F215 [(V.int e232.2)] ([e232.2] : List Int) := (RpA.cons (Rp.int e232.2) RpA.nil)
              obtain ⟨t255, hb256, hm231⟩ := bnd hm231
              obtain ⟨hk257, rfl⟩ := conL_ok hb256
              obtain ⟨p258, ws259, ev260, hS261, hl262, hA263⟩ := R.lst_v r146
              have hz266 : (ws259 ++ [(V.int e232.2)]).length ≤ sizeLine := by rw [List.length_append, RL.len (hA263.up (Same.trans g175.ff (Same.trans g189.ff sm222))), RL.len hA254]; exact hk257
              refine ⟨p258, p242, ws259, [(V.int e232.2)], ev260, rfl, (Same.seq g248.fh (Same.seq (Same.trans g175.ff (Same.trans g189.ff sm222)) hS261)), ow253.sq, (by rw [RL.len (hA263.up (Same.trans g175.ff (Same.trans g189.ff sm222))), RL.len hA254]; exact hk257), fun p264 np265 => ?_⟩
              have hA267 := RL.app (hA263.up (Same.trans g175.ff (Same.trans g189.ff sm222))) hA254
              have ne269 := ow249.ne np265
              have ne270 := ow250.ne np265
              have ne271 := ow251.ne np265
              have ne272 := ow252.ne np265
              have ne273 := ow253.ne np265
              have g274 := g248.own (o := (.lst (ws259 ++ [(V.int e232.2)]))) np265
              have ow275 := ow249.own (o := (.lst (ws259 ++ [(V.int e232.2)]))) np265
              have ow276 := ow250.own (o := (.lst (ws259 ++ [(V.int e232.2)]))) np265
              have ow277 := ow251.own (o := (.lst (ws259 ++ [(V.int e232.2)]))) np265
              have ow278 := ow252.own (o := (.lst (ws259 ++ [(V.int e232.2)]))) np265
              have ow279 := ow253.own (o := (.lst (ws259 ++ [(V.int e232.2)]))) np265
              have ow280 : Ow H0 F215 (upd (upd H213 p242 (.lst [(V.int e232.2)])) p264 (.lst (ws259 ++ [(V.int e232.2)]))) p264 (ws259 ++ [(V.int e232.2)]) := Ow.new g248 np265
              have sm281 := ow280.sf
              have g282 := g274.fz ow280
              have ow283 : Ow H0 (upd F215 p264 (.lst (ws259 ++ [(V.int e232.2)]))) (upd (upd H213 p242 (.lst [(V.int e232.2)])) p264 (.lst (ws259 ++ [(V.int e232.2)]))) p19 ws20 := ow275.fz ne269
              have ow284 : Od H0 (upd F215 p264 (.lst (ws259 ++ [(V.int e232.2)]))) (upd (upd H213 p242 (.lst [(V.int e232.2)])) p264 (.lst (ws259 ++ [(V.int e232.2)]))) p29 (.dT ws_x_lists218) := ow276.fz ne270
              have ow285 : Ow H0 (upd F215 p264 (.lst (ws259 ++ [(V.int e232.2)]))) (upd (upd H213 p242 (.lst [(V.int e232.2)])) p264 (.lst (ws259 ++ [(V.int e232.2)]))) p74 ws_x_waiting220 := ow277.fz ne271
              have ow286 : Ow H0 (upd F215 p264 (.lst (ws259 ++ [(V.int e232.2)]))) (upd (upd H213 p242 (.lst [(V.int e232.2)])) p264 (.lst (ws259 ++ [(V.int e232.2)]))) p190 ws191 := ow278.fz ne272
              have ow287 : Ow H0 (upd F215 p264 (.lst (ws259 ++ [(V.int e232.2)]))) (upd (upd H213 p242 (.lst [(V.int e232.2)])) p264 (.lst (ws259 ++ [(V.int e232.2)]))) p242 [(V.int e232.2)] := ow279.fz ne273
              have r288 : R K (upd F215 p264 (.lst (ws259 ++ [(V.int e232.2)]))) (.ref p264) (t142 ++ ([e232.2] : List Int)) := R.mkl fzS hz266 (RpA.up hA267 sm281)
              obtain ⟨x_lists289, hb291, hm231⟩ := bnd hm231
              obtain ⟨hl290, rfl⟩ := dputO_ok hb291
              have hl292 := dput_le (α := (Int × Int)) (x := e232) (v := (V.ref p264)) (hA_x_lists225.up sm281) hl290
              refine ⟨(V.ref p29), rfl, xv214, rfl, p29, _, rfl, (DK.put (α := (Int × Int)) ow284.h (r234.up sm281) g282.fh (by rw [RD.len (hA_x_lists225.up sm281)]; exact hl290)), ?_⟩
              have hA293 : RD (α := (Int × Int)) (β := (List Int)) K (upd F215 p264 (.lst (ws259 ++ [(V.int e232.2)]))) (putK ws_x_lists218 (DK.k (e232 : (Int × Int))) (V.ref p264)) (dput x_lists217 e232 (t142 ++ ([e232.2] : List Int))) := RD.put (hA_x_lists225.up sm281) e232 (DK.okR (r234.up sm281)) r288
              have g294 := Gr.mut (o := (.dT (putK ws_x_lists218 (DK.k (e232 : (Int × Int))) (V.ref p264)))) g282 ow284.nF (.inl ow284.n0)
              have ow295 := ow283.other (o := (.dT (putK ws_x_lists218 (DK.k (e232 : (Int × Int))) (V.ref p264)))) ne31
              have ow296 := ow285.other (o := (.dT (putK ws_x_lists218 (DK.k (e232 : (Int × Int))) (V.ref p264)))) (Ne.symm ne77)
              have ow297 := ow286.other (o := (.dT (putK ws_x_lists218 (DK.k (e232 : (Int × Int))) (V.ref p264)))) (Ne.symm ne198)
              have ow298 := ow287.other (o := (.dT (putK ws_x_lists218 (DK.k (e232 : (Int × Int))) (V.ref p264)))) (Ne.symm ne245)
              have ow299 := ow284.put (o := (.dT (putK ws_x_lists218 (DK.k (e232 : (Int × Int))) (V.ref p264)))) (fun _ z => nomatch z)
              refine p_nx ?_
              refine p_drop ?_
              obtain ⟨t300, hb301, hm231⟩ := bnd hm231
              obtain ⟨hk302, rfl⟩ := appL_ok hb301
              refine ⟨(V.ref p74), rfl, (.inl ⟨rfl, _, ow296.sq⟩), xv214, rfl, p74, ws_x_waiting220, xv214, rfl, rfl, ow296.h, (by rw [RL.len (hA_x_waiting228.up sm281)]; exact hk302), ?_⟩
              have hA303 : RL K (upd F215 p264 (.lst (ws259 ++ [(V.int e232.2)]))) (ws_x_waiting220 ++ [xv214]) (x_waiting219 ++ [((some e232) : (Option (Int × Int)))]) := RL.snoc (hA_x_waiting228.up sm281) (r234.up sm281)
              have hl304 : (ws_x_waiting220 ++ [xv214]).length ≤ sizeLine := by rw [List.length_append, RL.len (hA_x_waiting228.up sm281)]; exact hk302
              have g305 := g294.put (o := (.lst (ws_x_waiting220 ++ [xv214]))) ow296
              have ow306 := ow295.other (o := (.lst (ws_x_waiting220 ++ [xv214]))) ne76
              have ow307 := ow299.other (o := (.lst (ws_x_waiting220 ++ [xv214]))) ne77
              have ow308 := ow297.other (o := (.lst (ws_x_waiting220 ++ [xv214]))) (Ne.symm ne199)
              have ow309 := ow298.other (o := (.lst (ws_x_waiting220 ++ [xv214]))) (Ne.symm ne246)
              have ow310 := ow296.put (us := (ws_x_waiting220 ++ [xv214]))
              exact ⟨(upd F215 p264 (.lst (ws259 ++ [(V.int e232.2)]))), (some xv214), (dput x_lists217 e232 (t142 ++ ([e232.2] : List Int))), (putK ws_x_lists218 (DK.k (e232 : (Int × Int))) (V.ref p264)), (x_waiting219 ++ [(some e232)]), (ws_x_waiting220 ++ [xv214]), rfl, g305, (Same.trans sm222 sm281), ow307, hl292, hA293, ow310, hl304, hA303, ow306, ow308, hm231⟩
            · have hm231 := ifF hc hm231
              refine p_next ?_
              exact ⟨F215, (some xv214), x_lists217, ws_x_lists218, x_waiting219, ws_x_waiting220, rfl, g221, sm222, ow_x_lists223, hl_x_lists224, hA_x_lists225, ow_x_waiting226, hl_x_waiting227, hA_x_waiting228, owk0229, owk1230, hm231⟩
          intro σ311 H312 hP
          obtain ⟨F313, o_x_other314, x_lists315, ws_x_lists316, x_waiting317, ws_x_waiting318, rfl, g319, sm320, ow_x_lists321, hl_x_lists322, hA_x_lists323, ow_x_waiting324, hl_x_waiting325, hA_x_waiting326, owk0327, owk1328, hm329⟩ := hP
          rw [drop_end (RL.len (hA196.up sm320)), m_first_lists_l2.eq_1] at hm329
          obtain ⟨rfl, rfl⟩ := pjoin hm329
          exact ⟨F313, (some v129), (some v144), o_x_other314, x_waiting317, ws_x_waiting318, x_lists315, ws_x_lists316, rfl, g319, (Same.trans sm101 (Same.trans g175.ff (Same.trans g189.ff sm320))), ow_x_waiting324, hl_x_waiting325, hA_x_waiting326, ow_x_lists321, hl_x_lists322, hA_x_lists323, owk0327, hm109⟩
      have hm109 := ifF hc hm109
      obtain ⟨rfl, rfl⟩ := pjoin hm109
      refine p_nx ?_
      refine p_ret ?_
      obtain rfl := sjoin hm
      refine ⟨(V.ref p29), rfl, (hQ _ _ _ _ g115 ow117.n0 ow117.h ow117.nF hl_x_lists106 hA_x_lists107)⟩
end K28
namespace K28
open PySem PySem.Spec PyProof.Rows L2 TL G
theorem ok_way {P : Program} {w : World} {K : PySem.W.Frag} {mg : Str → Option Value} {base : Heap} (T : Txt K mg) : FnOk P w K mg base CX0 4 T.a_way T.d_way ["net", "broken", "door", "order"] (sp_way K) := by
  have G_first_lists : FnOk P w K mg base CX0 3 T.a_first_lists T.d_first_lists ["net", "broken", "door", "order"] (sp_first_lists K) := ok_first_lists T
  have b_first_lists := T.F_first_lists.bindsN (ps := ["net", "broken", "door", "order"]) fun _ _ _ _ _ _ us hl => match us, hl with | [_, _, _, _], _ => rfl
  have G_goal_of : FnOk P w K mg base CX0 1 T.a_goal_of T.d_goal_of ["net", "order"] (sp_goal_of K) := ok_goal_of T
  have b_goal_of := T.F_goal_of.bindsN (ps := ["net", "order"]) fun _ _ _ _ _ _ us hl => match us, hl with | [_, _], _ => rfl
  refine fd_ok T.F_way sc_way (fun vs H Q E h => ?_) (fun cdv A outer s H0 vs Q E hr h => ?_)
  · obtain ⟨_, _, _, _, _, _, _, _, _, _, rfl, _⟩ := h
    rfl
  · obtain ⟨F0, v_x_net, x_net, p_x_broken, ws_x_broken, x_broken, x_door, v_x_order, x_order, r, rfl, hS0, r_x_net, hS_x_broken, hl_x_broken, hA_x_broken, nm_x_broken, r_x_order, hm, hQ⟩ := h
    refine ⟨_, (pss_cons (ps_set (i := 4) sc_way.nd rfl (.inl rfl) (pe_call G_first_lists (hr.mono (by decide)) (by rfl) T.g_first_lists T.F_first_lists.kp b_first_lists .nil pass0 (pa_cons (pv 0) (pa_cons (pv 1) (pa_cons (pv 2) (pa_cons (pv 3) pa_nil)))))) (pss_cons (ps_set (i := 5) sc_way.nd rfl (.inl rfl) (pe_call G_goal_of (hr.mono (by decide)) (by rfl) T.g_goal_of T.F_goal_of.kp b_goal_of .nil pass0 (pa_cons (pv 0) (pa_cons (pv 3) pa_nil)))) (pss_cons (ps_if (pt_cmpR (op_inDic (hu_of hr)) (pv 5) (pv 4) rfl) (pss_one (ps_ret (pe_tup (pa_cons pe_str (pa_cons (pe_dget (hu_of hr) (pv 4) (pv 5) (fun _ _ => rfl)) pa_nil))))) pss_nil) (pss_one (ps_ret (pe_tup (pa_cons pe_str (pa_cons (pe_callB (cr_sortedTK_ (α := (T3 Int Int Int)) (K := K)) (by rfl) T.n_sorted (by decide +kernel) (pa_cons (pe_lock (pe_lc (own := [("stand", 6), ("houses", 7)]) rfl sc_way.nd (pi_itemsT (pv 4)) (blkOk_by (own := [("stand", 6), ("houses", 7)]) (N := N_way) (sc := defScope s_way) (by decide +kernel)) (fun _ _ _ _ _ => (pg_tupK (K := K) 2 rfl (pgs_cons (pg_name (i := 6) sc_way.nd rfl (Or.inl rfl) (.inr rfl)) (pgs_cons (pg_name (i := 7) sc_way.nd rfl (Or.inl rfl) (.inr rfl)) pgs_nil)))) (fun _ _ _ _ _ => pts_nil) (fun _ _ _ _ _ => (pe_op (op_catTK (K := K)) (pv 6) (pe_tup (pa_cons (pe_op op_sub (pe_callB (call_lenLK (K := K)) (by rfl) T.n_len (by decide +kernel) (pa_cons (pv 7) pa_nil)) pe_int) pa_nil)))))) pa_nil)) pa_nil)))))))), ?_⟩
    have g0 : Gr M0 F0 H0 F0 H0 := Gr.refl hS0
    unfold m_way at hm
    refine p_seq ?_
    refine p_asg ?_
    obtain ⟨r1, hb2, hm⟩ := bnd hm
    refine ⟨v_x_net, rfl, (V.ref p_x_broken), rfl, (V.int x_door), rfl, v_x_order, rfl, F0, v_x_net, x_net, p_x_broken, ws_x_broken, x_broken, x_door, v_x_order, x_order, r1, rfl, g0.fh, r_x_net, (g0.seq nm_x_broken hS_x_broken), hl_x_broken, hA_x_broken, id, r_x_order, hb2, fun p6 ws7 F3 H4 g5 np8 h9 nF10 hl11 hA12 => ?_⟩
    have n013 := g0.none0 np8
    have g14 := Gr.trans g0 g5
    have ow15 : Od H0 F3 H4 p6 (.dT ws7) := ⟨h9, nF10, n013, fun _ z => nomatch z⟩
    refine p_name ?_
    refine p_nx ?_
    refine p_seq ?_
    refine p_asg ?_
    obtain ⟨r16, hb17, hm⟩ := bnd hm
    refine ⟨v_x_net, rfl, v_x_order, rfl, F3, v_x_net, x_net, v_x_order, x_order, r16, rfl, g14.fh, (r_x_net.up g5.ff), (r_x_order.up g5.ff), hb17, fun v21 F18 H19 g20 r22 => ?_⟩
    have g23 := Gr.trans g14 g20
    have ow24 := ow15.gr0 g20
    refine p_name ?_
    refine p_nx ?_
    refine p_seq ?_
    refine p_if ?_
    refine ⟨v21, rfl, (V.ref p6), rfl, p6, _, (dval r1 r16).isSome, rfl, (DK.get (α := (Int × Int)) (.inl ow24.h) r22 g23.fh), (RD.is (hA12.up g20.ff) r16), _, rfl, (iteB (fun hc => ?_) (fun hc => ?_))⟩
    · have hm := ifT hc hm
      refine p_ret ?_
      obtain ⟨t25, hb26, hm⟩ := bnd hm
      obtain ⟨v27, hv28, r29⟩ := RD.get (hA12.up g20.ff) (x := r16) hb26
      have hg30 := (DK.get (α := (Int × Int)) (.inl ow24.h) r22 g23.fh)
      rw [hv28] at hg30
      have r31 : R K F18 v27 (((Sum.inl) t25) : ((List Int) ⊕ (List (T3 Int Int Int)))) := r29
      refine ⟨(V.ref p6), rfl, v21, rfl, p6, v27, rfl, hg30, (by show 2 ≤ sizeLine; decide), fun p32 np33 => ?_⟩
      have ne34 := ow24.ne np33
      have sm35 := same_new (o := (.tup [(V.str ("way" : Str)), v27])) (g23.noneF np33)
      have g36 := g23.frz (o := (.tup [(V.str ("way" : Str)), v27])) np33
      have ow37 := ow24.frz (o := (.tup [(V.str ("way" : Str)), v27])) np33
      have r38 : R K (upd F18 p32 (.tup [(V.str ("way" : Str)), v27])) (.ref p32) ((("way" : Str), (((Sum.inl) t25) : ((List Int) ⊕ (List (T3 Int Int Int))))) : (Str × ((List Int) ⊕ (List (T3 Int Int Int))))) := R.mk2 fzT (Rp.str ("way" : Str) ⟨by decide +kernel, by decide +kernel⟩) (r31.up sm35)
      obtain rfl := sjoin hm
      exact (hQ _ _ _ g36 r38)
    · have hm := ifF hc hm
      refine p_next ?_
      refine p_nx ?_
      refine p_ret ?_
      refine ⟨p6, (.dT ws7), ow24.h, trivial, fun od39 => ?_⟩
      have g40 := Gr.mut (o := (.frz od39 (.dT ws7))) g23 ow24.nF (.inl ow24.n0)
      have ow41 := ow24.put (o := (.frz od39 (.dT ws7))) (fun _ z => nomatch z)
      refine ⟨(V.ref p6), rfl, p6, od39, ws7, rfl, ow41.h, fun D42 nD43 => ?_⟩
      have ne44 := ow41.ne nD43
      have g45 := g40.own (o := (.lst [])) nD43
      have ow46 := ow41.own (o := (.lst [])) nD43
      have ow47 : Ow H0 F18 (upd (upd H19 p6 (.frz od39 (.dT ws7))) D42 (.lst [])) D42 [] := Ow.new g40 nD43
      refine lc_itemsT (d := p6) (o := od39) (kvs := ws7) (fun i H' => ∃ (F' : Hp) (acc : List V) (ds : List (T3 Int Int Int)), Gr M0 F0 H0 F' H' ∧ Same F18 F' ∧ Ow H0 F' H' D42 acc ∧ RL K F' acc ds ∧ acc.length ≤ i ∧ Od H0 F' H' p6 (.frz od39 (.dT ws7)) ∧ ds ++ m_way_c1  (r1.drop i) = (m_way_c1  r1)) ?_ ?_ ?_ ?_
      · exact ⟨F18, [], [], g45, Same.refl _, ow47, RpA.nil, Nat.le_refl _, ow46, rfl⟩
      · intro i H' _ hP
        obtain ⟨F49, acc50, ds51, g052, sm53, owD54, hA55, hi56, ow057, hr58⟩ := hP
        exact ow057.h
      · intro i60 kk63 vv64 q65 T67 H62 hx61 hq66 nT68 hP
        obtain ⟨F69, acc70, ds71, g072, sm73, owD74, hA75, hi76, ow077, hr78⟩ := hP
        obtain ⟨e79, y80, he81, he82, hk83, r84⟩ := RD.keyT (α := (Int × Int)) (hA12.up (Same.trans g20.ff sm73)) hx61
        subst hk83
        have g85 := Gr.adopt (ts := ((ikeys (IK.ks e79)).map kV)) g072 hq66
        have sm86 := Gr.same_adopt (ts := ((ikeys (IK.ks e79)).map kV)) g072 hq66
        have ow87 := ow077.adopt (ts := ((ikeys (IK.ks e79)).map kV)) hq66
        have ow88 := owD74.adopt (ts := ((ikeys (IK.ks e79)).map kV)) hq66
        have r89 : R K (upd F69 q65 (.tup ((ikeys (IK.ks e79)).map kV))) (.ref q65) (e79 : (Int × Int)) := ik_of fzT
        have ne90 := ow87.ne nT68
        have ne91 := ow88.ne nT68
        have sm92 := same_new (o := (.tup [(V.ref q65), vv64])) (g85.noneF nT68)
        have g93 := g85.frz (o := (.tup [(V.ref q65), vv64])) nT68
        have ow94 := ow87.frz (o := (.tup [(V.ref q65), vv64])) nT68
        have ow95 := ow88.frz (o := (.tup [(V.ref q65), vv64])) nT68
        have r96 : R K (upd (upd F69 q65 (.tup ((ikeys (IK.ks e79)).map kV))) T67 (.tup [(V.ref q65), vv64])) (.ref T67) ((e79, y80) : ((Int × Int) × (List Int))) := R.mk2 fzT (r89.up sm92) (r84.up (Same.trans sm86 sm92))
        rw [drop_at he81, m_way_c1.eq_2] at hr78
        obtain ⟨p98, v101, v102, ev99, hS100, r103, r104⟩ := R.p2_v r96
        refine ⟨p98, [v101, v102], ev99, (SqT_mono g93.fh hS100), rfl, v101, [v102], rfl, v102, [], rfl, rfl, rfl, (p_yes ?_)⟩
        obtain ⟨p105, ws106, ev107, hS108, hl109, hA110⟩ := R.lst_v r104
        refine ⟨v101, rfl, v102, rfl, p105, ws106, _, (by rw [ev107]), (.inl (Same.seq g93.fh hS108)), (RL.len hA110), _, _, rfl, rfl, (by show 1 ≤ sizeLine; decide), fun p111 np112 => ?_⟩
        have ne113 := ow94.ne np112
        have ne114 := ow95.ne np112
        have sm115 := same_new (o := (.tup [(V.int (((((e79, y80).2).length : Nat) : Int) - (1 : Int)))])) (g93.noneF np112)
        have g116 := g93.frz (o := (.tup [(V.int (((((e79, y80).2).length : Nat) : Int) - (1 : Int)))])) np112
        have ow117 := ow94.frz (o := (.tup [(V.int (((((e79, y80).2).length : Nat) : Int) - (1 : Int)))])) np112
        have ow118 := ow95.frz (o := (.tup [(V.int (((((e79, y80).2).length : Nat) : Int) - (1 : Int)))])) np112
        have r119 : R K (upd (upd (upd F69 q65 (.tup ((ikeys (IK.ks e79)).map kV))) T67 (.tup [(V.ref q65), vv64])) p111 (.tup [(V.int (((((e79, y80).2).length : Nat) : Int) - (1 : Int)))])) (.ref p111) ((T1.mk (((((e79, y80).2).length : Nat) : Int) - (1 : Int))) : (T1 Int)) := R.mk1 fzT (Rp.int (((((e79, y80).2).length : Nat) : Int) - (1 : Int)))
        obtain ⟨p120, v123, v124, ev121, hS122, r125, r126⟩ := R.p2_v r103
        obtain rfl := R.int_v r125
        obtain rfl := R.int_v r126
        obtain ⟨p127, v130, ev128, hS129, r131⟩ := R.p1_v r119
        obtain rfl := R.int_v r131
        refine ⟨p120, p127, [(V.int (e79, y80).1.1), (V.int (e79, y80).1.2)], [(V.int (T1.mk (((((e79, y80).2).length : Nat) : Int) - (1 : Int))).a)], ev121, ev128, (SqT_mono g116.fh (SqT_mono sm115 hS122)), (SqT_mono g116.fh hS129), (by show 3 ≤ sizeLine; decide), (fun h => nomatch h), (fun _ h => nomatch h), fun _ _ p132 np133 => ?_⟩
        have ne134 := ow117.ne np133
        have ne135 := ow118.ne np133
        have sm136 := same_new (o := (.tup ([(V.int (e79, y80).1.1), (V.int (e79, y80).1.2)] ++ [(V.int (T1.mk (((((e79, y80).2).length : Nat) : Int) - (1 : Int))).a)]))) (g116.noneF np133)
        have g137 := g116.frz (o := (.tup ([(V.int (e79, y80).1.1), (V.int (e79, y80).1.2)] ++ [(V.int (T1.mk (((((e79, y80).2).length : Nat) : Int) - (1 : Int))).a)]))) np133
        have ow138 := ow117.frz (o := (.tup ([(V.int (e79, y80).1.1), (V.int (e79, y80).1.2)] ++ [(V.int (T1.mk (((((e79, y80).2).length : Nat) : Int) - (1 : Int))).a)]))) np133
        have ow139 := ow118.frz (o := (.tup ([(V.int (e79, y80).1.1), (V.int (e79, y80).1.2)] ++ [(V.int (T1.mk (((((e79, y80).2).length : Nat) : Int) - (1 : Int))).a)]))) np133
        have r140 : R K (upd (upd (upd (upd F69 q65 (.tup ((ikeys (IK.ks e79)).map kV))) T67 (.tup [(V.ref q65), vv64])) p111 (.tup [(V.int (((((e79, y80).2).length : Nat) : Int) - (1 : Int)))])) p132 (.tup ([(V.int (e79, y80).1.1), (V.int (e79, y80).1.2)] ++ [(V.int (T1.mk (((((e79, y80).2).length : Nat) : Int) - (1 : Int))).a)]))) (.ref p132) ((T3.mk (e79, y80).1.1 (e79, y80).1.2 (T1.mk (((((e79, y80).2).length : Nat) : Int) - (1 : Int))).a) : (T3 Int Int Int)) := R.mk3 fzT (Rp.int (e79, y80).1.1) (Rp.int (e79, y80).1.2) (Rp.int (T1.mk (((((e79, y80).2).length : Nat) : Int) - (1 : Int))).a)
        have hA141 : RL K (upd (upd (upd (upd F69 q65 (.tup ((ikeys (IK.ks e79)).map kV))) T67 (.tup [(V.ref q65), vv64])) p111 (.tup [(V.int (((((e79, y80).2).length : Nat) : Int) - (1 : Int)))])) p132 (.tup ([(V.int (e79, y80).1.1), (V.int (e79, y80).1.2)] ++ [(V.int (T1.mk (((((e79, y80).2).length : Nat) : Int) - (1 : Int))).a)]))) (acc70 ++ [(V.ref p132)]) (ds71 ++ [((T3.mk (e79, y80).1.1 (e79, y80).1.2 (T1.mk (((((e79, y80).2).length : Nat) : Int) - (1 : Int))).a) : (T3 Int Int Int))]) := RL.snoc (hA75.up (Same.trans sm86 (Same.trans sm92 (Same.trans sm115 sm136)))) r140
        refine ⟨acc70, ow139.h, (lt_line hi76 (List.getElem?_eq_some_iff.mp hx61).1 hl11), ?_⟩
        have g142 := g137.put (o := (.lst (acc70 ++ [(V.ref p132)]))) ow139
        have ow143 := ow138.other (o := (.lst (acc70 ++ [(V.ref p132)]))) ne44
        have ow144 := ow139.put (us := (acc70 ++ [(V.ref p132)]))
        exact ⟨(upd (upd (upd (upd F69 q65 (.tup ((ikeys (IK.ks e79)).map kV))) T67 (.tup [(V.ref q65), vv64])) p111 (.tup [(V.int (((((e79, y80).2).length : Nat) : Int) - (1 : Int)))])) p132 (.tup ([(V.int (e79, y80).1.1), (V.int (e79, y80).1.2)] ++ [(V.int (T1.mk (((((e79, y80).2).length : Nat) : Int) - (1 : Int))).a)]))), (acc70 ++ [(V.ref p132)]), (ds71 ++ [(T3.mk (e79, y80).1.1 (e79, y80).1.2 (T1.mk (((((e79, y80).2).length : Nat) : Int) - (1 : Int))).a)]), g142, (Same.trans sm73 (Same.trans sm86 (Same.trans sm92 (Same.trans sm115 sm136)))), ow144, hA141, (by rw [List.length_append]; exact Nat.succ_le_succ hi76), ow143, (snoc_rest hr78)⟩
      intro H145 hP
      obtain ⟨F146, acc147, ds148, g0150, sm151, owD152, hA153, hi154, ow0155, hr156⟩ := hP
      rw [drop_end (RD.len (hA12.up g20.ff))] at hr156
      rw [m_way_c1.eq_1, List.append_nil] at hr156
      obtain rfl := hr156
      have hl157 : acc147.length ≤ sizeLine := Nat.le_trans hi154 hl11
      have g158 := Gr.mut (o := (.dT ws7)) g0150 ow0155.nF (.inl ow0155.n0)
      have ow159 := owD152.other (o := (.dT ws7)) (Ne.symm ne44)
      have ow160 := ow0155.put (o := (.dT ws7)) (fun _ z => nomatch z)
      refine ⟨ow0155.h, D42, acc147, (m_way_c1  r1), rfl, ow159.sq, (RpA.up hA153 g158.fh), fun ys161 p162 hl163 up164 np165 => ?_⟩
      have hl166 : ys161.length ≤ sizeLine := by rw [hl163]; exact hl157
      have hA167 : RL K F146 ys161 (sortK (m_way_c1  r1)) := up164 _ hA153
      have ne168 := ow160.ne np165
      have ne169 := ow159.ne np165
      have g170 := g158.own (o := (.lst ys161)) np165
      have ow171 := ow160.own (o := (.lst ys161)) np165
      have ow172 := ow159.own (o := (.lst ys161)) np165
      have ow173 : Ow H0 F146 (upd (upd H145 p6 (.dT ws7)) p162 (.lst ys161)) p162 ys161 := Ow.new g158 np165
      have sm174 := ow173.sf
      have g175 := g170.fz ow173
      have ow176 : Od H0 (upd F146 p162 (.lst ys161)) (upd (upd H145 p6 (.dT ws7)) p162 (.lst ys161)) p6 (.dT ws7) := ow171.fz ne168
      have ow177 : Ow H0 (upd F146 p162 (.lst ys161)) (upd (upd H145 p6 (.dT ws7)) p162 (.lst ys161)) D42 acc147 := ow172.fz ne169
      have r178 : R K (upd F146 p162 (.lst ys161)) (.ref p162) (sortK (m_way_c1  r1)) := R.mkl fzS hl166 (RpA.up hA167 sm174)
      have r179 : R K (upd F146 p162 (.lst ys161)) (V.ref p162) (((Sum.inr) (sortK (m_way_c1  r1))) : ((List Int) ⊕ (List (T3 Int Int Int)))) := r178
      refine ⟨(by show 2 ≤ sizeLine; decide), fun p180 np181 => ?_⟩
      have ne182 := ow176.ne np181
      have ne183 := ow177.ne np181
      have sm184 := same_new (o := (.tup [(V.str ("none" : Str)), (V.ref p162)])) (g175.noneF np181)
      have g185 := g175.frz (o := (.tup [(V.str ("none" : Str)), (V.ref p162)])) np181
      have ow186 := ow176.frz (o := (.tup [(V.str ("none" : Str)), (V.ref p162)])) np181
      have ow187 := ow177.frz (o := (.tup [(V.str ("none" : Str)), (V.ref p162)])) np181
      have r188 : R K (upd (upd F146 p162 (.lst ys161)) p180 (.tup [(V.str ("none" : Str)), (V.ref p162)])) (.ref p180) ((("none" : Str), (((Sum.inr) (sortK (m_way_c1  r1))) : ((List Int) ⊕ (List (T3 Int Int Int))))) : (Str × ((List Int) ⊕ (List (T3 Int Int Int))))) := R.mk2 fzT (Rp.str ("none" : Str) ⟨by decide +kernel, by decide +kernel⟩) (r179.up sm184)
      obtain rfl := sjoin hm
      exact (hQ _ _ _ g185 r188)
end K28
namespace K28
open PySem PySem.Spec PyProof.Rows L2 TL G
theorem ok_is_entry {P : Program} {w : World} {K : PySem.W.Frag} {mg : Str → Option Value} {base : Heap} (T : Txt K mg) : FnOk P w K mg base CX0 2 T.a_is_entry T.d_is_entry ["net", "order", "entry"] (sp_is_entry K) := by
  have G_come_to : FnOk P w K mg base CX0 1 T.a_come_to T.d_come_to ["order", "done", "house"] (sp_come_to K) := ok_come_to T
  have b_come_to := T.F_come_to.bindsN (ps := ["order", "done", "house"]) fun _ _ _ _ _ _ us hl => match us, hl with | [_, _, _], _ => rfl
  refine fd_ok T.F_is_entry sc_is_entry (fun vs H Q E h => ?_) (fun cdv A outer s H0 vs Q E hr h => ?_)
  · obtain ⟨_, _, _, _, _, _, _, rfl, _⟩ := h
    rfl
  · obtain ⟨v_x_net, x_net, v_x_order, x_order, v_x_entry, x_entry, r, rfl, r_x_net, r_x_order, r_x_entry, hm, hQ⟩ := h
    refine ⟨_, (pss_cons (ps_asg (pv 2) (pg_tupK (K := K) 3 rfl (pgs_cons (pg_name (i := 3) sc_is_entry.nd rfl (Or.inl rfl)) (pgs_cons (pg_name (i := 4) sc_is_entry.nd rfl (Or.inl rfl)) (pgs_cons (pg_name (i := 5) sc_is_entry.nd rfl (Or.inl rfl)) pgs_nil))))) (pss_cons (ps_if (PW.pt (pw_or (pt_not (pt_valT (pt_chain op_le op_lt pe_int (pv 4) (pe_ix (ix_tupK (K := K)) (pv 0) pe_int (fun _ _ => rfl))))) (pw_or (pt_cmpR (op_inI (K := K)) (pv 4) (pe_ix (ix_tupK (K := K)) (pv 1) pe_int (fun _ _ => rfl)) rfl) (pw_or1 (pt_not (pt_valT (pt_chain op_le op_le pe_int (pv 3) (pe_callB (call_lenLK (K := K)) (by rfl) T.n_len (by decide +kernel) (pa_cons (pe_ix (ix_tupK (K := K)) (pv 1) pe_int (fun _ _ => rfl)) pa_nil))))))))) (pss_one (ps_ret pe_bl)) pss_nil) (pss_one (ps_ret (pe_and (pe_cmpR (op_eqDK (K := K) hr.units) (pe_call G_come_to (hr.mono (by decide)) (by rfl) T.g_come_to T.F_come_to.kp b_come_to .nil pass0 (pa_cons (pv 1) (pa_cons (pv 3) (pa_cons (pv 4) pa_nil)))) (pe_tup (pa_cons (pv 3) (pa_cons (pv 4) pa_nil))) (nomark _)) (pe_one (pe_chain op_le op_le pe_int (pv 5) (pe_ifExp (pt_cmpR op_isO (pe_ix (ix_tupK (K := K)) (pv 1) pe_int (fun _ _ => rfl)) pe_non (nomark _)) (pe_glob (v := (V.int (48 : Int))) rfl T.k_FARTHEST ⟨_, rfl⟩) (pe_ix (ix_tupK (K := K)) (pv 1) pe_int (fun _ _ => rfl)))))))))), ?_⟩
    have g0 : Gr M0 H0 H0 H0 H0 := Gr.refl (Same.refl _)
    unfold m_is_entry at hm
    refine p_seq ?_
    refine p_asg ?_
    refine ⟨v_x_entry, rfl, ?_⟩
    obtain ⟨p1, v4, v5, v6, ev2, hS3, r7, r8, r9⟩ := R.p3_v r_x_entry
    obtain rfl := R.int_v r7
    obtain rfl := R.int_v r8
    obtain rfl := R.int_v r9
    refine ⟨p1, [(V.int x_entry.a), (V.int x_entry.b), (V.int x_entry.c)], ev2, (SqT_mono g0.fh hS3), rfl, (V.int x_entry.a), [(V.int x_entry.b), (V.int x_entry.c)], rfl, (V.int x_entry.b), [(V.int x_entry.c)], rfl, (V.int x_entry.c), [], rfl, rfl, ?_⟩
    refine p_nx ?_
    refine p_seq ?_
    refine p_if ?_
    obtain ⟨p10, v13, v14, v15, v16, ev11, hS12, r17, r18, r19, r20⟩ := R.p4_v r_x_net
    obtain rfl := R.int_v r17
    obtain rfl := R.int_v r18
    refine ⟨((decide ((0 : Int) ≤ x_entry.b)) && (decide (x_entry.b < x_net.b))), (fun Q q => ⟨(V.int x_entry.b), rfl, _, _, rfl, rfl, _, rfl, iteB (fun hc => ⟨v_x_net, rfl, p10, _, _, (V.int x_net.b), ev11, rfl, (SqT_mono g0.fh hS12), rfl, _, _, rfl, rfl, _, rfl, qTb hc q⟩) (fun hc => ⟨_, rfl, qFb hc q⟩)⟩), ?_⟩
    refine orJT (M := M0) (F := H0) (c := ((!((decide ((0 : Int) ≤ x_entry.b)) && (decide (x_entry.b < x_net.b)))) || ((decide (x_entry.b ∈ (x_order.c).l)) || (!((decide ((0 : Int) ≤ x_entry.a)) && (decide (x_entry.a ≤ ((((x_order.b).l).length : Nat) : Int)))))))) (P := fun _ _ => True) (fun ha => ?_) (fun ha => ⟨(orTt ha), trivial⟩) g0.fh ?_
    · intro Q24 q25
      obtain ⟨p26, v29, v30, v31, v32, ev27, hS28, r33, r34, r35, r36⟩ := R.p4_v r_x_order
      obtain rfl := R.int_v r33
      obtain ⟨p37, ws38, ev39, hs43, hl41, hA42⟩ := R.vt_s r35
      have hS40 : SqT K _ p37 ws38 := .inl (.inl hs43)
      refine ⟨(V.int x_entry.b), rfl, v_x_order, rfl, p26, _, _, v31, ev27, rfl, (SqT_mono g0.fh hS28), rfl, _, p37, _, rfl, (by rw [ev39]), (.inr (by rw [← RL.ints hA42]; exact (SqT_mono g0.fh hS40))), _, rfl, ?_⟩
      refine orJT (M := M0) (F := H0) (c := ((decide (x_entry.b ∈ (x_order.c).l)) || (!((decide ((0 : Int) ≤ x_entry.a)) && (decide (x_entry.a ≤ ((((x_order.b).l).length : Nat) : Int))))))) (P := fun _ _ => True) (fun ha => ?_) (fun ha => ⟨(orTt ha), trivial⟩) g0.fh ?_
      · intro Q47 q48
        obtain ⟨p49, ws50, ev51, hs55, hl53, hA54⟩ := R.vt_s r34
        have hS52 : SqT K _ p49 ws50 := .inl (.inl hs55)
        refine ⟨((decide ((0 : Int) ≤ x_entry.a)) && (decide (x_entry.a ≤ ((((x_order.b).l).length : Nat) : Int)))), (fun Q q => ⟨(V.int x_entry.a), rfl, _, _, rfl, rfl, _, rfl, iteB (fun hc => ⟨v_x_order, rfl, p26, _, _, v30, ev27, rfl, (SqT_mono g0.fh hS28), rfl, p49, ws50, _, (by rw [ev51]), (.inr (SqT_mono g0.fh hS52)), (RL.len hA54), _, _, rfl, rfl, _, rfl, qTb hc q⟩) (fun hc => ⟨_, rfl, qFb hc q⟩)⟩), (qOb ha (q48 _ _ (Gr.refl (M := M0) g0.fh) trivial))⟩
      intro F56 H57 g58 hB59
      have g60 := Gr.trans g0 g58
      have g61 := Gr.trans (Gr.refl (M := M0) g0.fh) g58
      exact (qOb ha (q25 _ _ g61 trivial))
    intro F62 H63 g64 hB65
    have g66 := Gr.trans g0 g64
    refine (iteB (fun hc => ?_) (fun hc => ?_))
    · have hm := ifT hc hm
      refine p_ret ?_
      obtain rfl := sjoin hm
      exact (hQ _ _ g66)
    · have hm := ifF hc hm
      refine p_next ?_
      refine p_nx ?_
      refine p_ret ?_
      obtain ⟨r67, hb68, hm⟩ := bnd hm
      refine ⟨v_x_order, rfl, (V.int x_entry.a), rfl, (V.int x_entry.b), rfl, F62, v_x_order, x_order, x_entry.a, x_entry.b, r67, rfl, g66.fh, (r_x_order.up g64.ff), hb68, fun v72 F69 H70 g71 r73 => ?_⟩
      have g74 := Gr.trans g66 g71
      refine ⟨(V.int x_entry.a), rfl, (V.int x_entry.b), rfl, (by show 2 ≤ sizeLine; decide), fun p75 np76 => ?_⟩
      have sm77 := same_new (o := (.tup [(V.int x_entry.a), (V.int x_entry.b)])) (g74.noneF np76)
      have g78 := g74.frz (o := (.tup [(V.int x_entry.a), (V.int x_entry.b)])) np76
      have r79 : R K (upd F69 p75 (.tup [(V.int x_entry.a), (V.int x_entry.b)])) (.ref p75) ((x_entry.a, x_entry.b) : (Int × Int)) := R.mk2 fzT (Rp.int x_entry.a) (Rp.int x_entry.b)
      have rH80 : R K (upd H70 p75 (.tup [(V.int x_entry.a), (V.int x_entry.b)])) v72 r67 := (Rp.up (r73.up sm77) g78.fh)
      have rH81 : R K (upd H70 p75 (.tup [(V.int x_entry.a), (V.int x_entry.b)])) (V.ref p75) (x_entry.a, x_entry.b) := (Rp.up r79 g78.fh)
      refine ⟨_, _, (Rp.dp _ _ rH80), (Rp.dp _ _ rH81), (R.shaped rH80), (R.shaped rH81), _, rfl, ?_⟩
      obtain ⟨c82, hc83, hm⟩ := bnd hm
      refine andJV (M := M0) (F := (upd F69 p75 (.tup [(V.int x_entry.a), (V.int x_entry.b)]))) (c := c82) (P := fun _ _ => True) (fun ha => ?_) (fun ha => ⟨(sjoin (ifF ha hc83)).symm, trivial⟩) g78.fh ?_
      · intro Q85 q86
        have hc83 := ifT ha hc83
        refine ⟨(V.int x_entry.c), rfl, _, _, rfl, rfl, _, rfl, ?_⟩
        obtain ⟨c87, hc88, hc83⟩ := bnd hc83
        refine chJV (M := M0) (F := (upd F69 p75 (.tup [(V.int x_entry.a), (V.int x_entry.b)]))) (c := c87) (P := fun _ _ => True) (fun ha => ?_) (fun ha => ⟨(sjoin (ifF ha hc88)).symm, trivial⟩) g78.fh ?_
        · intro Q89 q90
          have hc88 := ifT ha hc88
          obtain ⟨p91, v94, v95, v96, v97, ev92, hS93, r98, r99, r100, r101⟩ := R.p4_v r_x_order
          obtain rfl := R.int_v r98
          refine ⟨v_x_order, rfl, p91, _, _, v97, ev92, rfl, (SqT_mono g78.fh (SqT_mono (Same.trans g64.ff (Same.trans g71.ff sm77)) hS93)), rfl, _, rfl, (isN_eq (r101.up (Same.trans g64.ff (Same.trans g71.ff sm77)))), _, rfl, ?_⟩
          refine ifJ (M := M0) (F := (upd F69 p75 (.tup [(V.int x_entry.a), (V.int x_entry.b)]))) (P := fun v' F' H' => R K F' v' ((if (x_order.e).isNone then (some (48 : Int)) else x_order.e) : (Option Int))) (fun ha => ?_) (fun ha => ?_) ?_
          · intro Q104 q105
            have ha : (x_order.e).isNone = true := ha
            exact (q105 _ _ _ (Gr.refl (M := M0) g78.fh) (by rw [if_pos ha]; exact (Rp.int (48 : Int))))
          · intro Q106 q107
            have ha : (x_order.e).isNone = false := ha
            refine ⟨v_x_order, rfl, p91, _, _, v97, ev92, rfl, (SqT_mono g78.fh (SqT_mono (Same.trans g64.ff (Same.trans g71.ff sm77)) hS93)), rfl, (q107 _ _ _ (Gr.refl (M := M0) g78.fh) (by rw [if_neg (ne_true_of_eq_false ha)]; exact (r101.up (Same.trans g64.ff (Same.trans g71.ff sm77)))))⟩
          intro v111 F108 H109 g110 hp112
          have g114 := Gr.trans g78 g110
          have g115 := Gr.trans (Gr.refl (M := M0) g78.fh) g110
          have g116 := Gr.trans (Gr.refl (M := M0) g78.fh) g110
          obtain ⟨t117, hb118, hc88⟩ := bnd hc88
          have eq119 : v111 = V.int t117 := R.int_v (getO_ok (x := t117) hb118 hp112)
          obtain rfl := sjoin hc88
          refine ⟨_, _, rfl, eq119, (q90 _ _ g116 trivial)⟩
        intro F120 H121 g122 hB123
        have g124 := Gr.trans g78 g122
        have g125 := Gr.trans (Gr.refl (M := M0) g78.fh) g122
        obtain rfl := sjoin hc83
        exact (q86 _ _ g125 trivial)
      intro F126 H127 g128 hB129
      have g130 := Gr.trans g78 g128
      obtain rfl := sjoin hm
      exact (hQ _ _ g130)
end K28
namespace K28
open PySem PySem.Spec PyProof.Rows L2 TL G
theorem ok_open_entry {P : Program} {w : World} {K : PySem.W.Frag} {mg : Str → Option Value} {base : Heap} (T : Txt K mg) : FnOk P w K mg base CX0 3 T.a_open_entry T.d_open_entry ["near", "order", "stands"] (sp_open_entry K) := by
  have G_leads : FnOk P w K mg base CX0 2 T.a_leads T.d_leads ["near", "order", "stand"] (sp_leads K) := ok_leads T
  have b_leads := T.F_leads.bindsN (ps := ["near", "order", "stand"]) fun _ _ _ _ _ _ us hl => match us, hl with | [_, _, _], _ => rfl
  refine fd_ok T.F_open_entry sc_open_entry (fun vs H Q E h => ?_) (fun cdv A outer s H0 vs Q E hr h => ?_)
  · obtain ⟨_, _, _, _, _, _, _, _, _, _, rfl, _⟩ := h
    rfl
  · obtain ⟨F0, p_x_near, ws_x_near, x_near, v_x_order, x_order, p_x_stands, ws_x_stands, x_stands, r, rfl, hS0, hS_x_near, hl_x_near, hA_x_near, nm_x_near, r_x_order, hS_x_stands, hl_x_stands, hA_x_stands, nm_x_stands, hm, hQ⟩ := h
    refine ⟨_, (pss_cons (ps_setDcS (i := 3) (own := [("done", 5), ("house", 6), ("ties", 7)]) storeT rfl (hu_of hr) sc_open_entry.nd rfl rfl (sw_trueD rfl rfl rfl (by decide +kernel)) (pi_listK (K := K) (pv 2)) (blkOk_by (own := [("done", 5), ("house", 6), ("ties", 7)]) (N := N_open_entry) (sc := defScope s_open_entry) (by decide +kernel)) (fun _ _ _ _ _ => (pg_tupK (K := K) 3 rfl (pgs_cons (pg_name (i := 5) sc_open_entry.nd rfl (Or.inl rfl) (.inr rfl)) (pgs_cons (pg_name (i := 6) sc_open_entry.nd rfl (Or.inl rfl) (.inr rfl)) (pgs_cons (pg_name (i := 7) sc_open_entry.nd rfl (Or.inl rfl) (.inr rfl)) pgs_nil))))) (fun _ _ _ _ _ => pts_nil) (fun _ _ _ _ _ => (pe_tup (pa_cons (pv 5) (pa_cons (pv 6) pa_nil)))) (fun _ _ _ _ _ => (pv 7))) (pss_cons (ps_for PassesOwn.never rfl (pi_enumK (by rfl) T.n_enumerate (pa_cons (pv 2) pa_nil)) (pg_tupK (K := K) 2 rfl (pgs_cons (pg_name (i := 4) sc_open_entry.nd rfl (Or.inl rfl)) (pgs_cons (pg_tupK (K := K) 3 rfl (pgs_cons (pg_name (i := 5) sc_open_entry.nd rfl (Or.inl rfl)) (pgs_cons (pg_name (i := 6) sc_open_entry.nd rfl (Or.inl rfl)) (pgs_cons (pg_name (i := 7) sc_open_entry.nd rfl (Or.inl rfl)) pgs_nil)))) pgs_nil))) (pss_one (ps_if (PW.pt (pw_or (pt_cmpR op_isO (pe_ix (ix_tupK (K := K)) (pv 1) pe_int (fun _ _ => rfl)) pe_non (nomark _)) (pw_or1 (pt_cmpR op_lt (pv 7) (pe_ix (ix_tupK (K := K)) (pv 1) pe_int (fun _ _ => rfl)) (nomark _))))) (pss_one (ps_for PassesOwn.never rfl (pi_listK (K := K) (pe_call G_leads (hr.mono (by decide)) (by rfl) T.g_leads T.F_leads.kp b_leads .nil pass0 (pa_cons (pv 0) (pa_cons (pv 1) (pa_cons (pe_tup (pa_cons (pv 5) (pa_cons (pv 6) pa_nil))) pa_nil))))) (pg_name (i := 8) sc_open_entry.nd rfl (Or.inl rfl)) (pss_one (ps_if (PW.pt (pw_or (pt_cmpR (op_notInDic (hu_of hr)) (pv 8) (pv 3) rfl) (pw_or1 (pt_cmpR op_gt (pe_dget (hu_of hr) (pv 3) (pv 8) (fun _ _ => rfl)) (pe_op op_add (pv 7) pe_int) (nomark _))))) (pss_one (ps_ret (pv 4))) pss_nil)))) pss_nil))) (pss_one (ps_ret pe_non)))), ?_⟩
    have g0 : Gr M0 F0 H0 F0 H0 := Gr.refl hS0
    unfold m_open_entry at hm
    refine p_seq ?_
    refine p_asg ?_
    refine ⟨(V.ref p_x_stands), rfl, p_x_stands, rfl, ⟨_, (g0.seq nm_x_stands hS_x_stands)⟩, fun D1 nD2 => ?_⟩
    have g3 := g0.own (o := (.dT [])) nD2
    have ow4 : Od H0 F0 (upd H0 D1 (.dT [])) D1 (.dT []) := Od.new g0 nD2 (fun _ z => nomatch z)
    refine dS_list (K := K) (a := p_x_stands) (xs := ws_x_stands) (fun i H' => ∃ (F' : Hp) (acc : (List (List Key × V))) (ds : List ((Int × Int) × Int)), Gr M0 F0 H0 F' H' ∧ Same F0 F' ∧ Od H0 F' H' D1 (.dT acc) ∧ RD (α := (Int × Int)) (β := Int) K F' acc (dputAll ([] : (List ((Int × Int) × Int))) ds) ∧ acc.length ≤ i ∧ ds ++ m_open_entry_c1  (x_stands.drop i) = (m_open_entry_c1  x_stands)) ?_ ?_ ?_ ?_
    · exact ⟨F0, [], [], g3, Same.refl _, ow4, RD.nil, Nat.le_refl _, rfl⟩
    · intro i H' _ hP
      obtain ⟨F6, acc7, ds8, g09, sm10, owD11, hA12, hi13, hr14⟩ := hP
      exact (g09.seq nm_x_stands hS_x_stands)
    · intro i16 xv15 H18 hx17 hP
      obtain ⟨F19, acc20, ds21, g022, sm23, owD24, hA25, hi26, hr27⟩ := hP
      obtain ⟨e28, he29, r30⟩ := RL.get (hA_x_stands.up sm23) hx17
      rw [drop_at he29, m_open_entry_c1.eq_2] at hr27
      obtain ⟨p31, v34, v35, v36, ev32, hS33, r37, r38, r39⟩ := R.p3_v r30
      obtain rfl := R.int_v r37
      obtain rfl := R.int_v r38
      obtain rfl := R.int_v r39
      refine ⟨p31, [(V.int e28.a), (V.int e28.b), (V.int e28.c)], ev32, (SqT_mono g022.fh hS33), rfl, (V.int e28.a), [(V.int e28.b), (V.int e28.c)], rfl, (V.int e28.b), [(V.int e28.c)], rfl, (V.int e28.c), [], rfl, rfl, rfl, (p_yes ?_)⟩
      refine ⟨(V.int e28.a), rfl, (V.int e28.b), rfl, (by show 2 ≤ sizeLine; decide), fun p40 np41 => ?_⟩
      have ne42 := owD24.ne np41
      have sm43 := same_new (o := (.tup [(V.int e28.a), (V.int e28.b)])) (g022.noneF np41)
      have g44 := g022.frz (o := (.tup [(V.int e28.a), (V.int e28.b)])) np41
      have ow45 := owD24.frz (o := (.tup [(V.int e28.a), (V.int e28.b)])) np41
      have r46 : R K (upd F19 p40 (.tup [(V.int e28.a), (V.int e28.b)])) (.ref p40) ((e28.a, e28.b) : (Int × Int)) := R.mk2 fzT (Rp.int e28.a) (Rp.int e28.b)
      have hA47 : RD (α := (Int × Int)) (β := Int) K (upd F19 p40 (.tup [(V.int e28.a), (V.int e28.b)])) (putK acc20 (DK.k ((e28.a, e28.b) : (Int × Int))) (V.int e28.c)) (dputAll ([] : (List ((Int × Int) × Int))) (ds21 ++ [(((e28.a, e28.b), e28.c) : ((Int × Int) × Int))])) := by rw [dputAll_snoc]; exact RD.put (hA25.up sm43) (e28.a, e28.b) (DK.okR r46) (Rp.int e28.c)
      refine ⟨(V.int e28.c), rfl, _, (DK.put (α := (Int × Int)) ow45.h r46 g44.fh (lt_line hi26 (List.getElem?_eq_some_iff.mp hx17).1 hl_x_stands)), ?_⟩
      have g48 := Gr.mut (o := (.dT (putK acc20 (DK.k ((e28.a, e28.b) : (Int × Int))) (V.int e28.c)))) g44 ow45.nF (.inl ow45.n0)
      have ow49 := ow45.put (o := (.dT (putK acc20 (DK.k ((e28.a, e28.b) : (Int × Int))) (V.int e28.c)))) (fun _ z => nomatch z)
      exact ⟨(upd F19 p40 (.tup [(V.int e28.a), (V.int e28.b)])), (putK acc20 (DK.k ((e28.a, e28.b) : (Int × Int))) (V.int e28.c)), (ds21 ++ [(((e28.a, e28.b), e28.c) : ((Int × Int) × Int))]), g48, (Same.trans sm23 sm43), ow49, hA47, (Nat.le_trans (length_putK _ _ _) (Nat.succ_le_succ hi26)), (snoc_rest hr27)⟩
    intro H50 hP
    obtain ⟨F51, acc52, ds53, g054, sm55, owD56, hA57, hi58, hr59⟩ := hP
    rw [drop_end (RL.len hA_x_stands)] at hr59
    rw [m_open_entry_c1.eq_1, List.append_nil] at hr59
    obtain rfl := hr59
    have hl60 : acc52.length ≤ sizeLine := Nat.le_trans hi58 hl_x_stands
    obtain ⟨x_ties_to61, hb62, hm⟩ := bnd hm
    have hx63 : (dputAll ([] : (List ((Int × Int) × Int))) (m_open_entry_c1  x_stands)) = x_ties_to61 := sjoin hb62
    have hA64 : RD (α := (Int × Int)) (β := Int) K F51 acc52 x_ties_to61 := RD.re hx63 hA57
    refine p_name ?_
    refine p_nx ?_
    refine p_seq ?_
    refine p_for ?_
    refine ⟨(V.ref p_x_stands), rfl, p_x_stands, ws_x_stands, rfl, (g054.seq nm_x_stands hS_x_stands), ?_⟩
    obtain ⟨l65, ht66, hm⟩ := bndL0 hm
    refine for_enum (K := K) (a := p_x_stands) (xs := ws_x_stands) (fun i σ' H' => ∃ (F' : Hp) (o_x_house : Option V) (o_x_done : Option V) (o_x_k : Option V) (o_x_ties : Option V) (o_x_other : Option V), σ' = [(some (V.ref p_x_near)), (some v_x_order), (some (V.ref p_x_stands)), (some (V.ref D1)), o_x_k, o_x_done, o_x_house, o_x_ties, o_x_other] ∧ Gr M0 F0 H0 F' H' ∧ Same F51 F' ∧ Od H0 F' H' D1 (.dT acc52) ∧ m_open_entry_l2 x_near x_order x_ties_to61 ((List.zip (rangeL 0 (x_stands).length) x_stands).drop i)  = some l65) ?_ ?_ ?_ ?_
    · exact ⟨F51, none, none, none, none, none, rfl, g054, (Same.refl _), owD56, ht66⟩
    · intro i σ' H' _ hP
      obtain ⟨F', o_x_house, o_x_done, o_x_k, o_x_ties, o_x_other, rfl, g_, sm_, owk0_, hm_⟩ := hP
      exact (g_.seq nm_x_stands hS_x_stands)
    · intro i67 xv70 T71 σ' H69 hx68 nT72 hP
      obtain ⟨F73, o_x_house74, o_x_done75, o_x_k76, o_x_ties77, o_x_other78, rfl, g79, sm80, owk081, hm82⟩ := hP
      obtain ⟨e84, he85, r86⟩ := RL.get (hA_x_stands.up (Same.trans sm55 sm80)) hx68
      have he87 := enum_get he85
      have ne88 := owk081.ne nT72
      have sm89 := same_new (o := (.tup [(V.int ((i67 : Nat) : Int)), xv70])) (g79.noneF nT72)
      have g90 := g79.frz (o := (.tup [(V.int ((i67 : Nat) : Int)), xv70])) nT72
      have ow91 := owk081.frz (o := (.tup [(V.int ((i67 : Nat) : Int)), xv70])) nT72
      have r92 : R K (upd F73 T71 (.tup [(V.int ((i67 : Nat) : Int)), xv70])) (.ref T71) ((((i67 : Nat) : Int), e84) : (Int × (T3 Int Int Int))) := R.mk2 fzT (Rp.int ((i67 : Nat) : Int)) (r86.up sm89)
      rw [drop_at he87, m_open_entry_l2.eq_2] at hm82
      obtain ⟨p93, v96, v97, ev94, hS95, r98, r99⟩ := R.p2_v r92
      obtain rfl := R.int_v r98
      obtain ⟨p100, v103, v104, v105, ev101, hS102, r106, r107, r108⟩ := R.p3_v r99
      obtain rfl := R.int_v r106
      obtain rfl := R.int_v r107
      obtain rfl := R.int_v r108
      refine ⟨p93, [(V.int (((i67 : Nat) : Int), e84).1), v97], ev94, (SqT_mono g90.fh hS95), rfl, (V.int (((i67 : Nat) : Int), e84).1), [v97], rfl, v97, [], rfl, p100, [(V.int (((i67 : Nat) : Int), e84).2.a), (V.int (((i67 : Nat) : Int), e84).2.b), (V.int (((i67 : Nat) : Int), e84).2.c)], ev101, (SqT_mono g90.fh hS102), rfl, (V.int (((i67 : Nat) : Int), e84).2.a), [(V.int (((i67 : Nat) : Int), e84).2.b), (V.int (((i67 : Nat) : Int), e84).2.c)], rfl, (V.int (((i67 : Nat) : Int), e84).2.b), [(V.int (((i67 : Nat) : Int), e84).2.c)], rfl, (V.int (((i67 : Nat) : Int), e84).2.c), [], rfl, rfl, rfl, ?_⟩
      refine p_if ?_
      obtain ⟨p109, v112, v113, v114, v115, ev110, hS111, r116, r117, r118, r119⟩ := R.p4_v r_x_order
      obtain rfl := R.int_v r116
      refine ⟨v_x_order, rfl, p109, _, _, v115, ev110, rfl, (SqT_mono g90.fh (SqT_mono (Same.trans sm55 (Same.trans sm80 sm89)) hS111)), rfl, _, rfl, (isN_eq (r119.up (Same.trans sm55 (Same.trans sm80 sm89)))), _, rfl, ?_⟩
      obtain ⟨c120, hc121, hm82⟩ := bnd hm82
      refine orJT (M := M0) (F := (upd F73 T71 (.tup [(V.int ((i67 : Nat) : Int)), xv70]))) (c := c120) (P := fun _ _ => True) (fun ha => ?_) (fun ha => ⟨(sjoin (ifT ha hc121)).symm, trivial⟩) g90.fh ?_
      · intro Q123 q124
        have hc121 := ifF ha hc121
        obtain ⟨t125, hb126, hc121⟩ := bnd hc121
        have eq127 : v115 = V.int t125 := R.int_v (getO_ok (x := t125) hb126 (r119.up (Same.trans sm55 (Same.trans sm80 sm89))))
        obtain rfl := sjoin hc121
        refine ⟨(V.int (((i67 : Nat) : Int), e84).2.c), rfl, v_x_order, rfl, p109, _, _, v115, ev110, rfl, (SqT_mono g90.fh (SqT_mono (Same.trans sm55 (Same.trans sm80 sm89)) hS111)), rfl, _, _, rfl, eq127, _, rfl, (q124 _ _ (Gr.refl (M := M0) g90.fh) trivial)⟩
      intro F128 H129 g130 hB131
      have g132 := Gr.trans g90 g130
      have ow133 := ow91.gr0 g130
      refine (iteB (fun hc => ?_) (fun hc => ?_))
      · have hm82 := ifT hc hm82
        refine p_for ?_
        refine ⟨(V.ref p_x_near), rfl, v_x_order, rfl, (V.int (((i67 : Nat) : Int), e84).2.a), rfl, (V.int (((i67 : Nat) : Int), e84).2.b), rfl, (by show 2 ≤ sizeLine; decide), fun p134 np135 => ?_⟩
        have ne136 := ow133.ne np135
        have sm137 := same_new (o := (.tup [(V.int (((i67 : Nat) : Int), e84).2.a), (V.int (((i67 : Nat) : Int), e84).2.b)])) (g132.noneF np135)
        have g138 := g132.frz (o := (.tup [(V.int (((i67 : Nat) : Int), e84).2.a), (V.int (((i67 : Nat) : Int), e84).2.b)])) np135
        have ow139 := ow133.frz (o := (.tup [(V.int (((i67 : Nat) : Int), e84).2.a), (V.int (((i67 : Nat) : Int), e84).2.b)])) np135
        have r140 : R K (upd F128 p134 (.tup [(V.int (((i67 : Nat) : Int), e84).2.a), (V.int (((i67 : Nat) : Int), e84).2.b)])) (.ref p134) (((((i67 : Nat) : Int), e84).2.a, (((i67 : Nat) : Int), e84).2.b) : (Int × Int)) := R.mk2 fzT (Rp.int (((i67 : Nat) : Int), e84).2.a) (Rp.int (((i67 : Nat) : Int), e84).2.b)
        obtain ⟨r141, hb142, hm82⟩ := bnd hm82
        refine ⟨(upd F128 p134 (.tup [(V.int (((i67 : Nat) : Int), e84).2.a), (V.int (((i67 : Nat) : Int), e84).2.b)])), p_x_near, ws_x_near, x_near, v_x_order, x_order, (V.ref p134), ((((i67 : Nat) : Int), e84).2.a, (((i67 : Nat) : Int), e84).2.b), r141, rfl, g138.fh, (g138.seq nm_x_near hS_x_near), hl_x_near, (hA_x_near.up (Same.trans sm55 (Same.trans sm80 (Same.trans sm89 (Same.trans g130.ff sm137))))), id, (r_x_order.up (Same.trans sm55 (Same.trans sm80 (Same.trans sm89 (Same.trans g130.ff sm137))))), r140, hb142, fun p146 ws147 F143 H144 g145 np148 h149 nF150 hl151 hA152 => ?_⟩
        have ne153 := ow139.ne np148
        have n0154 := g138.none0 np148
        have g155 := Gr.trans g138 g145
        have ow156 := ow139.gr0 g145
        have ow157 : Ow H0 F143 H144 p146 ws147 := ⟨h149, nF150, n0154⟩
        refine ⟨p146, rfl, ⟨_, ow157.sq⟩, ?_⟩
        obtain ⟨l158, ht159, hm82⟩ := bndL0 hm82
        refine for_list (K := K) (a := p146) (xs := ws147) (fun i σ' H' => ∃ (F' : Hp) (o_x_other : Option V), σ' = [(some (V.ref p_x_near)), (some v_x_order), (some (V.ref p_x_stands)), (some (V.ref D1)), (some (V.int (((i67 : Nat) : Int), e84).1)), (some (V.int (((i67 : Nat) : Int), e84).2.a)), (some (V.int (((i67 : Nat) : Int), e84).2.b)), (some (V.int (((i67 : Nat) : Int), e84).2.c)), o_x_other] ∧ Gr M0 F0 H0 F' H' ∧ Same F143 F' ∧ Od H0 F' H' D1 (.dT acc52) ∧ Ow H0 F' H' p146 ws147 ∧ m_open_entry_l3 x_ties_to61 (((i67 : Nat) : Int), e84).1 (((i67 : Nat) : Int), e84).2.c (r141.drop i)  = some l158) ?_ ?_ ?_ ?_
        · exact ⟨F143, o_x_other78, rfl, g155, (Same.refl _), ow156, ow157, ht159⟩
        · intro i σ' H' _ hP
          obtain ⟨F', o_x_other, rfl, g_, sm_, owk0_, owk1_, hm_⟩ := hP
          exact owk1_.sq
        · intro i160 xv163 σ' H162 hx161 hP
          obtain ⟨F164, o_x_other165, rfl, g166, sm167, owk0168, owk1169, hm170⟩ := hP
          obtain ⟨e171, he172, r173⟩ := RL.get (hA152.up sm167) hx161
          rw [drop_at he172, m_open_entry_l3.eq_2] at hm170
          refine p_name ?_
          refine p_if ?_
          refine ⟨xv163, rfl, (V.ref D1), rfl, D1, _, (dval x_ties_to61 e171).isSome, rfl, (DK.get (α := (Int × Int)) (.inl owk0168.h) r173 g166.fh), (RD.is (hA64.up (Same.trans sm80 (Same.trans sm89 (Same.trans g130.ff (Same.trans sm137 (Same.trans g145.ff sm167)))))) e171), _, rfl, ?_⟩
          obtain ⟨c174, hc175, hm170⟩ := bnd hm170
          refine orJT (M := M0) (F := F164) (c := c174) (P := fun _ _ => True) (fun ha => ?_) (fun ha => ⟨(sjoin (ifT ha hc175)).symm, trivial⟩) g166.fh ?_
          · intro Q177 q178
            have hc175 := ifF ha hc175
            obtain ⟨t179, hb180, hc175⟩ := bnd hc175
            obtain ⟨v181, hv182, r183⟩ := RD.get (hA64.up (Same.trans sm80 (Same.trans sm89 (Same.trans g130.ff (Same.trans sm137 (Same.trans g145.ff sm167)))))) (x := e171) hb180
            have hg184 := (DK.get (α := (Int × Int)) (.inl owk0168.h) r173 g166.fh)
            rw [hv182] at hg184
            obtain rfl := R.int_v r183
            obtain rfl := sjoin hc175
            refine ⟨(V.ref D1), rfl, xv163, rfl, D1, (V.int t179), rfl, hg184, (V.int (((i67 : Nat) : Int), e84).2.c), rfl, _, _, rfl, rfl, _, _, rfl, rfl, _, rfl, (q178 _ _ (Gr.refl (M := M0) g166.fh) trivial)⟩
          intro F185 H186 g187 hB188
          have g189 := Gr.trans g166 g187
          have ow190 := owk0168.gr0 g187
          have ow191 := owk1169.gr0 g187
          refine (iteB (fun hc => ?_) (fun hc => ?_))
          · have hm170 := ifT hc hm170
            refine p_ret ?_
            obtain rfl := sjoin hm170
            have hm82 := bret hm82
            obtain rfl := sjoin hm82
            have hm := bret hm
            obtain rfl := sjoin hm
            refine ⟨(V.int (((i67 : Nat) : Int), e84).1), rfl, (hQ _ _ _ g189 (Rp.int (((i67 : Nat) : Int), e84).1))⟩
          · have hm170 := ifF hc hm170
            refine p_next ?_
            exact ⟨F185, (some xv163), rfl, g189, (Same.trans sm167 g187.ff), ow190, ow191, hm170⟩
        intro σ192 H193 hP
        obtain ⟨F194, o_x_other195, rfl, g196, sm197, owk0198, owk1199, hm200⟩ := hP
        rw [drop_end (RL.len (hA152.up sm197)), m_open_entry_l3.eq_1] at hm200
        obtain rfl := sjoin hm200
        have hm82 := bgo0 hm82
        exact ⟨F194, (some (V.int (((i67 : Nat) : Int), e84).2.b)), (some (V.int (((i67 : Nat) : Int), e84).2.a)), (some (V.int (((i67 : Nat) : Int), e84).1)), (some (V.int (((i67 : Nat) : Int), e84).2.c)), o_x_other195, rfl, g196, (Same.trans sm80 (Same.trans sm89 (Same.trans g130.ff (Same.trans sm137 (Same.trans g145.ff sm197))))), owk0198, hm82⟩
      · have hm82 := ifF hc hm82
        refine p_next ?_
        exact ⟨F128, (some (V.int (((i67 : Nat) : Int), e84).2.b)), (some (V.int (((i67 : Nat) : Int), e84).2.a)), (some (V.int (((i67 : Nat) : Int), e84).1)), (some (V.int (((i67 : Nat) : Int), e84).2.c)), o_x_other78, rfl, g132, (Same.trans sm80 (Same.trans sm89 g130.ff)), ow133, hm82⟩
    intro σ201 H202 hP
    obtain ⟨F203, o_x_house204, o_x_done205, o_x_k206, o_x_ties207, o_x_other208, rfl, g209, sm210, owk0211, hm212⟩ := hP
    rw [drop_end (enum_lenV (RL.len (hA_x_stands.up (Same.trans sm55 sm210)))), m_open_entry_l2.eq_1] at hm212
    obtain rfl := sjoin hm212
    have hm := bgo0 hm
    refine p_nx ?_
    refine p_ret ?_
    obtain rfl := sjoin hm
    exact (hQ _ _ _ g209 Rp.non)
end K28
namespace K28
open PySem PySem.Spec PyProof.Rows L2 TL G
theorem ok_none_fault {P : Program} {w : World} {K : PySem.W.Frag} {mg : Str → Option Value} {base : Heap} (T : Txt K mg) : FnOk P w K mg base CX0 4 T.a_none_fault T.d_none_fault ["net", "broken", "door", "order", "stands"] (sp_none_fault K) := by
  have G_is_entry : FnOk P w K mg base CX0 2 T.a_is_entry T.d_is_entry ["net", "order", "entry"] (sp_is_entry K) := ok_is_entry T
  have b_is_entry := T.F_is_entry.bindsN (ps := ["net", "order", "entry"]) fun _ _ _ _ _ _ us hl => match us, hl with | [_, _, _], _ => rfl
  have G_beginning : FnOk P w K mg base CX0 2 T.a_beginning T.d_beginning ["net", "door", "order"] (sp_beginning K) := ok_beginning T
  have b_beginning := T.F_beginning.bindsN (ps := ["net", "door", "order"]) fun _ _ _ _ _ _ us hl => match us, hl with | [_, _, _], _ => rfl
  have G_goal_of : FnOk P w K mg base CX0 1 T.a_goal_of T.d_goal_of ["net", "order"] (sp_goal_of K) := ok_goal_of T
  have b_goal_of := T.F_goal_of.bindsN (ps := ["net", "order"]) fun _ _ _ _ _ _ us hl => match us, hl with | [_, _], _ => rfl
  have G_open_entry : FnOk P w K mg base CX0 3 T.a_open_entry T.d_open_entry ["near", "order", "stands"] (sp_open_entry K) := ok_open_entry T
  have b_open_entry := T.F_open_entry.bindsN (ps := ["near", "order", "stands"]) fun _ _ _ _ _ _ us hl => match us, hl with | [_, _, _], _ => rfl
  have G_nearby : FnOk P w K mg base CX0 2 T.a_nearby T.d_nearby ["net", "broken"] (sp_nearby K) := ok_nearby T
  have b_nearby := T.F_nearby.bindsN (ps := ["net", "broken"]) fun _ _ _ _ _ _ us hl => match us, hl with | [_, _], _ => rfl
  refine fd_ok T.F_none_fault sc_none_fault (fun vs H Q E h => ?_) (fun cdv A outer s H0 vs Q E hr h => ?_)
  · obtain ⟨_, _, _, _, _, _, _, _, _, _, _, _, _, rfl, _⟩ := h
    rfl
  · obtain ⟨F0, v_x_net, x_net, p_x_broken, ws_x_broken, x_broken, x_door, v_x_order, x_order, p_x_stands, ws_x_stands, x_stands, r, rfl, hS0, r_x_net, hS_x_broken, hl_x_broken, hA_x_broken, nm_x_broken, r_x_order, hS_x_stands, hl_x_stands, hA_x_stands, nm_x_stands, hm, hQ⟩ := h
    refine ⟨_, (pss_cons (ps_for PassesOwn.never rfl (pi_enumK (by rfl) T.n_enumerate (pa_cons (pv 4) pa_nil)) (pg_tupK (K := K) 2 rfl (pgs_cons (pg_name (i := 5) sc_none_fault.nd rfl (Or.inl rfl)) (pgs_cons (pg_name (i := 6) sc_none_fault.nd rfl (Or.inl rfl)) pgs_nil))) (pss_one (ps_if (PW.pt (pw_or (pt_not (pt_val (pe_call G_is_entry (hr.mono (by decide)) (by rfl) T.g_is_entry T.F_is_entry.kp b_is_entry .nil pass0 (pa_cons (pv 0) (pa_cons (pv 3) (pa_cons (pv 6) pa_nil)))))) (pw_or1 (PW.pt (pw_and (pt_cmpR op_gt (pv 5) pe_int (nomark _)) (pw_and1 (pt_cmpR (op_leDK (K := K) (α := (Int × Int)) hr.units) (pe_slice (sl_tupF (K := K)) (pv 6) po_none (po_some pe_int)) (pe_slice (sl_tupF (K := K)) (pe_ix (ix_listK (K := K)) (pv 4) (pe_op op_sub (pv 5) pe_int) (fun _ _ => rfl)) po_none (po_some pe_int)) (nomark _)))))))) (pss_one (ps_ret (pe_tup (pa_cons pe_str (pa_cons (pv 5) pa_nil))))) pss_nil))) (pss_cons (ps_set (i := 7) sc_none_fault.nd rfl (.inl rfl) (pe_call G_beginning (hr.mono (by decide)) (by rfl) T.g_beginning T.F_beginning.kp b_beginning .nil pass0 (pa_cons (pv 0) (pa_cons (pv 2) (pa_cons (pv 3) pa_nil))))) (pss_cons (ps_if (pt_cmpR op_isO (pv 7) pe_non (nomark _)) (pss_one (ps_ret (pe_ifExp (pt_cmpR (op_eqDK (K := K) hr.units) (pv 4) (pe_lst pa_nil) (nomark _)) pe_non (pe_tup (pa_cons pe_str pa_nil))))) pss_nil) (pss_cons (ps_if (pt_cmpR (op_notInDK (K := K) (units65 hr)) (pe_op (op_catTK (K := K)) (pv 7) (pe_tup (pa_cons pe_int pa_nil))) (pv 4) rfl) (pss_one (ps_ret (pe_tup (pa_cons pe_str pa_nil)))) pss_nil) (pss_cons (ps_for PassesOwn.never rfl (pi_enumK (by rfl) T.n_enumerate (pa_cons (pv 4) pa_nil)) (pg_tupK (K := K) 2 rfl (pgs_cons (pg_name (i := 5) sc_none_fault.nd rfl (Or.inl rfl)) (pgs_cons (pg_name (i := 6) sc_none_fault.nd rfl (Or.inl rfl)) pgs_nil))) (pss_one (ps_if (pt_cmpR (op_eqDK (K := K) hr.units) (pe_slice (sl_tupF (K := K)) (pv 6) po_none (po_some pe_int)) (pe_call G_goal_of (hr.mono (by decide)) (by rfl) T.g_goal_of T.F_goal_of.kp b_goal_of .nil pass0 (pa_cons (pv 0) (pa_cons (pv 3) pa_nil))) (nomark _)) (pss_one (ps_ret (pe_tup (pa_cons pe_str (pa_cons (pv 5) pa_nil))))) pss_nil))) (pss_cons (ps_set (i := 5) sc_none_fault.nd rfl (.inl rfl) (pe_call G_open_entry (hr.mono (by decide)) (by rfl) T.g_open_entry T.F_open_entry.kp b_open_entry .nil pass0 (pa_cons (pe_call G_nearby (hr.mono (by decide)) (by rfl) T.g_nearby T.F_nearby.kp b_nearby .nil pass0 (pa_cons (pv 0) (pa_cons (pv 1) pa_nil))) (pa_cons (pv 3) (pa_cons (pv 4) pa_nil))))) (pss_one (ps_ret (pe_ifExp (pt_cmpR op_isO (pv 5) pe_non (nomark _)) pe_non (pe_tup (pa_cons pe_str (pa_cons (pv 5) pa_nil)))))))))))), ?_⟩
    have g0 : Gr M0 F0 H0 F0 H0 := Gr.refl hS0
    unfold m_none_fault at hm
    refine p_seq ?_
    refine p_for ?_
    refine ⟨(V.ref p_x_stands), rfl, p_x_stands, ws_x_stands, rfl, (g0.seq nm_x_stands hS_x_stands), ?_⟩
    obtain ⟨l1, ht2, hm⟩ := bndL0 hm
    refine for_enum (K := K) (a := p_x_stands) (xs := ws_x_stands) (fun i σ' H' => ∃ (F' : Hp) (o_x_entry : Option V) (o_x_k : Option V), σ' = [(some v_x_net), (some (V.ref p_x_broken)), (some (V.int x_door)), (some v_x_order), (some (V.ref p_x_stands)), o_x_k, o_x_entry, none] ∧ Gr M0 F0 H0 F' H' ∧ Same F0 F' ∧ m_none_fault_l1 x_net x_order x_stands ((List.zip (rangeL 0 (x_stands).length) x_stands).drop i)  = some l1) ?_ ?_ ?_ ?_
    · exact ⟨F0, none, none, rfl, g0, (Same.refl _), ht2⟩
    · intro i σ' H' _ hP
      obtain ⟨F', o_x_entry, o_x_k, rfl, g_, sm_, hm_⟩ := hP
      exact (g_.seq nm_x_stands hS_x_stands)
    · intro i3 xv6 T7 σ' H5 hx4 nT8 hP
      obtain ⟨F9, o_x_entry10, o_x_k11, rfl, g12, sm13, hm14⟩ := hP
      obtain ⟨e16, he17, r18⟩ := RL.get (hA_x_stands.up sm13) hx4
      have he19 := enum_get he17
      have sm20 := same_new (o := (.tup [(V.int ((i3 : Nat) : Int)), xv6])) (g12.noneF nT8)
      have g21 := g12.frz (o := (.tup [(V.int ((i3 : Nat) : Int)), xv6])) nT8
      have r22 : R K (upd F9 T7 (.tup [(V.int ((i3 : Nat) : Int)), xv6])) (.ref T7) ((((i3 : Nat) : Int), e16) : (Int × (T3 Int Int Int))) := R.mk2 fzT (Rp.int ((i3 : Nat) : Int)) (r18.up sm20)
      rw [drop_at he19, m_none_fault_l1.eq_2] at hm14
      obtain ⟨p23, v26, v27, ev24, hS25, r28, r29⟩ := R.p2_v r22
      obtain rfl := R.int_v r28
      refine ⟨p23, [(V.int (((i3 : Nat) : Int), e16).1), v27], ev24, (SqT_mono g21.fh hS25), rfl, (V.int (((i3 : Nat) : Int), e16).1), [v27], rfl, v27, [], rfl, rfl, ?_⟩
      refine p_if ?_
      obtain ⟨r30, hb31, hm14⟩ := bnd hm14
      refine ⟨v_x_net, rfl, v_x_order, rfl, v27, rfl, v_x_net, x_net, v_x_order, x_order, v27, (((i3 : Nat) : Int), e16).2, r30, rfl, (Rp.up (r_x_net.up (Same.trans sm13 sm20)) g21.fh), (Rp.up (r_x_order.up (Same.trans sm13 sm20)) g21.fh), (Rp.up r29 g21.fh), hb31, fun F32 H33 g34 => ?_⟩
      have g36 := Gr.apart g21 g34
      refine ⟨_, rfl, ?_⟩
      obtain ⟨c37, hc38, hm14⟩ := bnd hm14
      refine orJT (M := M0) (F := (upd F9 T7 (.tup [(V.int ((i3 : Nat) : Int)), xv6]))) (c := c37) (P := fun _ _ => True) (fun ha => ?_) (fun ha => ⟨(sjoin (ifT ha hc38)).symm, trivial⟩) g36.fh ?_
      · intro Q40 q41
        have hc38 := ifF ha hc38
        refine ⟨(V.int (((i3 : Nat) : Int), e16).1), rfl, _, _, rfl, rfl, _, rfl, ?_⟩
        obtain ⟨c42, hc43, hc38⟩ := bnd hc38
        refine andJT (M := M0) (F := (upd F9 T7 (.tup [(V.int ((i3 : Nat) : Int)), xv6]))) (c := c42) (P := fun _ _ => True) (fun ha => ?_) (fun ha => ⟨(sjoin (ifF ha hc43)).symm, trivial⟩) g36.fh ?_
        · intro Q45 q46
          have hc43 := ifT ha hc43
          obtain ⟨p47, v50, v51, v52, ev48, hS49, r53, r54, r55⟩ := R.p3_v r29
          obtain rfl := R.int_v r53
          obtain rfl := R.int_v r54
          obtain rfl := R.int_v r55
          have r56 : R K (upd F9 T7 (.tup [(V.int ((i3 : Nat) : Int)), xv6])) v27 (VT.mk [(((i3 : Nat) : Int), e16).2.a, (((i3 : Nat) : Int), e16).2.b, (((i3 : Nat) : Int), e16).2.c] : (VT Int)) := r29
          obtain ⟨p57, ws58, ev59, hs63, hl61, hA62⟩ := R.vt_s r56
          have hS60 : SqT K _ p57 ws58 := .inl (.inl hs63)
          refine ⟨v27, rfl, _, rfl, (upd F9 T7 (.tup [(V.int ((i3 : Nat) : Int)), xv6])), p57, ws58, ev59, hs63, g36.fh, fun q64 F65 H66 g67 hs68 => ?_⟩
          have hA69 := RL.cut none (some (2 : Int)) hA62
          have g70 := Gr.trans g36 g67
          have g71 := Gr.trans (Gr.refl (M := M0) g36.fh) g67
          have g72 := Gr.trans (Gr.refl (M := M0) g36.fh) g67
          have r73 : R K F65 (.ref q64) ((VT.mk (cutL ((VT.mk [(((i3 : Nat) : Int), e16).2.a, (((i3 : Nat) : Int), e16).2.b, (((i3 : Nat) : Int), e16).2.c] : (VT Int))).l none (some (2 : Int)))) : (VT Int)) := R.mkvt hs68 (Nat.le_trans (cutV_length _ _ _) hl61) (RpA.up hA69 g67.ff)
          have r74 : R K F65 (.ref q64) (((((i3 : Nat) : Int), e16).2.a, (((i3 : Nat) : Int), e16).2.b) : (Int × Int)) := r73
          obtain ⟨t75, hb76, hc43⟩ := bnd hc43
          obtain ⟨v77, ha78, r79⟩ := RL.at (hA_x_stands.up (Same.trans sm13 (Same.trans sm20 g67.ff))) hb76
          obtain ⟨p80, v83, v84, v85, ev81, hS82, r86, r87, r88⟩ := R.p3_v r79
          obtain rfl := R.int_v r86
          obtain rfl := R.int_v r87
          obtain rfl := R.int_v r88
          have r89 : R K F65 v77 (VT.mk [t75.a, t75.b, t75.c] : (VT Int)) := r79
          obtain ⟨p90, ws91, ev92, hs96, hl94, hA95⟩ := R.vt_s r89
          have hS93 : SqT K _ p90 ws91 := .inl (.inl hs96)
          refine ⟨(V.ref p_x_stands), rfl, (V.int (((i3 : Nat) : Int), e16).1), rfl, _, _, rfl, rfl, p_x_stands, ws_x_stands, _, v77, rfl, rfl, (g70.seq nm_x_stands hS_x_stands), ha78, _, rfl, F65, p90, ws91, ev92, hs96, g70.fh, fun q97 F98 H99 g100 hs101 => ?_⟩
          have hA102 := RL.cut none (some (2 : Int)) hA95
          have g103 := Gr.trans g70 g100
          have g104 := Gr.trans g71 g100
          have g105 := Gr.trans g72 g100
          have r106 : R K F98 (.ref q97) ((VT.mk (cutL ((VT.mk [t75.a, t75.b, t75.c] : (VT Int))).l none (some (2 : Int)))) : (VT Int)) := R.mkvt hs101 (Nat.le_trans (cutV_length _ _ _) hl94) (RpA.up hA102 g100.ff)
          have r107 : R K F98 (.ref q97) ((t75.a, t75.b) : (Int × Int)) := r106
          have rH108 : R K H99 (V.ref q64) ((((i3 : Nat) : Int), e16).2.a, (((i3 : Nat) : Int), e16).2.b) := (Rp.up (r74.up g100.ff) g103.fh)
          have rH109 : R K H99 (V.ref q97) (t75.a, t75.b) := (Rp.up r107 g103.fh)
          obtain rfl := sjoin hc43
          refine ⟨_, _, rH108, rH109, _, rfl, (q46 _ _ g105 trivial)⟩
        intro F110 H111 g112 hB113
        have g114 := Gr.trans g36 g112
        have g115 := Gr.trans (Gr.refl (M := M0) g36.fh) g112
        obtain rfl := sjoin hc38
        exact (q41 _ _ g115 trivial)
      intro F116 H117 g118 hB119
      have g120 := Gr.trans g36 g118
      refine (iteB (fun hc => ?_) (fun hc => ?_))
      · have hm14 := ifT hc hm14
        refine p_ret ?_
        refine ⟨(V.int (((i3 : Nat) : Int), e16).1), rfl, (by show 2 ≤ sizeLine; decide), fun p121 np122 => ?_⟩
        have sm123 := same_new (o := (.tup [(V.str ("order" : Str)), (V.int (((i3 : Nat) : Int), e16).1)])) (g120.noneF np122)
        have g124 := g120.frz (o := (.tup [(V.str ("order" : Str)), (V.int (((i3 : Nat) : Int), e16).1)])) np122
        have r125 : R K (upd F116 p121 (.tup [(V.str ("order" : Str)), (V.int (((i3 : Nat) : Int), e16).1)])) (.ref p121) ((("order" : Str), (((i3 : Nat) : Int), e16).1) : (Str × Int)) := R.mk2 fzT (Rp.str ("order" : Str) ⟨by decide +kernel, by decide +kernel⟩) (Rp.int (((i3 : Nat) : Int), e16).1)
        have r126 : R K (upd F116 p121 (.tup [(V.str ("order" : Str)), (V.int (((i3 : Nat) : Int), e16).1)])) (V.ref p121) (some (((Sum.inr) (("order" : Str), (((i3 : Nat) : Int), e16).1)) : ((T1 Str) ⊕ (Str × Int)))) := r125
        obtain rfl := sjoin hm14
        have hm := bret hm
        obtain rfl := sjoin hm
        exact (hQ _ _ _ g124 r126)
      · have hm14 := ifF hc hm14
        refine p_next ?_
        exact ⟨F116, (some v27), (some (V.int (((i3 : Nat) : Int), e16).1)), rfl, g120, (Same.trans sm13 (Same.trans sm20 g118.ff)), hm14⟩
    intro σ127 H128 hP
    obtain ⟨F129, o_x_entry130, o_x_k131, rfl, g132, sm133, hm134⟩ := hP
    rw [drop_end (enum_lenV (RL.len (hA_x_stands.up sm133))), m_none_fault_l1.eq_1] at hm134
    obtain rfl := sjoin hm134
    have hm := bgo0 hm
    refine p_nx ?_
    refine p_seq ?_
    refine p_asg ?_
    obtain ⟨r135, hb136, hm⟩ := bnd hm
    refine ⟨v_x_net, rfl, (V.int x_door), rfl, v_x_order, rfl, F129, v_x_net, x_net, x_door, v_x_order, x_order, r135, rfl, g132.fh, (r_x_net.up sm133), (r_x_order.up sm133), hb136, fun v140 F137 H138 g139 r141 => ?_⟩
    have g142 := Gr.trans g132 g139
    refine p_name ?_
    refine p_nx ?_
    refine p_seq ?_
    refine p_if ?_
    refine ⟨v140, rfl, _, rfl, (isN_eq r141), _, rfl, (iteB (fun hc => ?_) (fun hc => ?_))⟩
    · have hm := ifT hc hm
      refine p_ret ?_
      refine ⟨(V.ref p_x_stands), rfl, (by show 0 ≤ sizeLine; decide), fun p143 np144 => ?_⟩
      have g145 := g142.own (o := (.lst [])) np144
      have ow146 : Ow H0 F137 (upd H138 p143 (.lst [])) p143 [] := Ow.new g142 np144
      have rH148 : R K (upd H138 p143 (.lst [])) (V.ref p_x_stands) x_stands := (R.mkl (g145.seq nm_x_stands hS_x_stands) hl_x_stands (RpA.up (hA_x_stands.up (Same.trans sm133 g139.ff)) g145.fh))
      have rH149 : R K (upd H138 p143 (.lst [])) (V.ref p143) ([] : (List (T3 Int Int Int))) := (R.mkl ow146.sq (by show 0 ≤ sizeLine; decide) (RpA.up RpA.nil g145.fh))
      refine ⟨_, _, (Rp.dp _ _ rH148), (Rp.dp _ _ rH149), (R.shaped rH148), (R.shaped rH149), _, rfl, ?_⟩
      refine ifJ (M := M0) (F := F137) (P := fun v' F' H' => R K F' v' ((if (eqD x_stands ([] : (List (T3 Int Int Int)))) then (none : (Option (T1 Str))) else (some (T1.mk ("start" : Str)))) : (Option (T1 Str)))) (fun ha => ?_) (fun ha => ?_) ?_
      · intro Q152 q153
        have ha : (eqD x_stands ([] : (List (T3 Int Int Int)))) = true := ha
        exact (q153 _ _ _ (Gr.refl (M := M0) g145.fh) (by rw [if_pos ha]; exact Rp.non))
      · intro Q154 q155
        have ha : (eqD x_stands ([] : (List (T3 Int Int Int)))) = false := ha
        refine ⟨(by show 1 ≤ sizeLine; decide), fun p156 np157 => ?_⟩
        have ne158 := ow146.ne np157
        have sm159 := same_new (o := (.tup [(V.str ("start" : Str))])) (g145.noneF np157)
        have g160 := g145.frz (o := (.tup [(V.str ("start" : Str))])) np157
        have g161 := (Gr.refl (M := M0) g145.fh).frz (o := (.tup [(V.str ("start" : Str))])) np157
        have ow162 := ow146.frz (o := (.tup [(V.str ("start" : Str))])) np157
        have r163 : R K (upd F137 p156 (.tup [(V.str ("start" : Str))])) (.ref p156) ((T1.mk ("start" : Str)) : (T1 Str)) := R.mk1 fzT (Rp.str ("start" : Str) ⟨by decide +kernel, by decide +kernel⟩)
        exact (q155 _ _ _ g161 (by rw [if_neg (ne_true_of_eq_false ha)]; exact r163))
      intro v167 F164 H165 g166 hp168
      have g170 := Gr.trans g145 g166
      have ow171 := ow146.gr0 g166
      have r172 : R K F164 v167 ((((if (eqD x_stands ([] : (List (T3 Int Int Int)))) then (none : (Option (T1 Str))) else (some (T1.mk ("start" : Str))))).map (Sum.inl : (T1 Str) → ((T1 Str) ⊕ (Str × Int)))) : (Option ((T1 Str) ⊕ (Str × Int)))) := R.omap (fun _ => rfl) hp168
      obtain rfl := sjoin hm
      exact (hQ _ _ _ g170 r172)
    · have hm := ifF hc hm
      refine p_next ?_
      refine p_nx ?_
      refine p_seq ?_
      refine p_if ?_
      refine ⟨v140, rfl, (by show 1 ≤ sizeLine; decide), fun p173 np174 => ?_⟩
      have sm175 := same_new (o := (.tup [(V.int (0 : Int))])) (g142.noneF np174)
      have g176 := g142.frz (o := (.tup [(V.int (0 : Int))])) np174
      have r177 : R K (upd F137 p173 (.tup [(V.int (0 : Int))])) (.ref p173) ((T1.mk (0 : Int)) : (T1 Int)) := R.mk1 fzT (Rp.int (0 : Int))
      obtain ⟨t178, hb179, hm⟩ := bnd hm
      have r180 := getO_ok (x := t178) hb179 (r141.up sm175)
      obtain ⟨p181, v184, v185, ev182, hS183, r186, r187⟩ := R.p2_v r180
      obtain rfl := R.int_v r186
      obtain rfl := R.int_v r187
      obtain ⟨p188, v191, ev189, hS190, r192⟩ := R.p1_v r177
      obtain rfl := R.int_v r192
      refine ⟨p181, p188, [(V.int t178.1), (V.int t178.2)], [(V.int (T1.mk (0 : Int)).a)], ev182, ev189, (SqT_mono g176.fh hS183), (SqT_mono g176.fh hS190), (by show 3 ≤ sizeLine; decide), (fun h => nomatch h), (fun _ h => nomatch h), fun _ _ p193 np194 => ?_⟩
      have sm195 := same_new (o := (.tup ([(V.int t178.1), (V.int t178.2)] ++ [(V.int (T1.mk (0 : Int)).a)]))) (g176.noneF np194)
      have g196 := g176.frz (o := (.tup ([(V.int t178.1), (V.int t178.2)] ++ [(V.int (T1.mk (0 : Int)).a)]))) np194
      have r197 : R K (upd (upd F137 p173 (.tup [(V.int (0 : Int))])) p193 (.tup ([(V.int t178.1), (V.int t178.2)] ++ [(V.int (T1.mk (0 : Int)).a)]))) (.ref p193) ((T3.mk t178.1 t178.2 (T1.mk (0 : Int)).a) : (T3 Int Int Int)) := R.mk3 fzT (Rp.int t178.1) (Rp.int t178.2) (Rp.int (T1.mk (0 : Int)).a)
      have rH198 : R K (upd (upd H138 p173 (.tup [(V.int (0 : Int))])) p193 (.tup ([(V.int t178.1), (V.int t178.2)] ++ [(V.int (T1.mk (0 : Int)).a)]))) (V.ref p193) (T3.mk t178.1 t178.2 (T1.mk (0 : Int)).a) := (Rp.up r197 g196.fh)
      have rH199 : R K (upd (upd H138 p173 (.tup [(V.int (0 : Int))])) p193 (.tup ([(V.int t178.1), (V.int t178.2)] ++ [(V.int (T1.mk (0 : Int)).a)]))) (V.ref p_x_stands) x_stands := (R.mkl (g196.seq nm_x_stands hS_x_stands) hl_x_stands (RpA.up (hA_x_stands.up (Same.trans sm133 (Same.trans g139.ff (Same.trans sm175 sm195)))) g196.fh))
      refine ⟨(V.ref p_x_stands), rfl, _, _, (Rp.dp _ _ rH198), (Rp.dp _ _ rH199), (R.shaped rH198), (R.shaped rH199), _, rfl, (iteB (fun hc => ?_) (fun hc => ?_))⟩
      · have hm := ifT hc hm
        refine p_ret ?_
        refine ⟨(by show 1 ≤ sizeLine; decide), fun p200 np201 => ?_⟩
        have sm202 := same_new (o := (.tup [(V.str ("start" : Str))])) (g196.noneF np201)
        have g203 := g196.frz (o := (.tup [(V.str ("start" : Str))])) np201
        have r204 : R K (upd (upd (upd F137 p173 (.tup [(V.int (0 : Int))])) p193 (.tup ([(V.int t178.1), (V.int t178.2)] ++ [(V.int (T1.mk (0 : Int)).a)]))) p200 (.tup [(V.str ("start" : Str))])) (.ref p200) ((T1.mk ("start" : Str)) : (T1 Str)) := R.mk1 fzT (Rp.str ("start" : Str) ⟨by decide +kernel, by decide +kernel⟩)
        have r205 : R K (upd (upd (upd F137 p173 (.tup [(V.int (0 : Int))])) p193 (.tup ([(V.int t178.1), (V.int t178.2)] ++ [(V.int (T1.mk (0 : Int)).a)]))) p200 (.tup [(V.str ("start" : Str))])) (V.ref p200) (some (((Sum.inl) (T1.mk ("start" : Str))) : ((T1 Str) ⊕ (Str × Int)))) := r204
        obtain rfl := sjoin hm
        exact (hQ _ _ _ g203 r205)
      · have hm := ifF hc hm
        refine p_next ?_
        refine p_nx ?_
        refine p_seq ?_
        refine p_for ?_
        refine ⟨(V.ref p_x_stands), rfl, p_x_stands, ws_x_stands, rfl, (g196.seq nm_x_stands hS_x_stands), ?_⟩
        obtain ⟨l206, ht207, hm⟩ := bndL0 hm
        refine for_enum (K := K) (a := p_x_stands) (xs := ws_x_stands) (fun i σ' H' => ∃ (F' : Hp) (o_x_entry : Option V) (o_x_k : Option V), σ' = [(some v_x_net), (some (V.ref p_x_broken)), (some (V.int x_door)), (some v_x_order), (some (V.ref p_x_stands)), o_x_k, o_x_entry, (some v140)] ∧ Gr M0 F0 H0 F' H' ∧ Same (upd (upd F137 p173 (.tup [(V.int (0 : Int))])) p193 (.tup ([(V.int t178.1), (V.int t178.2)] ++ [(V.int (T1.mk (0 : Int)).a)]))) F' ∧ m_none_fault_l2 x_net x_order ((List.zip (rangeL 0 (x_stands).length) x_stands).drop i)  = some l206) ?_ ?_ ?_ ?_
        · exact ⟨(upd (upd F137 p173 (.tup [(V.int (0 : Int))])) p193 (.tup ([(V.int t178.1), (V.int t178.2)] ++ [(V.int (T1.mk (0 : Int)).a)]))), o_x_entry130, o_x_k131, rfl, g196, (Same.refl _), ht207⟩
        · intro i σ' H' _ hP
          obtain ⟨F', o_x_entry, o_x_k, rfl, g_, sm_, hm_⟩ := hP
          exact (g_.seq nm_x_stands hS_x_stands)
        · intro i208 xv211 T212 σ' H210 hx209 nT213 hP
          obtain ⟨F214, o_x_entry215, o_x_k216, rfl, g217, sm218, hm219⟩ := hP
          obtain ⟨e221, he222, r223⟩ := RL.get (hA_x_stands.up (Same.trans sm133 (Same.trans g139.ff (Same.trans sm175 (Same.trans sm195 sm218))))) hx209
          have he224 := enum_get he222
          have sm225 := same_new (o := (.tup [(V.int ((i208 : Nat) : Int)), xv211])) (g217.noneF nT213)
          have g226 := g217.frz (o := (.tup [(V.int ((i208 : Nat) : Int)), xv211])) nT213
          have r227 : R K (upd F214 T212 (.tup [(V.int ((i208 : Nat) : Int)), xv211])) (.ref T212) ((((i208 : Nat) : Int), e221) : (Int × (T3 Int Int Int))) := R.mk2 fzT (Rp.int ((i208 : Nat) : Int)) (r223.up sm225)
          rw [drop_at he224, m_none_fault_l2.eq_2] at hm219
          obtain ⟨p228, v231, v232, ev229, hS230, r233, r234⟩ := R.p2_v r227
          obtain rfl := R.int_v r233
          refine ⟨p228, [(V.int (((i208 : Nat) : Int), e221).1), v232], ev229, (SqT_mono g226.fh hS230), rfl, (V.int (((i208 : Nat) : Int), e221).1), [v232], rfl, v232, [], rfl, rfl, ?_⟩
          refine p_if ?_
          obtain ⟨p235, v238, v239, v240, ev236, hS237, r241, r242, r243⟩ := R.p3_v r234
          obtain rfl := R.int_v r241
          obtain rfl := R.int_v r242
          obtain rfl := R.int_v r243
          have r244 : R K (upd F214 T212 (.tup [(V.int ((i208 : Nat) : Int)), xv211])) v232 (VT.mk [(((i208 : Nat) : Int), e221).2.a, (((i208 : Nat) : Int), e221).2.b, (((i208 : Nat) : Int), e221).2.c] : (VT Int)) := r234
          obtain ⟨p245, ws246, ev247, hs251, hl249, hA250⟩ := R.vt_s r244
          have hS248 : SqT K _ p245 ws246 := .inl (.inl hs251)
          refine ⟨v232, rfl, _, rfl, (upd F214 T212 (.tup [(V.int ((i208 : Nat) : Int)), xv211])), p245, ws246, ev247, hs251, g226.fh, fun q252 F253 H254 g255 hs256 => ?_⟩
          have hA257 := RL.cut none (some (2 : Int)) hA250
          have g258 := Gr.trans g226 g255
          have r259 : R K F253 (.ref q252) ((VT.mk (cutL ((VT.mk [(((i208 : Nat) : Int), e221).2.a, (((i208 : Nat) : Int), e221).2.b, (((i208 : Nat) : Int), e221).2.c] : (VT Int))).l none (some (2 : Int)))) : (VT Int)) := R.mkvt hs256 (Nat.le_trans (cutV_length _ _ _) hl249) (RpA.up hA257 g255.ff)
          have r260 : R K F253 (.ref q252) (((((i208 : Nat) : Int), e221).2.a, (((i208 : Nat) : Int), e221).2.b) : (Int × Int)) := r259
          obtain ⟨r261, hb262, hm219⟩ := bnd hm219
          refine ⟨v_x_net, rfl, v_x_order, rfl, F253, v_x_net, x_net, v_x_order, x_order, r261, rfl, g258.fh, (r_x_net.up (Same.trans sm133 (Same.trans g139.ff (Same.trans sm175 (Same.trans sm195 (Same.trans sm218 (Same.trans sm225 g255.ff))))))), (r_x_order.up (Same.trans sm133 (Same.trans g139.ff (Same.trans sm175 (Same.trans sm195 (Same.trans sm218 (Same.trans sm225 g255.ff))))))), hb262, fun v266 F263 H264 g265 r267 => ?_⟩
          have g268 := Gr.trans g258 g265
          have rH269 : R K H264 (V.ref q252) ((((i208 : Nat) : Int), e221).2.a, (((i208 : Nat) : Int), e221).2.b) := (Rp.up (r260.up g265.ff) g268.fh)
          have rH270 : R K H264 v266 r261 := (Rp.up r267 g268.fh)
          refine ⟨_, _, (Rp.dp _ _ rH269), (Rp.dp _ _ rH270), (R.shaped rH269), (R.shaped rH270), _, rfl, (iteB (fun hc => ?_) (fun hc => ?_))⟩
          · have hm219 := ifT hc hm219
            refine p_ret ?_
            refine ⟨(V.int (((i208 : Nat) : Int), e221).1), rfl, (by show 2 ≤ sizeLine; decide), fun p271 np272 => ?_⟩
            have sm273 := same_new (o := (.tup [(V.str ("goal" : Str)), (V.int (((i208 : Nat) : Int), e221).1)])) (g268.noneF np272)
            have g274 := g268.frz (o := (.tup [(V.str ("goal" : Str)), (V.int (((i208 : Nat) : Int), e221).1)])) np272
            have r275 : R K (upd F263 p271 (.tup [(V.str ("goal" : Str)), (V.int (((i208 : Nat) : Int), e221).1)])) (.ref p271) ((("goal" : Str), (((i208 : Nat) : Int), e221).1) : (Str × Int)) := R.mk2 fzT (Rp.str ("goal" : Str) ⟨by decide +kernel, by decide +kernel⟩) (Rp.int (((i208 : Nat) : Int), e221).1)
            have r276 : R K (upd F263 p271 (.tup [(V.str ("goal" : Str)), (V.int (((i208 : Nat) : Int), e221).1)])) (V.ref p271) (some (((Sum.inr) (("goal" : Str), (((i208 : Nat) : Int), e221).1)) : ((T1 Str) ⊕ (Str × Int)))) := r275
            obtain rfl := sjoin hm219
            have hm := bret hm
            obtain rfl := sjoin hm
            exact (hQ _ _ _ g274 r276)
          · have hm219 := ifF hc hm219
            refine p_next ?_
            exact ⟨F263, (some v232), (some (V.int (((i208 : Nat) : Int), e221).1)), rfl, g268, (Same.trans sm218 (Same.trans sm225 (Same.trans g255.ff g265.ff))), hm219⟩
        intro σ277 H278 hP
        obtain ⟨F279, o_x_entry280, o_x_k281, rfl, g282, sm283, hm284⟩ := hP
        rw [drop_end (enum_lenV (RL.len (hA_x_stands.up (Same.trans sm133 (Same.trans g139.ff (Same.trans sm175 (Same.trans sm195 sm283))))))), m_none_fault_l2.eq_1] at hm284
        obtain rfl := sjoin hm284
        have hm := bgo0 hm
        refine p_nx ?_
        refine p_seq ?_
        refine p_asg ?_
        obtain ⟨r285, hb286, hm⟩ := bnd hm
        refine ⟨v_x_net, rfl, (V.ref p_x_broken), rfl, F279, v_x_net, x_net, p_x_broken, ws_x_broken, x_broken, r285, rfl, g282.fh, (r_x_net.up (Same.trans sm133 (Same.trans g139.ff (Same.trans sm175 (Same.trans sm195 sm283))))), (g282.seq nm_x_broken hS_x_broken), hl_x_broken, (hA_x_broken.up (Same.trans sm133 (Same.trans g139.ff (Same.trans sm175 (Same.trans sm195 sm283))))), id, hb286, fun p290 ws291 F287 H288 g289 np292 h293 nF294 hl295 hA296 => ?_⟩
        have n0297 := g282.none0 np292
        have g298 := Gr.trans g282 g289
        have ow299 : Ow H0 F287 H288 p290 ws291 := ⟨h293, nF294, n0297⟩
        obtain ⟨r300, hb301, hm⟩ := bnd hm
        refine ⟨v_x_order, rfl, (V.ref p_x_stands), rfl, F287, p290, ws291, r285, v_x_order, x_order, p_x_stands, ws_x_stands, x_stands, r300, rfl, g298.fh, ow299.sq, hl295, hA296, id, (r_x_order.up (Same.trans sm133 (Same.trans g139.ff (Same.trans sm175 (Same.trans sm195 (Same.trans sm283 g289.ff)))))), (g298.seq nm_x_stands hS_x_stands), hl_x_stands, (hA_x_stands.up (Same.trans sm133 (Same.trans g139.ff (Same.trans sm175 (Same.trans sm195 (Same.trans sm283 g289.ff)))))), id, hb301, fun v305 F302 H303 g304 r306 => ?_⟩
        have g307 := Gr.trans g298 g304
        have ow308 := ow299.gr0 g304
        refine p_name ?_
        refine p_nx ?_
        refine p_ret ?_
        refine ⟨v305, rfl, _, rfl, (isN_eq r306), _, rfl, ?_⟩
        obtain ⟨c309, hc311, hm⟩ := bnd hm
        refine ifJ (M := M0) (F := F302) (P := fun v' F' H' => R K F' v' (c309 : (Option (Str × Int)))) (fun ha => ?_) (fun ha => ?_) ?_
        · intro Q312 q313
          have ha : (r300).isNone = true := ha
          have hc311 := ifT ha hc311
          obtain rfl := sjoin hc311
          exact (q313 _ _ _ (Gr.refl (M := M0) g307.fh) Rp.non)
        · intro Q314 q315
          have ha : (r300).isNone = false := ha
          have hc311 := ifF ha hc311
          obtain ⟨t316, hb317, hc311⟩ := bnd hc311
          have eq318 : v305 = V.int t316 := R.int_v (getO_ok (x := t316) hb317 r306)
          refine ⟨v305, rfl, (by show 2 ≤ sizeLine; decide), fun p319 np320 => ?_⟩
          have ne321 := ow308.ne np320
          have sm322 := same_new (o := (.tup [(V.str ("step" : Str)), v305])) (g307.noneF np320)
          have g323 := g307.frz (o := (.tup [(V.str ("step" : Str)), v305])) np320
          have g324 := (Gr.refl (M := M0) g307.fh).frz (o := (.tup [(V.str ("step" : Str)), v305])) np320
          have ow325 := ow308.frz (o := (.tup [(V.str ("step" : Str)), v305])) np320
          have r326 : R K (upd F302 p319 (.tup [(V.str ("step" : Str)), v305])) (.ref p319) ((("step" : Str), t316) : (Str × Int)) := R.mk2 fzT (Rp.str ("step" : Str) ⟨by decide +kernel, by decide +kernel⟩) (by rw [eq318]; exact Rp.int t316)
          obtain rfl := sjoin hc311
          exact (q315 _ _ _ g324 r326)
        intro v330 F327 H328 g329 hp331
        have g333 := Gr.trans g307 g329
        have ow334 := ow308.gr0 g329
        have r335 : R K F327 v330 (((c309).map (Sum.inr : (Str × Int) → ((T1 Str) ⊕ (Str × Int)))) : (Option ((T1 Str) ⊕ (Str × Int)))) := R.omap (fun _ => rfl) hp331
        obtain rfl := sjoin hm
        exact (hQ _ _ _ g333 r335)
end K28
namespace K28
open PySem PySem.Spec PyProof.Rows L2 TL G
theorem ok_l_bag {P : Program} {w : World} {K : PySem.W.Frag} {mg : Str → Option Value} {base : Heap} (T : Txt K mg) : FnOk P w K mg base CX0 1 T.a_l_bag T.d_l_bag ["_law_script"] (sp_l_bag K) := by
  refine fd_ok T.F_l_bag sc_l_bag (fun vs H Q E h => ?_) (fun cdv A outer s H0 vs Q E hr h => ?_)
  · obtain ⟨_, _, rfl, _⟩ := h
    rfl
  · obtain ⟨a, ns, rfl, hS, hl, hQ⟩ := h
    refine ⟨_, (pss_cons (ps_set (i := 1) sc_l_bag.nd rfl (.inl rfl) pe_int)
      (pss_cons (ps_for PassesOwn.never rfl (pi_list (pe_slice sl_list (pv 0) po_none (po_some pe_int))) (pg_name (i := 2) sc_l_bag.nd rfl (Or.inl rfl))
          (pss_one (ps_set (i := 1) sc_l_bag.nd rfl (.inl rfl) (pe_op op_mod (pe_op op_add (pe_op op_add (pe_op op_mul (pv 1) pe_int) (pe_op op_mod (pv 2) pe_int)) pe_int) pe_int))))
      (pss_one (ps_ret (pe_lst (pa_cons (pe_lc (own := [("_law_cell", 2)]) rfl sc_l_bag.nd (pi_list (pe_slice sl_list (pv 0) po_none (po_some pe_int)))
          (blkOk_by (own := [("_law_cell", 2)]) (N := N_l_bag) (sc := defScope s_l_bag) (by decide +kernel)) (fun _ _ _ _ _ => pg_name (i := 2) sc_l_bag.nd rfl (Or.inl rfl)) (fun _ _ _ _ _ => pts_nil)
          (fun _ _ _ _ _ => pe_op op_mod (pe_callB call_abs (by rfl) T.n_abs (by decide +kernel) (pa_cons (pv 2) pa_nil)) (pe_op op_powW (pe_op op_pow pe_int pe_int) pe_int)))
        (pa_cons pe_int (pa_cons pe_int (pa_cons (pv 1) (pa_cons pe_int pa_nil)))))))))), ?_⟩
    have g0 : Gr M0 (fun _ => none) H0 (fun _ => none) H0 := Gr.refl (fun _ _ h => nomatch h)
    have hcut : ∀ (lo hi : Option Int), cutV (ns.map V.int) lo hi = (cutL ns lo hi).map V.int := fun lo hi => by
      unfold cutV cutL
      rw [List.length_map, List.map_take, List.map_drop]
    have hcl : ∀ (lo hi : Option Int), (cutL ns lo hi).length ≤ 63 := fun lo hi => by
      unfold cutL
      rw [List.length_take, List.length_drop]
      omega
    refine p_seq ?_
    refine p_asg ?_
    refine p_name ?_
    refine p_nx ?_
    refine p_seq ?_
    refine p_for ?_
    refine ⟨.ref a, rfl, 63, rfl, a, ns.map V.int, rfl, hS, fun p np => ?_⟩
    rw [hcut]
    generalize hcs : cutL ns none (some 63) = cs
    have hc1 : cs.length ≤ 63 := by rw [← hcs]; exact hcl _ _
    have hc2 : (cs.map V.int).length = cs.length := List.length_map ..
    have g1 := g0.own (o := .lst (cs.map V.int)) np
    have ow1 : Ow H0 (fun _ => none) _ p (cs.map V.int) := Ow.new g0 np
    generalize hH1 : upd H0 p (.lst (cs.map V.int)) = H1 at g1 ow1 ⊢
    refine ⟨p, rfl, ⟨_, ow1.sq⟩, ?_⟩
    refine for_list (xs := cs.map V.int) (fun i σ' H' => ∃ (z : Int) (c : Option V), σ' = [some (.ref a), some (.int z), c] ∧ 0 ≤ z ∧ z < 2147483648 ∧ H' = H1) ⟨_, none, rfl, by decide, by decide, rfl⟩ (fun i σ' H' _ hP => ?_) (fun i x σ' H' hx hP => ?_) (fun σ' H' hP => ?_)
    · obtain ⟨z, c, _, _, _, rfl⟩ := hP
      exact ow1.sq
    · obtain ⟨z, c, rfl, h1, h2, rfl⟩ := hP
      obtain ⟨x, rfl⟩ : ∃ x', x = V.int x' := by
        rw [List.getElem?_map] at hx
        obtain ⟨y, _, e⟩ := Option.map_eq_some_iff.mp hx
        exact ⟨y, e.symm⟩
      refine p_asg ?_
      refine ⟨.int z, rfl, _, _, rfl, rfl, (.inr ⟨by decide, by decide⟩), .int x, rfl, _, _, rfl, rfl, (show (0 : Int) < 2147483629 by decide), _, _, rfl, rfl, _, _, rfl, rfl, _, _, rfl, rfl, (show (0 : Int) < 2147483647 by decide), ?_⟩
      refine ⟨_, _, rfl, Int.emod_nonneg _ (by decide), ?_, rfl⟩
      exact Int.lt_trans (Int.emod_lt_of_pos _ (by decide)) (by decide)
    · obtain ⟨z, c, rfl, h1, h2, rfl⟩ := hP
      refine p_nx ?_
      refine p_ret ?_
      have hS1 : SqL K H' a (ns.map V.int) := g1.seq id hS
      refine ⟨.ref a, rfl, 63, rfl, a, ns.map V.int, rfl, hS1, fun p2 np2 => ?_⟩
      rw [hcut, hcs]
      have g2 := g1.own (o := .lst (cs.map V.int)) np2
      have ow2 : Ow H0 (fun _ => none) _ p2 (cs.map V.int) := Ow.new g1 np2
      generalize hH2 : upd H' p2 (.lst (cs.map V.int)) = H2 at g2 ow2 ⊢
      refine ⟨p2, rfl, ⟨_, ow2.sq⟩, fun D nD => ?_⟩
      refine lc_list (xs := cs.map V.int) (fun i H' => ∃ ds : List Int, ds.length = i ∧ H' = upd H2 D (.lst (ds.map V.int))) ⟨[], rfl, rfl⟩ (fun i H' _ hP => ?_) (fun i x H' hx hP => ?_) (fun H' hP => ?_)
      · obtain ⟨ds, _, rfl⟩ := hP
        exact (ow2.own nD).sq
      · obtain ⟨ds, hds, rfl⟩ := hP
        have hi : i < cs.length := by rw [← hc2]; exact (List.getElem?_eq_some_iff.mp hx).1
        obtain ⟨x, rfl⟩ : ∃ x', x = V.int x' := by
          rw [List.getElem?_map] at hx
          obtain ⟨y, _, e⟩ := Option.map_eq_some_iff.mp hx
          exact ⟨y, e.symm⟩
        refine ⟨rfl, p_yes ?_⟩
        refine ⟨.int x, rfl, x, rfl, _, _, rfl, rfl, ⟨by decide, by decide, by decide⟩, _, _, rfl, rfl, ⟨by decide, by decide +kernel⟩, _, _, rfl, rfl, (show (0 : Int) < ((10 : Int) ^ (60 : Int).toNat) ^ (10 : Int).toNat by decide +kernel), ?_⟩
        refine ⟨_, upd_same, ?_, ds ++ [(if x < 0 then -x else x) % ((10 : Int) ^ (60 : Int).toNat) ^ (10 : Int).toNat], ?_, ?_⟩
        · rw [List.length_map, sizeLine_eq]; omega
        · rw [List.length_append, hds]; rfl
        · rw [upd_upd, List.map_append]; rfl
      · obtain ⟨ds, hds, rfl⟩ := hP
        rw [hc2] at hds
        refine ⟨.int z, rfl, (by show 5 ≤ sizeLine; decide), fun B nB => ?_⟩
        have hne : D ≠ B := fun e => by rw [← e, upd_same] at nB; cases nB
        exact hQ B D ⟨ds, 0, 0, z, 0⟩ (fun _ => none) _ (fun _ _ h => nomatch h) ⟨upd_same, by rw [upd_ne hne, upd_same], hne.symm, rfl, rfl⟩ ⟨h1, h2, by show ds.length ≤ 63; omega⟩ (((g2.own nD).own nB).seq id hS) (fun o ho z => by
          have m2 := g2.keep a o id ho
          rcases z with rfl | rfl
          · rw [upd_ne (fun e => by rw [e] at m2; rw [m2] at nD; cases nD)] at nB
            rw [m2] at nB
            cases nB
          · rw [m2] at nD
            cases nD)

end K28
namespace K28
open PySem PySem.Spec PyProof.Rows L2 TL G
theorem ok_l_stirred {P : Program} {w : World} {K : PySem.W.Frag} {mg : Str → Option Value} {base : Heap} (T : Txt K mg) : FnOk P w K mg base CX0 1 T.a_l_stirred T.d_l_stirred ["_law_bag_here", "_law_many"] (sp_l_stirred K) := by
  refine fd_ok T.F_l_stirred sc_l_stirred (fun vs H Q E h => ?_) (fun cdv A outer s H0 vs Q E hr h => ?_)
  · obtain ⟨_, _, _, _, _, _, _, rfl, _⟩ := h
    rfl
  · obtain ⟨F0, B, C, b, n, r, b', rfl, hS0, hB, hm, hQ⟩ := h
    refine ⟨_, (pss_cons (ps_set (i := 2) sc_l_stirred.nd rfl (.inl rfl) pe_int)
      (pss_cons (ps_for PassesOwn.never rfl (pi_range1 (by rfl) T.n_range (pa_cons (pe_op op_add pe_int (pe_op op_fdiv (pe_bits (pv 1)) pe_int)) pa_nil)) (pg_name (i := 3) sc_l_stirred.nd rfl (Or.inl rfl))
          (pss_cons (ps_asg (pe_op op_add (pe_ix ix_list (pv 0) pe_int (fun _ _ => rfl)) pe_int) (pg_sub (pv 0) pe_int set_list))
          (pss_cons (ps_asg (pe_op op_mod (pe_op op_add (pe_op op_add (pe_op op_add (pe_op op_pow (pe_ix ix_list (pv 0) pe_int (fun _ _ => rfl)) pe_int) (pe_op op_mul pe_int (pe_ix ix_list (pv 0) pe_int (fun _ _ => rfl)))) (pe_op op_mul pe_int (pe_ix ix_list (pv 0) pe_int (fun _ _ => rfl)))) pe_int) pe_int) (pg_sub (pv 0) pe_int set_list))
          (pss_one (ps_set (i := 2) sc_l_stirred.nd rfl (.inl rfl) (pe_op op_add (pe_op op_mul (pv 2) pe_int) (pe_op op_fdiv (pe_ix ix_list (pv 0) pe_int (fun _ _ => rfl)) pe_int)))))))
      (pss_one (ps_ret (pe_op op_mod (pv 2) (pv 1)))))), ?_⟩
    have g0 : Gr (Bc B C) F0 H0 F0 H0 := Gr.refl hS0
    unfold m_l_stirred at hm
    have hc : (0 < n ∧ Builtin.Int.intBits n < 9000) ∧ (0 ≤ b.stir ∧ b.stir < 2147483648) := by
      by_cases hc : (0 < n ∧ Builtin.Int.intBits n < 9000) ∧ (0 ≤ b.stir ∧ b.stir < 2147483648)
      · exact hc
      · rw [if_neg hc] at hm; cases hm
    rw [if_pos hc] at hm
    obtain ⟨⟨hn, hn2⟩, hs0, hs1⟩ := hc
    obtain ⟨cs, a0, lf, sd, ct⟩ := b
    simp only at hm hs0 hs1
    obtain ⟨rfl, rfl⟩ := pjoin hm
    have lB : ∀ {H : Hp} {a : Nat} {l z c : Int}, BagAt F0 H B C ⟨cs, a, l, z, c⟩ → SqL K H B [V.ref C, .int (a : Nat), .int l, .int z, .int c] := fun h => .inl (.inl h.hB)
    refine p_seq ?_
    refine p_asg ?_
    refine p_name ?_
    refine p_nx ?_
    refine p_seq ?_
    refine p_for ?_
    generalize hbn : Builtin.Int.intBits n = bn at hn2 ⊢
    have htn : ((1 : Int) + ((bn : Nat) : Int) / 27).toNat = 1 + bn / 27 := by omega
    refine ⟨.int n, rfl, n, rfl, _, _, rfl, rfl, ⟨by decide, by decide⟩, _, _, rfl, rfl, (1 : Int) + ((bn : Nat) : Int) / 27, by rw [← hbn], by omega, by omega, ?_⟩
    rw [htn]
    refine for_range (lo := 0) (n := 1 + bn / 27) (fun i σ' H' => ∃ (o : Option V), σ' = [some (.ref B), some (.int n), some (.int (stirN sd ct i).2.2), o] ∧ Gr (Bc B C) F0 H0 F0 H' ∧ BagAt F0 H' B C ⟨cs, a0, lf, (stirN sd ct i).1, (stirN sd ct i).2.1⟩ ∧ 0 ≤ (stirN sd ct i).1 ∧ (stirN sd ct i).1 < 2147483648) ⟨none, rfl, g0, hB, hs0, hs1⟩ (fun i σ' H' hi hP => ?_) (fun σ' H' hP => ?_)
    · obtain ⟨o, rfl, g, hB, h0, h1⟩ := hP
      generalize hS : stirN sd ct i = S at hB h0 h1 ⊢
      obtain ⟨z, c, f⟩ := S
      have hS' : stirN sd ct (i + 1) = (nxt z (c + 1), c + 1, f * 134217728 + nxt z (c + 1) / 16) := by
        show (nxt (stirN sd ct i).1 ((stirN sd ct i).2.1 + 1), (stirN sd ct i).2.1 + 1, (stirN sd ct i).2.2 * 134217728 + nxt (stirN sd ct i).1 ((stirN sd ct i).2.1 + 1) / 16) = _
        rw [hS]
      simp only at hB h0 h1 ⊢
      have hpow : CPow z 3 := ⟨by decide, by decide, by omega⟩
      refine p_seq ?_
      refine p_asg ?_
      refine ⟨_, rfl, _, _, 4, .int c, rfl, rfl, lB hB, rfl, _, _, rfl, rfl, _, rfl, B, _, 4, 4, rfl, rfl, hB.hB, rfl, ?_⟩
      have hB2 := G.BagAt2.put (b' := ⟨cs, a0, lf, z, c + 1⟩) hB rfl
      have g2 := g.mut (o := .lst [.ref C, .int (a0 : Nat), .int lf, .int z, .int (c + 1)]) hB.fB (.inr (.inl rfl))
      refine p_nx ?_
      refine p_seq ?_
      refine p_asg ?_
      refine ⟨_, rfl, _, _, 3, .int z, rfl, rfl, lB hB2, rfl, _, _, rfl, rfl, hpow, _, rfl, _, _, 3, .int z, rfl, rfl, lB hB2, rfl, _, _, rfl, rfl, (.inl ⟨by decide, by decide⟩), _, _, rfl, rfl, _, rfl, _, _, 4, .int (c + 1), rfl, rfl, lB hB2, rfl, _, _, rfl, rfl, (.inl ⟨by decide, by decide⟩), _, _, rfl, rfl, _, _, rfl, rfl, _, _, rfl, rfl, (show (0 : Int) < 2147483647 by decide), _, rfl, B, _, 3, 3, rfl, rfl, hB2.hB, rfl, ?_⟩
      have hB3 := G.BagAt2.put (b' := ⟨cs, a0, lf, nxt z (c + 1), c + 1⟩) hB2 rfl
      have g3 := g2.mut (o := .lst [.ref C, .int (a0 : Nat), .int lf, .int (nxt z (c + 1)), .int (c + 1)]) hB2.fB (.inr (.inl rfl))
      refine p_nx ?_
      refine p_asg ?_
      refine ⟨.int f, rfl, _, _, rfl, rfl, (.inr ⟨by decide, by decide⟩), _, rfl, _, _, 3, .int (nxt z (c + 1)), rfl, rfl, lB hB3, rfl, _, _, rfl, rfl, ⟨by decide, by decide⟩, _, _, rfl, rfl, ?_⟩
      refine p_name ?_
      refine ⟨_, by rw [hS'] <;> rfl, g3, by rw [hS']; exact hB3, ?_, ?_⟩
      · rw [hS']; exact Int.emod_nonneg _ (by decide)
      · rw [hS']
        have : nxt z (c + 1) < 2147483647 := Int.emod_lt_of_pos _ (by decide)
        show nxt z (c + 1) < 2147483648
        omega
    · obtain ⟨o, rfl, g, hB, h0, h1⟩ := hP
      refine p_nx ?_
      refine p_ret ?_
      refine ⟨_, rfl, .int n, rfl, _, _, rfl, rfl, hn, ?_⟩
      subst hbn
      exact hQ _ _ g hB
theorem ok_l_draw {P : Program} {w : World} {K : PySem.W.Frag} {mg : Str → Option Value} {base : Heap} (T : Txt K mg) : FnOk P w K mg base CX0 2 T.a_l_draw T.d_l_draw ["_law_bag_here", "_law_many"] (sp_l_draw K) := by
  have G_l_stirred : FnOk P w K mg base CX0 1 T.a_l_stirred T.d_l_stirred ["_law_bag_here", "_law_many"] (sp_l_stirred K) := ok_l_stirred T
  have b_l_stirred := T.F_l_stirred.bindsN (ps := ["_law_bag_here", "_law_many"]) fun _ _ _ _ _ _ us hl => match us, hl with | [_, _], _ => rfl
  refine fd_ok T.F_l_draw sc_l_draw (fun vs H Q E h => ?_) (fun cdv A outer s H0 vs Q E hr h => ?_)
  · obtain ⟨_, _, _, _, _, _, _, rfl, _⟩ := h
    rfl
  · obtain ⟨F0, B, C, b, n, r, b', rfl, hS0, hB, hm, hQ⟩ := h
    refine ⟨_, (pss_cons (ps_if (PW.pt (pw_and (pt_cmpR op_eq (pe_ix ix_list (pv 0) pe_int (fun _ _ => rfl)) pe_int (nomark _)) (pw_and1 (pt_cmpR op_lt (pe_ix ix_list (pv 0) pe_int (fun _ _ => rfl)) (pe_callB call_lenL (by rfl) T.n_len (by decide +kernel) (pa_cons (pe_ix ix_list (pv 0) pe_int (fun _ _ => rfl)) pa_nil)) (nomark _)))))
          (pss_cons (ps_asg (pe_ix ix_list (pe_ix ix_list (pv 0) pe_int (fun _ _ => rfl)) (pe_ix ix_list (pv 0) pe_int (fun _ _ => rfl)) (fun _ _ => rfl)) (pg_sub (pv 0) pe_int set_list))
          (pss_one (ps_asg (pe_op op_add (pe_ix ix_list (pv 0) pe_int (fun _ _ => rfl)) pe_int) (pg_sub (pv 0) pe_int set_list))))
          (pss_one (ps_if (pt_cmpR op_eq (pe_ix ix_list (pv 0) pe_int (fun _ _ => rfl)) pe_int (nomark _)) (pss_one (ps_ret (pe_call G_l_stirred (hr.mono (by decide)) (by rfl) T.g_l_stirred T.F_l_stirred.kp b_l_stirred .nil pass0 (pa_cons (pv 0) (pa_cons (pv 1) pa_nil))))) pss_nil)))
      (pss_cons (ps_set (i := 2) sc_l_draw.nd rfl (.inl rfl) (pe_op op_mod (pe_ix ix_list (pv 0) pe_int (fun _ _ => rfl)) (pv 1)))
      (pss_cons (ps_asg (pe_op op_fdivW (pe_ix ix_list (pv 0) pe_int (fun _ _ => rfl)) (pv 1)) (pg_sub (pv 0) pe_int set_list))
      (pss_one (ps_ret (pv 2)))))), ?_⟩
    have g0 : Gr (Bc B C) F0 H0 F0 H0 := Gr.refl hS0
    unfold m_l_draw at hm
    have hc : (0 < n ∧ n.natAbs.log2 < 9000) ∧ b.cells.length ≤ sizeLine := by
      by_cases hc : (0 < n ∧ n.natAbs.log2 < 9000) ∧ b.cells.length ≤ sizeLine
      · exact hc
      · rw [if_neg hc] at hm; cases hm
    rw [if_pos hc] at hm
    obtain ⟨⟨hn, hn2⟩, hsz⟩ := hc
    obtain ⟨cs, a, lf, sd, ct⟩ := b
    simp only at hm hsz
    have lB : ∀ {H : Hp} {a : Nat} {l z c : Int}, BagAt F0 H B C ⟨cs, a, l, z, c⟩ → SqL K H B [V.ref C, .int (a : Nat), .int l, .int z, .int c] := fun h => .inl (.inl h.hB)
    have lC : ∀ {H : Hp} {b1 : Bag}, BagAt F0 H B C b1 → SqL K H C (b1.cells.map V.int) := fun h => .inl (.inl h.hC)
    have hz : (cs.map V.int).length = cs.length := List.length_map ..
    refine p_seq ?_
    refine p_if ?_
    refine ⟨_, rfl, _, _, 2, .int lf, rfl, rfl, lB hB, rfl, rfl, _, rfl, ?_⟩
    by_cases h0 : lf = 0
    · subst h0
      rw [if_pos rfl] at hm
      refine ifTr (decide_eq_true rfl) ?_
      refine ⟨_, rfl, _, _, 1, .int (a : Nat), rfl, rfl, lB hB, rfl, _, rfl, _, _, 0, .ref C, rfl, rfl, lB hB, rfl, C, _, _, rfl, .inl (lC hB), hz, _, _, rfl, rfl, _, rfl, ?_⟩
      by_cases hl : a < cs.length
      · obtain ⟨x, hx⟩ : ∃ x, cs[a]? = some x := ⟨_, List.getElem?_eq_getElem hl⟩
        rw [hx] at hm
        obtain ⟨rfl, rfl⟩ := pjoin hm
        refine ifTr (decide_eq_true (Int.ofNat_lt.mpr hl)) ?_
        refine p_seq ?_
        refine p_asg ?_
        refine ⟨_, rfl, _, _, 0, .ref C, rfl, rfl, lB hB, rfl, _, rfl, _, _, 1, .int (a : Nat), rfl, rfl, lB hB, rfl, _, _, (a : Nat), .int x, rfl, rfl, lC hB, atI_map hx, _, rfl, B, _, 2, 2, rfl, rfl, hB.hB, rfl, ?_⟩
        have hB2 := G.BagAt2.put (b' := ⟨cs, a, x, sd, ct⟩) hB rfl
        have g2 := g0.mut (o := .lst [.ref C, .int (a : Nat), .int x, .int sd, .int ct]) hB.fB (.inr (.inl rfl))
        refine p_nx ?_
        refine p_asg ?_
        refine ⟨_, rfl, _, _, 1, .int (a : Nat), rfl, rfl, lB hB2, rfl, _, _, rfl, rfl, _, rfl, B, _, 1, 1, rfl, rfl, hB2.hB, rfl, ?_⟩
        have hB3 := G.BagAt2.put (b' := ⟨cs, a + 1, x, sd, ct⟩) hB2 rfl
        have g3 := g2.mut (o := .lst [.ref C, .int ((a + 1 : Nat) : Int), .int x, .int sd, .int ct]) hB2.fB (.inr (.inl rfl))
        refine p_nx ?_
        refine p_seq ?_
        refine p_asg ?_
        refine ⟨_, rfl, _, _, 2, .int x, rfl, rfl, lB hB3, rfl, .int n, rfl, _, _, rfl, rfl, hn, ?_⟩
        refine p_name ?_
        refine p_nx ?_
        refine p_seq ?_
        refine p_asg ?_
        refine ⟨_, rfl, _, _, 2, .int x, rfl, rfl, lB hB3, rfl, .int n, rfl, x, n, rfl, rfl, ⟨hn, hn2⟩, _, rfl, B, _, 2, 2, rfl, rfl, hB3.hB, rfl, ?_⟩
        refine p_nx ?_
        refine p_ret ?_
        refine ⟨_, rfl, ?_⟩
        exact hQ _ _ (g3.mut hB3.fB (.inr (.inl rfl))) (G.BagAt2.put (b' := ⟨cs, a + 1, x / n, sd, ct⟩) hB3 rfl)
      · rw [List.getElem?_eq_none (by omega)] at hm
        refine ifFr (decide_eq_false fun e => hl (Int.ofNat_lt.mp e)) ?_
        refine p_if ?_
        refine ⟨_, rfl, _, _, 2, .int 0, rfl, rfl, lB hB, rfl, rfl, _, rfl, ?_⟩
        refine ifTr (decide_eq_true rfl) ?_
        refine p_ret ?_
        refine ⟨.ref B, rfl, .int n, rfl, F0, B, C, _, n, r, b', rfl, g0.fh, hB, hm, fun F' H' g hB' => ?_⟩
        exact hQ _ _ (g0.trans g) hB'
    · rw [if_neg h0] at hm
      obtain ⟨rfl, rfl⟩ := pjoin hm
      refine ifFr (decide_eq_false fun e => h0 (V.int.inj e)) ?_
      refine ifFr rfl ?_
      refine p_if ?_
      refine ⟨_, rfl, _, _, 2, .int lf, rfl, rfl, lB hB, rfl, rfl, _, rfl, ?_⟩
      refine ifFr (decide_eq_false fun e => h0 (V.int.inj e)) ?_
      refine p_next ?_
      refine p_nx ?_
      refine p_seq ?_
      refine p_asg ?_
      refine ⟨_, rfl, _, _, 2, .int lf, rfl, rfl, lB hB, rfl, .int n, rfl, _, _, rfl, rfl, hn, ?_⟩
      refine p_name ?_
      refine p_nx ?_
      refine p_seq ?_
      refine p_asg ?_
      refine ⟨_, rfl, _, _, 2, .int lf, rfl, rfl, lB hB, rfl, .int n, rfl, lf, n, rfl, rfl, ⟨hn, hn2⟩, _, rfl, B, _, 2, 2, rfl, rfl, hB.hB, rfl, ?_⟩
      refine p_nx ?_
      refine p_ret ?_
      refine ⟨_, rfl, ?_⟩
      exact hQ _ _ (g0.mut hB.fB (.inr (.inl rfl))) (G.BagAt2.put (b' := ⟨cs, a, lf / n, sd, ct⟩) hB rfl)

end K28
namespace K28
open PySem PySem.Spec PyProof.Rows L2 TL G
theorem ok_l_liked {P : Program} {w : World} {K : PySem.W.Frag} {mg : Str → Option Value} {base : Heap} (T : Txt K mg) : FnOk P w K mg base CX0 1 T.a_l_liked T.d_l_liked ["_law_style", "_law_pair", "_law_homes"] (sp_l_liked K) := by
  refine fd_ok T.F_l_liked sc_l_liked (fun vs H Q E h => ?_) (fun cdv A outer s H0 vs Q E hr h => ?_)
  · obtain ⟨_, _, _, _, _, rfl, _⟩ := h
    rfl
  · obtain ⟨y_style, v_y_pair, y_pair, y_homes, r, rfl, r_y_pair, hm, hQ⟩ := h
    refine ⟨_, (pss_cons (ps_set (i := 3) sc_l_liked.nd rfl (.inl rfl) (pe_op op_sub (pe_ix (ix_tupK (K := K)) (pv 1) pe_int (fun _ _ => rfl)) (pe_ix (ix_tupK (K := K)) (pv 1) pe_int (fun _ _ => rfl)))) (pss_cons (ps_if (pt_cmpR op_eq (pv 0) pe_int (nomark _)) (pss_one (ps_ret (pe_cmpR op_eq (pv 3) pe_int (nomark _)))) pss_nil) (pss_cons (ps_if (pt_cmpR op_eq (pv 0) pe_int (nomark _)) (pss_one (ps_ret (pe_cmpR (op_inI (K := K)) (pv 3) (pe_lst (pa_cons pe_int (pa_cons (pe_op op_sub (pv 2) pe_int) pa_nil))) rfl))) pss_nil) (pss_one (ps_ret (pe_and (pe_cmpR op_eq (pv 0) pe_int (nomark _)) (pe_one (pe_or (pe_cmpR op_eq (pv 3) pe_int (nomark _)) (pe_one (pe_and (pe_cmpR op_eq (pv 3) pe_int (nomark _)) (pe_one (pe_cmpR op_gt (pe_op op_mod (pe_ix (ix_tupK (K := K)) (pv 1) pe_int (fun _ _ => rfl)) pe_int) pe_int (nomark _))))))))))))), ?_⟩
    have g0 : Gr M0 H0 H0 H0 H0 := Gr.refl (Same.refl _)
    unfold m_l_liked at hm
    refine p_seq ?_
    refine p_asg ?_
    obtain ⟨p1, v4, v5, ev2, hS3, r6, r7⟩ := R.p2_v r_y_pair
    obtain rfl := R.int_v r6
    obtain rfl := R.int_v r7
    refine ⟨v_y_pair, rfl, p1, _, _, (V.int y_pair.2), ev2, rfl, (SqT_mono g0.fh hS3), rfl, v_y_pair, rfl, p1, _, _, (V.int y_pair.1), ev2, rfl, (SqT_mono g0.fh hS3), rfl, _, _, rfl, rfl, ?_⟩
    obtain ⟨y_apart8, hb9, hm⟩ := bnd hm
    have hx10 : (y_pair.2 - y_pair.1) = y_apart8 := sjoin hb9
    refine p_nm (v' := (V.int y_apart8)) (congrArg V.int hx10) ?_
    refine p_nx ?_
    refine p_seq ?_
    refine p_if ?_
    refine ⟨(V.int y_style), rfl, rfl, _, rfl, (iteB (fun hc => ?_) (fun hc => ?_))⟩
    · have hm := ifT hc hm
      refine p_ret ?_
      obtain rfl := sjoin hm
      refine ⟨(V.int y_apart8), rfl, rfl, (hQ _ _ g0)⟩
    · have hm := ifF hc hm
      refine p_next ?_
      refine p_nx ?_
      refine p_seq ?_
      refine p_if ?_
      refine ⟨(V.int y_style), rfl, rfl, _, rfl, (iteB (fun hc => ?_) (fun hc => ?_))⟩
      · have hm := ifT hc hm
        refine p_ret ?_
        refine ⟨(V.int y_apart8), rfl, (V.int y_homes), rfl, _, _, rfl, rfl, (by show 2 ≤ sizeLine; decide), fun p11 np12 => ?_⟩
        have g13 := g0.own (o := (.lst [(V.int (1 : Int)), (V.int (y_homes - (1 : Int)))])) np12
        have ow14 : Ow H0 H0 (upd H0 p11 (.lst [(V.int (1 : Int)), (V.int (y_homes - (1 : Int)))])) p11 [(V.int (1 : Int)), (V.int (y_homes - (1 : Int)))] := Ow.new g0 np12
        have hA15 : RL K H0 [(V.int (1 : Int)), (V.int (y_homes - (1 : Int)))] ([(1 : Int), (y_homes - (1 : Int))] : List Int) := (RpA.cons (Rp.int (1 : Int)) (RpA.cons (Rp.int (y_homes - (1 : Int))) RpA.nil))
        obtain rfl := sjoin hm
        refine ⟨_, p11, _, rfl, rfl, (.inl (by rw [← RL.ints hA15]; exact ow14.sq)), (hQ _ _ g13)⟩
      · have hm := ifF hc hm
        refine p_next ?_
        refine p_nx ?_
        refine p_ret ?_
        refine ⟨(V.int y_style), rfl, rfl, _, rfl, ?_⟩
        refine andJV (M := M0) (F := H0) (c := ((eqI y_style (3 : Int)) && ((eqI y_apart8 (4 : Int)) || ((eqI y_apart8 (1 : Int)) && (decide ((0 : Int) < (y_pair.2 % (4 : Int)))))))) (P := fun _ _ => True) (fun ha => ?_) (fun ha => ⟨(anF ha), trivial⟩) g0.fh ?_
        · intro Q19 q20
          refine ⟨(V.int y_apart8), rfl, rfl, _, rfl, ?_⟩
          refine orJV (M := M0) (F := H0) (c := ((eqI y_apart8 (4 : Int)) || ((eqI y_apart8 (1 : Int)) && (decide ((0 : Int) < (y_pair.2 % (4 : Int))))))) (P := fun _ _ => True) (fun ha => ?_) (fun ha => ⟨(orTt ha), trivial⟩) g0.fh ?_
          · intro Q24 q25
            refine ⟨(V.int y_apart8), rfl, rfl, _, rfl, ?_⟩
            refine andJV (M := M0) (F := H0) (c := ((eqI y_apart8 (1 : Int)) && (decide ((0 : Int) < (y_pair.2 % (4 : Int)))))) (P := fun _ _ => True) (fun ha => ?_) (fun ha => ⟨(anF ha), trivial⟩) g0.fh ?_
            · intro Q29 q30
              refine ⟨v_y_pair, rfl, p1, _, _, (V.int y_pair.2), ev2, rfl, (SqT_mono g0.fh hS3), rfl, _, _, rfl, rfl, (show (0 : Int) < 4 by decide), _, _, rfl, rfl, (qTv ha (q30 _ _ (Gr.refl (M := M0) g0.fh) trivial))⟩
            intro F31 H32 g33 hB34
            have g35 := Gr.trans g0 g33
            have g36 := Gr.trans (Gr.refl (M := M0) g0.fh) g33
            have g37 := Gr.trans (Gr.refl (M := M0) g0.fh) g33
            exact (qOv ha (q25 _ _ g37 trivial))
          intro F38 H39 g40 hB41
          have g42 := Gr.trans g0 g40
          have g43 := Gr.trans (Gr.refl (M := M0) g0.fh) g40
          exact (qTv ha (q20 _ _ g43 trivial))
        intro F44 H45 g46 hB47
        have g48 := Gr.trans g0 g46
        obtain rfl := sjoin hm
        exact (hQ _ _ g48)
end K28
namespace K28
open PySem PySem.Spec PyProof.Rows L2 TL G
theorem ok_l_town_drawn {P : Program} {w : World} {K : PySem.W.Frag} {mg : Str → Option Value} {base : Heap} (T : Txt K mg) : FnOk P w K mg base CX0 3 T.a_l_town_drawn T.d_l_town_drawn ["_law_bag_here"] (sp_l_town_drawn K) := by
  have G_l_draw : FnOk P w K mg base CX0 2 T.a_l_draw T.d_l_draw ["_law_bag_here", "_law_many"] (sp_l_draw K) := ok_l_draw T
  have b_l_draw := T.F_l_draw.bindsN (ps := ["_law_bag_here", "_law_many"]) fun _ _ _ _ _ _ us hl => match us, hl with | [_, _], _ => rfl
  have G_l_liked : FnOk P w K mg base CX0 1 T.a_l_liked T.d_l_liked ["_law_style", "_law_pair", "_law_homes"] (sp_l_liked K) := ok_l_liked T
  have b_l_liked := T.F_l_liked.bindsN (ps := ["_law_style", "_law_pair", "_law_homes"]) fun _ _ _ _ _ _ us hl => match us, hl with | [_, _, _], _ => rfl
  refine fd_ok T.F_l_town_drawn sc_l_town_drawn (fun vs H Q E h => ?_) (fun cdv A outer s H0 vs Q E hr h => ?_)
  · obtain ⟨_, _, _, _, _, _, rfl, _⟩ := h
    rfl
  · obtain ⟨F0, B, C, b, r, b', rfl, hS0, hB, hm, hQ⟩ := h
    refine ⟨_, (pss_cons (ps_set (i := 1) sc_l_town_drawn.nd rfl (.inr rfl) (pe_ix (ix_listK (K := K)) (pe_lst (pa_cons (pe_op op_add pe_int (pe_call G_l_draw (hr.mono (by decide)) (by rfl) T.g_l_draw T.F_l_draw.kp b_l_draw .nil pass0 (pa_cons (pv 0) (pa_cons pe_int pa_nil)))) (pa_cons (pe_op op_add pe_int (pe_call G_l_draw (hr.mono (by decide)) (by rfl) T.g_l_draw T.F_l_draw.kp b_l_draw .nil pass0 (pa_cons (pv 0) (pa_cons pe_int pa_nil)))) (pa_cons pe_int pa_nil)))) (pe_call G_l_draw (hr.mono (by decide)) (by rfl) T.g_l_draw T.F_l_draw.kp b_l_draw .nil pass0 (pa_cons (pv 0) (pa_cons pe_int pa_nil))) (fun _ _ => rfl))) (pss_cons (ps_set (i := 2) sc_l_town_drawn.nd rfl (.inr rfl) (pe_call G_l_draw (hr.mono (by decide)) (by rfl) T.g_l_draw T.F_l_draw.kp b_l_draw .nil pass0 (pa_cons (pv 0) (pa_cons pe_int pa_nil)))) (pss_cons (ps_setLc (i := 3) (own := [("_law_k", 6)]) rfl sc_l_town_drawn.nd rfl rfl (sw_true rfl rfl rfl (by decide +kernel)) (pi_range1 (by rfl) T.n_range (pa_cons (pe_op op_mulW (pv 1) (pv 1)) pa_nil)) (blkOk_by (own := [("_law_k", 6)]) (N := N_l_town_drawn) (sc := defScope s_l_town_drawn) (by decide +kernel)) (fun _ _ _ _ _ => (pg_name (i := 6) sc_l_town_drawn.nd rfl (Or.inl rfl) (.inr rfl))) (fun _ _ _ _ _ => (pts_one (pt_cmpR op_lt (pe_op op_fdivW (pv 6) (pv 1)) (pe_op op_mod (pv 6) (pv 1)) (nomark _)))) (fun _ _ _ _ _ => (pe_tup (pa_cons (pe_op op_fdivW (pv 6) (pv 1)) (pa_cons (pe_op op_mod (pv 6) (pv 1)) pa_nil))))) (pss_cons (ps_set (i := 4) sc_l_town_drawn.nd rfl (.inr rfl) (pe_lc (own := [("_law_pair", 9)]) rfl sc_l_town_drawn.nd (pi_listK (K := K) (pv 3)) (blkOk_by (own := [("_law_pair", 9)]) (N := N_l_town_drawn) (sc := defScope s_l_town_drawn) (by decide +kernel)) (fun _ _ _ _ _ => (pg_name (i := 9) sc_l_town_drawn.nd rfl (Or.inl rfl) (.inr rfl))) (fun _ _ _ _ _ => (pts_one (pt_val (pe_call G_l_liked (hr.mono (by decide)) (by rfl) T.g_l_liked T.F_l_liked.kp b_l_liked .nil pass0 (pa_cons (pv 2) (pa_cons (pv 9) (pa_cons (pv 1) pa_nil))))))) (fun _ _ _ _ _ => (pv 9)))) (pss_cons (ps_setLc (i := 5) (own := [("_law_pair", 9)]) rfl sc_l_town_drawn.nd rfl rfl (sw_true rfl rfl rfl (by decide +kernel)) (pi_listK (K := K) (pv 3)) (blkOk_by (own := [("_law_pair", 9)]) (N := N_l_town_drawn) (sc := defScope s_l_town_drawn) (by decide +kernel)) (fun _ _ _ _ _ => (pg_name (i := 9) sc_l_town_drawn.nd rfl (Or.inl rfl) (.inr rfl))) (fun _ _ _ _ _ => (pts_one (pt_cmpR (op_notInDK (K := K) (units65 hr)) (pv 9) (pv 4) rfl))) (fun _ _ _ _ _ => (pv 9))) (pss_cons (ps_for PassesOwn.never rfl (pi_range1 (by rfl) T.n_range (pa_cons (pe_callB (call_min2 rfl) (by rfl) T.n_min (by decide +kernel) (pa_cons (pe_callB (call_lenLK (K := K)) (by rfl) T.n_len (by decide +kernel) (pa_cons (pv 5) pa_nil)) (pa_cons (pe_call G_l_draw (hr.mono (by decide)) (by rfl) T.g_l_draw T.F_l_draw.kp b_l_draw .nil pass0 (pa_cons (pv 0) (pa_cons (pe_op op_sub pe_int (pe_callB (call_lenLK (K := K)) (by rfl) T.n_len (by decide +kernel) (pa_cons (pv 4) pa_nil))) pa_nil))) pa_nil))) pa_nil)) (pg_name (i := 6) sc_l_town_drawn.nd rfl (Or.inl rfl)) (pss_one (ps_expr (pe_bmK (K := K) PySem.F.plainAttrs_list PySem.F.slot_list_append PySem.F.type_list_append mt_append (pv 4) (pa_cons (pe_bmK (K := K) PySem.F.plainAttrs_list PySem.F.slot_list_pop PySem.F.type_list_pop mt_popAt (pv 5) (pa_cons (pe_call G_l_draw (hr.mono (by decide)) (by rfl) T.g_l_draw T.F_l_draw.kp b_l_draw .nil pass0 (pa_cons (pv 0) (pa_cons (pe_callB (call_lenLK (K := K)) (by rfl) T.n_len (by decide +kernel) (pa_cons (pv 5) pa_nil)) pa_nil))) pa_nil)) pa_nil))))) (pss_cons (ps_setLc (i := 7) (own := [("_law_k", 6)]) rfl sc_l_town_drawn.nd rfl rfl (sw_true rfl rfl rfl (by decide +kernel)) (pi_range1 (by rfl) T.n_range (pa_cons (pe_callB (call_lenLK (K := K)) (by rfl) T.n_len (by decide +kernel) (pa_cons (pv 4) pa_nil)) pa_nil)) (blkOk_by (own := [("_law_k", 6)]) (N := N_l_town_drawn) (sc := defScope s_l_town_drawn) (by decide +kernel)) (fun _ _ _ _ _ => (pg_name (i := 6) sc_l_town_drawn.nd rfl (Or.inl rfl) (.inr rfl))) (fun _ _ _ _ _ => pts_nil) (fun _ _ _ _ _ => (pe_bmK (K := K) PySem.F.plainAttrs_list PySem.F.slot_list_pop PySem.F.type_list_pop mt_popAt (pv 4) (pa_cons (pe_call G_l_draw (hr.mono (by decide)) (by rfl) T.g_l_draw T.F_l_draw.kp b_l_draw .nil pass0 (pa_cons (pv 0) (pa_cons (pe_callB (call_lenLK (K := K)) (by rfl) T.n_len (by decide +kernel) (pa_cons (pv 4) pa_nil)) pa_nil))) pa_nil)))) (pss_cons (ps_setLc (i := 8) (own := [("_law_k", 6)]) rfl sc_l_town_drawn.nd rfl rfl (sw_true rfl rfl rfl (by decide +kernel)) (pi_range1 (by rfl) T.n_range (pa_cons (pe_op op_add pe_int (pe_call G_l_draw (hr.mono (by decide)) (by rfl) T.g_l_draw T.F_l_draw.kp b_l_draw .nil pass0 (pa_cons (pv 0) (pa_cons pe_int pa_nil)))) pa_nil)) (blkOk_by (own := [("_law_k", 6)]) (N := N_l_town_drawn) (sc := defScope s_l_town_drawn) (by decide +kernel)) (fun _ _ _ _ _ => (pg_name (i := 6) sc_l_town_drawn.nd rfl (Or.inl rfl) (.inr rfl))) (fun _ _ _ _ _ => pts_nil) (fun _ _ _ _ _ => (pe_call G_l_draw (hr.mono (by decide)) (by rfl) T.g_l_draw T.F_l_draw.kp b_l_draw .nil pass0 (pa_cons (pv 0) (pa_cons (pv 1) pa_nil))))) (pss_one (ps_ret (pe_tup (pa_cons (pe_op op_add pe_int (pe_call G_l_draw (hr.mono (by decide)) (by rfl) T.g_l_draw T.F_l_draw.kp b_l_draw .nil pass0 (pa_cons (pv 0) (pa_cons pe_int pa_nil)))) (pa_cons (pv 1) (pa_cons (pv 7) (pa_cons (pv 8) pa_nil))))))))))))))), ?_⟩
    have g0 : Gr (Bc B C) F0 H0 F0 H0 := Gr.refl hS0
    unfold m_l_town_drawn at hm
    refine p_seq ?_
    refine p_asg ?_
    obtain ⟨r1, b2, hb3, hm⟩ := bnd2 hm
    refine ⟨(V.ref B), rfl, F0, B, C, b, (4 : Int), r1, b2, rfl, g0.fh, hB, hb3, fun F4 H5 g6 hB7 => ?_⟩
    have g9 := Gr.trans g0 g6
    obtain ⟨r10, b11, hb12, hm⟩ := bnd2 hm
    refine ⟨_, _, rfl, rfl, (V.ref B), rfl, F4, B, C, b2, (12 : Int), r10, b11, rfl, g9.fh, hB7, hb12, fun F13 H14 g15 hB16 => ?_⟩
    have g18 := Gr.trans g9 g15
    refine ⟨_, _, rfl, rfl, (by show 3 ≤ sizeLine; decide), fun p19 np20 => ?_⟩
    have nb21 := hB16.nb np20
    have g22 := g18.own (o := (.lst [(V.int ((1 : Int) + r1)), (V.int ((1 : Int) + r10)), (V.int (12 : Int))])) np20
    have hB23 := hB16.own (o := (.lst [(V.int ((1 : Int) + r1)), (V.int ((1 : Int) + r10)), (V.int (12 : Int))])) np20
    have ow24 : Ow H0 F13 (upd H14 p19 (.lst [(V.int ((1 : Int) + r1)), (V.int ((1 : Int) + r10)), (V.int (12 : Int))])) p19 [(V.int ((1 : Int) + r1)), (V.int ((1 : Int) + r10)), (V.int (12 : Int))] := Ow.new g18 np20
    have hA25 : RL K F13 [(V.int ((1 : Int) + r1)), (V.int ((1 : Int) + r10)), (V.int (12 : Int))] ([((1 : Int) + r1), ((1 : Int) + r10), (12 : Int)] : List Int) := (RpA.cons (Rp.int ((1 : Int) + r1)) (RpA.cons (Rp.int ((1 : Int) + r10)) (RpA.cons (Rp.int (12 : Int)) RpA.nil)))
    obtain ⟨r26, b27, hb28, hm⟩ := bnd2 hm
    refine ⟨(V.ref B), rfl, F13, B, C, b11, (3 : Int), r26, b27, rfl, g22.fh, hB23, hb28, fun F29 H30 g31 hB32 => ?_⟩
    have g34 := Gr.trans g22 g31
    have ow35 := ow24.gr g31 nb21
    obtain ⟨t36, hb37, hm⟩ := bnd hm
    obtain ⟨v38, ha39, r40⟩ := RL.at (hA25.up g31.ff) hb37
    obtain rfl := R.int_v r40
    refine ⟨p19, [(V.int ((1 : Int) + r1)), (V.int ((1 : Int) + r10)), (V.int (12 : Int))], _, (V.int t36), rfl, rfl, ow35.sq, ha39, ?_⟩
    refine p_name ?_
    refine p_nx ?_
    refine p_seq ?_
    refine p_asg ?_
    obtain ⟨r41, b42, hb43, hm⟩ := bnd2 hm
    refine ⟨(V.ref B), rfl, F29, B, C, b27, (4 : Int), r41, b42, rfl, g34.fh, hB32, hb43, fun F44 H45 g46 hB47 => ?_⟩
    have g49 := Gr.trans g34 g46
    have ow50 := ow35.gr g46 nb21
    refine p_name ?_
    refine p_nx ?_
    refine p_seq ?_
    refine p_asg ?_
    obtain ⟨t51, hb52, hm⟩ := bnd hm
    obtain ⟨hk53, rfl⟩ := mulI_ok hb52
    obtain ⟨l54, hb56, hm⟩ := bnd hm
    obtain ⟨hk55, rfl⟩ := rangeO1_ok hb56
    refine ⟨(V.int t36), rfl, (V.int t36), rfl, _, _, rfl, rfl, hk53, _, rfl, hk55.1.1, hk55.1.2, fun D57 nD58 => ?_⟩
    have ne59 := ow50.ne nD58
    have nb60 := hB47.nb nD58
    have g61 := g49.own (o := (.lst [])) nD58
    have ow62 := ow50.own (o := (.lst [])) nD58
    have hB63 := hB47.own (o := (.lst [])) nD58
    have ow64 : Ow H0 F44 (upd H45 D57 (.lst [])) D57 [] := Ow.new g49 nD58
    obtain ⟨l65, hb66, hm⟩ := bnd hm
    refine lc_range (lo := (0 : Int)) (n := ((t36 * t36)).toNat) (fun i H' => ∃ (F' : Hp) (acc : List V) (ds : List (Int × Int)) (rest : List (Int × Int)), Gr (Bc B C) F0 H0 F' H' ∧ Same F44 F' ∧ Ow H0 F' H' D57 acc ∧ RL K F' acc ds ∧ acc.length ≤ i ∧ Ow H0 F' H' p19 [(V.int ((1 : Int) + r1)), (V.int ((1 : Int) + r10)), (V.int (12 : Int))] ∧ BagAt F' H' B C b42 ∧ m_l_town_drawn_c1 t36 ((rangeL (0 : Int) ((t36 * t36)).toNat).drop i) = some rest ∧ ds ++ rest = l65) ?_ ?_ ?_
    · exact ⟨F44, [], [], l65, g61, Same.refl _, ow64, RpA.nil, Nat.le_refl _, ow62, hB63, hb66, rfl⟩
    · intro i68 H70 hx69 hP
      obtain ⟨F71, acc72, ds73, rest74, g075, sm76, owD77, hA78, hi79, ow080, hB81, hm82, hr83⟩ := hP
      have he85 := rangeL_at (lo := (0 : Int)) hx69
      rw [drop_at he85, m_l_town_drawn_c1.eq_2] at hm82
      obtain ⟨t86, hb87, hm82⟩ := bnd hm82
      obtain ⟨hk88, rfl⟩ := divI_ok hb87
      obtain ⟨t89, hb90, hm82⟩ := bnd hm82
      obtain ⟨hk91, rfl⟩ := modI_ok hb90
      refine ⟨rfl, (V.int ((0 : Int) + ((i68 : Nat) : Int))), rfl, (V.int t36), rfl, _, _, rfl, rfl, hk88, (V.int ((0 : Int) + ((i68 : Nat) : Int))), rfl, (V.int t36), rfl, _, _, rfl, rfl, hk91, _, _, rfl, rfl, _, rfl, (iteB (fun hc => ?_) (fun hc => ?_))⟩
      · have hc : (decide ((((0 : Int) + ((i68 : Nat) : Int)) / t36) < (((0 : Int) + ((i68 : Nat) : Int)) % t36))) = true := hc
        have hm82 := ifT hc hm82
        obtain ⟨t92, hb93, hm82⟩ := bnd hm82
        obtain ⟨hk94, rfl⟩ := divI_ok hb93
        obtain ⟨t95, hb96, hm82⟩ := bnd hm82
        obtain ⟨hk97, rfl⟩ := modI_ok hb96
        refine ⟨(V.int ((0 : Int) + ((i68 : Nat) : Int))), rfl, (V.int t36), rfl, _, _, rfl, rfl, hk94, (V.int ((0 : Int) + ((i68 : Nat) : Int))), rfl, (V.int t36), rfl, _, _, rfl, rfl, hk97, (by show 2 ≤ sizeLine; decide), fun p98 np99 => ?_⟩
        have ne100 := ow080.ne np99
        have ne101 := owD77.ne np99
        have nb102 := hB81.nb np99
        have sm103 := same_new (o := (.tup [(V.int (((0 : Int) + ((i68 : Nat) : Int)) / t36)), (V.int (((0 : Int) + ((i68 : Nat) : Int)) % t36))])) (g075.noneF np99)
        have g104 := g075.frz (o := (.tup [(V.int (((0 : Int) + ((i68 : Nat) : Int)) / t36)), (V.int (((0 : Int) + ((i68 : Nat) : Int)) % t36))])) np99
        have ow105 := ow080.frz (o := (.tup [(V.int (((0 : Int) + ((i68 : Nat) : Int)) / t36)), (V.int (((0 : Int) + ((i68 : Nat) : Int)) % t36))])) np99
        have ow106 := owD77.frz (o := (.tup [(V.int (((0 : Int) + ((i68 : Nat) : Int)) / t36)), (V.int (((0 : Int) + ((i68 : Nat) : Int)) % t36))])) np99
        have hB107 := hB81.frz (o := (.tup [(V.int (((0 : Int) + ((i68 : Nat) : Int)) / t36)), (V.int (((0 : Int) + ((i68 : Nat) : Int)) % t36))])) np99
        have r108 : R K (upd F71 p98 (.tup [(V.int (((0 : Int) + ((i68 : Nat) : Int)) / t36)), (V.int (((0 : Int) + ((i68 : Nat) : Int)) % t36))])) (.ref p98) (((((0 : Int) + ((i68 : Nat) : Int)) / t36), (((0 : Int) + ((i68 : Nat) : Int)) % t36)) : (Int × Int)) := R.mk2 fzT (Rp.int (((0 : Int) + ((i68 : Nat) : Int)) / t36)) (Rp.int (((0 : Int) + ((i68 : Nat) : Int)) % t36))
        have hA109 : RL K (upd F71 p98 (.tup [(V.int (((0 : Int) + ((i68 : Nat) : Int)) / t36)), (V.int (((0 : Int) + ((i68 : Nat) : Int)) % t36))])) (acc72 ++ [(V.ref p98)]) (ds73 ++ [(((((0 : Int) + ((i68 : Nat) : Int)) / t36), (((0 : Int) + ((i68 : Nat) : Int)) % t36)) : (Int × Int))]) := RL.snoc (hA78.up sm103) r108
        obtain ⟨rest110, h111, h112⟩ := bnd hm82
        obtain rfl := sjoin h112
        refine ⟨acc72, ow106.h, (lt_line hi79 hx69 hk55.2), ?_⟩
        have g113 := g104.put (o := (.lst (acc72 ++ [(V.ref p98)]))) ow106
        have ow114 := ow105.other (o := (.lst (acc72 ++ [(V.ref p98)]))) ne59
        have hB115 := hB107.other (o := (.lst (acc72 ++ [(V.ref p98)]))) nb60
        have ow116 := ow106.put (us := (acc72 ++ [(V.ref p98)]))
        exact ⟨(upd F71 p98 (.tup [(V.int (((0 : Int) + ((i68 : Nat) : Int)) / t36)), (V.int (((0 : Int) + ((i68 : Nat) : Int)) % t36))])), (acc72 ++ [(V.ref p98)]), (ds73 ++ [((((0 : Int) + ((i68 : Nat) : Int)) / t36), (((0 : Int) + ((i68 : Nat) : Int)) % t36))]), rest110, g113, (Same.trans sm76 sm103), ow116, hA109, (by rw [List.length_append]; exact Nat.succ_le_succ hi79), ow114, hB115, h111, (snoc_rest hr83)⟩
      · have hc : (decide ((((0 : Int) + ((i68 : Nat) : Int)) / t36) < (((0 : Int) + ((i68 : Nat) : Int)) % t36))) = false := hc
        have hm82 := ifF hc hm82
        exact ⟨F71, acc72, ds73, rest74, g075, sm76, owD77, hA78, (Nat.le_succ_of_le hi79), ow080, hB81, hm82, hr83⟩
    intro H117 hP
    obtain ⟨F118, acc119, ds120, _rest, g0122, sm123, owD124, hA125, hi126, ow0127, hB128, hm129, hr130⟩ := hP
    rw [drop_end (rangeL_len _ _).symm] at hm129
    rw [m_l_town_drawn_c1.eq_1] at hm129
    obtain rfl := sjoin hm129
    rw [List.append_nil] at hr130
    obtain rfl := hr130
    have hl131 : acc119.length ≤ sizeLine := Nat.le_trans hi126 hk55.2
    refine p_name ?_
    refine p_nx ?_
    refine p_seq ?_
    refine p_asg ?_
    refine ⟨(V.ref D57), rfl, D57, rfl, ⟨_, owD124.sq⟩, fun D132 nD133 => ?_⟩
    have ne134 := ow0127.ne nD133
    have ne135 := owD124.ne nD133
    have nb136 := hB128.nb nD133
    have g137 := g0122.own (o := (.lst [])) nD133
    have ow138 := ow0127.own (o := (.lst [])) nD133
    have ow139 := owD124.own (o := (.lst [])) nD133
    have hB140 := hB128.own (o := (.lst [])) nD133
    have ow141 : Ow H0 F118 (upd H117 D132 (.lst [])) D132 [] := Ow.new g0122 nD133
    obtain ⟨l142, hb143, hm⟩ := bnd hm
    refine lc_list (K := K) (a := D57) (xs := acc119) (fun i H' => ∃ (F' : Hp) (acc : List V) (ds : List (Int × Int)) (rest : List (Int × Int)), Gr (Bc B C) F0 H0 F' H' ∧ Same F118 F' ∧ Ow H0 F' H' D132 acc ∧ RL K F' acc ds ∧ acc.length ≤ i ∧ Ow H0 F' H' p19 [(V.int ((1 : Int) + r1)), (V.int ((1 : Int) + r10)), (V.int (12 : Int))] ∧ Ow H0 F' H' D57 acc119 ∧ BagAt F' H' B C b42 ∧ m_l_town_drawn_c2 t36 r41 (ds120.drop i) = some rest ∧ ds ++ rest = l142) ?_ ?_ ?_ ?_
    · exact ⟨F118, [], [], l142, g137, Same.refl _, ow141, RpA.nil, Nat.le_refl _, ow138, ow139, hB140, hb143, rfl⟩
    · intro i H' _ hP
      obtain ⟨F144, acc145, ds146, rest147, g0148, sm149, owD150, hA151, hi152, ow0153, ow1154, hB155, hm156, hr157⟩ := hP
      exact ow1154.sq
    · intro i159 xv158 H161 hx160 hP
      obtain ⟨F162, acc163, ds164, rest165, g0166, sm167, owD168, hA169, hi170, ow0171, ow1172, hB173, hm174, hr175⟩ := hP
      obtain ⟨e176, he177, r178⟩ := RL.get (hA125.up sm167) hx160
      rw [drop_at he177, m_l_town_drawn_c2.eq_2] at hm174
      obtain ⟨r179, hb180, hm174⟩ := bnd hm174
      refine ⟨rfl, (V.int r41), rfl, xv158, rfl, (V.int t36), rfl, r41, xv158, e176, t36, r179, rfl, (Rp.up r178 g0166.fh), hb180, fun F181 H182 g183 => ?_⟩
      have g185 := Gr.apart g0166 g183
      have ow186 := ow0171.apart g183
      have ow187 := ow1172.apart g183
      have ow188 := owD168.apart g183
      have hB189 := hB173.apart g183
      refine ⟨_, rfl, (iteB (fun hc => ?_) (fun hc => ?_))⟩
      · have hc : r179 = true := hc
        have hm174 := ifT hc hm174
        have hA190 : RL K F162 (acc163 ++ [xv158]) (ds164 ++ [(e176 : (Int × Int))]) := RL.snoc hA169 r178
        obtain ⟨rest191, h192, h193⟩ := bnd hm174
        obtain rfl := sjoin h193
        refine ⟨xv158, rfl, acc163, ow188.h, (lt_line hi170 (List.getElem?_eq_some_iff.mp hx160).1 hl131), ?_⟩
        have g194 := g185.put (o := (.lst (acc163 ++ [xv158]))) ow188
        have ow195 := ow186.other (o := (.lst (acc163 ++ [xv158]))) ne134
        have ow196 := ow187.other (o := (.lst (acc163 ++ [xv158]))) ne135
        have hB197 := hB189.other (o := (.lst (acc163 ++ [xv158]))) nb136
        have ow198 := ow188.put (us := (acc163 ++ [xv158]))
        exact ⟨F162, (acc163 ++ [xv158]), (ds164 ++ [e176]), rest191, g194, sm167, ow198, hA190, (by rw [List.length_append]; exact Nat.succ_le_succ hi170), ow195, ow196, hB197, h192, (snoc_rest hr175)⟩
      · have hc : r179 = false := hc
        have hm174 := ifF hc hm174
        exact ⟨F162, acc163, ds164, rest165, g185, sm167, ow188, hA169, (Nat.le_succ_of_le hi170), ow186, ow187, hB189, hm174, hr175⟩
    intro H199 hP
    obtain ⟨F200, acc201, ds202, _rest, g0204, sm205, owD206, hA207, hi208, ow0209, ow1210, hB211, hm212, hr213⟩ := hP
    rw [drop_end (RL.len hA125)] at hm212
    rw [m_l_town_drawn_c2.eq_1] at hm212
    obtain rfl := sjoin hm212
    rw [List.append_nil] at hr213
    obtain rfl := hr213
    have hl214 : acc201.length ≤ sizeLine := Nat.le_trans hi208 hl131
    refine p_name ?_
    refine p_nx ?_
    refine p_seq ?_
    refine p_asg ?_
    refine ⟨(V.ref D57), rfl, D57, rfl, ⟨_, ow1210.sq⟩, fun D215 nD216 => ?_⟩
    have ne217 := ow0209.ne nD216
    have ne218 := ow1210.ne nD216
    have ne219 := owD206.ne nD216
    have nb220 := hB211.nb nD216
    have g221 := g0204.own (o := (.lst [])) nD216
    have ow222 := ow0209.own (o := (.lst [])) nD216
    have ow223 := ow1210.own (o := (.lst [])) nD216
    have ow224 := owD206.own (o := (.lst [])) nD216
    have hB225 := hB211.own (o := (.lst [])) nD216
    have ow226 : Ow H0 F200 (upd H199 D215 (.lst [])) D215 [] := Ow.new g0204 nD216
    refine lc_list (K := K) (a := D57) (xs := acc119) (fun i H' => ∃ (F' : Hp) (acc : List V) (ds : List (Int × Int)), Gr (Bc B C) F0 H0 F' H' ∧ Same F200 F' ∧ Ow H0 F' H' D215 acc ∧ RL K F' acc ds ∧ acc.length ≤ i ∧ Ow H0 F' H' p19 [(V.int ((1 : Int) + r1)), (V.int ((1 : Int) + r10)), (V.int (12 : Int))] ∧ Ow H0 F' H' D57 acc119 ∧ Ow H0 F' H' D132 acc201 ∧ BagAt F' H' B C b42 ∧ ds ++ m_l_town_drawn_c3 ds202 (ds120.drop i) = (m_l_town_drawn_c3 ds202 ds120)) ?_ ?_ ?_ ?_
    · exact ⟨F200, [], [], g221, Same.refl _, ow226, RpA.nil, Nat.le_refl _, ow222, ow223, ow224, hB225, rfl⟩
    · intro i H' _ hP
      obtain ⟨F228, acc229, ds230, g0231, sm232, owD233, hA234, hi235, ow0236, ow1237, ow2238, hB239, hr240⟩ := hP
      exact ow1237.sq
    · intro i242 xv241 H244 hx243 hP
      obtain ⟨F245, acc246, ds247, g0248, sm249, owD250, hA251, hi252, ow0253, ow1254, ow2255, hB256, hr257⟩ := hP
      obtain ⟨e258, he259, r260⟩ := RL.get (hA125.up (Same.trans sm205 sm249)) hx243
      rw [drop_at he259, m_l_town_drawn_c3.eq_2] at hr257
      have rH261 : R K H244 xv241 e258 := (Rp.up r260 g0248.fh)
      have rH262 : R K H244 (V.ref D132) ds202 := (R.mkl ow2255.sq hl214 (RpA.up (hA207.up sm249) g0248.fh))
      refine ⟨rfl, xv241, rfl, (V.ref D132), rfl, _, _, (Rp.dp _ _ rH261), (Rp.dp _ _ rH262), (R.shaped rH261), (R.shaped rH262), _, rfl, (iteB (fun hc => ?_) (fun hc => ?_))⟩
      · have hc : (!inD e258 ds202) = true := hc
        rw [if_pos hc] at hr257
        have hA263 : RL K F245 (acc246 ++ [xv241]) (ds247 ++ [(e258 : (Int × Int))]) := RL.snoc hA251 r260
        refine ⟨xv241, rfl, acc246, owD250.h, (lt_line hi252 (List.getElem?_eq_some_iff.mp hx243).1 hl131), ?_⟩
        have g264 := g0248.put (o := (.lst (acc246 ++ [xv241]))) owD250
        have ow265 := ow0253.other (o := (.lst (acc246 ++ [xv241]))) ne217
        have ow266 := ow1254.other (o := (.lst (acc246 ++ [xv241]))) ne218
        have ow267 := ow2255.other (o := (.lst (acc246 ++ [xv241]))) ne219
        have hB268 := hB256.other (o := (.lst (acc246 ++ [xv241]))) nb220
        have ow269 := owD250.put (us := (acc246 ++ [xv241]))
        exact ⟨F245, (acc246 ++ [xv241]), (ds247 ++ [e258]), g264, sm249, ow269, hA263, (by rw [List.length_append]; exact Nat.succ_le_succ hi252), ow265, ow266, ow267, hB268, (snoc_rest hr257)⟩
      · have hc : (!inD e258 ds202) = false := hc
        rw [if_neg (ne_true_of_eq_false hc)] at hr257
        exact ⟨F245, acc246, ds247, g0248, sm249, owD250, hA251, (Nat.le_succ_of_le hi252), ow0253, ow1254, ow2255, hB256, hr257⟩
    intro H270 hP
    obtain ⟨F271, acc272, ds273, g0275, sm276, owD277, hA278, hi279, ow0280, ow1281, ow2282, hB283, hr284⟩ := hP
    rw [drop_end (RL.len (hA125.up sm205))] at hr284
    rw [m_l_town_drawn_c3.eq_1, List.append_nil] at hr284
    obtain rfl := hr284
    have hl285 : acc272.length ≤ sizeLine := Nat.le_trans hi279 hl131
    obtain ⟨y_left286, hb287, hm⟩ := bnd hm
    have hx288 : (m_l_town_drawn_c3 ds202 ds120) = y_left286 := sjoin hb287
    have hA289 : RL K F271 acc272 y_left286 := RL.re hx288 hA278
    refine p_name ?_
    refine p_nx ?_
    refine p_seq ?_
    refine p_for ?_
    obtain ⟨r290, b291, hb292, hm⟩ := bnd2 hm
    refine ⟨(V.ref D215), rfl, D215, acc272, _, rfl, (.inl owD277.sq), (RL.len hA289), (V.ref B), rfl, (V.ref D132), rfl, D132, acc201, _, rfl, (.inl ow2282.sq), (RL.len (hA207.up sm276)), _, _, rfl, rfl, F271, B, C, b42, ((21 : Int) - (((ds202).length : Nat) : Int)), r290, b291, rfl, g0275.fh, hB283, hb292, fun F293 H294 g295 hB296 => ?_⟩
    have g298 := Gr.trans g0275 g295
    have ow299 := ow0280.gr g295 nb21
    have ow300 := ow1281.gr g295 nb60
    have ow301 := ow2282.gr g295 nb136
    have ow302 := owD277.gr g295 nb220
    obtain ⟨l303, hb305, hm⟩ := bnd hm
    obtain ⟨hk304, rfl⟩ := rangeO1_ok hb305
    refine ⟨_, _, rfl, _, rfl, hk304.1.1, hk304.1.2, ?_⟩
    obtain ⟨y_some306, y_left307, b308, ht309, hm⟩ := bnd3 hm
    refine for_range (lo := (0 : Int)) (n := ((if r290 < (((y_left286).length : Nat) : Int) then r290 else (((y_left286).length : Nat) : Int))).toNat) (fun i σ' H' => ∃ (F' : Hp) (o_y_k : Option V) (y_some : (List (Int × Int))) (ws_y_some : List V) (y_left : (List (Int × Int))) (ws_y_left : List V) (b : Bag), σ' = [(some (V.ref B)), (some (V.int t36)), (some (V.int r41)), (some (V.ref D57)), (some (V.ref D132)), (some (V.ref D215)), o_y_k, none, none, none] ∧ Gr (Bc B C) F0 H0 F' H' ∧ Same F293 F' ∧ Ow H0 F' H' D132 ws_y_some ∧ ws_y_some.length ≤ sizeLine ∧ RL K F' ws_y_some y_some ∧ Ow H0 F' H' D215 ws_y_left ∧ ws_y_left.length ≤ sizeLine ∧ RL K F' ws_y_left y_left ∧ BagAt F' H' B C b ∧ m_l_town_drawn_l4  ((rangeL (0 : Int) ((if r290 < (((y_left286).length : Nat) : Int) then r290 else (((y_left286).length : Nat) : Int))).toNat).drop i) y_some y_left b = some (y_some306, y_left307, b308)) ?_ ?_ ?_
    · exact ⟨F293, none, ds202, acc201, y_left286, acc272, b291, rfl, g298, (Same.refl _), ow301, hl214, (hA207.up (Same.trans sm276 g295.ff)), ow302, hl285, (hA289.up g295.ff), hB296, ht309⟩
    · intro i310 σ' H312 hx311 hP
      obtain ⟨F314, o_y_k315, y_some316, ws_y_some317, y_left318, ws_y_left319, b320, rfl, g321, sm322, ow_y_some323, hl_y_some324, hA_y_some325, ow_y_left326, hl_y_left327, hA_y_left328, hB329, hm330⟩ := hP
      have he332 := rangeL_at (lo := (0 : Int)) hx311
      rw [drop_at he332, m_l_town_drawn_l4.eq_2] at hm330
      refine p_name ?_
      refine p_drop ?_
      obtain ⟨r333, b334, hb335, hm330⟩ := bnd2 hm330
      refine ⟨(V.ref D132), rfl, (.inl ⟨rfl, _, ow_y_some323.sq⟩), (V.ref D215), rfl, (.inl ⟨rfl, _, ow_y_left326.sq⟩), (V.ref B), rfl, (V.ref D215), rfl, D215, ws_y_left319, _, rfl, (.inl ow_y_left326.sq), (RL.len hA_y_left328), F314, B, C, b320, (((y_left318).length : Nat) : Int), r333, b334, rfl, g321.fh, hB329, hb335, fun F336 H337 g338 hB339 => ?_⟩
      have g341 := Gr.trans g321 g338
      have ow342 := ow_y_some323.gr g338 nb136
      have ow343 := ow_y_left326.gr g338 nb220
      obtain ⟨t344, y_left345, hb346, hm330⟩ := bnd2 hm330
      obtain ⟨j347, hj348, hx349, rfl⟩ := popI_ok hb346
      obtain ⟨v350, hv351, r352⟩ := RL.back (hA_y_left328.up g338.ff) hx349
      have hi353 := popI_at (n := ws_y_left319.length) (by rw [RL.len (hA_y_left328.up g338.ff)]; exact hj348) hl_y_left327
      refine ⟨D215, ws_y_left319, _, j347, v350, rfl, rfl, ow343.h, hi353.1.1, hi353.1.2, hi353.2, hv351, ?_⟩
      have hA354 := RL.erase j347 (hA_y_left328.up g338.ff)
      have g355 := g341.put (o := (.lst (ws_y_left319.eraseIdx j347))) ow343
      have ow356 := ow342.other (o := (.lst (ws_y_left319.eraseIdx j347))) ne219
      have hB357 := hB339.other (o := (.lst (ws_y_left319.eraseIdx j347))) nb220
      have ow358 := ow343.put (us := (ws_y_left319.eraseIdx j347))
      obtain ⟨t359, hb360, hm330⟩ := bnd hm330
      obtain ⟨hk361, rfl⟩ := appL_ok hb360
      refine ⟨D132, ws_y_some317, v350, rfl, rfl, ow356.h, (by rw [RL.len (hA_y_some325.up g338.ff)]; exact hk361), ?_⟩
      have hA362 : RL K F336 (ws_y_some317 ++ [v350]) (y_some316 ++ [(t344 : (Int × Int))]) := RL.snoc (hA_y_some325.up g338.ff) r352
      have hl363 : (ws_y_some317 ++ [v350]).length ≤ sizeLine := by rw [List.length_append, RL.len (hA_y_some325.up g338.ff)]; exact hk361
      have g364 := g355.put (o := (.lst (ws_y_some317 ++ [v350]))) ow356
      have ow365 := ow358.other (o := (.lst (ws_y_some317 ++ [v350]))) (Ne.symm ne219)
      have hB366 := hB357.other (o := (.lst (ws_y_some317 ++ [v350]))) nb136
      have ow367 := ow356.put (us := (ws_y_some317 ++ [v350]))
      exact ⟨F336, (some (V.int ((0 : Int) + ((i310 : Nat) : Int)))), (y_some316 ++ [t344]), (ws_y_some317 ++ [v350]), (y_left318.eraseIdx j347), (ws_y_left319.eraseIdx j347), b334, rfl, g364, (Same.trans sm322 g338.ff), ow367, hl363, hA362, ow365, (erase_le hl_y_left327), hA354, hB366, hm330⟩
    intro σ368 H369 hP
    obtain ⟨F370, o_y_k371, y_some372, ws_y_some373, y_left374, ws_y_left375, b376, rfl, g377, sm378, ow_y_some379, hl_y_some380, hA_y_some381, ow_y_left382, hl_y_left383, hA_y_left384, hB385, hm386⟩ := hP
    rw [drop_end (rangeL_len _ _).symm, m_l_town_drawn_l4.eq_1] at hm386
    obtain ⟨rfl, rfl, rfl⟩ := pjoin3 hm386
    refine p_nx ?_
    refine p_seq ?_
    refine p_asg ?_
    obtain ⟨l387, hb389, hm⟩ := bnd hm
    obtain ⟨hk388, rfl⟩ := rangeO1_ok hb389
    refine ⟨(V.ref D132), rfl, D132, ws_y_some373, _, rfl, (.inl ow_y_some379.sq), (RL.len hA_y_some381), _, rfl, hk388.1.1, hk388.1.2, fun D390 nD391 => ?_⟩
    have ne392 := ow_y_some379.ne nD391
    have ne393 := ow_y_left382.ne nD391
    have nb394 := hB385.nb nD391
    have g395 := g377.own (o := (.lst [])) nD391
    have ow396 := ow_y_some379.own (o := (.lst [])) nD391
    have ow397 := ow_y_left382.own (o := (.lst [])) nD391
    have hB398 := hB385.own (o := (.lst [])) nD391
    have ow399 : Ow H0 F370 (upd H369 D390 (.lst [])) D390 [] := Ow.new g377 nD391
    obtain ⟨l400, y_some402, b401, hb403, hm⟩ := bnd3 hm
    refine lc_range (lo := (0 : Int)) (n := ((((y_some372).length : Nat) : Int)).toNat) (fun i H' => ∃ (F' : Hp) (acc : List V) (ds : List (Int × Int)) (rest : List (Int × Int)) (z_y_some : (List (Int × Int))) (wz_y_some : List V) (b : Bag), Gr (Bc B C) F0 H0 F' H' ∧ Same F370 F' ∧ Ow H0 F' H' D390 acc ∧ RL K F' acc ds ∧ acc.length ≤ i ∧ Ow H0 F' H' D215 ws_y_left375 ∧ Ow H0 F' H' D132 wz_y_some ∧ wz_y_some.length ≤ sizeLine ∧ RL K F' wz_y_some z_y_some ∧ BagAt F' H' B C b ∧ m_l_town_drawn_c5  ((rangeL (0 : Int) ((((y_some372).length : Nat) : Int)).toNat).drop i) z_y_some b = some (rest, y_some402, b401) ∧ ds ++ rest = l400) ?_ ?_ ?_
    · exact ⟨F370, [], [], l400, y_some372, ws_y_some373, b376, g395, Same.refl _, ow399, RpA.nil, Nat.le_refl _, ow397, ow396, hl_y_some380, hA_y_some381, hB398, hb403, rfl⟩
    · intro i405 H407 hx406 hP
      obtain ⟨F408, acc409, ds410, rest411, z_y_some412, wz_y_some413, b414, g0415, sm416, owD417, hA418, hi419, ow1420, owz_y_some421, hlz_y_some422, hAz_y_some423, hB424, hm425, hr426⟩ := hP
      have he428 := rangeL_at (lo := (0 : Int)) hx406
      rw [drop_at he428, m_l_town_drawn_c5.eq_2] at hm425
      refine ⟨rfl, (p_yes ?_)⟩
      obtain ⟨r429, b430, hb431, hm425⟩ := bnd2 hm425
      refine ⟨(V.ref D132), rfl, (.inl ⟨rfl, _, owz_y_some421.sq⟩), (V.ref B), rfl, (V.ref D132), rfl, D132, wz_y_some413, _, rfl, (.inl owz_y_some421.sq), (RL.len hAz_y_some423), F408, B, C, b414, (((z_y_some412).length : Nat) : Int), r429, b430, rfl, g0415.fh, hB424, hb431, fun F432 H433 g434 hB435 => ?_⟩
      have g437 := Gr.trans g0415 g434
      have ow438 := owz_y_some421.gr g434 nb136
      have ow439 := ow1420.gr g434 nb220
      have ow440 := owD417.gr g434 nb394
      obtain ⟨t441, y_some442, hb443, hm425⟩ := bnd2 hm425
      obtain ⟨j444, hj445, hx446, rfl⟩ := popI_ok hb443
      obtain ⟨v447, hv448, r449⟩ := RL.back (hAz_y_some423.up g434.ff) hx446
      have hi450 := popI_at (n := wz_y_some413.length) (by rw [RL.len (hAz_y_some423.up g434.ff)]; exact hj445) hlz_y_some422
      refine ⟨D132, wz_y_some413, _, j444, v447, rfl, rfl, ow438.h, hi450.1.1, hi450.1.2, hi450.2, hv448, ?_⟩
      have hA451 := RL.erase j444 (hAz_y_some423.up g434.ff)
      have g452 := g437.put (o := (.lst (wz_y_some413.eraseIdx j444))) ow438
      have ow453 := ow439.other (o := (.lst (wz_y_some413.eraseIdx j444))) (Ne.symm ne219)
      have ow454 := ow440.other (o := (.lst (wz_y_some413.eraseIdx j444))) (Ne.symm ne392)
      have hB455 := hB435.other (o := (.lst (wz_y_some413.eraseIdx j444))) nb136
      have ow456 := ow438.put (us := (wz_y_some413.eraseIdx j444))
      have hA457 : RL K F432 (acc409 ++ [v447]) (ds410 ++ [(t441 : (Int × Int))]) := RL.snoc (hA418.up g434.ff) r449
      obtain ⟨rest458, y_some459, b460, h461, h462⟩ := bnd3 hm425
      obtain ⟨rfl, rfl, rfl⟩ := pjoin3 h462
      refine ⟨acc409, ow454.h, (lt_line hi419 hx406 hk388.2), ?_⟩
      have g463 := g452.put (o := (.lst (acc409 ++ [v447]))) ow454
      have ow464 := ow456.other (o := (.lst (acc409 ++ [v447]))) ne392
      have ow465 := ow453.other (o := (.lst (acc409 ++ [v447]))) ne393
      have hB466 := hB455.other (o := (.lst (acc409 ++ [v447]))) nb394
      have ow467 := ow454.put (us := (acc409 ++ [v447]))
      exact ⟨F432, (acc409 ++ [v447]), (ds410 ++ [t441]), rest458, (z_y_some412.eraseIdx j444), (wz_y_some413.eraseIdx j444), b430, g463, (Same.trans sm416 g434.ff), ow467, hA457, (by rw [List.length_append]; exact Nat.succ_le_succ hi419), ow465, ow464, (erase_le hlz_y_some422), hA451, hB466, h461, (snoc_rest hr426)⟩
    intro H468 hP
    obtain ⟨F469, acc470, ds471, _rest, z_y_some473, wz_y_some474, b472, g0475, sm476, owD477, hA478, hi479, ow1480, owz_y_some481, hlz_y_some482, hAz_y_some483, hB484, hm485, hr486⟩ := hP
    rw [drop_end (rangeL_len _ _).symm] at hm485
    rw [m_l_town_drawn_c5.eq_1] at hm485
    obtain ⟨rfl, rfl, rfl⟩ := pjoin3 hm485
    rw [List.append_nil] at hr486
    obtain rfl := hr486
    have hl487 : acc470.length ≤ sizeLine := Nat.le_trans hi479 hk388.2
    refine p_name ?_
    refine p_nx ?_
    refine p_seq ?_
    refine p_asg ?_
    obtain ⟨r488, b489, hb490, hm⟩ := bnd2 hm
    refine ⟨(V.ref B), rfl, F469, B, C, b472, (8 : Int), r488, b489, rfl, g0475.fh, hB484, hb490, fun F491 H492 g493 hB494 => ?_⟩
    have g496 := Gr.trans g0475 g493
    have ow497 := owz_y_some481.gr g493 nb136
    have ow498 := ow1480.gr g493 nb220
    have ow499 := owD477.gr g493 nb394
    obtain ⟨l500, hb502, hm⟩ := bnd hm
    obtain ⟨hk501, rfl⟩ := rangeO1_ok hb502
    refine ⟨_, _, rfl, rfl, _, rfl, hk501.1.1, hk501.1.2, fun D503 nD504 => ?_⟩
    have ne505 := ow497.ne nD504
    have ne506 := ow498.ne nD504
    have ne507 := ow499.ne nD504
    have nb508 := hB494.nb nD504
    have g509 := g496.own (o := (.lst [])) nD504
    have ow510 := ow497.own (o := (.lst [])) nD504
    have ow511 := ow498.own (o := (.lst [])) nD504
    have ow512 := ow499.own (o := (.lst [])) nD504
    have hB513 := hB494.own (o := (.lst [])) nD504
    have ow514 : Ow H0 F491 (upd H492 D503 (.lst [])) D503 [] := Ow.new g496 nD504
    obtain ⟨l515, b516, hb517, hm⟩ := bnd2 hm
    refine lc_range (lo := (0 : Int)) (n := (((1 : Int) + r488)).toNat) (fun i H' => ∃ (F' : Hp) (acc : List V) (ds : List Int) (rest : List Int) (b : Bag), Gr (Bc B C) F0 H0 F' H' ∧ Same F491 F' ∧ Ow H0 F' H' D503 acc ∧ RL K F' acc ds ∧ acc.length ≤ i ∧ Ow H0 F' H' D132 wz_y_some474 ∧ Ow H0 F' H' D215 ws_y_left375 ∧ Ow H0 F' H' D390 acc470 ∧ BagAt F' H' B C b ∧ m_l_town_drawn_c6 t36 ((rangeL (0 : Int) (((1 : Int) + r488)).toNat).drop i) b = some (rest, b516) ∧ ds ++ rest = l515) ?_ ?_ ?_
    · exact ⟨F491, [], [], l515, b489, g509, Same.refl _, ow514, RpA.nil, Nat.le_refl _, ow510, ow511, ow512, hB513, hb517, rfl⟩
    · intro i519 H521 hx520 hP
      obtain ⟨F522, acc523, ds524, rest525, b526, g0527, sm528, owD529, hA530, hi531, ow0532, ow1533, ow2534, hB535, hm536, hr537⟩ := hP
      have he539 := rangeL_at (lo := (0 : Int)) hx520
      rw [drop_at he539, m_l_town_drawn_c6.eq_2] at hm536
      refine ⟨rfl, (p_yes ?_)⟩
      obtain ⟨r540, b541, hb542, hm536⟩ := bnd2 hm536
      refine ⟨(V.ref B), rfl, (V.int t36), rfl, F522, B, C, b526, t36, r540, b541, rfl, g0527.fh, hB535, hb542, fun F543 H544 g545 hB546 => ?_⟩
      have g548 := Gr.trans g0527 g545
      have ow549 := ow0532.gr g545 nb136
      have ow550 := ow1533.gr g545 nb220
      have ow551 := ow2534.gr g545 nb394
      have ow552 := owD529.gr g545 nb508
      have hA553 : RL K F543 (acc523 ++ [(V.int r540)]) (ds524 ++ [(r540 : Int)]) := RL.snoc (hA530.up g545.ff) (Rp.int r540)
      obtain ⟨rest554, b555, h556, h557⟩ := bnd2 hm536
      obtain ⟨rfl, rfl⟩ := pjoin h557
      refine ⟨acc523, ow552.h, (lt_line hi531 hx520 hk501.2), ?_⟩
      have g558 := g548.put (o := (.lst (acc523 ++ [(V.int r540)]))) ow552
      have ow559 := ow549.other (o := (.lst (acc523 ++ [(V.int r540)]))) ne505
      have ow560 := ow550.other (o := (.lst (acc523 ++ [(V.int r540)]))) ne506
      have ow561 := ow551.other (o := (.lst (acc523 ++ [(V.int r540)]))) ne507
      have hB562 := hB546.other (o := (.lst (acc523 ++ [(V.int r540)]))) nb508
      have ow563 := ow552.put (us := (acc523 ++ [(V.int r540)]))
      exact ⟨F543, (acc523 ++ [(V.int r540)]), (ds524 ++ [r540]), rest554, b541, g558, (Same.trans sm528 g545.ff), ow563, hA553, (by rw [List.length_append]; exact Nat.succ_le_succ hi531), ow559, ow560, ow561, hB562, h556, (snoc_rest hr537)⟩
    intro H564 hP
    obtain ⟨F565, acc566, ds567, _rest, b568, g0569, sm570, owD571, hA572, hi573, ow0574, ow1575, ow2576, hB577, hm578, hr579⟩ := hP
    rw [drop_end (rangeL_len _ _).symm] at hm578
    rw [m_l_town_drawn_c6.eq_1] at hm578
    obtain ⟨rfl, rfl⟩ := pjoin hm578
    rw [List.append_nil] at hr579
    obtain rfl := hr579
    have hl580 : acc566.length ≤ sizeLine := Nat.le_trans hi573 hk501.2
    refine p_name ?_
    refine p_nx ?_
    refine p_ret ?_
    obtain ⟨r581, b582, hb583, hm⟩ := bnd2 hm
    refine ⟨(V.ref B), rfl, F565, B, C, b568, (30 : Int), r581, b582, rfl, g0569.fh, hB577, hb583, fun F584 H585 g586 hB587 => ?_⟩
    have g589 := Gr.trans g0569 g586
    have ow590 := ow0574.gr g586 nb136
    have ow591 := ow1575.gr g586 nb220
    have ow592 := ow2576.gr g586 nb394
    have ow593 := owD571.gr g586 nb508
    have sm594 := ow592.sf
    have g595 := g589.fz ow592
    have ow596 : Ow H0 (upd F584 D390 (.lst acc470)) H585 D132 wz_y_some474 := ow590.fz ne392
    have ow597 : Ow H0 (upd F584 D390 (.lst acc470)) H585 D215 ws_y_left375 := ow591.fz ne393
    have ow598 : Ow H0 (upd F584 D390 (.lst acc470)) H585 D503 acc566 := ow593.fz (Ne.symm ne507)
    have hB599 : BagAt (upd F584 D390 (.lst acc470)) H585 B C b582 := hB587.fz nb394
    have r600 : R K (upd F584 D390 (.lst acc470)) (.ref D390) ds471 := R.mkl fzS hl487 (RpA.up (hA478.up (Same.trans g493.ff (Same.trans sm570 g586.ff))) sm594)
    have sm601 := ow598.sf
    have g602 := g595.fz ow598
    have ow603 : Ow H0 (upd (upd F584 D390 (.lst acc470)) D503 (.lst acc566)) H585 D132 wz_y_some474 := ow596.fz ne505
    have ow604 : Ow H0 (upd (upd F584 D390 (.lst acc470)) D503 (.lst acc566)) H585 D215 ws_y_left375 := ow597.fz ne506
    have hB605 : BagAt (upd (upd F584 D390 (.lst acc470)) D503 (.lst acc566)) H585 B C b582 := hB599.fz nb508
    have r606 : R K (upd (upd F584 D390 (.lst acc470)) D503 (.lst acc566)) (.ref D503) ds567 := R.mkl fzS hl580 (RpA.up (hA572.up (Same.trans g586.ff sm594)) sm601)
    refine ⟨_, _, rfl, rfl, (V.int t36), rfl, (V.ref D390), rfl, (V.ref D503), rfl, (by show 4 ≤ sizeLine; decide), fun p607 np608 => ?_⟩
    have ne609 := ow603.ne np608
    have ne610 := ow604.ne np608
    have nb611 := hB605.nb np608
    have sm612 := same_new (o := (.tup [(V.int ((1 : Int) + r581)), (V.int t36), (V.ref D390), (V.ref D503)])) (g602.noneF np608)
    have g613 := g602.frz (o := (.tup [(V.int ((1 : Int) + r581)), (V.int t36), (V.ref D390), (V.ref D503)])) np608
    have ow614 := ow603.frz (o := (.tup [(V.int ((1 : Int) + r581)), (V.int t36), (V.ref D390), (V.ref D503)])) np608
    have ow615 := ow604.frz (o := (.tup [(V.int ((1 : Int) + r581)), (V.int t36), (V.ref D390), (V.ref D503)])) np608
    have hB616 := hB605.frz (o := (.tup [(V.int ((1 : Int) + r581)), (V.int t36), (V.ref D390), (V.ref D503)])) np608
    have r617 : R K (upd (upd (upd F584 D390 (.lst acc470)) D503 (.lst acc566)) p607 (.tup [(V.int ((1 : Int) + r581)), (V.int t36), (V.ref D390), (V.ref D503)])) (.ref p607) ((T4.mk ((1 : Int) + r581) t36 ds471 ds567) : (T4 Int Int (List (Int × Int)) (List Int))) := R.mk4 fzT (Rp.int ((1 : Int) + r581)) (Rp.int t36) (r600.up (Same.trans sm601 sm612)) (r606.up sm612)
    obtain ⟨rfl, rfl⟩ := pjoin hm
    exact (hQ _ _ _ g613 hB616 r617)
end K28
namespace K28
open PySem PySem.Spec PyProof.Rows L2 TL G
theorem ok_l_torn_drawn {P : Program} {w : World} {K : PySem.W.Frag} {mg : Str → Option Value} {base : Heap} (T : Txt K mg) : FnOk P w K mg base CX0 3 T.a_l_torn_drawn T.d_l_torn_drawn ["_law_bag_here", "_law_town"] (sp_l_torn_drawn K) := by
  have G_l_draw : FnOk P w K mg base CX0 2 T.a_l_draw T.d_l_draw ["_law_bag_here", "_law_many"] (sp_l_draw K) := ok_l_draw T
  have b_l_draw := T.F_l_draw.bindsN (ps := ["_law_bag_here", "_law_many"]) fun _ _ _ _ _ _ us hl => match us, hl with | [_, _], _ => rfl
  refine fd_ok T.F_l_torn_drawn sc_l_torn_drawn (fun vs H Q E h => ?_) (fun cdv A outer s H0 vs Q E hr h => ?_)
  · obtain ⟨_, _, _, _, _, _, _, _, rfl, _⟩ := h
    rfl
  · obtain ⟨F0, B, C, b, v_y_town, y_town, r, b', rfl, hS0, hB, r_y_town, hm, hQ⟩ := h
    refine ⟨_, (pss_cons (ps_set (i := 2) sc_l_torn_drawn.nd rfl (.inr rfl) (pe_ix (ix_listK (K := K)) (pe_lst (pa_cons pe_int (pa_cons pe_int (pa_cons pe_int (pa_cons pe_int pa_nil))))) (pe_call G_l_draw (hr.mono (by decide)) (by rfl) T.g_l_draw T.F_l_draw.kp b_l_draw .nil pass0 (pa_cons (pv 0) (pa_cons pe_int pa_nil))) (fun _ _ => rfl))) (pss_one (ps_ret (pe_lc (own := [("_law_k", 3)]) rfl sc_l_torn_drawn.nd (pi_range1 (by rfl) T.n_range (pa_cons (pe_callB (call_lenLK (K := K)) (by rfl) T.n_len (by decide +kernel) (pa_cons (pe_ix (ix_tupK (K := K)) (pv 1) pe_int (fun _ _ => rfl)) pa_nil)) pa_nil)) (blkOk_by (own := [("_law_k", 3)]) (N := N_l_torn_drawn) (sc := defScope s_l_torn_drawn) (by decide +kernel)) (fun _ _ _ _ _ => (pg_name (i := 3) sc_l_torn_drawn.nd rfl (Or.inl rfl) (.inr rfl))) (fun _ _ _ _ _ => (pts_one (PW.pt (pw_and (pt_cmpR op_gt (pv 2) pe_int (nomark _)) (pw_and1 (pt_cmpR op_eq (pe_call G_l_draw (hr.mono (by decide)) (by rfl) T.g_l_draw T.F_l_draw.kp b_l_draw .nil pass0 (pa_cons (pv 0) (pa_cons (pv 2) pa_nil))) pe_int (nomark _))))))) (fun _ _ _ _ _ => (pv 3)))))), ?_⟩
    have g0 : Gr (Bc B C) F0 H0 F0 H0 := Gr.refl hS0
    unfold m_l_torn_drawn at hm
    refine p_seq ?_
    refine p_asg ?_
    refine ⟨(by show 4 ≤ sizeLine; decide), fun p1 np2 => ?_⟩
    have nb3 := hB.nb np2
    have g4 := g0.own (o := (.lst [(V.int (0 : Int)), (V.int (0 : Int)), (V.int (8 : Int)), (V.int (3 : Int))])) np2
    have hB5 := hB.own (o := (.lst [(V.int (0 : Int)), (V.int (0 : Int)), (V.int (8 : Int)), (V.int (3 : Int))])) np2
    have ow6 : Ow H0 F0 (upd H0 p1 (.lst [(V.int (0 : Int)), (V.int (0 : Int)), (V.int (8 : Int)), (V.int (3 : Int))])) p1 [(V.int (0 : Int)), (V.int (0 : Int)), (V.int (8 : Int)), (V.int (3 : Int))] := Ow.new g0 np2
    have hA7 : RL K F0 [(V.int (0 : Int)), (V.int (0 : Int)), (V.int (8 : Int)), (V.int (3 : Int))] ([(0 : Int), (0 : Int), (8 : Int), (3 : Int)] : List Int) := (RpA.cons (Rp.int (0 : Int)) (RpA.cons (Rp.int (0 : Int)) (RpA.cons (Rp.int (8 : Int)) (RpA.cons (Rp.int (3 : Int)) RpA.nil))))
    obtain ⟨r8, b9, hb10, hm⟩ := bnd2 hm
    refine ⟨(V.ref B), rfl, F0, B, C, b, (4 : Int), r8, b9, rfl, g4.fh, hB5, hb10, fun F11 H12 g13 hB14 => ?_⟩
    have g16 := Gr.trans g4 g13
    have ow17 := ow6.gr g13 nb3
    obtain ⟨t18, hb19, hm⟩ := bnd hm
    obtain ⟨v20, ha21, r22⟩ := RL.at (hA7.up g13.ff) hb19
    obtain rfl := R.int_v r22
    refine ⟨p1, [(V.int (0 : Int)), (V.int (0 : Int)), (V.int (8 : Int)), (V.int (3 : Int))], _, (V.int t18), rfl, rfl, ow17.sq, ha21, ?_⟩
    refine p_name ?_
    refine p_nx ?_
    refine p_ret ?_
    obtain ⟨p23, v26, v27, v28, v29, ev24, hS25, r30, r31, r32, r33⟩ := R.p4_v r_y_town
    obtain rfl := R.int_v r30
    obtain rfl := R.int_v r31
    obtain ⟨p34, ws35, ev36, hS37, hl38, hA39⟩ := R.lst_v r32
    obtain ⟨l40, hb42, hm⟩ := bnd hm
    obtain ⟨hk41, rfl⟩ := rangeO1_ok hb42
    refine ⟨v_y_town, rfl, p23, _, _, v28, ev24, rfl, (SqT_mono g16.fh (SqT_mono g13.ff hS25)), rfl, p34, ws35, _, (by rw [ev36]), (.inl (Same.seq g16.fh (Same.seq g13.ff hS37))), (RL.len (hA39.up g13.ff)), _, rfl, hk41.1.1, hk41.1.2, fun D43 nD44 => ?_⟩
    have ne45 := ow17.ne nD44
    have nb46 := hB14.nb nD44
    have g47 := g16.own (o := (.lst [])) nD44
    have ow48 := ow17.own (o := (.lst [])) nD44
    have hB49 := hB14.own (o := (.lst [])) nD44
    have ow50 : Ow H0 F11 (upd H12 D43 (.lst [])) D43 [] := Ow.new g16 nD44
    obtain ⟨l51, b52, hb53, hm⟩ := bnd2 hm
    refine lc_range (lo := (0 : Int)) (n := ((((y_town.c).length : Nat) : Int)).toNat) (fun i H' => ∃ (F' : Hp) (acc : List V) (ds : List Int) (rest : List Int) (b : Bag), Gr (Bc B C) F0 H0 F' H' ∧ Same F11 F' ∧ Ow H0 F' H' D43 acc ∧ RL K F' acc ds ∧ acc.length ≤ i ∧ Ow H0 F' H' p1 [(V.int (0 : Int)), (V.int (0 : Int)), (V.int (8 : Int)), (V.int (3 : Int))] ∧ BagAt F' H' B C b ∧ m_l_torn_drawn_c1 t18 ((rangeL (0 : Int) ((((y_town.c).length : Nat) : Int)).toNat).drop i) b = some (rest, b52) ∧ ds ++ rest = l51) ?_ ?_ ?_
    · exact ⟨F11, [], [], l51, b9, g47, Same.refl _, ow50, RpA.nil, Nat.le_refl _, ow48, hB49, hb53, rfl⟩
    · intro i55 H57 hx56 hP
      obtain ⟨F58, acc59, ds60, rest61, b62, g063, sm64, owD65, hA66, hi67, ow068, hB69, hm70, hr71⟩ := hP
      have he73 := rangeL_at (lo := (0 : Int)) hx56
      rw [drop_at he73, m_l_torn_drawn_c1.eq_2] at hm70
      refine ⟨rfl, ?_⟩
      refine ⟨(V.int t18), rfl, _, _, rfl, rfl, _, rfl, ?_⟩
      obtain ⟨c74, b76, hc75, hm70⟩ := bnd2 hm70
      refine andJT (M := (Bc B C)) (F := F58) (c := c74) (P := fun F' H' => BagAt F' H' B C b76) (fun ha => ?_) (fun ha => ?_) g063.fh ?_
      · intro Q77 q78
        have hc75 := ifT ha hc75
        obtain ⟨r79, b80, hb81, hc75⟩ := bnd2 hc75
        refine ⟨(V.ref B), rfl, (V.int t18), rfl, F58, B, C, b62, t18, r79, b80, rfl, g063.fh, hB69, hb81, fun F82 H83 g84 hB85 => ?_⟩
        have g87 := Gr.trans g063 g84
        have g88 := Gr.trans (Gr.refl (M := (Bc B C)) g063.fh) g84
        have ow89 := ow068.gr g84 nb3
        have ow90 := owD65.gr g84 nb46
        obtain ⟨rfl, rfl⟩ := pjoin hc75
        refine ⟨rfl, _, rfl, (q78 _ _ g88 hB85)⟩
      · have hc75 := ifF ha hc75
        obtain ⟨rfl, rfl⟩ := pjoin hc75
        exact ⟨rfl, hB69⟩
      intro F91 H92 g93 hB94
      have g95 := Gr.trans g063 g93
      have ow96 := ow068.gr g93 nb3
      have ow97 := owD65.gr g93 nb46
      refine (iteB (fun hc => ?_) (fun hc => ?_))
      · have hc : c74 = true := hc
        have hm70 := ifT hc hm70
        have hA98 : RL K F91 (acc59 ++ [(V.int ((0 : Int) + ((i55 : Nat) : Int)))]) (ds60 ++ [(((0 : Int) + ((i55 : Nat) : Int)) : Int)]) := RL.snoc (hA66.up g93.ff) (Rp.int ((0 : Int) + ((i55 : Nat) : Int)))
        obtain ⟨rest99, b100, h101, h102⟩ := bnd2 hm70
        obtain ⟨rfl, rfl⟩ := pjoin h102
        refine ⟨(V.int ((0 : Int) + ((i55 : Nat) : Int))), rfl, acc59, ow97.h, (lt_line hi67 hx56 hk41.2), ?_⟩
        have g103 := g95.put (o := (.lst (acc59 ++ [(V.int ((0 : Int) + ((i55 : Nat) : Int)))]))) ow97
        have ow104 := ow96.other (o := (.lst (acc59 ++ [(V.int ((0 : Int) + ((i55 : Nat) : Int)))]))) ne45
        have hB105 := hB94.other (o := (.lst (acc59 ++ [(V.int ((0 : Int) + ((i55 : Nat) : Int)))]))) nb46
        have ow106 := ow97.put (us := (acc59 ++ [(V.int ((0 : Int) + ((i55 : Nat) : Int)))]))
        exact ⟨F91, (acc59 ++ [(V.int ((0 : Int) + ((i55 : Nat) : Int)))]), (ds60 ++ [((0 : Int) + ((i55 : Nat) : Int))]), rest99, b76, g103, (Same.trans sm64 g93.ff), ow106, hA98, (by rw [List.length_append]; exact Nat.succ_le_succ hi67), ow104, hB105, h101, (snoc_rest hr71)⟩
      · have hc : c74 = false := hc
        have hm70 := ifF hc hm70
        exact ⟨F91, acc59, ds60, rest61, b76, g95, (Same.trans sm64 g93.ff), ow97, (hA66.up g93.ff), (Nat.le_succ_of_le hi67), ow96, hB94, hm70, hr71⟩
    intro H107 hP
    obtain ⟨F108, acc109, ds110, _rest, b111, g0112, sm113, owD114, hA115, hi116, ow0117, hB118, hm119, hr120⟩ := hP
    rw [drop_end (rangeL_len _ _).symm] at hm119
    rw [m_l_torn_drawn_c1.eq_1] at hm119
    obtain ⟨rfl, rfl⟩ := pjoin hm119
    rw [List.append_nil] at hr120
    obtain rfl := hr120
    have hl121 : acc109.length ≤ sizeLine := Nat.le_trans hi116 hk41.2
    obtain ⟨rfl, rfl⟩ := pjoin hm
    exact (hQ _ _ _ _ g0112 hB118 owD114.n0 owD114.h owD114.nF hl121 hA115)
end K28
namespace K28
open PySem PySem.Spec PyProof.Rows L2 TL G
theorem ok_l_want_drawn {P : Program} {w : World} {K : PySem.W.Frag} {mg : Str → Option Value} {base : Heap} (T : Txt K mg) : FnOk P w K mg base CX0 3 T.a_l_want_drawn T.d_l_want_drawn ["_law_bag_here", "_law_town"] (sp_l_want_drawn K) := by
  have G_l_draw : FnOk P w K mg base CX0 2 T.a_l_draw T.d_l_draw ["_law_bag_here", "_law_many"] (sp_l_draw K) := ok_l_draw T
  have b_l_draw := T.F_l_draw.bindsN (ps := ["_law_bag_here", "_law_many"]) fun _ _ _ _ _ _ us hl => match us, hl with | [_, _], _ => rfl
  refine fd_ok T.F_l_want_drawn sc_l_want_drawn (fun vs H Q E h => ?_) (fun cdv A outer s H0 vs Q E hr h => ?_)
  · obtain ⟨_, _, _, _, _, _, _, _, rfl, _⟩ := h
    rfl
  · obtain ⟨F0, B, C, b, v_y_town, y_town, r, b', rfl, hS0, hB, r_y_town, hm, hQ⟩ := h
    refine ⟨_, (pss_cons (ps_set (i := 2) sc_l_want_drawn.nd rfl (.inl rfl) (pe_lst pa_nil)) (pss_cons (ps_for PassesOwn.never rfl (pi_range1 (by rfl) T.n_range (pa_cons (pe_call G_l_draw (hr.mono (by decide)) (by rfl) T.g_l_draw T.F_l_draw.kp b_l_draw .nil pass0 (pa_cons (pv 0) (pa_cons pe_int pa_nil))) pa_nil)) (pg_name (i := 3) sc_l_want_drawn.nd rfl (Or.inl rfl)) (pss_cons (ps_set (i := 4) sc_l_want_drawn.nd rfl (.inl rfl) (pe_call G_l_draw (hr.mono (by decide)) (by rfl) T.g_l_draw T.F_l_draw.kp b_l_draw .nil pass0 (pa_cons (pv 0) (pa_cons (pe_ix (ix_tupK (K := K)) (pv 1) pe_int (fun _ _ => rfl)) pa_nil)))) (pss_one (ps_if (PW.pt (pw_or (pt_cmpR (op_eqDK (K := K) hr.units) (pv 2) (pe_lst pa_nil) (nomark _)) (pw_or1 (pt_cmpR op_ne (pe_ix (ix_listK (K := K)) (pv 2) (pe_un un_neg pe_int) (fun _ _ => rfl)) (pv 4) (nomark _))))) (pss_one (ps_expr (pe_bmK (K := K) PySem.F.plainAttrs_list PySem.F.slot_list_append PySem.F.type_list_append mt_append (pv 2) (pa_cons (pv 4) pa_nil)))) pss_nil)))) (pss_cons (ps_set (i := 5) sc_l_want_drawn.nd rfl (.inl rfl) (pe_ssetK (K := K) rfl (by rfl) T.n_sorted (by rfl) T.n_set (pe_lc (own := [("_law_k", 3)]) rfl sc_l_want_drawn.nd (pi_range1 (by rfl) T.n_range (pa_cons (pe_ix (ix_listK (K := K)) (pe_lst (pa_cons pe_int (pa_cons pe_int (pa_cons pe_int (pa_cons pe_int pa_nil))))) (pe_call G_l_draw (hr.mono (by decide)) (by rfl) T.g_l_draw T.F_l_draw.kp b_l_draw .nil pass0 (pa_cons (pv 0) (pa_cons pe_int pa_nil))) (fun _ _ => rfl)) pa_nil)) (blkOk_by (own := [("_law_k", 3)]) (N := N_l_want_drawn) (sc := defScope s_l_want_drawn) (by decide +kernel)) (fun _ _ _ _ _ => (pg_name (i := 3) sc_l_want_drawn.nd rfl (Or.inl rfl) (.inr rfl))) (fun _ _ _ _ _ => pts_nil) (fun _ _ _ _ _ => (pe_call G_l_draw (hr.mono (by decide)) (by rfl) T.g_l_draw T.F_l_draw.kp b_l_draw .nil pass0 (pa_cons (pv 0) (pa_cons (pe_ix (ix_tupK (K := K)) (pv 1) pe_int (fun _ _ => rfl)) pa_nil))))))) (pss_cons (ps_set (i := 6) sc_l_want_drawn.nd rfl (.inl rfl) (pe_ix (ix_listK (K := K)) (pe_lst (pa_cons pe_non (pa_cons pe_non (pa_cons (pe_call G_l_draw (hr.mono (by decide)) (by rfl) T.g_l_draw T.F_l_draw.kp b_l_draw .nil pass0 (pa_cons (pv 0) (pa_cons pe_int pa_nil))) (pa_cons (pe_call G_l_draw (hr.mono (by decide)) (by rfl) T.g_l_draw T.F_l_draw.kp b_l_draw .nil pass0 (pa_cons (pv 0) (pa_cons pe_int pa_nil))) (pa_cons (pe_op op_sub (pe_op op_pow pe_int pe_int) pe_int) pa_nil)))))) (pe_call G_l_draw (hr.mono (by decide)) (by rfl) T.g_l_draw T.F_l_draw.kp b_l_draw .nil pass0 (pa_cons (pv 0) (pa_cons pe_int pa_nil))) (fun _ _ => rfl))) (pss_one (ps_ret (pe_tup (pa_cons (pe_call G_l_draw (hr.mono (by decide)) (by rfl) T.g_l_draw T.F_l_draw.kp b_l_draw .nil pass0 (pa_cons (pv 0) (pa_cons (pe_callB (call_lenLK (K := K)) (by rfl) T.n_len (by decide +kernel) (pa_cons (pe_ix (ix_tupK (K := K)) (pv 1) pe_int (fun _ _ => rfl)) pa_nil)) pa_nil))) (pa_cons (pe_tupleOfK (K := K) (by rfl) T.n_tuple (pv 2)) (pa_cons (pe_tupleOfK (K := K) (by rfl) T.n_tuple (pv 5)) (pa_cons (pv 6) pa_nil))))))))))), ?_⟩
    have g0 : Gr (Bc B C) F0 H0 F0 H0 := Gr.refl hS0
    unfold m_l_want_drawn at hm
    refine p_seq ?_
    refine p_asg ?_
    refine ⟨(by show 0 ≤ sizeLine; decide), fun p1 np2 => ?_⟩
    have nb3 := hB.nb np2
    have g4 := g0.own (o := (.lst [])) np2
    have hB5 := hB.own (o := (.lst [])) np2
    have ow6 : Ow H0 F0 (upd H0 p1 (.lst [])) p1 [] := Ow.new g0 np2
    have hA7 : RL K F0 [] ([] : List Int) := RpA.nil
    refine p_name ?_
    refine p_nx ?_
    refine p_seq ?_
    refine p_for ?_
    obtain ⟨r8, b9, hb10, hm⟩ := bnd2 hm
    refine ⟨(V.ref B), rfl, F0, B, C, b, (4 : Int), r8, b9, rfl, g4.fh, hB5, hb10, fun F11 H12 g13 hB14 => ?_⟩
    have g16 := Gr.trans g4 g13
    have ow17 := ow6.gr g13 nb3
    obtain ⟨l18, hb20, hm⟩ := bnd hm
    obtain ⟨hk19, rfl⟩ := rangeO1_ok hb20
    refine ⟨_, rfl, hk19.1.1, hk19.1.2, ?_⟩
    obtain ⟨y_by21, b22, ht23, hm⟩ := bnd2 hm
    refine for_range (lo := (0 : Int)) (n := (r8).toNat) (fun i σ' H' => ∃ (F' : Hp) (o_y_k : Option V) (o_y_house : Option V) (y_by : (List Int)) (ws_y_by : List V) (b : Bag), σ' = [(some (V.ref B)), (some v_y_town), (some (V.ref p1)), o_y_k, o_y_house, none, none] ∧ Gr (Bc B C) F0 H0 F' H' ∧ Same F11 F' ∧ Ow H0 F' H' p1 ws_y_by ∧ ws_y_by.length ≤ sizeLine ∧ RL K F' ws_y_by y_by ∧ BagAt F' H' B C b ∧ m_l_want_drawn_l1 y_town ((rangeL (0 : Int) (r8).toNat).drop i) y_by b = some (y_by21, b22)) ?_ ?_ ?_
    · exact ⟨F11, none, none, ([] : List Int), [], b9, rfl, g16, (Same.refl _), ow17, (by show 0 ≤ sizeLine; decide), (hA7.up g13.ff), hB14, ht23⟩
    · intro i24 σ' H26 hx25 hP
      obtain ⟨F28, o_y_k29, o_y_house30, y_by31, ws_y_by32, b33, rfl, g34, sm35, ow_y_by36, hl_y_by37, hA_y_by38, hB39, hm40⟩ := hP
      have he42 := rangeL_at (lo := (0 : Int)) hx25
      rw [drop_at he42, m_l_want_drawn_l1.eq_2] at hm40
      refine p_name ?_
      refine p_seq ?_
      refine p_asg ?_
      obtain ⟨p43, v46, v47, v48, v49, ev44, hS45, r50, r51, r52, r53⟩ := R.p4_v r_y_town
      obtain rfl := R.int_v r50
      obtain rfl := R.int_v r51
      obtain ⟨r54, b55, hb56, hm40⟩ := bnd2 hm40
      refine ⟨(V.ref B), rfl, v_y_town, rfl, p43, _, _, (V.int y_town.b), ev44, rfl, (SqT_mono g34.fh (SqT_mono (Same.trans g13.ff sm35) hS45)), rfl, F28, B, C, b33, y_town.b, r54, b55, rfl, g34.fh, hB39, hb56, fun F57 H58 g59 hB60 => ?_⟩
      have g62 := Gr.trans g34 g59
      have ow63 := ow_y_by36.gr g59 nb3
      refine p_name ?_
      refine p_nx ?_
      refine p_if ?_
      refine ⟨(V.ref p1), rfl, (by show 0 ≤ sizeLine; decide), fun p64 np65 => ?_⟩
      have ne66 := ow63.ne np65
      have nb67 := hB60.nb np65
      have g68 := g62.own (o := (.lst [])) np65
      have ow69 := ow63.own (o := (.lst [])) np65
      have hB70 := hB60.own (o := (.lst [])) np65
      have ow71 : Ow H0 F57 (upd H58 p64 (.lst [])) p64 [] := Ow.new g62 np65
      have rH73 : R K (upd H58 p64 (.lst [])) (V.ref p1) y_by31 := (R.mkl ow69.sq hl_y_by37 (RpA.up (hA_y_by38.up g59.ff) g68.fh))
      have rH74 : R K (upd H58 p64 (.lst [])) (V.ref p64) ([] : (List Int)) := (R.mkl ow71.sq (by show 0 ≤ sizeLine; decide) (RpA.up RpA.nil g68.fh))
      refine ⟨_, _, (Rp.dp _ _ rH73), (Rp.dp _ _ rH74), (R.shaped rH73), (R.shaped rH74), _, rfl, ?_⟩
      obtain ⟨c75, hc76, hm40⟩ := bnd hm40
      refine orJT (M := M0) (F := F57) (c := c75) (P := fun _ _ => True) (fun ha => ?_) (fun ha => ⟨(sjoin (ifT ha hc76)).symm, trivial⟩) g68.fh ?_
      · intro Q78 q79
        have hc76 := ifF ha hc76
        obtain ⟨t80, hb81, hc76⟩ := bnd hc76
        obtain ⟨v82, ha83, r84⟩ := RL.at (hA_y_by38.up g59.ff) hb81
        obtain rfl := R.int_v r84
        obtain rfl := sjoin hc76
        refine ⟨(V.ref p1), rfl, _, rfl, p1, ws_y_by32, _, (V.int t80), rfl, rfl, ow69.sq, ha83, (V.int r54), rfl, rfl, _, rfl, (q79 _ _ (Gr.refl (M := M0) g68.fh) trivial)⟩
      intro F85 H86 g87 hB88
      have g89 := Gr.trans g68 (Gr.of0 g87)
      have ow90 := ow69.gr0 g87
      have ow91 := ow71.gr0 g87
      have hB92 := hB70.gr0 g87
      refine (iteB (fun hc => ?_) (fun hc => ?_))
      · have hm40 := ifT hc hm40
        refine p_drop ?_
        obtain ⟨t93, hb94, hm40⟩ := bnd hm40
        obtain ⟨hk95, rfl⟩ := appL_ok hb94
        refine ⟨(V.ref p1), rfl, (.inl ⟨rfl, _, ow90.sq⟩), (V.int r54), rfl, p1, ws_y_by32, (V.int r54), rfl, rfl, ow90.h, (by rw [RL.len (hA_y_by38.up (Same.trans g59.ff g87.ff))]; exact hk95), ?_⟩
        have hA96 : RL K F85 (ws_y_by32 ++ [(V.int r54)]) (y_by31 ++ [(r54 : Int)]) := RL.snoc (hA_y_by38.up (Same.trans g59.ff g87.ff)) (Rp.int r54)
        have hl97 : (ws_y_by32 ++ [(V.int r54)]).length ≤ sizeLine := by rw [List.length_append, RL.len (hA_y_by38.up (Same.trans g59.ff g87.ff))]; exact hk95
        have g98 := g89.put (o := (.lst (ws_y_by32 ++ [(V.int r54)]))) ow90
        have ow99 := ow91.other (o := (.lst (ws_y_by32 ++ [(V.int r54)]))) (Ne.symm ne66)
        have hB100 := hB92.other (o := (.lst (ws_y_by32 ++ [(V.int r54)]))) nb3
        have ow101 := ow90.put (us := (ws_y_by32 ++ [(V.int r54)]))
        exact ⟨F85, (some (V.int ((0 : Int) + ((i24 : Nat) : Int)))), (some (V.int r54)), (y_by31 ++ [r54]), (ws_y_by32 ++ [(V.int r54)]), b55, rfl, g98, (Same.trans sm35 (Same.trans g59.ff g87.ff)), ow101, hl97, hA96, hB100, hm40⟩
      · have hm40 := ifF hc hm40
        refine p_next ?_
        exact ⟨F85, (some (V.int ((0 : Int) + ((i24 : Nat) : Int)))), (some (V.int r54)), y_by31, ws_y_by32, b55, rfl, g89, (Same.trans sm35 (Same.trans g59.ff g87.ff)), ow90, hl_y_by37, (hA_y_by38.up (Same.trans g59.ff g87.ff)), hB92, hm40⟩
    intro σ102 H103 hP
    obtain ⟨F104, o_y_k105, o_y_house106, y_by107, ws_y_by108, b109, rfl, g110, sm111, ow_y_by112, hl_y_by113, hA_y_by114, hB115, hm116⟩ := hP
    rw [drop_end (rangeL_len _ _).symm, m_l_want_drawn_l1.eq_1] at hm116
    obtain ⟨rfl, rfl⟩ := pjoin hm116
    refine p_nx ?_
    refine p_seq ?_
    refine p_asg ?_
    refine ⟨(by show 4 ≤ sizeLine; decide), fun p117 np118 => ?_⟩
    have ne119 := ow_y_by112.ne np118
    have nb120 := hB115.nb np118
    have g121 := g110.own (o := (.lst [(V.int (0 : Int)), (V.int (0 : Int)), (V.int (1 : Int)), (V.int (3 : Int))])) np118
    have ow122 := ow_y_by112.own (o := (.lst [(V.int (0 : Int)), (V.int (0 : Int)), (V.int (1 : Int)), (V.int (3 : Int))])) np118
    have hB123 := hB115.own (o := (.lst [(V.int (0 : Int)), (V.int (0 : Int)), (V.int (1 : Int)), (V.int (3 : Int))])) np118
    have ow124 : Ow H0 F104 (upd H103 p117 (.lst [(V.int (0 : Int)), (V.int (0 : Int)), (V.int (1 : Int)), (V.int (3 : Int))])) p117 [(V.int (0 : Int)), (V.int (0 : Int)), (V.int (1 : Int)), (V.int (3 : Int))] := Ow.new g110 np118
    have hA125 : RL K F104 [(V.int (0 : Int)), (V.int (0 : Int)), (V.int (1 : Int)), (V.int (3 : Int))] ([(0 : Int), (0 : Int), (1 : Int), (3 : Int)] : List Int) := (RpA.cons (Rp.int (0 : Int)) (RpA.cons (Rp.int (0 : Int)) (RpA.cons (Rp.int (1 : Int)) (RpA.cons (Rp.int (3 : Int)) RpA.nil))))
    obtain ⟨r126, b127, hb128, hm⟩ := bnd2 hm
    refine ⟨(V.ref B), rfl, F104, B, C, b109, (4 : Int), r126, b127, rfl, g121.fh, hB123, hb128, fun F129 H130 g131 hB132 => ?_⟩
    have g134 := Gr.trans g121 g131
    have ow135 := ow122.gr g131 nb3
    have ow136 := ow124.gr g131 nb120
    obtain ⟨t137, hb138, hm⟩ := bnd hm
    obtain ⟨v139, ha140, r141⟩ := RL.at (hA125.up g131.ff) hb138
    obtain rfl := R.int_v r141
    obtain ⟨l142, hb144, hm⟩ := bnd hm
    obtain ⟨hk143, rfl⟩ := rangeO1_ok hb144
    refine ⟨p117, [(V.int (0 : Int)), (V.int (0 : Int)), (V.int (1 : Int)), (V.int (3 : Int))], _, (V.int t137), rfl, rfl, ow136.sq, ha140, _, rfl, hk143.1.1, hk143.1.2, fun D145 nD146 => ?_⟩
    have ne147 := ow135.ne nD146
    have ne148 := ow136.ne nD146
    have nb149 := hB132.nb nD146
    have g150 := g134.own (o := (.lst [])) nD146
    have ow151 := ow135.own (o := (.lst [])) nD146
    have ow152 := ow136.own (o := (.lst [])) nD146
    have hB153 := hB132.own (o := (.lst [])) nD146
    have ow154 : Ow H0 F129 (upd H130 D145 (.lst [])) D145 [] := Ow.new g134 nD146
    obtain ⟨l155, b156, hb157, hm⟩ := bnd2 hm
    refine lc_range (lo := (0 : Int)) (n := (t137).toNat) (fun i H' => ∃ (F' : Hp) (acc : List V) (ds : List Int) (rest : List Int) (b : Bag), Gr (Bc B C) F0 H0 F' H' ∧ Same F129 F' ∧ Ow H0 F' H' D145 acc ∧ RL K F' acc ds ∧ acc.length ≤ i ∧ Ow H0 F' H' p1 ws_y_by108 ∧ Ow H0 F' H' p117 [(V.int (0 : Int)), (V.int (0 : Int)), (V.int (1 : Int)), (V.int (3 : Int))] ∧ BagAt F' H' B C b ∧ m_l_want_drawn_c2 y_town ((rangeL (0 : Int) (t137).toNat).drop i) b = some (rest, b156) ∧ ds ++ rest = l155) ?_ ?_ ?_
    · exact ⟨F129, [], [], l155, b127, g150, Same.refl _, ow154, RpA.nil, Nat.le_refl _, ow151, ow152, hB153, hb157, rfl⟩
    · intro i159 H161 hx160 hP
      obtain ⟨F162, acc163, ds164, rest165, b166, g0167, sm168, owD169, hA170, hi171, ow0172, ow1173, hB174, hm175, hr176⟩ := hP
      have he178 := rangeL_at (lo := (0 : Int)) hx160
      rw [drop_at he178, m_l_want_drawn_c2.eq_2] at hm175
      refine ⟨rfl, (p_yes ?_)⟩
      obtain ⟨p179, v182, v183, v184, v185, ev180, hS181, r186, r187, r188, r189⟩ := R.p4_v r_y_town
      obtain rfl := R.int_v r186
      obtain rfl := R.int_v r187
      obtain ⟨r190, b191, hb192, hm175⟩ := bnd2 hm175
      refine ⟨(V.ref B), rfl, v_y_town, rfl, p179, _, _, (V.int y_town.b), ev180, rfl, (SqT_mono g0167.fh (SqT_mono (Same.trans g13.ff (Same.trans sm111 (Same.trans g131.ff sm168))) hS181)), rfl, F162, B, C, b166, y_town.b, r190, b191, rfl, g0167.fh, hB174, hb192, fun F193 H194 g195 hB196 => ?_⟩
      have g198 := Gr.trans g0167 g195
      have ow199 := ow0172.gr g195 nb3
      have ow200 := ow1173.gr g195 nb120
      have ow201 := owD169.gr g195 nb149
      have hA202 : RL K F193 (acc163 ++ [(V.int r190)]) (ds164 ++ [(r190 : Int)]) := RL.snoc (hA170.up g195.ff) (Rp.int r190)
      obtain ⟨rest203, b204, h205, h206⟩ := bnd2 hm175
      obtain ⟨rfl, rfl⟩ := pjoin h206
      refine ⟨acc163, ow201.h, (lt_line hi171 hx160 hk143.2), ?_⟩
      have g207 := g198.put (o := (.lst (acc163 ++ [(V.int r190)]))) ow201
      have ow208 := ow199.other (o := (.lst (acc163 ++ [(V.int r190)]))) ne147
      have ow209 := ow200.other (o := (.lst (acc163 ++ [(V.int r190)]))) ne148
      have hB210 := hB196.other (o := (.lst (acc163 ++ [(V.int r190)]))) nb149
      have ow211 := ow201.put (us := (acc163 ++ [(V.int r190)]))
      exact ⟨F193, (acc163 ++ [(V.int r190)]), (ds164 ++ [r190]), rest203, b191, g207, (Same.trans sm168 g195.ff), ow211, hA202, (by rw [List.length_append]; exact Nat.succ_le_succ hi171), ow208, ow209, hB210, h205, (snoc_rest hr176)⟩
    intro H212 hP
    obtain ⟨F213, acc214, ds215, _rest, b216, g0217, sm218, owD219, hA220, hi221, ow0222, ow1223, hB224, hm225, hr226⟩ := hP
    rw [drop_end (rangeL_len _ _).symm] at hm225
    rw [m_l_want_drawn_c2.eq_1] at hm225
    obtain ⟨rfl, rfl⟩ := pjoin hm225
    rw [List.append_nil] at hr226
    obtain rfl := hr226
    have hl227 : acc214.length ≤ sizeLine := Nat.le_trans hi221 hk143.2
    obtain ⟨t228, hb229, hm⟩ := bnd hm
    obtain ⟨hk230, hss_⟩ := ssetO_ok hb229
    subst hss_
    refine ⟨D145, ds215, rfl, (by rw [← RL.ints hA220]; exact owD219.sq), hk230, fun ns231 p235 so232 mm233 ln234 np236 => ?_⟩
    obtain rfl := ssort_uniq so232 mm233
    have hl237 : ((ssort ds215).map V.int).length ≤ sizeLine := by rw [List.length_map, sizeLine_eq]; omega
    have hA238 : RL K F213 ((ssort ds215).map V.int) (ssort ds215) := RL.ofInts _
    have ne239 := ow0222.ne np236
    have ne240 := ow1223.ne np236
    have ne241 := owD219.ne np236
    have nb242 := hB224.nb np236
    have g243 := g0217.own (o := (.lst ((ssort ds215).map V.int))) np236
    have ow244 := ow0222.own (o := (.lst ((ssort ds215).map V.int))) np236
    have ow245 := ow1223.own (o := (.lst ((ssort ds215).map V.int))) np236
    have ow246 := owD219.own (o := (.lst ((ssort ds215).map V.int))) np236
    have hB247 := hB224.own (o := (.lst ((ssort ds215).map V.int))) np236
    have ow248 : Ow H0 F213 (upd H212 p235 (.lst ((ssort ds215).map V.int))) p235 ((ssort ds215).map V.int) := Ow.new g0217 np236
    refine p_name ?_
    refine p_nx ?_
    refine p_seq ?_
    refine p_asg ?_
    obtain ⟨r249, b250, hb251, hm⟩ := bnd2 hm
    refine ⟨(V.ref B), rfl, F213, B, C, b216, (7 : Int), r249, b250, rfl, g243.fh, hB247, hb251, fun F252 H253 g254 hB255 => ?_⟩
    have g257 := Gr.trans g243 g254
    have ow258 := ow244.gr g254 nb3
    have ow259 := ow245.gr g254 nb120
    have ow260 := ow246.gr g254 nb149
    have ow261 := ow248.gr g254 nb242
    obtain ⟨r262, b263, hb264, hm⟩ := bnd2 hm
    refine ⟨(V.ref B), rfl, F252, B, C, b250, (49 : Int), r262, b263, rfl, g257.fh, hB255, hb264, fun F265 H266 g267 hB268 => ?_⟩
    have g270 := Gr.trans g257 g267
    have ow271 := ow258.gr g267 nb3
    have ow272 := ow259.gr g267 nb120
    have ow273 := ow260.gr g267 nb149
    have ow274 := ow261.gr g267 nb242
    refine ⟨_, _, rfl, rfl, ⟨by decide, by decide, by decide⟩, _, _, rfl, rfl, (by show 5 ≤ sizeLine; decide), fun p275 np276 => ?_⟩
    have ne277 := ow271.ne np276
    have ne278 := ow272.ne np276
    have ne279 := ow273.ne np276
    have ne280 := ow274.ne np276
    have nb281 := hB268.nb np276
    have g282 := g270.own (o := (.lst [V.non, V.non, (V.int r249), (V.int r262), (V.int (((10 : Int) ^ (9 : Int).toNat) - (1 : Int)))])) np276
    have ow283 := ow271.own (o := (.lst [V.non, V.non, (V.int r249), (V.int r262), (V.int (((10 : Int) ^ (9 : Int).toNat) - (1 : Int)))])) np276
    have ow284 := ow272.own (o := (.lst [V.non, V.non, (V.int r249), (V.int r262), (V.int (((10 : Int) ^ (9 : Int).toNat) - (1 : Int)))])) np276
    have ow285 := ow273.own (o := (.lst [V.non, V.non, (V.int r249), (V.int r262), (V.int (((10 : Int) ^ (9 : Int).toNat) - (1 : Int)))])) np276
    have ow286 := ow274.own (o := (.lst [V.non, V.non, (V.int r249), (V.int r262), (V.int (((10 : Int) ^ (9 : Int).toNat) - (1 : Int)))])) np276
    have hB287 := hB268.own (o := (.lst [V.non, V.non, (V.int r249), (V.int r262), (V.int (((10 : Int) ^ (9 : Int).toNat) - (1 : Int)))])) np276
    have ow288 : Ow H0 F265 (upd H266 p275 (.lst [V.non, V.non, (V.int r249), (V.int r262), (V.int (((10 : Int) ^ (9 : Int).toNat) - (1 : Int)))])) p275 [V.non, V.non, (V.int r249), (V.int r262), (V.int (((10 : Int) ^ (9 : Int).toNat) - (1 : Int)))] := Ow.new g270 np276
    have hA289 : RL K F265 [V.non, V.non, (V.int r249), (V.int r262), (V.int (((10 : Int) ^ (9 : Int).toNat) - (1 : Int)))] ([(none : (Option Int)), (none : (Option Int)), (some r249), (some r262), (some (((10 : Int) ^ (9 : Int).toNat) - (1 : Int)))] : List (Option Int)) := (RpA.cons Rp.non (RpA.cons Rp.non (RpA.cons (Rp.int r249) (RpA.cons (Rp.int r262) (RpA.cons (Rp.int (((10 : Int) ^ (9 : Int).toNat) - (1 : Int))) RpA.nil)))))
    obtain ⟨r290, b291, hb292, hm⟩ := bnd2 hm
    refine ⟨(V.ref B), rfl, F265, B, C, b263, (5 : Int), r290, b291, rfl, g282.fh, hB287, hb292, fun F293 H294 g295 hB296 => ?_⟩
    have g298 := Gr.trans g282 g295
    have ow299 := ow283.gr g295 nb3
    have ow300 := ow284.gr g295 nb120
    have ow301 := ow285.gr g295 nb149
    have ow302 := ow286.gr g295 nb242
    have ow303 := ow288.gr g295 nb281
    obtain ⟨t304, hb305, hm⟩ := bnd hm
    obtain ⟨v306, ha307, r308⟩ := RL.at (hA289.up g295.ff) hb305
    refine ⟨p275, [V.non, V.non, (V.int r249), (V.int r262), (V.int (((10 : Int) ^ (9 : Int).toNat) - (1 : Int)))], _, v306, rfl, rfl, ow303.sq, ha307, ?_⟩
    refine p_name ?_
    refine p_nx ?_
    refine p_ret ?_
    obtain ⟨p309, v312, v313, v314, v315, ev310, hS311, r316, r317, r318, r319⟩ := R.p4_v r_y_town
    obtain rfl := R.int_v r316
    obtain rfl := R.int_v r317
    obtain ⟨p320, ws321, ev322, hS323, hl324, hA325⟩ := R.lst_v r319
    obtain ⟨r326, b327, hb328, hm⟩ := bnd2 hm
    refine ⟨(V.ref B), rfl, v_y_town, rfl, p309, _, _, v315, ev310, rfl, (SqT_mono g298.fh (SqT_mono (Same.trans g13.ff (Same.trans sm111 (Same.trans g131.ff (Same.trans sm218 (Same.trans g254.ff (Same.trans g267.ff g295.ff)))))) hS311)), rfl, p320, ws321, _, (by rw [ev322]), (.inl (Same.seq g298.fh (Same.seq (Same.trans g13.ff (Same.trans sm111 (Same.trans g131.ff (Same.trans sm218 (Same.trans g254.ff (Same.trans g267.ff g295.ff)))))) hS323))), (RL.len (hA325.up (Same.trans g13.ff (Same.trans sm111 (Same.trans g131.ff (Same.trans sm218 (Same.trans g254.ff (Same.trans g267.ff g295.ff)))))))), F293, B, C, b291, (((y_town.e).length : Nat) : Int), r326, b327, rfl, g298.fh, hB296, hb328, fun F329 H330 g331 hB332 => ?_⟩
    have g334 := Gr.trans g298 g331
    have ow335 := ow299.gr g331 nb3
    have ow336 := ow300.gr g331 nb120
    have ow337 := ow301.gr g331 nb149
    have ow338 := ow302.gr g331 nb242
    have ow339 := ow303.gr g331 nb281
    have hA342 := (hA_y_by114.up (Same.trans g131.ff (Same.trans sm218 (Same.trans g254.ff (Same.trans g267.ff (Same.trans g295.ff g331.ff))))))
    refine ⟨(V.ref p1), rfl, (.inl ⟨p1, ws_y_by108, rfl, ow335.sq, fun q340 nq341 => ?_⟩)⟩
    have ne343 := ow335.ne nq341
    have ne344 := ow336.ne nq341
    have ne345 := ow337.ne nq341
    have ne346 := ow338.ne nq341
    have ne347 := ow339.ne nq341
    have nb348 := hB332.nb nq341
    have sm349 := same_new (o := (.tup ws_y_by108)) (g334.noneF nq341)
    have g350 := g334.frz (o := (.tup ws_y_by108)) nq341
    have ow351 := ow335.frz (o := (.tup ws_y_by108)) nq341
    have ow352 := ow336.frz (o := (.tup ws_y_by108)) nq341
    have ow353 := ow337.frz (o := (.tup ws_y_by108)) nq341
    have ow354 := ow338.frz (o := (.tup ws_y_by108)) nq341
    have ow355 := ow339.frz (o := (.tup ws_y_by108)) nq341
    have hB356 := hB332.frz (o := (.tup ws_y_by108)) nq341
    have r357 : R K (upd F329 q340 (.tup ws_y_by108)) (.ref q340) ((VT.mk y_by107) : (VT Int)) := R.mkvt fzT hl_y_by113 (hA342.up sm349)
    have hA360 := (hA238.up (Same.trans g254.ff (Same.trans g267.ff (Same.trans g295.ff (Same.trans g331.ff sm349)))))
    refine ⟨(V.ref p235), rfl, (.inl ⟨p235, ((ssort ds215).map V.int), rfl, ow354.sq, fun q358 nq359 => ?_⟩)⟩
    have ne361 := ow351.ne nq359
    have ne362 := ow352.ne nq359
    have ne363 := ow353.ne nq359
    have ne364 := ow354.ne nq359
    have ne365 := ow355.ne nq359
    have nb366 := hB356.nb nq359
    have sm367 := same_new (o := (.tup ((ssort ds215).map V.int))) (g350.noneF nq359)
    have g368 := g350.frz (o := (.tup ((ssort ds215).map V.int))) nq359
    have ow369 := ow351.frz (o := (.tup ((ssort ds215).map V.int))) nq359
    have ow370 := ow352.frz (o := (.tup ((ssort ds215).map V.int))) nq359
    have ow371 := ow353.frz (o := (.tup ((ssort ds215).map V.int))) nq359
    have ow372 := ow354.frz (o := (.tup ((ssort ds215).map V.int))) nq359
    have ow373 := ow355.frz (o := (.tup ((ssort ds215).map V.int))) nq359
    have hB374 := hB356.frz (o := (.tup ((ssort ds215).map V.int))) nq359
    have r375 : R K (upd (upd F329 q340 (.tup ws_y_by108)) q358 (.tup ((ssort ds215).map V.int))) (.ref q358) ((VT.mk (ssort ds215)) : (VT Int)) := R.mkvt fzT hl237 (hA360.up sm367)
    refine ⟨v306, rfl, (by show 4 ≤ sizeLine; decide), fun p376 np377 => ?_⟩
    have ne378 := ow369.ne np377
    have ne379 := ow370.ne np377
    have ne380 := ow371.ne np377
    have ne381 := ow372.ne np377
    have ne382 := ow373.ne np377
    have nb383 := hB374.nb np377
    have sm384 := same_new (o := (.tup [(V.int r326), (V.ref q340), (V.ref q358), v306])) (g368.noneF np377)
    have g385 := g368.frz (o := (.tup [(V.int r326), (V.ref q340), (V.ref q358), v306])) np377
    have ow386 := ow369.frz (o := (.tup [(V.int r326), (V.ref q340), (V.ref q358), v306])) np377
    have ow387 := ow370.frz (o := (.tup [(V.int r326), (V.ref q340), (V.ref q358), v306])) np377
    have ow388 := ow371.frz (o := (.tup [(V.int r326), (V.ref q340), (V.ref q358), v306])) np377
    have ow389 := ow372.frz (o := (.tup [(V.int r326), (V.ref q340), (V.ref q358), v306])) np377
    have ow390 := ow373.frz (o := (.tup [(V.int r326), (V.ref q340), (V.ref q358), v306])) np377
    have hB391 := hB374.frz (o := (.tup [(V.int r326), (V.ref q340), (V.ref q358), v306])) np377
    have r392 : R K (upd (upd (upd F329 q340 (.tup ws_y_by108)) q358 (.tup ((ssort ds215).map V.int))) p376 (.tup [(V.int r326), (V.ref q340), (V.ref q358), v306])) (.ref p376) ((T4.mk r326 (VT.mk y_by107) (VT.mk (ssort ds215)) t304) : (T4 Int (VT Int) (VT Int) (Option Int))) := R.mk4 fzT (Rp.int r326) (r357.up (Same.trans sm367 sm384)) (r375.up sm384) (r308.up (Same.trans g331.ff (Same.trans sm349 (Same.trans sm367 sm384))))
    obtain ⟨rfl, rfl⟩ := pjoin hm
    exact (hQ _ _ _ g385 hB391 r392)
end K28
namespace K28
open PySem PySem.Spec PyProof.Rows L2 TL G
theorem ok_l_within {P : Program} {w : World} {K : PySem.W.Frag} {mg : Str → Option Value} {base : Heap} (T : Txt K mg) : FnOk P w K mg base CX0 1 T.a_l_within T.d_l_within ["_law_want", "_law_most"] (sp_l_within K) := by
  refine fd_ok T.F_l_within sc_l_within (fun vs H Q E h => ?_) (fun cdv A outer s H0 vs Q E hr h => ?_)
  · obtain ⟨_, _, _, _, rfl, _⟩ := h
    rfl
  · obtain ⟨F0, v_y_want, y_want, y_most, rfl, hS0, r_y_want, hQ⟩ := h
    refine ⟨_, (pss_one (ps_ret (pe_tup (pa_cons (pe_ix (ix_tupK (K := K)) (pv 0) pe_int (fun _ _ => rfl)) (pa_cons (pe_ix (ix_tupK (K := K)) (pv 0) pe_int (fun _ _ => rfl)) (pa_cons (pe_ix (ix_tupK (K := K)) (pv 0) pe_int (fun _ _ => rfl)) (pa_cons (pv 1) pa_nil))))))), ?_⟩
    have g0 : Gr M0 F0 H0 F0 H0 := Gr.refl hS0
    unfold m_l_within at hQ
    refine p_ret ?_
    obtain ⟨p1, v4, v5, v6, v7, ev2, hS3, r8, r9, r10, r11⟩ := R.p4_v r_y_want
    obtain rfl := R.int_v r8
    refine ⟨v_y_want, rfl, p1, _, _, (V.int y_want.a), ev2, rfl, (SqT_mono g0.fh hS3), rfl, v_y_want, rfl, p1, _, _, v5, ev2, rfl, (SqT_mono g0.fh hS3), rfl, v_y_want, rfl, p1, _, _, v6, ev2, rfl, (SqT_mono g0.fh hS3), rfl, (V.int y_most), rfl, (by show 4 ≤ sizeLine; decide), fun p12 np13 => ?_⟩
    have sm14 := same_new (o := (.tup [(V.int y_want.a), v5, v6, (V.int y_most)])) (g0.noneF np13)
    have g15 := g0.frz (o := (.tup [(V.int y_want.a), v5, v6, (V.int y_most)])) np13
    have r16 : R K (upd F0 p12 (.tup [(V.int y_want.a), v5, v6, (V.int y_most)])) (.ref p12) ((T4.mk y_want.a y_want.b y_want.c (some y_most)) : (T4 Int (VT Int) (VT Int) (Option Int))) := R.mk4 fzT (Rp.int y_want.a) (r9.up sm14) (r10.up sm14) (Rp.int y_most)
    exact (hQ _ _ _ g15 r16)
end K28
namespace K28
open PySem PySem.Spec PyProof.Rows L2 TL G
theorem ok_l_few {P : Program} {w : World} {K : PySem.W.Frag} {mg : Str → Option Value} {base : Heap} (T : Txt K mg) : FnOk P w K mg base CX0 1 T.a_l_few T.d_l_few ["_law_told", "_law_most"] (sp_l_few K) := by
  refine fd_ok T.F_l_few sc_l_few (fun vs H Q E h => ?_) (fun cdv A outer s H0 vs Q E hr h => ?_)
  · obtain ⟨_, _, _, _, _, rfl, _⟩ := h
    rfl
  · obtain ⟨F0, v_y_told, y_told, y_most, r, rfl, hS0, r_y_told, hm, hQ⟩ := h
    refine ⟨_, (pss_one (ps_ret (pe_tup (pa_cons pe_str (pa_cons (pe_lc (own := [("_law_one", 2)]) rfl sc_l_few.nd (pi_listK (K := K) (pe_ix (ix_tupK (K := K)) (pv 0) pe_int (fun _ _ => rfl))) (blkOk_by (own := [("_law_one", 2)]) (N := N_l_few) (sc := defScope s_l_few) (by decide +kernel)) (fun _ _ _ _ _ => (pg_name (i := 2) sc_l_few.nd rfl (Or.inl rfl) (.inr rfl))) (fun _ _ _ _ _ => (pts_one (pt_cmpR op_le (pe_ix (ix_tupK (K := K)) (pv 2) pe_int (fun _ _ => rfl)) (pv 1) (nomark _)))) (fun _ _ _ _ _ => (pv 2))) pa_nil))))), ?_⟩
    have g0 : Gr M0 F0 H0 F0 H0 := Gr.refl hS0
    unfold m_l_few at hm
    refine p_ret ?_
    obtain ⟨p1, v4, v5, ev2, hS3, r6, r7⟩ := R.p2_v r_y_told
    obtain ⟨rfl, gs8⟩ := R.str_v r6
    obtain ⟨t9, hb10, hm⟩ := bnd hm
    have r11 := getR_ok hb10 r7
    obtain ⟨p12, ws13, ev14, hS15, hl16, hA17⟩ := R.lst_v r11
    refine ⟨v_y_told, rfl, p1, _, _, v5, ev2, rfl, (SqT_mono g0.fh hS3), rfl, p12, ev14, ⟨_, (Same.seq g0.fh hS15)⟩, fun D18 nD19 => ?_⟩
    have g20 := g0.own (o := (.lst [])) nD19
    have ow21 : Ow H0 F0 (upd H0 D18 (.lst [])) D18 [] := Ow.new g0 nD19
    refine lc_list (K := K) (a := p12) (xs := ws13) (fun i H' => ∃ (F' : Hp) (acc : List V) (ds : List (T3 Int Int Int)), Gr M0 F0 H0 F' H' ∧ Same F0 F' ∧ Ow H0 F' H' D18 acc ∧ RL K F' acc ds ∧ acc.length ≤ i ∧ ds ++ m_l_few_c1 y_most (t9.drop i) = (m_l_few_c1 y_most t9)) ?_ ?_ ?_ ?_
    · exact ⟨F0, [], [], g20, Same.refl _, ow21, RpA.nil, Nat.le_refl _, rfl⟩
    · intro i H' _ hP
      obtain ⟨F23, acc24, ds25, g026, sm27, owD28, hA29, hi30, hr31⟩ := hP
      exact (Same.seq g026.fh (Same.seq sm27 hS15))
    · intro i33 xv32 H35 hx34 hP
      obtain ⟨F36, acc37, ds38, g039, sm40, owD41, hA42, hi43, hr44⟩ := hP
      obtain ⟨e45, he46, r47⟩ := RL.get (hA17.up sm40) hx34
      rw [drop_at he46, m_l_few_c1.eq_2] at hr44
      obtain ⟨p48, v51, v52, v53, ev49, hS50, r54, r55, r56⟩ := R.p3_v r47
      obtain rfl := R.int_v r54
      obtain rfl := R.int_v r55
      obtain rfl := R.int_v r56
      refine ⟨rfl, xv32, rfl, p48, _, _, (V.int e45.c), ev49, rfl, (SqT_mono g039.fh hS50), rfl, (V.int y_most), rfl, _, _, rfl, rfl, _, rfl, (iteB (fun hc => ?_) (fun hc => ?_))⟩
      · have hc : (decide (e45.c ≤ y_most)) = true := hc
        rw [if_pos hc] at hr44
        have hA57 : RL K F36 (acc37 ++ [xv32]) (ds38 ++ [(e45 : (T3 Int Int Int))]) := RL.snoc hA42 r47
        refine ⟨xv32, rfl, acc37, owD41.h, (lt_line hi43 (List.getElem?_eq_some_iff.mp hx34).1 hl16), ?_⟩
        have g58 := g039.put (o := (.lst (acc37 ++ [xv32]))) owD41
        have ow59 := owD41.put (us := (acc37 ++ [xv32]))
        exact ⟨F36, (acc37 ++ [xv32]), (ds38 ++ [e45]), g58, sm40, ow59, hA57, (by rw [List.length_append]; exact Nat.succ_le_succ hi43), (snoc_rest hr44)⟩
      · have hc : (decide (e45.c ≤ y_most)) = false := hc
        rw [if_neg (ne_true_of_eq_false hc)] at hr44
        exact ⟨F36, acc37, ds38, g039, sm40, owD41, hA42, (Nat.le_succ_of_le hi43), hr44⟩
    intro H60 hP
    obtain ⟨F61, acc62, ds63, g065, sm66, owD67, hA68, hi69, hr70⟩ := hP
    rw [drop_end (RL.len hA17)] at hr70
    rw [m_l_few_c1.eq_1, List.append_nil] at hr70
    obtain rfl := hr70
    have hl71 : acc62.length ≤ sizeLine := Nat.le_trans hi69 hl16
    have sm72 := owD67.sf
    have g73 := g065.fz owD67
    have r74 : R K (upd F61 D18 (.lst acc62)) (.ref D18) (m_l_few_c1 y_most t9) := R.mkl fzS hl71 (RpA.up hA68 sm72)
    have r75 : R K (upd F61 D18 (.lst acc62)) (V.ref D18) (((Sum.inr) (m_l_few_c1 y_most t9)) : ((List Int) ⊕ (List (T3 Int Int Int)))) := r74
    refine ⟨(by show 2 ≤ sizeLine; decide), fun p76 np77 => ?_⟩
    have sm78 := same_new (o := (.tup [(V.str ("none" : Str)), (V.ref D18)])) (g73.noneF np77)
    have g79 := g73.frz (o := (.tup [(V.str ("none" : Str)), (V.ref D18)])) np77
    have r80 : R K (upd (upd F61 D18 (.lst acc62)) p76 (.tup [(V.str ("none" : Str)), (V.ref D18)])) (.ref p76) ((("none" : Str), (((Sum.inr) (m_l_few_c1 y_most t9)) : ((List Int) ⊕ (List (T3 Int Int Int))))) : (Str × ((List Int) ⊕ (List (T3 Int Int Int))))) := R.mk2 fzT (Rp.str ("none" : Str) ⟨by decide +kernel, by decide +kernel⟩) (r75.up sm78)
    obtain rfl := sjoin hm
    exact (hQ _ _ _ g79 r80)
end K28
namespace K28
open PySem PySem.Spec PyProof.Rows L2 TL G
theorem ok_l_fewer_right {P : Program} {w : World} {K : PySem.W.Frag} {mg : Str → Option Value} {base : Heap} (T : Txt K mg) : FnOk P w K mg base CX0 5 T.a_l_fewer_right T.d_l_fewer_right ["_law_bag_here", "_law_town", "_law_torn", "_law_gate", "_law_want", "_law_told"] (sp_l_fewer_right K) := by
  have G_l_draw : FnOk P w K mg base CX0 2 T.a_l_draw T.d_l_draw ["_law_bag_here", "_law_many"] (sp_l_draw K) := ok_l_draw T
  have b_l_draw := T.F_l_draw.bindsN (ps := ["_law_bag_here", "_law_many"]) fun _ _ _ _ _ _ us hl => match us, hl with | [_, _], _ => rfl
  have G_way : FnOk P w K mg base CX0 4 T.a_way T.d_way ["net", "broken", "door", "order"] (sp_way K) := ok_way T
  have b_way := T.F_way.bindsN (ps := ["net", "broken", "door", "order"]) fun _ _ _ _ _ _ us hl => match us, hl with | [_, _, _, _], _ => rfl
  have G_l_within : FnOk P w K mg base CX0 1 T.a_l_within T.d_l_within ["_law_want", "_law_most"] (sp_l_within K) := ok_l_within T
  have b_l_within := T.F_l_within.bindsN (ps := ["_law_want", "_law_most"]) fun _ _ _ _ _ _ us hl => match us, hl with | [_, _], _ => rfl
  have G_l_few : FnOk P w K mg base CX0 1 T.a_l_few T.d_l_few ["_law_told", "_law_most"] (sp_l_few K) := ok_l_few T
  have b_l_few := T.F_l_few.bindsN (ps := ["_law_told", "_law_most"]) fun _ _ _ _ _ _ us hl => match us, hl with | [_, _], _ => rfl
  have G_none_fault : FnOk P w K mg base CX0 4 T.a_none_fault T.d_none_fault ["net", "broken", "door", "order", "stands"] (sp_none_fault K) := ok_none_fault T
  have b_none_fault := T.F_none_fault.bindsN (ps := ["net", "broken", "door", "order", "stands"]) fun _ _ _ _ _ _ us hl => match us, hl with | [_, _, _, _, _], _ => rfl
  refine fd_ok T.F_l_fewer_right sc_l_fewer_right (fun vs H Q E h => ?_) (fun cdv A outer s H0 vs Q E hr h => ?_)
  · obtain ⟨_, _, _, _, _, _, _, _, _, _, _, _, _, _, _, _, rfl, _⟩ := h
    rfl
  · obtain ⟨F0, B, C, b, v_y_town, y_town, p_y_torn, ws_y_torn, y_torn, y_gate, v_y_want, y_want, v_y_told, y_told, r, b', rfl, hS0, hB, r_y_town, hS_y_torn, hl_y_torn, hA_y_torn, nm_y_torn, r_y_want, r_y_told, hm, hQ⟩ := h
    refine ⟨_, (pss_cons (ps_set (i := 6) sc_l_fewer_right.nd rfl (.inl rfl) (pe_op op_sub (pe_callB (call_lenLK (K := K)) (by rfl) T.n_len (by decide +kernel) (pa_cons (pe_ix (ix_tupK (K := K)) (pv 5) pe_int (fun _ _ => rfl)) pa_nil)) pe_int)) (pss_cons (ps_if (pt_cmpR op_eq (pe_ix (ix_tupK (K := K)) (pv 5) pe_int (fun _ _ => rfl)) pe_str (nomark _)) (pss_cons (ps_set (i := 7) sc_l_fewer_right.nd rfl (.inl rfl) (pe_call G_l_draw (hr.mono (by decide)) (by rfl) T.g_l_draw T.F_l_draw.kp b_l_draw .nil pass0 (pa_cons (pv 0) (pa_cons pe_int pa_nil)))) (pss_one (ps_ret (pe_cmpR (op_eqDK (K := K) hr.units) (pe_call G_way (hr.mono (by decide)) (by rfl) T.g_way T.F_way.kp b_way .nil pass0 (pa_cons (pv 1) (pa_cons (pv 2) (pa_cons (pv 3) (pa_cons (pe_call G_l_within (hr.mono (by decide)) (by rfl) T.g_l_within T.F_l_within.kp b_l_within .nil pass0 (pa_cons (pv 4) (pa_cons (pv 7) pa_nil))) pa_nil))))) (pe_call G_l_few (hr.mono (by decide)) (by rfl) T.g_l_few T.F_l_few.kp b_l_few .nil pass0 (pa_cons (pv 5) (pa_cons (pv 7) pa_nil))) (nomark _))))) pss_nil) (pss_cons (ps_for PassesOwn.never rfl (pi_listK (K := K) (pe_lst (pa_cons (pv 6) (pa_cons (pe_op op_add (pe_op op_add (pv 6) pe_int) (pe_call G_l_draw (hr.mono (by decide)) (by rfl) T.g_l_draw T.F_l_draw.kp b_l_draw .nil pass0 (pa_cons (pv 0) (pa_cons pe_int pa_nil)))) (pa_cons pe_int (pa_cons (pe_op op_sub (pe_op op_pow pe_int pe_int) pe_int) pa_nil)))))) (pg_name (i := 7) sc_l_fewer_right.nd rfl (Or.inl rfl)) (pss_one (ps_if (pt_cmpR (op_neDK (K := K) hr.units) (pe_call G_way (hr.mono (by decide)) (by rfl) T.g_way T.F_way.kp b_way .nil pass0 (pa_cons (pv 1) (pa_cons (pv 2) (pa_cons (pv 3) (pa_cons (pe_call G_l_within (hr.mono (by decide)) (by rfl) T.g_l_within T.F_l_within.kp b_l_within .nil pass0 (pa_cons (pv 4) (pa_cons (pe_callB (call_max2 rfl) (by rfl) T.n_max (by decide +kernel) (pa_cons (pv 6) (pa_cons (pv 7) pa_nil))) pa_nil))) pa_nil))))) (pv 5) (nomark _)) (pss_one (ps_ret pe_bl)) pss_nil))) (pss_cons (ps_if (pt_cmpR op_eq (pv 6) pe_int (nomark _)) (pss_one (ps_ret pe_bl)) pss_nil) (pss_cons (ps_set (i := 8) sc_l_fewer_right.nd rfl (.inl rfl) (pe_call G_way (hr.mono (by decide)) (by rfl) T.g_way T.F_way.kp b_way .nil pass0 (pa_cons (pv 1) (pa_cons (pv 2) (pa_cons (pv 3) (pa_cons (pe_call G_l_within (hr.mono (by decide)) (by rfl) T.g_l_within T.F_l_within.kp b_l_within .nil pass0 (pa_cons (pv 4) (pa_cons (pe_op op_sub (pv 6) pe_int) pa_nil))) pa_nil)))))) (pss_cons (ps_for PassesOwn.never rfl (pi_listK (K := K) (pe_lst (pa_cons (pe_op op_sub (pv 6) pe_int) (pa_cons (pe_call G_l_draw (hr.mono (by decide)) (by rfl) T.g_l_draw T.F_l_draw.kp b_l_draw .nil pass0 (pa_cons (pv 0) (pa_cons (pv 6) pa_nil))) pa_nil)))) (pg_name (i := 7) sc_l_fewer_right.nd rfl (Or.inl rfl)) (pss_cons (ps_set (i := 9) sc_l_fewer_right.nd rfl (.inl rfl) (pe_call G_way (hr.mono (by decide)) (by rfl) T.g_way T.F_way.kp b_way .nil pass0 (pa_cons (pv 1) (pa_cons (pv 2) (pa_cons (pv 3) (pa_cons (pe_call G_l_within (hr.mono (by decide)) (by rfl) T.g_l_within T.F_l_within.kp b_l_within .nil pass0 (pa_cons (pv 4) (pa_cons (pv 7) pa_nil))) pa_nil)))))) (pss_cons (ps_if (PW.pt (pw_or (pt_cmpR op_ne (pe_ix (ix_tupK (K := K)) (pv 9) pe_int (fun _ _ => rfl)) pe_str (nomark _)) (pw_or1 (pt_cmpR (op_neDK (K := K) hr.units) (pv 9) (pe_call G_l_few (hr.mono (by decide)) (by rfl) T.g_l_few T.F_l_few.kp b_l_few .nil pass0 (pa_cons (pv 8) (pa_cons (pv 7) pa_nil))) (nomark _))))) (pss_one (ps_ret pe_bl)) pss_nil) (pss_cons (ps_if (pt_cmpR op_notO (pe_call G_none_fault (hr.mono (by decide)) (by rfl) T.g_none_fault T.F_none_fault.kp b_none_fault .nil pass0 (pa_cons (pv 1) (pa_cons (pv 2) (pa_cons (pv 3) (pa_cons (pe_call G_l_within (hr.mono (by decide)) (by rfl) T.g_l_within T.F_l_within.kp b_l_within .nil pass0 (pa_cons (pv 4) (pa_cons (pv 7) pa_nil))) (pa_cons (pe_ix (ix_tupK (K := K)) (pv 9) pe_int (fun _ _ => rfl)) pa_nil)))))) pe_non (nomark _)) (pss_one (ps_ret pe_bl)) pss_nil) (pss_one (ps_if (pt_cmpR op_isO (pe_call G_none_fault (hr.mono (by decide)) (by rfl) T.g_none_fault T.F_none_fault.kp b_none_fault .nil pass0 (pa_cons (pv 1) (pa_cons (pv 2) (pa_cons (pv 3) (pa_cons (pv 4) (pa_cons (pe_ix (ix_tupK (K := K)) (pv 9) pe_int (fun _ _ => rfl)) pa_nil)))))) pe_non (nomark _)) (pss_one (ps_ret pe_bl)) pss_nil)))))) (pss_one (ps_ret pe_bl)))))))), ?_⟩
    have g0 : Gr (Bc B C) F0 H0 F0 H0 := Gr.refl hS0
    unfold m_l_fewer_right at hm
    refine p_seq ?_
    refine p_asg ?_
    obtain ⟨p1, v4, v5, ev2, hS3, r6, r7⟩ := R.p2_v r_y_told
    obtain ⟨rfl, gs8⟩ := R.str_v r6
    obtain ⟨p9, ws10, ev11, hS12, hl13⟩ := R.alt_lst r7
    refine ⟨v_y_told, rfl, p1, _, _, v5, ev2, rfl, (SqT_mono g0.fh hS3), rfl, p9, ws10, _, (by rw [ev11]), (.inl (Same.seq g0.fh hS12)), hl13, _, _, rfl, rfl, ?_⟩
    obtain ⟨y_ties14, hb15, hm⟩ := bnd hm
    have hx16 : (((lenA (y_told.2) : Nat) : Int) - (1 : Int)) = y_ties14 := sjoin hb15
    refine p_nm (v' := (V.int y_ties14)) (congrArg V.int hx16) ?_
    refine p_nx ?_
    refine p_seq ?_
    refine p_if ?_
    refine ⟨v_y_told, rfl, p1, _, _, (V.str y_told.1), ev2, rfl, (SqT_mono g0.fh hS3), rfl, rfl, _, rfl, (iteB (fun hc => ?_) (fun hc => ?_))⟩
    · have hm := ifT hc hm
      refine p_seq ?_
      refine p_asg ?_
      obtain ⟨r17, b18, hb19, hm⟩ := bnd2 hm
      refine ⟨(V.ref B), rfl, F0, B, C, b, (12 : Int), r17, b18, rfl, g0.fh, hB, hb19, fun F20 H21 g22 hB23 => ?_⟩
      have g25 := Gr.trans g0 g22
      refine p_name ?_
      refine p_nx ?_
      refine p_ret ?_
      refine ⟨v_y_town, rfl, (V.ref p_y_torn), rfl, (V.int y_gate), rfl, v_y_want, rfl, (V.int r17), rfl, F20, v_y_want, y_want, r17, rfl, g25.fh, (r_y_want.up g22.ff), fun v30 F27 H28 g29 r31 => ?_⟩
      have g32 := Gr.trans g25 (Gr.of0 g29)
      have hB33 := hB23.gr0 g29
      obtain ⟨r34, hb35, hm⟩ := bnd hm
      refine ⟨F27, v_y_town, y_town, p_y_torn, ws_y_torn, y_torn, y_gate, v30, (m_l_within y_want r17), r34, rfl, g32.fh, (r_y_town.up (Same.trans g22.ff g29.ff)), (nm_y_torn _ _ g32), hl_y_torn, (hA_y_torn.up (Same.trans g22.ff g29.ff)), id, r31, hb35, fun v39 F36 H37 g38 r40 => ?_⟩
      have g41 := Gr.trans g32 (Gr.of0 g38)
      have hB42 := hB33.gr0 g38
      obtain ⟨r43, hb44, hm⟩ := bnd hm
      refine ⟨v_y_told, rfl, (V.int r17), rfl, F36, v_y_told, y_told, r17, r43, rfl, g41.fh, (r_y_told.up (Same.trans g22.ff (Same.trans g29.ff g38.ff))), hb44, fun v48 F45 H46 g47 r49 => ?_⟩
      have g50 := Gr.trans g41 (Gr.of0 g47)
      have hB51 := hB42.gr0 g47
      have rH52 : R K H46 v39 r34 := (Rp.up (r40.up g47.ff) g50.fh)
      have rH53 : R K H46 v48 r43 := (Rp.up r49 g50.fh)
      obtain ⟨rfl, rfl⟩ := pjoin hm
      refine ⟨_, _, (Rp.dp _ _ rH52), (Rp.dp _ _ rH53), (R.shaped rH52), (R.shaped rH53), (hQ _ _ g50 hB51)⟩
    · have hm := ifF hc hm
      refine p_next ?_
      refine p_nx ?_
      refine p_seq ?_
      refine p_for ?_
      obtain ⟨r54, b55, hb56, hm⟩ := bnd2 hm
      refine ⟨(V.int y_ties14), rfl, (V.int y_ties14), rfl, _, _, rfl, rfl, (V.ref B), rfl, F0, B, C, b, (9 : Int), r54, b55, rfl, g0.fh, hB, hb56, fun F57 H58 g59 hB60 => ?_⟩
      have g62 := Gr.trans g0 g59
      refine ⟨_, _, rfl, rfl, _, _, rfl, rfl, ⟨by decide, by decide, by decide⟩, _, _, rfl, rfl, (by show 4 ≤ sizeLine; decide), fun p63 np64 => ?_⟩
      have nb65 := hB60.nb np64
      have g66 := g62.own (o := (.lst [(V.int y_ties14), (V.int ((y_ties14 + (1 : Int)) + r54)), (V.int (48 : Int)), (V.int (((10 : Int) ^ (9 : Int).toNat) - (1 : Int)))])) np64
      have hB67 := hB60.own (o := (.lst [(V.int y_ties14), (V.int ((y_ties14 + (1 : Int)) + r54)), (V.int (48 : Int)), (V.int (((10 : Int) ^ (9 : Int).toNat) - (1 : Int)))])) np64
      have ow68 : Ow H0 F57 (upd H58 p63 (.lst [(V.int y_ties14), (V.int ((y_ties14 + (1 : Int)) + r54)), (V.int (48 : Int)), (V.int (((10 : Int) ^ (9 : Int).toNat) - (1 : Int)))])) p63 [(V.int y_ties14), (V.int ((y_ties14 + (1 : Int)) + r54)), (V.int (48 : Int)), (V.int (((10 : Int) ^ (9 : Int).toNat) - (1 : Int)))] := Ow.new g62 np64
      have hA69 : RL K F57 [(V.int y_ties14), (V.int ((y_ties14 + (1 : Int)) + r54)), (V.int (48 : Int)), (V.int (((10 : Int) ^ (9 : Int).toNat) - (1 : Int)))] ([y_ties14, ((y_ties14 + (1 : Int)) + r54), (48 : Int), (((10 : Int) ^ (9 : Int).toNat) - (1 : Int))] : List Int) := (RpA.cons (Rp.int y_ties14) (RpA.cons (Rp.int ((y_ties14 + (1 : Int)) + r54)) (RpA.cons (Rp.int (48 : Int)) (RpA.cons (Rp.int (((10 : Int) ^ (9 : Int).toNat) - (1 : Int))) RpA.nil))))
      refine ⟨p63, rfl, ⟨_, ow68.sq⟩, ?_⟩
      obtain ⟨l71, ht72, hm⟩ := bndL1 hm
      refine for_list (K := K) (a := p63) (xs := [(V.int y_ties14), (V.int ((y_ties14 + (1 : Int)) + r54)), (V.int (48 : Int)), (V.int (((10 : Int) ^ (9 : Int).toNat) - (1 : Int)))]) (fun i σ' H' => ∃ (F' : Hp) (o_y_most : Option V) (b : Bag), σ' = [(some (V.ref B)), (some v_y_town), (some (V.ref p_y_torn)), (some (V.int y_gate)), (some v_y_want), (some v_y_told), (some (V.int y_ties14)), o_y_most, none, none] ∧ Gr (Bc B C) F0 H0 F' H' ∧ Same F57 F' ∧ Ow H0 F' H' p63 [(V.int y_ties14), (V.int ((y_ties14 + (1 : Int)) + r54)), (V.int (48 : Int)), (V.int (((10 : Int) ^ (9 : Int).toNat) - (1 : Int)))] ∧ BagAt F' H' B C b ∧ m_l_fewer_right_l1 y_town y_torn y_gate y_want y_told y_ties14 (([y_ties14, ((y_ties14 + (1 : Int)) + r54), (48 : Int), (((10 : Int) ^ (9 : Int).toNat) - (1 : Int))] : List Int).drop i) b = some l71) ?_ ?_ ?_ ?_
      · exact ⟨F57, none, b55, rfl, g66, (Same.refl _), ow68, hB67, ht72⟩
      · intro i σ' H' _ hP
        obtain ⟨F', o_y_most, b, rfl, g_, sm_, owk0_, hB_, hm_⟩ := hP
        exact owk0_.sq
      · intro i73 xv76 σ' H75 hx74 hP
        obtain ⟨F77, o_y_most78, b79, rfl, g80, sm81, owk082, hB83, hm84⟩ := hP
        obtain ⟨e85, he86, r87⟩ := RL.get (hA69.up sm81) hx74
        obtain rfl := R.int_v r87
        rw [drop_at he86, m_l_fewer_right_l1.eq_2] at hm84
        refine p_name ?_
        refine p_if ?_
        refine ⟨v_y_town, rfl, (V.ref p_y_torn), rfl, (V.int y_gate), rfl, v_y_want, rfl, (V.int y_ties14), rfl, (V.int e85), rfl, _, _, rfl, F77, v_y_want, y_want, (if e85 > y_ties14 then e85 else y_ties14), rfl, g80.fh, (r_y_want.up (Same.trans g59.ff sm81)), fun v92 F89 H90 g91 r93 => ?_⟩
        have g94 := Gr.trans g80 (Gr.of0 g91)
        have ow95 := owk082.gr0 g91
        have hB96 := hB83.gr0 g91
        obtain ⟨r97, hb98, hm84⟩ := bnd hm84
        refine ⟨F89, v_y_town, y_town, p_y_torn, ws_y_torn, y_torn, y_gate, v92, (m_l_within y_want (if e85 > y_ties14 then e85 else y_ties14)), r97, rfl, g94.fh, (r_y_town.up (Same.trans g59.ff (Same.trans sm81 g91.ff))), (nm_y_torn _ _ g94), hl_y_torn, (hA_y_torn.up (Same.trans g59.ff (Same.trans sm81 g91.ff))), id, r93, hb98, fun v102 F99 H100 g101 r103 => ?_⟩
        have g104 := Gr.trans g94 (Gr.of0 g101)
        have ow105 := ow95.gr0 g101
        have hB106 := hB96.gr0 g101
        have rH107 : R K H100 v102 r97 := (Rp.up r103 g104.fh)
        have rH108 : R K H100 v_y_told y_told := (Rp.up (r_y_told.up (Same.trans g59.ff (Same.trans sm81 (Same.trans g91.ff g101.ff)))) g104.fh)
        refine ⟨v_y_told, rfl, _, _, (Rp.dp _ _ rH107), (Rp.dp _ _ rH108), (R.shaped rH107), (R.shaped rH108), _, rfl, (iteB (fun hc => ?_) (fun hc => ?_))⟩
        · have hm84 := ifT hc hm84
          refine p_ret ?_
          obtain rfl := sjoin hm84
          have hm := bret hm
          obtain ⟨rfl, rfl⟩ := pjoin hm
          exact (hQ _ _ g104 hB106)
        · have hm84 := ifF hc hm84
          refine p_next ?_
          exact ⟨F99, (some (V.int e85)), b79, rfl, g104, (Same.trans sm81 (Same.trans g91.ff g101.ff)), ow105, hB106, hm84⟩
      intro σ109 H110 hP
      obtain ⟨F111, o_y_most112, b113, rfl, g114, sm115, owk0116, hB117, hm118⟩ := hP
      rw [drop_end (RL.len (hA69.up sm115)), m_l_fewer_right_l1.eq_1] at hm118
      obtain rfl := sjoin hm118
      have hm := bgo1 hm
      refine p_nx ?_
      refine p_seq ?_
      refine p_if ?_
      refine ⟨(V.int y_ties14), rfl, rfl, _, rfl, (iteB (fun hc => ?_) (fun hc => ?_))⟩
      · have hm := ifT hc hm
        refine p_ret ?_
        obtain ⟨rfl, rfl⟩ := pjoin hm
        exact (hQ _ _ g114 hB117)
      · have hm := ifF hc hm
        refine p_next ?_
        refine p_nx ?_
        refine p_seq ?_
        refine p_asg ?_
        refine ⟨v_y_town, rfl, (V.ref p_y_torn), rfl, (V.int y_gate), rfl, v_y_want, rfl, (V.int y_ties14), rfl, _, _, rfl, rfl, F111, v_y_want, y_want, (y_ties14 - (1 : Int)), rfl, g114.fh, (r_y_want.up (Same.trans g59.ff sm115)), fun v123 F120 H121 g122 r124 => ?_⟩
        have g125 := Gr.trans g114 (Gr.of0 g122)
        have ow126 := owk0116.gr0 g122
        have hB127 := hB117.gr0 g122
        obtain ⟨r128, hb129, hm⟩ := bnd hm
        refine ⟨F120, v_y_town, y_town, p_y_torn, ws_y_torn, y_torn, y_gate, v123, (m_l_within y_want (y_ties14 - (1 : Int))), r128, rfl, g125.fh, (r_y_town.up (Same.trans g59.ff (Same.trans sm115 g122.ff))), (nm_y_torn _ _ g125), hl_y_torn, (hA_y_torn.up (Same.trans g59.ff (Same.trans sm115 g122.ff))), id, r124, hb129, fun v133 F130 H131 g132 r134 => ?_⟩
        have g135 := Gr.trans g125 (Gr.of0 g132)
        have ow136 := ow126.gr0 g132
        have hB137 := hB127.gr0 g132
        refine p_name ?_
        refine p_nx ?_
        refine p_seq ?_
        refine p_for ?_
        obtain ⟨r138, b139, hb140, hm⟩ := bnd2 hm
        refine ⟨(V.int y_ties14), rfl, _, _, rfl, rfl, (V.ref B), rfl, (V.int y_ties14), rfl, F130, B, C, b113, y_ties14, r138, b139, rfl, g135.fh, hB137, hb140, fun F141 H142 g143 hB144 => ?_⟩
        have g146 := Gr.trans g135 g143
        have ow147 := ow136.gr g143 nb65
        refine ⟨(by show 2 ≤ sizeLine; decide), fun p148 np149 => ?_⟩
        have ne150 := ow147.ne np149
        have nb151 := hB144.nb np149
        have g152 := g146.own (o := (.lst [(V.int (y_ties14 - (1 : Int))), (V.int r138)])) np149
        have ow153 := ow147.own (o := (.lst [(V.int (y_ties14 - (1 : Int))), (V.int r138)])) np149
        have hB154 := hB144.own (o := (.lst [(V.int (y_ties14 - (1 : Int))), (V.int r138)])) np149
        have ow155 : Ow H0 F141 (upd H142 p148 (.lst [(V.int (y_ties14 - (1 : Int))), (V.int r138)])) p148 [(V.int (y_ties14 - (1 : Int))), (V.int r138)] := Ow.new g146 np149
        have hA156 : RL K F141 [(V.int (y_ties14 - (1 : Int))), (V.int r138)] ([(y_ties14 - (1 : Int)), r138] : List Int) := (RpA.cons (Rp.int (y_ties14 - (1 : Int))) (RpA.cons (Rp.int r138) RpA.nil))
        refine ⟨p148, rfl, ⟨_, ow155.sq⟩, ?_⟩
        obtain ⟨l158, ht159, hm⟩ := bndL1 hm
        refine for_list (K := K) (a := p148) (xs := [(V.int (y_ties14 - (1 : Int))), (V.int r138)]) (fun i σ' H' => ∃ (F' : Hp) (o_y_most : Option V) (o_y_found : Option V) (b : Bag), σ' = [(some (V.ref B)), (some v_y_town), (some (V.ref p_y_torn)), (some (V.int y_gate)), (some v_y_want), (some v_y_told), (some (V.int y_ties14)), o_y_most, (some v133), o_y_found] ∧ Gr (Bc B C) F0 H0 F' H' ∧ Same F141 F' ∧ Ow H0 F' H' p148 [(V.int (y_ties14 - (1 : Int))), (V.int r138)] ∧ BagAt F' H' B C b ∧ m_l_fewer_right_l2 y_town y_torn y_gate y_want r128 (([(y_ties14 - (1 : Int)), r138] : List Int).drop i) b = some l158) ?_ ?_ ?_ ?_
        · exact ⟨F141, o_y_most112, none, b139, rfl, g152, (Same.refl _), ow155, hB154, ht159⟩
        · intro i σ' H' _ hP
          obtain ⟨F', o_y_most, o_y_found, b, rfl, g_, sm_, owk0_, hB_, hm_⟩ := hP
          exact owk0_.sq
        · intro i160 xv163 σ' H162 hx161 hP
          obtain ⟨F164, o_y_most165, o_y_found166, b167, rfl, g168, sm169, owk0170, hB171, hm172⟩ := hP
          obtain ⟨e173, he174, r175⟩ := RL.get (hA156.up sm169) hx161
          obtain rfl := R.int_v r175
          rw [drop_at he174, m_l_fewer_right_l2.eq_2] at hm172
          refine p_name ?_
          refine p_seq ?_
          refine p_asg ?_
          refine ⟨v_y_town, rfl, (V.ref p_y_torn), rfl, (V.int y_gate), rfl, v_y_want, rfl, (V.int e173), rfl, F164, v_y_want, y_want, e173, rfl, g168.fh, (r_y_want.up (Same.trans g59.ff (Same.trans sm115 (Same.trans g122.ff (Same.trans g132.ff (Same.trans g143.ff sm169)))))), fun v180 F177 H178 g179 r181 => ?_⟩
          have g182 := Gr.trans g168 (Gr.of0 g179)
          have ow183 := owk0170.gr0 g179
          have hB184 := hB171.gr0 g179
          obtain ⟨r185, hb186, hm172⟩ := bnd hm172
          refine ⟨F177, v_y_town, y_town, p_y_torn, ws_y_torn, y_torn, y_gate, v180, (m_l_within y_want e173), r185, rfl, g182.fh, (r_y_town.up (Same.trans g59.ff (Same.trans sm115 (Same.trans g122.ff (Same.trans g132.ff (Same.trans g143.ff (Same.trans sm169 g179.ff))))))), (nm_y_torn _ _ g182), hl_y_torn, (hA_y_torn.up (Same.trans g59.ff (Same.trans sm115 (Same.trans g122.ff (Same.trans g132.ff (Same.trans g143.ff (Same.trans sm169 g179.ff))))))), id, r181, hb186, fun v190 F187 H188 g189 r191 => ?_⟩
          have g192 := Gr.trans g182 (Gr.of0 g189)
          have ow193 := ow183.gr0 g189
          have hB194 := hB184.gr0 g189
          refine p_name ?_
          refine p_nx ?_
          refine p_seq ?_
          refine p_if ?_
          obtain ⟨p195, v198, v199, ev196, hS197, r200, r201⟩ := R.p2_v r191
          obtain ⟨rfl, gs202⟩ := R.str_v r200
          refine ⟨v190, rfl, p195, _, _, (V.str r185.1), ev196, rfl, (SqT_mono g192.fh hS197), rfl, rfl, _, rfl, ?_⟩
          obtain ⟨c203, hc204, hm172⟩ := bnd hm172
          refine orJT (M := M0) (F := F187) (c := c203) (P := fun _ _ => True) (fun ha => ?_) (fun ha => ⟨(sjoin (ifT ha hc204)).symm, trivial⟩) g192.fh ?_
          · intro Q206 q207
            have hc204 := ifF ha hc204
            obtain ⟨r208, hb209, hc204⟩ := bnd hc204
            refine ⟨v190, rfl, v133, rfl, (V.int e173), rfl, F187, v133, r128, e173, r208, rfl, g192.fh, (r134.up (Same.trans g143.ff (Same.trans sm169 (Same.trans g179.ff g189.ff)))), hb209, fun v213 F210 H211 g212 r214 => ?_⟩
            have g215 := Gr.trans g192 (Gr.of0 g212)
            have g216 := Gr.trans (Gr.refl (M := M0) g192.fh) g212
            have ow217 := ow193.gr0 g212
            have hB218 := hB194.gr0 g212
            have rH219 : R K H211 v190 r185 := (Rp.up (r191.up g212.ff) g215.fh)
            have rH220 : R K H211 v213 r208 := (Rp.up r214 g215.fh)
            obtain rfl := sjoin hc204
            refine ⟨_, _, (Rp.dp _ _ rH219), (Rp.dp _ _ rH220), (R.shaped rH219), (R.shaped rH220), _, rfl, (q207 _ _ g216 trivial)⟩
          intro F221 H222 g223 hB224
          have g225 := Gr.trans g192 (Gr.of0 g223)
          have ow226 := ow193.gr0 g223
          have hB227 := hB194.gr0 g223
          refine (iteB (fun hc => ?_) (fun hc => ?_))
          · have hm172 := ifT hc hm172
            refine p_ret ?_
            obtain rfl := sjoin hm172
            have hm := bret hm
            obtain ⟨rfl, rfl⟩ := pjoin hm
            exact (hQ _ _ g225 hB227)
          · have hm172 := ifF hc hm172
            refine p_next ?_
            refine p_nx ?_
            refine p_seq ?_
            refine p_if ?_
            refine ⟨v_y_town, rfl, (V.ref p_y_torn), rfl, (V.int y_gate), rfl, v_y_want, rfl, (V.int e173), rfl, F221, v_y_want, y_want, e173, rfl, g225.fh, (r_y_want.up (Same.trans g59.ff (Same.trans sm115 (Same.trans g122.ff (Same.trans g132.ff (Same.trans g143.ff (Same.trans sm169 (Same.trans g179.ff (Same.trans g189.ff g223.ff))))))))), fun v232 F229 H230 g231 r233 => ?_⟩
            have g234 := Gr.trans g225 (Gr.of0 g231)
            have ow235 := ow226.gr0 g231
            have hB236 := hB227.gr0 g231
            obtain ⟨t237, hb238, hm172⟩ := bnd hm172
            have r239 := getR_ok hb238 (r201.up (Same.trans g223.ff g231.ff))
            obtain ⟨p240, ws241, ev242, hS243, hl244, hA245⟩ := R.lst_v r239
            obtain ⟨r246, hb247, hm172⟩ := bnd hm172
            refine ⟨v190, rfl, p195, _, _, v199, ev196, rfl, (SqT_mono g234.fh (SqT_mono (Same.trans g223.ff g231.ff) hS197)), rfl, F229, v_y_town, y_town, p_y_torn, ws_y_torn, y_torn, y_gate, v232, (m_l_within y_want e173), p240, ws241, t237, r246, (by (rw [ev242]) <;> rfl), g234.fh, (r_y_town.up (Same.trans g59.ff (Same.trans sm115 (Same.trans g122.ff (Same.trans g132.ff (Same.trans g143.ff (Same.trans sm169 (Same.trans g179.ff (Same.trans g189.ff (Same.trans g223.ff g231.ff)))))))))), (nm_y_torn _ _ g234), hl_y_torn, (hA_y_torn.up (Same.trans g59.ff (Same.trans sm115 (Same.trans g122.ff (Same.trans g132.ff (Same.trans g143.ff (Same.trans sm169 (Same.trans g179.ff (Same.trans g189.ff (Same.trans g223.ff g231.ff)))))))))), id, r233, (Same.seq g234.fh hS243), hl244, hA245, id, hb247, fun v251 F248 H249 g250 r252 => ?_⟩
            have g253 := Gr.trans g234 (Gr.of0 g250)
            have ow254 := ow235.gr0 g250
            have hB255 := hB236.gr0 g250
            refine ⟨_, rfl, (isN_eq r252), _, rfl, (iteB (fun hc => ?_) (fun hc => ?_))⟩
            · have hm172 := ifT hc hm172
              refine p_ret ?_
              obtain rfl := sjoin hm172
              have hm := bret hm
              obtain ⟨rfl, rfl⟩ := pjoin hm
              exact (hQ _ _ g253 hB255)
            · have hm172 := ifF hc hm172
              refine p_next ?_
              refine p_nx ?_
              refine p_if ?_
              obtain ⟨t256, hb257, hm172⟩ := bnd hm172
              have r258 := getR_ok hb257 (r201.up (Same.trans g223.ff (Same.trans g231.ff g250.ff)))
              obtain ⟨p259, ws260, ev261, hS262, hl263, hA264⟩ := R.lst_v r258
              obtain ⟨r265, hb266, hm172⟩ := bnd hm172
              refine ⟨v_y_town, rfl, (V.ref p_y_torn), rfl, (V.int y_gate), rfl, v_y_want, rfl, v190, rfl, p195, _, _, v199, ev196, rfl, (SqT_mono g253.fh (SqT_mono (Same.trans g223.ff (Same.trans g231.ff g250.ff)) hS197)), rfl, F248, v_y_town, y_town, p_y_torn, ws_y_torn, y_torn, y_gate, v_y_want, y_want, p259, ws260, t256, r265, (by (rw [ev261]) <;> rfl), g253.fh, (r_y_town.up (Same.trans g59.ff (Same.trans sm115 (Same.trans g122.ff (Same.trans g132.ff (Same.trans g143.ff (Same.trans sm169 (Same.trans g179.ff (Same.trans g189.ff (Same.trans g223.ff (Same.trans g231.ff g250.ff))))))))))), (nm_y_torn _ _ g253), hl_y_torn, (hA_y_torn.up (Same.trans g59.ff (Same.trans sm115 (Same.trans g122.ff (Same.trans g132.ff (Same.trans g143.ff (Same.trans sm169 (Same.trans g179.ff (Same.trans g189.ff (Same.trans g223.ff (Same.trans g231.ff g250.ff))))))))))), id, (r_y_want.up (Same.trans g59.ff (Same.trans sm115 (Same.trans g122.ff (Same.trans g132.ff (Same.trans g143.ff (Same.trans sm169 (Same.trans g179.ff (Same.trans g189.ff (Same.trans g223.ff (Same.trans g231.ff g250.ff))))))))))), (Same.seq g253.fh hS262), hl263, hA264, id, hb266, fun v270 F267 H268 g269 r271 => ?_⟩
              have g272 := Gr.trans g253 (Gr.of0 g269)
              have ow273 := ow254.gr0 g269
              have hB274 := hB255.gr0 g269
              refine ⟨_, rfl, (isN_eq r271), _, rfl, (iteB (fun hc => ?_) (fun hc => ?_))⟩
              · have hm172 := ifT hc hm172
                refine p_ret ?_
                obtain rfl := sjoin hm172
                have hm := bret hm
                obtain ⟨rfl, rfl⟩ := pjoin hm
                exact (hQ _ _ g272 hB274)
              · have hm172 := ifF hc hm172
                refine p_next ?_
                exact ⟨F267, (some (V.int e173)), (some v190), b167, rfl, g272, (Same.trans sm169 (Same.trans g179.ff (Same.trans g189.ff (Same.trans g223.ff (Same.trans g231.ff (Same.trans g250.ff g269.ff)))))), ow273, hB274, hm172⟩
        intro σ275 H276 hP
        obtain ⟨F277, o_y_most278, o_y_found279, b280, rfl, g281, sm282, owk0283, hB284, hm285⟩ := hP
        rw [drop_end (RL.len (hA156.up sm282)), m_l_fewer_right_l2.eq_1] at hm285
        obtain rfl := sjoin hm285
        have hm := bgo1 hm
        refine p_nx ?_
        refine p_ret ?_
        obtain ⟨rfl, rfl⟩ := pjoin hm
        exact (hQ _ _ g281 hB284)
end K28
namespace K28
open PySem PySem.Spec PyProof.Rows L2 TL G
theorem ok_l_past_right {P : Program} {w : World} {K : PySem.W.Frag} {mg : Str → Option Value} {base : Heap} (T : Txt K mg) : FnOk P w K mg base CX0 5 T.a_l_past_right T.d_l_past_right ["_law_bag_here", "_law_town", "_law_torn", "_law_gate", "_law_want", "_law_told"] (sp_l_past_right K) := by
  have G_l_draw : FnOk P w K mg base CX0 2 T.a_l_draw T.d_l_draw ["_law_bag_here", "_law_many"] (sp_l_draw K) := ok_l_draw T
  have b_l_draw := T.F_l_draw.bindsN (ps := ["_law_bag_here", "_law_many"]) fun _ _ _ _ _ _ us hl => match us, hl with | [_, _], _ => rfl
  have G_way : FnOk P w K mg base CX0 4 T.a_way T.d_way ["net", "broken", "door", "order"] (sp_way K) := ok_way T
  have b_way := T.F_way.bindsN (ps := ["net", "broken", "door", "order"]) fun _ _ _ _ _ _ us hl => match us, hl with | [_, _, _, _], _ => rfl
  refine fd_ok T.F_l_past_right sc_l_past_right (fun vs H Q E h => ?_) (fun cdv A outer s H0 vs Q E hr h => ?_)
  · obtain ⟨_, _, _, _, _, _, _, _, _, _, _, _, _, _, _, _, rfl, _⟩ := h
    rfl
  · obtain ⟨F0, B, C, b, v_y_town, y_town, p_y_torn, ws_y_torn, y_torn, y_gate, v_y_want, y_want, v_y_told, y_told, r, b', rfl, hS0, hB, r_y_town, hS_y_torn, hl_y_torn, hA_y_torn, nm_y_torn, r_y_want, r_y_told, hm, hQ⟩ := h
    refine ⟨_, (pss_cons (ps_set (i := 6) sc_l_past_right.nd rfl (.inl rfl) (pe_call G_l_draw (hr.mono (by decide)) (by rfl) T.g_l_draw T.F_l_draw.kp b_l_draw .nil pass0 (pa_cons (pv 0) (pa_cons (pe_ix (ix_tupK (K := K)) (pv 1) pe_int (fun _ _ => rfl)) pa_nil)))) (pss_cons (ps_set (i := 7) sc_l_past_right.nd rfl (.inl rfl) (pe_call G_way (hr.mono (by decide)) (by rfl) T.g_way T.F_way.kp b_way .nil pass0 (pa_cons (pv 1) (pa_cons (pv 2) (pa_cons (pv 3) (pa_cons (pe_tup (pa_cons (pe_ix (ix_tupK (K := K)) (pv 4) pe_int (fun _ _ => rfl)) (pa_cons (pe_ix (ix_tupK (K := K)) (pv 4) pe_int (fun _ _ => rfl)) (pa_cons (pe_tupleOfK (K := K) (by rfl) T.n_tuple (pe_ssetTK (K := K) rfl (by rfl) T.n_sorted (by rfl) T.n_set (pe_op op_catF (pe_ix (ix_tupK (K := K)) (pv 4) pe_int (fun _ _ => rfl)) (pe_tup (pa_cons (pv 6) pa_nil))))) (pa_cons (pe_ix (ix_tupK (K := K)) (pv 4) pe_int (fun _ _ => rfl)) pa_nil))))) pa_nil)))))) (pss_cons (ps_if (PW.pt (pw_and (pt_cmpR op_eq (pe_ix (ix_tupK (K := K)) (pv 5) pe_int (fun _ _ => rfl)) pe_str (nomark _)) (pw_and1 (pt_cmpR (op_notInI (K := K)) (pv 6) (pe_ix (ix_tupK (K := K)) (pv 5) pe_int (fun _ _ => rfl)) rfl)))) (pss_one (ps_ret (pe_cmpR (op_eqDK (K := K) hr.units) (pv 7) (pv 5) (nomark _)))) pss_nil) (pss_cons (ps_if (pt_cmpR op_eq (pe_ix (ix_tupK (K := K)) (pv 5) pe_int (fun _ _ => rfl)) pe_str (nomark _)) (pss_one (ps_ret (pe_or (pe_cmpR op_eq (pe_ix (ix_tupK (K := K)) (pv 7) pe_int (fun _ _ => rfl)) pe_str (nomark _)) (pe_one (pe_cmpR (op_gtDK (K := K) (α := (Int × (List Int))) hr.units) (pe_tup (pa_cons (pe_callB (call_lenLK (K := K)) (by rfl) T.n_len (by decide +kernel) (pa_cons (pe_ix (ix_tupK (K := K)) (pv 7) pe_int (fun _ _ => rfl)) pa_nil)) (pa_cons (pe_ix (ix_tupK (K := K)) (pv 7) pe_int (fun _ _ => rfl)) pa_nil))) (pe_tup (pa_cons (pe_callB (call_lenLK (K := K)) (by rfl) T.n_len (by decide +kernel) (pa_cons (pe_ix (ix_tupK (K := K)) (pv 5) pe_int (fun _ _ => rfl)) pa_nil)) (pa_cons (pe_ix (ix_tupK (K := K)) (pv 5) pe_int (fun _ _ => rfl)) pa_nil))) (nomark _)))))) pss_nil) (pss_cons (ps_set (i := 8) sc_l_past_right.nd rfl (.inr rfl) (pe_callTy (call_dictTK (K := K) (α := (Int × Int)) (β := Int) rfl hr.units) (by rfl) T.n_dict (by decide +kernel) (pa_cons (pe_lc (own := [("_law_one", 9)]) rfl sc_l_past_right.nd (pi_listK (K := K) (pe_ix (ix_tupK (K := K)) (pv 5) pe_int (fun _ _ => rfl))) (blkOk_by (own := [("_law_one", 9)]) (N := N_l_past_right) (sc := defScope s_l_past_right) (by decide +kernel)) (fun _ _ _ _ _ => (pg_name (i := 9) sc_l_past_right.nd rfl (Or.inl rfl) (.inr rfl))) (fun _ _ _ _ _ => pts_nil) (fun _ _ _ _ _ => (pe_tup (pa_cons (pe_slice (sl_tupF (K := K)) (pv 9) po_none (po_some pe_int)) (pa_cons (pe_ix (ix_tupK (K := K)) (pv 9) pe_int (fun _ _ => rfl)) pa_nil))))) pa_nil))) (pss_one (ps_ret (pe_and (pe_cmpR op_eq (pe_ix (ix_tupK (K := K)) (pv 7) pe_int (fun _ _ => rfl)) pe_str (nomark _)) (pe_one (pe_cmpR (op_eqDK (K := K) hr.units) (pe_lc (own := [("_law_one", 9)]) rfl sc_l_past_right.nd (pi_listK (K := K) (pe_ix (ix_tupK (K := K)) (pv 7) pe_int (fun _ _ => rfl))) (blkOk_by (own := [("_law_one", 9)]) (N := N_l_past_right) (sc := defScope s_l_past_right) (by decide +kernel)) (fun _ _ _ _ _ => (pg_name (i := 9) sc_l_past_right.nd rfl (Or.inl rfl) (.inr rfl))) (fun _ _ _ _ _ => (pts_one (pt_cmpR op_gt (pe_get2 (hu_of hr) (pv 8) (pe_slice (sl_tupF (K := K)) (pv 9) po_none (po_some pe_int)) pe_int ⟨by rfl, by rfl, by rfl, by rfl⟩) (pe_ix (ix_tupK (K := K)) (pv 9) pe_int (fun _ _ => rfl)) (nomark _)))) (fun _ _ _ _ _ => (pv 9))) (pe_lst pa_nil) (nomark _))))))))))), ?_⟩
    have g0 : Gr (Bc B C) F0 H0 F0 H0 := Gr.refl hS0
    unfold m_l_past_right at hm
    refine p_seq ?_
    refine p_asg ?_
    obtain ⟨p1, v4, v5, v6, v7, ev2, hS3, r8, r9, r10, r11⟩ := R.p4_v r_y_town
    obtain rfl := R.int_v r8
    obtain rfl := R.int_v r9
    obtain ⟨r12, b13, hb14, hm⟩ := bnd2 hm
    refine ⟨(V.ref B), rfl, v_y_town, rfl, p1, _, _, (V.int y_town.b), ev2, rfl, (SqT_mono g0.fh hS3), rfl, F0, B, C, b, y_town.b, r12, b13, rfl, g0.fh, hB, hb14, fun F15 H16 g17 hB18 => ?_⟩
    have g20 := Gr.trans g0 g17
    refine p_name ?_
    refine p_nx ?_
    refine p_seq ?_
    refine p_asg ?_
    obtain ⟨p21, v24, v25, v26, v27, ev22, hS23, r28, r29, r30, r31⟩ := R.p4_v r_y_want
    obtain rfl := R.int_v r28
    refine ⟨v_y_town, rfl, (V.ref p_y_torn), rfl, (V.int y_gate), rfl, v_y_want, rfl, p21, _, _, (V.int y_want.a), ev22, rfl, (SqT_mono g20.fh (SqT_mono g17.ff hS23)), rfl, v_y_want, rfl, p21, _, _, v25, ev22, rfl, (SqT_mono g20.fh (SqT_mono g17.ff hS23)), rfl, v_y_want, rfl, p21, _, _, v26, ev22, rfl, (SqT_mono g20.fh (SqT_mono g17.ff hS23)), rfl, (V.int r12), rfl, (by show 1 ≤ sizeLine; decide), fun p32 np33 => ?_⟩
    have nb34 := hB18.nb np33
    have sm35 := same_new (o := (.tup [(V.int r12)])) (g20.noneF np33)
    have g36 := g20.frz (o := (.tup [(V.int r12)])) np33
    have hB37 := hB18.frz (o := (.tup [(V.int r12)])) np33
    have r38 : R K (upd F15 p32 (.tup [(V.int r12)])) (.ref p32) ((T1.mk r12) : (T1 Int)) := R.mk1 fzT (Rp.int r12)
    obtain ⟨p39, v42, ev40, hS41, r43⟩ := R.p1_v r38
    obtain rfl := R.int_v r43
    have r44 : R K (upd F15 p32 (.tup [(V.int r12)])) (V.ref p32) (VT.mk [(T1.mk r12).a] : (VT Int)) := r38
    obtain ⟨t45, hb46, hm⟩ := bnd hm
    obtain ⟨hk47, rfl⟩ := conV_ok hb46
    obtain ⟨p48, ws49, ev50, hs54, hl52, hA53⟩ := R.vt_s r30
    have hS51 : SqT K _ p48 ws49 := .inl (.inl hs54)
    obtain ⟨p55, ws56, ev57, hs61, hl59, hA60⟩ := R.vt_s r44
    have hS58 : SqT K _ p55 ws56 := .inl (.inl hs61)
    refine ⟨(upd F15 p32 (.tup [(V.int r12)])), p48, p55, ws49, ws56, ev50, ev57, (sm35 _ _ (g17.ff _ _ hs54)), hs61, g36.fh, (by rw [(RL.len (hA53.up (Same.trans g17.ff sm35))), (RL.len hA60)]; exact hk47), fun q62 F63 H64 g65 hs66 => ?_⟩
    have hA67 := RL.app (hA53.up (Same.trans g17.ff sm35)) hA60
    have hl68 : (ws49 ++ ws56).length ≤ sizeLine := by rw [List.length_append, (RL.len (hA53.up (Same.trans g17.ff sm35))), (RL.len hA60)]; exact hk47
    have g69 := Gr.trans g36 (Gr.of0 g65)
    have hB70 := hB37.gr0 g65
    have r71 : R K F63 (.ref q62) (VT.mk ((y_want.c).l ++ ((VT.mk [(T1.mk r12).a] : (VT Int))).l) : (VT Int)) := R.mkvt hs66 hl68 (RpA.up hA67 g65.ff)
    obtain ⟨p72, ws73, ev74, hs78, hl76, hA77⟩ := R.vt_s r71
    have hS75 : SqT K _ p72 ws73 := .inl (.inl hs78)
    obtain ⟨t79, hb80, hm⟩ := bnd hm
    obtain ⟨hk81, hss_⟩ := ssetO_ok hb80
    subst hss_
    refine ⟨p72, ((VT.mk ((y_want.c).l ++ ((VT.mk [(T1.mk r12).a] : (VT Int))).l) : (VT Int))).l, (by rw [ev74]), (by rw [← RL.ints hA77]; exact (SqT_mono g69.fh hS75)), hk81, fun ns82 p86 so83 mm84 ln85 np87 => ?_⟩
    obtain rfl := ssort_uniq so83 mm84
    have hl88 : ((ssort ((VT.mk ((y_want.c).l ++ ((VT.mk [(T1.mk r12).a] : (VT Int))).l) : (VT Int))).l).map V.int).length ≤ sizeLine := by rw [List.length_map, sizeLine_eq]; omega
    have hA89 : RL K F63 ((ssort ((VT.mk ((y_want.c).l ++ ((VT.mk [(T1.mk r12).a] : (VT Int))).l) : (VT Int))).l).map V.int) (ssort ((VT.mk ((y_want.c).l ++ ((VT.mk [(T1.mk r12).a] : (VT Int))).l) : (VT Int))).l) := RL.ofInts _
    have nb90 := hB70.nb np87
    have g91 := g69.own (o := (.lst ((ssort ((VT.mk ((y_want.c).l ++ ((VT.mk [(T1.mk r12).a] : (VT Int))).l) : (VT Int))).l).map V.int))) np87
    have hB92 := hB70.own (o := (.lst ((ssort ((VT.mk ((y_want.c).l ++ ((VT.mk [(T1.mk r12).a] : (VT Int))).l) : (VT Int))).l).map V.int))) np87
    have ow93 : Ow H0 F63 (upd H64 p86 (.lst ((ssort ((VT.mk ((y_want.c).l ++ ((VT.mk [(T1.mk r12).a] : (VT Int))).l) : (VT Int))).l).map V.int))) p86 ((ssort ((VT.mk ((y_want.c).l ++ ((VT.mk [(T1.mk r12).a] : (VT Int))).l) : (VT Int))).l).map V.int) := Ow.new g69 np87
    have hA96 := hA89
    refine (.inl ⟨p86, ((ssort ((VT.mk ((y_want.c).l ++ ((VT.mk [(T1.mk r12).a] : (VT Int))).l) : (VT Int))).l).map V.int), rfl, ow93.sq, fun q94 nq95 => ?_⟩)
    have ne97 := ow93.ne nq95
    have nb98 := hB92.nb nq95
    have sm99 := same_new (o := (.tup ((ssort ((VT.mk ((y_want.c).l ++ ((VT.mk [(T1.mk r12).a] : (VT Int))).l) : (VT Int))).l).map V.int))) (g91.noneF nq95)
    have g100 := g91.frz (o := (.tup ((ssort ((VT.mk ((y_want.c).l ++ ((VT.mk [(T1.mk r12).a] : (VT Int))).l) : (VT Int))).l).map V.int))) nq95
    have ow101 := ow93.frz (o := (.tup ((ssort ((VT.mk ((y_want.c).l ++ ((VT.mk [(T1.mk r12).a] : (VT Int))).l) : (VT Int))).l).map V.int))) nq95
    have hB102 := hB92.frz (o := (.tup ((ssort ((VT.mk ((y_want.c).l ++ ((VT.mk [(T1.mk r12).a] : (VT Int))).l) : (VT Int))).l).map V.int))) nq95
    have r103 : R K (upd F63 q94 (.tup ((ssort ((VT.mk ((y_want.c).l ++ ((VT.mk [(T1.mk r12).a] : (VT Int))).l) : (VT Int))).l).map V.int))) (.ref q94) ((VT.mk (ssort ((VT.mk ((y_want.c).l ++ ((VT.mk [(T1.mk r12).a] : (VT Int))).l) : (VT Int))).l)) : (VT Int)) := R.mkvt fzT hl88 (hA96.up sm99)
    refine ⟨v_y_want, rfl, p21, _, _, v27, ev22, rfl, (SqT_mono g100.fh (SqT_mono (Same.trans g17.ff (Same.trans sm35 (Same.trans g65.ff sm99))) hS23)), rfl, (by show 4 ≤ sizeLine; decide), fun p104 np105 => ?_⟩
    have ne106 := ow101.ne np105
    have nb107 := hB102.nb np105
    have sm108 := same_new (o := (.tup [(V.int y_want.a), v25, (V.ref q94), v27])) (g100.noneF np105)
    have g109 := g100.frz (o := (.tup [(V.int y_want.a), v25, (V.ref q94), v27])) np105
    have ow110 := ow101.frz (o := (.tup [(V.int y_want.a), v25, (V.ref q94), v27])) np105
    have hB111 := hB102.frz (o := (.tup [(V.int y_want.a), v25, (V.ref q94), v27])) np105
    have r112 : R K (upd (upd F63 q94 (.tup ((ssort ((VT.mk ((y_want.c).l ++ ((VT.mk [(T1.mk r12).a] : (VT Int))).l) : (VT Int))).l).map V.int))) p104 (.tup [(V.int y_want.a), v25, (V.ref q94), v27])) (.ref p104) ((T4.mk y_want.a y_want.b (VT.mk (ssort ((VT.mk ((y_want.c).l ++ ((VT.mk [(T1.mk r12).a] : (VT Int))).l) : (VT Int))).l)) y_want.e) : (T4 Int (VT Int) (VT Int) (Option Int))) := R.mk4 fzT (Rp.int y_want.a) (r29.up (Same.trans g17.ff (Same.trans sm35 (Same.trans g65.ff (Same.trans sm99 sm108))))) (r103.up sm108) (r31.up (Same.trans g17.ff (Same.trans sm35 (Same.trans g65.ff (Same.trans sm99 sm108)))))
    obtain ⟨r113, hb114, hm⟩ := bnd hm
    refine ⟨(upd (upd F63 q94 (.tup ((ssort ((VT.mk ((y_want.c).l ++ ((VT.mk [(T1.mk r12).a] : (VT Int))).l) : (VT Int))).l).map V.int))) p104 (.tup [(V.int y_want.a), v25, (V.ref q94), v27])), v_y_town, y_town, p_y_torn, ws_y_torn, y_torn, y_gate, (V.ref p104), (T4.mk y_want.a y_want.b (VT.mk (ssort ((VT.mk ((y_want.c).l ++ ((VT.mk [(T1.mk r12).a] : (VT Int))).l) : (VT Int))).l)) y_want.e), r113, rfl, g109.fh, (r_y_town.up (Same.trans g17.ff (Same.trans sm35 (Same.trans g65.ff (Same.trans sm99 sm108))))), (nm_y_torn _ _ g109), hl_y_torn, (hA_y_torn.up (Same.trans g17.ff (Same.trans sm35 (Same.trans g65.ff (Same.trans sm99 sm108))))), id, r112, hb114, fun v118 F115 H116 g117 r119 => ?_⟩
    have g120 := Gr.trans g109 (Gr.of0 g117)
    have ow121 := ow110.gr0 g117
    have hB122 := hB111.gr0 g117
    refine p_name ?_
    refine p_nx ?_
    refine p_seq ?_
    refine p_if ?_
    obtain ⟨p123, v126, v127, ev124, hS125, r128, r129⟩ := R.p2_v r_y_told
    obtain ⟨rfl, gs130⟩ := R.str_v r128
    refine ⟨v_y_told, rfl, p123, _, _, (V.str y_told.1), ev124, rfl, (SqT_mono g120.fh (SqT_mono (Same.trans g17.ff (Same.trans sm35 (Same.trans g65.ff (Same.trans sm99 (Same.trans sm108 g117.ff))))) hS125)), rfl, rfl, _, rfl, ?_⟩
    obtain ⟨c131, hc132, hm⟩ := bnd hm
    refine andJT (M := M0) (F := F115) (c := c131) (P := fun _ _ => True) (fun ha => ?_) (fun ha => ⟨(sjoin (ifF ha hc132)).symm, trivial⟩) g120.fh ?_
    · intro Q134 q135
      have hc132 := ifT ha hc132
      obtain ⟨t136, hb137, hc132⟩ := bnd hc132
      have r138 := getL_ok hb137 (r129.up (Same.trans g17.ff (Same.trans sm35 (Same.trans g65.ff (Same.trans sm99 (Same.trans sm108 g117.ff))))))
      obtain ⟨p139, ws140, ev141, hS142, hl143, hA144⟩ := R.lst_v r138
      obtain rfl := sjoin hc132
      refine ⟨(V.int r12), rfl, v_y_told, rfl, p123, _, _, v127, ev124, rfl, (SqT_mono g120.fh (SqT_mono (Same.trans g17.ff (Same.trans sm35 (Same.trans g65.ff (Same.trans sm99 (Same.trans sm108 g117.ff))))) hS125)), rfl, _, p139, _, rfl, (by rw [ev141]), (.inl (by rw [← RL.ints hA144]; exact (Same.seq g120.fh hS142))), _, rfl, (q135 _ _ (Gr.refl (M := M0) g120.fh) trivial)⟩
    intro F145 H146 g147 hB148
    have g149 := Gr.trans g120 (Gr.of0 g147)
    have ow150 := ow121.gr0 g147
    have hB151 := hB122.gr0 g147
    refine (iteB (fun hc => ?_) (fun hc => ?_))
    · have hm := ifT hc hm
      refine p_ret ?_
      have rH152 : R K H146 v118 r113 := (Rp.up (r119.up g147.ff) g149.fh)
      have rH153 : R K H146 v_y_told y_told := (Rp.up (r_y_told.up (Same.trans g17.ff (Same.trans sm35 (Same.trans g65.ff (Same.trans sm99 (Same.trans sm108 (Same.trans g117.ff g147.ff))))))) g149.fh)
      obtain ⟨rfl, rfl⟩ := pjoin hm
      refine ⟨v118, rfl, v_y_told, rfl, _, _, (Rp.dp _ _ rH152), (Rp.dp _ _ rH153), (R.shaped rH152), (R.shaped rH153), (hQ _ _ g149 hB151)⟩
    · have hm := ifF hc hm
      refine p_next ?_
      refine p_nx ?_
      refine p_seq ?_
      refine p_if ?_
      refine ⟨v_y_told, rfl, p123, _, _, (V.str y_told.1), ev124, rfl, (SqT_mono g149.fh (SqT_mono (Same.trans g17.ff (Same.trans sm35 (Same.trans g65.ff (Same.trans sm99 (Same.trans sm108 (Same.trans g117.ff g147.ff)))))) hS125)), rfl, rfl, _, rfl, (iteB (fun hc => ?_) (fun hc => ?_))⟩
      · have hm := ifT hc hm
        refine p_ret ?_
        obtain ⟨p154, v157, v158, ev155, hS156, r159, r160⟩ := R.p2_v r119
        obtain ⟨rfl, gs161⟩ := R.str_v r159
        refine ⟨v118, rfl, p154, _, _, (V.str r113.1), ev155, rfl, (SqT_mono g149.fh (SqT_mono g147.ff hS156)), rfl, rfl, _, rfl, ?_⟩
        obtain ⟨c162, hc163, hm⟩ := bnd hm
        refine orJV (M := M0) (F := F145) (c := c162) (P := fun _ _ => True) (fun ha => ?_) (fun ha => ⟨(sjoin (ifT ha hc163)).symm, trivial⟩) g149.fh ?_
        · intro Q165 q166
          have hc163 := ifF ha hc163
          obtain ⟨t167, hb168, hc163⟩ := bnd hc163
          have r169 := getL_ok hb168 (r160.up g147.ff)
          obtain ⟨p170, ws171, ev172, hS173, hl174, hA175⟩ := R.lst_v r169
          obtain ⟨t176, hb177, hc163⟩ := bnd hc163
          have r178 := getL_ok hb177 (r160.up g147.ff)
          refine ⟨v118, rfl, p154, _, _, v158, ev155, rfl, (SqT_mono g149.fh (SqT_mono g147.ff hS156)), rfl, p170, ws171, _, (by rw [ev172]), (.inl (Same.seq g149.fh hS173)), (RL.len hA175), v118, rfl, p154, _, _, v158, ev155, rfl, (SqT_mono g149.fh (SqT_mono g147.ff hS156)), rfl, (by show 2 ≤ sizeLine; decide), fun p179 np180 => ?_⟩
          have ne181 := ow150.ne np180
          have nb182 := hB151.nb np180
          have sm183 := same_new (o := (.tup [(V.int (((t167).length : Nat) : Int)), v158])) (g149.noneF np180)
          have g184 := g149.frz (o := (.tup [(V.int (((t167).length : Nat) : Int)), v158])) np180
          have g185 := (Gr.refl (M := M0) g149.fh).frz (o := (.tup [(V.int (((t167).length : Nat) : Int)), v158])) np180
          have ow186 := ow150.frz (o := (.tup [(V.int (((t167).length : Nat) : Int)), v158])) np180
          have hB187 := hB151.frz (o := (.tup [(V.int (((t167).length : Nat) : Int)), v158])) np180
          have r188 : R K (upd F145 p179 (.tup [(V.int (((t167).length : Nat) : Int)), v158])) (.ref p179) (((((t167).length : Nat) : Int), t176) : (Int × (List Int))) := R.mk2 fzT (Rp.int (((t167).length : Nat) : Int)) (r178.up sm183)
          obtain ⟨t189, hb190, hc163⟩ := bnd hc163
          have r191 := getL_ok hb190 (r129.up (Same.trans g17.ff (Same.trans sm35 (Same.trans g65.ff (Same.trans sm99 (Same.trans sm108 (Same.trans g117.ff (Same.trans g147.ff sm183))))))))
          obtain ⟨p192, ws193, ev194, hS195, hl196, hA197⟩ := R.lst_v r191
          obtain ⟨t198, hb199, hc163⟩ := bnd hc163
          have r200 := getL_ok hb199 (r129.up (Same.trans g17.ff (Same.trans sm35 (Same.trans g65.ff (Same.trans sm99 (Same.trans sm108 (Same.trans g117.ff (Same.trans g147.ff sm183))))))))
          refine ⟨v_y_told, rfl, p123, _, _, v127, ev124, rfl, (SqT_mono g184.fh (SqT_mono (Same.trans g17.ff (Same.trans sm35 (Same.trans g65.ff (Same.trans sm99 (Same.trans sm108 (Same.trans g117.ff (Same.trans g147.ff sm183))))))) hS125)), rfl, p192, ws193, _, (by rw [ev194]), (.inl (Same.seq g184.fh hS195)), (RL.len hA197), v_y_told, rfl, p123, _, _, v127, ev124, rfl, (SqT_mono g184.fh (SqT_mono (Same.trans g17.ff (Same.trans sm35 (Same.trans g65.ff (Same.trans sm99 (Same.trans sm108 (Same.trans g117.ff (Same.trans g147.ff sm183))))))) hS125)), rfl, (by show 2 ≤ sizeLine; decide), fun p201 np202 => ?_⟩
          have ne203 := ow186.ne np202
          have nb204 := hB187.nb np202
          have sm205 := same_new (o := (.tup [(V.int (((t189).length : Nat) : Int)), v127])) (g184.noneF np202)
          have g206 := g184.frz (o := (.tup [(V.int (((t189).length : Nat) : Int)), v127])) np202
          have g207 := g185.frz (o := (.tup [(V.int (((t189).length : Nat) : Int)), v127])) np202
          have ow208 := ow186.frz (o := (.tup [(V.int (((t189).length : Nat) : Int)), v127])) np202
          have hB209 := hB187.frz (o := (.tup [(V.int (((t189).length : Nat) : Int)), v127])) np202
          have r210 : R K (upd (upd F145 p179 (.tup [(V.int (((t167).length : Nat) : Int)), v158])) p201 (.tup [(V.int (((t189).length : Nat) : Int)), v127])) (.ref p201) (((((t189).length : Nat) : Int), t198) : (Int × (List Int))) := R.mk2 fzT (Rp.int (((t189).length : Nat) : Int)) (r200.up sm205)
          have rH211 : R K (upd (upd H146 p179 (.tup [(V.int (((t167).length : Nat) : Int)), v158])) p201 (.tup [(V.int (((t189).length : Nat) : Int)), v127])) (V.ref p179) ((((t167).length : Nat) : Int), t176) := (Rp.up (r188.up sm205) g206.fh)
          have rH212 : R K (upd (upd H146 p179 (.tup [(V.int (((t167).length : Nat) : Int)), v158])) p201 (.tup [(V.int (((t189).length : Nat) : Int)), v127])) (V.ref p201) ((((t189).length : Nat) : Int), t198) := (Rp.up r210 g206.fh)
          obtain rfl := sjoin hc163
          refine ⟨_, _, rH211, rH212, (q166 _ _ g207 trivial)⟩
        intro F213 H214 g215 hB216
        have g217 := Gr.trans g149 (Gr.of0 g215)
        have ow218 := ow150.gr0 g215
        have hB219 := hB151.gr0 g215
        obtain ⟨rfl, rfl⟩ := pjoin hm
        exact (hQ _ _ g217 hB219)
      · have hm := ifF hc hm
        refine p_next ?_
        refine p_nx ?_
        refine p_seq ?_
        refine p_asg ?_
        obtain ⟨t220, hb221, hm⟩ := bnd hm
        have r222 := getR_ok hb221 (r129.up (Same.trans g17.ff (Same.trans sm35 (Same.trans g65.ff (Same.trans sm99 (Same.trans sm108 (Same.trans g117.ff g147.ff)))))))
        obtain ⟨p223, ws224, ev225, hS226, hl227, hA228⟩ := R.lst_v r222
        refine ⟨v_y_told, rfl, p123, _, _, v127, ev124, rfl, (SqT_mono g149.fh (SqT_mono (Same.trans g17.ff (Same.trans sm35 (Same.trans g65.ff (Same.trans sm99 (Same.trans sm108 (Same.trans g117.ff g147.ff)))))) hS125)), rfl, p223, ev225, ⟨_, (Same.seq g149.fh hS226)⟩, fun D229 nD230 => ?_⟩
        have ne231 := ow150.ne nD230
        have nb232 := hB151.nb nD230
        have g233 := g149.own (o := (.lst [])) nD230
        have ow234 := ow150.own (o := (.lst [])) nD230
        have hB235 := hB151.own (o := (.lst [])) nD230
        have ow236 : Ow H0 F145 (upd H146 D229 (.lst [])) D229 [] := Ow.new g149 nD230
        refine lc_list (K := K) (a := p223) (xs := ws224) (fun i H' => ∃ (F' : Hp) (acc : List V) (ds : List ((Int × Int) × Int)), Gr (Bc B C) F0 H0 F' H' ∧ Same F145 F' ∧ Ow H0 F' H' D229 acc ∧ RL K F' acc ds ∧ acc.length ≤ i ∧ Ow H0 F' H' p86 ((ssort ((VT.mk ((y_want.c).l ++ ((VT.mk [(T1.mk r12).a] : (VT Int))).l) : (VT Int))).l).map V.int) ∧ BagAt F' H' B C b13 ∧ ds ++ m_l_past_right_c1  (t220.drop i) = (m_l_past_right_c1  t220)) ?_ ?_ ?_ ?_
        · exact ⟨F145, [], [], g233, Same.refl _, ow236, RpA.nil, Nat.le_refl _, ow234, hB235, rfl⟩
        · intro i H' _ hP
          obtain ⟨F238, acc239, ds240, g0241, sm242, owD243, hA244, hi245, ow0246, hB247, hr248⟩ := hP
          exact (Same.seq g0241.fh (Same.seq sm242 hS226))
        · intro i250 xv249 H252 hx251 hP
          obtain ⟨F253, acc254, ds255, g0256, sm257, owD258, hA259, hi260, ow0261, hB262, hr263⟩ := hP
          obtain ⟨e264, he265, r266⟩ := RL.get (hA228.up sm257) hx251
          rw [drop_at he265, m_l_past_right_c1.eq_2] at hr263
          refine ⟨rfl, (p_yes ?_)⟩
          obtain ⟨p267, v270, v271, v272, ev268, hS269, r273, r274, r275⟩ := R.p3_v r266
          obtain rfl := R.int_v r273
          obtain rfl := R.int_v r274
          obtain rfl := R.int_v r275
          have r276 : R K F253 xv249 (VT.mk [e264.a, e264.b, e264.c] : (VT Int)) := r266
          obtain ⟨p277, ws278, ev279, hs283, hl281, hA282⟩ := R.vt_s r276
          have hS280 : SqT K _ p277 ws278 := .inl (.inl hs283)
          refine ⟨xv249, rfl, _, rfl, F253, p277, ws278, ev279, hs283, g0256.fh, fun q284 F285 H286 g287 hs288 => ?_⟩
          have hA289 := RL.cut none (some (2 : Int)) hA282
          have g290 := Gr.trans g0256 (Gr.of0 g287)
          have ow291 := ow0261.gr0 g287
          have ow292 := owD258.gr0 g287
          have hB293 := hB262.gr0 g287
          have r294 : R K F285 (.ref q284) ((VT.mk (cutL ((VT.mk [e264.a, e264.b, e264.c] : (VT Int))).l none (some (2 : Int)))) : (VT Int)) := R.mkvt hs288 (Nat.le_trans (cutV_length _ _ _) hl281) (RpA.up hA289 g287.ff)
          have r295 : R K F285 (.ref q284) ((e264.a, e264.b) : (Int × Int)) := r294
          refine ⟨xv249, rfl, p267, _, _, (V.int e264.c), ev268, rfl, (SqT_mono g290.fh (SqT_mono g287.ff hS269)), rfl, (by show 2 ≤ sizeLine; decide), fun p296 np297 => ?_⟩
          have ne298 := ow291.ne np297
          have ne299 := ow292.ne np297
          have nb300 := hB293.nb np297
          have sm301 := same_new (o := (.tup [(V.ref q284), (V.int e264.c)])) (g290.noneF np297)
          have g302 := g290.frz (o := (.tup [(V.ref q284), (V.int e264.c)])) np297
          have ow303 := ow291.frz (o := (.tup [(V.ref q284), (V.int e264.c)])) np297
          have ow304 := ow292.frz (o := (.tup [(V.ref q284), (V.int e264.c)])) np297
          have hB305 := hB293.frz (o := (.tup [(V.ref q284), (V.int e264.c)])) np297
          have r306 : R K (upd F285 p296 (.tup [(V.ref q284), (V.int e264.c)])) (.ref p296) (((e264.a, e264.b), e264.c) : ((Int × Int) × Int)) := R.mk2 fzT (r295.up sm301) (Rp.int e264.c)
          have hA307 : RL K (upd F285 p296 (.tup [(V.ref q284), (V.int e264.c)])) (acc254 ++ [(V.ref p296)]) (ds255 ++ [(((e264.a, e264.b), e264.c) : ((Int × Int) × Int))]) := RL.snoc (hA259.up (Same.trans g287.ff sm301)) r306
          refine ⟨acc254, ow304.h, (lt_line hi260 (List.getElem?_eq_some_iff.mp hx251).1 hl227), ?_⟩
          have g308 := g302.put (o := (.lst (acc254 ++ [(V.ref p296)]))) ow304
          have ow309 := ow303.other (o := (.lst (acc254 ++ [(V.ref p296)]))) ne231
          have hB310 := hB305.other (o := (.lst (acc254 ++ [(V.ref p296)]))) nb232
          have ow311 := ow304.put (us := (acc254 ++ [(V.ref p296)]))
          exact ⟨(upd F285 p296 (.tup [(V.ref q284), (V.int e264.c)])), (acc254 ++ [(V.ref p296)]), (ds255 ++ [((e264.a, e264.b), e264.c)]), g308, (Same.trans sm257 (Same.trans g287.ff sm301)), ow311, hA307, (by rw [List.length_append]; exact Nat.succ_le_succ hi260), ow309, hB310, (snoc_rest hr263)⟩
        intro H312 hP
        obtain ⟨F313, acc314, ds315, g0317, sm318, owD319, hA320, hi321, ow0322, hB323, hr324⟩ := hP
        rw [drop_end (RL.len hA228)] at hr324
        rw [m_l_past_right_c1.eq_1, List.append_nil] at hr324
        obtain rfl := hr324
        have hl325 : acc314.length ≤ sizeLine := Nat.le_trans hi321 hl227
        have hA326 : RL K F313 acc314 (m_l_past_right_c1  t220) := hA320
        have hl327 : acc314.length ≤ sizeLine := hl325
        refine ⟨D229, acc314, (m_l_past_right_c1  t220), rfl, owD319.sq, (RpA.up hA326 g0317.fh), fun p328 kv329 np330 ln331 rd332 => ?_⟩
        have hA333 : RD (α := (Int × Int)) (β := Int) K F313 kv329 (dputAll ([] : (List ((Int × Int) × Int))) (m_l_past_right_c1  t220)) := rd332 _ g0317.fh hA326
        have ne334 := ow0322.ne np330
        have ne335 := owD319.ne np330
        have nb336 := hB323.nb np330
        have g337 := g0317.own (o := (.dT kv329)) np330
        have ow338 := ow0322.own (o := (.dT kv329)) np330
        have ow339 := owD319.own (o := (.dT kv329)) np330
        have hB340 := hB323.own (o := (.dT kv329)) np330
        have ow341 : Od H0 F313 (upd H312 p328 (.dT kv329)) p328 (.dT kv329) := Od.new g0317 np330 (fun _ z => nomatch z)
        have hl342 : kv329.length ≤ sizeLine := Nat.le_trans ln331 (by rw [← RL.len hA326]; exact hl327)
        obtain ⟨y_known343, hb344, hm⟩ := bnd hm
        have hx345 : (dputAll ([] : (List ((Int × Int) × Int))) (m_l_past_right_c1  t220)) = y_known343 := sjoin hb344
        have hA346 : RD (α := (Int × Int)) (β := Int) K F313 kv329 y_known343 := RD.re hx345 hA333
        refine p_name ?_
        refine p_nx ?_
        refine p_ret ?_
        obtain ⟨p347, v350, v351, ev348, hS349, r352, r353⟩ := R.p2_v r119
        obtain ⟨rfl, gs354⟩ := R.str_v r352
        refine ⟨v118, rfl, p347, _, _, (V.str r113.1), ev348, rfl, (SqT_mono g337.fh (SqT_mono (Same.trans g147.ff sm318) hS349)), rfl, rfl, _, rfl, ?_⟩
        obtain ⟨c355, hc356, hm⟩ := bnd hm
        refine andJV (M := M0) (F := F313) (c := c355) (P := fun _ _ => True) (fun ha => ?_) (fun ha => ⟨(sjoin (ifF ha hc356)).symm, trivial⟩) g337.fh ?_
        · intro Q358 q359
          have hc356 := ifT ha hc356
          obtain ⟨t360, hb361, hc356⟩ := bnd hc356
          have r362 := getR_ok hb361 (r353.up (Same.trans g147.ff sm318))
          obtain ⟨p363, ws364, ev365, hS366, hl367, hA368⟩ := R.lst_v r362
          refine ⟨v118, rfl, p347, _, _, v351, ev348, rfl, (SqT_mono g337.fh (SqT_mono (Same.trans g147.ff sm318) hS349)), rfl, p363, ev365, ⟨_, (Same.seq g337.fh hS366)⟩, fun D369 nD370 => ?_⟩
          have ne371 := ow338.ne nD370
          have ne372 := ow339.ne nD370
          have ne373 := ow341.ne nD370
          have nb374 := hB340.nb nD370
          have g375 := g337.own (o := (.lst [])) nD370
          have g376 := (Gr.refl (M := M0) g337.fh).own (o := (.lst [])) nD370
          have ow377 := ow338.own (o := (.lst [])) nD370
          have ow378 := ow339.own (o := (.lst [])) nD370
          have ow379 := ow341.own (o := (.lst [])) nD370
          have hB380 := hB340.own (o := (.lst [])) nD370
          have ow381 : Ow H0 F313 (upd (upd H312 p328 (.dT kv329)) D369 (.lst [])) D369 [] := Ow.new g337 nD370
          refine lc_list (K := K) (a := p363) (xs := ws364) (fun i H' => ∃ (F' : Hp) (acc : List V) (ds : List (T3 Int Int Int)), Gr (Bc B C) F0 H0 F' H' ∧ Gr M0 F313 (upd H312 p328 (.dT kv329)) F' H' ∧ Same F313 F' ∧ Ow H0 F' H' D369 acc ∧ RL K F' acc ds ∧ acc.length ≤ i ∧ Ow H0 F' H' p86 ((ssort ((VT.mk ((y_want.c).l ++ ((VT.mk [(T1.mk r12).a] : (VT Int))).l) : (VT Int))).l).map V.int) ∧ Ow H0 F' H' D229 acc314 ∧ Od H0 F' H' p328 (.dT kv329) ∧ BagAt F' H' B C b13 ∧ ds ++ m_l_past_right_c2 y_known343 (t360.drop i) = (m_l_past_right_c2 y_known343 t360)) ?_ ?_ ?_ ?_
          · exact ⟨F313, [], [], g375, g376, Same.refl _, ow381, RpA.nil, Nat.le_refl _, ow377, ow378, ow379, hB380, rfl⟩
          · intro i H' _ hP
            obtain ⟨F383, acc384, ds385, g0386, g1387, sm388, owD389, hA390, hi391, ow0392, ow1393, ow2394, hB395, hr396⟩ := hP
            exact (Same.seq g0386.fh (Same.seq sm388 hS366))
          · intro i398 xv397 H400 hx399 hP
            obtain ⟨F401, acc402, ds403, g0404, g1405, sm406, owD407, hA408, hi409, ow0410, ow1411, ow2412, hB413, hr414⟩ := hP
            obtain ⟨e415, he416, r417⟩ := RL.get (hA368.up sm406) hx399
            rw [drop_at he416, m_l_past_right_c2.eq_2] at hr414
            obtain ⟨p418, v421, v422, v423, ev419, hS420, r424, r425, r426⟩ := R.p3_v r417
            obtain rfl := R.int_v r424
            obtain rfl := R.int_v r425
            obtain rfl := R.int_v r426
            have r427 : R K F401 xv397 (VT.mk [e415.a, e415.b, e415.c] : (VT Int)) := r417
            obtain ⟨p428, ws429, ev430, hs434, hl432, hA433⟩ := R.vt_s r427
            have hS431 : SqT K _ p428 ws429 := .inl (.inl hs434)
            refine ⟨rfl, (V.ref p328), rfl, p328, rfl, (DK.isD (α := (Int × Int)) (.inl ow2412.h)), xv397, rfl, _, rfl, F401, p428, ws429, ev430, hs434, g0404.fh, fun q435 F436 H437 g438 hs439 => ?_⟩
            have hA440 := RL.cut none (some (2 : Int)) hA433
            have g441 := Gr.trans g0404 (Gr.of0 g438)
            have g442 := Gr.trans g1405 g438
            have ow443 := ow0410.gr0 g438
            have ow444 := ow1411.gr0 g438
            have ow445 := ow2412.gr0 g438
            have ow446 := owD407.gr0 g438
            have hB447 := hB413.gr0 g438
            have r448 : R K F436 (.ref q435) ((VT.mk (cutL ((VT.mk [e415.a, e415.b, e415.c] : (VT Int))).l none (some (2 : Int)))) : (VT Int)) := R.mkvt hs439 (Nat.le_trans (cutV_length _ _ _) hl432) (RpA.up hA440 g438.ff)
            have r449 : R K F436 (.ref q435) ((e415.a, e415.b) : (Int × Int)) := r448
            have hg450 := (DK.get (α := (Int × Int)) (.inl ow445.h) r449 g441.fh)
            have r451 : R K F436 _ (((dval y_known343 (e415.a, e415.b)).getD (100 : Int)) : Int) := RD.getD (hA346.up (Same.trans sm406 g438.ff)) (e415.a, e415.b) (Rp.int (100 : Int))
            obtain ⟨v452, hv453⟩ : ∃ z_, (valV kv329 (DK.k ((e415.a, e415.b) : (Int × Int)))).getD (V.int (100 : Int)) = z_ := ⟨_, rfl⟩
            rw [hv453] at r451
            obtain rfl := R.int_v r451
            refine ⟨_, (V.int ((dval y_known343 (e415.a, e415.b)).getD (100 : Int))), hg450, hv453, xv397, rfl, p418, _, _, (V.int e415.c), ev419, rfl, (SqT_mono g441.fh (SqT_mono g438.ff hS420)), rfl, _, _, rfl, rfl, _, rfl, (iteB (fun hc => ?_) (fun hc => ?_))⟩
            · have hc : (decide (e415.c < ((dval y_known343 (e415.a, e415.b)).getD (100 : Int)))) = true := hc
              rw [if_pos hc] at hr414
              have hA454 : RL K F436 (acc402 ++ [xv397]) (ds403 ++ [(e415 : (T3 Int Int Int))]) := RL.snoc (hA408.up g438.ff) (r417.up g438.ff)
              refine ⟨xv397, rfl, acc402, ow446.h, (lt_line hi409 (List.getElem?_eq_some_iff.mp hx399).1 hl367), ?_⟩
              have g455 := g441.put (o := (.lst (acc402 ++ [xv397]))) ow446
              have g456 := Gr.mut (o := (.lst (acc402 ++ [xv397]))) g442 ow446.nF (.inl (Gr.none0 (Gr.refl (M := M0) g337.fh) nD370))
              have ow457 := ow443.other (o := (.lst (acc402 ++ [xv397]))) ne371
              have ow458 := ow444.other (o := (.lst (acc402 ++ [xv397]))) ne372
              have ow459 := ow445.other (o := (.lst (acc402 ++ [xv397]))) ne373
              have hB460 := hB447.other (o := (.lst (acc402 ++ [xv397]))) nb374
              have ow461 := ow446.put (us := (acc402 ++ [xv397]))
              exact ⟨F436, (acc402 ++ [xv397]), (ds403 ++ [e415]), g455, g456, (Same.trans sm406 g438.ff), ow461, hA454, (by rw [List.length_append]; exact Nat.succ_le_succ hi409), ow457, ow458, ow459, hB460, (snoc_rest hr414)⟩
            · have hc : (decide (e415.c < ((dval y_known343 (e415.a, e415.b)).getD (100 : Int)))) = false := hc
              rw [if_neg (ne_true_of_eq_false hc)] at hr414
              exact ⟨F436, acc402, ds403, g441, g442, (Same.trans sm406 g438.ff), ow446, (hA408.up g438.ff), (Nat.le_succ_of_le hi409), ow443, ow444, ow445, hB447, hr414⟩
          intro H462 hP
          obtain ⟨F463, acc464, ds465, g0467, g1468, sm469, owD470, hA471, hi472, ow0473, ow1474, ow2475, hB476, hr477⟩ := hP
          rw [drop_end (RL.len hA368)] at hr477
          rw [m_l_past_right_c2.eq_1, List.append_nil] at hr477
          obtain rfl := hr477
          have hl478 : acc464.length ≤ sizeLine := Nat.le_trans hi472 hl367
          refine ⟨(by show 0 ≤ sizeLine; decide), fun p479 np480 => ?_⟩
          have ne481 := ow0473.ne np480
          have ne482 := ow1474.ne np480
          have ne483 := ow2475.ne np480
          have ne484 := owD470.ne np480
          have nb485 := hB476.nb np480
          have g486 := g0467.own (o := (.lst [])) np480
          have g487 := g1468.own (o := (.lst [])) np480
          have ow488 := ow0473.own (o := (.lst [])) np480
          have ow489 := ow1474.own (o := (.lst [])) np480
          have ow490 := ow2475.own (o := (.lst [])) np480
          have ow491 := owD470.own (o := (.lst [])) np480
          have hB492 := hB476.own (o := (.lst [])) np480
          have ow493 : Ow H0 F463 (upd H462 p479 (.lst [])) p479 [] := Ow.new g0467 np480
          have rH495 : R K (upd H462 p479 (.lst [])) (V.ref D369) (m_l_past_right_c2 y_known343 t360) := (R.mkl ow491.sq hl478 (RpA.up hA471 g486.fh))
          have rH496 : R K (upd H462 p479 (.lst [])) (V.ref p479) ([] : (List (T3 Int Int Int))) := (R.mkl ow493.sq (by show 0 ≤ sizeLine; decide) (RpA.up RpA.nil g486.fh))
          obtain rfl := sjoin hc356
          refine ⟨_, _, (Rp.dp _ _ rH495), (Rp.dp _ _ rH496), (R.shaped rH495), (R.shaped rH496), (q359 _ _ g487 trivial)⟩
        intro F497 H498 g499 hB500
        have g501 := Gr.trans g337 (Gr.of0 g499)
        have ow502 := ow338.gr0 g499
        have ow503 := ow339.gr0 g499
        have ow504 := ow341.gr0 g499
        have hB505 := hB340.gr0 g499
        obtain ⟨rfl, rfl⟩ := pjoin hm
        exact (hQ _ _ g501 hB505)
end K28
namespace K28
open PySem PySem.Spec PyProof.Rows L2 TL G
theorem ok_law {P : Program} {w : World} {K : PySem.W.Frag} {mg : Str → Option Value} {base : Heap} (T : Txt K mg) (hlaw : ∀ b : Bag, BOk b → ∃ b', m_law b = some (true, b')) : FnOk P w K mg base CX0 6 T.a_law T.d_law ["_law_script"] (sp_law K) := by
  have G_l_bag : FnOk P w K mg base CX0 1 T.a_l_bag T.d_l_bag ["_law_script"] (sp_l_bag K) := ok_l_bag T
  have b_l_bag := T.F_l_bag.bindsN (ps := ["_law_script"]) fun _ _ _ _ _ _ us hl => match us, hl with | [_], _ => rfl
  have G_l_town_drawn : FnOk P w K mg base CX0 3 T.a_l_town_drawn T.d_l_town_drawn ["_law_bag_here"] (sp_l_town_drawn K) := ok_l_town_drawn T
  have b_l_town_drawn := T.F_l_town_drawn.bindsN (ps := ["_law_bag_here"]) fun _ _ _ _ _ _ us hl => match us, hl with | [_], _ => rfl
  have G_l_torn_drawn : FnOk P w K mg base CX0 3 T.a_l_torn_drawn T.d_l_torn_drawn ["_law_bag_here", "_law_town"] (sp_l_torn_drawn K) := ok_l_torn_drawn T
  have b_l_torn_drawn := T.F_l_torn_drawn.bindsN (ps := ["_law_bag_here", "_law_town"]) fun _ _ _ _ _ _ us hl => match us, hl with | [_, _], _ => rfl
  have G_l_draw : FnOk P w K mg base CX0 2 T.a_l_draw T.d_l_draw ["_law_bag_here", "_law_many"] (sp_l_draw K) := ok_l_draw T
  have b_l_draw := T.F_l_draw.bindsN (ps := ["_law_bag_here", "_law_many"]) fun _ _ _ _ _ _ us hl => match us, hl with | [_, _], _ => rfl
  have G_l_want_drawn : FnOk P w K mg base CX0 3 T.a_l_want_drawn T.d_l_want_drawn ["_law_bag_here", "_law_town"] (sp_l_want_drawn K) := ok_l_want_drawn T
  have b_l_want_drawn := T.F_l_want_drawn.bindsN (ps := ["_law_bag_here", "_law_town"]) fun _ _ _ _ _ _ us hl => match us, hl with | [_, _], _ => rfl
  have G_way : FnOk P w K mg base CX0 4 T.a_way T.d_way ["net", "broken", "door", "order"] (sp_way K) := ok_way T
  have b_way := T.F_way.bindsN (ps := ["net", "broken", "door", "order"]) fun _ _ _ _ _ _ us hl => match us, hl with | [_, _, _, _], _ => rfl
  have G_l_fewer_right : FnOk P w K mg base CX0 5 T.a_l_fewer_right T.d_l_fewer_right ["_law_bag_here", "_law_town", "_law_torn", "_law_gate", "_law_want", "_law_told"] (sp_l_fewer_right K) := ok_l_fewer_right T
  have b_l_fewer_right := T.F_l_fewer_right.bindsN (ps := ["_law_bag_here", "_law_town", "_law_torn", "_law_gate", "_law_want", "_law_told"]) fun _ _ _ _ _ _ us hl => match us, hl with | [_, _, _, _, _, _], _ => rfl
  have G_l_past_right : FnOk P w K mg base CX0 5 T.a_l_past_right T.d_l_past_right ["_law_bag_here", "_law_town", "_law_torn", "_law_gate", "_law_want", "_law_told"] (sp_l_past_right K) := ok_l_past_right T
  have b_l_past_right := T.F_l_past_right.bindsN (ps := ["_law_bag_here", "_law_town", "_law_torn", "_law_gate", "_law_want", "_law_told"]) fun _ _ _ _ _ _ us hl => match us, hl with | [_, _, _, _, _, _], _ => rfl
  refine fd_ok T.F_law sc_law (fun vs H Q E h => ?_) (fun cdv A outer s H0 vs Q E hr h => ?_)
  · obtain ⟨_, _, rfl, _⟩ := h
    rfl
  · obtain ⟨a_, ns_, rfl, hS_, hl_, hQ_⟩ := h
    refine ⟨_, (pss_cons (ps_set (i := 1) sc_law.nd rfl (.inl rfl) (pe_call G_l_bag (hr.mono (by decide)) (by rfl) T.g_l_bag T.F_l_bag.kp b_l_bag .nil pass0 (pa_cons (pv 0) pa_nil))) (pss_cons (ps_for PassesOwn.never rfl (pi_range1 (by rfl) T.n_range (pa_cons pe_int pa_nil)) (pg_name (i := 2) sc_law.nd rfl (Or.inl rfl)) (pss_cons (ps_set (i := 3) sc_law.nd rfl (.inl rfl) (pe_call G_l_town_drawn (hr.mono (by decide)) (by rfl) T.g_l_town_drawn T.F_l_town_drawn.kp b_l_town_drawn .nil pass0 (pa_cons (pv 1) pa_nil))) (pss_cons (ps_set (i := 4) sc_law.nd rfl (.inl rfl) (pe_call G_l_torn_drawn (hr.mono (by decide)) (by rfl) T.g_l_torn_drawn T.F_l_torn_drawn.kp b_l_torn_drawn .nil pass0 (pa_cons (pv 1) (pa_cons (pv 3) pa_nil)))) (pss_one (ps_for PassesOwn.never rfl (pi_range1 (by rfl) T.n_range (pa_cons pe_int pa_nil)) (pg_name (i := 5) sc_law.nd rfl (Or.inl rfl)) (pss_cons (ps_set (i := 6) sc_law.nd rfl (.inl rfl) (pe_call G_l_draw (hr.mono (by decide)) (by rfl) T.g_l_draw T.F_l_draw.kp b_l_draw .nil pass0 (pa_cons (pv 1) (pa_cons (pe_callB (call_lenLK (K := K)) (by rfl) T.n_len (by decide +kernel) (pa_cons (pe_ix (ix_tupK (K := K)) (pv 3) pe_int (fun _ _ => rfl)) pa_nil)) pa_nil)))) (pss_cons (ps_set (i := 7) sc_law.nd rfl (.inl rfl) (pe_call G_l_want_drawn (hr.mono (by decide)) (by rfl) T.g_l_want_drawn T.F_l_want_drawn.kp b_l_want_drawn .nil pass0 (pa_cons (pv 1) (pa_cons (pv 3) pa_nil)))) (pss_cons (ps_set (i := 7) sc_law.nd rfl (.inl rfl) (pe_tup (pa_cons (pe_ix (ix_tupK (K := K)) (pv 7) pe_int (fun _ _ => rfl)) (pa_cons (pe_ix (ix_tupK (K := K)) (pv 7) pe_int (fun _ _ => rfl)) (pa_cons (pe_slice (sl_tupF (K := K)) (pe_ix (ix_tupK (K := K)) (pv 7) pe_int (fun _ _ => rfl)) po_none (po_some pe_int)) (pa_cons pe_non pa_nil)))))) (pss_cons (ps_set (i := 8) sc_law.nd rfl (.inl rfl) (pe_call G_way (hr.mono (by decide)) (by rfl) T.g_way T.F_way.kp b_way .nil pass0 (pa_cons (pv 3) (pa_cons (pv 4) (pa_cons (pv 6) (pa_cons (pv 7) pa_nil)))))) (pss_cons (ps_if (pt_not (pt_val (pe_call G_l_fewer_right (hr.mono (by decide)) (by rfl) T.g_l_fewer_right T.F_l_fewer_right.kp b_l_fewer_right .nil pass0 (pa_cons (pv 1) (pa_cons (pv 3) (pa_cons (pv 4) (pa_cons (pv 6) (pa_cons (pv 7) (pa_cons (pv 8) pa_nil))))))))) (pss_one (ps_ret pe_bl)) pss_nil) (pss_one (ps_if (pt_not (pt_val (pe_call G_l_past_right (hr.mono (by decide)) (by rfl) T.g_l_past_right T.F_l_past_right.kp b_l_past_right .nil pass0 (pa_cons (pv 1) (pa_cons (pv 3) (pa_cons (pv 4) (pa_cons (pv 6) (pa_cons (pv 7) (pa_cons (pv 8) pa_nil))))))))) (pss_one (ps_ret pe_bl)) pss_nil)))))))))))) (pss_one (ps_ret pe_bl)))), ?_⟩
    refine p_seq ?_
    refine p_asg ?_
    refine ⟨_, rfl, a_, ns_, rfl, hS_, hl_, fun B C b F0 H0 hS0 hB hb_ hScr_ hNm_ => ?_⟩
    refine p_name ?_
    refine p_nx ?_
    obtain ⟨b_, hm⟩ := hlaw b hb_
    have hQ : ∀ F' H', Gr (Bc B C) F0 H0 F' H' → BagAt F' H' B C b_ → Q (.bl true) H' := fun _ H' _ _ => hQ_ H'
    have g0 : Gr (Bc B C) F0 H0 F0 H0 := Gr.refl hS0
    unfold m_law at hm
    refine p_seq ?_
    refine p_for ?_
    refine ⟨_, rfl, (by decide), (by decide), ?_⟩
    obtain ⟨l2, ht3, hm⟩ := bndL1 hm
    refine for_range (lo := (0 : Int)) (n := (6 : Nat)) (fun i σ' H' => ∃ (F' : Hp) (o_y_turn : Option V) (o_y_town : Option V) (o_y_torn : Option V) (o_y_k : Option V) (o_y_gate : Option V) (o_y_want : Option V) (o_y_told : Option V) (b : Bag), σ' = [(some (V.ref a_)), (some (V.ref B)), o_y_turn, o_y_town, o_y_torn, o_y_k, o_y_gate, o_y_want, o_y_told] ∧ Gr (Bc B C) F0 H0 F' H' ∧ Same F0 F' ∧ BagAt F' H' B C b ∧ m_law_l1  ((rangeL (0 : Int) 6).drop i) b = some l2) ?_ ?_ ?_
    · exact ⟨F0, none, none, none, none, none, none, none, b, rfl, g0, (Same.refl _), hB, ht3⟩
    · intro i4 σ' H6 hx5 hP
      obtain ⟨F8, o_y_turn9, o_y_town10, o_y_torn11, o_y_k12, o_y_gate13, o_y_want14, o_y_told15, b16, rfl, g17, sm18, hB19, hm20⟩ := hP
      have he22 := rangeL_at (lo := (0 : Int)) hx5
      rw [drop_at he22, m_law_l1.eq_2] at hm20
      refine p_name ?_
      refine p_seq ?_
      refine p_asg ?_
      obtain ⟨r23, b24, hb25, hm20⟩ := bnd2 hm20
      refine ⟨(V.ref B), rfl, F8, B, C, b16, r23, b24, rfl, g17.fh, hB19, hb25, fun v30 F26 H27 g28 hB29 r31 => ?_⟩
      have g32 := Gr.trans g17 g28
      refine p_name ?_
      refine p_nx ?_
      refine p_seq ?_
      refine p_asg ?_
      obtain ⟨r33, b34, hb35, hm20⟩ := bnd2 hm20
      refine ⟨(V.ref B), rfl, v30, rfl, F26, B, C, b24, v30, r23, r33, b34, rfl, g32.fh, hB29, r31, hb35, fun p40 ws41 F36 H37 g38 hB39 np42 h43 nF44 hl45 hA46 => ?_⟩
      have nb47 := hB29.nb np42
      have n048 := g32.none0 np42
      have g49 := Gr.trans g32 g38
      have ow50 : Ow H0 F36 H37 p40 ws41 := ⟨h43, nF44, n048⟩
      refine p_name ?_
      refine p_nx ?_
      refine p_for ?_
      refine ⟨_, rfl, (by decide), (by decide), ?_⟩
      obtain ⟨l52, ht53, hm20⟩ := bndL1 hm20
      refine for_range (lo := (0 : Int)) (n := (2 : Nat)) (fun i σ' H' => ∃ (F' : Hp) (o_y_k : Option V) (o_y_gate : Option V) (o_y_want : Option V) (o_y_told : Option V) (b : Bag), σ' = [(some (V.ref a_)), (some (V.ref B)), (some (V.int ((0 : Int) + ((i4 : Nat) : Int)))), (some v30), (some (V.ref p40)), o_y_k, o_y_gate, o_y_want, o_y_told] ∧ Gr (Bc B C) F0 H0 F' H' ∧ Same F36 F' ∧ Ow H0 F' H' p40 ws41 ∧ BagAt F' H' B C b ∧ m_law_l2 r23 r33 ((rangeL (0 : Int) 2).drop i) b = some l52) ?_ ?_ ?_
      · exact ⟨F36, o_y_k12, o_y_gate13, o_y_want14, o_y_told15, b34, rfl, g49, (Same.refl _), ow50, hB39, ht53⟩
      · intro i54 σ' H56 hx55 hP
        obtain ⟨F58, o_y_k59, o_y_gate60, o_y_want61, o_y_told62, b63, rfl, g64, sm65, owk066, hB67, hm68⟩ := hP
        have he70 := rangeL_at (lo := (0 : Int)) hx55
        rw [drop_at he70, m_law_l2.eq_2] at hm68
        refine p_name ?_
        refine p_seq ?_
        refine p_asg ?_
        obtain ⟨p71, v74, v75, v76, v77, ev72, hS73, r78, r79, r80, r81⟩ := R.p4_v r31
        obtain rfl := R.int_v r78
        obtain rfl := R.int_v r79
        obtain ⟨p82, ws83, ev84, hS85, hl86, hA87⟩ := R.lst_v r81
        obtain ⟨r88, b89, hb90, hm68⟩ := bnd2 hm68
        refine ⟨(V.ref B), rfl, v30, rfl, p71, _, _, v77, ev72, rfl, (SqT_mono g64.fh (SqT_mono (Same.trans g38.ff sm65) hS73)), rfl, p82, ws83, _, (by rw [ev84]), (.inl (Same.seq g64.fh (Same.seq (Same.trans g38.ff sm65) hS85))), (RL.len (hA87.up (Same.trans g38.ff sm65))), F58, B, C, b63, (((r23.e).length : Nat) : Int), r88, b89, rfl, g64.fh, hB67, hb90, fun F91 H92 g93 hB94 => ?_⟩
        have g96 := Gr.trans g64 g93
        have ow97 := owk066.gr g93 nb47
        refine p_name ?_
        refine p_nx ?_
        refine p_seq ?_
        refine p_asg ?_
        obtain ⟨r98, b99, hb100, hm68⟩ := bnd2 hm68
        refine ⟨(V.ref B), rfl, v30, rfl, F91, B, C, b89, v30, r23, r98, b99, rfl, g96.fh, hB94, (r31.up (Same.trans g38.ff (Same.trans sm65 g93.ff))), hb100, fun v105 F101 H102 g103 hB104 r106 => ?_⟩
        have g107 := Gr.trans g96 g103
        have ow108 := ow97.gr g103 nb47
        refine p_name ?_
        refine p_nx ?_
        refine p_seq ?_
        refine p_asg ?_
        obtain ⟨p109, v112, v113, v114, v115, ev110, hS111, r116, r117, r118, r119⟩ := R.p4_v r106
        obtain rfl := R.int_v r116
        obtain ⟨p120, ws121, ev122, hs126, hl124, hA125⟩ := R.vt_s r118
        have hS123 : SqT K _ p120 ws121 := .inl (.inl hs126)
        refine ⟨v105, rfl, p109, _, _, (V.int r98.a), ev110, rfl, (SqT_mono g107.fh hS111), rfl, v105, rfl, p109, _, _, v113, ev110, rfl, (SqT_mono g107.fh hS111), rfl, v105, rfl, p109, _, _, v114, ev110, rfl, (SqT_mono g107.fh hS111), rfl, _, rfl, F101, p120, ws121, ev122, hs126, g107.fh, fun q127 F128 H129 g130 hs131 => ?_⟩
        have hA132 := RL.cut none (some (2 : Int)) hA125
        have g133 := Gr.trans g107 (Gr.of0 g130)
        have ow134 := ow108.gr0 g130
        have hB135 := hB104.gr0 g130
        have r136 : R K F128 (.ref q127) ((VT.mk (cutL (r98.c).l none (some (2 : Int)))) : (VT Int)) := R.mkvt hs131 (Nat.le_trans (cutV_length _ _ _) hl124) (RpA.up hA132 g130.ff)
        refine ⟨(by show 4 ≤ sizeLine; decide), fun p137 np138 => ?_⟩
        have ne139 := ow134.ne np138
        have nb140 := hB135.nb np138
        have sm141 := same_new (o := (.tup [(V.int r98.a), v113, (V.ref q127), V.non])) (g133.noneF np138)
        have g142 := g133.frz (o := (.tup [(V.int r98.a), v113, (V.ref q127), V.non])) np138
        have ow143 := ow134.frz (o := (.tup [(V.int r98.a), v113, (V.ref q127), V.non])) np138
        have hB144 := hB135.frz (o := (.tup [(V.int r98.a), v113, (V.ref q127), V.non])) np138
        have r145 : R K (upd F128 p137 (.tup [(V.int r98.a), v113, (V.ref q127), V.non])) (.ref p137) ((T4.mk r98.a r98.b (VT.mk (cutL (r98.c).l none (some (2 : Int)))) (none : (Option Int))) : (T4 Int (VT Int) (VT Int) (Option Int))) := R.mk4 fzT (Rp.int r98.a) (r117.up (Same.trans g130.ff sm141)) (r136.up sm141) Rp.non
        obtain ⟨y_want146, hb147, hm68⟩ := bnd hm68
        have hx148 : (T4.mk r98.a r98.b (VT.mk (cutL (r98.c).l none (some (2 : Int)))) (none : (Option Int))) = y_want146 := sjoin hb147
        have r149 : R K _ (V.ref p137) y_want146 := hx148 ▸ (r145 : R K _ (V.ref p137) (T4.mk r98.a r98.b (VT.mk (cutL (r98.c).l none (some (2 : Int)))) (none : (Option Int))))
        refine p_name ?_
        refine p_nx ?_
        refine p_seq ?_
        refine p_asg ?_
        obtain ⟨r150, hb151, hm68⟩ := bnd hm68
        refine ⟨v30, rfl, (V.ref p40), rfl, (V.int r88), rfl, (V.ref p137), rfl, (upd F128 p137 (.tup [(V.int r98.a), v113, (V.ref q127), V.non])), v30, r23, p40, ws41, r33, r88, (V.ref p137), y_want146, r150, rfl, g142.fh, (r31.up (Same.trans g38.ff (Same.trans sm65 (Same.trans g93.ff (Same.trans g103.ff (Same.trans g130.ff sm141)))))), ow143.sq, hl45, (hA46.up (Same.trans sm65 (Same.trans g93.ff (Same.trans g103.ff (Same.trans g130.ff sm141))))), id, r149, hb151, fun v155 F152 H153 g154 r156 => ?_⟩
        have g157 := Gr.trans g142 (Gr.of0 g154)
        have ow158 := ow143.gr0 g154
        have hB159 := hB144.gr0 g154
        refine p_name ?_
        refine p_nx ?_
        refine p_seq ?_
        refine p_if ?_
        obtain ⟨r160, b161, hb162, hm68⟩ := bnd2 hm68
        refine ⟨(V.ref B), rfl, v30, rfl, (V.ref p40), rfl, (V.int r88), rfl, (V.ref p137), rfl, v155, rfl, F152, B, C, b99, v30, r23, p40, ws41, r33, r88, (V.ref p137), y_want146, v155, r150, r160, b161, rfl, g157.fh, hB159, (r31.up (Same.trans g38.ff (Same.trans sm65 (Same.trans g93.ff (Same.trans g103.ff (Same.trans g130.ff (Same.trans sm141 g154.ff))))))), ow158.sq, hl45, (hA46.up (Same.trans sm65 (Same.trans g93.ff (Same.trans g103.ff (Same.trans g130.ff (Same.trans sm141 g154.ff)))))), (fun _ _ g_ => g_.seq nb47 ow158.sq), (r149.up g154.ff), r156, hb162, fun F163 H164 g165 hB166 => ?_⟩
        have g168 := Gr.trans g157 g165
        have ow169 := ow158.gr g165 nb47
        refine ⟨_, rfl, (iteB (fun hc => ?_) (fun hc => ?_))⟩
        · have hm68 := ifT hc hm68
          refine p_ret ?_
          obtain rfl := sjoin hm68
          have hm20 := bret hm20
          obtain rfl := sjoin hm20
          have hm := bret hm
          obtain ⟨he170, rfl⟩ := pjoin hm
          exact absurd he170 (by decide)
        · have hm68 := ifF hc hm68
          refine p_next ?_
          refine p_nx ?_
          refine p_if ?_
          obtain ⟨r171, b172, hb173, hm68⟩ := bnd2 hm68
          refine ⟨(V.ref B), rfl, v30, rfl, (V.ref p40), rfl, (V.int r88), rfl, (V.ref p137), rfl, v155, rfl, F163, B, C, b161, v30, r23, p40, ws41, r33, r88, (V.ref p137), y_want146, v155, r150, r171, b172, rfl, g168.fh, hB166, (r31.up (Same.trans g38.ff (Same.trans sm65 (Same.trans g93.ff (Same.trans g103.ff (Same.trans g130.ff (Same.trans sm141 (Same.trans g154.ff g165.ff)))))))), ow169.sq, hl45, (hA46.up (Same.trans sm65 (Same.trans g93.ff (Same.trans g103.ff (Same.trans g130.ff (Same.trans sm141 (Same.trans g154.ff g165.ff))))))), (fun _ _ g_ => g_.seq nb47 ow169.sq), (r149.up (Same.trans g154.ff g165.ff)), (r156.up g165.ff), hb173, fun F174 H175 g176 hB177 => ?_⟩
          have g179 := Gr.trans g168 g176
          have ow180 := ow169.gr g176 nb47
          refine ⟨_, rfl, (iteB (fun hc => ?_) (fun hc => ?_))⟩
          · have hm68 := ifT hc hm68
            refine p_ret ?_
            obtain rfl := sjoin hm68
            have hm20 := bret hm20
            obtain rfl := sjoin hm20
            have hm := bret hm
            obtain ⟨he181, rfl⟩ := pjoin hm
            exact absurd he181 (by decide)
          · have hm68 := ifF hc hm68
            refine p_next ?_
            exact ⟨F174, (some (V.int ((0 : Int) + ((i54 : Nat) : Int)))), (some (V.int r88)), (some (V.ref p137)), (some v155), b172, rfl, g179, (Same.trans sm65 (Same.trans g93.ff (Same.trans g103.ff (Same.trans g130.ff (Same.trans sm141 (Same.trans g154.ff (Same.trans g165.ff g176.ff))))))), ow180, hB177, hm68⟩
      intro σ182 H183 hP
      obtain ⟨F184, o_y_k185, o_y_gate186, o_y_want187, o_y_told188, b189, rfl, g190, sm191, owk0192, hB193, hm194⟩ := hP
      rw [drop_end (rangeL_len _ _).symm, m_law_l2.eq_1] at hm194
      obtain rfl := sjoin hm194
      have hm20 := bgo1 hm20
      exact ⟨F184, (some (V.int ((0 : Int) + ((i4 : Nat) : Int)))), (some v30), (some (V.ref p40)), o_y_k185, o_y_gate186, o_y_want187, o_y_told188, b189, rfl, g190, (Same.trans sm18 (Same.trans g28.ff (Same.trans g38.ff sm191))), hB193, hm20⟩
    intro σ195 H196 hP
    obtain ⟨F197, o_y_turn198, o_y_town199, o_y_torn200, o_y_k201, o_y_gate202, o_y_want203, o_y_told204, b205, rfl, g206, sm207, hB208, hm209⟩ := hP
    rw [drop_end (rangeL_len _ _).symm, m_law_l1.eq_1] at hm209
    obtain rfl := sjoin hm209
    have hm := bgo1 hm
    refine p_nx ?_
    refine p_ret ?_
    obtain ⟨he210, rfl⟩ := pjoin hm
    exact (retQ (e := true) he210 (hQ _ _ g206 hB208))
end K28
namespace K28
open PySem PySem.Spec PyProof.Rows L2 TL G
theorem bits_log {n : Int} (h0 : 0 < n) (h1 : n < 18446744073709551616) : Builtin.Int.intBits n < 9000 := by
  have h2 : n.natAbs < 2 ^ 64 := by omega
  have h3 : n.natAbs ≠ 0 := by omega
  have h4 := (Nat.log2_lt h3).mpr h2
  unfold Builtin.Int.intBits
  first | (split <;> omega) | omega | (simp; omega)
theorem stir_in {z c : Int} (h0 : 0 ≤ z) (h1 : z < 2147483648) : ∀ n, 0 ≤ (stirN z c n).1 ∧ (stirN z c n).1 < 2147483648
  | 0 => ⟨h0, h1⟩
  | n + 1 => ⟨Int.emod_nonneg _ (by decide), Int.lt_trans (Int.emod_lt_of_pos _ (by decide)) (by decide)⟩
theorem stirred_O {b : Bag} {n : Int} (hb : BOk b) (h0 : 0 < n) (h1 : n < 18446744073709551616) : O2 BOk (m_l_stirred b n) (fun r => 0 ≤ r ∧ r < n) := by
  unfold m_l_stirred
  rw [if_pos ⟨⟨h0, bits_log h0 h1⟩, hb.lo, hb.hi⟩]
  have hs := stir_in (c := b.cnt) hb.lo hb.hi (1 + Builtin.Int.intBits n / 27)
  exact O2.ret ⟨hs.1, hs.2, hb.len⟩ ⟨Int.emod_nonneg _ (by omega), Int.emod_lt_of_pos _ h0⟩
theorem draw_O {b : Bag} {n : Int} (hb : BOk b) (h0 : 0 < n) (h1 : n < 18446744073709551616) : O2 BOk (m_l_draw b n) (fun r => 0 ≤ r ∧ r < n) := by
  have hlog : n.natAbs.log2 < 9000 := by
    have hn : n.natAbs < 2 ^ 64 := by omega
    have hz : n.natAbs ≠ 0 := by omega
    have := (Nat.log2_lt hz).mpr hn
    omega
  have h63 := hb.len
  have hm : 0 ≤ b.left % n ∧ b.left % n < n := ⟨Int.emod_nonneg _ (by omega), Int.emod_lt_of_pos _ h0⟩
  unfold m_l_draw
  rw [if_pos ⟨⟨h0, hlog⟩, by rw [sizeLine_eq]; omega⟩]
  by_cases hz : b.left = 0
  · rw [if_pos hz]
    cases e : b.cells[b.at_]? with
    | some x => exact O2.ret ⟨hb.lo, hb.hi, hb.len⟩ ⟨Int.emod_nonneg _ (by omega), Int.emod_lt_of_pos _ h0⟩
    | none => exact stirred_O hb h0 h1
  · rw [if_neg hz]
    exact O2.ret ⟨hb.lo, hb.hi, hb.len⟩ hm
end K28
namespace K28
open PySem PySem.Spec PyProof.Rows L2 TL G
/-! ### a town -/
structure TownOk (t : T4 Int Int (List (Int × Int)) (List Int)) : Prop where
  w : 1 ≤ t.a ∧ t.a ≤ 30
  n : 1 ≤ t.b ∧ t.b ≤ 12
  ties : ∀ p ∈ t.c, 0 ≤ p.1 ∧ p.1 < p.2 ∧ p.2 < t.b
  few : t.c.length ≤ 20
  nd : t.c.Nodup
  doors : ∀ d ∈ t.e, 0 ≤ d ∧ d < t.b
  some_ : 1 ≤ t.e.length ∧ t.e.length ≤ 8
theorem divI_ok_ {a n : Int} (h0 : 0 < n) (h1 : n < 100) : divI a n = some (a / n) := by
  unfold divI
  rw [if_pos ⟨h0, by
    have : n.natAbs < 2 ^ 7 := by omega
    have hz : n.natAbs ≠ 0 := by omega
    have := (Nat.log2_lt hz).mpr this
    omega⟩]
theorem modI_ok_ {a n : Int} (h0 : 0 < n) : modI a n = some (a % n) := by unfold modI; rw [if_pos h0]
theorem tw_c1 {n : Int} (h0 : 0 < n) (h1 : n ≤ 12) : ∀ l : List Int, ∃ r, m_l_town_drawn_c1 n l = some r ∧ (∀ p ∈ r, ∃ k ∈ l, p = (k / n, k % n) ∧ p.1 < p.2) ∧ r.length ≤ l.length ∧ (l.Nodup → r.Nodup)
  | [] => ⟨[], rfl, fun _ h => (List.not_mem_nil h).elim, Nat.le_refl _, fun _ => List.nodup_nil⟩
  | k :: l => by
    obtain ⟨r, e, hr, hl, hnd⟩ := tw_c1 h0 h1 l
    unfold m_l_town_drawn_c1
    rw [divI_ok_ h0 (by omega), Option.bind_some, modI_ok_ h0, Option.bind_some]
    have sub : ∀ p ∈ r, ∃ j ∈ k :: l, p = (j / n, j % n) ∧ p.1 < p.2 := fun p hp => by
      obtain ⟨j, hj, h⟩ := hr p hp
      exact ⟨j, List.mem_cons_of_mem _ hj, h⟩
    by_cases h : k / n < k % n
    · rw [if_pos (decide_eq_true h), Option.bind_some, Option.bind_some, e]
      refine ⟨(k / n, k % n) :: r, rfl, fun p hp => ?_, Nat.succ_le_succ hl, fun hnd2 => ?_⟩
      · rcases List.mem_cons.mp hp with rfl | hp
        · exact ⟨k, List.mem_cons_self .., rfl, h⟩
        · exact sub p hp
      · obtain ⟨a1, a2⟩ := List.nodup_cons.mp hnd2
        refine List.nodup_cons.mpr ⟨fun hm => ?_, hnd a2⟩
        obtain ⟨j, hj, e1, _⟩ := hr _ hm
        obtain ⟨e2, e3⟩ := Prod.mk.inj e1
        have := Int.emod_add_mul_ediv k n
        have := Int.emod_add_mul_ediv j n
        rw [e2, e3] at *
        exact a1 (by rw [show k = j by omega]; exact hj)
    · rw [if_neg (by rw [decide_eq_true_iff]; exact h), e]
      exact ⟨r, rfl, sub, Nat.le_succ_of_le hl, fun hnd2 => hnd (List.nodup_cons.mp hnd2).2⟩
theorem liked_ok (s : Int) (p : Int × Int) (n : Int) : ∃ r, m_l_liked s p n = some r := by
  unfold m_l_liked
  rw [Option.bind_some]
  split
  · exact ⟨_, rfl⟩
  · split <;> exact ⟨_, rfl⟩
theorem tw_c2 (n s : Int) : ∀ l : List (Int × Int), ∃ r, m_l_town_drawn_c2 n s l = some r ∧ r.Sublist l
  | [] => ⟨[], rfl, .slnil⟩
  | p :: l => by
    obtain ⟨r, e, hr⟩ := tw_c2 n s l
    obtain ⟨c, hc⟩ := liked_ok s p n
    unfold m_l_town_drawn_c2
    rw [hc, Option.bind_some]
    cases c with
    | true => rw [if_pos rfl, e]; exact ⟨p :: r, rfl, hr.cons₂ p⟩
    | false => rw [if_neg (by decide), e]; exact ⟨r, rfl, hr.cons p⟩
theorem tw_c3 (s : List (Int × Int)) : ∀ l : List (Int × Int), m_l_town_drawn_c3 s l = l.filter fun p => !inD p s
  | [] => rfl
  | p :: l => by
    unfold m_l_town_drawn_c3
    rw [tw_c3 s l, List.filter_cons]
theorem pop_perm {α : Type} (s : List α) {f : List α} {j : Nat} (h : j < f.length) : ((s ++ [f[j]]) ++ f.eraseIdx j).Perm (s ++ f) := by
  rw [List.append_assoc]
  exact List.Perm.append_left s (erase_perm h)
theorem tw_l4 : ∀ (l : List Int) (s f : List (Int × Int)) (b : Bag), BOk b → l.length ≤ f.length → f.length ≤ 1000 → s.length + l.length ≤ 400 →
    ∃ s' f' b', m_l_town_drawn_l4 l s f b = some (s', f', b') ∧ BOk b' ∧ (s' ++ f').Perm (s ++ f) ∧ s'.length = s.length + l.length
  | [], s, f, b, hb, _, _, _ => ⟨s, f, b, rfl, hb, List.Perm.refl _, rfl⟩
  | k :: l, s, f, b, hb, hl, hf, hn => by
    rw [List.length_cons] at hl hn
    obtain ⟨r, b1, e1, hb1, hr⟩ := draw_O (n := ((f.length : Nat) : Int)) hb (by omega) (by omega)
    obtain ⟨⟨x, f2⟩, e2, j, hj, hx, rfl⟩ := popI_O (xs := f) (i := r) (P := fun q => ∃ j : Nat, ∃ hj : j < f.length, q.1 = f[j] ∧ q.2 = f.eraseIdx j) hr.1 hr.2 fun j hj _ => ⟨j, hj, rfl, rfl⟩
    have hlen : (f.eraseIdx j).length = f.length - 1 := List.length_eraseIdx_of_lt hj
    obtain ⟨s', f', b', e3, hb', hp, hln⟩ := tw_l4 l (s ++ [x]) (f.eraseIdx j) b1 hb1 (by omega) (by omega) (by rw [List.length_append]; show _ + 1 + _ ≤ _; omega)
    refine ⟨s', f', b', ?_, hb', ?_, ?_⟩
    · unfold m_l_town_drawn_l4
      rw [e1, bind2_some, e2, bind2_some, appL_some (by omega), Option.bind_some]
      exact e3
    · have hx' : x = f[j] := hx
      rw [hx'] at hp
      exact hp.trans (pop_perm s hj)
    · rw [hln, List.length_append, List.length_cons]
      show s.length + 1 + l.length = s.length + (l.length + 1)
      omega
theorem tw_c5 : ∀ (l : List Int) (s : List (Int × Int)) (b : Bag), BOk b → l.length = s.length → s.length ≤ 1000 →
    ∃ r s' b', m_l_town_drawn_c5 l s b = some (r, s', b') ∧ BOk b' ∧ r.Perm s
  | [], s, b, hb, hl, _ => ⟨[], s, b, rfl, hb, by rw [List.eq_nil_of_length_eq_zero hl.symm]⟩
  | k :: l, s, b, hb, hl, hn => by
    rw [List.length_cons] at hl
    obtain ⟨r, b1, e1, hb1, hr⟩ := draw_O (n := ((s.length : Nat) : Int)) hb (by omega) (by omega)
    obtain ⟨⟨x, s2⟩, e2, j, hj, hx, rfl⟩ := popI_O (xs := s) (i := r) (P := fun q => ∃ j : Nat, ∃ hj : j < s.length, q.1 = s[j] ∧ q.2 = s.eraseIdx j) hr.1 hr.2 fun j hj _ => ⟨j, hj, rfl, rfl⟩
    have hlen : (s.eraseIdx j).length = s.length - 1 := List.length_eraseIdx_of_lt hj
    obtain ⟨rest, s', b', e3, hb', hp⟩ := tw_c5 l (s.eraseIdx j) b1 hb1 (by omega) (by omega)
    refine ⟨x :: rest, s', b', ?_, hb', ?_⟩
    · unfold m_l_town_drawn_c5
      rw [e1, bind2_some, e2, bind2_some, e3]
      rfl
    · have hx' : x = s[j] := hx
      rw [hx']
      exact (hp.cons _).trans (erase_perm hj)
theorem tw_c6 {n : Int} (h0 : 0 < n) (h1 : n ≤ 12) : ∀ (l : List Int) (b : Bag), BOk b → O2 BOk (m_l_town_drawn_c6 n l b) (fun r => r.length = l.length ∧ ∀ d ∈ r, 0 ≤ d ∧ d < n)
  | [], b, hb => O2.ret hb ⟨rfl, fun _ h => (List.not_mem_nil h).elim⟩
  | k :: l, b, hb => by
    unfold m_l_town_drawn_c6
    refine O2.bind (draw_O hb h0 (by omega)) fun r b hb hr => ?_
    refine O2.bind (tw_c6 h0 h1 l b hb) fun rest b hb h => ?_
    refine O2.ret hb ⟨congrArg Nat.succ h.1, fun d hd => ?_⟩
    rcases List.mem_cons.mp hd with rfl | hd
    · exact hr
    · exact h.2 d hd
theorem tw_sizes : ∀ n ∈ ([1, 2, 3, 4, 5, 6, 7, 8, 9, 10, 11, 12] : List Int), ∀ s ∈ ([0, 1, 2, 3] : List Int), ((m_l_town_drawn_c1 n (rangeL 0 (n * n).toNat)).bind fun l => (m_l_town_drawn_c2 n s l).map fun r => decide (r.length ≤ 20)) = some true := by decide +kernel
theorem mem12 {n : Int} (h0 : 1 ≤ n) (h1 : n ≤ 12) : n ∈ ([1, 2, 3, 4, 5, 6, 7, 8, 9, 10, 11, 12] : List Int) := by
  simp only [List.mem_cons, List.not_mem_nil, or_false]
  omega
theorem mem4 {n : Int} (h0 : 0 ≤ n) (h1 : n < 4) : n ∈ ([0, 1, 2, 3] : List Int) := by
  simp only [List.mem_cons, List.not_mem_nil, or_false]
  omega
theorem rangeL_nodup (lo : Int) (n : Nat) : (rangeL lo n).Nodup := by
  unfold rangeL
  refine List.pairwise_map.mpr (List.nodup_range.imp fun {a b} h e => h (by omega))
theorem mem_rangeL0 {n : Nat} {k : Int} (h : k ∈ rangeL 0 n) : 0 ≤ k ∧ k < (n : Nat) := mem_rangeL h
theorem town_O {b : Bag} (hb : BOk b) : O2 BOk (m_l_town_drawn b) TownOk := by
  unfold m_l_town_drawn
  refine O2.bind (draw_O hb (by decide) (by decide)) fun r1 b hb h1 => ?_
  refine O2.bind (draw_O hb (by decide) (by decide)) fun r2 b hb h2 => ?_
  refine O2.bind (draw_O hb (by decide) (by decide)) fun r3 b hb h3 => ?_
  refine O2.bind1 (P := fun n => 1 ≤ n ∧ n ≤ 12) (atI_O h3.1 h3.2 fun x hx => ?_) fun n hn => ?_
  · simp only [List.mem_cons, List.not_mem_nil, or_false] at hx
    omega
  refine O2.bind (draw_O hb (by decide) (by decide)) fun s b hb hs => ?_
  have hsq : 1 ≤ n * n ∧ n * n ≤ 144 := by
    have h1 : n * n ≤ n * 12 := Int.mul_le_mul_of_nonneg_left hn.2 (by omega)
    have h2 : 1 * 1 ≤ n * n := Int.mul_le_mul hn.1 hn.1 (by decide) (by omega)
    omega
  have hmul : mulI n n = some (n * n) := by
    have h3 : n.natAbs < 2 ^ 64 := by omega
    have h4 := log2_lt64 h3
    unfold mulI
    rw [if_pos (by omega)]
  rw [hmul, Option.bind_some]
  refine O2.bind1 (rangeO1_O (P := fun l => l = rangeL 0 (n * n).toNat) (by omega) (by omega) rfl) fun l hl => ?_
  subst hl
  obtain ⟨ps, e1, hps, hpl, hpn⟩ := tw_c1 (n := n) (by omega) hn.2 (rangeL 0 (n * n).toNat)
  rw [rangeL_length] at hpl
  obtain ⟨ls, e2, hls⟩ := tw_c2 n s ps
  have hsz := tw_sizes n (mem12 hn.1 hn.2) s (mem4 hs.1 hs.2)
  rw [e1, Option.bind_some, e2] at hsz
  have hsz2 : ls.length ≤ 20 := of_decide_eq_true (Option.some.inj hsz)
  rw [e1, Option.bind_some, e2, Option.bind_some, tw_c3, Option.bind_some]
  have hnd := hpn (rangeL_nodup _ _)
  have hpair : ∀ p ∈ ps, 0 ≤ p.1 ∧ p.1 < p.2 ∧ p.2 < n := fun p hp => by
    obtain ⟨k, hk, e, hlt⟩ := hps p hp
    have hk2 := mem_rangeL hk
    have m1 := Int.emod_nonneg k (show n ≠ 0 by omega)
    have m2 := Int.emod_lt_of_pos k (show 0 < n by omega)
    have m3 : 0 ≤ k / n := Int.ediv_nonneg hk2.1 (by omega)
    rw [e] at hlt ⊢
    exact ⟨m3, hlt, m2⟩
  have hfl : ((ps.filter fun p => !inD p ls)).length ≤ 144 := Nat.le_trans (List.length_filter_le _ _) (by omega)
  have hdis : (ls ++ ps.filter fun p => !inD p ls).Nodup := by
    refine List.nodup_append.mpr ⟨hls.nodup hnd, hnd.filter _, fun x hx y hy e => ?_⟩
    subst e
    have := (List.mem_filter.mp hy).2
    rw [inD_true hx] at this
    cases this
  have hin : ∀ p ∈ ls ++ ps.filter fun p => !inD p ls, p ∈ ps := fun p hp => by
    rcases List.mem_append.mp hp with h | h
    · exact hls.subset h
    · exact (List.mem_filter.mp h).1
  generalize (ps.filter fun p => !inD p ls) = fs at hfl hdis hin ⊢
  refine O2.bind (draw_O hb (by omega) (by omega)) fun r4 b hb h4 => ?_
  refine O2.bind1 (rangeO1_O (P := fun l => l.length ≤ fs.length ∧ ls.length + l.length ≤ 20) (by split <;> omega) (by split <;> omega) (by rw [rangeL_length]; split <;> omega)) fun l hl => ?_
  obtain ⟨s', f', b2, e3, hb2, hp2, hl2⟩ := tw_l4 l ls fs b hb hl.1 (by omega) (by omega)
  rw [e3, bind3_some]
  refine O2.bind1 (rangeO1_O (P := fun l => l.length = s'.length) (by omega) (by omega) (by rw [rangeL_length]; omega)) fun l3 hl3 => ?_
  obtain ⟨ts, s3, b3, e4, hb3, hp3⟩ := tw_c5 l3 s' b2 hb2 hl3 (by omega)
  rw [e4, bind3_some]
  refine O2.bind (draw_O hb3 (by decide) (by decide)) fun r5 b hb h5 => ?_
  refine O2.bind1 (rangeO1_O (P := fun l => 1 ≤ l.length ∧ l.length ≤ 8) (by omega) (by omega) (by rw [rangeL_length]; omega)) fun l4 hl4 => ?_
  refine O2.bind (tw_c6 (n := n) (by omega) hn.2 l4 b hb) fun ds b hb hd => ?_
  refine O2.bind (draw_O hb (by decide) (by decide)) fun r6 b hb h6 => ?_
  have hsub : ∀ p ∈ ts, p ∈ ls ++ fs := fun p hp => hp2.mem_iff.mp (List.mem_append.mpr (.inl (hp3.mem_iff.mp hp)))
  refine O2.ret hb ⟨by show 1 ≤ (1 : Int) + r6 ∧ (1 : Int) + r6 ≤ 30; omega, hn, fun p hp => hpair p (hin p (hsub p hp)), by show ts.length ≤ 20; rw [hp3.length_eq, hl2]; exact hl.2, ?_, hd.2, by show 1 ≤ ds.length ∧ ds.length ≤ 8; rw [hd.1]; exact hl4⟩
  have : (s' ++ f').Nodup := hp2.nodup_iff.mpr hdis
  exact hp3.nodup_iff.mpr (List.nodup_append.mp this).1
/-! ### which ties are broken -/
theorem torn_c1 {k : Int} (hk : k ≤ 10) : ∀ (l : List Int) (b : Bag), BOk b → O2 BOk (m_l_torn_drawn_c1 k l b) (fun r => r.Sublist l)
  | [], b, hb => O2.ret hb .slnil
  | x :: l, b, hb => by
    unfold m_l_torn_drawn_c1
    refine O2.bind (P := fun _ => True) ?_ fun c b hb _ => ?_
    · refine O2.ite (fun hc => ?_) (fun _ => O2.ret hb trivial)
      have hc := of_decide_eq_true hc
      refine O2.bind (draw_O hb hc (by omega)) fun r b hb _ => O2.ret hb trivial
    · refine O2.ite (fun _ => ?_) (fun _ => (torn_c1 hk l b hb).imp fun r h => h.cons x)
      refine O2.bind (torn_c1 hk l b hb) fun r b hb h => O2.ret hb (h.cons₂ x)
theorem torn_O {b : Bag} {t : T4 Int Int (List (Int × Int)) (List Int)} (hb : BOk b) (ht : t.c.length ≤ 1000) : O2 BOk (m_l_torn_drawn b t) (fun r => r.Sublist (rangeL 0 t.c.length)) := by
  unfold m_l_torn_drawn
  refine O2.bind (draw_O hb (by decide) (by decide)) fun r1 b hb h1 => ?_
  refine O2.bind1 (P := fun n => n ≤ 10) (atI_O h1.1 h1.2 fun x hx => ?_) fun n hn => ?_
  · simp only [List.mem_cons, List.not_mem_nil, or_false] at hx
    omega
  refine O2.bind1 (rangeO1_O (P := fun l => l = rangeL 0 t.c.length) (by omega) (by omega) (by rw [Int.toNat_natCast])) fun l hl => ?_
  subst hl
  refine O2.bind (torn_c1 hn _ b hb) fun r b hb h => O2.ret hb h
end K28
namespace K28
open PySem PySem.Spec PyProof.Rows L2 TL G
/-! ### ways, plainly -/
abbrev Tn := T4 Int Int (List (Int × Int)) (List Int)
abbrev Wn := T4 Int (VT Int) (VT Int) (Option Int)
theorem atI_at {α : Type} {xs : List α} {i : Int} {x : α} (h0 : 0 ≤ i) (h : xs[i.toNat]? = some x) : atI xs i = some x := by
  obtain ⟨n, rfl⟩ := Int.eq_ofNat_of_zero_le h0
  exact atI_nat (by simpa using h)
theorem ixN_at {n : Nat} {i : Int} (h0 : 0 ≤ i) (h1 : i < n) : ixN n i = some i.toNat := by
  unfold ixN
  rw [if_pos h0, if_pos h1]
/-- the neighbours of a house over some ties, in the ties' order -/
def nbs : List (Int × Int) → Int → List Int
  | [], _ => []
  | p :: W, h => ((if p.1 = h then [p.2] else []) ++ (if p.2 = h then [p.1] else [])) ++ nbs W h
theorem mem_nbs {x h : Int} : ∀ {W : List (Int × Int)}, x ∈ nbs W h ↔ (h, x) ∈ W ∨ (x, h) ∈ W
  | [] => by simp [nbs]
  | p :: W => by
    obtain ⟨a, b⟩ := p
    unfold nbs
    rw [List.mem_append, List.mem_append, mem_nbs, List.mem_cons, List.mem_cons]
    constructor
    · rintro ((z | z) | z | z)
      · split at z
        · next e => simp only at e z; rw [List.mem_singleton.mp z, ← e]; exact .inl (.inl rfl)
        · cases z
      · split at z
        · next e => simp only at e z; rw [List.mem_singleton.mp z, ← e]; exact .inr (.inl rfl)
        · cases z
      · exact .inl (.inr z)
      · exact .inr (.inr z)
    · rintro ((z | z) | z | z)
      · obtain ⟨h1, h2⟩ := Prod.mk.inj z
        exact .inl (.inl (by rw [if_pos h1.symm, h2]; simp))
      · exact .inr (.inl z)
      · obtain ⟨h1, h2⟩ := Prod.mk.inj z
        exact .inl (.inr (by rw [if_pos h2.symm, h1]; simp))
      · exact .inr (.inr z)
theorem nbs_len (h : Int) : ∀ W : List (Int × Int), (nbs W h).length ≤ 2 * W.length
  | [] => Nat.le_refl _
  | p :: W => by
    have := nbs_len h W
    unfold nbs
    rw [List.length_append, List.length_append, List.length_cons]
    split <;> split <;> simp <;> omega
theorem nbs_nodup {h : Int} : ∀ {W : List (Int × Int)}, W.Nodup → (∀ p ∈ W, p.1 < p.2) → (nbs W h).Nodup
  | [], _, _ => List.nodup_nil
  | p :: W, hn, hp => by
    obtain ⟨n1, n2⟩ := List.nodup_cons.mp hn
    have ih := nbs_nodup (h := h) n2 fun q hq => hp q (List.mem_cons_of_mem _ hq)
    have pl := hp p (List.mem_cons_self ..)
    have no : ∀ x, x ∈ nbs W h → p ≠ (h, x) ∧ p ≠ (x, h) := fun x hx => by
      rcases mem_nbs.mp hx with z | z
      · refine ⟨fun e => n1 (e ▸ z), fun e => ?_⟩
        have a := hp _ (List.mem_cons_of_mem _ z)
        rw [e] at pl
        simp only at a pl
        omega
      · refine ⟨fun e => ?_, fun e => n1 (e ▸ z)⟩
        have a := hp _ (List.mem_cons_of_mem _ z)
        rw [e] at pl
        simp only at a pl
        omega
    unfold nbs
    by_cases e1 : p.1 = h
    · have e2 : ¬ p.2 = h := by omega
      rw [if_pos e1, if_neg e2]
      refine List.nodup_cons.mpr ⟨fun z => (no _ z).1 (Prod.ext e1 rfl), ih⟩
    · by_cases e2 : p.2 = h
      · rw [if_neg e1, if_pos e2]
        exact List.nodup_cons.mpr ⟨fun z => (no _ z).2 (Prod.ext rfl e2), ih⟩
      · rw [if_neg e1, if_neg e2]
        exact ih
theorem appN_at {xs : List (List Int)} {i : Int} {r : List Int} {y : Int} (h0 : 0 ≤ i) (h : xs[i.toNat]? = some r) (hl : r.length ≤ 1000) : appN xs i y = some (xs.set i.toNat (r ++ [y])) := by
  unfold appN
  have hi : i.toNat < xs.length := (List.getElem?_eq_some_iff.mp h).1
  rw [ixN_at h0 (by omega)]
  show (xs[i.toNat]?).bind _ = _
  rw [h]
  show (if r.length < sizeLine then _ else _) = _
  rw [if_pos (by rw [sizeLine_eq]; omega)]
theorem near_l1 {n : Int} : ∀ (W : List (Int × Int)) (F : List (List Int)), (∀ p ∈ W, 0 ≤ p.1 ∧ p.1 < p.2 ∧ p.2 < n) → F.length = n.toNat → (∀ r ∈ F, r.length + 2 * W.length ≤ 900) →
    ∃ F', m_nearby_l1 W F = some F' ∧ F'.length = n.toNat ∧ ∀ k : Nat, ∀ r, F[k]? = some r → F'[k]? = some (r ++ nbs W (k : Nat))
  | [], F, _, hF, _ => ⟨F, rfl, hF, fun k r h => by rw [nbs, List.append_nil]; exact h⟩
  | p :: W, F, hp, hF, hr => by
    obtain ⟨p0, p1, p2⟩ := hp p (List.mem_cons_self ..)
    have len1 : p.1.toNat < F.length := by rw [hF]; omega
    have hr1 := hr _ (List.getElem_mem len1)
    rw [List.length_cons] at hr1
    have e1 := appN_at (xs := F) (i := p.1) (r := F[p.1.toNat]) (y := p.2) p0 (List.getElem?_eq_getElem len1) (by omega)
    have len2 : p.2.toNat < F.length := by rw [hF]; omega
    have ne12 : p.1.toNat ≠ p.2.toNat := by omega
    have g2 : (F.set p.1.toNat (F[p.1.toNat] ++ [p.2]))[p.2.toNat]? = some F[p.2.toNat] := by
      rw [List.getElem?_set, if_neg ne12]; exact List.getElem?_eq_getElem len2
    have hr2 := hr _ (List.getElem_mem len2)
    rw [List.length_cons] at hr2
    have e2 := appN_at (i := p.2) (y := p.1) (by omega) g2 (by omega)
    obtain ⟨F', h1, h2, h3⟩ := near_l1 W ((F.set p.1.toNat (F[p.1.toNat] ++ [p.2])).set p.2.toNat (F[p.2.toNat] ++ [p.1])) (fun q hq => hp q (List.mem_cons_of_mem _ hq)) (by rw [List.length_set, List.length_set]; exact hF) (fun r hm => by
      rcases List.mem_or_eq_of_mem_set hm with hm | rfl
      · rcases List.mem_or_eq_of_mem_set hm with hm | rfl
        · have := hr r hm; rw [List.length_cons] at this; omega
        · rw [List.length_append, List.length_singleton]; omega
      · rw [List.length_append, List.length_singleton]; omega)
    refine ⟨F', ?_, h2, fun k r hk => ?_⟩
    · rw [m_nearby_l1, e1, Option.bind_some, e2, Option.bind_some]
      exact h1
    · have hkl : k < F.length := (List.getElem?_eq_some_iff.mp hk).1
      have hkr : F[k] = r := (List.getElem?_eq_some_iff.mp hk).2
      unfold nbs
      by_cases c1 : p.1.toNat = k
      · have z1 : p.1 = (k : Int) := by omega
        have z2 : ¬ p.2 = (k : Int) := by omega
        rw [if_pos z1, if_neg z2, List.append_nil, ← List.append_assoc]
        refine h3 k _ ?_
        rw [List.getElem?_set, if_neg (by omega), List.getElem?_set, if_pos c1, if_pos len1]
        subst c1
        rw [hkr]
      · have z1 : ¬ p.1 = (k : Int) := by omega
        by_cases c2 : p.2.toNat = k
        · have z2 : p.2 = (k : Int) := by omega
          rw [if_neg z1, if_pos z2, List.nil_append, ← List.append_assoc]
          refine h3 k _ ?_
          rw [List.getElem?_set, if_pos c2, if_pos (by rw [List.length_set]; exact len2)]
          subst c2
          rw [hkr]
        · have z2 : ¬ p.2 = (k : Int) := by omega
          rw [if_neg z1, if_neg z2, List.nil_append, List.nil_append]
          refine h3 k _ ?_
          rw [List.getElem?_set, if_neg c2, List.getElem?_set, if_neg c1]
          exact hk
theorem near_c2 : ∀ F : List (List Int), m_nearby_c2 F = F.map sortI
  | [] => rfl
  | r :: F => by rw [m_nearby_c2, near_c2 F]; rfl
theorem whole_sub (torn : List Int) : ∀ (l : List (Int × Int)) (k : List Int), (m_whole_pairs_c1 torn (List.zip k l)).Sublist l
  | [], k => by rw [List.zip_nil_right]; exact .slnil
  | p :: l, [] => by rw [List.zip_nil_left]; exact List.nil_sublist _
  | p :: l, i :: k => by
    rw [List.zip_cons_cons, m_whole_pairs_c1]
    split
    · exact (whole_sub torn l k).cons_cons p
    · exact (whole_sub torn l k).cons p
/-- the houses to which whole ties lead, rising -/
def nb (T : Tn) (torn : List Int) (h : Int) : List Int := sortI (nbs (m_whole_pairs T torn) h)
theorem near_spec {T : Tn} (ht : TownOk T) (torn : List Int) : ∃ N, m_nearby T torn = some N ∧ ∀ h, 0 ≤ h → h < T.b → atI N h = some (nb T torn h) := by
  have sub : (m_whole_pairs T torn).Sublist T.c := whole_sub torn _ _
  have hn := ht.n
  obtain ⟨F', h1, h2, h3⟩ := near_l1 (n := T.b) (m_whole_pairs T torn) ((rangeL 0 T.b.toNat).map fun _ => ([] : List Int)) (fun p hp => ht.ties p (sub.subset hp)) (by rw [List.length_map, rangeL_len]) (fun r hr => by
    obtain ⟨_, _, rfl⟩ := List.mem_map.mp hr
    have a := sub.length_le
    have b := ht.few
    simp only [List.length_nil]
    omega)
  refine ⟨F'.map sortI, ?_, fun h h0 hb => ?_⟩
  · unfold m_nearby
    rw [show rangeO1 T.b = some (rangeL 0 T.b.toNat) from by
      obtain ⟨l, e, p⟩ := rangeO1_O (n := T.b) (P := fun l => l = rangeL 0 T.b.toNat) (by omega) (by omega) rfl
      rw [e, p]]
    rw [Option.bind_some, Option.bind_some, h1, Option.bind_some, near_c2]
  · refine atI_at h0 ?_
    have := h3 h.toNat [] (by rw [List.getElem?_map, List.getElem?_eq_getElem (by rw [rangeL_len]; omega)]; rfl)
    rw [List.getElem?_map, this]
    show some (sortI _) = _
    rw [List.nil_append, Int.toNat_of_nonneg h0]
    rfl
theorem nb_mem {T : Tn} {torn : List Int} {h x : Int} : x ∈ nb T torn h ↔ (h, x) ∈ m_whole_pairs T torn ∨ (x, h) ∈ m_whole_pairs T torn := by
  unfold nb
  rw [(sortI_perm _).mem_iff, mem_nbs]
theorem nb_up {T : Tn} (ht : TownOk T) (torn : List Int) (h : Int) : (nb T torn h).Pairwise (· < ·) := by
  have sub : (m_whole_pairs T torn).Sublist T.c := whole_sub torn _ _
  have nd : (nb T torn h).Nodup := (sortI_perm _).nodup_iff.mpr (nbs_nodup (sub.nodup ht.nd) fun p hp => (ht.ties p (sub.subset hp)).2.1)
  have so : (nb T torn h).Pairwise (· ≤ ·) := sortI_sorted _
  refine (List.pairwise_and_iff.mpr ⟨so, nd⟩).imp fun {a b} z => ?_
  have := z.1
  have := z.2
  omega
theorem nb_in {T : Tn} (ht : TownOk T) {torn : List Int} {h x : Int} (hx : x ∈ nb T torn h) : 0 ≤ x ∧ x < T.b := by
  have sub : (m_whole_pairs T torn).Sublist T.c := whole_sub torn _ _
  rcases nb_mem.mp hx with z | z
  · have := ht.ties _ (sub.subset z); simp only at this; omega
  · have := ht.ties _ (sub.subset z); simp only at this; omega
/-- a house is come to -/
def come (by_ : List Int) (d h : Int) : Int × Int := if by_[d.toNat]? = some h then (d + 1, h) else (d, h)
theorem come_2 (by_ : List Int) (d h : Int) : (come by_ d h).2 = h := by unfold come; split <;> rfl
theorem come_1 {by_ : List Int} {d h : Int} (h0 : 0 ≤ d) (h1 : d ≤ by_.length) : 0 ≤ (come by_ d h).1 ∧ (come by_ d h).1 ≤ by_.length := by
  unfold come
  split
  · next e =>
    have := (List.getElem?_eq_some_iff.mp e).1
    simp only
    omega
  · exact ⟨h0, h1⟩
theorem come_spec {w : Wn} {d h : Int} (h0 : 0 ≤ d) : m_come_to w d h = some (come w.b.l d h) := by
  unfold m_come_to come
  by_cases hd : d < w.b.l.length
  · have e : (decide (d < (((w.b.l).length : Nat) : Int))) = true := decide_eq_true hd
    rw [e, if_pos rfl]
    have hl : d.toNat < w.b.l.length := by omega
    rw [atI_at h0 (List.getElem?_eq_getElem hl), Option.bind_some, Option.bind_some]
    unfold eqI
    rw [List.getElem?_eq_getElem hl]
    by_cases c : w.b.l[d.toNat] = h
    · rw [if_pos (by simpa using c), if_pos (by rw [c])]
    · rw [if_neg (by simpa using c), if_neg (by simpa using c)]
  · have e : (decide (d < (((w.b.l).length : Nat) : Int))) = false := decide_eq_false hd
    rw [e, if_neg Bool.false_ne_true, Option.bind_some, if_neg Bool.false_ne_true, if_neg]
    rw [List.getElem?_eq_none (by omega)]
    exact fun z => nomatch z
/-- the stands to which ties lead from a stand -/
def outS (T : Tn) (torn : List Int) (w : Wn) (s : Int × Int) : List (Int × Int) := ((nb T torn s.2).filter fun x => !decide (x ∈ w.c.l)).map (come w.b.l s.1)
theorem leads_c1 {w : Wn} {d : Int} (h0 : 0 ≤ d) : ∀ l : List Int, m_leads_c1 w d l = some ((l.filter fun x => !decide (x ∈ w.c.l)).map (come w.b.l d))
  | [] => rfl
  | x :: l => by
    rw [m_leads_c1, leads_c1 h0 l, List.filter_cons, come_spec h0]
    split
    · rfl
    · rfl
theorem leads_spec {T : Tn} {torn : List Int} {w : Wn} {N : List (List Int)} {s : Int × Int} (hN : ∀ h, 0 ≤ h → h < T.b → atI N h = some (nb T torn h)) (h0 : 0 ≤ s.1) (h1 : 0 ≤ s.2 ∧ s.2 < T.b) : m_leads N w s = some (outS T torn w s) := by
  unfold m_leads
  rw [hN s.2 h1.1 h1.2, Option.bind_some, leads_c1 h0, Option.bind_some]
  rfl
def StOk (T : Tn) (w : Wn) (s : Int × Int) : Prop := (0 ≤ s.1 ∧ s.1 ≤ w.b.l.length) ∧ 0 ≤ s.2 ∧ s.2 < T.b
theorem out_ok {T : Tn} (ht : TownOk T) {torn : List Int} {w : Wn} {s o : Int × Int} (hs : StOk T w s) (ho : o ∈ outS T torn w s) : StOk T w o := by
  obtain ⟨x, hx, rfl⟩ := List.mem_map.mp ho
  have := nb_in ht (List.mem_filter.mp hx).1
  exact ⟨come_1 hs.1.1 hs.1.2, by rw [come_2]; exact this⟩
theorem out_up {T : Tn} (ht : TownOk T) (torn : List Int) (w : Wn) (s : Int × Int) : (outS T torn w s).Pairwise fun x y => x.2 < y.2 := by
  unfold outS
  rw [List.pairwise_map]
  refine ((nb_up ht torn s.2).sublist List.filter_sublist).imp fun {a b} z => ?_
  rw [come_2, come_2]
  exact z
/-- all stands that may be -/
def allS (T : Tn) (w : Wn) : List (Int × Int) := (rangeL 0 (w.b.l.length + 1)).flatMap fun d => (rangeL 0 T.b.toNat).map fun h => (d, h)
theorem mem_allS {T : Tn} {w : Wn} {s : Int × Int} (h : StOk T w s) : s ∈ allS T w := by
  have mr : ∀ (n : Nat) (k : Int), 0 ≤ k → k < n → k ∈ rangeL 0 n := fun n k h0 h1 => by
    refine List.mem_of_getElem? (i := k.toNat) ?_
    have := rangeL_at (lo := 0) (n := n) (i := k.toNat) (by omega)
    rw [this]
    congr 1
    omega
  refine List.mem_flatMap.mpr ⟨s.1, mr _ _ h.1.1 (by have := h.1.2; omega), List.mem_map.mpr ⟨s.2, mr _ _ h.2.1 (by have := h.2.2; omega), rfl⟩⟩
theorem allS_len (T : Tn) (w : Wn) : (allS T w).length = (w.b.l.length + 1) * T.b.toNat := by
  unfold allS
  rw [List.length_flatMap]
  have : (List.map (fun d => ((rangeL 0 T.b.toNat).map fun h => (d, h)).length) (rangeL 0 (w.b.l.length + 1))) = List.replicate (w.b.l.length + 1) T.b.toNat := by
    rw [List.eq_replicate_iff]
    refine ⟨by rw [List.length_map, rangeL_len], fun x hx => ?_⟩
    obtain ⟨d, _, rfl⟩ := List.mem_map.mp hx
    rw [List.length_map, rangeL_len]
  rw [this, List.sum_replicate_nat]
/-- whether ties are still led on behind a list -/
def goesOn (w : Wn) (l : List Int) : Prop := ∀ m, w.e = some m → (l.length : Int) ≤ m
abbrev BIw (T : Tn) (torn : List Int) (w : Wn) (b : Int × Int) := BI (fun s : Int × Int => s.2) (outS T torn w) (goesOn w) b
abbrev BJw (T : Tn) (torn : List Int) (w : Wn) (b : Int × Int) := BJ (fun s : Int × Int => s.2) (outS T torn w) (goesOn w) b
theorem fl_l2 {T : Tn} {torn : List Int} {w : Wn} {b : Int × Int} {u : (Int × Int) × List Int} {D : List ((Int × Int) × List Int)} : ∀ (os dn : List (Int × Int)) (P : List ((Int × Int) × List Int)),
    BJw T torn w b D u P dn os → (D.length + P.length + os.length ≤ 100000) → u.2.length ≤ 100000 →
    ∃ P2, m_first_lists_l2 u.2 os (D ++ u :: P) (P.map fun e => some e.1) = some (D ++ u :: P2, P2.map fun e => some e.1) ∧ BJw T torn w b D u P2 (dn ++ os) []
  | [], dn, P, h, _, _ => ⟨P, rfl, by rw [List.append_nil]; exact h⟩
  | o :: os, dn, P, h, hl, hu => by
    rw [List.length_cons] at hl
    rw [m_first_lists_l2]
    by_cases hk : o ∈ (D ++ u :: P).map (·.1)
    · rw [dval_isS.mpr hk, if_neg (by decide)]
      obtain ⟨P2, h1, h2⟩ := fl_l2 os (dn ++ [o]) P (h.skip hk) (by omega) hu
      exact ⟨P2, h1, by rw [show dn ++ o :: os = dn ++ [o] ++ os by simp]; exact h2⟩
    · have hn : (dval (D ++ u :: P) o).isSome = false := Bool.eq_false_iff.mpr fun z => hk (dval_isS.mp z)
      rw [hn, if_pos (by decide), conL_some (by simp; omega), Option.bind_some]
      have e1 : dputO (D ++ u :: P) o (u.2 ++ [o.2]) = some (D ++ u :: (P ++ [(o, u.2 ++ [o.2])])) := by
        unfold dputO
        rw [if_pos (by rw [List.length_append, List.length_cons, sizeLine_eq]; omega), dput_new hk]
        simp
      rw [e1, Option.bind_some, appL_some (by rw [List.length_map]; omega), Option.bind_some]
      obtain ⟨P2, h1, h2⟩ := fl_l2 os (dn ++ [o]) (P ++ [(o, u.2 ++ [o.2])]) (h.add hk) (by rw [List.length_append, List.length_singleton]; omega) hu
      refine ⟨P2, ?_, by rw [show dn ++ o :: os = dn ++ [o] ++ os by simp]; exact h2⟩
      rw [List.map_append] at h1
      exact h1
theorem popI_0 {α : Type} (x : α) (xs : List α) : popI (x :: xs) (0 : Int) = some (x, xs) := by
  obtain ⟨p, e, h⟩ := popI_O (xs := x :: xs) (i := 0) (P := fun p => p = (x, xs)) (by omega) (by simp) (fun j hj e => by
    have : j = 0 := by omega
    subst this
    rfl)
  rw [e, h]
theorem dval_nd {S : Type} [DecidableEq S] {β : Type} {D : List (S × β)} {s : S} {l : β} (nd : (D.map (·.1)).Nodup) (hl : (s, l) ∈ D) : dval D s = some l := by
  induction D with
  | nil => cases hl
  | cons e D ih =>
    rw [List.map_cons, List.nodup_cons] at nd
    rcases List.mem_cons.mp hl with rfl | hl
    · exact dval_pos rfl
    · rw [dval_neg (fun z => nd.1 (by rw [z]; exact List.mem_map.mpr ⟨_, hl, rfl⟩))]
      exact ih nd.2 hl
theorem nb_few {T : Tn} (ht : TownOk T) (torn : List Int) (h : Int) : (nb T torn h).length ≤ 40 := by
  have sub : (m_whole_pairs T torn).Sublist T.c := whole_sub torn _ _
  unfold nb
  rw [sortI_len]
  have := nbs_len h (m_whole_pairs T torn)
  have := sub.length_le
  have := ht.few
  omega
theorem out_few {T : Tn} (ht : TownOk T) (torn : List Int) (w : Wn) (s : Int × Int) : (outS T torn w s).length ≤ 40 := by
  unfold outS
  rw [List.length_map]
  exact Nat.le_trans (List.length_filter_le _ _) (nb_few ht torn s.2)
theorem fl_l1 {T : Tn} (ht : TownOk T) {torn : List Int} {w : Wn} (hw : w.b.l.length ≤ 100) {b : Int × Int} (hb : StOk T w b) {N : List (List Int)} (hN : ∀ h, 0 ≤ h → h < T.b → atI N h = some (nb T torn h)) :
    ∀ (n : Nat) (D P : List ((Int × Int) × List Int)), BIw T torn w b D P → (∀ e ∈ D ++ P, StOk T w e.1) → (∀ e ∈ D ++ P, e.2.length ≤ D.length + 1) → (allS T w).length < D.length + n →
    ∃ D', m_first_lists_l1 w N n (P.map fun e => some e.1) (D ++ P) = some ([], D') ∧ BIw T torn w b D' [] ∧ (∀ e ∈ D', StOk T w e.1) ∧ ∀ e ∈ D', e.2.length ≤ 1300
  | 0, D, P, h, hs, _, hn => by
    have := h.few (U := allS T w) fun s ⟨l, hl⟩ => mem_allS (hs _ hl)
    omega
  | n + 1, D, [], h, hs, hL, _ => by
    have few := h.few (U := allS T w) fun s ⟨l, hl⟩ => mem_allS (hs _ hl)
    have hU : (allS T w).length ≤ 1212 := by
      rw [allS_len]
      have h1 : w.b.l.length + 1 ≤ 101 := by omega
      have h2 : T.b.toNat ≤ 12 := by have := ht.n; omega
      exact Nat.le_trans (Nat.mul_le_mul h1 h2) (by decide)
    refine ⟨D, ?_, h, by simpa using hs, fun e he => by have := hL e (by simpa using he); omega⟩
    rw [m_first_lists_l1, List.map_nil, eqD_refl, if_neg (by decide), List.append_nil]
  | n + 1, D, u :: P, h, hs, hL, hn => by
    have few := h.few (U := allS T w) fun s ⟨l, hl⟩ => mem_allS (hs _ hl)
    have hU : (allS T w).length ≤ 1212 := by
      rw [allS_len]
      have h1 : w.b.l.length + 1 ≤ 101 := by omega
      have h2 : T.b.toNat ≤ 12 := by have := ht.n; omega
      exact Nat.le_trans (Nat.mul_le_mul h1 h2) (by decide)
    rw [List.length_cons] at few
    have hu : StOk T w u.1 := hs u (by simp)
    have hul := hL u (by simp)
    rw [m_first_lists_l1, List.map_cons, eqD_false (show ¬ (some u.1 :: P.map fun e => some e.1) = [] by simp), if_pos (by decide), popI_0, bind2_some, Option.bind_some]
    rw [dval_nd h.nd (s := u.1) (l := u.2) (by simp), Option.bind_some]
    have e2 : D ++ u :: P = D ++ [u] ++ P := by simp
    have go : ∃ c, (if (!(w.e).isNone) = true then (Option.bind (w.e) fun t170 => some ((decide (t170 < (((u.2).length : Nat) : Int))))) else some false) = some c ∧ (c = true ↔ ¬ goesOn w u.2) := by
      cases hm : w.e with
      | none => exact ⟨false, rfl, by simp [goesOn, hm]⟩
      | some m =>
        refine ⟨decide (m < (u.2.length : Nat)), rfl, ?_⟩
        rw [decide_eq_true_iff]
        constructor
        · intro z g; have := g m hm; omega
        · intro g
          refine Classical.byContradiction fun z => g fun m' hm' => ?_
          rw [hm] at hm'
          cases hm'
          omega
    obtain ⟨c, e3, hc⟩ := go
    rw [e3, Option.bind_some]
    cases c with
    | true =>
      rw [if_pos rfl, e2]
      refine fl_l1 ht hw hb hN n (D ++ [u]) P (h.pass (hc.mp rfl)) (by rw [← e2]; exact hs) (fun e he => ?_) (by rw [List.length_append, List.length_singleton]; omega)
      have := hL e (e2 ▸ he)
      rw [List.length_append, List.length_singleton]
      omega
    | false =>
      rw [if_neg Bool.false_ne_true, Option.bind_some, leads_spec hN hu.1.1 hu.2, Option.bind_some]
      have hg : goesOn w u.2 := Classical.byContradiction fun z => absurd (hc.mpr z) Bool.false_ne_true
      obtain ⟨P2, h1, h2⟩ := fl_l2 (outS T torn w u.1) [] P (h.open_ hg (out_up ht torn w u.1)) (by have := out_few ht torn w u.1; omega) (by omega)
      rw [h1, bind2_some]
      have e4 : D ++ u :: P2 = D ++ [u] ++ P2 := by simp
      have ho : ∀ e ∈ D ++ u :: P2, StOk T w e.1 ∧ e.2.length ≤ D.length + 2 := fun e he => by
        rcases h2.par e he with z | ⟨v, hv, _, ho, z⟩ | ⟨hd, z⟩
        · rw [z]; exact ⟨hb, by simp⟩
        · refine ⟨out_ok ht (hs v (List.mem_append_left _ hv)) ho, ?_⟩
          rw [z, List.length_append, List.length_singleton]
          have := hL v (List.mem_append_left _ hv)
          omega
        · refine ⟨out_ok ht hu (by rw [List.nil_append] at hd; exact hd), ?_⟩
          rw [z, List.length_append, List.length_singleton]
          omega
      rw [e4]
      refine fl_l1 ht hw hb hN n (D ++ [u]) P2 h2.done (fun e he => (ho e (e4 ▸ he)).1) (fun e he => ?_) (by rw [List.length_append, List.length_singleton]; omega)
      have := (ho e (e4 ▸ he)).2
      rw [List.length_append, List.length_singleton]
      omega
/-- where a way begins -/
def beginS (T : Tn) (w : Wn) (h : Int) : Option (Int × Int) := if h ∈ w.c.l then none else some (come w.b.l 0 h)
theorem begin_spec {T : Tn} {w : Wn} {g h : Int} (hd : atI T.e g = some h) : m_beginning T g w = some (beginS T w h) := by
  unfold m_beginning beginS
  rw [hd, Option.bind_some]
  by_cases c : h ∈ w.c.l
  · rw [decide_eq_true c, if_pos rfl, if_pos c]; rfl
  · rw [decide_eq_false c, if_neg Bool.false_ne_true, if_neg c, come_spec (by omega)]; rfl
theorem first_spec {T : Tn} (ht : TownOk T) {torn : List Int} {w : Wn} (hw : w.b.l.length ≤ 100) {g h : Int} (hd : atI T.e g = some h) (hh : 0 ≤ h ∧ h < T.b) :
    (h ∈ w.c.l ∧ m_first_lists T torn g w = some []) ∨ (h ∉ w.c.l ∧ ∃ D, m_first_lists T torn g w = some D ∧ BIw T torn w (come w.b.l 0 h) D [] ∧ (∀ e ∈ D, StOk T w e.1) ∧ ∀ e ∈ D, e.2.length ≤ 1300) := by
  unfold m_first_lists
  rw [begin_spec hd, Option.bind_some]
  unfold beginS
  by_cases c : h ∈ w.c.l
  · rw [if_pos c]
    exact .inl ⟨c, rfl⟩
  · rw [if_neg c]
    refine .inr ⟨c, ?_⟩
    obtain ⟨N, e1, hN⟩ := near_spec ht torn
    have hb : StOk T w (come w.b.l 0 h) := ⟨come_1 (by omega) (by omega), by rw [come_2]; exact hh⟩
    have hU : (allS T w).length ≤ 1212 := by
      rw [allS_len]
      have h1 : w.b.l.length + 1 ≤ 101 := by omega
      have h2 : T.b.toNat ≤ 12 := by have := ht.n; omega
      exact Nat.le_trans (Nat.mul_le_mul h1 h2) (by decide)
    obtain ⟨D, h1, h2, h3⟩ := fl_l1 ht hw hb hN 100000 [] [(come w.b.l 0 h, [(come w.b.l 0 h).2])] BI.start (fun e he => by rw [List.mem_singleton.mp he]; exact hb) (fun e he => by rw [List.mem_singleton.mp he]; simp) (by simp; omega)
    refine ⟨D, ?_, h2, h3⟩
    rw [if_neg (by simp), e1]
    simp only [Option.bind_some]
    rw [List.nil_append] at h1
    have h1' : m_first_lists_l1 w N 100000 [some (come w.b.l 0 h)] [(come w.b.l 0 h, [(come w.b.l 0 h).2])] = some ([], D) := h1
    rw [h1', bind2_some]
/-! ### ways by houses -/
def runS (by_ : List Int) : Int × Int → List Int → Int × Int
  | s, [] => s
  | s, x :: xs => runS by_ (come by_ s.1 x) xs
def okW (T : Tn) (torn past : List Int) : Int → List Int → Prop
  | _, [] => True
  | h, x :: xs => x ∈ nb T torn h ∧ x ∉ past ∧ okW T torn past x xs
theorem runS_app (by_ : List Int) : ∀ (xs ys : List Int) (s : Int × Int), runS by_ s (xs ++ ys) = runS by_ (runS by_ s xs) ys
  | [], _, _ => rfl
  | x :: xs, ys, s => runS_app by_ xs ys _
theorem runS_2 (by_ : List Int) : ∀ (xs : List Int) (s : Int × Int), (runS by_ s xs).2 = (s.2 :: xs).getLast (by simp)
  | [], s => rfl
  | x :: xs, s => by
    rw [runS, runS_2 by_ xs]
    show _ = (x :: xs).getLast (by simp)
    simp only [come_2]
theorem okW_app {T : Tn} {torn past : List Int} : ∀ {xs ys : List Int} {h : Int}, okW T torn past h (xs ++ ys) ↔ okW T torn past h xs ∧ okW T torn past ((h :: xs).getLast (by simp)) ys
  | [], ys, h => by simp [okW]
  | x :: xs, ys, h => by
    rw [List.cons_append, okW, okW, okW_app (xs := xs)]
    show _ ↔ _ ∧ okW T torn past ((x :: xs).getLast (by simp)) ys
    constructor
    · rintro ⟨a, b, c, d⟩; exact ⟨⟨a, b, c⟩, d⟩
    · rintro ⟨⟨a, b, c⟩, d⟩; exact ⟨a, b, c, d⟩
theorem wk_iff {T : Tn} {torn : List Int} {w : Wn} {b s : Int × Int} {l : List Int} : Wk (fun s : Int × Int => s.2) (outS T torn w) b s l ↔ ∃ xs, l = b.2 :: xs ∧ okW T torn w.c.l b.2 xs ∧ runS w.b.l b xs = s := by
  constructor
  · intro h
    induction h with
    | one => exact ⟨[], rfl, trivial, rfl⟩
    | @step u l o hw ho ih =>
      obtain ⟨xs, rfl, h2, h3⟩ := ih
      obtain ⟨x, hx, rfl⟩ := List.mem_map.mp ho
      obtain ⟨hx1, hx2⟩ := List.mem_filter.mp hx
      refine ⟨xs ++ [x], by rw [come_2]; rfl, okW_app.mpr ⟨h2, ?_, by simpa using hx2, trivial⟩, ?_⟩
      · have := runS_2 w.b.l xs b
        rw [h3] at this
        rw [← this]
        exact hx1
      · rw [runS_app, h3]; rfl
  · rintro ⟨xs, rfl, h2, rfl⟩
    have go : ∀ n : Nat, ∀ xs : List Int, xs.length = n → okW T torn w.c.l b.2 xs → Wk (fun s : Int × Int => s.2) (outS T torn w) b (runS w.b.l b xs) (b.2 :: xs) := by
      intro n
      induction n with
      | zero =>
        intro xs hx _
        obtain rfl := List.eq_nil_of_length_eq_zero hx
        exact .one
      | succ n ih =>
        intro xs hx ho
        have hne : xs ≠ [] := fun z => by rw [z] at hx; cases hx
        have e := List.dropLast_concat_getLast hne
        obtain ⟨ys, x, rfl⟩ : ∃ ys x, xs = ys ++ [x] := ⟨_, _, e.symm⟩
        obtain ⟨o1, o2⟩ := okW_app.mp ho
        have w1 := ih ys (by simpa using hx) o1
        rw [runS_app]
        have hl := runS_2 w.b.l ys b
        have : runS w.b.l (runS w.b.l b ys) [x] = come w.b.l (runS w.b.l b ys).1 x := rfl
        rw [this]
        have ho : come w.b.l (runS w.b.l b ys).1 x ∈ outS T torn w (runS w.b.l b ys) := by
          refine List.mem_map.mpr ⟨x, List.mem_filter.mpr ⟨?_, by simpa using o2.2.1⟩, rfl⟩
          rw [hl]
          exact o2.1
        have r := Wk.step w1 ho
        rw [come_2] at r
        exact r
    exact go xs.length xs rfl h2
/-- a list of houses that is a way: from h to gh, by these, past those -/
def ValW (T : Tn) (torn : List Int) (by_ past : List Int) (h gh : Int) (l : List Int) : Prop :=
  ∃ xs, l = h :: xs ∧ h ∉ past ∧ okW T torn past h xs ∧ runS by_ (come by_ 0 h) xs = (((by_.length : Nat) : Int), gh)
def withinW (e : Option Int) (l : List Int) : Prop := ∀ m, e = some m → (l.length : Int) ≤ m + 1
def bestW (T : Tn) (torn : List Int) (by_ past : List Int) (h gh : Int) (l : List Int) : Prop := ValW T torn by_ past h gh l ∧ ∀ l', ValW T torn by_ past h gh l' → Le2 l l'
theorem bestW_uniq {T : Tn} {torn by_ past : List Int} {h gh : Int} {l l' : List Int} (h1 : bestW T torn by_ past h gh l) (h2 : bestW T torn by_ past h gh l') : l = l' := (h1.2 _ h2.1).anti (h2.2 _ h1.1)
def trip (e : (Int × Int) × List Int) : T3 Int Int Int := ⟨e.1.1, e.1.2, ((e.2.length : Nat) : Int) - 1⟩
theorem way_c1 : ∀ D : List ((Int × Int) × List Int), m_way_c1 D = D.map trip
  | [] => rfl
  | e :: D => by rw [m_way_c1, way_c1 D]; rfl
/-- what way tells -/
inductive WayR (T : Tn) (torn : List Int) (w : Wn) (h gh : Int) : Str × (List Int ⊕ List (T3 Int Int Int)) → Prop
  | way {l : List Int} : bestW T torn w.b.l w.c.l h gh l → withinW w.e l → l.length ≤ 1300 → WayR T torn w h gh ("way", .inl l)
  | none_ {D : List ((Int × Int) × List Int)} : (∀ l, ValW T torn w.b.l w.c.l h gh l → ¬ withinW w.e l) → ((h ∈ w.c.l ∧ D = []) ∨ (h ∉ w.c.l ∧ BIw T torn w (come w.b.l 0 h) D [] ∧ (∀ e ∈ D, StOk T w e.1) ∧ ∀ e ∈ D, e.2.length ≤ 1300)) →
      (((w.b.l.length : Nat) : Int), gh) ∉ D.map (·.1) → WayR T torn w h gh ("none", .inr (sortK (D.map trip)))
theorem way_spec {T : Tn} (ht : TownOk T) {torn : List Int} {w : Wn} (hw : w.b.l.length ≤ 100) {g h gh : Int} (hd : atI T.e g = some h) (hh : 0 ≤ h ∧ h < T.b) (hg : atI T.e w.a = some gh) (hm : ∀ m, w.e = some m → 0 ≤ m) :
    ∃ r, m_way T torn g w = some r ∧ WayR T torn w h gh r := by
  have key : ∀ D, m_first_lists T torn g w = some D → ((h ∈ w.c.l ∧ D = []) ∨ (h ∉ w.c.l ∧ BIw T torn w (come w.b.l 0 h) D [] ∧ (∀ e ∈ D, StOk T w e.1) ∧ ∀ e ∈ D, e.2.length ≤ 1300)) → ∃ r, m_way T torn g w = some r ∧ WayR T torn w h gh r := by
    intro D e1 hD
    unfold m_way m_goal_of
    rw [e1, Option.bind_some, hg, Option.bind_some, Option.bind_some]
    by_cases hk : (((w.b.l.length : Nat) : Int), gh) ∈ D.map (·.1)
    · rw [dval_isS.mpr hk, if_pos rfl]
      obtain ⟨v, hv⟩ := Option.isSome_iff_exists.mp (dval_isS.mpr hk)
      rw [hv, Option.bind_some]
      refine ⟨_, rfl, ?_⟩
      rcases hD with ⟨_, rfl⟩ | ⟨hp, B, hs⟩
      · cases hk
      · have hmem := dval_mem hv
        have wk := B.walks v.length _ hmem (Nat.le_refl _)
        obtain ⟨xs, h1, h2, h3⟩ := wk_iff.mp wk
        rw [come_2] at h1 h2
        have wi : withinW w.e v := fun m hme => by
          have := hm m hme
          rcases B.par _ (by rw [List.append_nil]; exact hmem) with z | ⟨u, _, hx, _, z⟩
          · have z2 : v = [(come w.b.l 0 h).2] := congrArg Prod.snd z
            rw [z2]; simp; omega
          · have z2 : v = u.2 ++ [gh] := z
            have := hx m hme
            rw [z2, List.length_append, List.length_singleton]
            omega
        refine .way ⟨⟨xs, h1, hp, h2, h3⟩, fun l' hl' => ?_⟩ wi (hs.2 _ hmem)
        obtain ⟨ys, e2, _, h5, h6⟩ := hl'
        have wk' : Wk (fun s : Int × Int => s.2) (outS T torn w) (come w.b.l 0 h) (((w.b.l.length : Nat) : Int), gh) l' := wk_iff.mpr ⟨ys, by rw [come_2]; exact e2, by rw [come_2]; exact h5, h6⟩
        by_cases c : withinW w.e l'
        · obtain ⟨l2, h7, h8⟩ := B.best (fun a b hl hb m hme => by have := hb m hme; omega) wk' (by
            by_cases c1 : l'.length = 1
            · exact .inl c1
            · refine .inr fun m hme => ?_
              have := c m hme
              rw [List.length_dropLast]
              have := wk'.ne
              omega)
          have nd := B.nd
          rw [List.append_nil] at nd
          have := dval_nd nd h7
          rw [hv] at this
          rw [Option.some.inj this]
          exact h8
        · have : ∃ m, w.e = some m ∧ ¬ (l'.length : Int) ≤ m + 1 := by
            refine Classical.byContradiction fun z => c fun m hme => Classical.byContradiction fun y => z ⟨m, hme, y⟩
          obtain ⟨m, hme, hlt⟩ := this
          have := wi m hme
          exact .inr (.inl (by omega))
    · have hn : (dval D (((w.b.l.length : Nat) : Int), gh)).isSome = false := Bool.eq_false_iff.mpr fun z => hk (dval_isS.mp z)
      rw [hn, if_neg Bool.false_ne_true, way_c1]
      refine ⟨_, rfl, .none_ (fun l hl wi => ?_) hD hk⟩
      obtain ⟨ys, e2, hp, h5, h6⟩ := hl
      rcases hD with ⟨hp', _⟩ | ⟨_, B, hs⟩
      · exact hp hp'
      · have wk' : Wk (fun s : Int × Int => s.2) (outS T torn w) (come w.b.l 0 h) (((w.b.l.length : Nat) : Int), gh) l := wk_iff.mpr ⟨ys, by rw [come_2]; exact e2, by rw [come_2]; exact h5, h6⟩
        obtain ⟨l2, h7, _⟩ := B.best (fun a b hl hb m hme => by have := hb m hme; omega) wk' (by
            by_cases c1 : l.length = 1
            · exact .inl c1
            · refine .inr fun m hme => ?_
              have := wi m hme
              rw [List.length_dropLast]
              have := wk'.ne
              omega)
        exact hk (List.mem_map.mpr ⟨_, h7, rfl⟩)
  rcases first_spec ht (torn := torn) hw hd hh with ⟨c, e⟩ | ⟨c, D, e, B, hs⟩
  · exact key [] e (.inl ⟨c, rfl⟩)
  · exact key D e (.inr ⟨c, B, hs⟩)
end K28
namespace K28
open PySem PySem.Spec PyProof.Rows L2 TL G
/-! ### the order drawn -/
/-- none twice, one behind the other -/
def Adj (l : List Int) : Prop := ∀ (i : Nat) (x : Int), l[i]? = some x → l[i + 1]? ≠ some x
theorem Adj.nil : Adj [] := fun i x h => by simp at h
theorem Adj.snoc {l : List Int} {r : Int} (h : Adj l) (hr : l.getLast? ≠ some r) : Adj (l ++ [r]) := fun i x h1 h2 => by
  by_cases c : i + 1 < l.length
  · rw [List.getElem?_append_left (by omega)] at h1
    rw [List.getElem?_append_left c] at h2
    exact h i x h1 h2
  · by_cases d : i + 1 = l.length
    · rw [List.getElem?_append_left (by omega)] at h1
      rw [List.getElem?_append_right (by omega), d, Nat.sub_self] at h2
      have e : r = x := by simpa using h2
      refine hr ?_
      rw [List.getLast?_eq_getElem?, ← d, Nat.add_sub_cancel, e]
      exact h1
    · rw [List.getElem?_eq_none (by rw [List.length_append, List.length_singleton]; omega)] at h2
      cases h2
structure WantOk (T : Tn) (w : Wn) : Prop where
  door : 0 ≤ w.a ∧ w.a < T.e.length
  by3 : w.b.l.length ≤ 3
  byr : ∀ x ∈ w.b.l, 0 ≤ x ∧ x < T.b
  adj : Adj w.b.l
  past3 : w.c.l.length ≤ 3
  pup : w.c.l.Pairwise (· < ·)
  pr : ∀ x ∈ w.c.l, 0 ≤ x ∧ x < T.b
  most : ∀ m, w.e = some m → 0 ≤ m
theorem wd_l1 {T : Tn} (hn : 1 ≤ T.b ∧ T.b ≤ 12) : ∀ (l f : List Int) (b : Bag), BOk b → f.length + l.length ≤ 1000 → (∀ x ∈ f, 0 ≤ x ∧ x < T.b) → Adj f →
    O2 BOk (m_l_want_drawn_l1 T l f b) (fun r => r.length ≤ f.length + l.length ∧ (∀ x ∈ r, 0 ≤ x ∧ x < T.b) ∧ Adj r)
  | [], f, b, hb, _, hf, ha => O2.ret hb ⟨Nat.le_refl _, hf, ha⟩
  | k :: l, f, b, hb, hl, hf, ha => by
    rw [List.length_cons] at hl
    unfold m_l_want_drawn_l1
    refine O2.bind (draw_O hb (by omega) (by omega)) fun r b hb hr => ?_
    obtain ⟨c, ec⟩ : ∃ c, (if (eqD f ([] : List Int)) = true then some true else (Option.bind (atI f (-(1 : Int))) fun t80 => some ((neI t80 r)))) = some c ∧ (c = true → f.getLast? ≠ some r) := by
      rcases List.eq_nil_or_concat f with e | ⟨a, x, e⟩
      · rw [e, eqD_refl, if_pos rfl]; exact ⟨true, rfl, fun _ z => by simp at z⟩
      · rw [List.concat_eq_append] at e
        rw [e, eqD_false (by simp), if_neg Bool.false_ne_true, atI_last]
        refine ⟨_, rfl, fun z q => ?_⟩
        rw [List.getLast?_concat] at q
        unfold neI at z
        rw [Option.some.inj q] at z
        simp at z
    obtain ⟨ec, hcl⟩ := ec
    rw [ec, Option.bind_some]
    refine O2.ite (fun hct => ?_) (fun _ => ?_)
    · rw [appL_some (by omega), Option.bind_some]
      refine (wd_l1 hn l (f ++ [r]) b hb (by rw [List.length_append, List.length_singleton]; omega) (fun x hx => by
        rcases List.mem_append.mp hx with hx | hx
        · exact hf x hx
        · rw [List.mem_singleton.mp hx]; exact hr) (ha.snoc (hcl hct))).imp fun r2 h => ⟨?_, h.2⟩
      have := h.1
      rw [List.length_append, List.length_singleton] at this
      rw [List.length_cons]
      omega
    · refine (wd_l1 hn l f b hb (by omega) hf ha).imp fun r2 h => ⟨by rw [List.length_cons]; have := h.1; omega, h.2⟩
theorem wd_c2 {T : Tn} (hn : 1 ≤ T.b ∧ T.b ≤ 12) : ∀ (l : List Int) (b : Bag), BOk b → O2 BOk (m_l_want_drawn_c2 T l b) (fun r => r.length = l.length ∧ ∀ x ∈ r, 0 ≤ x ∧ x < T.b)
  | [], b, hb => O2.ret hb ⟨rfl, fun _ h => nomatch h⟩
  | x :: l, b, hb => by
    unfold m_l_want_drawn_c2
    refine O2.bind (draw_O hb (by omega) (by omega)) fun r b hb hr => ?_
    refine O2.bind (wd_c2 hn l b hb) fun r2 b hb h => O2.ret hb ⟨by rw [List.length_cons, List.length_cons, h.1], fun x hx => ?_⟩
    rcases List.mem_cons.mp hx with rfl | hx
    · exact hr
    · exact h.2 x hx
theorem want_O {b : Bag} {T : Tn} (hb : BOk b) (ht : TownOk T) : O2 BOk (m_l_want_drawn b T) (WantOk T) := by
  have hn := ht.n
  have hd := ht.some_
  unfold m_l_want_drawn
  refine O2.bind (draw_O hb (by decide) (by decide)) fun r1 b hb h1 => ?_
  refine O2.bind1 (rangeO1_O (P := fun l => l = rangeL 0 r1.toNat) (by omega) (by omega) rfl) fun l hl => ?_
  subst hl
  refine O2.bind (wd_l1 hn (rangeL 0 r1.toNat) [] b hb (by rw [rangeL_len]; simp; omega) (fun _ h => nomatch h) Adj.nil) fun f b hb hf => ?_
  rw [rangeL_len] at hf
  refine O2.bind (draw_O hb (by decide) (by decide)) fun r2 b hb h2 => ?_
  refine O2.bind1 (P := fun x => 0 ≤ x ∧ x ≤ 3) (atI_O h2.1 h2.2 fun x hx => ?_) fun x hx => ?_
  · simp only [List.mem_cons, List.not_mem_nil, or_false] at hx
    omega
  refine O2.bind1 (rangeO1_O (P := fun l => l = rangeL 0 x.toNat) (by omega) (by omega) rfl) fun l hl => ?_
  subst hl
  refine O2.bind (wd_c2 hn (rangeL 0 x.toNat) b hb) fun ps b hb hps => ?_
  rw [rangeL_len] at hps
  refine O2.bind1 (P := fun p => p = ssort ps) ⟨ssort ps, by unfold ssetO; rw [if_pos (by omega)], rfl⟩ fun p hp => ?_
  subst hp
  refine O2.bind (draw_O hb (by decide) (by decide)) fun r3 b hb h3 => ?_
  refine O2.bind (draw_O hb (by decide) (by decide)) fun r4 b hb h4 => ?_
  refine O2.bind (draw_O hb (by decide) (by decide)) fun r5 b hb h5 => ?_
  refine O2.bind1 (P := fun e => ∀ m, e = some m → 0 ≤ m) (atI_O h5.1 h5.2 fun e he => ?_) fun e he => ?_
  · simp only [List.mem_cons, List.not_mem_nil, or_false] at he
    intro m hm
    rcases he with rfl | rfl | rfl | rfl | rfl
    · cases hm
    · cases hm
    · rw [← Option.some.inj hm]; exact h3.1
    · rw [← Option.some.inj hm]; exact h4.1
    · rw [← Option.some.inj hm]; decide
  refine O2.bind (draw_O hb (by omega) (by omega)) fun r6 b hb h6 => ?_
  refine O2.ret hb ⟨h6, ?_, hf.2.1, hf.2.2, ?_, ssort_sorted ps, fun x hx => hps.2 x (ssort_mem.mp hx), he⟩
  · have := hf.1
    show f.length ≤ 3
    simp at this
    omega
  · have := ssort_len ps
    show (ssort ps).length ≤ 3
    omega
end K28
namespace K28
open PySem PySem.Spec PyProof.Rows L2 TL G
/-! ### stands that are told -/
abbrev Told := Str × (List Int ⊕ List (T3 Int Int Int))
theorem told_refl : ∀ t : Told, eqD t t = true
  | (s, .inl l) => eqD_refl ((s, l) : Str × List Int)
  | (s, .inr l) => eqD_refl ((s, l) : Str × List (T3 Int Int Int))
def HD (T : Tn) (torn : List Int) (w : Wn) (h : Int) (D : List ((Int × Int) × List Int)) : Prop :=
  (h ∈ w.c.l ∧ D = []) ∨ (h ∉ w.c.l ∧ BIw T torn w (come w.b.l 0 h) D [] ∧ (∀ e ∈ D, StOk T w e.1) ∧ ∀ e ∈ D, e.2.length ≤ 1300)
theorem HD.nd {T : Tn} {A : List Int} {w : Wn} {h : Int} {D : List ((Int × Int) × List Int)} (k : HD T A w h D) : (D.map (·.1)).Nodup := by
  rcases k with ⟨_, rfl⟩ | ⟨_, k, _⟩
  · exact List.Pairwise.nil
  · have := k.nd
    rwa [List.append_nil] at this
/-- the best walk to a stand -/
def BestTo (T : Tn) (torn : List Int) (w : Wn) (h : Int) (s : Int × Int) (l : List Int) : Prop :=
  Wk (fun s : Int × Int => s.2) (outS T torn w) (come w.b.l 0 h) s l ∧ ∀ l', Wk (fun s : Int × Int => s.2) (outS T torn w) (come w.b.l 0 h) s l' → Le2 l l'
section
variable {T : Tn} {torn : List Int} {w : Wn} {h : Int} {D : List ((Int × Int) × List Int)}
theorem goes_mono : ∀ a b : List Int, a.length ≤ b.length → goesOn w b → goesOn w a := fun a b hl hb m hme => by have := hb m hme; omega
theorem within_cond {l : List Int} (h0 : 0 < l.length) (hw : withinW w.e l) : l.length = 1 ∨ goesOn w l.dropLast := by
  by_cases c : l.length = 1
  · exact .inl c
  · refine .inr fun m hme => ?_
    have := hw m hme
    rw [List.length_dropLast]
    omega
theorem HD.within (k : HD T torn w h D) (hm : ∀ m, w.e = some m → 0 ≤ m) : ∀ e ∈ D, withinW w.e e.2 := by
  rcases k with ⟨_, rfl⟩ | ⟨_, B, _⟩
  · exact fun _ z => nomatch z
  · intro e he m hme
    rcases B.par e (by rw [List.append_nil]; exact he) with z | ⟨u, _, hu, _, z⟩
    · have := hm m hme
      rw [z]
      simp
      omega
    · have := hu m hme
      rw [z, List.length_append, List.length_singleton]
      omega
theorem HD.mem (k : HD T torn w h D) (hm : ∀ m, w.e = some m → 0 ≤ m) {s : Int × Int} {l : List Int} : (s, l) ∈ D ↔ h ∉ w.c.l ∧ BestTo T torn w h s l ∧ withinW w.e l := by
  have wi := k.within hm
  have nd := k.nd
  rcases k with ⟨hp, rfl⟩ | ⟨hp, B, _⟩
  · exact ⟨fun z => (List.not_mem_nil z).elim, fun z => absurd hp z.1⟩
  · constructor
    · intro he
      have wk := B.walks l.length (s, l) he (Nat.le_refl _)
      refine ⟨hp, ⟨wk, fun l' w' => ?_⟩, wi _ he⟩
      by_cases c : withinW w.e l'
      · obtain ⟨l2, h1, h2⟩ := B.best goes_mono w' (within_cond w'.ne c)
        have e1 := dval_nd nd he
        rw [dval_nd nd h1] at e1
        rw [← Option.some.inj e1]
        exact h2
      · refine .inr (.inl ?_)
        obtain ⟨m, c⟩ := Classical.not_forall.mp c
        obtain ⟨hme, c⟩ := Classical.not_imp.mp c
        have := wi _ he m hme
        simp only at this
        omega
    · rintro ⟨_, ⟨wk, hb⟩, hwi⟩
      obtain ⟨l2, h1, h2⟩ := B.best goes_mono wk (within_cond wk.ne hwi)
      rw [(hb l2 (B.walks _ (s, l2) h1 (Nat.le_refl _))).anti h2]
      exact h1
theorem trip_inj {e e' : (Int × Int) × List Int} (h : trip e = trip e') : e.1 = e'.1 := by
  have h1 := congrArg T3.a h
  have h2 := congrArg T3.b h
  exact Prod.ext h1 h2
theorem HD.tnd (k : HD T torn w h D) : (D.map trip).Nodup := by
  have nd := k.nd
  unfold List.Nodup at nd ⊢
  rw [List.pairwise_map] at nd ⊢
  exact nd.imp fun {a b} z e => z (trip_inj e)
/-- within fewer ties: those of the stands that have so few -/
theorem few_eq {D' : List ((Int × Int) × List Int)} {a m : Int} (k : HD T torn w h D) (k' : HD T torn ⟨a, w.b, w.c, some m⟩ h D') (hm : ∀ M, w.e = some M → m ≤ M) (h0 : 0 ≤ m) :
    sortK (D'.map trip) = (sortK (D.map trip)).filter fun e => decide (e.c ≤ m) := by
  have hm0 : ∀ M, w.e = some M → 0 ≤ M := fun M hM => Int.le_trans h0 (hm M hM)
  have hm' : ∀ M, (⟨a, w.b, w.c, some m⟩ : Wn).e = some M → 0 ≤ M := fun M hM => by cases hM; exact h0
  refine sortK_uniq ?_ ((sortK_sorted _).filter _)
  refine (List.perm_ext_iff_of_nodup (((sortK_perm _).nodup_iff.mpr k.tnd).filter _) k'.tnd).mpr fun x => ?_
  rw [List.mem_filter, (sortK_perm _).mem_iff, List.mem_map, List.mem_map, decide_eq_true_iff]
  constructor
  · rintro ⟨⟨⟨s, l⟩, he, rfl⟩, hc⟩
    obtain ⟨h1, h2, h3⟩ := (k.mem hm0).mp he
    refine ⟨(s, l), (k'.mem hm').mpr ⟨h1, h2, fun M hM => ?_⟩, rfl⟩
    cases hM
    unfold trip at hc
    simp only at hc
    omega
  · rintro ⟨⟨s, l⟩, he, rfl⟩
    obtain ⟨h1, h2, h3⟩ := (k'.mem hm').mp he
    have h4 := h3 m rfl
    refine ⟨⟨(s, l), (k.mem hm0).mpr ⟨h1, h2, fun M hM => ?_⟩, rfl⟩, ?_⟩
    · have := hm M hM; omega
    · unfold trip; simp only; omega
/-- few ties to a stand -/
theorem HD.short (ht : TownOk T) (k : HD T torn w h D) (hb : w.b.l.length ≤ 3) : ∀ e ∈ D, e.2.length ≤ 48 := by
  rcases k with ⟨_, rfl⟩ | ⟨_, B, hs, _⟩
  · exact fun _ z => nomatch z
  · have go : ∀ (n : Nat) (e : (Int × Int) × List Int), e ∈ D → e.2.length = n + 1 → ∀ j, j ≤ n → ∃ e' ∈ D, e'.2.length = j + 1 := by
      intro n
      induction n with
      | zero => exact fun e he hl j hj => ⟨e, he, by omega⟩
      | succ n ih =>
        intro e he hl j hj
        by_cases c : j = n + 1
        · exact ⟨e, he, by omega⟩
        · rcases B.par e (by rw [List.append_nil]; exact he) with z | ⟨u, hu, _, _, z⟩
          · rw [z] at hl; simp at hl
          · rw [z, List.length_append, List.length_singleton] at hl
            exact ih u hu (by omega) j (by omega)
    intro e he
    have few := B.few (U := allS T w) fun s ⟨l, hl⟩ => mem_allS (hs _ (by rw [List.append_nil] at hl; exact hl))
    have hU : (allS T w).length ≤ 48 := by
      rw [allS_len]
      have h2 : T.b.toNat ≤ 12 := by have := ht.n; omega
      exact Nat.le_trans (Nat.mul_le_mul (show w.b.l.length + 1 ≤ 4 by omega) h2) (by decide)
    have h0 : 0 < e.2.length := (B.walks _ e he (Nat.le_refl _)).ne
    have sub : ∀ j ∈ List.range e.2.length, j ∈ D.map fun e => e.2.length - 1 := fun j hj => by
      have hj := List.mem_range.mp hj
      obtain ⟨e', he', z⟩ := go (e.2.length - 1) e he (by omega) j (by omega)
      exact List.mem_map.mpr ⟨e', he', by omega⟩
    have := len_same.go (List.nodup_range (n := e.2.length)) sub
    rw [List.length_range, List.length_map] at this
    rw [List.length_nil] at few
    omega
/-! ### the judge of no way -/
def firstK {α : Type} (p : Nat → α → Bool) : Nat → List α → Option Nat
  | _, [] => none
  | k, x :: xs => if p k x = true then some k else firstK p (k + 1) xs
theorem firstK_none {α : Type} {p : Nat → α → Bool} : ∀ {xs : List α} {k : Nat}, firstK p k xs = none ↔ ∀ i x, xs[i]? = some x → p (k + i) x = false
  | [], k => by simp [firstK]
  | y :: xs, k => by
    rw [firstK]
    by_cases c : p k y = true
    · rw [if_pos c]
      refine ⟨fun z => (nomatch z), fun z => ?_⟩
      have := z 0 y rfl
      rw [Nat.add_zero, c] at this
      cases this
    · rw [if_neg c, firstK_none]
      constructor
      · intro z i x hx
        cases i with
        | zero =>
          have : y = x := by simpa using hx
          subst this
          simpa using c
        | succ i => have := z i x (by simpa using hx); rwa [Nat.add_assoc, Nat.add_comm 1 i] at this
      · intro z i x hx
        have := z (i + 1) x (by simpa using hx)
        rwa [Nat.add_assoc, Nat.add_comm 1 i]
abbrev FT := Option ((T1 Str) ⊕ (Str × Int))
def entryOk (T : Tn) (w : Wn) (e : T3 Int Int Int) : Bool :=
  decide (((0 ≤ e.b ∧ e.b < T.b) ∧ e.b ∉ w.c.l ∧ 0 ≤ e.a ∧ e.a ≤ w.b.l.length) ∧ come w.b.l e.a e.b = (e.a, e.b) ∧ 0 ≤ e.c ∧ e.c ≤ w.e.getD 48)
theorem entry_spec (e : T3 Int Int Int) : m_is_entry T w e = some (entryOk T w e) := by
  unfold m_is_entry entryOk
  by_cases c : ((0 ≤ e.b ∧ e.b < T.b) ∧ e.b ∉ w.c.l ∧ 0 ≤ e.a ∧ e.a ≤ w.b.l.length)
  · obtain ⟨⟨c1, c2⟩, c3, c4, c5⟩ := c
    rw [if_neg (by simp [c1, c2, c3, c4]; omega), come_spec c4, Option.bind_some]
    by_cases d : come w.b.l e.a e.b = (e.a, e.b)
    · rw [eqD_iff.mpr d, if_pos rfl]
      by_cases f : 0 ≤ e.c
      · rw [decide_eq_true f, if_pos rfl]
        cases hw : w.e with
        | none => simp [c1, c2, c3, c4, c5, d, f]
        | some m => simp [c1, c2, c3, c4, c5, d, f]
      · rw [decide_eq_false f, if_neg Bool.false_ne_true]
        simp [f]
    · rw [eqD_false d, if_neg Bool.false_ne_true]
      simp [d]
  · rw [if_pos, decide_eq_false (fun z => c z.1)]
    rw [Bool.or_eq_true, Bool.or_eq_true, Bool.not_eq_true', Bool.not_eq_true', Bool.and_eq_false_iff, Bool.and_eq_false_iff, decide_eq_true_iff, decide_eq_false_iff_not, decide_eq_false_iff_not, decide_eq_false_iff_not, decide_eq_false_iff_not]
    by_cases c1 : 0 ≤ e.b
    · by_cases c2 : e.b < T.b
      · by_cases c3 : e.b ∈ w.c.l
        · exact .inr (.inl c3)
        · by_cases c4 : 0 ≤ e.a
          · exact .inr (.inr (.inr fun z => c ⟨⟨c1, c2⟩, c3, c4, z⟩))
          · exact .inr (.inr (.inl c4))
      · exact .inl (.inr c2)
    · exact .inl (.inl c1)
/-- not above the one ahead -/
def lowAt (S : List (T3 Int Int Int)) (k : Nat) (e : T3 Int Int Int) : Bool := decide (0 < k) && (match S[k - 1]? with | some t => !ltD (t.a, t.b) (e.a, e.b) | none => false)
def bad1 (T : Tn) (w : Wn) (S : List (T3 Int Int Int)) (k : Nat) (e : T3 Int Int Int) : Bool := !entryOk T w e || lowAt S k e
theorem drop_tl {α : Type} {S : List α} {k : Nat} {x : α} {xs : List α} (h : S.drop k = x :: xs) : S.drop (k + 1) = xs := by rw [← List.drop_drop, h]; rfl
theorem drop_hd {α : Type} {S : List α} {k : Nat} {x : α} {xs : List α} (h : S.drop k = x :: xs) : S[k]? = some x := by
  have : (S.drop k)[0]? = some x := by rw [h]; rfl
  rwa [List.getElem?_drop, Nat.add_zero] at this
theorem nf_l1 (S : List (T3 Int Int Int)) : ∀ (rest : List (T3 Int Int Int)) (k : Nat), S.drop k = rest →
    m_none_fault_l1 T w S (List.zip (rangeL ((k : Nat) : Int) rest.length) rest) = some (match firstK (bad1 T w S) k rest with | none => .go () | some j => .ret (some (.inr ("order", ((j : Nat) : Int)))))
  | [], k, _ => rfl
  | e :: rest, k, hk => by
    rw [List.length_cons, rangeL_cons, List.zip_cons_cons, m_none_fault_l1, entry_spec, Option.bind_some, firstK]
    have ih := nf_l1 S rest (k + 1) (drop_tl hk)
    have hz : ((k : Nat) : Int) + 1 = ((k + 1 : Nat) : Int) := by omega
    have key : (if (!entryOk T w e) = true then some true else (Option.bind (if (decide ((0 : Int) < ((k : Nat) : Int))) = true then (Option.bind (atI S (((k : Nat) : Int) - (1 : Int))) fun t75 => some ((!ltD (t75.a, t75.b) (e.a, e.b)))) else some false) fun c42 => some (c42))) = some (bad1 T w S k e) := by
      unfold bad1 lowAt
      cases entryOk T w e with
      | false => rfl
      | true =>
        rw [if_neg (by decide)]
        by_cases c : 0 < k
        · obtain ⟨j, rfl⟩ : ∃ j, k = j + 1 := ⟨k - 1, by omega⟩
          have hl : j < S.length := by have := (List.getElem?_eq_some_iff.mp (drop_hd hk)).1; omega
          rw [decide_eq_true (by omega : (0 : Int) < ((j + 1 : Nat) : Int)), if_pos rfl, show ((j + 1 : Nat) : Int) - 1 = ((j : Nat) : Int) by omega, atI_nat (List.getElem?_eq_getElem hl), Option.bind_some, Option.bind_some, Nat.add_sub_cancel, List.getElem?_eq_getElem hl]
          simp
        · rw [decide_eq_false (by omega : ¬ (0 : Int) < ((k : Nat) : Int)), if_neg Bool.false_ne_true, decide_eq_false c]
          rfl
    have key2 : (if (!entryOk T w (((k : Nat) : Int), e).2) = true then some true else (Option.bind (if (decide ((0 : Int) < (((k : Nat) : Int), e).1)) = true then (Option.bind (atI S ((((k : Nat) : Int), e).1 - (1 : Int))) fun t75 => some ((!ltD (t75.a, t75.b) ((((k : Nat) : Int), e).2.a, (((k : Nat) : Int), e).2.b)))) else some false) fun c42 => some (c42))) = some (bad1 T w S k e) := key
    rw [key2, Option.bind_some]
    by_cases c : bad1 T w S k e = true
    · rw [c, if_pos rfl, if_pos rfl]
    · rw [if_neg c, if_neg c, hz]
      exact ih
theorem nf_l2 {gh : Int} (hg : atI T.e w.a = some gh) : ∀ (rest : List (T3 Int Int Int)) (k : Nat),
    m_none_fault_l2 T w (List.zip (rangeL ((k : Nat) : Int) rest.length) rest) = some (match firstK (fun _ e => eqD (e.a, e.b) (((w.b.l.length : Nat) : Int), gh)) k rest with | none => .go () | some j => .ret (some (.inr ("goal", ((j : Nat) : Int)))))
  | [], k => rfl
  | e :: rest, k => by
    have eg : m_goal_of T w = some (((w.b.l.length : Nat) : Int), gh) := by
      unfold m_goal_of
      rw [hg]
      rfl
    rw [List.length_cons, rangeL_cons, List.zip_cons_cons, m_none_fault_l2, eg, Option.bind_some, firstK]
    have ih := nf_l2 hg rest (k + 1)
    have hz : ((k : Nat) : Int) + 1 = ((k + 1 : Nat) : Int) := by omega
    by_cases c : eqD (e.a, e.b) (((w.b.l.length : Nat) : Int), gh) = true
    · rw [if_pos c, if_pos c]
    · rw [if_neg c, if_neg c, hz]
      exact ih
def badT (d : List ((Int × Int) × Int)) (ties : Int) (o : Int × Int) : Bool := match dval d o with | none => true | some v => decide (ties + 1 < v)
theorem oe_l3 (d : List ((Int × Int) × Int)) (k ties : Int) : ∀ os : List (Int × Int), m_open_entry_l3 d k ties os = some (if os.any (badT d ties) = true then .ret (.ret (some k)) else .go ())
  | [] => rfl
  | o :: os => by
    rw [m_open_entry_l3, List.any_cons, oe_l3 d k ties os]
    have key : (if (!((dval d o).isSome)) = true then some true else (Option.bind (dval d o) fun t179 => some ((decide ((ties + (1 : Int)) < t179))))) = some (badT d ties o) := by
      unfold badT
      cases dval d o <;> rfl
    rw [key, Option.bind_some]
    cases badT d ties o with
    | true => rfl
    | false => rw [if_neg Bool.false_ne_true, Bool.false_or]
/-- whether ties are led on behind so many -/
def goB (o : Option Int) (c : Int) : Bool := match o with | none => true | some m => decide (c < m)
def openE (T : Tn) (torn : List Int) (w : Wn) (d : List ((Int × Int) × Int)) (e : T3 Int Int Int) : Bool :=
  goB w.e e.c && (outS T torn w (e.a, e.b)).any (badT d e.c)
theorem oe_l2 {N : List (List Int)} (hN : ∀ h, 0 ≤ h → h < T.b → atI N h = some (nb T torn h)) (d : List ((Int × Int) × Int)) : ∀ (rest : List (T3 Int Int Int)) (k : Nat), (∀ e ∈ rest, 0 ≤ e.a ∧ 0 ≤ e.b ∧ e.b < T.b) →
    m_open_entry_l2 N w d (List.zip (rangeL ((k : Nat) : Int) rest.length) rest) = some (match firstK (fun _ e => openE T torn w d e) k rest with | none => .go () | some j => .ret (some ((j : Nat) : Int)))
  | [], k, _ => rfl
  | e :: rest, k, he => by
    obtain ⟨a0, b0, b1⟩ := he e (List.mem_cons_self ..)
    have ih := oe_l2 hN d rest (k + 1) fun x hx => he x (List.mem_cons_of_mem _ hx)
    have hz : ((k : Nat) : Int) + 1 = ((k + 1 : Nat) : Int) := by omega
    rw [List.length_cons, rangeL_cons, List.zip_cons_cons, m_open_entry_l2, firstK]
    have key : (if (w.e).isNone = true then some true else (Option.bind (w.e) fun t125 => some ((decide (e.c < t125))))) = some (goB w.e e.c) := by
      unfold goB
      cases w.e <;> rfl
    have key2 : (if (w.e).isNone = true then some true else (Option.bind (w.e) fun t125 => some ((decide ((((k : Nat) : Int), e).2.c < t125))))) = some (goB w.e e.c) := key
    rw [key2, Option.bind_some]
    unfold openE
    generalize hq : goB w.e e.c = q
    cases q with
    | true =>
      rw [if_pos rfl, leads_spec hN a0 ⟨b0, b1⟩, Option.bind_some, oe_l3, Bool.true_and]
      by_cases c : (outS T torn w (e.a, e.b)).any (badT d e.c) = true
      · have c2 : (outS T torn w ((((k : Nat) : Int), e).2.a, (((k : Nat) : Int), e).2.b)).any (badT d (((k : Nat) : Int), e).2.c) = true := c
        rw [if_pos c2, if_pos c]
        rfl
      · have c2 : ¬ (outS T torn w ((((k : Nat) : Int), e).2.a, (((k : Nat) : Int), e).2.b)).any (badT d (((k : Nat) : Int), e).2.c) = true := c
        rw [if_neg c2, if_neg c, bL0_go, hz]
        exact ih
    | false =>
      rw [if_neg Bool.false_ne_true, Bool.false_and, if_neg Bool.false_ne_true, hz]
      exact ih
def kvs3 (S : List (T3 Int Int Int)) : List ((Int × Int) × Int) := S.map fun e => ((e.a, e.b), e.c)
theorem oe_c1 : ∀ l : List (T3 Int Int Int), m_open_entry_c1 l = kvs3 l
  | [] => rfl
  | e :: l => by rw [m_open_entry_c1, oe_c1 l]; rfl
theorem oe_spec {N : List (List Int)} (hN : ∀ h, 0 ≤ h → h < T.b → atI N h = some (nb T torn h)) {S : List (T3 Int Int Int)} (hS : ∀ e ∈ S, 0 ≤ e.a ∧ 0 ≤ e.b ∧ e.b < T.b) :
    m_open_entry N w S = some ((firstK (fun _ e => openE T torn w (dputAll [] (kvs3 S)) e) 0 S).map fun j => ((j : Nat) : Int)) := by
  unfold m_open_entry
  rw [oe_c1, Option.bind_some]
  have := oe_l2 (torn := torn) (w := w) hN (dputAll [] (kvs3 S)) S 0 hS
  rw [show (0 : Int) = ((0 : Nat) : Int) from rfl, this]
  cases firstK (fun _ e => openE T torn w (dputAll [] (kvs3 S)) e) 0 S <;> rfl
/-- what the judge tells -/
def nfS (T : Tn) (torn : List Int) (w : Wn) (h gh : Int) (S : List (T3 Int Int Int)) : FT :=
  match firstK (bad1 T w S) 0 S with
  | some k => some (.inr ("order", ((k : Nat) : Int)))
  | none => match beginS T w h with
    | none => if S = [] then none else some (.inl ⟨"start"⟩)
    | some b => if (⟨b.1, b.2, 0⟩ : T3 Int Int Int) ∉ S then some (.inl ⟨"start"⟩) else
      match firstK (fun _ e => eqD (e.a, e.b) (((w.b.l.length : Nat) : Int), gh)) 0 S with
      | some k => some (.inr ("goal", ((k : Nat) : Int)))
      | none => match firstK (fun _ e => openE T torn w (dputAll [] (kvs3 S)) e) 0 S with
        | some k => some (.inr ("step", ((k : Nat) : Int)))
        | none => none
theorem bad1_none {S : List (T3 Int Int Int)} (h1 : firstK (bad1 T w S) 0 S = none) : ∀ e ∈ S, entryOk T w e = true := by
  intro e he
  obtain ⟨i, hi⟩ := List.mem_iff_getElem?.mp he
  have := firstK_none.mp h1 i e hi
  unfold bad1 at this
  rw [Bool.or_eq_false_iff] at this
  simpa using this.1
theorem nf_spec (ht : TownOk T) {g gh : Int} (hd : atI T.e g = some h) (hg : atI T.e w.a = some gh) (S : List (T3 Int Int Int)) : m_none_fault T torn g w S = some (nfS T torn w h gh S) := by
  have e1 := nf_l1 (T := T) (w := w) S S 0 rfl
  unfold m_none_fault nfS
  rw [show (0 : Int) = ((0 : Nat) : Int) from rfl, e1]
  cases h1 : firstK (bad1 T w S) 0 S with
  | some k => rfl
  | none =>
    simp only []
    rw [bL0_go, begin_spec hd, Option.bind_some]
    cases hb : beginS T w h with
    | none =>
      simp only [Option.isNone_none, if_true]
      by_cases c : S = []
      · rw [if_pos c, c, eqD_refl]; rfl
      · rw [if_neg c, eqD_false c]; rfl
    | some b =>
      simp only [Option.isNone_some, Bool.false_eq_true, if_false, Option.bind_some]
      by_cases c : (⟨b.1, b.2, 0⟩ : T3 Int Int Int) ∈ S
      · have c2 : inD (T3.mk b.1 b.2 (T1.mk (((0 : Nat) : Int))).a) S = true := inD_true c
        rw [c2, if_neg (by decide), if_neg (by simpa using c)]
        have e2 := nf_l2 (T := T) hg S 0
        rw [e2]
        cases h2 : firstK (fun _ e => eqD (e.a, e.b) (((w.b.l.length : Nat) : Int), gh)) 0 S with
        | some k => rfl
        | none =>
          simp only []
          obtain ⟨N, e3, hN⟩ := near_spec ht torn
          have hS : ∀ e ∈ S, 0 ≤ e.a ∧ 0 ≤ e.b ∧ e.b < T.b := fun e he => by
            have := bad1_none h1 e he
            unfold entryOk at this
            have := of_decide_eq_true this
            exact ⟨this.1.2.2.1, this.1.1⟩
          rw [bL0_go, e3, Option.bind_some, oe_spec hN hS, Option.bind_some]
          cases h3 : firstK (fun _ e => openE T torn w (dputAll [] (kvs3 S)) e) 0 S with
          | some k => rfl
          | none => rfl
      · have c2 : inD (T3.mk b.1 b.2 (T1.mk (((0 : Nat) : Int))).a) S = false := inD_false c
        rw [c2, if_pos (by decide), if_pos (show ¬ (⟨b.1, b.2, ((0 : Nat) : Int)⟩ : T3 Int Int Int) ∈ S from c)]
end
end K28
namespace K28
open PySem PySem.Spec PyProof.Rows L2 TL G
/-! ### the judge lets by what is told -/
section
variable {T : Tn} {torn : List Int} {w : Wn} {h : Int} {D : List ((Int × Int) × List Int)}
theorem come_geN (by_ : List Int) (d x : Int) : d ≤ (come by_ d x).1 ∧ (come by_ d x).1 ≤ d + 1 := by
  unfold come
  split
  · simp only; omega
  · simp only; omega
theorem come_adj {by_ : List Int} (ha : Adj by_) {d x : Int} (h0 : 0 ≤ d) : come by_ (come by_ d x).1 x = come by_ d x := by
  by_cases c : by_[d.toNat]? = some x
  · have e : come by_ d x = (d + 1, x) := by unfold come; rw [if_pos c]
    rw [e]
    unfold come
    rw [if_neg]
    rw [show (d + 1).toNat = d.toNat + 1 by omega]
    exact ha _ _ c
  · have e : come by_ d x = (d, x) := by unfold come; rw [if_neg c]
    rw [e]
    exact e
theorem wk_come {b s : Int × Int} {l : List Int} (hb : come w.b.l b.1 b.2 = b) (hp : b.2 ∉ w.c.l) (h0 : 0 ≤ b.1) (ha : Adj w.b.l) (k : Wk (fun s : Int × Int => s.2) (outS T torn w) b s l) : come w.b.l s.1 s.2 = s ∧ s.2 ∉ w.c.l ∧ 0 ≤ s.1 := by
  induction k with
  | one => exact ⟨hb, hp, h0⟩
  | @step u l o _ ho ih =>
    obtain ⟨x, hx, rfl⟩ := List.mem_map.mp ho
    have h2 := (List.mem_filter.mp hx).2
    rw [come_2]
    refine ⟨come_adj ha ih.2.2, by simpa using h2, ?_⟩
    have := come_geN w.b.l u.1 x
    have := ih.2.2
    omega
theorem ltD_pp (a b c d : Int) : ltD (a, b) (c, d) = decide (a < c ∨ (a = c ∧ b < d)) := by
  rw [ltD_p2]
  simp only [ltD_int, eqD_dec]
  by_cases h1 : a = c
  · subst h1
    by_cases h2 : b = d
    · subst h2; simp
    · simp [h2]
  · simp [h1]
theorem leK3 {x y : T3 Int Int Int} (h : leK x y = true) : x.a < y.a ∨ (x.a = y.a ∧ x.b ≤ y.b) := by
  have h2 : (!lexLt itemOrd [Sum.inl y.a, Sum.inl y.b, Sum.inl y.c] [Sum.inl x.a, Sum.inl x.b, Sum.inl x.c]) = true := h
  rw [Bool.not_eq_true'] at h2
  obtain ⟨h3, h4⟩ := lex_false.mp h2
  have h3 : ¬ y.a < x.a := of_decide_eq_false h3
  rcases h4 with h4 | h4
  · have : x.a < y.a := of_decide_eq_true h4
    exact .inl this
  · obtain ⟨h5, _⟩ := lex_false.mp h4
    have h5 : ¬ y.b < x.b := of_decide_eq_false h5
    omega
theorem dputAll_new {S β : Type} [DecidableEq S] : ∀ (xs D : List (S × β)), ((D ++ xs).map (·.1)).Nodup → dputAll D xs = D ++ xs
  | [], D, _ => by rw [dputAll, List.append_nil]
  | x :: xs, D, h => by
    rw [dputAll]
    have e : D ++ x :: xs = (D ++ [x]) ++ xs := by simp
    have hx : x.1 ∉ D.map (·.1) := by
      rw [List.map_append, List.map_cons, List.nodup_append] at h
      intro z
      exact h.2.2 _ z _ (List.mem_cons_self ..) rfl
    rw [dput_new hx, e]
    exact dputAll_new xs (D ++ [x]) (e ▸ h)
theorem memS {e : T3 Int Int Int} : e ∈ sortK (D.map trip) ↔ ∃ q ∈ D, trip q = e := by rw [(sortK_perm _).mem_iff, List.mem_map]
theorem HD.keys (k : HD T torn w h D) : ((sortK (D.map trip)).map fun e => (e.a, e.b)).Nodup := by
  refine ((sortK_perm _).map _).nodup_iff.mpr ?_
  rw [List.map_map]
  exact k.nd
theorem told_ok (ht : TownOk T) (hw : WantOk T w) (k : HD T torn w h D) {gh : Int} (hg : (((w.b.l.length : Nat) : Int), gh) ∉ D.map (·.1)) : nfS T torn w h gh (sortK (D.map trip)) = none := by
  have nd := k.keys
  have short := k.short ht hw.by3
  have wi := k.within hw.most
  rcases k with ⟨hp, rfl⟩ | ⟨hp, B, hs, _⟩
  · have e0 : sortK (([] : List ((Int × Int) × List Int)).map trip) = [] := List.eq_nil_of_length_eq_zero (by rw [sortK_len]; rfl)
    unfold nfS beginS
    rw [e0, if_pos hp]
    rfl
  · have hb0 : come w.b.l (come w.b.l 0 h).1 (come w.b.l 0 h).2 = come w.b.l 0 h := by rw [come_2]; exact come_adj hw.adj (by omega)
    have hcm : ∀ q ∈ D, come w.b.l q.1.1 q.1.2 = q.1 ∧ q.1.2 ∉ w.c.l ∧ 0 ≤ q.1.1 := fun q hq =>
      wk_come hb0 (by rw [come_2]; exact hp) (come_geN w.b.l 0 h).1 hw.adj (B.walks _ q hq (Nat.le_refl _))
    have h1 : firstK (bad1 T w (sortK (D.map trip))) 0 (sortK (D.map trip)) = none := by
      refine firstK_none.mpr fun i x hx => ?_
      obtain ⟨q, hq, rfl⟩ := memS.mp (List.mem_of_getElem? hx)
      obtain ⟨c1, c2, c3⟩ := hcm q hq
      have c4 := hs q hq
      have c5 := (B.walks _ q hq (Nat.le_refl _)).ne
      have ok : entryOk T w (trip q) = true := by
        unfold entryOk
        refine decide_eq_true ⟨⟨c4.2, c2, c4.1⟩, c1, ?_, ?_⟩
        · unfold trip; simp only; omega
        · cases he : w.e with
          | none =>
            have := short q hq
            unfold trip
            simp only [Option.getD_none]
            omega
          | some m =>
            have := wi q hq m he
            unfold trip
            simp only [Option.getD_some]
            omega
      unfold bad1
      rw [ok, Nat.zero_add]
      unfold lowAt
      cases i with
      | zero => rfl
      | succ i =>
        have hl := (List.getElem?_eq_some_iff.mp hx).1
        rw [Nat.add_sub_cancel, List.getElem?_eq_getElem (by omega)]
        have so := List.pairwise_iff_getElem.mp (sortK_sorted (D.map trip)) i (i + 1) (by omega) hl (by omega)
        have ne := List.pairwise_iff_getElem.mp nd i (i + 1) (by rw [List.length_map]; omega) (by rw [List.length_map]; exact hl) (by omega)
        rw [List.getElem_map, List.getElem_map] at ne
        rw [(List.getElem?_eq_some_iff.mp hx).2] at so ne
        have l3 := leK3 so
        have lt : ltD ((sortK (D.map trip))[i].a, (sortK (D.map trip))[i].b) ((trip q).a, (trip q).b) = true := by
          rw [ltD_pp]
          refine decide_eq_true ?_
          rcases l3 with z | ⟨z1, z2⟩
          · exact .inl z
          · refine .inr ⟨z1, ?_⟩
            have : (sortK (D.map trip))[i].b ≠ (trip q).b := fun z => ne (Prod.ext z1 z)
            omega
        show (false || (decide (0 < i + 1) && !(ltD ((sortK (D.map trip))[i].a, (sortK (D.map trip))[i].b) ((trip q).a, (trip q).b)))) = false
        rw [lt, Bool.not_true, Bool.and_false]
        rfl
    have h2 : firstK (fun _ e => eqD (e.a, e.b) (((w.b.l.length : Nat) : Int), gh)) 0 (sortK (D.map trip)) = none := by
      refine firstK_none.mpr fun i x hx => eqD_false fun z => hg ?_
      obtain ⟨q, hq, rfl⟩ := memS.mp (List.mem_of_getElem? hx)
      exact List.mem_map.mpr ⟨q, hq, z⟩
    have hk : ((kvs3 (sortK (D.map trip))).map (·.1)).Nodup := by
      unfold kvs3
      rw [List.map_map]
      exact nd
    have ed : dputAll ([] : List ((Int × Int) × Int)) (kvs3 (sortK (D.map trip))) = kvs3 (sortK (D.map trip)) := dputAll_new _ [] hk
    have h3 : firstK (fun _ e => openE T torn w (dputAll [] (kvs3 (sortK (D.map trip)))) e) 0 (sortK (D.map trip)) = none := by
      refine firstK_none.mpr fun i x hx => ?_
      obtain ⟨q, hq, rfl⟩ := memS.mp (List.mem_of_getElem? hx)
      have c5 := (B.walks _ q hq (Nat.le_refl _)).ne
      rw [ed]
      unfold openE
      cases hgo : goB w.e (trip q).c with
      | false => rfl
      | true =>
        rw [Bool.true_and, Bool.eq_false_iff]
        intro z
        obtain ⟨o, ho, hbad⟩ := List.any_eq_true.mp z
        have goes : goesOn w q.2 := fun m hme => by
          rw [hme] at hgo
          have : (trip q).c < m := of_decide_eq_true hgo
          unfold trip at this
          simp only at this
          omega
        obtain ⟨l, hl1, hl2⟩ := B.cl q hq goes o ho
        rw [List.append_nil] at hl1
        have hm : (o, ((l.length : Nat) : Int) - 1) ∈ kvs3 (sortK (D.map trip)) := List.mem_map.mpr ⟨trip (o, l), memS.mpr ⟨_, hl1, rfl⟩, rfl⟩
        unfold badT at hbad
        rw [dval_nd hk hm] at hbad
        have h4 := hl2.len
        rw [List.length_append, List.length_singleton] at h4
        have h5 := of_decide_eq_true hbad
        unfold trip at h5
        simp only at h5
        omega
    have hbg : (⟨(come w.b.l 0 h).1, (come w.b.l 0 h).2, 0⟩ : T3 Int Int Int) ∈ sortK (D.map trip) := memS.mpr ⟨_, by have := B.bg; rw [List.append_nil] at this; exact this, rfl⟩
    have hbe : beginS T w h = some (come w.b.l 0 h) := by unfold beginS; rw [if_neg hp]
    unfold nfS
    rw [h1, hbe]
    simp only []
    rw [if_neg (fun z => z hbg), h2]
    simp only []
    rw [h3]
theorem dputAll_mem {S β : Type} [DecidableEq S] : ∀ (xs D : List (S × β)) {s : S} {v : β}, dval (dputAll D xs) s = some v → (s, v) ∈ xs ∨ dval D s = some v
  | [], D, s, v, h => .inr h
  | x :: xs, D, s, v, h => by
    rw [dputAll] at h
    rcases dputAll_mem xs _ h with z | z
    · exact .inl (List.mem_cons_of_mem _ z)
    · by_cases c : x.1 = s
      · have e : dval (dput D x.1 x.2) s = some x.2 := by rw [← c]; exact dval_put_same _ _ _
        rw [e] at z
        left
        rw [← c, ← Option.some.inj z]
        exact List.mem_cons_self ..
      · right
        rw [dval_put_ne _ _ _ c] at z
        exact z
where
  dval_put_same {S β : Type} [DecidableEq S] (D : List (S × β)) (x : S) (y : β) : dval (dput D x y) x = some y := by
    by_cases c : x ∈ D.map (·.1)
    · have e : dput D x y = D.map (fun p => if p.1 = x then (p.1, y) else p) := by unfold dput; rw [if_pos (dval_isS.mpr c)]
      rw [e]
      clear e
      induction D with
      | nil => cases c
      | cons p D ih =>
        rw [List.map_cons]
        by_cases d : p.1 = x
        · rw [if_pos d]; exact dval_pos d
        · rw [if_neg d, dval_neg d]
          rw [List.map_cons] at c
          rcases List.mem_cons.mp c with z | z
          · exact absurd z.symm d
          · exact ih z
    · rw [dput_new c]
      induction D with
      | nil => exact dval_pos rfl
      | cons p D ih =>
        rw [List.map_cons, List.mem_cons, not_or] at c
        rw [List.cons_append, dval_neg (fun z => c.1 z.symm)]
        exact ih c.2
  dval_put_ne {S β : Type} [DecidableEq S] (D : List (S × β)) (x : S) (y : β) {s : S} (hs : ¬ x = s) : dval (dput D x y) s = dval D s := by
    by_cases c : x ∈ D.map (·.1)
    · have e : dput D x y = D.map (fun p => if p.1 = x then (p.1, y) else p) := by unfold dput; rw [if_pos (dval_isS.mpr c)]
      rw [e]
      clear e c
      induction D with
      | nil => rfl
      | cons p D ih =>
        rw [List.map_cons]
        by_cases d : p.1 = x
        · rw [if_pos d, dval_neg (show ¬ (p.1, y).1 = s from fun z => hs (d ▸ z)), dval_neg (show ¬ p.1 = s from fun z => hs (d ▸ z))]
          exact ih
        · rw [if_neg d]
          by_cases f : p.1 = s
          · rw [dval_pos f, dval_pos f]
          · rw [dval_neg f, dval_neg f]; exact ih
    · rw [dput_new c]
      clear c
      induction D with
      | nil => exact dval_neg hs
      | cons p D ih =>
        rw [List.cons_append]
        by_cases f : p.1 = s
        · rw [dval_pos f, dval_pos f]
        · rw [dval_neg f, dval_neg f]; exact ih
/-- where it lets stands by, no way is -/
theorem nf_sound {gh : Int} {S : List (T3 Int Int Int)} (hn : nfS T torn w h gh S = none) {l : List Int} (v : ValW T torn w.b.l w.c.l h gh l) (hwi : withinW w.e l) : False := by
  obtain ⟨xs, rfl, hp, ho, hr⟩ := v
  have hbe : beginS T w h = some (come w.b.l 0 h) := by unfold beginS; rw [if_neg hp]
  unfold nfS at hn
  rw [hbe] at hn
  cases h1 : firstK (bad1 T w S) 0 S with
  | some k => rw [h1] at hn; cases hn
  | none =>
    rw [h1] at hn
    simp only [] at hn
    by_cases hbg : (⟨(come w.b.l 0 h).1, (come w.b.l 0 h).2, 0⟩ : T3 Int Int Int) ∈ S
    · rw [if_neg (fun z => z hbg)] at hn
      cases h2 : firstK (fun _ e => eqD (e.a, e.b) (((w.b.l.length : Nat) : Int), gh)) 0 S with
      | some k => rw [h2] at hn; cases hn
      | none =>
        rw [h2] at hn
        simp only [] at hn
        cases h3 : firstK (fun _ e => openE T torn w (dputAll [] (kvs3 S)) e) 0 S with
        | some k => rw [h3] at hn; cases hn
        | none =>
          have wk : Wk (fun s : Int × Int => s.2) (outS T torn w) (come w.b.l 0 h) (((w.b.l.length : Nat) : Int), gh) (h :: xs) := wk_iff.mpr ⟨xs, by rw [come_2], by rw [come_2]; exact ho, hr⟩
          have all : ∀ {s : Int × Int} {l : List Int}, Wk (fun s : Int × Int => s.2) (outS T torn w) (come w.b.l 0 h) s l → withinW w.e l → ∃ t ∈ S, (t.a, t.b) = s ∧ t.c ≤ ((l.length : Nat) : Int) - 1 := by
            intro s l k
            induction k with
            | one => exact fun _ => ⟨_, hbg, rfl, by simp⟩
            | @step u l o k ho ih =>
              intro hwi
              have hl : (l ++ [o.2]).length = l.length + 1 := by simp
              obtain ⟨t, ht, e1, e2⟩ := ih (fun m hm => by have := hwi m hm; rw [hl] at this; omega)
              obtain ⟨i, hi⟩ := List.mem_iff_getElem?.mp ht
              have hop := firstK_none.mp h3 i t hi
              unfold openE at hop
              have hgo : goB w.e t.c = true := by
                unfold goB
                cases he : w.e with
                | none => rfl
                | some m =>
                  have := hwi m he
                  rw [hl] at this
                  refine decide_eq_true ?_
                  omega
              rw [hgo, Bool.true_and, e1] at hop
              have hb := List.any_eq_false.mp hop o ho
              unfold badT at hb
              cases hv : dval (dputAll [] (kvs3 S)) o with
              | none => rw [hv] at hb; exact absurd rfl hb
              | some v =>
                rw [hv] at hb
                have hb : ¬ t.c + 1 < v := by simpa using hb
                rcases dputAll_mem _ _ hv with z | z
                · obtain ⟨t2, h4, h5⟩ := List.mem_map.mp z
                  obtain ⟨h6, h7⟩ := Prod.mk.inj h5
                  refine ⟨t2, h4, h6, ?_⟩
                  rw [h7, hl]
                  omega
                · cases z
          obtain ⟨t, ht, e1, _⟩ := all wk hwi
          obtain ⟨i, hi⟩ := List.mem_iff_getElem?.mp ht
          have := firstK_none.mp h2 i t hi
          rw [e1, eqD_refl] at this
          cases this
    · rw [if_pos hbg] at hn
      cases hn
end
end K28
namespace K28
open PySem PySem.Spec PyProof.Rows L2 TL G
/-! ### the law's own -/
section
variable {T : Tn} {torn : List Int}
theorem l_few_c1 (m : Int) : ∀ l : List (T3 Int Int Int), m_l_few_c1 m l = l.filter fun e => decide (e.c ≤ m)
  | [] => rfl
  | e :: l => by
    rw [m_l_few_c1, l_few_c1 m l, List.filter_cons]
theorem few_spec (w : Str) (S : List (T3 Int Int Int)) (m : Int) : m_l_few ((w, .inr S) : Told) m = some ((("none" : Str), .inr (S.filter fun e => decide (e.c ≤ m))) : Told) := by
  unfold m_l_few
  show Option.bind (some S) _ = _
  rw [Option.bind_some, l_few_c1]
/-- the order within so many -/
abbrev wi (w : Wn) (m : Int) : Wn := ⟨w.a, w.b, w.c, some m⟩
theorem wi_ok {w : Wn} (hw : WantOk T w) {m : Int} (h0 : 0 ≤ m) : WantOk T (wi w m) := ⟨hw.door, hw.by3, hw.byr, hw.adj, hw.past3, hw.pup, hw.pr, fun M hM => by cases hM; exact h0⟩
theorem way_same {w : Wn} {h gh : Int} {l : List Int} {r : Told} (hb : bestW T torn w.b.l w.c.l h gh l) (hw : withinW w.e l) (R : WayR T torn w h gh r) : r = ((("way" : Str), .inl l) : Told) := by
  cases R with
  | way b _ _ => rw [bestW_uniq b hb]
  | none_ n _ _ => exact absurd hw (n _ hb.1)
theorem way_none {w : Wn} {h gh : Int} {r : Told} (hn : ∀ l, ValW T torn w.b.l w.c.l h gh l → ¬ withinW w.e l) (R : WayR T torn w h gh r) :
    ∃ D, r = ((("none" : Str), .inr (sortK (D.map trip))) : Told) ∧ HD T torn w h D ∧ (((w.b.l.length : Nat) : Int), gh) ∉ D.map (·.1) := by
  cases R with
  | way b hw _ => exact absurd hw (hn _ b.1)
  | @none_ D n hD hg => exact ⟨D, rfl, hD, hg⟩
variable {w : Wn} {g h gh : Int}
theorem way_wi (ht : TownOk T) (hw : WantOk T w) (hd : atI T.e g = some h) (hh : 0 ≤ h ∧ h < T.b) (hg : atI T.e w.a = some gh) {m : Int} (h0 : 0 ≤ m) : ∃ r, m_way T torn g (m_l_within w m) = some r ∧ WayR T torn (wi w m) h gh r :=
  way_spec ht (w := wi w m) (by have := hw.by3; show w.b.l.length ≤ 100; omega) hd hh hg (wi_ok hw h0).most
theorem few_l1 (ht : TownOk T) (hw : WantOk T w) (hd : atI T.e g = some h) (hh : 0 ≤ h ∧ h < T.b) (hg : atI T.e w.a = some gh) {l : List Int} (hb : bestW T torn w.b.l w.c.l h gh l) (h0 : 0 < l.length) :
    ∀ (ms : List Int) (b : Bag), m_l_fewer_right_l1 T torn g w (("way" : Str), .inl l) (((l.length : Nat) : Int) - 1) ms b = some (.go b)
  | [], b => rfl
  | m :: ms, b => by
    have hM : ((l.length : Nat) : Int) - 1 ≤ (if m > ((l.length : Nat) : Int) - 1 then m else ((l.length : Nat) : Int) - 1) := by split <;> omega
    obtain ⟨r, e, R⟩ := way_wi (torn := torn) ht hw hd hh hg (m := (if m > ((l.length : Nat) : Int) - 1 then m else ((l.length : Nat) : Int) - 1)) (by omega)
    have er := way_same (w := wi w _) hb (fun M hM' => by cases hM'; omega) R
    rw [m_l_fewer_right_l1, e, Option.bind_some, er, told_refl, if_neg (by decide)]
    exact few_l1 ht hw hd hh hg hb h0 ms b
theorem few_l2 (ht : TownOk T) (hw : WantOk T w) (hwe : w.e = none) (hd : atI T.e g = some h) (hh : 0 ≤ h ∧ h < T.b) (hg : atI T.e w.a = some gh) {l : List Int} (hb : bestW T torn w.b.l w.c.l h gh l) {m0 : Int} (hl : ((l.length : Nat) : Int) - 1 = m0 + 1) {D : List ((Int × Int) × List Int)} (hD : HD T torn (wi w m0) h D) :
    ∀ (ms : List Int) (b : Bag), (∀ m ∈ ms, 0 ≤ m ∧ m ≤ m0) → m_l_fewer_right_l2 T torn g w (("none" : Str), .inr (sortK (D.map trip))) ms b = some (.go b)
  | [], b, _ => rfl
  | m :: ms, b, hms => by
    obtain ⟨q0, q1⟩ := hms m (List.mem_cons_self ..)
    obtain ⟨r, e, R⟩ := way_wi (torn := torn) ht hw hd hh hg q0
    have no : ∀ l', ValW T torn w.b.l w.c.l h gh l' → ¬ withinW (some m) l' := fun l' v z => by
      have a := (hb.2 l' v).len
      have := z m rfl
      omega
    obtain ⟨D', er, hD', hg'⟩ := way_none (w := wi w m) no R
    have ef : sortK (D'.map trip) = (sortK (D.map trip)).filter fun e => decide (e.c ≤ m) := few_eq (w := wi w m0) hD hD' (fun M hM => by cases hM; exact q1) q0
    have n1 : neS ("none" : Str) ("none" : Str) = false := by decide +kernel
    rw [m_l_fewer_right_l2, e, Option.bind_some, er]
    simp only []
    rw [n1, if_neg Bool.false_ne_true, few_spec, ef, Option.bind_some, told_refl, Option.bind_some, if_neg (by decide)]
    show Option.bind (some _) _ = _
    have f1 := nf_spec (torn := torn) (w := wi w m) ht hd hg (sortK (D'.map trip))
    rw [told_ok ht (wi_ok hw q0) hD' hg'] at f1
    have f2 := nf_spec (torn := torn) (w := w) ht hd hg (sortK (D'.map trip))
    have f3 : nfS T torn w h gh (sortK (D'.map trip)) ≠ none := fun z => nf_sound z hb.1 (fun M hM => by rw [hwe] at hM; cases hM)
    rw [Option.bind_some, ← ef]
    rw [show m_none_fault T torn g (m_l_within w m) (sortK (D'.map trip)) = some none from f1, Option.bind_some, if_neg (by decide)]
    show Option.bind (some _) _ = _
    rw [Option.bind_some, f2, Option.bind_some, if_neg]
    · exact few_l2 ht hw hwe hd hh hg hb hl hD ms b fun k hk => hms k (List.mem_cons_of_mem _ hk)
    · cases hx : nfS T torn w h gh (sortK (D'.map trip)) with
      | none => exact absurd hx f3
      | some _ => simp
theorem fewer_right (ht : TownOk T) (hw : WantOk T w) (hwe : w.e = none) (hd : atI T.e g = some h) (hh : 0 ≤ h ∧ h < T.b) (hg : atI T.e w.a = some gh) {r : Told} (R : WayR T torn w h gh r) {b : Bag} (hb : BOk b) :
    O2 BOk (m_l_fewer_right b T torn g w r) (fun x => x = true) := by
  have wn : ∀ l, withinW w.e l := fun l M hM => by rw [hwe] at hM; cases hM
  unfold m_l_fewer_right
  cases R with
  | @way l hbw _ _ =>
    obtain ⟨xs, exs, _⟩ := hbw.1
    have h0 : 0 < l.length := by rw [exs]; exact Nat.succ_pos _
    have e1 : eqS ("way" : Str) ("none" : Str) = false := by decide +kernel
    rw [Option.bind_some]
    simp only []
    rw [e1, if_neg Bool.false_ne_true]
    have lA : lenA (Sum.inl l : List Int ⊕ List (T3 Int Int Int)) = l.length := rfl
    rw [lA]
    refine O2.bind (draw_O hb (by decide) (by decide)) fun r1 b hb h1 => ?_
    rw [few_l1 ht hw hd hh hg hbw h0, bL1_go]
    by_cases c : ((l.length : Nat) : Int) - 1 = 0
    · have : eqI (((l.length : Nat) : Int) - 1) 0 = true := by unfold eqI; simpa using c
      rw [this, if_pos rfl]
      exact O2.ret hb rfl
    · have : eqI (((l.length : Nat) : Int) - 1) 0 = false := by unfold eqI; simpa using c
      rw [this, if_neg Bool.false_ne_true]
      obtain ⟨r2, e2, R2⟩ := way_wi (torn := torn) ht hw hd hh hg (m := ((l.length : Nat) : Int) - 1 - 1) (by omega)
      have no : ∀ l', ValW T torn w.b.l w.c.l h gh l' → ¬ withinW (some (((l.length : Nat) : Int) - 1 - 1)) l' := fun l' v z => by
        have a := (hbw.2 l' v).len
        have := z _ rfl
        omega
      obtain ⟨D, er, hD, _⟩ := way_none (w := wi w _) no R2
      rw [e2, Option.bind_some, er]
      have hl48 : l.length ≤ 1300 := by assumption
      refine O2.bind (draw_O hb (by omega) (by omega)) fun r3 b hb h3 => ?_
      rw [few_l2 ht hw hwe hd hh hg hbw (m0 := ((l.length : Nat) : Int) - 1 - 1) (by omega) hD _ b (fun m hm => by
        simp only [List.mem_cons, List.not_mem_nil, or_false] at hm
        omega), bL1_go]
      exact O2.ret hb rfl
  | @none_ D hn hD hg' =>
    have e1 : eqS ("none" : Str) ("none" : Str) = true := by decide +kernel
    rw [Option.bind_some]
    simp only []
    rw [e1, if_pos rfl]
    refine O2.bind (draw_O hb (by decide) (by decide)) fun m b hb h1 => ?_
    obtain ⟨r2, e2, R2⟩ := way_wi (torn := torn) ht hw hd hh hg h1.1
    obtain ⟨D', er, hD', _⟩ := way_none (w := wi w m) (fun l v _ => hn l v (wn l)) R2
    have ef : sortK (D'.map trip) = (sortK (D.map trip)).filter fun e => decide (e.c ≤ m) := few_eq (w := w) hD hD' (fun M hM => by rw [hwe] at hM; cases hM) h1.1
    rw [e2, Option.bind_some, er, few_spec, Option.bind_some, ef, told_refl]
    exact O2.ret hb rfl
/-! past one house more -/
theorem okW_past {A B : List Int} (s : ∀ x, x ∈ A → x ∈ B) : ∀ (xs : List Int) {h : Int}, okW T torn B h xs → okW T torn A h xs
  | [], _, _ => trivial
  | x :: xs, h, ⟨h1, h2, h3⟩ => ⟨h1, fun z => h2 (s x z), okW_past s xs h3⟩
theorem okW_more {A B : List Int} {y : Int} (s : ∀ x, x ∈ B ↔ x ∈ A ∨ x = y) : ∀ (xs : List Int) {h : Int}, okW T torn A h xs → y ∉ xs → okW T torn B h xs
  | [], _, _, _ => trivial
  | x :: xs, h, ⟨h1, h2, h3⟩, hy => by
    rw [List.mem_cons, not_or] at hy
    exact ⟨h1, fun z => ((s x).mp z).elim h2 (fun z => hy.1 z.symm), okW_more s xs h3 hy.2⟩
theorem okW_notin {B : List Int} {y : Int} (hy : y ∈ B) : ∀ (xs : List Int) {h : Int}, okW T torn B h xs → y ∉ xs
  | [], _, _ => fun z => nomatch z
  | x :: xs, h, ⟨h1, h2, h3⟩ => by
    rw [List.mem_cons, not_or]
    exact ⟨fun z => h2 (z ▸ hy), okW_notin hy xs h3⟩
theorem out_past {v : Wn} (hvb : v.b = w.b) (s : ∀ x, x ∈ w.c.l → x ∈ v.c.l) {st o : Int × Int} (ho : o ∈ outS T torn v st) : o ∈ outS T torn w st := by
  obtain ⟨x, hx, e⟩ := List.mem_map.mp ho
  obtain ⟨h1, h2⟩ := List.mem_filter.mp hx
  refine List.mem_map.mpr ⟨x, List.mem_filter.mpr ⟨h1, ?_⟩, by rw [← hvb]; exact e⟩
  have h2 : x ∉ v.c.l := by simpa using h2
  simpa using fun z => h2 (s x z)
theorem wk_past {v : Wn} (hvb : v.b = w.b) (s : ∀ x, x ∈ w.c.l → x ∈ v.c.l) {b st : Int × Int} {l : List Int} (k : Wk (fun s : Int × Int => s.2) (outS T torn v) b st l) : Wk (fun s : Int × Int => s.2) (outS T torn w) b st l := by
  induction k with
  | one => exact .one
  | step _ ho ih => exact ih.step (out_past hvb s ho)
theorem kept_past {v : Wn} (hvb : v.b = w.b) (s : ∀ x, x ∈ w.c.l → x ∈ v.c.l) (hwe : w.e = none) (hve : v.e = none) {DA DB : List ((Int × Int) × List Int)} (kA : HD T torn w h DA) (kB : HD T torn v h DB) : ∀ e ∈ DB, ∃ l, (e.1, l) ∈ DA ∧ l.length ≤ e.2.length := by
  rintro ⟨s0, l0⟩ he
  have bB := (kB.mem (fun m hm => by rw [hve] at hm; cases hm) (s := s0) (l := l0)).mp he
  have wk : Wk (fun s : Int × Int => s.2) (outS T torn w) (come w.b.l 0 h) s0 l0 := by
    have := bB.2.1.1
    rw [hvb] at this
    exact wk_past hvb s this
  have hp : h ∉ w.c.l := fun z => bB.1 (s h z)
  rcases kA with ⟨hp', _⟩ | ⟨_, kA, _⟩
  · exact absurd hp' hp
  · obtain ⟨l, h1, h2⟩ := kA.best goes_mono wk (within_cond wk.ne (fun m hm => by rw [hwe] at hm; cases hm))
    exact ⟨l, h1, h2.len⟩
theorem past_c1 : ∀ l : List (T3 Int Int Int), m_l_past_right_c1 l = kvs3 l
  | [] => rfl
  | e :: l => by rw [m_l_past_right_c1, past_c1 l]; rfl
theorem past_c2 {d : List ((Int × Int) × Int)} : ∀ l : List (T3 Int Int Int), (∀ e ∈ l, ¬ e.c < (dval d (e.a, e.b)).getD 100) → m_l_past_right_c2 d l = []
  | [], _ => rfl
  | e :: l, h => by
    rw [m_l_past_right_c2, decide_eq_false (h e (List.mem_cons_self ..)), if_neg Bool.false_ne_true]
    exact past_c2 l fun x hx => h x (List.mem_cons_of_mem _ hx)
theorem lx_lt : ∀ {a b : List Int}, lx a b → a < b
  | [], _, h => h.elim
  | x :: a, [], h => h.elim
  | x :: a, y :: b, h => by
    rw [List.cons_lt_cons_iff]
    rcases h with h | ⟨h, h2⟩
    · exact .inl h
    · exact .inr ⟨h, lx_lt h2⟩
theorem ltD_Lt2 {a b : List Int} (h : Lt2 a b) : ltD (((a.length : Nat) : Int), a) (((b.length : Nat) : Int), b) = true := by
  rw [ltD_p2]
  simp only [ltD_int, ltD_ints, eqD_dec]
  rcases h with h | ⟨h1, h2⟩
  · rw [if_neg (by simp; omega)]
    simp; omega
  · have ne : a ≠ b := fun e => lx_irrefl b (e ▸ h2)
    rw [if_pos (by simp [h1]), if_neg (by simp [ne])]
    simp [lx_lt h2]
theorem past_right (ht : TownOk T) (hw : WantOk T w) (hwe : w.e = none) (hp2 : w.c.l.length ≤ 2) (hd : atI T.e g = some h) (hh : 0 ≤ h ∧ h < T.b) (hg : atI T.e w.a = some gh) {r : Told} (R : WayR T torn w h gh r) {b : Bag} (hb : BOk b) :
    O2 BOk (m_l_past_right b T torn g w r) (fun x => x = true) := by
  have hn := ht.n
  unfold m_l_past_right
  refine O2.bind (draw_O hb (by omega) (by omega)) fun y b hb hy => ?_
  have ev : conV w.c (VT.mk [(T1.mk y).a] : (VT Int)) = some (VT.mk (w.c.l ++ [y])) := by
    unfold conV
    rw [if_pos (by rw [sizeLine_eq]; simp only [List.length_singleton]; omega)]
  have es : ssetO (VT.mk (w.c.l ++ [y]) : VT Int).l = some (ssort (w.c.l ++ [y])) := by
    unfold ssetO
    rw [if_pos (by show (w.c.l ++ [y]).length < 4000; rw [List.length_append, List.length_singleton]; omega)]
  have mv : ∀ x, x ∈ ssort (w.c.l ++ [y]) ↔ x ∈ w.c.l ∨ x = y := fun x => by rw [ssort_mem, List.mem_append, List.mem_singleton]
  obtain ⟨r2, e2, R2⟩ := way_spec ht (torn := torn) (w := ⟨w.a, w.b, VT.mk (ssort (w.c.l ++ [y])), w.e⟩) (g := g) (h := h) (gh := gh) (by have := hw.by3; show w.b.l.length ≤ 100; omega) hd hh hg hw.most
  rw [ev, Option.bind_some, es, Option.bind_some, e2, Option.bind_some]
  have wn : ∀ l, withinW w.e l := fun l M hM => by rw [hwe] at hM; cases hM
  have back : ∀ l, ValW T torn w.b.l (ssort (w.c.l ++ [y])) h gh l → ValW T torn w.b.l w.c.l h gh l ∧ y ∉ l := fun l v => by
    obtain ⟨xs, e, hp, ho, hr⟩ := v
    refine ⟨⟨xs, e, fun z => hp ((mv h).mpr (.inl z)), okW_past (fun x hx => (mv x).mpr (.inl hx)) xs ho, hr⟩, ?_⟩
    rw [e, List.mem_cons, not_or]
    exact ⟨fun z => hp ((mv h).mpr (.inr z.symm)), okW_notin ((mv y).mpr (.inr rfl)) xs ho⟩
  have ew : eqS ("way" : Str) ("way" : Str) = true := by decide +kernel
  have en : eqS ("none" : Str) ("way" : Str) = false := by decide +kernel
  have ew2 : eqS ("way" : Str) ("none" : Str) = false := by decide +kernel
  have en2 : eqS ("none" : Str) ("none" : Str) = true := by decide +kernel
  cases R with
  | @way l hbw _ _ =>
    simp only []
    rw [ew, if_pos rfl]
    show O2 BOk (Option.bind (Option.bind (Option.bind (some l) _) _) _) _
    rw [Option.bind_some, Option.bind_some]
    by_cases hyl : y ∈ l
    · rw [decide_eq_true hyl, Option.bind_some, if_neg (by decide), if_pos rfl]
      cases R2 with
      | none_ _ _ _ =>
        simp only []
        rw [en2, if_pos rfl, Option.bind_some]
        exact O2.ret hb rfl
      | @way l2 hb2 _ _ =>
        simp only []
        rw [ew2, if_neg Bool.false_ne_true]
        obtain ⟨v2, n2⟩ := back l2 hb2.1
        have lt : Lt2 l l2 := by
          rcases hbw.2 l2 v2 with z | z
          · exact absurd (z ▸ hyl) n2
          · exact z
        show O2 BOk (Option.bind (Option.bind (some l2) fun t167 => Option.bind (some l2) fun t176 => Option.bind (some l) fun t189 => Option.bind (some l) fun t198 => some ((ltD ((((t189).length : Nat) : Int), t198) ((((t167).length : Nat) : Int), t176)))) _) _
        rw [Option.bind_some, Option.bind_some, Option.bind_some, Option.bind_some, ltD_Lt2 lt]
        exact O2.ret hb rfl
    · rw [decide_eq_false hyl, Option.bind_some, if_pos (by decide)]
      obtain ⟨⟨xs, e, hp, ho, hr⟩, hbest⟩ := hbw
      have hyx : h ≠ y ∧ y ∉ xs := by
        rw [e, List.mem_cons, not_or] at hyl
        exact ⟨fun z => hyl.1 z.symm, hyl.2⟩
      have b2 : bestW T torn w.b.l (ssort (w.c.l ++ [y])) h gh l := ⟨⟨xs, e, fun z => ((mv h).mp z).elim hp hyx.1, okW_more mv xs ho hyx.2, hr⟩, fun l' v => hbest l' (back l' v).1⟩
      rw [way_same (w := ⟨w.a, w.b, VT.mk (ssort (w.c.l ++ [y])), w.e⟩) b2 (wn l) R2, told_refl]
      exact O2.ret hb rfl
  | @none_ D hnw hD hg' =>
    simp only []
    rw [en, if_neg Bool.false_ne_true, Option.bind_some, if_neg Bool.false_ne_true, if_neg Bool.false_ne_true]
    show O2 BOk (Option.bind (some (sortK (D.map trip))) _) _
    have hk : ((kvs3 (sortK (D.map trip))).map (·.1)).Nodup := by
      unfold kvs3
      rw [List.map_map]
      exact (show HD T torn w h D from hD).keys
    have ed : dputAll ([] : List ((Int × Int) × Int)) (kvs3 (sortK (D.map trip))) = kvs3 (sortK (D.map trip)) := dputAll_new _ [] hk
    rw [Option.bind_some, past_c1, ed, Option.bind_some]
    obtain ⟨D2, er, hD2, _⟩ := way_none (w := ⟨w.a, w.b, VT.mk (ssort (w.c.l ++ [y])), w.e⟩) (fun l v _ => hnw l (back l v).1 (wn l)) R2
    rw [er]
    simp only []
    rw [en2, if_pos rfl]
    show O2 BOk (Option.bind (Option.bind (some (sortK (D2.map trip))) _) _) _
    rw [Option.bind_some, past_c2, eqD_refl, Option.bind_some]
    · exact O2.ret hb rfl
    · intro e he
      obtain ⟨q, hq, rfl⟩ := memS.mp he
      obtain ⟨l, h1, h2⟩ := kept_past (w := w) (v := ⟨w.a, w.b, VT.mk (ssort (w.c.l ++ [y])), w.e⟩) rfl (fun x hx => (mv x).mpr (.inl hx)) hwe hwe hD hD2 q hq
      have hm : (q.1, ((l.length : Nat) : Int) - 1) ∈ kvs3 (sortK (D.map trip)) := List.mem_map.mpr ⟨trip (q.1, l), memS.mpr ⟨_, h1, rfl⟩, rfl⟩
      have hv := dval_nd hk hm
      show ¬ (((q.2.length : Nat) : Int) - 1) < (dval _ q.1).getD 100
      rw [hv]
      show ¬ (((q.2.length : Nat) : Int) - 1) < ((l.length : Nat) : Int) - 1
      omega
theorem law_l2 (ht : TownOk T) : ∀ (l : List Int) (b : Bag), BOk b → ∃ b', m_law_l2 T torn l b = some (.go b') ∧ BOk b'
  | [], b, hb => ⟨b, rfl, hb⟩
  | k :: l, b, hb => by
    have hsm := ht.some_
    obtain ⟨g, b1, e1, hb1, hg1⟩ := draw_O (n := ((T.e.length : Nat) : Int)) hb (by omega) (by omega)
    obtain ⟨w0, b2, e2, hb2, hw0⟩ := want_O hb1 ht
    have hp2 : (w0.c.l.take 2).length ≤ 2 := by rw [List.length_take]; omega
    have hw : WantOk T ⟨w0.a, w0.b, VT.mk (w0.c.l.take 2), none⟩ := ⟨hw0.door, hw0.by3, hw0.byr, hw0.adj, by show (w0.c.l.take 2).length ≤ 3; omega, hw0.pup.sublist (List.take_sublist _ _), fun x hx => hw0.pr x (List.mem_of_mem_take hx), fun m hm => by cases hm⟩
    have hd : atI T.e g = some (T.e[g.toNat]'(by omega)) := atI_at hg1.1 (List.getElem?_eq_getElem (by omega))
    have hh := ht.doors _ (List.getElem_mem (l := T.e) (n := g.toNat) (by omega))
    have hdr := hw0.door
    have hg : atI T.e w0.a = some (T.e[w0.a.toNat]'(by omega)) := atI_at hdr.1 (List.getElem?_eq_getElem (by omega))
    obtain ⟨r, e3, R⟩ := way_spec ht (torn := torn) (w := ⟨w0.a, w0.b, VT.mk (w0.c.l.take 2), none⟩) (by have := hw0.by3; show w0.b.l.length ≤ 100; omega) hd hh hg hw.most
    obtain ⟨c1, b3, e4, hb3, rfl⟩ := fewer_right ht hw rfl hd hh hg R hb2
    obtain ⟨c2, b4, e5, hb4, rfl⟩ := past_right ht hw rfl hp2 hd hh hg R hb3
    obtain ⟨b5, e6, hb5⟩ := law_l2 ht l b4 hb4
    refine ⟨b5, ?_, hb5⟩
    have ec : cutL w0.c.l none (some (2 : Int)) = w0.c.l.take 2 := cutL_to _ 2
    rw [m_law_l2, e1, bind2_some, e2, bind2_some, ec, Option.bind_some, e3, Option.bind_some, e4, bind2_some, if_neg (by decide), e5, bind2_some, if_neg (by decide)]
    exact e6
end
theorem law_l1 : ∀ (l : List Int) (b : Bag), BOk b → ∃ b', m_law_l1 l b = some (.go b') ∧ BOk b'
  | [], b, hb => ⟨b, rfl, hb⟩
  | k :: l, b, hb => by
    obtain ⟨t, b1, e1, hb1, ht⟩ := town_O hb
    obtain ⟨torn, b2, e2, hb2, _⟩ := torn_O (t := t) hb1 (by have := ht.few; omega)
    obtain ⟨b3, e3, hb3⟩ := law_l2 (torn := torn) ht (rangeL (0 : Int) 2) b2 hb2
    obtain ⟨b4, e4, hb4⟩ := law_l1 l b3 hb3
    refine ⟨b4, ?_, hb4⟩
    rw [m_law_l1, e1, bind2_some, e2, bind2_some, e3, bL1_go]
    exact e4
theorem law_true (b : Bag) (hb : BOk b) : ∃ b', m_law b = some (true, b') := by
  obtain ⟨b1, e1, hb1⟩ := law_l1 (rangeL (0 : Int) 6) b hb
  refine ⟨b1, ?_⟩
  unfold m_law
  rw [e1, bL1_go]
end K28
namespace K28
open PySem PySem.Spec PyProof.Rows L2 TL G
def dd_whole_pairs : He.DefD := ⟨("whole_pairs", none), "whole_pairs", "whole_pairs", defArgs s_whole_pairs, defBody s_whole_pairs, defScope s_whole_pairs, [], []⟩
def dd_nearby : He.DefD := ⟨("nearby", none), "nearby", "nearby", defArgs s_nearby, defBody s_nearby, defScope s_nearby, [], []⟩
def dd_come_to : He.DefD := ⟨("come_to", none), "come_to", "come_to", defArgs s_come_to, defBody s_come_to, defScope s_come_to, [], []⟩
def dd_beginning : He.DefD := ⟨("beginning", none), "beginning", "beginning", defArgs s_beginning, defBody s_beginning, defScope s_beginning, [], []⟩
def dd_goal_of : He.DefD := ⟨("goal_of", none), "goal_of", "goal_of", defArgs s_goal_of, defBody s_goal_of, defScope s_goal_of, [], []⟩
def dd_leads : He.DefD := ⟨("leads", none), "leads", "leads", defArgs s_leads, defBody s_leads, defScope s_leads, [], []⟩
def dd_first_lists : He.DefD := ⟨("first_lists", none), "first_lists", "first_lists", defArgs s_first_lists, defBody s_first_lists, defScope s_first_lists, [], []⟩
def dd_way : He.DefD := ⟨("way", none), "way", "way", defArgs s_way, defBody s_way, defScope s_way, [], []⟩
def dd_is_entry : He.DefD := ⟨("is_entry", none), "is_entry", "is_entry", defArgs s_is_entry, defBody s_is_entry, defScope s_is_entry, [], []⟩
def dd_open_entry : He.DefD := ⟨("open_entry", none), "open_entry", "open_entry", defArgs s_open_entry, defBody s_open_entry, defScope s_open_entry, [], []⟩
def dd_none_fault : He.DefD := ⟨("none_fault", none), "none_fault", "none_fault", defArgs s_none_fault, defBody s_none_fault, defScope s_none_fault, [], []⟩
def dd_l_bag : He.DefD := ⟨("_law_bag", none), "_law_bag", "_law_bag", defArgs s_l_bag, defBody s_l_bag, defScope s_l_bag, [], []⟩
def dd_l_stirred : He.DefD := ⟨("_law_stirred", none), "_law_stirred", "_law_stirred", defArgs s_l_stirred, defBody s_l_stirred, defScope s_l_stirred, [], []⟩
def dd_l_draw : He.DefD := ⟨("_law_draw", none), "_law_draw", "_law_draw", defArgs s_l_draw, defBody s_l_draw, defScope s_l_draw, [], []⟩
def dd_l_liked : He.DefD := ⟨("_law_liked", none), "_law_liked", "_law_liked", defArgs s_l_liked, defBody s_l_liked, defScope s_l_liked, [], []⟩
def dd_l_town_drawn : He.DefD := ⟨("_law_town_drawn", none), "_law_town_drawn", "_law_town_drawn", defArgs s_l_town_drawn, defBody s_l_town_drawn, defScope s_l_town_drawn, [], []⟩
def dd_l_torn_drawn : He.DefD := ⟨("_law_torn_drawn", none), "_law_torn_drawn", "_law_torn_drawn", defArgs s_l_torn_drawn, defBody s_l_torn_drawn, defScope s_l_torn_drawn, [], []⟩
def dd_l_want_drawn : He.DefD := ⟨("_law_want_drawn", none), "_law_want_drawn", "_law_want_drawn", defArgs s_l_want_drawn, defBody s_l_want_drawn, defScope s_l_want_drawn, [], []⟩
def dd_l_within : He.DefD := ⟨("_law_within", none), "_law_within", "_law_within", defArgs s_l_within, defBody s_l_within, defScope s_l_within, [], []⟩
def dd_l_few : He.DefD := ⟨("_law_few", none), "_law_few", "_law_few", defArgs s_l_few, defBody s_l_few, defScope s_l_few, [], []⟩
def dd_l_fewer_right : He.DefD := ⟨("_law_fewer_right", none), "_law_fewer_right", "_law_fewer_right", defArgs s_l_fewer_right, defBody s_l_fewer_right, defScope s_l_fewer_right, [], []⟩
def dd_l_past_right : He.DefD := ⟨("_law_past_right", none), "_law_past_right", "_law_past_right", defArgs s_l_past_right, defBody s_l_past_right, defScope s_l_past_right, [], []⟩
def dd_law : He.DefD := ⟨("law", none), "law", "law", defArgs s_law, defBody s_law, defScope s_law, [], []⟩
def fnL : List He.DefD := [dd_whole_pairs, dd_nearby, dd_come_to, dd_beginning, dd_goal_of, dd_leads, dd_first_lists, dd_way, dd_is_entry, dd_open_entry, dd_none_fault, dd_l_bag, dd_l_stirred, dd_l_draw, dd_l_liked, dd_l_town_drawn, dd_l_torn_drawn, dd_l_want_drawn, dd_l_within, dd_l_few, dd_l_fewer_right, dd_l_past_right, dd_law]
def faL : List He.Fa := [.glo "whole_pairs", .glo "nearby", .glo "come_to", .glo "beginning", .glo "goal_of", .glo "leads", .glo "first_lists", .glo "way", .glo "is_entry", .glo "open_entry", .glo "none_fault", .glo "_law_bag", .glo "_law_stirred", .glo "_law_draw", .glo "_law_liked", .glo "_law_town_drawn", .glo "_law_torn_drawn", .glo "_law_want_drawn", .glo "_law_within", .glo "_law_few", .glo "_law_fewer_right", .glo "_law_past_right", .glo "law", .free "abs", .free "dict", .free "enumerate", .free "len", .free "max", .free "min", .free "range", .free "set", .free "sorted", .free "tuple", .int "FARTHEST" (48)]
abbrev RR : PySem.W.OpenRow := PySem.W.OpenLaw.row PySem.Challenge.rw_wishnet_k28_whole_within_fewer_past_more
abbrev hk : PySem.W.Hook := He.hookD 4 faL fnL
def ob (s : PySem.W.SharedT) : He.AlD := He.obsDG 4 faL fnL (HandSHeadRun.getT s)
theorem ob_eq (s : PySem.W.SharedT) : ob s = hk.obs s.abs := He.obsDG_eq (HandSHeadRun.getT_eq s)
def looseL : List Str := ["FARTHEST", "whole_pairs", "nearby", "come_to", "beginning", "goal_of", "leads", "first_lists", "way", "is_entry", "open_entry", "none_fault", "_law_bag", "_law_stirred", "_law_draw", "_law_liked", "_law_town_drawn", "_law_torn_drawn", "_law_want_drawn", "_law_within", "_law_few", "_law_fewer_right", "_law_past_right"]
theorem run_top (w : World) : HandSHeadRun.RunEq RR (PySem.W.view RR.prog [25]) hk ob 4000 looseL w := by
  intro os
  kernel_rfl
theorem facts {P : Program} {w : World} {K : PySem.W.Frag} {h : Heap} {mg : Str → Option Value} {f : Addr} (X : K.In h) (Gh : h.Ns mainGlobals mg) (hfa : mg ("law" : Str) = some (.ref f)) (c : He.SaysD faL fnL K) :
    ∃ fd : FuncData, (∀ (s : Shared) (v : Value), BindsTo s fd ⟨[v], []⟩ [("_law_script", v)]) ∧ ∀ base : Heap, K.In base → base.Ns mainGlobals mg → FnOk P w K mg base CX0 6 f fd ["_law_script"] (sp_law K) := by
  obtain ⟨d0, F0⟩ := c.def_ 0 (d := dd_whole_pairs) rfl
  obtain ⟨d1, F1⟩ := c.def_ 1 (d := dd_nearby) rfl
  obtain ⟨d2, F2⟩ := c.def_ 2 (d := dd_come_to) rfl
  obtain ⟨d3, F3⟩ := c.def_ 3 (d := dd_beginning) rfl
  obtain ⟨d4, F4⟩ := c.def_ 4 (d := dd_goal_of) rfl
  obtain ⟨d5, F5⟩ := c.def_ 5 (d := dd_leads) rfl
  obtain ⟨d6, F6⟩ := c.def_ 6 (d := dd_first_lists) rfl
  obtain ⟨d7, F7⟩ := c.def_ 7 (d := dd_way) rfl
  obtain ⟨d8, F8⟩ := c.def_ 8 (d := dd_is_entry) rfl
  obtain ⟨d9, F9⟩ := c.def_ 9 (d := dd_open_entry) rfl
  obtain ⟨d10, F10⟩ := c.def_ 10 (d := dd_none_fault) rfl
  obtain ⟨d11, F11⟩ := c.def_ 11 (d := dd_l_bag) rfl
  obtain ⟨d12, F12⟩ := c.def_ 12 (d := dd_l_stirred) rfl
  obtain ⟨d13, F13⟩ := c.def_ 13 (d := dd_l_draw) rfl
  obtain ⟨d14, F14⟩ := c.def_ 14 (d := dd_l_liked) rfl
  obtain ⟨d15, F15⟩ := c.def_ 15 (d := dd_l_town_drawn) rfl
  obtain ⟨d16, F16⟩ := c.def_ 16 (d := dd_l_torn_drawn) rfl
  obtain ⟨d17, F17⟩ := c.def_ 17 (d := dd_l_want_drawn) rfl
  obtain ⟨d18, F18⟩ := c.def_ 18 (d := dd_l_within) rfl
  obtain ⟨d19, F19⟩ := c.def_ 19 (d := dd_l_few) rfl
  obtain ⟨d20, F20⟩ := c.def_ 20 (d := dd_l_fewer_right) rfl
  obtain ⟨d21, F21⟩ := c.def_ 21 (d := dd_l_past_right) rfl
  obtain ⟨d22, F22⟩ := c.def_ 22 (d := dd_law) rfl
  have G0 := He.glo_ok X Gh (c.fact 0 (f := .glo "whole_pairs") rfl)
  have G1 := He.glo_ok X Gh (c.fact 1 (f := .glo "nearby") rfl)
  have G2 := He.glo_ok X Gh (c.fact 2 (f := .glo "come_to") rfl)
  have G3 := He.glo_ok X Gh (c.fact 3 (f := .glo "beginning") rfl)
  have G4 := He.glo_ok X Gh (c.fact 4 (f := .glo "goal_of") rfl)
  have G5 := He.glo_ok X Gh (c.fact 5 (f := .glo "leads") rfl)
  have G6 := He.glo_ok X Gh (c.fact 6 (f := .glo "first_lists") rfl)
  have G7 := He.glo_ok X Gh (c.fact 7 (f := .glo "way") rfl)
  have G8 := He.glo_ok X Gh (c.fact 8 (f := .glo "is_entry") rfl)
  have G9 := He.glo_ok X Gh (c.fact 9 (f := .glo "open_entry") rfl)
  have G10 := He.glo_ok X Gh (c.fact 10 (f := .glo "none_fault") rfl)
  have G11 := He.glo_ok X Gh (c.fact 11 (f := .glo "_law_bag") rfl)
  have G12 := He.glo_ok X Gh (c.fact 12 (f := .glo "_law_stirred") rfl)
  have G13 := He.glo_ok X Gh (c.fact 13 (f := .glo "_law_draw") rfl)
  have G14 := He.glo_ok X Gh (c.fact 14 (f := .glo "_law_liked") rfl)
  have G15 := He.glo_ok X Gh (c.fact 15 (f := .glo "_law_town_drawn") rfl)
  have G16 := He.glo_ok X Gh (c.fact 16 (f := .glo "_law_torn_drawn") rfl)
  have G17 := He.glo_ok X Gh (c.fact 17 (f := .glo "_law_want_drawn") rfl)
  have G18 := He.glo_ok X Gh (c.fact 18 (f := .glo "_law_within") rfl)
  have G19 := He.glo_ok X Gh (c.fact 19 (f := .glo "_law_few") rfl)
  have G20 := He.glo_ok X Gh (c.fact 20 (f := .glo "_law_fewer_right") rfl)
  have G21 := He.glo_ok X Gh (c.fact 21 (f := .glo "_law_past_right") rfl)
  have G22 := He.glo_ok X Gh (c.fact 22 (f := .glo "law") rfl)
  obtain ⟨tk0, hk0⟩ := He.int_ok X Gh (c.fact 33 (f := .int "FARTHEST" (48)) rfl)
  let T : Txt K mg := { a_whole_pairs := _, d_whole_pairs := d0, F_whole_pairs := F0, g_whole_pairs := G0, a_nearby := _, d_nearby := d1, F_nearby := F1, g_nearby := G1, a_come_to := _, d_come_to := d2, F_come_to := F2, g_come_to := G2, a_beginning := _, d_beginning := d3, F_beginning := F3, g_beginning := G3, a_goal_of := _, d_goal_of := d4, F_goal_of := F4, g_goal_of := G4, a_leads := _, d_leads := d5, F_leads := F5, g_leads := G5, a_first_lists := _, d_first_lists := d6, F_first_lists := F6, g_first_lists := G6, a_way := _, d_way := d7, F_way := F7, g_way := G7, a_is_entry := _, d_is_entry := d8, F_is_entry := F8, g_is_entry := G8, a_open_entry := _, d_open_entry := d9, F_open_entry := F9, g_open_entry := G9, a_none_fault := _, d_none_fault := d10, F_none_fault := F10, g_none_fault := G10, a_l_bag := _, d_l_bag := d11, F_l_bag := F11, g_l_bag := G11, a_l_stirred := _, d_l_stirred := d12, F_l_stirred := F12, g_l_stirred := G12, a_l_draw := _, d_l_draw := d13, F_l_draw := F13, g_l_draw := G13, a_l_liked := _, d_l_liked := d14, F_l_liked := F14, g_l_liked := G14, a_l_town_drawn := _, d_l_town_drawn := d15, F_l_town_drawn := F15, g_l_town_drawn := G15, a_l_torn_drawn := _, d_l_torn_drawn := d16, F_l_torn_drawn := F16, g_l_torn_drawn := G16, a_l_want_drawn := _, d_l_want_drawn := d17, F_l_want_drawn := F17, g_l_want_drawn := G17, a_l_within := _, d_l_within := d18, F_l_within := F18, g_l_within := G18, a_l_few := _, d_l_few := d19, F_l_few := F19, g_l_few := G19, a_l_fewer_right := _, d_l_fewer_right := d20, F_l_fewer_right := F20, g_l_fewer_right := G20, a_l_past_right := _, d_l_past_right := d21, F_l_past_right := F21, g_l_past_right := G21, a_law := _, d_law := d22, F_law := F22, g_law := G22, n_abs := He.free_ok X Gh (c.fact 23 (f := .free "abs") rfl), n_dict := He.free_ok X Gh (c.fact 24 (f := .free "dict") rfl), n_enumerate := He.free_ok X Gh (c.fact 25 (f := .free "enumerate") rfl), n_len := He.free_ok X Gh (c.fact 26 (f := .free "len") rfl), n_max := He.free_ok X Gh (c.fact 27 (f := .free "max") rfl), n_min := He.free_ok X Gh (c.fact 28 (f := .free "min") rfl), n_range := He.free_ok X Gh (c.fact 29 (f := .free "range") rfl), n_set := He.free_ok X Gh (c.fact 30 (f := .free "set") rfl), n_sorted := He.free_ok X Gh (c.fact 31 (f := .free "sorted") rfl), n_tuple := He.free_ok X Gh (c.fact 32 (f := .free "tuple") rfl), t_FARTHEST := tk0, k_FARTHEST := hk0 }
  have e := hfa.symm.trans G22
  cases e
  have b := FunD.bindsA (ps := ["_law_script"]) F22 fun _ _ _ _ _ _ us hl => match us, hl with | [_], _ => rfl
  exact ⟨d22, fun s v => b s [v] rfl, fun base _ _ => ok_law T law_true⟩
end K28
open PySem.Calls PySem.W PySem PyProof.Rows
set_option maxHeartbeats 0 in
theorem PySem.Challenge.cw_wishnet_k28_whole_within_fewer_past_more_holds : PySem.Challenge.rw_wishnet_k28_whole_within_fewer_past_more.Holds := by
  w_on; o_law
  refine HandSHeadRun.head_any (r := OpenLaw.row PySem.Challenge.rw_wishnet_k28_whole_within_fewer_past_more) (q := view (OpenLaw.row PySem.Challenge.rw_wishnet_k28_whole_within_fewer_past_more).prog [25]) (H := K28.hk) (ob := K28.ob) (M := 4000) (loose := K28.looseL) (d := HandSHeadRun.topDef (OpenLaw.row PySem.Challenge.rw_wishnet_k28_whole_within_fewer_past_more).prog 25) (kwd := []) K28.ob_eq
    (by kernel_rfl) (fun s => by kernel_rfl) K28.run_top (by kernel_rfl) (by kernel_rfl) (by kernel_rfl) (by rfl) (by first | assumption | decide +kernel) (by decide +kernel) ⟨rfl, rfl, rfl, rfl, rfl, by decide +kernel⟩ ?hw ?hc
  case hw => w_witness2
  case hc =>
    refine L2.walk_ofE (l := PySem.Challenge.rw_wishnet_k28_whole_within_fewer_past_more) (n := 63) (k := 6) (x := "_law_script") (CX := L2.CX0) rfl (by decide) (by kernel_rfl) ⟨rfl, by decide, by decide⟩ ?F (fun _ _ _ _ z => z)
    intro w mg fa h Y Gh hmg0
    obtain ⟨K, KX, c⟩ := Y
    have hmg : mg ("law" : PySem.Str) = some (.ref fa) := by
      have e : (HandSHeadRun.topDef (OpenLaw.row PySem.Challenge.rw_wishnet_k28_whole_within_fewer_past_more).prog 25).name = ("law" : PySem.Str) := by kernel_rfl
      rw [← e]
      exact hmg0
    obtain ⟨fd, hb, hF⟩ := K28.facts (P := (PySem.Challenge.rw_wishnet_k28_whole_within_fewer_past_more).prog) (w := w) KX Gh hmg c
    exact ⟨K, fd, K28.sp_law K, KX, hb, fun H a ns hl _ hS => ⟨a, ns, rfl, hS, hl, fun _ => rfl⟩, hF⟩
