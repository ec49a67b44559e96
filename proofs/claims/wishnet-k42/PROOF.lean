import PyProof.Rows.All
import Wide.All
import OpenK.AllK
import Wide.FinOn
import HandS.ForMost
import HandS.Walk
import HandS.Wide
import HandS.WideBits
import HandS.StrMore
import HandS.SortInts
import HandS.Strs
import HandS.IsInst
import HandS.Defaults
import HandS.MakeKwOnly
import HandS.Head0
import HandS.Head1
import HandS.Head2
import HandS.HeadEnd
import HandS.HeadHook1
import HandS.HeadHook2
import HandS.Style
import HandS.SetFor
import KE.KDictZip
import KE.KTurns
import HandS.Iter
import HandS.SortRule
import PyProof.Rows.SortShellAny
import HandS.TupAny
import HandS.Deep
import HandS.Conv
import HandS.TupSets
import HandS.Dict
import HandS.DictTup
import KE.KDictDisplayH
import KE.KSortTupG
import KE.KDictList
import KE.KDictPairs
import KE.DataCmp
import KE.SortData
import PyProof.ListRange
import HandS.DictComp
import HandS.WordsExc
import PyProof.ReprRoads
import PyProof.Rows.ReprShort
import PyProof.FitsInt
import Lean
import PySem.Challenge.RW_wishnet_k42_rules_of_a_way
set_option Elab.async false
set_option linter.all false
set_option maxRecDepth 100000
set_option maxHeartbeats 4000000
/-! My base, part 1: data, their standing in a heap, growth of heaps. -/
namespace G
open PySem PySem.Spec L2 PyProof.Rows TL

/-! ### data by type -/
class Enc (α : Type) where
  d : α → PyData
instance : Enc Int := ⟨.int⟩
instance : Enc Bool := ⟨.bool⟩
instance : Enc Str := ⟨.str⟩
instance : Enc Unit := ⟨fun _ => .none⟩
def encO {α : Type} (f : α → PyData) : Option α → PyData
  | none => .none
  | some x => f x
instance {α : Type} [Enc α] : Enc (Option α) := ⟨encO Enc.d⟩
instance {α : Type} [Enc α] : Enc (List α) := ⟨fun xs => .list (xs.map Enc.d)⟩
instance {α β : Type} [Enc α] [Enc β] : Enc (α × β) := ⟨fun p => .tuple [Enc.d p.1, Enc.d p.2]⟩
structure T3 (α β γ : Type) where
  a : α
  b : β
  c : γ
  deriving DecidableEq
structure T4 (α β γ δ : Type) where
  a : α
  b : β
  c : γ
  e : δ
  deriving DecidableEq
structure T5 (α β γ δ ε : Type) where
  a : α
  b : β
  c : γ
  e : δ
  f : ε
  deriving DecidableEq
structure VT (α : Type) where
  l : List α
  deriving DecidableEq
instance {α β γ : Type} [Enc α] [Enc β] [Enc γ] : Enc (T3 α β γ) := ⟨fun p => .tuple [Enc.d p.a, Enc.d p.b, Enc.d p.c]⟩
instance {α β γ δ : Type} [Enc α] [Enc β] [Enc γ] [Enc δ] : Enc (T4 α β γ δ) := ⟨fun p => .tuple [Enc.d p.a, Enc.d p.b, Enc.d p.c, Enc.d p.e]⟩
instance {α β γ δ ε : Type} [Enc α] [Enc β] [Enc γ] [Enc δ] [Enc ε] : Enc (T5 α β γ δ ε) := ⟨fun p => .tuple [Enc.d p.a, Enc.d p.b, Enc.d p.c, Enc.d p.e, Enc.d p.f]⟩
instance {α : Type} [Enc α] : Enc (VT α) := ⟨fun p => .tuple (p.l.map Enc.d)⟩

/-- a text that may be handled: no longer than the line, of signs -/
structure GS (x : Str) : Prop where
  len : x.length ≤ sizeLine
  ok : PyData.strOk x = true

mutual
inductive Rp (K : PySem.W.Frag) (F : Hp) : V → PyData → Prop
  | non : Rp K F .non .none
  | bl (b : Bool) : Rp K F (.bl b) (.bool b)
  | int (i : Int) : Rp K F (.int i) (.int i)
  | str (x : Str) : GS x → Rp K F (.str x) (.str x)
  | lst {a : Addr} {xs : List V} {ds : List PyData} : SqL K F a xs → xs.length ≤ sizeLine → RpA K F xs ds → Rp K F (.ref a) (.list ds)
  | tup {a : Addr} {xs : List V} {ds : List PyData} : F a = some (.tup xs) → xs.length ≤ sizeLine → RpA K F xs ds → Rp K F (.ref a) (.tuple ds)
inductive RpA (K : PySem.W.Frag) (F : Hp) : List V → List PyData → Prop
  | nil : RpA K F [] []
  | cons {v : V} {vs : List V} {d : PyData} {ds : List PyData} : Rp K F v d → RpA K F vs ds → RpA K F (v :: vs) (d :: ds)
end
/-- v stands for x -/
abbrev R {α : Type} [Enc α] (K : PySem.W.Frag) (F : Hp) (v : V) (x : α) : Prop := Rp K F v (Enc.d x)
/-- the values vs stand for the things xs -/
abbrev RL {α : Type} [Enc α] (K : PySem.W.Frag) (F : Hp) (vs : List V) (xs : List α) : Prop := RpA K F vs (xs.map Enc.d)

section
variable {K : PySem.W.Frag} {F F' H H' : Hp} {v : V} {vs : List V} {d : PyData} {ds : List PyData} {a p : Addr} {xs : List V}
theorem SqT_mono (e : Same H H') (h : SqT K H a xs) : SqT K H' a xs := by
  rcases h with (h | ⟨o, h⟩) | h
  · exact .inl (.inl (e _ _ h))
  · exact .inl (.inr ⟨o, e _ _ h⟩)
  · exact .inr h
mutual
theorem Rp.mono (e : Same F F') : ∀ (d : PyData) (v : V), Rp K F v d → Rp K F' v d
  | .none, _, h => by cases h; exact .non
  | .bool b, _, h => by cases h; exact .bl b
  | .int i, _, h => by cases h; exact .int i
  | .str x, _, h => by cases h with | str _ g => exact .str x g
  | .list ds, _, h => by cases h with | lst hs hl ha => exact .lst (e.seq hs) hl (RpA.mono e ds _ ha)
  | .tuple ds, _, h => by cases h with | tup hs hl ha => exact .tup (e _ _ hs) hl (RpA.mono e ds _ ha)
  | .dict _, _, h => by cases h
theorem RpA.mono (e : Same F F') : ∀ (ds : List PyData) (vs : List V), RpA K F vs ds → RpA K F' vs ds
  | [], _, h => by cases h; exact .nil
  | d :: ds, _, h => by cases h with | cons h1 h2 => exact .cons (Rp.mono e d _ h1) (RpA.mono e ds _ h2)
end
theorem Rp.up (h : Rp K F v d) (e : Same F F') : Rp K F' v d := Rp.mono e d v h
theorem RpA.up (h : RpA K F vs ds) (e : Same F F') : RpA K F' vs ds := RpA.mono e ds vs h
mutual
theorem Rp.dp : ∀ (d : PyData) (v : V), Rp K F v d → Dp K F v d
  | .none, _, h => by cases h; exact .non
  | .bool b, _, h => by cases h; exact .bl b
  | .int i, _, h => by cases h; exact .int i
  | .str x, _, h => by cases h; exact .str x
  | .list ds, _, h => by cases h with | lst hs hl ha => exact .lst hs (RpA.dp ds _ ha)
  | .tuple ds, _, h => by cases h with | tup hs hl ha => exact .tup (.inl (.inl hs)) (RpA.dp ds _ ha)
  | .dict _, _, h => by cases h
theorem RpA.dp : ∀ (ds : List PyData) (vs : List V), RpA K F vs ds → DpAll K F vs ds
  | [], _, h => by cases h; exact .nil
  | d :: ds, _, h => by cases h with | cons h1 h2 => exact .cons (Rp.dp d _ h1) (RpA.dp ds _ h2)
end
mutual
theorem Rp.lay : ∀ (d : PyData) (v : V), Rp K F v d → d.canLay0 = true
  | .none, _, _ => rfl
  | .bool b, _, _ => rfl
  | .int i, _, _ => rfl
  | .str x, _, h => by cases h with | str _ g => exact g.ok
  | .list ds, _, h => by cases h with | lst hs hl ha => exact RpA.lay ds _ ha
  | .tuple ds, _, h => by cases h with | tup hs hl ha => exact RpA.lay ds _ ha
  | .dict _, _, h => by cases h
theorem RpA.lay : ∀ (ds : List PyData) (vs : List V), RpA K F vs ds → PyData.canLayAll0 ds = true
  | [], _, _ => rfl
  | d :: ds, _, h => by cases h with | cons h1 h2 => exact Bool.and_eq_true_iff.mpr ⟨Rp.lay d _ h1, RpA.lay ds _ h2⟩
end

/-! ### what stands at a value, by its type -/
theorem RpA.length : ∀ {ds : List PyData} {vs : List V}, RpA K F vs ds → vs.length = ds.length
  | [], _, h => by cases h; rfl
  | d :: ds, _, h => by cases h with | cons h1 h2 => exact congrArg Nat.succ h2.length
theorem RpA.get : ∀ {ds : List PyData} {vs : List V} {i : Nat} {v : V}, RpA K F vs ds → vs[i]? = some v → ∃ d, ds[i]? = some d ∧ Rp K F v d
  | [], _, _, _, h, e => by cases h; simp at e
  | d :: ds, _, 0, _, h, e => by cases h with | cons h1 h2 => exact ⟨d, rfl, by simpa using (Option.some.inj e) ▸ h1⟩
  | d :: ds, _, i + 1, v, h, e => by
    cases h with
    | cons h1 h2 =>
      obtain ⟨d', e1, e2⟩ := h2.get (i := i) (v := v) (by simpa using e)
      exact ⟨d', by simpa using e1, e2⟩
theorem RpA.back : ∀ {ds : List PyData} {vs : List V} {i : Nat} {d : PyData}, RpA K F vs ds → ds[i]? = some d → ∃ v, vs[i]? = some v ∧ Rp K F v d
  | [], _, _, _, h, e => by simp at e
  | d :: ds, _, 0, _, h, e => by
    cases h with
    | cons h1 h2 =>
      have e' := Option.some.inj e
      subst e'
      exact ⟨_, rfl, h1⟩
  | d :: ds, _, i + 1, d', h, e => by
    cases h with
    | cons h1 h2 =>
      obtain ⟨v, e1, e2⟩ := h2.back (i := i) (d := d') (by simpa using e)
      exact ⟨v, by simpa using e1, e2⟩
theorem RpA.append : ∀ {ds es : List PyData} {vs us : List V}, RpA K F vs ds → RpA K F us es → RpA K F (vs ++ us) (ds ++ es)
  | [], _, _, _, h, g => by cases h; exact g
  | d :: ds, _, _, _, h, g => by cases h with | cons h1 h2 => exact .cons h1 (h2.append g)
theorem RpA.take : ∀ {ds : List PyData} {vs : List V} (n : Nat), RpA K F vs ds → RpA K F (vs.take n) (ds.take n)
  | _, _, 0, _ => .nil
  | _, _, _ + 1, .nil => .nil
  | _, _, n + 1, .cons h t => .cons h (RpA.take n t)
theorem RpA.drop : ∀ {ds : List PyData} {vs : List V} (n : Nat), RpA K F vs ds → RpA K F (vs.drop n) (ds.drop n)
  | _, _, 0, h => h
  | _, _, _ + 1, .nil => .nil
  | _, _, n + 1, .cons _ t => RpA.drop n t
theorem RpA.set : ∀ {ds : List PyData} {vs : List V} (n : Nat), Rp K F v d → RpA K F vs ds → RpA K F (vs.set n v) (ds.set n d)
  | _, _, _, _, .nil => .nil
  | _, _, 0, r, .cons _ t => .cons r t
  | _, _, n + 1, r, .cons h t => .cons h (RpA.set n r t)
theorem RpA.dropLast {ds : List PyData} {vs : List V} (h : RpA K F vs ds) : RpA K F vs.dropLast ds.dropLast := by
  rw [List.dropLast_eq_take, List.dropLast_eq_take, h.length]
  exact h.take _
theorem RpA.reverse : ∀ {ds : List PyData} {vs : List V}, RpA K F vs ds → RpA K F vs.reverse ds.reverse
  | [], _, h => by cases h; exact .nil
  | d :: ds, _, h => by
    cases h with
    | cons h1 h2 =>
      rw [List.reverse_cons, List.reverse_cons]
      exact h2.reverse.append (.cons h1 .nil)

section
variable {α β γ δ ε : Type} [Enc α] [Enc β] [Enc γ] [Enc δ] [Enc ε]
theorem R.int_v {i : Int} (h : R K F v i) : v = .int i := by cases h; rfl
theorem R.bl_v {b : Bool} (h : R K F v b) : v = .bl b := by cases h; rfl
theorem R.str_v {x : Str} (h : R K F v x) : v = .str x ∧ GS x := by cases h with | str _ g => exact ⟨rfl, g⟩
theorem R.non_v (h : R K F v (none : Option α)) : v = .non := by
  have h' : Rp K F v .none := h
  cases h'
  rfl
theorem R.lst_v {xs : List α} (h : R K F v xs) : ∃ p ws, v = .ref p ∧ SqL K F p ws ∧ ws.length ≤ sizeLine ∧ RL K F ws xs := by
  have h' : Rp K F v (.list (xs.map Enc.d)) := h
  cases h' with | lst h1 h2 h3 => exact ⟨_, _, rfl, h1, h2, h3⟩
theorem R.vt_v {x : VT α} (h : R K F v x) : ∃ p ws, v = .ref p ∧ SqT K F p ws ∧ ws.length ≤ sizeLine ∧ RL K F ws x.l := by
  have h' : Rp K F v (.tuple (x.l.map Enc.d)) := h
  cases h' with | tup h1 h2 h3 => exact ⟨_, _, rfl, .inl (.inl h1), h2, h3⟩
theorem RpA.one {d1 : PyData} (h : RpA K F vs [d1]) : ∃ v1, vs = [v1] ∧ Rp K F v1 d1 := by
  cases h with | cons h1 h2 => cases h2; exact ⟨_, rfl, h1⟩
theorem RpA.two {d1 d2 : PyData} (h : RpA K F vs [d1, d2]) : ∃ v1 v2, vs = [v1, v2] ∧ Rp K F v1 d1 ∧ Rp K F v2 d2 := by
  cases h with | cons h1 h2 => obtain ⟨v2, rfl, r⟩ := h2.one; exact ⟨_, _, rfl, h1, r⟩
theorem RpA.three {d1 d2 d3 : PyData} (h : RpA K F vs [d1, d2, d3]) : ∃ v1 v2 v3, vs = [v1, v2, v3] ∧ Rp K F v1 d1 ∧ Rp K F v2 d2 ∧ Rp K F v3 d3 := by
  cases h with | cons h1 h2 => obtain ⟨v2, v3, rfl, r⟩ := h2.two; exact ⟨_, _, _, rfl, h1, r⟩
theorem RpA.four {d1 d2 d3 d4 : PyData} (h : RpA K F vs [d1, d2, d3, d4]) : ∃ v1 v2 v3 v4, vs = [v1, v2, v3, v4] ∧ Rp K F v1 d1 ∧ Rp K F v2 d2 ∧ Rp K F v3 d3 ∧ Rp K F v4 d4 := by
  cases h with | cons h1 h2 => obtain ⟨v2, v3, v4, rfl, r⟩ := h2.three; exact ⟨_, _, _, _, rfl, h1, r⟩
theorem RpA.five {d1 d2 d3 d4 d5 : PyData} (h : RpA K F vs [d1, d2, d3, d4, d5]) : ∃ v1 v2 v3 v4 v5, vs = [v1, v2, v3, v4, v5] ∧ Rp K F v1 d1 ∧ Rp K F v2 d2 ∧ Rp K F v3 d3 ∧ Rp K F v4 d4 ∧ Rp K F v5 d5 := by
  cases h with | cons h1 h2 => obtain ⟨v2, v3, v4, v5, rfl, r⟩ := h2.four; exact ⟨_, _, _, _, _, rfl, h1, r⟩
theorem R.p2_v {x : α × β} (h : R K F v x) : ∃ p v1 v2, v = .ref p ∧ SqT K F p [v1, v2] ∧ R K F v1 x.1 ∧ R K F v2 x.2 := by
  have h' : Rp K F v (.tuple [Enc.d x.1, Enc.d x.2]) := h
  cases h' with | tup h1 h2 h3 => obtain ⟨v1, v2, rfl, r1, r2⟩ := h3.two; exact ⟨_, _, _, rfl, .inl (.inl h1), r1, r2⟩
theorem R.p3_v {x : T3 α β γ} (h : R K F v x) : ∃ p v1 v2 v3, v = .ref p ∧ SqT K F p [v1, v2, v3] ∧ R K F v1 x.a ∧ R K F v2 x.b ∧ R K F v3 x.c := by
  have h' : Rp K F v (.tuple [Enc.d x.a, Enc.d x.b, Enc.d x.c]) := h
  cases h' with | tup h1 h2 h3 => obtain ⟨v1, v2, v3, rfl, r⟩ := h3.three; exact ⟨_, _, _, _, rfl, .inl (.inl h1), r⟩
theorem R.p4_v {x : T4 α β γ δ} (h : R K F v x) : ∃ p v1 v2 v3 v4, v = .ref p ∧ SqT K F p [v1, v2, v3, v4] ∧ R K F v1 x.a ∧ R K F v2 x.b ∧ R K F v3 x.c ∧ R K F v4 x.e := by
  have h' : Rp K F v (.tuple [Enc.d x.a, Enc.d x.b, Enc.d x.c, Enc.d x.e]) := h
  cases h' with | tup h1 h2 h3 => obtain ⟨v1, v2, v3, v4, rfl, r⟩ := h3.four; exact ⟨_, _, _, _, _, rfl, .inl (.inl h1), r⟩
theorem R.p5_v {x : T5 α β γ δ ε} (h : R K F v x) : ∃ p v1 v2 v3 v4 v5, v = .ref p ∧ SqT K F p [v1, v2, v3, v4, v5] ∧ R K F v1 x.a ∧ R K F v2 x.b ∧ R K F v3 x.c ∧ R K F v4 x.e ∧ R K F v5 x.f := by
  have h' : Rp K F v (.tuple [Enc.d x.a, Enc.d x.b, Enc.d x.c, Enc.d x.e, Enc.d x.f]) := h
  cases h' with | tup h1 h2 h3 => obtain ⟨v1, v2, v3, v4, v5, rfl, r⟩ := h3.five; exact ⟨_, _, _, _, _, _, rfl, .inl (.inl h1), r⟩
theorem R.vt_s {x : VT α} (h : R K F v x) : ∃ p ws, v = .ref p ∧ F p = some (.tup ws) ∧ ws.length ≤ sizeLine ∧ RL K F ws x.l := by
  have h' : Rp K F v (.tuple (x.l.map Enc.d)) := h
  cases h' with | tup h1 h2 h3 => exact ⟨_, _, rfl, h1, h2, h3⟩
theorem R.p2_s {x : α × β} (h : R K F v x) : ∃ p v1 v2, v = .ref p ∧ F p = some (.tup [v1, v2]) ∧ R K F v1 x.1 ∧ R K F v2 x.2 := by
  have h' : Rp K F v (.tuple [Enc.d x.1, Enc.d x.2]) := h
  cases h' with | tup h1 h2 h3 => obtain ⟨v1, v2, rfl, r1, r2⟩ := h3.two; exact ⟨_, _, _, rfl, h1, r1, r2⟩
theorem R.p3_s {x : T3 α β γ} (h : R K F v x) : ∃ p v1 v2 v3, v = .ref p ∧ F p = some (.tup [v1, v2, v3]) ∧ R K F v1 x.a ∧ R K F v2 x.b ∧ R K F v3 x.c := by
  have h' : Rp K F v (.tuple [Enc.d x.a, Enc.d x.b, Enc.d x.c]) := h
  cases h' with | tup h1 h2 h3 => obtain ⟨v1, v2, v3, rfl, r⟩ := h3.three; exact ⟨_, _, _, _, rfl, h1, r⟩
theorem R.p4_s {x : T4 α β γ δ} (h : R K F v x) : ∃ p v1 v2 v3 v4, v = .ref p ∧ F p = some (.tup [v1, v2, v3, v4]) ∧ R K F v1 x.a ∧ R K F v2 x.b ∧ R K F v3 x.c ∧ R K F v4 x.e := by
  have h' : Rp K F v (.tuple [Enc.d x.a, Enc.d x.b, Enc.d x.c, Enc.d x.e]) := h
  cases h' with | tup h1 h2 h3 => obtain ⟨v1, v2, v3, v4, rfl, r⟩ := h3.four; exact ⟨_, _, _, _, _, rfl, h1, r⟩
theorem R.p5_s {x : T5 α β γ δ ε} (h : R K F v x) : ∃ p v1 v2 v3 v4 v5, v = .ref p ∧ F p = some (.tup [v1, v2, v3, v4, v5]) ∧ R K F v1 x.a ∧ R K F v2 x.b ∧ R K F v3 x.c ∧ R K F v4 x.e ∧ R K F v5 x.f := by
  have h' : Rp K F v (.tuple [Enc.d x.a, Enc.d x.b, Enc.d x.c, Enc.d x.e, Enc.d x.f]) := h
  cases h' with | tup h1 h2 h3 => obtain ⟨v1, v2, v3, v4, v5, rfl, r⟩ := h3.five; exact ⟨_, _, _, _, _, _, rfl, h1, r⟩
/-- making them -/
theorem R.mkl {xs : List α} (h1 : SqL K F p vs) (h2 : vs.length ≤ sizeLine) (h3 : RL K F vs xs) : R K F (.ref p) xs := .lst h1 h2 h3
theorem R.mkvt {xs : List α} (h1 : F p = some (.tup vs)) (h2 : vs.length ≤ sizeLine) (h3 : RL K F vs xs) : R K F (.ref p) (VT.mk xs) := .tup h1 h2 h3
theorem R.mk2 {v1 v2 : V} {x : α} {y : β} (h1 : F p = some (.tup [v1, v2])) (r1 : R K F v1 x) (r2 : R K F v2 y) : R K F (.ref p) (x, y) := .tup h1 (by show 2 ≤ sizeLine; decide) (.cons r1 (.cons r2 .nil))
theorem R.mk3 {v1 v2 v3 : V} {x : α} {y : β} {z : γ} (h1 : F p = some (.tup [v1, v2, v3])) (r1 : R K F v1 x) (r2 : R K F v2 y) (r3 : R K F v3 z) : R K F (.ref p) (T3.mk x y z) := .tup h1 (by show 3 ≤ sizeLine; decide) (.cons r1 (.cons r2 (.cons r3 .nil)))
theorem R.mk4 {v1 v2 v3 v4 : V} {x : α} {y : β} {z : γ} {u : δ} (h1 : F p = some (.tup [v1, v2, v3, v4])) (r1 : R K F v1 x) (r2 : R K F v2 y) (r3 : R K F v3 z) (r4 : R K F v4 u) : R K F (.ref p) (T4.mk x y z u) := .tup h1 (by show 4 ≤ sizeLine; decide) (.cons r1 (.cons r2 (.cons r3 (.cons r4 .nil))))
theorem R.mk5 {v1 v2 v3 v4 v5 : V} {x : α} {y : β} {z : γ} {u : δ} {t : ε} (h1 : F p = some (.tup [v1, v2, v3, v4, v5])) (r1 : R K F v1 x) (r2 : R K F v2 y) (r3 : R K F v3 z) (r4 : R K F v4 u) (r5 : R K F v5 t) : R K F (.ref p) (T5.mk x y z u t) := .tup h1 (by show 5 ≤ sizeLine; decide) (.cons r1 (.cons r2 (.cons r3 (.cons r4 (.cons r5 .nil)))))
theorem RL.nil : RL K F [] ([] : List α) := RpA.nil
theorem RL.cons {x : α} {xs : List α} (r : R K F v x) (rs : RL K F vs xs) : RL K F (v :: vs) (x :: xs) := RpA.cons r rs
theorem RL.snoc {x : α} {xs : List α} (rs : RL K F vs xs) (r : R K F v x) : RL K F (vs ++ [v]) (xs ++ [x]) := by
  show RpA K F _ _
  rw [List.map_append]
  exact RpA.append rs (.cons r .nil)
theorem RL.app {us : List V} {xs ys : List α} (rs : RL K F vs xs) (r : RL K F us ys) : RL K F (vs ++ us) (xs ++ ys) := by
  show RpA K F _ _
  rw [List.map_append]
  exact RpA.append rs r
theorem RL.len {xs : List α} (rs : RL K F vs xs) : vs.length = xs.length := by
  have h := RpA.length rs
  rwa [List.length_map] at h
theorem RL.get {xs : List α} {i : Nat} (rs : RL K F vs xs) (e : vs[i]? = some v) : ∃ x, xs[i]? = some x ∧ R K F v x := by
  obtain ⟨d, e1, r⟩ := RpA.get rs e
  rw [List.getElem?_map] at e1
  cases h : xs[i]? with
  | none => rw [h] at e1; cases e1
  | some x =>
    rw [h] at e1
    have e2 : Enc.d x = d := Option.some.inj e1
    subst e2
    exact ⟨x, rfl, r⟩
theorem RL.back {xs : List α} {i : Nat} {x : α} (rs : RL K F vs xs) (e : xs[i]? = some x) : ∃ v, vs[i]? = some v ∧ R K F v x :=
  RpA.back rs (by rw [List.getElem?_map, e]; rfl)
theorem RL.at {xs : List α} {i : Int} {x : α} (rs : RL K F vs xs) (e : atI xs i = some x) : ∃ v, atI vs i = some v ∧ R K F v x := by
  unfold atI at e ⊢
  rw [rs.len]
  cases h : ixN xs.length i with
  | none => rw [h] at e; cases e
  | some j =>
    rw [h] at e
    exact rs.back e
theorem RL.cut {xs : List α} (lo hi : Option Int) (rs : RL K F vs xs) : RL K F (cutV vs lo hi) ((xs.drop (HT.sIx xs.length 0 lo)).take (HT.sIx xs.length xs.length hi - HT.sIx xs.length 0 lo)) := by
  unfold cutV
  rw [rs.len]
  show RpA K F _ _
  rw [List.map_take, List.map_drop]
  exact RpA.take _ (RpA.drop _ rs)
theorem RL.set {xs : List α} {x : α} (i : Nat) (r : R K F v x) (rs : RL K F vs xs) : RL K F (vs.set i v) (xs.set i x) := by
  show RpA K F _ _
  rw [List.map_set]
  exact RpA.set i r rs
theorem RL.rev {xs : List α} (rs : RL K F vs xs) : RL K F vs.reverse xs.reverse := by
  show RpA K F _ _
  rw [List.map_reverse]
  exact RpA.reverse rs
theorem RL.init {xs : List α} (rs : RL K F vs xs) : RL K F vs.dropLast xs.dropLast := by
  show RpA K F _ _
  rw [List.map_dropLast]
  exact RpA.dropLast rs
theorem RL.ints {xs : List Int} (rs : RL K F vs xs) : vs = xs.map V.int := by
  induction xs generalizing vs with
  | nil => cases rs; rfl
  | cons x xs ih => cases rs with | cons r t => rw [R.int_v r, ih t]; rfl
theorem RL.ofInts (xs : List Int) : RL K F (xs.map V.int) xs := by
  induction xs with
  | nil => exact .nil
  | cons x xs ih => exact .cons (.int x) ih
theorem RL.bls {xs : List Bool} (rs : RL K F vs xs) : vs = xs.map V.bl := by
  induction xs generalizing vs with
  | nil => cases rs; rfl
  | cons x xs ih => cases rs with | cons r t => rw [R.bl_v r, ih t]; rfl
theorem RL.strs {xs : List Str} (rs : RL K F vs xs) : vs = xs.map V.str ∧ ∀ x ∈ xs, GS x := by
  induction xs generalizing vs with
  | nil => cases rs; exact ⟨rfl, fun _ h => nomatch h⟩
  | cons x xs ih =>
    cases rs with
    | cons r t =>
      obtain ⟨e, g⟩ := R.str_v r
      obtain ⟨e2, g2⟩ := ih t
      refine ⟨by rw [e, e2]; rfl, fun y hy => ?_⟩
      rcases List.mem_cons.mp hy with rfl | hy
      · exact g
      · exact g2 y hy
theorem RL.ofStrs (xs : List Str) (h : ∀ x ∈ xs, GS x) : RL K F (xs.map V.str) xs := by
  induction xs with
  | nil => exact .nil
  | cons x xs ih => exact .cons (.str x (h x (List.mem_cons_self ..))) (ih fun y hy => h y (List.mem_cons_of_mem _ hy))
end
end

/-! ### how deep a type's data go -/
class Dep (α : Type) [Enc α] where
  n : Nat
  le : ∀ x : α, (Enc.d x).depth ≤ n
instance : Dep Int := ⟨0, fun _ => Nat.le_refl _⟩
instance : Dep Bool := ⟨0, fun _ => Nat.le_refl _⟩
instance : Dep Str := ⟨0, fun _ => Nat.le_refl _⟩
instance {α : Type} [Enc α] [Dep α] : Dep (Option α) := ⟨Dep.n α, fun o => by
  cases o with
  | none => exact Nat.zero_le _
  | some x => exact Dep.le x⟩
theorem depthAll_le {α : Type} [Enc α] [Dep α] : ∀ xs : List α, PyData.depthAll (xs.map Enc.d) ≤ Dep.n α
  | [] => Nat.zero_le _
  | x :: xs => Nat.max_le.mpr ⟨Dep.le x, depthAll_le xs⟩
instance {α : Type} [Enc α] [Dep α] : Dep (List α) := ⟨Dep.n α + 1, fun xs => Nat.succ_le_succ (depthAll_le xs)⟩
instance {α : Type} [Enc α] [Dep α] : Dep (VT α) := ⟨Dep.n α + 1, fun xs => Nat.succ_le_succ (depthAll_le xs.l)⟩
instance {α β : Type} [Enc α] [Enc β] [Dep α] [Dep β] : Dep (α × β) := ⟨max (Dep.n α) (Dep.n β) + 1, fun p => by
  have h1 := Dep.le p.1
  have h2 := Dep.le p.2
  show PyData.depthAll [Enc.d p.1, Enc.d p.2] + 1 ≤ _
  simp only [PyData.depthAll]
  omega⟩
instance {α β γ : Type} [Enc α] [Enc β] [Enc γ] [Dep α] [Dep β] [Dep γ] : Dep (T3 α β γ) := ⟨max (Dep.n α) (max (Dep.n β) (Dep.n γ)) + 1, fun p => by
  have h1 := Dep.le p.a
  have h2 := Dep.le p.b
  have h3 := Dep.le p.c
  show PyData.depthAll [Enc.d p.a, Enc.d p.b, Enc.d p.c] + 1 ≤ _
  simp only [PyData.depthAll]
  omega⟩
instance {α β γ δ : Type} [Enc α] [Enc β] [Enc γ] [Enc δ] [Dep α] [Dep β] [Dep γ] [Dep δ] : Dep (T4 α β γ δ) := ⟨max (Dep.n α) (max (Dep.n β) (max (Dep.n γ) (Dep.n δ))) + 1, fun p => by
  have h1 := Dep.le p.a
  have h2 := Dep.le p.b
  have h3 := Dep.le p.c
  have h4 := Dep.le p.e
  show PyData.depthAll [Enc.d p.a, Enc.d p.b, Enc.d p.c, Enc.d p.e] + 1 ≤ _
  simp only [PyData.depthAll]
  omega⟩
instance {α β γ δ ε : Type} [Enc α] [Enc β] [Enc γ] [Enc δ] [Enc ε] [Dep α] [Dep β] [Dep γ] [Dep δ] [Dep ε] : Dep (T5 α β γ δ ε) := ⟨max (Dep.n α) (max (Dep.n β) (max (Dep.n γ) (max (Dep.n δ) (Dep.n ε)))) + 1, fun p => by
  have h1 := Dep.le p.a
  have h2 := Dep.le p.b
  have h3 := Dep.le p.c
  have h4 := Dep.le p.e
  have h5 := Dep.le p.f
  show PyData.depthAll [Enc.d p.a, Enc.d p.b, Enc.d p.c, Enc.d p.e, Enc.d p.f] + 1 ≤ _
  simp only [PyData.depthAll]
  omega⟩
theorem R.shaped {α : Type} [Enc α] [Dep α] {K : PySem.W.Frag} {F : Hp} {v : V} {x : α} (r : R K F v x) (h : Dep.n α ≤ 64 := by decide) : SeqAt.shaped (Enc.d x) = true :=
  Bool.and_eq_true_iff.mpr ⟨Rp.lay _ _ r, decide_eq_true (Nat.le_trans (Dep.le x) h)⟩
/-- equal, as Python compares -/
def eqD {α : Type} [Enc α] (x y : α) : Bool := PyData.eqv (Enc.d x) (Enc.d y)

/-! ### growth: F is what stays as it is, H all that stands; M may be changed -/
structure Gr (M : Addr → Prop) (F0 H0 F H : Hp) : Prop where
  fh : Same F H
  ff : Same F0 F
  keep : ∀ a o, ¬ M a → H0 a = some o → H a = some o
  there : ∀ a, H0 a ≠ none → H a ≠ none
  new : ∀ a, H0 a ≠ none → F0 a = none → F a = none ∨ ∃ ts, H a = some (.tup ts)
abbrev M0 : Addr → Prop := fun _ => False
section
variable {M : Addr → Prop} {F0 H0 F H F' H' : Hp} {p a : Addr} {o : HO} {K : PySem.W.Frag} {xs : List V}
theorem Gr.refl (h : Same F H) : Gr M F H F H := ⟨h, Same.refl _, fun _ _ _ e => e, fun _ e => e, fun _ _ e => .inl e⟩
theorem Gr.trans (g : Gr M F0 H0 F H) (k : Gr M F H F' H') : Gr M F0 H0 F' H' :=
  ⟨k.fh, g.ff.trans k.ff, fun a o n e => k.keep a o n (g.keep a o n e), fun a e => k.there a (g.there a e), fun a e n => by
    cases q : F a with
    | none => exact k.new a (g.there a e) q
    | some o =>
      rcases g.new a e n with z | ⟨ts, z⟩
      · rw [z] at q; cases q
      · have := g.fh a o q
        rw [z] at this; cases this
        exact .inr ⟨ts, k.fh _ _ (k.ff _ _ q)⟩⟩
theorem Gr.of0 (g : Gr M0 F H F' H') : Gr M F H F' H' := ⟨g.fh, g.ff, fun a o _ e => g.keep a o id e, g.there, g.new⟩
theorem Gr.none0 (g : Gr M F0 H0 F H) (h : H a = none) : H0 a = none := by
  cases e : H0 a with
  | none => rfl
  | some o => exact absurd h (g.there a (by rw [e]; simp))
theorem Gr.noneF (g : Gr M F0 H0 F H) (h : H a = none) : F a = none := by
  cases e : F a with
  | none => rfl
  | some o => rw [g.fh a o e] at h; cases h
theorem same_new (h : F p = none) : Same F (upd F p o) := fun b u e => by rw [upd_ne (ne_of_none e h)]; exact e
theorem same_upd2 (h : Same F H) (hp : F p = none) : Same (upd F p o) (upd H p o) := fun b u e => by
  by_cases hb : b = p
  · subst hb; rw [upd_same] at e ⊢; exact e
  · rw [upd_ne hb] at e ⊢; exact h b u e
theorem same_out (h : Same F H) (hp : F p = none) : Same F (upd H p o) := fun b u e => by
  rw [upd_ne (ne_of_none e hp)]
  exact h b u e
/-- a new thing that stays as it is -/
theorem Gr.frz (g : Gr M F0 H0 F H) (h : H p = none) : Gr M F0 H0 (upd F p o) (upd H p o) :=
  ⟨same_upd2 g.fh (g.noneF h), g.ff.trans (same_new (g.noneF h)), fun a u n e => by rw [upd_ne (ne_of_none (g.keep a u n e) h)]; exact g.keep a u n e,
    fun a e => by
      by_cases ha : a = p
      · subst ha; rw [upd_same]; simp
      · rw [upd_ne ha]; exact g.there a e,
    fun a e n => by
      have ha : a ≠ p := fun z => by subst z; exact e (g.none0 h)
      rw [upd_ne ha, upd_ne ha]; exact g.new a e n⟩
/-- a new thing that may be changed -/
theorem Gr.own (g : Gr M F0 H0 F H) (h : H p = none) : Gr M F0 H0 F (upd H p o) :=
  ⟨same_out g.fh (g.noneF h), g.ff, fun a u n e => by rw [upd_ne (ne_of_none (g.keep a u n e) h)]; exact g.keep a u n e,
    fun a e => by
      by_cases ha : a = p
      · subst ha; rw [upd_same]; simp
      · rw [upd_ne ha]; exact g.there a e, fun a e n => by
      have ha : a ≠ p := fun z => by subst z; exact e (g.none0 h)
      rw [upd_ne ha]; exact g.new a e n⟩
/-- a thing of ours is changed -/
theorem Gr.mut (g : Gr M F0 H0 F H) (n : F p = none) (n0 : H0 p = none ∨ M p) : Gr M F0 H0 F (upd H p o) :=
  ⟨same_out g.fh n, g.ff, fun a u m e => by
      have ha : a ≠ p := fun z => by
        subst z
        rcases n0 with z | z
        · rw [z] at e; cases e
        · exact m z
      rw [upd_ne ha]; exact g.keep a u m e,
    fun a e => by
      by_cases ha : a = p
      · subst ha; rw [upd_same]; simp
      · rw [upd_ne ha]; exact g.there a e, fun a e z => by
      by_cases ha : a = p
      · subst ha; exact .inl n
      · rw [upd_ne ha]; exact g.new a e z⟩
/-- a thing of ours stays as it is from now on -/
theorem Gr.freeze (g : Gr M F0 H0 F H) (h : H p = some o) (n0 : H0 p = none) : Gr M F0 H0 (upd F p o) H :=
  ⟨fun b u e => by
      by_cases hb : b = p
      · subst hb; rw [upd_same] at e; cases e; exact h
      · rw [upd_ne hb] at e; exact g.fh b u e,
    fun b u e => by
      by_cases hb : b = p
      · subst hb
        have := g.fh b u (g.ff b u e)
        rw [h] at this; cases this
        exact upd_same
      · rw [upd_ne hb]; exact g.ff b u e, g.keep, g.there,
    fun a e n => by
      have ha : a ≠ p := fun z => by subst z; exact e n0
      rw [upd_ne ha]; exact g.new a e n⟩
/-- a tuple that stands, taken among what stays -/
theorem Gr.adopt (g : Gr M F0 H0 F H) {ts : List V} (h : H p = some (.tup ts)) : Gr M F0 H0 (upd F p (.tup ts)) H :=
  ⟨fun b u e => by
      by_cases hb : b = p
      · subst hb; rw [upd_same] at e; cases e; exact h
      · rw [upd_ne hb] at e; exact g.fh b u e,
    fun b u e => by
      by_cases hb : b = p
      · subst hb
        have := g.fh b u (g.ff b u e)
        rw [h] at this; cases this
        exact upd_same
      · rw [upd_ne hb]; exact g.ff b u e, g.keep, g.there,
    fun a e n => by
      by_cases ha : a = p
      · subst ha; exact .inr ⟨ts, h⟩
      · rw [upd_ne ha]; exact g.new a e n⟩
theorem Gr.same_adopt (g : Gr M F0 H0 F H) {ts : List V} (h : H p = some (.tup ts)) : Same F (upd F p (.tup ts)) := fun b u e => by
  by_cases hb : b = p
  · subst hb
    have := g.fh b u e
    rw [h] at this; cases this
    exact upd_same
  · rw [upd_ne hb]; exact e
theorem Gr.newL (g : Gr M F0 H0 F H) (h : H0 a ≠ none) (n : F0 a = none) (ht : ∀ ts, H a ≠ some (.tup ts)) : F a = none := by
  rcases g.new a h n with z | ⟨ts, z⟩
  · exact z
  · exact absurd z (ht ts)
theorem Gr.seq (g : Gr M F0 H0 F H) (m : ¬ M a) (h : SqL K H0 a xs) : SqL K H a xs := by
  rcases h with (h | ⟨o, h⟩) | h
  · exact .inl (.inl (g.keep _ _ m h))
  · exact .inl (.inr ⟨o, g.keep _ _ m h⟩)
  · exact .inr h
theorem same_frz (h : H p = some o) (n : F p = none) : Same F (upd F p o) := same_new n
end

/-! ### the makings, step by step -/
def bind2 {α β γ : Type} (o : Option (α × β)) (f : α → β → Option γ) : Option γ := o.bind fun p => f p.1 p.2
def bind3 {α β γ δ : Type} (o : Option (α × β × γ)) (f : α → β → γ → Option δ) : Option δ := o.bind fun p => f p.1 p.2.1 p.2.2
def bind4 {α β γ δ ε : Type} (o : Option (α × β × γ × δ)) (f : α → β → γ → δ → Option ε) : Option ε := o.bind fun p => f p.1 p.2.1 p.2.2.1 p.2.2.2
def bind5 {α β γ δ ε ζ : Type} (o : Option (α × β × γ × δ × ε)) (f : α → β → γ → δ → ε → Option ζ) : Option ζ := o.bind fun p => f p.1 p.2.1 p.2.2.1 p.2.2.2.1 p.2.2.2.2
theorem bnd {α β : Type} {o : Option α} {f : α → Option β} {r : β} (h : Option.bind o f = some r) : ∃ x, o = some x ∧ f x = some r := Option.bind_eq_some_iff.mp h
theorem bnd2 {α β γ : Type} {o : Option (α × β)} {f : α → β → Option γ} {r : γ} (h : bind2 o f = some r) : ∃ x y, o = some (x, y) ∧ f x y = some r :=
  let ⟨p, e, k⟩ := Option.bind_eq_some_iff.mp h
  ⟨p.1, p.2, e, k⟩
theorem bnd3 {α β γ δ : Type} {o : Option (α × β × γ)} {f : α → β → γ → Option δ} {r : δ} (h : bind3 o f = some r) : ∃ x y z, o = some (x, y, z) ∧ f x y z = some r :=
  let ⟨p, e, k⟩ := Option.bind_eq_some_iff.mp h
  ⟨p.1, p.2.1, p.2.2, e, k⟩
theorem bnd4 {α β γ δ ε : Type} {o : Option (α × β × γ × δ)} {f : α → β → γ → δ → Option ε} {r : ε} (h : bind4 o f = some r) : ∃ x y z u, o = some (x, y, z, u) ∧ f x y z u = some r :=
  let ⟨p, e, k⟩ := Option.bind_eq_some_iff.mp h
  ⟨p.1, p.2.1, p.2.2.1, p.2.2.2, e, k⟩
theorem bnd5 {α β γ δ ε ζ : Type} {o : Option (α × β × γ × δ × ε)} {f : α → β → γ → δ → ε → Option ζ} {r : ζ} (h : bind5 o f = some r) : ∃ x y z u t, o = some (x, y, z, u, t) ∧ f x y z u t = some r :=
  let ⟨p, e, k⟩ := Option.bind_eq_some_iff.mp h
  ⟨p.1, p.2.1, p.2.2.1, p.2.2.2.1, p.2.2.2.2, e, k⟩
/-- a loop's end: gone on, or handed back -/
inductive Lp (S R : Type) where
  | go (s : S)
  | ret (r : R)
def bindL {S R T : Type} (o : Option (Lp S R)) (f : S → Option T) (g : R → Option T) : Option T := o.bind fun l => match l with
  | .go s => f s
  | .ret r => g r
theorem ifT {α : Type} {c : Bool} {a b : α} {r : α} (h : c = true) (e : (if c = true then a else b) = r) : a = r := by rw [if_pos h] at e; exact e
theorem ifF {α : Type} {c : Bool} {a b : α} {r : α} (h : c = false) (e : (if c = true then a else b) = r) : b = r := by rw [if_neg (by rw [h]; decide)] at e; exact e
theorem iteB {c : Bool} {A B : Prop} (h1 : c = true → A) (h2 : c = false → B) : if c = true then A else B := by
  cases c with
  | true => exact h1 rfl
  | false => exact h2 rfl
theorem drop_at {α : Type} {xs : List α} {i : Nat} {x : α} (h : xs[i]? = some x) : xs.drop i = x :: xs.drop (i + 1) := by
  obtain ⟨h1, h2⟩ := List.getElem?_eq_some_iff.mp h
  rw [List.drop_eq_getElem_cons h1, h2]
theorem drop_end {α : Type} {xs : List α} {n : Nat} (h : n = xs.length) : xs.drop n = [] := by subst h; exact List.drop_length
end G
/-! My base, part 2: operations of the makings, and their rules. -/
namespace G
open PySem PySem.Spec PyProof.Rows L2 TL

/-! ### ints, truths -/
def eqI (a b : Int) : Bool := decide (V.int a = V.int b)
def neI (a b : Int) : Bool := !decide (V.int a = V.int b)
def eqB (a b : Bool) : Bool := decide (V.bl a = V.bl b)
def neB (a b : Bool) : Bool := !decide (V.bl a = V.bl b)
def eqS (a b : Str) : Bool := decide (V.str a = V.str b)
def neS (a b : Str) : Bool := !decide (V.str a = V.str b)
theorem eqI_iff {a b : Int} : eqI a b = decide (a = b) := by unfold eqI; simp
theorem neI_iff {a b : Int} : neI a b = !decide (a = b) := by unfold neI; simp
theorem eqB_iff {a b : Bool} : eqB a b = decide (a = b) := by unfold eqB; simp
theorem neB_iff {a b : Bool} : neB a b = !decide (a = b) := by unfold neB; simp
theorem eqS_iff {a b : Str} : eqS a b = decide (a = b) := by unfold eqS; simp
theorem neS_iff {a b : Str} : neS a b = !decide (a = b) := by unfold neS; simp
def toI (b : Bool) : Int := if b then 1 else 0
def mulI (a b : Int) : Option Int := if a.natAbs.log2 + b.natAbs.log2 < 1000000 then some (a * b) else none
def divI (a b : Int) : Option Int := if 0 < b ∧ b.natAbs.log2 < 9000 then some (a / b) else none
def modI (a b : Int) : Option Int := if 0 < b then some (a % b) else none
def shlI (a b : Int) : Option Int := if 0 ≤ b ∧ b ≤ 1000000 ∧ a.natAbs < 2 ^ 64 then some (a * 2 ^ b.toNat) else none
def shrI (a b : Int) : Option Int := if 0 ≤ b then some (a / 2 ^ b.toNat) else none
theorem mulI_ok {a b r : Int} (h : mulI a b = some r) : CMulW a b ∧ a * b = r := by
  unfold mulI at h
  split at h
  · exact ⟨by assumption, Option.some.inj h⟩
  · cases h
theorem divI_ok {a b r : Int} (h : divI a b = some r) : CDivW a b ∧ a / b = r := by
  unfold divI at h
  split at h
  · exact ⟨by assumption, Option.some.inj h⟩
  · cases h
theorem modI_ok {a b r : Int} (h : modI a b = some r) : 0 < b ∧ a % b = r := by
  unfold modI at h
  split at h
  · exact ⟨by assumption, Option.some.inj h⟩
  · cases h
theorem shlI_ok {a b r : Int} (h : shlI a b = some r) : CPow a b ∧ a * 2 ^ b.toNat = r := by
  unfold shlI at h
  split at h
  · exact ⟨by assumption, Option.some.inj h⟩
  · cases h
theorem shrI_ok {a b r : Int} (h : shrI a b = some r) : 0 ≤ b ∧ a / 2 ^ b.toNat = r := by
  unfold shrI at h
  split at h
  · exact ⟨by assumption, Option.some.inj h⟩
  · cases h
theorem maxI_eq {i j : Int} : (if j > i then j else i) = max i j := by omega
theorem minI_eq {i j : Int} : (if j < i then j else i) = min i j := by omega

/-! ### texts -/
def sgn (c : Nat) : Str := ⟨#[c]⟩
theorem GS.of {x : Str} (h1 : (tl x).length ≤ sizeLine) (h2 : ∀ c ∈ tl x, c < 0x110000) : GS x := by
  refine ⟨by rw [len_tl]; exact h1, ?_⟩
  show x.cps.all (fun c => decide (c < 0x110000)) = true
  rw [Array.all_eq_true']
  intro c hc
  exact decide_eq_true (h2 c (by simpa [tl] using hc))
theorem GS.mem {x : Str} (g : GS x) : ∀ c ∈ tl x, c < 0x110000 := by
  intro c hc
  have h : x.cps.all (fun c => decide (c < 0x110000)) = true := g.ok
  rw [Array.all_eq_true'] at h
  exact of_decide_eq_true (h c (by simpa [tl] using hc))
theorem GS.tll {x : Str} (g : GS x) : (tl x).length ≤ sizeLine := by rw [← len_tl]; exact g.len
theorem GS.sg {x : Str} {c : Nat} (g : GS x) (h : c ∈ tl x) : GS (sgn c) := GS.of (by show 1 ≤ sizeLine; decide) (fun d hd => by
  have e : d = c := by simpa [tl, sgn] using hd
  rw [e]
  exact g.mem c h)
theorem GS.cut {x : Str} (g : GS x) (lo hi : Option Int) : GS (cutS x lo hi) := GS.of (by
    rw [← len_tl]
    exact Nat.le_trans (cutS_length x lo hi) g.len)
  fun c hc => g.mem c (List.mem_of_mem_drop (List.mem_of_mem_take (show c ∈ ((tl x).drop _).take _ from hc)))
def catS (a b : Str) : Option Str := if a.length + b.length ≤ sizeLine then some (a ++ b) else none
theorem catS_ok {a b r : Str} (h : catS a b = some r) : a.length + b.length ≤ sizeLine ∧ a ++ b = r := by
  unfold catS at h
  split at h
  · exact ⟨by assumption, Option.some.inj h⟩
  · cases h
theorem GS.cat {a b r : Str} (ga : GS a) (gb : GS b) (h : catS a b = some r) : GS r := by
  obtain ⟨h1, rfl⟩ := catS_ok h
  refine GS.of ?_ fun c hc => ?_
  · rw [tl_append, List.length_append, ← len_tl, ← len_tl]
    exact h1
  · rw [tl_append] at hc
    rcases List.mem_append.mp hc with k | k
    · exact ga.mem c k
    · exact gb.mem c k
/-- the sign at a place -/
def codeAt (x : Str) (i : Int) : Option Nat := atI (tl x) i
theorem codeAt_mem {x : Str} {i : Int} {c : Nat} (h : codeAt x i = some c) : c ∈ tl x := by
  unfold codeAt atI at h
  cases e : ixN (tl x).length i with
  | none => rw [e] at h; cases h
  | some j => rw [e] at h; exact List.mem_of_getElem? h
def mulS (x : Str) (n : Int) : Option Str := if -(2 ^ 63 : Int) ≤ n ∧ n ≤ 16777216 ∧ x.length * n.toNat ≤ 16777216 then some (Txt.mul x n) else none
theorem mulS_ok {x r : Str} {n : Int} (h : mulS x n = some r) : MulOk x n ∧ Txt.mul x n = r := by
  unfold mulS at h
  split at h
  · rename_i q
    exact ⟨mulOk_of x.length n.toNat (Nat.le_refl _) (by omega) q.1 (by omega) q.2.2, Option.some.inj h⟩
  · cases h
theorem foldl_app (cs : Array Nat) : ∀ (k : Nat) (acc : Array Nat), ((List.replicate k cs).foldl (· ++ ·) acc).toList = acc.toList ++ (List.replicate k cs.toList).flatten
  | 0, acc => by simp
  | k + 1, acc => by
    rw [List.replicate_succ, List.foldl_cons, foldl_app cs k, List.replicate_succ, List.flatten_cons, Array.toList_append, List.append_assoc]
theorem tl_mul (x : Str) (n : Int) : tl (Txt.mul x n) = (List.replicate n.toNat (tl x)).flatten := by
  unfold Txt.mul
  split
  · have e : n.toNat = 0 := by omega
    rw [e]
    rfl
  · split
    · rename_i h1 h2
      rcases Bool.or_eq_true_iff.mp h2 with h | h
      · have e : n = 1 := eq_of_beq h
        subst e
        show tl x = [tl x].flatten
        simp
      · have e : x.length = 0 := eq_of_beq h
        have e2 : tl x = [] := List.eq_nil_of_length_eq_zero (by rw [← len_tl]; exact e)
        rw [e2]
        simp
    · show ((List.replicate n.toNat x.cps).foldl (· ++ ·) #[]).toList = _
      rw [foldl_app]
      rfl
theorem GS.mul {x r : Str} {n : Int} (g : GS x) (h : mulS x n = some r) : GS r := by
  have h0 := h
  unfold mulS at h0
  split at h0
  · rename_i q
    obtain ⟨_, rfl⟩ := mulS_ok h
    refine GS.of ?_ fun c hc => ?_
    · rw [tl_mul, List.length_flatten, List.map_replicate, List.sum_replicate_nat, ← len_tl, sizeLine_eq, Nat.mul_comm]
      exact q.2.2
    · rw [tl_mul] at hc
      obtain ⟨l, hl, hc⟩ := List.mem_flatten.mp hc
      rw [(List.mem_replicate.mp hl).2] at hc
      exact g.mem c hc
  · cases h0
def joinS (sep : Str) (ys : List Str) : Option Str := if (ys.map (·.length)).sum + ys.length * sep.length ≤ 16777216 then some (Txt.join sep ys) else none
theorem joinS_ok {sep r : Str} {ys : List Str} (h : joinS sep ys = some r) : (ys.map (·.length)).sum + ys.length * sep.length ≤ 16777216 ∧ Txt.join sep ys = r := by
  unfold joinS at h
  split at h
  · exact ⟨by assumption, Option.some.inj h⟩
  · cases h
theorem tl_joinS (sep : Str) (ys : List Str) : tl (Txt.join sep ys) = joinL (tl sep) (ys.map tl) := by
  have e : Txt.join sep ys = Str.join sep ys := by
    unfold Txt.join; exact StrLaws.glued_eq_join sep ys
  rw [e, tl_join]
end G
/-! My base, part 3: rules. -/
namespace G
open PySem PySem.Spec PyProof.Rows L2 TL

section
variable {X : Cx}
theorem CallR.imp {f : Value} {r r' : List V → Hp → VK → Prop} (h : CallR X f r) (k : ∀ xs H Q, r' xs H Q → r xs H Q) : CallR X f r' :=
  fun pins s σ H xs us Q I rx q => h pins s σ H xs us Q I rx (k _ _ _ q)
theorem OpR.imp {f : Value → Value → Sem Value} {r r' : R2} (h : OpR X f r) (k : ∀ x y H Q, r' x y H Q → r x y H Q) : OpR X f r' :=
  fun pins s σ H x y v u Q I rx ry q => h pins s σ H x y v u Q I rx ry (k _ _ _ _ q)
/-- int(a truth) -/
theorem call_toI : CallR X (.type "int") (fun xs H Q => ∃ k, xs = [.bl k] ∧ Q (.int (toI k)) H) := CallR.imp call_int1 fun xs H Q ⟨k, e, q⟩ => .inr ⟨k, e, q⟩
/-- len(a list or tuple), told -/
theorem call_lenL : CallR X (.builtin "len") (fun xs H Q => ∃ p ys n, xs = [.ref p] ∧ (SqL X.K H p ys ∨ SqT X.K H p ys) ∧ ys.length = n ∧ Q (.int (n : Nat)) H) :=
  CallR.imp call_len_seq fun xs H Q ⟨p, ys, n, e, h, e2, q⟩ => ⟨p, ys, e, h, by rw [e2]; exact q⟩
/-- is None, told -/
theorem op_isO : OpR X (compareOp .Is) (fun x y H Q => ∃ b, y = .non ∧ decide (x = .non) = b ∧ Q (.bl b) H) := OpR.imp op_isN fun x y H Q ⟨b, e, e2, q⟩ => ⟨e, by rw [e2]; exact q⟩
theorem op_notO : OpR X (compareOp .IsNot) (fun x y H Q => ∃ b, y = .non ∧ decide (x = .non) = b ∧ Q (.bl (!b)) H) := OpR.imp op_notN fun x y H Q ⟨b, e, e2, q⟩ => ⟨e, by rw [e2]; exact q⟩
theorem op_mulS : OpR X (binaryOp .Mult) (fun x y H Q => ∃ z n, x = .str z ∧ y = .int n ∧ MulOk z n ∧ Q (.str (Txt.mul z n)) H) := by
  intro pins s σ H x y v u Q I rx ry h
  obtain ⟨z, n, rfl, rfl, ok, q⟩ := h
  obtain ⟨t, rfl⟩ := rx
  obtain ⟨t', rfl⟩ := ry
  exact SB.mul ok fun t' k => ⟨.str _, H, I.tok k, ⟨t', rfl⟩, q⟩
/-- xs + ys, lists that are read -/
def rCatL (K : PySem.W.Frag) : R2 := fun x y H Q => ∃ l b xs zs, x = .ref l ∧ y = .ref b ∧ SqL K H l xs ∧ SqL K H b zs ∧ xs.length + zs.length ≤ sizeLine ∧ ∀ p, H p = none → Q (.ref p) (upd H p (.lst (xs ++ zs)))
theorem op_catL : OpR X (binaryOp .Add) (rCatL X.K) := by
  intro pins s σ H x y v u Q I rx ry h
  obtain ⟨l, b, xs, zs, rfl, rfl, hH, hB, hz, q⟩ := h
  cases rx
  cases ry
  obtain ⟨its, r, p1, hl⟩ := I.list hH
  obtain ⟨its2, r2, p2, hl2⟩ := I.list hB
  obtain ⟨⟨cls, dd, data, sl⟩, ho, hc, n, hd⟩ := p1.isList
  obtain ⟨⟨cls2, dd2, data2, sl2⟩, ho2, hc2, n2, hd2⟩ := p2.isList
  simp only at hc hd hc2 hd2
  subst hc hd hc2 hd2
  have ea : its.toArray ++ its2.toArray = (its ++ its2).toArray := by simp
  have e1 := r.length
  have e2 := r2.length
  refine concat_meets ⟨_, ho, rfl⟩ ⟨_, ho2, rfl⟩ noFill_list_add seq_list_add PySem.F.slot_list_add PySem.F.entry_list_add (PySem.F.args_list_add_2 _ _) (PyProof.Rows.list_addW l b its.toArray its2.toArray n n2 dd dd2 sl sl2 (by simp; omega)) ⟨ho, ho2, ?_⟩
  rw [ea]
  exact ⟨.ref _, _, I.lnew (t' := s.toks) (r.append r2) (by rw [List.length_append]; omega), rfl, q _ I.fresh⟩
end

/-! ### parts of an expression, closed: what they come to, whatever follows -/
section
variable {M : Addr → Prop} {F H : Hp} {σ : L2.St} {ta tb tc : TE} {Q : VK} {a c k : Bool}
/-- t comes to the truth c -/
def EvB (M : Addr → Prop) (F H : Hp) (t : VK → Prop) (c : Bool) : Prop := ∀ Q : VK, (∀ F' H', Gr M F H F' H' → Q (.bl c) H') → t Q
def EvT (M : Addr → Prop) (F H : Hp) (t : (Bool → Hp → Prop) → Prop) (c : Bool) : Prop := ∀ Q : Bool → Hp → Prop, (∀ F' H', Gr M F H F' H' → Q c H') → t Q
theorem andV_g (h1 : EvB M F H (fun Q => ta σ H Q) a) (h2 : a = true → ∀ F1 H1, Gr M F H F1 H1 → EvB M F1 H1 (fun Q => tb σ H1 Q) c) (h3 : a = false → c = false)
    (q : ∀ F' H', Gr M F H F' H' → Q (.bl c) H') : tAndV ta tb σ H Q := h1 _ fun F1 H1 g1 => ⟨a, rfl, by
  cases e : a with
  | true => exact iteT (h2 e F1 H1 g1 _ fun F2 H2 g2 => q F2 H2 (g1.trans g2))
  | false =>
    have ec := h3 e
    subst ec
    exact iteF (q F1 H1 g1)⟩
theorem orV_g (h1 : EvB M F H (fun Q => ta σ H Q) a) (h2 : a = false → ∀ F1 H1, Gr M F H F1 H1 → EvB M F1 H1 (fun Q => tb σ H1 Q) c) (h3 : a = true → c = true)
    (q : ∀ F' H', Gr M F H F' H' → Q (.bl c) H') : tOrV ta tb σ H Q := h1 _ fun F1 H1 g1 => ⟨a, rfl, by
  cases e : a with
  | false => exact iteF (h2 e F1 H1 g1 _ fun F2 H2 g2 => q F2 H2 (g1.trans g2))
  | true =>
    have ec := h3 e
    subst ec
    exact iteT (q F1 H1 g1)⟩
theorem andT_g {ta tb : TT} {Q : Bool → Hp → Prop} (h1 : EvT M F H (fun Q => ta σ H Q) a) (h2 : a = true → ∀ F1 H1, Gr M F H F1 H1 → EvT M F1 H1 (fun Q => tb σ H1 Q) c) (h3 : a = false → c = false)
    (q : ∀ F' H', Gr M F H F' H' → Q c H') : tAnd ta tb σ H Q := h1 _ fun F1 H1 g1 => by
  cases e : a with
  | true => exact iteT (h2 e F1 H1 g1 _ fun F2 H2 g2 => q F2 H2 (g1.trans g2))
  | false =>
    have ec := h3 e
    subst ec
    exact iteF (q F1 H1 g1)
theorem orT_g {ta tb : TT} {Q : Bool → Hp → Prop} (h1 : EvT M F H (fun Q => ta σ H Q) a) (h2 : a = false → ∀ F1 H1, Gr M F H F1 H1 → EvT M F1 H1 (fun Q => tb σ H1 Q) c) (h3 : a = true → c = true)
    (q : ∀ F' H', Gr M F H F' H' → Q c H') : tOr ta tb σ H Q := h1 _ fun F1 H1 g1 => by
  cases e : a with
  | false => exact iteF (h2 e F1 H1 g1 _ fun F2 H2 g2 => q F2 H2 (g1.trans g2))
  | true =>
    have ec := h3 e
    subst ec
    exact iteT (q F1 H1 g1)
/-- a < b < c -/
theorem chainV_g {r r' : R2} (h1 : EvB M F H (fun Q => ta σ H fun x H1 => tb σ H1 fun y H2 => r x y H2 Q) a) (h : tChain r r' ta tb tc σ H Q) : tChain r r' ta tb tc σ H Q := h
/-- e if t else e': it comes to what P says -/
theorem ifE_g {tt : TT} {P : V → Hp → Hp → Prop} (h1 : EvT M F H (fun Q => tt σ H Q) a)
    (h2 : a = true → ∀ F1 H1, Gr M F H F1 H1 → ∀ Q : VK, (∀ v F' H', Gr M F1 H1 F' H' → P v F' H' → Q v H') → ta σ H1 Q)
    (h3 : a = false → ∀ F1 H1, Gr M F H F1 H1 → ∀ Q : VK, (∀ v F' H', Gr M F1 H1 F' H' → P v F' H' → Q v H') → tb σ H1 Q)
    (q : ∀ v F' H', Gr M F H F' H' → P v F' H' → Q v H') : tIf tt ta tb σ H Q := h1 _ fun F1 H1 g1 => by
  cases e : a with
  | true => exact iteT (h2 e F1 H1 g1 _ fun v F2 H2 g2 => q v F2 H2 (g1.trans g2))
  | false => exact iteF (h3 e F1 H1 g1 _ fun v F2 H2 g2 => q v F2 H2 (g1.trans g2))
end

/-! ### peeling a statement -/
section
variable {D : Ends} {σ : L2.St} {H : Hp} {t u : TS} {te : TE} {g : TG} {c : TT}
theorem p_seq (h : t { D with nx := u D } σ H) : tSeq t u D σ H := h
theorem p_asg (h : te σ H (fun x H1 => g x σ H1 D.nx)) : tAsg te g D σ H := h
theorem p_ret (h : te σ H D.rt) : tRet te D σ H := h
theorem p_if (h : c σ H (fun b H1 => if b = true then t D σ H1 else u D σ H1)) : tIfS c t u D σ H := h
theorem p_drop (h : te σ H (fun _ H1 => D.nx σ H1)) : tDrop te D σ H := h
/-- a statement, then the rest, with a word between them -/
def tCut (t u : TS) : TS := fun D σ H => ∃ Mid : L2.St → Hp → Prop, t { D with nx := Mid } σ H ∧ ∀ σ' H', Mid σ' H' → u D σ' H'
theorem pss_cut {X : Cx} {st : Stmt} {rest : List Stmt} (h1 : PS X st t) (h2 : PSs X rest u) : PSs X (st :: rest) (tCut t u) := by
  refine ⟨fun pins s σ H D I h => ?_⟩
  obtain ⟨Mid, hm, hu⟩ := h
  refine wpAny_execs_cons (thn (h1.run pins s σ H { D with nx := Mid } I hm) fun f s1 q => ?_)
  cases f with
  | next =>
    obtain ⟨σ', H', I', q⟩ := q
    exact h2.run pins s1 σ' H' D I' (hu σ' H' q)
  | ret v => exact q
  | brk => exact q
  | cont => exact q
end

/-! ### a call by names alone -/
section
variable {X : Cx} {CX : CXT} {k : Nat} {f : Addr} {fd : FuncData} {ps ks : List Str} {sp : Sp} {E : XK} {x : Str} {p pos : Pos} {kws : List Keyword} {tk : TA} {g : List Value → List Value → List Value} {gV : List V → List V → List V}
theorem pe_callK0 (F : FnOk X.prog X.w X.K X.mg X.base CX k f fd ps sp) (hr : Room k X.A) (hg : Gl X x) (hm : X.mg x = some (.ref f)) (hk : PySem.W.keepIn X.K (.ref f) = true) (hb : KBinds X.K fd ps ks g gV) (hx : Passes CX X E)
    (hkw : PK X kws tk) (hall : (backToKw pos (keywordEach kws X.env)).all (·.1.isSome) = true := by rfl) (hks : (backToKw pos (keywordEach kws X.env)).filterMap (·.1) = ks := by rfl)
    (hdb : (x == ("__debug__" : Str)) = false := by decide)
    (hpl : ((backTo pos (starEach [] X.env)).any (·.1) || (backToKw pos (keywordEach kws X.env)).any (·.1.isNone)) = false := by rfl) :
    PE X (.Call (.Name x p) [] kws pos) (tCallK sp gV E tNil tk) := by
  refine ⟨fun pins s σ H Q I h => ?_⟩
  refine wpAny_Call_Name_kw (ld_glob I hg hm ?_ hdb)
  refine PySem.W.callWith_KW0 (h₀ := X.base) I.ok.mod.kin hk hall ?_ hpl
  refine thn (hkw.run pos pins s σ H _ I h) fun ws s2 ⟨zs, H2, I2, rz, q2⟩ => ⟨I2.kIn, ?_⟩
  rw [hks]
  exact run_fnk F hr hb hx I2 .nil rz q2
end

/-! ### texts kept in a written table -/
def dgetS (kvs : List (Str × Str)) (k d : Str) : Str := ((kvs.find? fun kv => decide (kv.1 = k)).map (·.2)).getD d
def kvS (kvs : List (Str × Str)) : List (Key × V) := kvs.map fun kv => (Sum.inr kv.1, V.str kv.2)
theorem valS (k : Str) : ∀ kvs : List (Str × Str), valV (kvS kvs) (Sum.inr k) = ((kvs.find? fun kv => decide (kv.1 = k)).map (·.2)).map V.str
  | [] => rfl
  | kv :: r => by
    unfold valV kvS
    rw [List.map_cons, List.find?_cons, List.find?_cons]
    by_cases h : kv.1 = k
    · have h' : (Sum.inr kv.1 : Key) = Sum.inr k := by rw [h]
      simp only [decide_eq_true h, decide_eq_true h', Option.map_some]
    · have h' : ¬ (Sum.inr kv.1 : Key) = Sum.inr k := fun e => h (Sum.inr.inj e)
      simp only [decide_eq_false h, decide_eq_false h']
      exact valS k r
theorem rd_dgets {ty tx : TE} {σ : L2.St} {H : Hp} {Q : VK} {k d : Str} (trs : List (TE × TE)) (kvs : List (Str × Str)) (he : trs = kvs.map fun kv => (tC (.str kv.1), tC (.str kv.2))) (h15 : kvs.length ≤ 15) (hm : mergeK [] (kvS kvs) = kvS kvs)
    (hy : ∀ H1 Q', Q' (.str k) H1 → ty σ H1 Q') (hx : ∀ H1 Q', Q' (.str d) H1 → tx σ H1 Q') (q : ∀ p, H p = none → Q (.str (dgetS kvs k d)) (upd H p (.dK (kvS kvs)))) : tDGet2 (tDisp trs) ty tx σ H Q := by
  intro p hp
  have walk : ∀ (l : List (Str × Str)) (R : List (V × V) → Hp → Prop) (H1 : Hp), R (l.map fun kv => (V.str kv.1, V.str kv.2)) H1 → tPairs (l.map fun kv => (tC (.str kv.1), tC (.str kv.2))) σ H1 R := by
    intro l
    induction l with
    | nil => intro R H1 h; exact h
    | cons kv l ih => intro R H1 h; exact ih (fun ps H3 => R ((V.str kv.1, V.str kv.2) :: ps) H3) H1 h
  rw [he]
  refine walk kvs _ _ ⟨upd_same, kvS kvs, ?_, ?_, ?_⟩
  · unfold kvS
    rw [List.map_map]
    rfl
  · unfold kvS
    rw [List.length_map]
    exact h15
  · rw [hm, upd_upd]
    refine ⟨p, rfl, .inl ⟨_, .inl upd_same⟩, hy _ _ (hx _ _ ⟨_, DGet.k (k := Sum.inr k) upd_same, ?_⟩)⟩
    rw [valS]
    have e : (((kvs.find? fun kv => decide (kv.1 = k)).map (·.2)).map V.str).getD (.str d) = .str (dgetS kvs k d) := by
      unfold dgetS
      cases (kvs.find? fun kv => decide (kv.1 = k)) <;> rfl
    rw [e]
    exact q p hp
theorem GS.dg {kvs : List (Str × Str)} {k d : Str} (h : ∀ kv ∈ kvs, GS kv.2) (hd : GS d) : GS (dgetS kvs k d) := by
  unfold dgetS
  cases e : (kvs.find? fun kv => decide (kv.1 = k)) with
  | none => exact hd
  | some kv => exact h kv (List.mem_of_find?_eq_some e)
end G
/-! My base, part 4: lists of one's own, the bag. -/
namespace G
open PySem PySem.Spec PyProof.Rows L2 TL

/-- a list of one's own at p: made behind the entry (H0), not among what stays (F) -/
structure Ow (H0 F H : Hp) (p : Addr) (ws : List V) : Prop where
  h : H p = some (.lst ws)
  nF : F p = none
  n0 : H0 p = none
section
variable {M : Addr → Prop} {F0 H0 F H F' H' : Hp} {p q : Addr} {o : HO} {K : PySem.W.Frag} {xs ws us : List V}
theorem Ow.new (g : Gr M F0 H0 F H) (hp : H p = none) : Ow H0 F (upd H p (.lst ws)) p ws := ⟨upd_same, g.noneF hp, g.none0 hp⟩
theorem Ow.frz (w : Ow H0 F H p ws) (hq : H q = none) : Ow H0 (upd F q o) (upd H q o) p ws :=
  have ne := ne_of_none w.h hq
  ⟨(upd_ne ne).trans w.h, (upd_ne ne).trans w.nF, w.n0⟩
theorem Ow.own (w : Ow H0 F H p ws) (hq : H q = none) : Ow H0 F (upd H q o) p ws :=
  have ne := ne_of_none w.h hq
  ⟨(upd_ne ne).trans w.h, w.nF, w.n0⟩
theorem Ow.put (w : Ow H0 F H p ws) : Ow H0 F (upd H p (.lst us)) p us := ⟨upd_same, w.nF, w.n0⟩
theorem Ow.other (w : Ow H0 F H p ws) (ne : p ≠ q) : Ow H0 F (upd H q o) p ws := ⟨(upd_ne ne).trans w.h, w.nF, w.n0⟩
theorem Ow.ne (w : Ow H0 F H p ws) (hq : H q = none) : p ≠ q := ne_of_none w.h hq
theorem Ow.gr (w : Ow H0 F H p ws) (g : Gr M F H F' H') (m : ¬ M p) : Ow H0 F' H' p ws :=
  ⟨g.keep _ _ m w.h, g.newL (by rw [w.h]; simp) w.nF (fun ts z => by rw [g.keep _ _ m w.h] at z; cases z), w.n0⟩
theorem Ow.gr0 (w : Ow H0 F H p ws) (g : Gr M0 F H F' H') : Ow H0 F' H' p ws := w.gr g id
theorem Ow.fz (w : Ow H0 F H p ws) (ne : p ≠ q) : Ow H0 (upd F q o) H p ws := ⟨w.h, (upd_ne ne).trans w.nF, w.n0⟩
theorem Gr.put (g : Gr M F0 H0 F H) (w : Ow H0 F H p ws) : Gr M F0 H0 F (upd H p o) := g.mut w.nF (.inl w.n0)
theorem Gr.fz (g : Gr M F0 H0 F H) (w : Ow H0 F H p ws) : Gr M F0 H0 (upd F p (.lst ws)) H := g.freeze w.h w.n0
theorem Ow.sq (w : Ow H0 F H p ws) : SqL K H p ws := .inl (.inl w.h)
theorem Ow.sf (w : Ow H0 F H p ws) : Same F (upd F p (.lst ws)) := same_new w.nF
theorem fzS : SqL K (upd F p (.lst ws)) p ws := .inl (.inl upd_same)
theorem fzT : (upd F p (.tup ws)) p = some (.tup ws) := upd_same
end

/-- the bag of a law: its cells, which is next, the seed, how many were stirred -/
structure Bag where
  cells : List Int
  at_ : Nat
  seed : Int
  cnt : Int
structure BagOk (b : Bag) : Prop where
  lo : 0 ≤ b.seed
  hi : b.seed < 2 ^ 31
abbrev Bc (B C : Addr) : Addr → Prop := fun a => a = B ∨ a = C
structure BagAt (F H : Hp) (B C : Addr) (b : Bag) : Prop where
  hB : H B = some (.lst [.ref C, .int (b.at_ : Nat), .int b.seed, .int b.cnt])
  hC : H C = some (.lst (b.cells.map V.int))
  ne : B ≠ C
  fB : F B = none
  fC : F C = none
section
variable {M : Addr → Prop} {F0 H0 F H F' H' : Hp} {p q B C : Addr} {o : HO} {b b' : Bag} {ws : List V}
theorem BagAt.frz (a : BagAt F H B C b) (hq : H q = none) : BagAt (upd F q o) (upd H q o) B C b :=
  have n1 := ne_of_none a.hB hq
  have n2 := ne_of_none a.hC hq
  ⟨(upd_ne n1).trans a.hB, (upd_ne n2).trans a.hC, a.ne, (upd_ne n1).trans a.fB, (upd_ne n2).trans a.fC⟩
theorem BagAt.own (a : BagAt F H B C b) (hq : H q = none) : BagAt F (upd H q o) B C b :=
  have n1 := ne_of_none a.hB hq
  have n2 := ne_of_none a.hC hq
  ⟨(upd_ne n1).trans a.hB, (upd_ne n2).trans a.hC, a.ne, a.fB, a.fC⟩
theorem BagAt.nb (a : BagAt F H B C b) (hq : H q = none) : ¬ Bc B C q := fun z => by
  rcases z with z | z
  · exact ne_of_none a.hB hq z.symm
  · exact ne_of_none a.hC hq z.symm
theorem BagAt.other (a : BagAt F H B C b) (m : ¬ Bc B C q) : BagAt F (upd H q o) B C b :=
  have n1 : B ≠ q := fun z => m (.inl z.symm)
  have n2 : C ≠ q := fun z => m (.inr z.symm)
  ⟨(upd_ne n1).trans a.hB, (upd_ne n2).trans a.hC, a.ne, a.fB, a.fC⟩
theorem BagAt.fz (a : BagAt F H B C b) (m : ¬ Bc B C q) : BagAt (upd F q o) H B C b :=
  have n1 : B ≠ q := fun z => m (.inl z.symm)
  have n2 : C ≠ q := fun z => m (.inr z.symm)
  ⟨a.hB, a.hC, a.ne, (upd_ne n1).trans a.fB, (upd_ne n2).trans a.fC⟩
theorem BagAt.gr0 (a : BagAt F H B C b) (g : Gr M0 F H F' H') : BagAt F' H' B C b :=
  ⟨g.keep _ _ id a.hB, g.keep _ _ id a.hC, a.ne, g.newL (by rw [a.hB]; simp) a.fB (fun ts z => by rw [g.keep _ _ id a.hB] at z; cases z), g.newL (by rw [a.hC]; simp) a.fC (fun ts z => by rw [g.keep _ _ id a.hC] at z; cases z)⟩
/-- a promise over the whole heap as what stays: the caller's own part stays apart -/
theorem Gr.apart (g : Gr M F0 H0 F H) (k : Gr M0 H H F' H') : Gr M F0 H0 F H' :=
  ⟨g.fh.trans fun a o e => k.keep a o id e, g.ff, fun a o m e => k.keep a o id (g.keep a o m e), fun a e => k.there a (g.there a e), fun a e n => (g.new a e n).imp id fun ⟨ts, z⟩ => ⟨ts, k.keep _ _ id z⟩⟩
theorem Ow.apart (w : Ow H0 F H p ws) (k : Gr M0 H H F' H') : Ow H0 F H' p ws := ⟨k.keep _ _ id w.h, w.nF, w.n0⟩
theorem BagAt.apart (a : BagAt F H B C b) (k : Gr M0 H H F' H') : BagAt F H' B C b := ⟨k.keep _ _ id a.hB, k.keep _ _ id a.hC, a.ne, a.fB, a.fC⟩
end
end G
namespace G
open PySem PySem.Spec PyProof.Rows L2 TL
/-! ### loops' ends in the makings -/
def lpK {S R T : Type} (l : Lp S R) (f : S → Option T) (g : R → Option T) : Option T := match l with
  | .go s => f s
  | .ret r => g r
def bindL0 {R T : Type} (o : Option (Lp Unit R)) (f : Option T) (g : R → Option T) : Option T := o.bind fun l => lpK l (fun _ => f) g
def bindL1 {α R T : Type} (o : Option (Lp α R)) (f : α → Option T) (g : R → Option T) : Option T := o.bind fun l => lpK l f g
def bindL2 {α β R T : Type} (o : Option (Lp (α × β) R)) (f : α → β → Option T) (g : R → Option T) : Option T := o.bind fun l => lpK l (fun s => f s.1 s.2) g
def bindL3 {α β γ R T : Type} (o : Option (Lp (α × β × γ) R)) (f : α → β → γ → Option T) (g : R → Option T) : Option T := o.bind fun l => lpK l (fun s => f s.1 s.2.1 s.2.2) g
def bindL4 {α β γ δ R T : Type} (o : Option (Lp (α × β × γ × δ) R)) (f : α → β → γ → δ → Option T) (g : R → Option T) : Option T := o.bind fun l => lpK l (fun s => f s.1 s.2.1 s.2.2.1 s.2.2.2) g
section
variable {α β γ δ R T : Type} {g : R → Option T} {r : R} {t : T}
theorem bndL0 {o : Option (Lp Unit R)} {f : Option T} (h : bindL0 o f g = some t) : ∃ l, o = some l ∧ lpK l (fun _ => f) g = some t := Option.bind_eq_some_iff.mp h
theorem bndL1 {o : Option (Lp α R)} {f : α → Option T} (h : bindL1 o f g = some t) : ∃ l, o = some l ∧ lpK l f g = some t := Option.bind_eq_some_iff.mp h
theorem bndL2 {o : Option (Lp (α × β) R)} {f : α → β → Option T} (h : bindL2 o f g = some t) : ∃ l, o = some l ∧ lpK l (fun s => f s.1 s.2) g = some t := Option.bind_eq_some_iff.mp h
theorem bndL3 {o : Option (Lp (α × β × γ) R)} {f : α → β → γ → Option T} (h : bindL3 o f g = some t) : ∃ l, o = some l ∧ lpK l (fun s => f s.1 s.2.1 s.2.2) g = some t := Option.bind_eq_some_iff.mp h
theorem bndL4 {o : Option (Lp (α × β × γ × δ) R)} {f : α → β → γ → δ → Option T} (h : bindL4 o f g = some t) : ∃ l, o = some l ∧ lpK l (fun s => f s.1 s.2.1 s.2.2.1 s.2.2.2) g = some t := Option.bind_eq_some_iff.mp h
theorem bgo0 {f : Option T} (h : lpK (.go ()) (fun _ => f) g = some t) : f = some t := h
theorem bgo1 {f : α → Option T} {a : α} (h : lpK (.go a) f g = some t) : f a = some t := h
theorem bgo2 {f : α → β → Option T} {a : α} {b : β} (h : lpK (.go (a, b)) (fun s => f s.1 s.2) g = some t) : f a b = some t := h
theorem bgo3 {f : α → β → γ → Option T} {a : α} {b : β} {c : γ} (h : lpK (.go (a, b, c)) (fun s => f s.1 s.2.1 s.2.2) g = some t) : f a b c = some t := h
theorem bgo4 {f : α → β → γ → δ → Option T} {a : α} {b : β} {c : γ} {d : δ} (h : lpK (.go (a, b, c, d)) (fun s => f s.1 s.2.1 s.2.2.1 s.2.2.2) g = some t) : f a b c d = some t := h
theorem bret {S : Type} {f : S → Option T} (h : lpK (.ret r) f g = some t) : g r = some t := h
end
/-- ranges -/
def rangeL (lo : Int) (n : Nat) : List Int := (List.range n).map fun k => lo + (k : Nat)
theorem rangeL_at {lo : Int} {n i : Nat} (h : i < n) : (rangeL lo n)[i]? = some (lo + (i : Nat)) := by
  unfold rangeL
  rw [List.getElem?_map, List.getElem?_range h]
  rfl
theorem rangeL_len (lo : Int) (n : Nat) : (rangeL lo n).length = n := by unfold rangeL; simp
def rangeO (lo hi : Int) : Option (List Int) := if (-(2 ^ 62) ≤ lo ∧ lo < 2 ^ 62 ∧ -(2 ^ 62) ≤ hi ∧ hi < 2 ^ 62) ∧ (hi - lo).toNat ≤ sizeLine then some (rangeL lo (hi - lo).toNat) else none
theorem rangeO_ok {lo hi : Int} {l : List Int} (h : rangeO lo hi = some l) : ((-(2 ^ 62) ≤ lo ∧ lo < 2 ^ 62 ∧ -(2 ^ 62) ≤ hi ∧ hi < 2 ^ 62) ∧ (hi - lo).toNat ≤ sizeLine) ∧ rangeL lo (hi - lo).toNat = l := by
  unfold rangeO at h
  split at h
  · exact ⟨by assumption, Option.some.inj h⟩
  · cases h
def appL {α : Type} (xs : List α) (x : α) : Option (List α) := if xs.length < sizeLine then some (xs ++ [x]) else none
theorem appL_ok {α : Type} {xs r : List α} {x : α} (h : appL xs x = some r) : xs.length < sizeLine ∧ xs ++ [x] = r := by
  unfold appL at h
  split at h
  · exact ⟨by assumption, Option.some.inj h⟩
  · cases h
def conL {α : Type} (xs ys : List α) : Option (List α) := if xs.length + ys.length ≤ sizeLine then some (xs ++ ys) else none
theorem conL_ok {α : Type} {xs ys r : List α} (h : conL xs ys = some r) : xs.length + ys.length ≤ sizeLine ∧ xs ++ ys = r := by
  unfold conL at h
  split at h
  · exact ⟨by assumption, Option.some.inj h⟩
  · cases h
def cutL {α : Type} (xs : List α) (lo hi : Option Int) : List α := (xs.drop (HT.sIx xs.length 0 lo)).take (HT.sIx xs.length xs.length hi - HT.sIx xs.length 0 lo)
theorem str_at {x : Str} {i c : Nat} (h : x.cps[i]? = some c) : (tl x)[i]? = some c := by simpa [tl] using h
theorem str_size {x : Str} : x.cps.size = (tl x).length := by simp [tl]
theorem lt_line {a i n : Nat} (h : a ≤ i) (h2 : i < n) (h3 : n ≤ sizeLine) : a < sizeLine := by omega
theorem snoc_rest {α : Type} {ds rest res : List α} {x : α} (h : ds ++ (x :: rest) = res) : (ds ++ [x]) ++ rest = res := by rw [← h, List.append_assoc]; rfl
theorem sjoin {α : Type} {a b : α} (h : some a = some b) : a = b := Option.some.inj h
end G
/-! My base, part 5: more peeling, walks over texts, lists' operations. -/
namespace G
open PySem PySem.Spec PyProof.Rows L2 TL

section
variable {D : Ends} {σ : L2.St} {H : Hp} {t u : TS} {te : TE} {g : TG} {c : TT} {wi : TI} {i : Nat} {v : V} {k : L2.St → Hp → Prop}
theorem p_next (h : D.nx σ H) : tNext D σ H := h
theorem p_cont (h : D.ct σ H) : tCont D σ H := h
theorem p_brk (h : D.bk σ H) : tBreak D σ H := h
theorem p_name (h : k (σ.set i (some v)) H) : gName i v σ H k := h
theorem p_nm {v' : V} (e : v = v') (h : k (σ.set i (some v')) H) : gName i v σ H k := by subst e; exact h
theorem p_nx {f : L2.St → Hp → Prop} {r : VK} {bk ct : L2.St → Hp → Prop} (h : f σ H) : (Ends.mk f r bk ct).nx σ H := h
theorem p_yes {A B : Hp → Prop} (h : A H) : tYes σ H (fun b H3 => if b = true then A H3 else B H3) := h
theorem p_for (h : tFor wi g t D σ H) : tFor wi g t D σ H := h
theorem p_id (h : t D σ H) : t D σ H := h
end
theorem pjoin {α β : Type} {a c : α} {b d : β} (h : some (a, b) = some (c, d)) : a = c ∧ b = d := by
  injection h with h
  injection h with h1 h2
  exact ⟨h1, h2⟩
theorem pjoin3 {α β γ : Type} {a a' : α} {b b' : β} {c c' : γ} (h : some (a, b, c) = some (a', b', c')) : a = a' ∧ b = b' ∧ c = c' := by
  injection h with h
  injection h with h1 h2
  injection h2 with h2 h3
  exact ⟨h1, h2, h3⟩
theorem pjoin4 {α β γ δ : Type} {a a' : α} {b b' : β} {c c' : γ} {d d' : δ} (h : some (a, b, c, d) = some (a', b', c', d')) : a = a' ∧ b = b' ∧ c = c' ∧ d = d' := by
  injection h with h
  injection h with h1 h2
  injection h2 with h2 h3
  injection h3 with h3 h4
  exact ⟨h1, h2, h3, h4⟩
theorem pjoin5 {α β γ δ ε : Type} {a a' : α} {b b' : β} {c c' : γ} {d d' : δ} {e e' : ε} (h : some (a, b, c, d, e) = some (a', b', c', d', e')) : a = a' ∧ b = b' ∧ c = c' ∧ d = d' ∧ e = e' := by
  injection h with h
  injection h with h1 h2
  injection h2 with h2 h3
  injection h3 with h3 h4
  injection h4 with h4 h5
  exact ⟨h1, h2, h3, h4, h5⟩

/-! ### parts whose value is told -/
def tVal (t : TE) : TE := fun σ H Q => ∃ v, (∀ Q' : VK, Q' v H → t σ H Q') ∧ Q v H
def tValT (t : TT) : TT := fun σ H Q => ∃ b, (∀ Q' : Bool → Hp → Prop, Q' b H → t σ H Q') ∧ Q b H
section
variable {X : Cx}
theorem pe_val {e : Expr} {t : TE} (h : PE X e t) : PE X e (tVal t) := ⟨fun pins s σ H Q I q => by
  obtain ⟨v, k, q⟩ := q
  exact h.run pins s σ H Q I (k Q q)⟩
theorem pt_valT {e : Expr} {t : TT} (h : PT X e t) : PT X e (tValT t) := ⟨fun pins s σ H Q I q => by
  obtain ⟨v, k, q⟩ := q
  exact h.run pins s σ H Q I (k Q q)⟩
end
section
variable {a b : Bool} {H : Hp}
theorem qTv {Q : VK} (h : a = true) (q : Q (.bl (a && b)) H) : Q (.bl b) H := by subst h; exact q
theorem qFv {Q : VK} (h : a = false) (q : Q (.bl (a && b)) H) : Q (.bl false) H := by subst h; exact q
theorem qTb {Q : Bool → Hp → Prop} (h : a = true) (q : Q (a && b) H) : Q b H := by subst h; exact q
theorem qFb {Q : Bool → Hp → Prop} (h : a = false) (q : Q (a && b) H) : Q false H := by subst h; exact q
end
section
variable {F H : Hp} {σ : L2.St} {ta tb : TE} {Q : VK} {a b : Bool}
theorem andV_t (h1 : EvB M0 F H (fun Q => ta σ H Q) a) (h2 : a = true → ∀ F1 H1, Gr M0 F H F1 H1 → EvB M0 F1 H1 (fun Q => tb σ H1 Q) b)
    (q : ∀ F' H', Gr M0 F H F' H' → Q (.bl (a && b)) H') : tAndV ta tb σ H Q :=
  andV_g (c := a && b) h1 (fun e F1 H1 g => by rw [e]; exact h2 e F1 H1 g) (fun e => by rw [e]; rfl) q
theorem orV_t (h1 : EvB M0 F H (fun Q => ta σ H Q) a) (h2 : a = false → ∀ F1 H1, Gr M0 F H F1 H1 → EvB M0 F1 H1 (fun Q => tb σ H1 Q) b)
    (q : ∀ F' H', Gr M0 F H F' H' → Q (.bl (a || b)) H') : tOrV ta tb σ H Q :=
  orV_g (c := a || b) h1 (fun e F1 H1 g => by rw [e]; exact h2 e F1 H1 g) (fun e => by rw [e]; rfl) q
theorem andT_t {ta tb : TT} {Q : Bool → Hp → Prop} (h1 : EvT M0 F H (fun Q => ta σ H Q) a) (h2 : a = true → ∀ F1 H1, Gr M0 F H F1 H1 → EvT M0 F1 H1 (fun Q => tb σ H1 Q) b)
    (q : ∀ F' H', Gr M0 F H F' H' → Q (a && b) H') : tAnd ta tb σ H Q :=
  andT_g (c := a && b) h1 (fun e F1 H1 g => by rw [e]; exact h2 e F1 H1 g) (fun e => by rw [e]; rfl) q
theorem orT_t {ta tb : TT} {Q : Bool → Hp → Prop} (h1 : EvT M0 F H (fun Q => ta σ H Q) a) (h2 : a = false → ∀ F1 H1, Gr M0 F H F1 H1 → EvT M0 F1 H1 (fun Q => tb σ H1 Q) b)
    (q : ∀ F' H', Gr M0 F H F' H' → Q (a || b) H') : tOr ta tb σ H Q :=
  orT_g (c := a || b) h1 (fun e F1 H1 g => by rw [e]; exact h2 e F1 H1 g) (fun e => by rw [e]; rfl) q
end

/-! ### e if c else e', behind its test -/
section
variable {M : Addr → Prop} {F H : Hp} {σ : L2.St} {ta tb : TE} {Q : VK} {c : Bool}
theorem ifJ {P : V → Hp → Hp → Prop} (h2 : c = true → ∀ Q : VK, (∀ v F' H', Gr M F H F' H' → P v F' H' → Q v H') → ta σ H Q)
    (h3 : c = false → ∀ Q : VK, (∀ v F' H', Gr M F H F' H' → P v F' H' → Q v H') → tb σ H Q)
    (q : ∀ v F' H', Gr M F H F' H' → P v F' H' → Q v H') : if c = true then ta σ H Q else tb σ H Q := by
  cases e : c with
  | true => exact iteT (h2 e Q q)
  | false => exact iteF (h3 e Q q)
end

section
variable {M : Addr → Prop} {F H : Hp} {σ : L2.St} {tb : TE} {ub : TT} {Q : VK} {U : Bool → Hp → Prop} {a c : Bool} {P : Hp → Hp → Prop}
theorem andJV (h2 : a = true → ∀ Q : VK, (∀ F' H', Gr M F H F' H' → P F' H' → Q (.bl c) H') → tb σ H Q) (h3 : a = false → c = false ∧ P F H) (fh : Same F H)
    (q : ∀ F' H', Gr M F H F' H' → P F' H' → Q (.bl c) H') : if a = true then tb σ H Q else Q (.bl false) H := by
  cases e : a with
  | true => exact iteT (h2 e Q q)
  | false =>
    obtain ⟨ec, p⟩ := h3 e
    subst ec
    exact iteF (q _ _ (Gr.refl fh) p)
theorem orJV (h2 : a = false → ∀ Q : VK, (∀ F' H', Gr M F H F' H' → P F' H' → Q (.bl c) H') → tb σ H Q) (h3 : a = true → c = true ∧ P F H) (fh : Same F H)
    (q : ∀ F' H', Gr M F H F' H' → P F' H' → Q (.bl c) H') : if a = true then Q (.bl true) H else tb σ H Q := by
  cases e : a with
  | false => exact iteF (h2 e Q q)
  | true =>
    obtain ⟨ec, p⟩ := h3 e
    subst ec
    exact iteT (q _ _ (Gr.refl fh) p)
theorem andJT (h2 : a = true → ∀ U : Bool → Hp → Prop, (∀ F' H', Gr M F H F' H' → P F' H' → U c H') → ub σ H U) (h3 : a = false → c = false ∧ P F H) (fh : Same F H)
    (q : ∀ F' H', Gr M F H F' H' → P F' H' → U c H') : if a = true then ub σ H U else U false H := by
  cases e : a with
  | true => exact iteT (h2 e U q)
  | false =>
    obtain ⟨ec, p⟩ := h3 e
    subst ec
    exact iteF (q _ _ (Gr.refl fh) p)
theorem orJT (h2 : a = false → ∀ U : Bool → Hp → Prop, (∀ F' H', Gr M F H F' H' → P F' H' → U c H') → ub σ H U) (h3 : a = true → c = true ∧ P F H) (fh : Same F H)
    (q : ∀ F' H', Gr M F H F' H' → P F' H' → U c H') : if a = true then U true H else ub σ H U := by
  cases e : a with
  | false => exact iteF (h2 e U q)
  | true =>
    obtain ⟨ec, p⟩ := h3 e
    subst ec
    exact iteT (q _ _ (Gr.refl fh) p)
end
theorem qOv {a b : Bool} {H : Hp} {Q : VK} (h : a = false) (q : Q (.bl (a || b)) H) : Q (.bl b) H := by subst h; exact q
theorem qOb {a b : Bool} {H : Hp} {Q : Bool → Hp → Prop} (h : a = false) (q : Q (a || b) H) : Q b H := by subst h; exact q
theorem anF {a b : Bool} (h : a = false) : (a && b) = false := by rw [h]; rfl
theorem orTt {a b : Bool} (h : a = true) : (a || b) = true := by rw [h]; rfl
theorem ifTr {c : Bool} {A B : Prop} (h : c = true) (q : A) : if c = true then A else B := by rw [if_pos h]; exact q
theorem ifFr {c : Bool} {A B : Prop} (h : c = false) (q : B) : if c = true then A else B := by rw [if_neg (by rw [h]; decide)]; exact q

/-! ### None -/
class NN (α : Type) [Enc α] : Prop where
  ne : ∀ x : α, Enc.d x ≠ .none
instance : NN Int := ⟨fun _ => nofun⟩
instance : NN Bool := ⟨fun _ => nofun⟩
instance : NN Str := ⟨fun _ => nofun⟩
instance {α : Type} [Enc α] : NN (List α) := ⟨fun _ => nofun⟩
instance {α : Type} [Enc α] : NN (VT α) := ⟨fun _ => nofun⟩
instance {α β : Type} [Enc α] [Enc β] : NN (α × β) := ⟨fun _ => nofun⟩
instance {α β γ : Type} [Enc α] [Enc β] [Enc γ] : NN (T3 α β γ) := ⟨fun _ => nofun⟩
instance {α β γ δ : Type} [Enc α] [Enc β] [Enc γ] [Enc δ] : NN (T4 α β γ δ) := ⟨fun _ => nofun⟩
instance {α β γ δ ε : Type} [Enc α] [Enc β] [Enc γ] [Enc δ] [Enc ε] : NN (T5 α β γ δ ε) := ⟨fun _ => nofun⟩
theorem isN_eq {α : Type} [Enc α] [NN α] {K : PySem.W.Frag} {F : Hp} {v : V} {o : Option α} (r : R K F v o) : decide (v = .non) = o.isNone := by
  cases o with
  | none =>
    have e := R.non_v r
    subst e
    rfl
  | some x =>
    have r' : Rp K F v (Enc.d x) := r
    have h : v ≠ .non := fun e => by
      subst e
      have n := NN.ne x
      revert r' n
      generalize Enc.d x = d
      intro r' n
      cases r'
      exact n rfl
    exact decide_eq_false h

/-! ### walks over texts -/
theorem str_lt {x : Str} {i c : Nat} (h : x.cps[i]? = some c) : i < x.cps.size := (Array.getElem?_eq_some_iff.mp h).1
theorem for_str {z : Str} {g : TG} {tb : TS} {D : Ends} {σ : L2.St} {H : Hp} (Pv : Nat → L2.St → Hp → Prop) (h0 : Pv 0 σ H)
    (hs : ∀ i c σ H, z.cps[i]? = some c → Pv i σ H → g (.str (sgn c)) σ H fun σ2 H2 => tb { D with nx := Pv (i + 1), ct := Pv (i + 1), bk := D.nx } σ2 H2) (hd : ∀ σ H, Pv z.cps.size σ H → D.nx σ H) :
    ∃ W : Nat → Nat → L2.St → Hp → Prop, (∃ m, W 0 m σ H) ∧ ∀ i m σ H, W i m σ H →
      ((Its z).stop i H ∧ D.nx σ H) ∨ ((Its z).go i H ∧ ∃ N : L2.St → Hp → Prop, (∀ σ' H', N σ' H' → ∃ m', m' < m ∧ W (i + 1) m' σ' H') ∧ ∀ x H', (Its z).yld i H x H' → g x σ H' fun σ2 H2 => tb { D with nx := N, ct := N, bk := D.nx } σ2 H2) :=
  for_it walk_str Pv h0 (fun _ _ _ _ _ => trivial) (fun i x σ H H' _ p y => by
    obtain ⟨rfl, c, hc, rfl⟩ := y
    exact hs i c σ _ hc p) hd
theorem lc_str {z : Str} {g : TG} {tt : TT} {te : TE} {vs : List Nat} {σ : L2.St} {H1 : Hp} {D : Addr} {Qd : Hp → Prop} (Pv : Nat → Hp → Prop) (h0 : Pv 0 (upd H1 D (.lst [])))
    (hs : ∀ i c H, z.cps[i]? = some c → Pv i H → g (.str (sgn c)) (wipe σ vs) H fun σ2 H2 => wipe σ2 vs = wipe σ vs ∧ tt σ2 H2 fun b H3 =>
      if b = true then te σ2 H3 fun y H4 => ∃ acc, H4 D = some (.lst acc) ∧ acc.length < sizeLine ∧ Pv (i + 1) (upd H4 D (.lst (acc ++ [y]))) else Pv (i + 1) H3) (hd : ∀ H, Pv z.cps.size H → Qd H) :
    ∃ W : Nat → Nat → Hp → Prop, (∃ m, W 0 m (upd H1 D (.lst []))) ∧ ∀ i m H, W i m H →
      ((Its z).stop i H ∧ Qd H) ∨ ((Its z).go i H ∧ ∃ Nx : Hp → Prop, (∀ H', Nx H' → ∃ m', m' < m ∧ W (i + 1) m' H') ∧ ∀ x H', (Its z).yld i H x H' → g x (wipe σ vs) H' fun σ2 H2 => wipe σ2 vs = wipe σ vs ∧ tt σ2 H2 fun b H3 =>
        if b = true then te σ2 H3 fun y H4 => ∃ acc, H4 D = some (.lst acc) ∧ acc.length < sizeLine ∧ Nx (upd H4 D (.lst (acc ++ [y]))) else Nx H3) :=
  lc_it walk_str Pv h0 (fun _ _ _ _ => trivial) (fun i x H H' _ p y => by
    obtain ⟨rfl, c, hc, rfl⟩ := y
    exact hs i c _ hc p) hd

/-! ### ranges from nought, lists -/
def rangeO1 (hi : Int) : Option (List Int) := if (-(2 ^ 62) ≤ hi ∧ hi < 2 ^ 62) ∧ hi.toNat ≤ sizeLine then some (rangeL 0 hi.toNat) else none
theorem rangeO1_ok {hi : Int} {l : List Int} (h : rangeO1 hi = some l) : ((-(2 ^ 62) ≤ hi ∧ hi < 2 ^ 62) ∧ hi.toNat ≤ sizeLine) ∧ rangeL 0 hi.toNat = l := by
  unfold rangeO1 at h
  split at h
  · exact ⟨by assumption, Option.some.inj h⟩
  · cases h
def setL {α : Type} (xs : List α) (i : Int) (x : α) : Option (List α) := (ixN xs.length i).map fun j => xs.set j x
theorem setL_ok {α : Type} {xs r : List α} {i : Int} {x : α} (h : setL xs i x = some r) : ∃ j, ixN xs.length i = some j ∧ xs.set j x = r := by
  unfold setL at h
  cases e : ixN xs.length i with
  | none => rw [e] at h; cases h
  | some j =>
    rw [e] at h
    exact ⟨j, rfl, Option.some.inj h⟩
/-- sorted whole numbers -/
def sortI (xs : List Int) : List Int := xs.mergeSort fun a b => decide (a ≤ b)
theorem sortI_perm (xs : List Int) : (sortI xs).Perm xs := List.mergeSort_perm _ _
theorem sortI_sorted (xs : List Int) : (sortI xs).Pairwise (· ≤ ·) := by
  have h := List.pairwise_mergeSort (le := fun a b : Int => decide (a ≤ b)) (fun a b c h1 h2 => decide_eq_true (Int.le_trans (of_decide_eq_true h1) (of_decide_eq_true h2)))
    (fun a b => by
      rcases Int.le_total a b with h | h
      · rw [decide_eq_true h]; rfl
      · rw [decide_eq_true h, Bool.or_true]) xs
  exact h.imp fun h => of_decide_eq_true h
theorem sortI_len (xs : List Int) : (sortI xs).length = xs.length := (sortI_perm xs).length_eq
theorem sorted_uniq : ∀ {xs ys : List Int}, xs.Perm ys → xs.Pairwise (· ≤ ·) → ys.Pairwise (· ≤ ·) → xs = ys
  | xs, ys, h, h1, h2 => h.eq_of_pairwise (le := (· ≤ ·)) (fun a b _ _ h3 h4 => Int.le_antisymm h3 h4) h1 h2
theorem sortI_uniq {ns ys : List Int} (h : ys.Perm ns) (h2 : ys.Pairwise (· ≤ ·)) : sortI ns = ys :=
  sorted_uniq ((sortI_perm ns).trans h.symm) (sortI_sorted ns) h2

/-! ### texts: what is stripped, joined -/
theorem GS.sub {x y : Str} (g : GS x) (h : ∀ c ∈ tl y, c ∈ tl x) (hl : (tl y).length ≤ (tl x).length) : GS y := GS.of (Nat.le_trans hl g.tll) fun c hc => g.mem c (h c hc)
theorem GS.join {sep r : Str} {ys : List Str} (gs : GS sep) (gy : ∀ y ∈ ys, GS y) (h : joinS sep ys = some r) : GS r := by
  obtain ⟨h1, rfl⟩ := joinS_ok h
  refine GS.of ?_ fun c hc => ?_
  · rw [← len_tl]
    have e : Txt.join sep ys = Str.join sep ys := by unfold Txt.join; exact StrLaws.glued_eq_join sep ys
    rw [e]
    refine Nat.le_trans (StrLaws.join_length_le sep ys) ?_
    rw [sizeLine_eq]
    exact h1
  · rw [tl_joinS] at hc
    have mem : ∀ (l : List (List Nat)), c ∈ joinL (tl sep) l → c ∈ tl sep ∨ ∃ p ∈ l, c ∈ p := by
      intro l
      induction l with
      | nil => intro h; cases h
      | cons p r ih =>
        cases r with
        | nil => intro h; exact .inr ⟨p, List.mem_singleton.mpr rfl, h⟩
        | cons q r =>
          intro h
          rcases List.mem_append.mp (show c ∈ p ++ (tl sep ++ joinL (tl sep) (q :: r)) from h) with h | h
          · exact .inr ⟨p, List.mem_cons_self .., h⟩
          · rcases List.mem_append.mp h with h | h
            · exact .inl h
            · rcases ih h with h | ⟨p', hp, h⟩
              · exact .inl h
              · exact .inr ⟨p', List.mem_cons_of_mem _ hp, h⟩
    rcases mem _ hc with h | ⟨p, hp, h⟩
    · exact gs.mem c h
    · obtain ⟨y, hy, rfl⟩ := List.mem_map.mp hp
      exact (gy y hy).mem c h
theorem GS.strip {x : Str} (g : GS x) (y : Str) : GS (Txt.stripChars x y) := by
  unfold Txt.stripChars Txt.stripBy
  split
  · exact g
  · have e : ∀ i j, tl (Builtin.Str.strSub x i j) = ((tl x).take j).drop i := fun i j => by
      show (x.cps.extract i j).toList = _
      rw [List.drop_take]
      simp [tl]
    refine g.sub (fun c hc => ?_) ?_
    · unfold stripped at hc
      rw [e] at hc
      exact List.mem_of_mem_take (List.mem_of_mem_drop hc)
    · unfold stripped
      rw [e, List.length_drop, List.length_take]
      omega
end G
/-! My base, part 6: defs by data. -/
namespace G
open PySem PySem.Spec PyProof.Rows L2 TL
abbrev FnP (K : PySem.W.Frag) (x : Str) (st : Stmt) (f : Addr) (fd : FuncData) : Prop := FunD K x x (defArgs st) (defBody st) (defScope st) [] [] f fd
section
variable {P : Program} {w : World} {K : PySem.W.Frag} {mg : Str → Option Value} {base : Heap} {x qual : Str} {params : Arguments} {body : List Stmt} {scope : Scope} {f : Addr} {fd : FuncData}
theorem fd_ok {N ps : List Str} {k : Nat} {sp : Sp} (F : FunD K x qual params body scope [] [] f fd) (S : FnScope N ps scope) (len : ∀ vs H Q E, sp vs H Q E → vs.length = ps.length)
    (hbody : ∀ (cdv : Value) (A : Around) (outer : List Env) (s : Shared) (H : Hp) (vs : List V) (Q : VK) (E : XK), Room k (A.deeper (envOfC qual scope s.heap.objs.size f cdv)) → sp vs H Q E →
      ∃ t, PSs (cxOf CX0 P w K mg base N qual scope f cdv A outer s H E).nox body t ∧ t { nx := fun _ H' => Q .non H', rt := Q } (start N vs) H) : FnOk P w K mg base CX0 (k + 1) f fd ps sp :=
  FunD.ok F S len fun cdv A outer s H vs Q E hr hsp =>
    let ⟨t, h, q⟩ := hbody cdv A outer s H vs Q E hr hsp
    ⟨t, h.nox, q⟩
theorem fd_plain (F : FunD K x qual params body scope [] [] f fd) : ∃ kV doc pm an cdv ct, fd = PySem.W.fnOf x qual params body scope .none kV doc pm an cdv ct := by
  obtain ⟨oc, od, dV, kV, doc, pm, an, cdv, ct, osl, rfl, lk, hcd, hD, hK⟩ := F.ex
  rcases hD with ⟨_, rfl⟩ | ⟨e, _⟩
  · exact ⟨kV, doc, pm, an, cdv, ct, rfl⟩
  · exact absurd rfl e
end
end G
/-! My base, part 7: a text turned round. -/
namespace G
open PySem PySem.Spec PyProof.Rows L2 TL
def revS (x : Str) : Str := ⟨(tl x).reverse.toArray⟩
theorem tl_revS (x : Str) : tl (revS x) = (tl x).reverse := by unfold revS tl; simp
theorem revS_len (x : Str) : (revS x).length = x.length := by rw [len_tl, tl_revS, List.length_reverse, ← len_tl]
theorem GS.rev {x : Str} (g : GS x) : GS (revS x) := g.sub (fun c hc => by rw [tl_revS] at hc; exact List.mem_reverse.mp hc) (by rw [tl_revS, List.length_reverse]; exact Nat.le_refl _)
theorem rev_pick (z : Str) : (⟨((Builtin.Str.strSliceIndices none none (-1) z.length).filterMap (z.cps[·]?)).toArray⟩ : Str) = revS z := by
  have h := step_rev_list z default
  unfold Txt.sliceBy slicePicked at h
  rw [if_neg (by intro h; exact absurd (Bool.and_eq_true_iff.mp h).1 (by decide))] at h
  unfold revS
  have e2 : (tl z).reverse = (List.range z.length).map fun k => z.cps.getD (z.length - 1 - k) 0 := by
    refine List.ext_getElem (by rw [List.length_reverse, List.length_map, List.length_range, ← len_tl]) fun i h1 h2 => ?_
    rw [List.getElem_reverse, List.getElem_map, List.getElem_range]
    have hi : i < z.length := by rw [List.length_reverse, ← len_tl] at h1; exact h1
    have hz : z.cps.size = z.length := rfl
    simp only [tl, Array.getElem_toList, Array.length_toList]
    rw [Array.getD, dif_pos (show z.length - 1 - i < z.cps.size by omega)]
    rfl
  rw [e2, ← h]
  rfl
def tRevS (te : TE) : TE := fun σ H Q => te σ H fun x H1 => ∃ z, x = .str z ∧ z.length ≤ sizeLine ∧ Q (.str (revS z)) H1
theorem pe_revS {X : Cx} {e : Expr} {te : TE} {k : Nat} {p1 p2 p3 pos : Pos} (he : PE X e te) : PE X (.Subscript e (.Slice none none (some (.UnaryOp .USub (.Constant (.int 1) k p1) p2)) p3) pos) (tRevS te) := by
  refine ⟨fun pins s σ H Q I h => ?_⟩
  refine Subscript_ (thn (he.run pins s σ H _ I h) fun v s1 ⟨x, H1, I1, r1, q1⟩ => ?_)
  obtain ⟨z, ex, hz, q⟩ := q1
  subst ex
  obtain ⟨t, rfl⟩ := r1
  have hst : PO X (some (.UnaryOp .USub (.Constant (.int 1) k p1) p2)) (tPart (tUn (rU fun i => .int (-i)) (tC (.int 1)))) := po_some (pe_un un_neg pe_int)
  refine wpAny_Slice (thn (po_none.run pins s1 σ H1 (fun o H2 => o = none ∧ H2 = H1) I1 ⟨rfl, rfl⟩) fun vl s2 ⟨l, H2, I2, pl, el, e2⟩ => ?_)
  subst el e2
  refine thn (po_none.run pins s2 σ H2 (fun o H3 => o = none ∧ H3 = H2) I2 ⟨rfl, rfl⟩) fun vu s3 ⟨u, H3, I3, pu, eu, e3⟩ => ?_
  subst eu e3
  refine thn (hst.run pins s3 σ H3 (fun o H4 => o = some (-1) ∧ H4 = H3) I3 ⟨1, rfl, -1, rfl, rfl, rfl⟩) fun vs s4 ⟨o, H4, I4, ps, eo, e4⟩ => ?_
  subst eo e4
  have I5 : Inv X pins σ H4 { s4 with heap := s4.heap.push { cls := .type "slice", data := .fields #[vl, vu, vs] } } := I4.kept (t' := s4.toks) fun b ob q => Heap.get?_push_of_some _ q
  cases pl
  cases pu
  cases ps with | int _ t2 => ?_
  show wpAny (model X.prog X.w) X.A (subscriptTail e (.Slice none none (some (.UnaryOp .USub (.Constant (.int 1) k p1) p2)) p3) (.str z t) (.ref s4.heap.objs.size)) (EP X pins σ Q) X.xe { s4 with heap := s4.heap.push { cls := .type "slice", data := .fields #[.none, .none, .int (-1) t2] } }
  refine tail_any (ops := [.str z t, .ref s4.heap.objs.size]) (typeIs_str _ _ _) F.slot_str_getitem.lookup ?_ (by with_unfolding_all rfl)
  obtain ⟨os, hos, hcs, hds⟩ := Heap.IsSliceOf.new s4.heap Value.none Value.none (Value.int (-1) t2)
  refine wpAny_getItem_str_slice (l := none) (u := none) (st := some (-1, t2)) ⟨os, hos, hcs, hds⟩ rfl ?_
  have e1 : sliceMade z t none none (some (-1, t2)) = .str (revS z) := by
    unfold sliceMade
    rw [if_neg (by intro h; exact absurd (show ((-1 : Int) == 1) = true from (Bool.and_eq_true_iff.mp h).1) (by decide))]
    exact congrArg Made.str (rev_pick z)
  rw [e1]
  have hl : (revS z).length ≤ sizeLine := by rw [revS_len]; exact hz
  exact ⟨hl, .str _, _, I5.tok _, ⟨_, rfl⟩, q⟩
end G
/-! My base, part 8: which type a thing is of; alike. -/
namespace G
open PySem PySem.Spec PyProof.Rows L2 TL
def tyD : PyData → String
  | .none => "NoneType"
  | .bool _ => "bool"
  | .int _ => "int"
  | .str _ => "str"
  | .list _ => "list"
  | .tuple _ => "tuple"
  | .dict _ => "dict"
def isSq (d : PyData) : Bool := tyD d == "list" || tyD d == "tuple"
section
variable {K : PySem.W.Frag} {F H : Hp} {v : V} {d : PyData} {a : Addr} {xs : List V}
theorem SqL.ty (h : SqL K H a xs) : TyX K H (.ref a) (.type "list") := by
  rcases h with (h | ⟨o, h⟩) | ⟨o, its, n, e, c, _⟩
  · exact .base (.lst h)
  · exact .base (.frz h)
  · exact .kList e c
theorem SqT.ty (h : SqT K H a xs) : TyX K H (.ref a) (.type "tuple") := by
  rcases h with (h | ⟨o, h⟩) | ⟨o, its, n, e, c, _⟩
  · exact .base (.tup h)
  · exact .fTuple h
  · exact .kTuple e c
theorem Rp.ty (h : Rp K H v d) : TyX K H v (.type (tyD d)) := by
  cases h with
  | non => exact .base .non
  | bl b => exact .base (.bl b)
  | int i => exact .base (.int i)
  | str x _ => exact .base (.str x)
  | lst hs _ _ => exact SqL.ty hs
  | tup hs _ _ => exact .base (.tup hs)
/-- the six kinds -/
def Knd (s : String) : Prop := s = "NoneType" ∨ s = "bool" ∨ s = "int" ∨ s = "str" ∨ s = "list" ∨ s = "tuple"
theorem Rp.knd (h : Rp K H v d) : Knd (tyD d) := by
  cases h with
  | non => exact .inl rfl
  | bl _ => exact .inr (.inl rfl)
  | int _ => exact .inr (.inr (.inl rfl))
  | str _ _ => exact .inr (.inr (.inr (.inl rfl)))
  | lst _ _ _ => exact .inr (.inr (.inr (.inr (.inl rfl))))
  | tup _ _ _ => exact .inr (.inr (.inr (.inr (.inr rfl))))
theorem kit_two (s : String) (b c : Bool) (h1 : kitB s "list" = some b) (h2 : kitB s "tuple" = some c) : PySem.W.kitAny K (.type s) [.type "list", .type "tuple"] = some (b || c) := by
  refine kitAny_cons (b := b) (kit_ty h1) (fun hb => ?_) (fun hb => by rw [hb]; rfl)
  refine kitAny_cons (b := c) (kit_ty h2) (fun hc => ?_) (fun hc => by rw [hc, Bool.or_true])
  rw [hb, hc]
  exact kitAny_nil
theorem kit_lt {s : String} (h : Knd s) : PySem.W.kitAny K (.type s) [.type "list", .type "tuple"] = some (s == "list" || s == "tuple") := by
  rcases h with rfl | rfl | rfl | rfl | rfl | rfl <;> exact kit_two _ _ _ (by decide +kernel) (by decide +kernel)
theorem kit_one {s : String} (h : Knd s) (t : String) (ht : t = "list" ∨ t = "bool" ∨ t = "str") : PySem.W.kitOne K (.type s) (.type t) = some (s == t) := by
  rcases ht with rfl | rfl | rfl <;> rcases h with rfl | rfl | rfl | rfl | rfl | rfl <;> exact kit_ty (by decide +kernel)
theorem kit_int {s : String} (h : Knd s) : PySem.W.kitOne K (.type s) (.type "int") = some (s == "int" || s == "bool") := by
  rcases h with rfl | rfl | rfl | rfl | rfl | rfl <;> exact kit_ty (by decide +kernel)
end
/-- no value of the data is deeper than n -/
theorem depth_list {n : Nat} {ds : List PyData} (h : PyData.depthAll ds + 1 ≤ n + 1) {d : PyData} (hd : d ∈ ds) : d.depth ≤ n := by
  have : ∀ (l : List PyData), d ∈ l → d.depth ≤ PyData.depthAll l := by
    intro l
    induction l with
    | nil => intro h; cases h
    | cons x l ih =>
      intro h
      simp only [PyData.depthAll]
      rcases List.mem_cons.mp h with rfl | h
      · omega
      · have := ih h
        omega
  have := this ds hd
  omega
def sp_alike (n : Nat) (K : PySem.W.Frag) : Sp := fun vs H Q _ => ∃ (v1 v2 : V) (d : PyData), vs = [v1, v2] ∧ Rp K H v1 d ∧ Rp K H v2 d ∧ d.depth ≤ n ∧ (∀ F' H', Gr M0 H H F' H' → Q (.bl true) H')
theorem al_sc {K : PySem.W.Frag} {H : Hp} {v1 v2 : V} {d : PyData} (r1 : Rp K H v1 d) (r2 : Rp K H v2 d) (hc : (tyD d == "list" || tyD d == "tuple") = false) : v1 = v2 ∧ scal v1 v2 = true := by
  cases r1 with
  | non => cases r2; exact ⟨rfl, rfl⟩
  | bl b => cases r2; exact ⟨rfl, rfl⟩
  | int i => cases r2; exact ⟨rfl, rfl⟩
  | str x _ => cases r2; exact ⟨rfl, rfl⟩
  | lst h1 h2 h3 => exact absurd hc (by simp [tyD])
  | tup h1 h2 h3 => exact absurd hc (by simp [tyD])
theorem ix_go {K : PySem.W.Frag} {H : Hp} {p : Addr} {xs : List V} {i : Nat} {v : V} {Q : VK} (h : SqL K H p xs ∨ SqT K H p xs) (e : xs[i]? = some v) (q : Q v H) : rIx K (.ref p) (.int (0 + (i : Nat))) H Q := by
  have ha : atI xs (0 + (i : Nat)) = some v := by rw [Int.zero_add]; exact atI_nat e
  rcases h with h | h
  · exact .inl ⟨p, xs, _, v, rfl, rfl, h, ha, q⟩
  · exact .inr (.inl ⟨p, xs, _, v, rfl, rfl, h, ha, q⟩)
theorem sq_up {K : PySem.W.Frag} {H H' : Hp} {p : Addr} {xs : List V} (h : SqL K H p xs ∨ SqT K H p xs) (e : Same H H') : SqL K H' p xs ∨ SqT K H' p xs := by
  rcases h with h | h
  · exact .inl (e.seq h)
  · exact .inr (SqT_mono e h)
def spA : Nat → PySem.W.Frag → Sp
  | 0, _ => fun _ _ _ _ => False
  | n + 1, K => sp_alike n K
theorem al_sq {K : PySem.W.Frag} {H : Hp} {v1 v2 : V} {d : PyData} {n : Nat} (r1 : Rp K H v1 d) (r2 : Rp K H v2 d) (hc : (tyD d == "list" || tyD d == "tuple") = true) (hd : d.depth ≤ n) :
    ∃ a1 ws1 a2 ws2 ds m, v1 = .ref a1 ∧ v2 = .ref a2 ∧ (SqL K H a1 ws1 ∨ SqT K H a1 ws1) ∧ (SqL K H a2 ws2 ∨ SqT K H a2 ws2) ∧ ws1.length ≤ sizeLine ∧ ws2.length ≤ sizeLine ∧ RpA K H ws1 ds ∧ RpA K H ws2 ds ∧ n = m + 1 ∧ ∀ d ∈ ds, d.depth ≤ m := by
  cases r1 with
  | non => exact absurd hc (by decide)
  | bl b => exact absurd hc (by simp [tyD])
  | int i => exact absurd hc (by simp [tyD])
  | str x _ => exact absurd hc (by simp [tyD])
  | lst h1 h2 h3 =>
    cases r2 with
    | lst k1 k2 k3 =>
      cases n with
      | zero => exact absurd hd (Nat.not_succ_le_zero _)
      | succ m => exact ⟨_, _, _, _, _, m, rfl, rfl, .inl h1, .inl k1, h2, k2, h3, k3, rfl, fun d hd2 => depth_list hd hd2⟩
  | tup h1 h2 h3 =>
    cases r2 with
    | tup k1 k2 k3 =>
      cases n with
      | zero => exact absurd hd (Nat.not_succ_le_zero _)
      | succ m => exact ⟨_, _, _, _, _, m, rfl, rfl, .inr (.inl (.inl h1)), .inr (.inl (.inl k1)), h2, k2, h3, k3, rfl, fun d hd2 => depth_list hd hd2⟩
theorem R.of_eq {α : Type} [Enc α] {K : PySem.W.Frag} {F : Hp} {v : V} {x y : α} (h : x = y) (r : R K F v y) : R K F v x := by rw [h]; exact r
theorem retQ {e : Bool} {Q : VK} {H : Hp} (h : e = true) (q : Q (.bl true) H) : Q (.bl e) H := by rw [h]; exact q
def m_l_alike {α : Type} [DecidableEq α] (x y : α) : Option Bool := if x = y then some true else none
theorem alike_ok {α : Type} [DecidableEq α] {x y : α} {r : Bool} (h : m_l_alike x y = some r) : x = y ∧ true = r := by
  unfold m_l_alike at h
  split at h
  · exact ⟨by assumption, Option.some.inj h⟩
  · cases h
theorem op_powW {X : Cx} : OpR X (binaryOp .Pow) (rI (fun i j => 0 ≤ j ∧ (Builtin.Int.intBits i : Int) * j ≤ 2 ^ 27) fun i j => .int (i ^ j.toNat)) := opI fun _ _ _ _ _ _ _ hc q => pow_int hc.1 hc.2 q
end G
/-! My base, part 9: parts of a text. -/
namespace G
open PySem PySem.Spec PyProof.Rows L2 TL
theorem GS.sub_ {x : Str} (g : GS x) (i j : Nat) : GS (Builtin.Str.strSub x i j) := by
  have e : tl (Builtin.Str.strSub x i j) = ((tl x).take j).drop i := by
    show (x.cps.extract i j).toList = _
    rw [List.drop_take]
    simp [tl]
  refine g.sub (fun c hc => ?_) ?_
  · rw [e] at hc
    exact List.mem_of_mem_take (List.mem_of_mem_drop hc)
  · rw [e, List.length_drop, List.length_take]
    omega
theorem GS.empty : GS Str.empty := ⟨Nat.zero_le _, by decide +kernel⟩
theorem GS.part {x y : Str} (gx : GS x) (gy : GS y) : GS (Txt.partition x y).1 ∧ GS (Txt.partition x y).2.1 ∧ GS (Txt.partition x y).2.2 := by
  unfold Txt.partition
  split
  · exact ⟨gx.sub_ _ _, gy, gx.sub_ _ _⟩
  · exact ⟨gx, .empty, .empty⟩
def partS (x y : Str) : T3 Str Str Str := ⟨(Txt.partition x y).1, (Txt.partition x y).2.1, (Txt.partition x y).2.2⟩
theorem lpgo {S R T : Type} {s : S} {f : S → Option T} {g : R → Option T} {t : T} (h : lpK (.go s) f g = some t) : f s = some t := h
end G
/-! My base, part 10: sorted(set(a list of whole numbers)). -/
namespace G
open PySem PySem.Spec PyProof.Rows L2 TL
section
variable {P : Program} {w : World} {A : Around} {E : Value → Shared → Prop} {s : Shared}
/-- the empty set, as it is laid -/
abbrev newS (w : World) : Obj := { cls := .type "set", dict := none, data := .set #[] 0 (.fresh 0 0 (!w.params.followText "set-order")) }
theorem set_of_list {l : Addr} {xs : Array Value} (ks : List Int) {Q : Value → Shared → Prop} (hh : A.handled = none) (hl : s.heap.IsList l xs) (hk : IntsAre xs.toList ks) (hb : ks.length + 1 < scanBound)
    (hq : ∀ (h' : Heap) (tk c : Nat), SetR w h' s.heap.objs.size (fun j => decide (j ∈ ks)) c → c ≤ ks.length → (∀ b o, s.heap.get? b = some o → h'.get? b = some o) → Q (.ref s.heap.objs.size) { s with heap := h', toks := tk }) :
    wpAny (model P w) A (call (.type "set") [.ref l]) Q E s := by
  have hsz : xs.size = ks.length := (Array.length_toList (xs := xs)).symm.trans (IntsAre.length hk)
  obtain ⟨c0, tl0, hmro⟩ := F.called_set.mro
  have hmade := F.called_set.made; have hsub := F.called_set.sub
  refine wpAny_call (codeAny_of_tree ?_); show wpAny _ _ (callAny (.type "set") _) _ _ _
  refine wpAny_pure ⟨Code.quiet_builtin _ (by decide +kernel), codeAny_builtin F.entry_type_call ?_⟩; rw [Around.under_plain (weight_type_call_type "set" [.ref l] []) rfl]
  have n1 := F.called_set.notType; have n2 := F.called_set.canCreate; have n3 := F.typeCall_set_1 (.ref l)
  repeat (any_goals (first | assumption | wp_step))
  refine codeAny_mono (code_set_led1 (A := A.in1) (.ref l) (E := E) (Q₁ := fun ob s₁ => ob = .ref s.heap.objs.size ∧ s₁ = { s with heap := s.heap.push (newS w) }) ⟨rfl, rfl⟩) fun r s₁ hr => ?_
  cases r with
  | error e => exact hr
  | ok fl =>
    cases fl with
    | next => exact hr.elim
    | brk => exact hr.elim
    | cont => exact hr.elim
    | ret ob =>
      obtain ⟨rfl, rfl⟩ := hr
      have hS : (s.heap.push (newS w)).get? s.heap.objs.size = some (newS w) := Heap.get?_push_size _ rfl
      have hT : Shared.TypeIs { s with heap := s.heap.push (newS w) } (.ref s.heap.objs.size) "set" := ⟨_, hS, rfl⟩
      have hli := F.called_set.init.lookup; have hbi := F.called_set.init.bind (.ref s.heap.objs.size)
      repeat (any_goals (first | assumption | wp_step))
      refine codeAny_mono (codeAny_call_builtin (R := wants (fun rr s₂ => rr = .none ∧ ∃ h' tk c, s₂ = { s with heap := h', toks := tk } ∧ SetR w h' s.heap.objs.size (fun j => decide (j ∈ ks)) c ∧ c ≤ ks.length ∧ (∀ b o, s.heap.get? b = some o → h'.get? b = some o)) E)
        F.called_set.init.plain F.entry_set_init (check_set_init_1 hT ?_)) fun r2 s2 hr2 => ?_
      · obtain ⟨⟨lc, ld, lt, ls⟩, hol, hcl, nl, hdl⟩ := hl
        simp only at hcl hdl; subst hcl; subst hdl
        have hol' : (s.heap.push (newS w)).get? l = some { cls := .type "list", dict := ld, data := .seq xs nl, slots := ls } := Heap.get?_push_of_some _ hol
        have b1 := F.sub_list_set; have b2 := F.sub_list_frozenset
        have b3 : (Value.type "list" == Value.type "dict") = false := by decide
        have hl1 : (s.heap.push (newS w)).IsList l xs := ⟨_, hol', rfl, nl, rfl⟩
        unfold Builtin.«set.__init__» noKeywords Builtin.Frozenset.updateFrom; generalize hPI : pyIter = PI
        wp_walk
        subst hPI; refine wpAny_pyIter_list hl1 ?_
        refine wpAny_bind (wpAny_runValue ?_); have lS : l < s.heap.objs.size := Heap.lt_size hol
        have hh3 : A.in1.in1.in1.handled = none := by simp [hh]
        have lI : l ≠ (s.heap.push (newS w)).objs.size := by rw [Heap.size_push]; exact Nat.ne_of_lt (Nat.lt_succ_of_lt lS)
        have sI : s.heap.objs.size ∉ [(s.heap.push (newS w)).objs.size, l] := by
          rw [Heap.size_push]
          intro z
          rcases List.mem_cons.mp z with z | z
          · exact absurd z (Nat.ne_of_lt (Nat.lt_succ_self _))
          · exact absurd (List.mem_singleton.mp z) (Nat.ne_of_gt lS)
        have each : ∀ (i : Nat) (v : Value), xs[i]? = some v → ∃ k t, ks[i]? = some k ∧ v = .int k t := fun i v hv => by
          have hi : i < ks.length := by rw [← hsz]; exact (Array.getElem?_eq_some_iff.mp hv).1
          obtain ⟨t, e⟩ := PyProof.Rows.IntsAre.int_at hk i v (by rw [Array.getElem?_toList]; exact hv)
          exact ⟨ks[i], t, List.getElem?_eq_getElem hi, by rw [e, List.getD_eq_getElem?_getD, List.getElem?_eq_getElem hi]; rfl⟩
        refine set_update_ints ((Walks.list hh3 _ l lI xs).toS) s.heap.objs.size sI ks hsz hb each (xs.size - 0) 0 _ (by omega) (Nat.zero_le _) ⟨⟨_, Heap.get?_push_size _ rfl, rfl, rfl⟩, (hl1.push _)⟩ ⟨0, Nat.le_refl 0, setR_new_at (Heap.get?_push_of_some _ hS)⟩ (fun s' c' hm hc' hS' => ?_)
        obtain ⟨h', g2, d', tk', os'⟩ := s'
        have eg : g2 = s.gens := hm.gens; have ed : d' = s.drawn := hm.drawn
        have eo : os' = s.os := hm.os; subst eg; subst ed; subst eo
        show wpAny _ _ _ _ _ _; refine wpAny_pure ?_
        show wpAny _ _ (ret Value.none) _ _ _; rw [hsz] at hc'
        refine wpAny_pure ⟨rfl, h', tk', c', rfl, hS', hc', fun b o e => ?_⟩
        have m0 : b < s.heap.objs.size := Heap.lt_size e
        refine hm.heap b o (fun z => ?_) (Heap.get?_push_of_some _ (Heap.get?_push_of_some _ e))
        rcases List.mem_cons.mp z with z | z
        · exact absurd z (Nat.ne_of_lt m0)
        · have z := List.mem_singleton.mp z
          rw [Heap.size_push] at z
          exact absurd z (Nat.ne_of_lt (Nat.lt_succ_of_lt m0))
      · cases r2 with
        | error e => exact hr2
        | ok fl2 =>
          cases fl2 with
          | next => exact hr2.elim
          | brk => exact hr2.elim
          | cont => exact hr2.elim
          | ret rr =>
            obtain ⟨rfl, h', tk, c, rfl, hS', hc', hk'⟩ := hr2
            repeat (any_goals (first | assumption | wp_step))
            exact hq _ _ _ hS' hc' hk'
end
end G
/-! My base, part 11: the set sorted. -/
namespace G
open PySem PySem.Spec PyProof.Rows L2 TL
section
variable {P : Program} {w : World} {A : Around} {E : Value → Shared → Prop} {s : Shared} {a : Addr}
theorem set_sorted {S : Int → Bool} {n : Nat} {Q : Value → Shared → Prop} (R : SetR w s.heap a S n) (hh : A.handled = none)
    (hq : ∀ s' p (out : List Value) (c : Nat) (ns : List Int), (∀ b o, s.heap.get? b = some o → s'.heap.get? b = some o) → s'.gens = s.gens → s'.os = s.os → s.heap.objs.size ≤ p →
      s'.heap.get? p = some (seqObj "list" out.toArray c) → IntsAre out ns → ns.Pairwise (· < ·) → (∀ k, k ∈ ns ↔ S k = true) → ns.length ≤ n → Q (.ref p) s') :
    wpAny (model P w) A (call (.builtin "sorted") [.ref a]) Q E s := by
  obtain ⟨o, es, ep, t, ho, hex, hd, good, nd, hm, hb, hf, hn, hr, hl⟩ := R
  refine Calls.call_function_entry kind_sorted plain_sorted entry_sorted (args_sorted1 _) ?_; unfold Builtin.«sorted»
  refine wpAny_bind (m := checkCount "sorted" 1 1 _) (wpAny_pure ?_)
  refine wpAny_bind (collect_set (A := A.in1) hh ⟨o, ho, hex.1, hd⟩ hf hb hr hl fun s1 vs k1 hz g1 o1 pm => ?_)
  have hvl : vs.length = n := by rw [pm.length_eq, List.length_map, Array.length_toList]; exact hn
  have hI : IntsAre vs (vs.map Builtin.Re.reRawOf) := ints_of vs fun v hv => by
    obtain ⟨e, he, q⟩ := List.mem_map.mp (pm.mem_iff.mp hv)
    obtain ⟨k, tk, h1, _⟩ := good e he
    exact ⟨k, tk, q ▸ h1⟩
  have pk : (vs.map Builtin.Re.reRawOf).Perm (es.toList.map keyOf) := by
    have q := pm.map Builtin.Re.reRawOf
    rwa [List.map_map] at q
  have hsl : vs.length ≤ sizeLine := by
    rw [hvl, ← hn, sizeLine_eq]
    have := hb
    unfold scanBound at this
    omega
  refine wpAny_bind (wpAny_newList ?_ hsl)
  have hoL : (s1.heap.push (seqObj "list" vs.toArray 0)).get? s1.heap.objs.size = some (seqObj "list" vs.toArray 0) := Heap.get?_push_size _ rfl
  refine wpAny_bind (wpAny_holding (wpAny_call_entry slot_list_sort ⟨_, hoL, rfl⟩ entry_list_sort (SrtO.list_sort_ord SrtO.swo_int hoL hsl (fun h2 => SrtO.ints_sortable hI h2) fun out h1 h2 => ⟨_, rfl, ?_⟩) (args_list_sort _)))
  obtain ⟨z1, z2, z3⟩ := SrtO.ints_out hI h1 h2
  obtain ⟨c, hc⟩ := sortedHeap_at (vs := vs) (out := out.toArray) hoL
  have pn := z2.trans pk
  refine wpAny_pure ⟨_, rfl, hq _ s1.heap.objs.size out c _ (fun b u e => ?_) g1 o1 hz hc z1 (lt_of_le_nodup _ z3 (pn.nodup_iff.mpr nd)) (fun k => by rw [pn.mem_iff, ← hm k]) (by rw [pn.length_eq, List.length_map, Array.length_toList, hn]; exact Nat.le_refl _)⟩
  have q := k1 b u e
  have hlt := Heap.lt_size q
  show (sortedHeap (s1.heap.push (seqObj "list" vs.toArray 0)) s1.heap.objs.size vs out.toArray).get? b = some u
  rw [sortedHeap_old (Nat.ne_of_lt hlt) (by rw [Heap.size_push]; exact Nat.lt_succ_of_lt hlt)]
  exact Heap.get?_push_of_some _ q
end
end G
/-! My base, part 12: the rule. -/
namespace G
open PySem PySem.Spec PyProof.Rows L2 TL
section
variable {X : Cx}
/-- sorted(set(a list of whole numbers)) -/
def tSSet (K : PySem.W.Frag) (ta : TE) : TE := fun σ H Q => ta σ H fun x H1 => ∃ (l : Addr) (ks : List Int), x = V.ref l ∧ SqL K H1 l (ks.map V.int) ∧ ks.length < 4000 ∧
  ∀ (ns : List Int) (p : Addr), ns.Pairwise (· < ·) → (∀ k, k ∈ ns ↔ k ∈ ks) → ns.length ≤ ks.length → H1 p = none → Q (.ref p) (upd H1 p (.lst (ns.map V.int)))
theorem pe_sset {a : Expr} {ta : TE} {p p2 q pos : Pos} (hc : X.calm = true) (hg : Gl X "sorted") (hm : X.mg "sorted" = none) (hg2 : Gl X "set") (hm2 : X.mg "set" = none) (ha : PE X a ta)
    (na : starEach [a] X.env = (false, eval a X.env) :: starEach [] X.env := by rfl) : PE X (.Call (.Name "sorted" p) [.Call (.Name "set" p2) [a] [] q] [] pos) (tSSet X.K ta) := by
  refine ⟨fun pins s σ H Q I h => ?_⟩
  refine Call_ (ld_blt I hg hm (u := .builtin "sorted") (by decide +kernel) ?_)
  refine PyProof.Rows.callWith_builtin1 (PyProof.Rows.args_cons ?_ rfl) rfl rfl
  refine Call_ (ld_blt I hg2 hm2 PyProof.Rows.boot_set ?_)
  refine PyProof.Rows.callWith_type1 (PyProof.Rows.args_cons (thn (ha.run pins s σ H _ I h) fun v s1 ⟨x, H1, I1, r1, q1⟩ => PyProof.Rows.args_nil ?_) na) na rfl
  obtain ⟨l, ks, rfl, hq, h4, q1⟩ := q1
  cases r1
  obtain ⟨its, r, pl, hz⟩ := I1.list hq
  refine set_of_list ks (I1.ok.hd hc) pl.isList (by simpa using r.ints) (by unfold scanBound; omega) fun h' tk c hS hck hk => ?_
  refine PyProof.Rows.args_nil ?_
  have I2 : Inv X pins σ H1 { s1 with heap := h', toks := tk } := I1.kept fun b o e => hk b o e
  refine set_sorted hS (I2.ok.hd hc) fun s' p out c2 ns k g o hp hgt hi hs hmem hlen => ?_
  have hlen2 : ns.length ≤ ks.length := Nat.le_trans hlen hck
  have hlz : (ns.map V.int).length ≤ sizeLine := by rw [List.length_map, sizeLine_eq]; omega
  have hn : H1 p = none := I2.hok.fresh hp
  have J : Inv X pins σ (upd H1 p (.lst (ns.map V.int))) s' := Inv.call' (ch := []) I2 o (Un.laid k hp hn) (I2.hok.laid k hp ⟨hlz, out, c2, vals_of_ints hi, hgt⟩) (by rw [g]; exact I2.bare) (fun _ z => nomatch z)
  exact ⟨.ref p, _, J, rfl, q1 ns p hs (fun k => by rw [hmem k, decide_eq_true_iff]) hlen2 hn⟩
end
end G
/-! My base, part 13: what sorted(set(..)) comes to. -/
namespace G
open PySem PySem.Spec PyProof.Rows L2 TL
/-- x put into a rising list, once -/
def ins (x : Int) : List Int → List Int
  | [] => [x]
  | y :: ys => if x < y then x :: y :: ys else if x = y then y :: ys else y :: ins x ys
def ssort (xs : List Int) : List Int := xs.foldr ins []
theorem ins_mem {x k : Int} : ∀ {l : List Int}, k ∈ ins x l ↔ k = x ∨ k ∈ l
  | [] => by simp [ins]
  | y :: ys => by
    unfold ins
    split
    · simp
    · split
      · rename_i h
        subst h
        simp
      · rw [List.mem_cons, ins_mem, List.mem_cons]
        constructor
        · rintro (h | h | h)
          · exact .inr (.inl h)
          · exact .inl h
          · exact .inr (.inr h)
        · rintro (h | h | h)
          · exact .inr (.inl h)
          · exact .inl h
          · exact .inr (.inr h)
theorem ins_sorted {x : Int} : ∀ {l : List Int}, l.Pairwise (· < ·) → (ins x l).Pairwise (· < ·)
  | [], _ => List.pairwise_singleton _ _
  | y :: ys, h => by
    obtain ⟨h1, h2⟩ := List.pairwise_cons.mp h
    unfold ins
    split
    · rename_i hx
      exact List.pairwise_cons.mpr ⟨fun z hz => by
        rcases List.mem_cons.mp hz with rfl | hz
        · exact hx
        · exact Int.lt_trans hx (h1 z hz), h⟩
    · split
      · exact h
      · refine List.pairwise_cons.mpr ⟨fun z hz => ?_, ins_sorted h2⟩
        rcases ins_mem.mp hz with rfl | hz
        · omega
        · exact h1 z hz
theorem ssort_mem {k : Int} : ∀ {l : List Int}, k ∈ ssort l ↔ k ∈ l
  | [] => Iff.rfl
  | x :: l => by
    show k ∈ ins x (ssort l) ↔ _
    rw [ins_mem, ssort_mem, List.mem_cons]
theorem ssort_sorted : ∀ l : List Int, (ssort l).Pairwise (· < ·)
  | [] => List.Pairwise.nil
  | x :: l => ins_sorted (ssort_sorted l)
theorem rise_uniq : ∀ {a b : List Int}, a.Pairwise (· < ·) → b.Pairwise (· < ·) → (∀ k, k ∈ a ↔ k ∈ b) → a = b
  | [], [], _, _, _ => rfl
  | [], y :: _, _, _, h => absurd ((h y).mpr (List.mem_cons_self ..)) (fun z => nomatch z)
  | x :: _, [], _, _, h => absurd ((h x).mp (List.mem_cons_self ..)) (fun z => nomatch z)
  | x :: a, y :: b, ha, hb, h => by
    obtain ⟨a1, a2⟩ := List.pairwise_cons.mp ha
    obtain ⟨b1, b2⟩ := List.pairwise_cons.mp hb
    have e : x = y := by
      rcases List.mem_cons.mp ((h x).mp (List.mem_cons_self ..)) with z | z
      · exact z
      · rcases List.mem_cons.mp ((h y).mpr (List.mem_cons_self ..)) with z2 | z2
        · exact z2.symm
        · have := b1 x z
          have := a1 y z2
          omega
    subst e
    rw [rise_uniq a2 b2 fun k => ?_]
    constructor
    · intro hk
      rcases List.mem_cons.mp ((h k).mp (List.mem_cons_of_mem _ hk)) with z | z
      · have := a1 k hk; omega
      · exact z
    · intro hk
      rcases List.mem_cons.mp ((h k).mpr (List.mem_cons_of_mem _ hk)) with z | z
      · have := b1 k hk; omega
      · exact z
theorem ssort_uniq {xs ns : List Int} (h1 : ns.Pairwise (· < ·)) (h2 : ∀ k, k ∈ ns ↔ k ∈ xs) : ssort xs = ns :=
  rise_uniq (ssort_sorted xs) h1 fun k => by rw [ssort_mem, h2]
def ssetO (xs : List Int) : Option (List Int) := if xs.length < 4000 then some (ssort xs) else none
theorem ssetO_ok {xs r : List Int} (h : ssetO xs = some r) : xs.length < 4000 ∧ ssort xs = r := by
  unfold ssetO at h
  split at h
  · exact ⟨by assumption, Option.some.inj h⟩
  · cases h
end G
/-! My base, part 14: list(zip(two lists)). -/
namespace G
open PySem PySem.Spec PyProof.Rows L2 TL
theorem zip_nolen : typeLookup (.type "zip") "__len__" = pure none := by rw [typeLookup_type, builtinLookup_eq_fast]; kernel_rfl
theorem zip_nohint : typeLookup (.type "zip") "__length_hint__" = pure none := by rw [typeLookup_type, builtinLookup_eq_fast]; kernel_rfl
/-- where the gathering of a zip stands: Ts are the pairs handed out, all of them still there -/
structure ZSt (z TI TO i1 i2 l1 l2 : Addr) (lo : Nat) (xs ys : Array Value) (h : Heap) (Ts : List Addr) : Prop where
  ti : IsPair h TI (.ref i1) (.ref i2)
  z : (Ts = [] ∧ IsZip h z TI TO .none ∧ ∃ a b, IsPair h TO a b) ∨ ∃ T f, T ∈ Ts ∧ IsZipHeld h z TI TO T f
  a1 : h.IsListIter i1 l1 Ts.length
  a2 : h.IsListIter i2 l2 Ts.length
  b1 : h.IsList l1 xs
  b2 : h.IsList l2 ys
  prs : ∀ (j : Nat) (T : Addr), Ts[j]? = some T → ∃ x y, xs[j]? = some x ∧ ys[j]? = some y ∧ IsPair h T x y
  fr : ∀ T ∈ Ts, lo ≤ T
  nd : Ts.Nodup
theorem ne_lo {a b lo : Nat} (h : a < lo) (h2 : lo ≤ b) : b ≠ a := fun e => absurd (e ▸ h2) (Nat.not_le_of_lt h)
section
variable {P : Program} {w : World} {A : Around} {E : Value → Shared → Prop} {s : Shared} {z TI TO i1 i2 l1 l2 S : Addr} {lo : Nat} {xs ys : Array Value} {h h' : Heap} {Ts : List Addr}
theorem ZSt.at_T (Z : ZSt z TI TO i1 i2 l1 l2 lo xs ys h Ts) {T : Addr} (hT : T ∈ Ts) : ∃ o, h.get? T = some o := by
  obtain ⟨j, hj⟩ := List.getElem?_of_mem hT
  obtain ⟨x, y, _, _, p⟩ := Z.prs j T hj
  exact ⟨_, p⟩
/-- what is kept of it by a write elsewhere -/
theorem ZSt.keep (Z : ZSt z TI TO i1 i2 l1 l2 lo xs ys h Ts) (hS : S < lo) (S1 : S ≠ z) (S2 : S ≠ TI) (S3 : S ≠ TO) (S4 : S ≠ i1) (S5 : S ≠ i2) (S6 : S ≠ l1) (S7 : S ≠ l2) (k : ∀ b o, b ≠ S → h.get? b = some o → h'.get? b = some o) : ZSt z TI TO i1 i2 l1 l2 lo xs ys h' Ts := by
  refine ⟨k _ _ S2.symm Z.ti, ?_, Z.a1.at fun o e => k _ o S4.symm e, Z.a2.at fun o e => k _ o S5.symm e, Z.b1.at fun o e => k _ o S6.symm e, Z.b2.at fun o e => k _ o S7.symm e, fun j T hj => ?_, Z.fr, Z.nd⟩
  · rcases Z.z with ⟨e, q, a, b, r⟩ | ⟨T, f, hT, q⟩
    · exact .inl ⟨e, k _ _ S1.symm q, a, b, k _ _ S3.symm r⟩
    · exact .inr ⟨T, f, hT, k _ _ S1.symm q⟩
  · obtain ⟨x, y, e1, e2, p⟩ := Z.prs j T hj
    have hT := Z.fr T (List.mem_of_getElem? hj)
    exact ⟨x, y, e1, e2, k _ _ (ne_lo hS hT) p⟩
/-- one pair more -/
theorem ZSt.more (Z : ZSt z TI TO i1 i2 l1 l2 lo xs ys h Ts) (D : ZipApart z TI TO i1 i2 l1 l2) (hlo : lo ≤ h.objs.size) (hl : z < lo ∧ TO < lo ∧ i1 < lo ∧ i2 < lo) {f : Bool} {x y : Value} (c1 : IsZipHeld h' z TI TO h.objs.size f ∨ ∃ T, T ∈ Ts ∧ IsZipHeld h' z TI TO T f)
    (c2 : h'.IsListIter i1 l1 (Ts.length + 1)) (c3 : h'.IsListIter i2 l2 (Ts.length + 1)) (c4 : IsPair h' h.objs.size x y) (e1 : xs[Ts.length]? = some x) (e2 : ys[Ts.length]? = some y)
    (k : ∀ c o, c ≠ z → c ≠ TO → c ≠ i1 → c ≠ i2 → h.get? c = some o → h'.get? c = some o) : ZSt z TI TO i1 i2 l1 l2 lo xs ys h' (Ts ++ [h.objs.size]) := by
  have hn : h.objs.size ∉ Ts := fun m => by
    obtain ⟨o, e⟩ := Z.at_T m
    exact absurd (Heap.lt_size e) (Nat.lt_irrefl _)
  refine ⟨k _ _ D.TIz D.TITO D.TIi1 D.TIi2 Z.ti, .inr ?_, ?_, ?_, Z.b1.at fun o e => k _ o D.l1z D.l1TO D.l1i1 D.l1i2 e, Z.b2.at fun o e => k _ o D.l2z D.l2TO D.l2i1 D.l2i2 e, fun j T hj => ?_, fun T hT => ?_, ?_⟩
  · rcases c1 with c1 | ⟨T, hT, c1⟩
    · exact ⟨_, f, List.mem_append.mpr (.inr (List.mem_singleton.mpr rfl)), c1⟩
    · exact ⟨T, f, List.mem_append.mpr (.inl hT), c1⟩
  · rw [List.length_append]; exact c2
  · rw [List.length_append]; exact c3
  · by_cases hjl : j < Ts.length
    · rw [List.getElem?_append_left hjl] at hj
      obtain ⟨x', y', f1, f2, p⟩ := Z.prs j T hj
      have hT := Z.fr T (List.mem_of_getElem? hj)
      exact ⟨x', y', f1, f2, k _ _ (ne_lo hl.1 hT) (ne_lo hl.2.1 hT) (ne_lo hl.2.2.1 hT) (ne_lo hl.2.2.2 hT) p⟩
    · rw [List.getElem?_append_right (by omega)] at hj
      have hj0 : j - Ts.length = 0 := by
        cases q : j - Ts.length with
        | zero => rfl
        | succ m => rw [q] at hj; simp at hj
      rw [hj0] at hj
      have eT : h.objs.size = T := Option.some.inj hj
      have ej : j = Ts.length := by omega
      subst ej
      subst eT
      exact ⟨x, y, e1, e2, c4⟩
  · rcases List.mem_append.mp hT with m | m
    · exact Z.fr T m
    · rw [List.mem_singleton.mp m]; exact hlo
  · exact List.nodup_append.mpr ⟨Z.nd, by simp, fun a ha b hb => by
      rw [List.mem_singleton.mp hb]
      intro e
      rw [e] at ha
      exact hn ha⟩
theorem zip_gather {R : Result → Shared → Prop} (hh : A.in1.handled = none) (D : ZipApart z TI TO i1 i2 l1 l2) (hl : z < lo ∧ TO < lo ∧ i1 < lo ∧ i2 < lo) (hS : S < lo) (S1 : S ≠ z) (S2 : S ≠ TI) (S3 : S ≠ TO) (S4 : S ≠ i1) (S5 : S ≠ i2) (S6 : S ≠ l1) (S7 : S ≠ l2) (hn : min xs.size ys.size ≤ sizeLine) (res : Value) :
    ∀ (k : Nat) (s : Shared) (Ts : List Addr) (c : Nat), min xs.size ys.size - Ts.length = k → Ts.length ≤ min xs.size ys.size → lo ≤ s.heap.objs.size → ZSt z TI TO i1 i2 l1 l2 lo xs ys s.heap Ts →
    s.heap.get? S = some { cls := .type "list", dict := none, data := .seq (Ts.map Value.ref).toArray c, slots := #[] } →
    (∀ (s' : Shared) (Ts' : List Addr) (c' : Nat), s'.gens = s.gens → s'.os = s.os → (∀ (j : Nat) (T : Addr), Ts'[j]? = some T → ∃ x y, xs[j]? = some x ∧ ys[j]? = some y ∧ IsPair s'.heap T x y) → (∀ T ∈ Ts', lo ≤ T) → Ts'.Nodup → Ts'.length = min xs.size ys.size → s'.heap.get? S = some { cls := .type "list", dict := none, data := .seq (Ts'.map Value.ref).toArray c', slots := #[] } →
      (∀ b o, b ≠ S → b ≠ z → b ≠ TO → b ≠ i1 → b ≠ i2 → s.heap.get? b = some o → s'.heap.get? b = some o) → R (.ok (.ret res)) s') →
    codeAny (model P w) A (.builtin "list.extend.loop" ⟨[.ref S, .ref z, res], []⟩) R s := by
  intro k
  induction k with
  | zero =>
    intro s Ts c hk hle hlo Z hSo hR
    have hlen : Ts.length = min xs.size ys.size := by omega
    refine codeAny_builtin F.entry_extend_loop ?_; rw [Around.under_plainId F.plain_extend_loop _]
    show wpAny _ A.in1 (pyNext (.ref z) >>= _) _ _ s
    have hend : xs[Ts.length]? = none ∨ ys[Ts.length]? = none := by
      rcases Nat.le_total xs.size ys.size with q | q
      · exact .inl (Array.getElem?_eq_none (by omega))
      · exact .inr (Array.getElem?_eq_none (by omega))
    have fin : ∀ h' : Heap, (∀ c o, c ≠ z → c ≠ TO → c ≠ i1 → c ≠ i2 → s.heap.get? c = some o → h'.get? c = some o) → R (.ok (.ret res)) { s with heap := h' } := fun h' kk => by
      refine hR { s with heap := h' } Ts c rfl rfl (fun j T hj => ?_) Z.fr Z.nd hlen (kk _ _ S1 S3 S4 S5 hSo) (fun b o _ b2 b3 b4 b5 e => kk b o b2 b3 b4 b5 e)
      obtain ⟨x, y, e1, e2, p⟩ := Z.prs j T hj
      have hT := Z.fr T (List.mem_of_getElem? hj)
      exact ⟨x, y, e1, e2, kk _ _ (ne_lo hl.1 hT) (ne_lo hl.2.1 hT) (ne_lo hl.2.2.1 hT) (ne_lo hl.2.2.2 hT) p⟩
    rcases Z.z with ⟨e, q, a, b, r⟩ | ⟨T, f, hT, q⟩
    · refine wpAny_bind (wpAny_pyNext_zip_end hh D q Z.ti r Z.a1 Z.a2 Z.b1 Z.b2 hend fun h' kk => ?_)
      exact wpAny_pure (fin h' kk)
    · obtain ⟨oT, eT⟩ := Z.at_T hT
      refine wpAny_bind (wpAny_pyNext_zip_end_held hh D q eT Z.ti Z.a1 Z.a2 Z.b1 Z.b2 hend fun h' kk => ?_)
      exact wpAny_pure (fin h' fun c o c1 _ c3 c4 e => kk c o c1 c3 c4 e)
  | succ k ih =>
    intro s Ts c hk hle hlo Z hSo hR
    have hlt : Ts.length < min xs.size ys.size := by omega
    have hx : Ts.length < xs.size := by omega
    have hy : Ts.length < ys.size := by omega
    have e1 : xs[Ts.length]? = some xs[Ts.length] := Array.getElem?_eq_getElem hx
    have e2 : ys[Ts.length]? = some ys[Ts.length] := Array.getElem?_eq_getElem hy
    refine codeAny_builtin F.entry_extend_loop ?_; rw [Around.under_plainId F.plain_extend_loop _]
    show wpAny _ A.in1 (pyNext (.ref z) >>= _) _ _ s
    have go : ∀ h' : Heap, h'.objs.size = s.heap.objs.size + 1 → ZSt z TI TO i1 i2 l1 l2 lo xs ys h' (Ts ++ [s.heap.objs.size]) → (∀ c o, c ≠ z → c ≠ TO → c ≠ i1 → c ≠ i2 → s.heap.get? c = some o → h'.get? c = some o) →
        wpAny (model P w) A.in1 (updateSeq S (·.push (Value.ref s.heap.objs.size)) >>= fun _ => again (.builtin "list.extend.loop" ⟨[.ref S, .ref z, res], []⟩)) (fun fin s' => match fin with | .done f => R (.ok f) s' | .again c' => c'.quiet = true ∧ codeAny (model P w) A c' R s') (fun e s' => R (.error e) s') { s with heap := h' } := fun h' hsz Z' kk => by
      have hS' : h'.get? S = some { cls := .type "list", dict := none, data := .seq (Ts.map Value.ref).toArray c, slots := #[] } := kk _ _ S1 S3 S4 S5 hSo
      have hlen1 : ((Ts.map Value.ref).toArray).size = Ts.length := by simp
      refine wpAny_bind ?_
      refine wpAny_updateSeq (s := { s with heap := h' }) hS' rfl (wpAny_pure ⟨plainId_quiet F.plain_extend_loop _, ?_⟩) (by rw [hlen1]; omega) (by show ((Ts.map Value.ref).toArray.push _).size ≤ sizeLine + 1; rw [Array.size_push, hlen1]; omega)
      have hS2 := Heap.get?_update_self (Obj.mapSeq (·.push (Value.ref s.heap.objs.size))) hS' rfl
      have kS : ∀ b o, b ≠ S → h'.get? b = some o → (h'.update S (Obj.mapSeq (·.push (Value.ref s.heap.objs.size)))).get? b = some o := fun b o hb e => (Heap.get?_update_other _ _ (Ne.symm hb)).trans e
      have eA : (Ts.map Value.ref).toArray.push (Value.ref s.heap.objs.size) = ((Ts ++ [s.heap.objs.size]).map Value.ref).toArray := by simp
      refine ih _ (Ts ++ [s.heap.objs.size]) _ (by rw [List.length_append]; show _ - (Ts.length + 1) = k; omega) (by rw [List.length_append]; show Ts.length + 1 ≤ _; omega) ?_ (Z'.keep hS S1 S2 S3 S4 S5 S6 S7 kS) (by rw [← eA]; exact hS2) (fun s' Ts' c' g1 g2 g3 g4 g5 g6 g7 g8 => ?_)
      · show lo ≤ (h'.update S _).objs.size
        rw [(Heap.SameBut.update h' S _).1, hsz]
        omega
      · exact hR s' Ts' c' g1 g2 g3 g4 g5 g6 g7 fun b o b1 b2 b3 b4 b5 e => g8 b o b1 b2 b3 b4 b5 (kS b o b1 (kk b o b2 b3 b4 b5 e))
    rcases Z.z with ⟨e, q, a, b, r⟩ | ⟨T, f, hT, q⟩
    · refine wpAny_bind (wpAny_pyNext_zip_item D q Z.ti r Z.a1 Z.a2 Z.b1 Z.b2 e1 e2 fun h' d1 d2 d3 d4 d5 d6 kk => ?_)
      exact go h' d6 (Z.more D hlo hl (f := false) (.inl d1) d3 d4 d5 e1 e2 kk) kk
    · obtain ⟨oT, eT⟩ := Z.at_T hT
      refine wpAny_bind (wpAny_pyNext_zip_item_held D q eT Z.ti Z.a1 Z.a2 Z.b1 Z.b2 e1 e2 fun h' d1 d3 d4 d5 d6 kk => ?_)
      exact go h' d6 (Z.more D hlo hl (f := true) (.inr ⟨T, hT, d1⟩) d3 d4 d5 e1 e2 fun c o c1 _ c3 c4 e => kk c o c1 c3 c4 e) fun c o c1 _ c3 c4 e => kk c o c1 c3 c4 e
end
end G
/-! My base, part 15: list(zip(..)), the call. -/
namespace G
open PySem PySem.Spec PyProof.Rows L2 TL
section
variable {P : Program} {w : World} {A : Around} {E : Value → Shared → Prop} {s : Shared} {z TI TO i1 i2 l1 l2 S : Addr} {lo : Nat} {xs ys : Array Value}
theorem zip_extend {R : Result → Shared → Prop} (hh : A.handled = none) (D : ZipApart z TI TO i1 i2 l1 l2) (hl : z < lo ∧ TO < lo ∧ i1 < lo ∧ i2 < lo) (hS : S < lo) (S1 : S ≠ z) (S2 : S ≠ TI) (S3 : S ≠ TO) (S4 : S ≠ i1) (S5 : S ≠ i2) (S6 : S ≠ l1) (S7 : S ≠ l2) (hn : min xs.size ys.size ≤ sizeLine) (res : Value)
    (c0 : Nat) (hlo : lo ≤ s.heap.objs.size) (Z : ZSt z TI TO i1 i2 l1 l2 lo xs ys s.heap []) (hSo : s.heap.get? S = some { cls := .type "list", dict := none, data := .seq #[] c0, slots := #[] })
    (hR : ∀ (s' : Shared) (Ts' : List Addr) (c' : Nat), s'.gens = s.gens → s'.os = s.os → (∀ (j : Nat) (T : Addr), Ts'[j]? = some T → ∃ x y, xs[j]? = some x ∧ ys[j]? = some y ∧ IsPair s'.heap T x y) → (∀ T ∈ Ts', lo ≤ T) → Ts'.Nodup → Ts'.length = min xs.size ys.size → s'.heap.get? S = some { cls := .type "list", dict := none, data := .seq (Ts'.map Value.ref).toArray c', slots := #[] } →
      (∀ b o, b ≠ S → b ≠ z → b ≠ TO → b ≠ i1 → b ≠ i2 → s.heap.get? b = some o → s'.heap.get? b = some o) → R (.ok (.ret res)) s') :
    wpAny (model P w) A.in1 (Builtin.List.listExtendWith (.ref S) (.ref z) res) (fun fin s' => match fin with | .done f => R (.ok f) s' | .again c' => c'.quiet = true ∧ codeAny (model P w) A c' R s') (fun e s' => R (.error e) s') s := by
  have hh1 : A.in1.handled = none := by simp [hh]
  obtain ⟨q0, q, ta, tb, tr⟩ : ([] : List Addr) = [] ∧ IsZip s.heap z TI TO .none ∧ ∃ a b, IsPair s.heap TO a b := by
    rcases Z.z with h | ⟨T, f, hT, _⟩
    · exact h
    · exact nomatch hT
  have hT : s.TypeIs (.ref z) "zip" := ⟨_, q, rfl⟩
  unfold Builtin.List.listExtendWith; refine wpAny_bind (wpAny_typeOf hT ?_)
  have m1 : Builtin.List.listSameRef (.ref S) (.ref z) = false := by simp [Builtin.List.listSameRef, S1]
  have m2 : (Value.type "zip" == Value.type "list") = false := by decide
  have m3 : (Value.type "zip" == Value.type "tuple") = false := by decide
  simp only [m1, m2, m3, Bool.or_false, Bool.false_eq_true, if_false]
  refine wpAny_bind (wpAny_pyIter_zip q ?_)
  refine wpAny_bind (wpAny_holding ?_); unfold Builtin.List.listLengthHint
  refine wpAny_bind (wpAny_specialOf hT zip_nolen ?_)
  show wpAny _ A.in1 (specialOf (Value.ref z) (Str.ofString "__length_hint__") >>= _) _ _ _
  refine wpAny_bind (wpAny_specialOf hT zip_nohint ?_); refine wpAny_pure ?_
  show wpAny _ A.in1 (rule "list.extend.makes-room" >>= fun _ => Builtin.List.listTouch (.ref S) >>= fun _ => again (.builtin "list.extend.loop" ⟨[.ref S, .ref z, res], []⟩)) _ _ _
  refine wpAny_bind (wpAny_rule ?_); refine wpAny_bind ?_
  show wpAny _ A.in1 (updateSeq S (·.push .none) >>= fun _ => updateSeq S (·.pop)) _ _ _
  refine wpAny_bind (wpAny_updateSeq hSo rfl ?_)
  have hS2 := Heap.get?_update_self (Obj.mapSeq (·.push Value.none)) hSo rfl
  refine wpAny_updateSeq (hz := by seq_fits) hS2 rfl ?_
  have hS3 := Heap.get?_update_self (Obj.mapSeq (·.pop)) hS2 rfl
  have oth : ∀ b o, b ≠ S → s.heap.get? b = some o → ((s.heap.update S (Obj.mapSeq (·.push Value.none))).update S (Obj.mapSeq (·.pop))).get? b = some o := fun b o hb e => (Heap.get?_update_other _ _ (Ne.symm hb)).trans ((Heap.get?_update_other _ _ (Ne.symm hb)).trans e)
  refine wpAny_pure ⟨plainId_quiet F.plain_extend_loop _, zip_gather hh1 D hl hS S1 S2 S3 S4 S5 S6 S7 hn res (min xs.size ys.size) _ [] _ rfl (Nat.zero_le _) ?_ (Z.keep hS S1 S2 S3 S4 S5 S6 S7 oth) hS3 fun s' Ts' c' g1 g2 g3 g4 g5 g6 g7 g8 => ?_⟩
  · show lo ≤ ((s.heap.update S _).update S _).objs.size
    rw [(Heap.SameBut.update _ S _).1, (Heap.SameBut.update _ S _).1]
    exact hlo
  · exact hR s' Ts' c' g1 g2 g3 g4 g5 g6 g7 fun b o b1 b2 b3 b4 b5 e => g8 b o b1 b2 b3 b4 b5 (oth b o b1 e)
theorem list_zip {Q : Value → Shared → Prop} (hh : A.handled = none) (D : ZipApart z TI TO i1 i2 l1 l2) (hl : z < s.heap.objs.size ∧ TO < s.heap.objs.size ∧ i1 < s.heap.objs.size ∧ i2 < s.heap.objs.size ∧ TI < s.heap.objs.size ∧ l1 < s.heap.objs.size ∧ l2 < s.heap.objs.size) (hn : min xs.size ys.size ≤ sizeLine)
    (hz : IsZip s.heap z TI TO .none) (hTI : IsPair s.heap TI (.ref i1) (.ref i2)) {a b : Value} (hTO : IsPair s.heap TO a b) (a1 : s.heap.IsListIter i1 l1 0) (a2 : s.heap.IsListIter i2 l2 0) (b1 : s.heap.IsList l1 xs) (b2 : s.heap.IsList l2 ys)
    (hq : ∀ (s' : Shared) (Ts' : List Addr) (c' : Nat), s'.gens = s.gens → s'.os = s.os → (∀ (j : Nat) (T : Addr), Ts'[j]? = some T → ∃ x y, xs[j]? = some x ∧ ys[j]? = some y ∧ IsPair s'.heap T x y) → (∀ T ∈ Ts', s.heap.objs.size + 1 ≤ T) → Ts'.Nodup → Ts'.length = min xs.size ys.size → s'.heap.get? s.heap.objs.size = some { cls := .type "list", dict := none, data := .seq (Ts'.map Value.ref).toArray c', slots := #[] } →
      (∀ b o, b ≠ z → b ≠ TO → b ≠ i1 → b ≠ i2 → s.heap.get? b = some o → s'.heap.get? b = some o) → Q (.ref s.heap.objs.size) s') :
    wpAny (model P w) A (call (.type "list") [.ref z]) Q E s := by
  obtain ⟨z1, z2, z3, z4, z5, z6, z7⟩ := hl
  refine callType_codes (Q₁ := fun ob s₁ => ob = .ref s.heap.objs.size ∧ s₁ = { s with heap := s.heap.push { cls := .type "list", data := .seq #[] } }) F.called_list (F.typeCall_list_1 _) F.entry_list_init (code_list_new _ ⟨rfl, rfl⟩) fun ob s₁ h₁ => ?_
  obtain ⟨rfl, rfl⟩ := h₁
  have hSo : (s.heap.push { cls := .type "list", data := .seq #[] }).get? s.heap.objs.size = some { cls := .type "list", data := .seq #[] } := Heap.get?_push_size _ rfl
  have hsz : (s.heap.push { cls := .type "list", data := .seq #[] }).objs.size = s.heap.objs.size + 1 := Heap.size_push ..
  have up : ∀ b o, s.heap.get? b = some o → (s.heap.push { cls := .type "list", data := .seq #[] }).get? b = some o := fun b o e => Heap.get?_push_of_some _ e
  refine ⟨⟨_, hSo, rfl⟩, F.args_list_init_2 _ _, ?_⟩
  show wpAny _ _ (do let old ← Builtin.List.listItems (.ref s.heap.objs.size); Builtin.List.listUpdate (.ref s.heap.objs.size) (fun _ => #[]); letGo old.toList.reverse; Builtin.List.listExtendWith (.ref s.heap.objs.size) (.ref z) .none) _ _ _
  refine wpAny_bind ?_; unfold Builtin.List.listItems
  refine wpAny_bind (wpAny_seqItems hSo rfl (wpAny_pure ?_))
  show wpAny _ _ (updateSeq s.heap.objs.size (fun _ => #[]) >>= fun _ => letGo (#[] : Array Value).toList.reverse >>= fun _ => Builtin.List.listExtendWith (.ref s.heap.objs.size) (.ref z) .none) _ _ _
  refine wpAny_bind (wpAny_updateSeq hSo rfl ?_)
  have hS2 := Heap.get?_update_self (Obj.mapSeq (fun _ => (#[] : Array Value))) hSo rfl
  have oth : ∀ b o, b ≠ s.heap.objs.size → s.heap.get? b = some o → ((s.heap.push { cls := .type "list", data := .seq #[] }).update s.heap.objs.size (Obj.mapSeq (fun _ => (#[] : Array Value)))).get? b = some o := fun b o hb e => (Heap.get?_update_other _ _ (Ne.symm hb)).trans (up b o e)
  refine wpAny_bind (wpAny_letGo ?_)
  have ne : ∀ {b : Addr}, b < s.heap.objs.size → b ≠ s.heap.objs.size := fun hb => Nat.ne_of_lt hb
  refine zip_extend (lo := s.heap.objs.size + 1) (by simp [hh]) D ⟨Nat.lt_succ_of_lt z1, Nat.lt_succ_of_lt z2, Nat.lt_succ_of_lt z3, Nat.lt_succ_of_lt z4⟩ (Nat.lt_succ_self _) (ne z1).symm (ne z5).symm (ne z2).symm (ne z3).symm (ne z4).symm (ne z6).symm (ne z7).symm hn .none _ ?_
    ⟨oth _ _ (ne z5) hTI, .inl ⟨rfl, oth _ _ (ne z1) hz, a, b, oth _ _ (ne z2) hTO⟩, a1.at fun o e => oth _ o (ne z3) e, a2.at fun o e => oth _ o (ne z4) e, b1.at fun o e => oth _ o (ne z6) e, b2.at fun o e => oth _ o (ne z7) e, (fun j T hj => by simp at hj), (fun T hT => nomatch hT), List.nodup_nil⟩ hS2 (fun s' Ts' c' g1 g2 g3 g4 g5 g6 g7 g8 => ?_)
  · show _ ≤ ((s.heap.push _).update _ _).objs.size
    rw [(Heap.SameBut.update _ _ _).1, hsz]
    exact Nat.le_refl _
  · exact ⟨rfl, hq s' Ts' c' g1 g2 g3 g4 g5 g6 g7 fun b o b2 b3 b4 b5 e => g8 b o (Nat.ne_of_lt (Heap.lt_size e)) b2 b3 b4 b5 (oth b o (Nat.ne_of_lt (Heap.lt_size e)) e)⟩
end
end G
/-! My base, part 16: list(zip(..)), the rule; many new pairs. -/
namespace G
open PySem PySem.Spec PyProof.Rows L2 TL
/-- pairs that are laid, one behind another -/
def tupsU (H : Hp) : List (Addr × V × V) → Hp
  | [] => H
  | q :: l => tupsU (upd H q.1 (.tup [q.2.1, q.2.2])) l
structure NewP (H : Hp) (l : List (Addr × V × V)) : Prop where
  none : ∀ q ∈ l, H q.1 = none
  nd : (l.map (·.1)).Nodup
theorem NewP.tail {H : Hp} {q : Addr × V × V} {l : List (Addr × V × V)} (n : NewP H (q :: l)) {o : HO} : NewP (upd H q.1 o) l := by
  have hd := List.nodup_cons.mp (show (q.1 :: l.map (·.1)).Nodup from n.nd)
  refine ⟨fun r hr => ?_, hd.2⟩
  rw [upd_ne (fun e => hd.1 (by rw [← e]; exact List.mem_map.mpr ⟨r, hr, rfl⟩))]
  exact n.none r (List.mem_cons_of_mem _ hr)
theorem tupsU_at : ∀ {l : List (Addr × V × V)} {H : Hp} {a : Addr}, (∀ q ∈ l, q.1 ≠ a) → tupsU H l a = H a
  | [], _, _, _ => rfl
  | q :: l, H, a, h => by
    show tupsU _ l a = _
    rw [tupsU_at fun r hr => h r (List.mem_cons_of_mem _ hr), upd_ne (h q (List.mem_cons_self ..)).symm]
theorem tupsU_in : ∀ {l : List (Addr × V × V)} {H : Hp} {q : Addr × V × V}, (l.map (·.1)).Nodup → q ∈ l → tupsU H l q.1 = some (.tup [q.2.1, q.2.2])
  | r :: l, H, q, hn, hq => by
    have hd := List.nodup_cons.mp (show (r.1 :: l.map (·.1)).Nodup from hn)
    show tupsU _ l q.1 = _
    rcases List.mem_cons.mp hq with rfl | hq
    · rw [tupsU_at fun z hz e => hd.1 (by rw [← e]; exact List.mem_map.mpr ⟨z, hz, rfl⟩), upd_same]
    · exact tupsU_in hd.2 hq
theorem tupsU_gr {M : Addr → Prop} : ∀ {l : List (Addr × V × V)} {F0 H0 F H : Hp}, Gr M F0 H0 F H → NewP H l → Gr M F0 H0 (tupsU F l) (tupsU H l)
  | [], _, _, _, _, g, _ => g
  | q :: l, F0, H0, F, H, g, n => by
    show Gr M F0 H0 (tupsU (upd F q.1 (.tup [q.2.1, q.2.2])) l) (tupsU (upd H q.1 (.tup [q.2.1, q.2.2])) l)
    exact tupsU_gr (g.frz (n.none q (List.mem_cons_self ..))) n.tail
theorem tupsU_RL {α β : Type} [Enc α] [Enc β] {K : PySem.W.Frag} {F : Hp} : ∀ {l : List (Addr × V × V)} {xs : List α} {ys : List β}, (l.map (·.1)).Nodup → (∀ q ∈ l, F q.1 = some (.tup [q.2.1, q.2.2])) → RL K F (l.map (·.2.1)) xs → RL K F (l.map (·.2.2)) ys →
    RL K F (l.map fun q => V.ref q.1) (xs.zip ys)
  | [], _, _, _, _, h1, h2 => by
    have e1 := RL.len h1
    have e3 : ∀ {γ : Type} (z : List γ), ([] : List V).length = z.length → z = [] := fun z h => List.eq_nil_of_length_eq_zero h.symm
    rw [e3 _ e1]
    exact RpA.nil
  | q :: l, [], _, _, _, h1, _ => by cases h1
  | q :: l, _ :: _, [], _, _, _, h2 => by cases h2
  | q :: l, x :: xs, y :: ys, hn, hF, h1, h2 => by
    cases h1 with
    | cons r1 h1 =>
      cases h2 with
      | cons r2 h2 =>
        have hd := List.nodup_cons.mp (show (q.1 :: l.map (·.1)).Nodup from hn)
        exact RL.cons (R.mk2 (hF q (List.mem_cons_self ..)) r1 r2) (tupsU_RL hd.2 (fun z hz => hF z (List.mem_cons_of_mem _ hz)) h1 h2)
theorem HOk.track {P : Program} {w : World} {H : Hp} {h : Heap} {a : Addr} {o : HO} (x : HOk P w H h) (hn : H a = none) (new : ObjOk P w (upd H a o) h a o) : HOk P w (upd H a o) h := fun b u e => by
  by_cases hb : b = a
  · subst hb; rw [upd_same] at e; cases e; exact new
  · rw [upd_ne hb] at e
    exact (x b u e).stay (fun c v _ q => q) (fun c q => by rw [upd_ne (ne_of_none q hn)]; exact q) fun c zs q => by rw [upd_ne (ne_of_none q hn)]; exact q
theorem HOk.tracks {P : Program} {w : World} {h : Heap} : ∀ {l : List (Addr × V × V)} {H : Hp}, HOk P w H h → NewP H l → (∀ q ∈ l, ∃ x y, IsPair h q.1 x y ∧ RelV q.2.1 x ∧ RelV q.2.2 y) → HOk P w (tupsU H l) h
  | [], _, x, _, _ => x
  | q :: l, H, x, n, hp => by
    obtain ⟨a, b, p, r1, r2⟩ := hp q (List.mem_cons_self ..)
    refine HOk.tracks (l := l) (H := upd H q.1 (.tup [q.2.1, q.2.2])) (HOk.track x (n.none q (List.mem_cons_self ..)) ⟨by show 2 ≤ sizeLine; decide, [a, b], .cons r1 (.cons r2 .nil), ⟨_, p, rfl, _, rfl⟩⟩) n.tail fun z hz => hp z (List.mem_cons_of_mem _ hz)
theorem vals_refs : ∀ Ts : List Addr, Vals (Ts.map V.ref) (Ts.map Value.ref)
  | [] => .nil
  | _ :: Ts => .cons rfl (vals_refs Ts)
section
variable {X : Cx}
/-- list(zip(xs, ys)) of two lists -/
def tLZip (K : PySem.W.Frag) (ta : TA) : TE := fun σ H Q => ta σ H fun vs H1 => ∃ (a b : Addr) (xs ys : List V), vs = [.ref a, .ref b] ∧ SqL K H1 a xs ∧ SqL K H1 b ys ∧
  ∀ (l : List (Addr × V × V)) (p : Addr), NewP H1 l → l.map (·.2.1) = xs.take (min xs.length ys.length) → l.map (·.2.2) = ys.take (min xs.length ys.length) → tupsU H1 l p = none → Q (.ref p) (upd (tupsU H1 l) p (.lst (l.map fun q => V.ref q.1)))
theorem pe_lzip {e e2 : Expr} {ta : TA} {p p2 q pos : Pos} (hc : X.calm = true) (hg : Gl X "list") (hm : X.mg "list" = none) (hg2 : Gl X "zip") (hm2 : X.mg "zip" = none) (ha : PA X [e, e2] ta)
    (hs : starEach [e, e2] X.env = (false, eval e X.env) :: starEach [e2] X.env := by rfl) (hpl : (backTo q (starEach [e2] X.env)).any (·.1) = false := by rfl) :
    PE X (.Call (.Name "list" p) [.Call (.Name "zip" p2) [e, e2] [] q] [] pos) (tLZip X.K ta) := by
  refine ⟨fun pins s σ H Q I h => ?_⟩
  refine Call_ (ld_blt I hg hm (u := .type "list") (by decide +kernel) ?_)
  refine PyProof.Rows.callWith_type1 (PyProof.Rows.args_cons ?_ rfl) rfl rfl
  refine Call_ (ld_blt I hg2 hm2 PyProof.Rows.boot_zip (PyProof.Rows.callWith_type1 (thn (ha.run q pins s σ H _ I h) fun us s1 ⟨vs, H1, I1, r1, q1⟩ => ?_) hs hpl))
  obtain ⟨a, b, xs, ys, ex, hqx, hqy, q1⟩ := q1
  subst ex
  obtain ⟨u1, u2, rfl, ra, rb⟩ := vals2 r1
  cases (show u1 = Value.ref a from ra)
  cases (show u2 = Value.ref b from rb)
  obtain ⟨its, rv, p1, hz1⟩ := I1.list hqx
  obtain ⟨its2, rv2, pq2, hz2⟩ := I1.list hqy
  have la : a < s1.heap.objs.size := p1.lt
  have lb : b < s1.heap.objs.size := pq2.lt
  refine call_zip_2 p1.isList pq2.isList fun h' hz hTI hTO h1 h2 hsz hk => ?_
  refine PyProof.Rows.args_nil ?_
  have hmin : min its.toArray.size its2.toArray.size = min xs.length ys.length := by simp [← rv.length, ← rv2.length]
  refine list_zip (s := { s1 with heap := h' }) (I1.ok.hd hc) (PySem.W.ktu_apart s1.heap.objs.size a b la lb) ?_ (by rw [hmin]; exact Nat.le_trans (Nat.min_le_left _ _) hz1) hz hTI hTO h1 h2 (p1.isList.at fun o e => hk a o e) (pq2.isList.at fun o e => hk b o e) fun s' Ts c g1 g2 g3 g4 g5 g6 g7 g8 => ?_
  · show _ < h'.objs.size ∧ _ < h'.objs.size ∧ _ < h'.objs.size ∧ _ < h'.objs.size ∧ _ < h'.objs.size ∧ a < h'.objs.size ∧ b < h'.objs.size
    rw [hsz]
    have la' : (a : Nat) < s1.heap.objs.size := la
    have lb' : (b : Nat) < s1.heap.objs.size := lb
    refine ⟨?_, ?_, ?_, ?_, ?_, ?_, ?_⟩ <;> (first | exact Nat.lt_succ_self _ | exact Nat.add_lt_add_left (by decide) _ | exact Nat.lt_of_lt_of_le la (Nat.le_add_right _ _) | exact Nat.lt_of_lt_of_le lb (Nat.le_add_right _ _) | exact Nat.lt_add_of_pos_right (by decide))
  · have hsz' : h'.objs.size = s1.heap.objs.size + 5 := hsz
    have kept : ∀ b o, s1.heap.get? b = some o → s'.heap.get? b = some o := fun b o e => by
      have hb := Heap.lt_size e
      exact g8 b o (Nat.ne_of_lt (Nat.lt_of_lt_of_le hb (Nat.le_add_right _ _))) (Nat.ne_of_lt (Nat.lt_of_lt_of_le hb (Nat.le_add_right _ _))) (Nat.ne_of_lt hb) (Nat.ne_of_lt (Nat.lt_of_lt_of_le hb (Nat.le_add_right _ _))) (hk b o e)
    generalize hn : min xs.length ys.length = n at hmin
    have hl1 : (xs.take n).length = n := by rw [List.length_take]; omega
    have hl2 : (ys.take n).length = n := by rw [List.length_take]; omega
    have hT : Ts.length = n := g6.trans hmin
    have hz2' : ((xs.take n).zip (ys.take n)).length = n := by rw [List.length_zip, hl1, hl2, Nat.min_self]
    obtain ⟨l, hl⟩ : ∃ l, l = Ts.zip ((xs.take n).zip (ys.take n)) := ⟨_, rfl⟩
    have m1 : l.map (·.1) = Ts := by rw [hl]; exact List.map_fst_zip (by rw [hT, hz2']; exact Nat.le_refl _)
    have m2 : l.map (·.2) = (xs.take n).zip (ys.take n) := by rw [hl]; exact List.map_snd_zip (by rw [hT, hz2']; exact Nat.le_refl _)
    have m3 : l.map (·.2.1) = xs.take n := by
      have : (l.map (·.2)).map (·.1) = xs.take n := by rw [m2]; exact List.map_fst_zip (by rw [hl1, hl2]; exact Nat.le_refl _)
      rwa [List.map_map] at this
    have m4 : l.map (·.2.2) = ys.take n := by
      have : (l.map (·.2)).map (·.2) = ys.take n := by rw [m2]; exact List.map_snd_zip (by rw [hl1, hl2]; exact Nat.le_refl _)
      rwa [List.map_map] at this
    have m5 : (l.map fun q => V.ref q.1) = Ts.map V.ref := by rw [← m1, List.map_map]; rfl
    have hTlo : ∀ T ∈ Ts, s1.heap.objs.size + 6 ≤ T := fun T hm => by
      have := g4 T hm
      have e : h'.objs.size + 1 = s1.heap.objs.size + 6 := by rw [hsz']
      rw [← e]
      exact this
    have newp : NewP H1 l := ⟨fun q hq => I1.hok.fresh (Nat.le_trans (Nat.le_add_right _ 6) (hTlo q.1 (by rw [← m1]; exact List.mem_map.mpr ⟨q, hq, rfl⟩))), by rw [m1]; exact g5⟩
    have hp0 : ∀ q ∈ l, q.1 ≠ h'.objs.size := fun q hq e => by
      have := g4 q.1 (by rw [← m1]; exact List.mem_map.mpr ⟨q, hq, rfl⟩)
      rw [e] at this
      exact absurd this (Nat.not_succ_le_self _)
    have hpn : tupsU H1 l h'.objs.size = none := by
      rw [tupsU_at hp0]
      exact I1.hok.fresh (by rw [hsz']; exact Nat.le_add_right _ _)
    have prs : ∀ q ∈ l, ∃ x y, IsPair s'.heap q.1 x y ∧ RelV q.2.1 x ∧ RelV q.2.2 y := fun q hq => by
      obtain ⟨j, hj⟩ := List.getElem?_of_mem hq
      have j1 : Ts[j]? = some q.1 := by rw [← m1, List.getElem?_map, hj]; rfl
      have j2 : (xs.take n)[j]? = some q.2.1 := by rw [← m3, List.getElem?_map, hj]; rfl
      have j3 : (ys.take n)[j]? = some q.2.2 := by rw [← m4, List.getElem?_map, hj]; rfl
      obtain ⟨x, y, e1, e2, pr⟩ := g3 j q.1 j1
      have k2 : xs[j]? = some q.2.1 := by
        have := List.getElem?_take_of_lt (l := xs) (show j < n by rw [← hT]; exact (List.getElem?_eq_some_iff.mp j1).1)
        rw [← this]
        exact j2
      have k3 : ys[j]? = some q.2.2 := by
        have := List.getElem?_take_of_lt (l := ys) (show j < n by rw [← hT]; exact (List.getElem?_eq_some_iff.mp j1).1)
        rw [← this]
        exact j3
      obtain ⟨w1, f1, r1⟩ := rv.get k2
      obtain ⟨w2, f2, r2⟩ := rv2.get k3
      have x1 : w1 = x := by
        have : its[j]? = some x := by simpa using e1
        rw [f1] at this
        exact Option.some.inj this
      have x2 : w2 = y := by
        have : its2[j]? = some y := by simpa using e2
        rw [f2] at this
        exact Option.some.inj this
      exact ⟨x, y, pr, x1 ▸ r1, x2 ▸ r2⟩
    have old : ∀ b, b < s1.heap.objs.size → upd (tupsU H1 l) h'.objs.size (.lst (l.map fun q => V.ref q.1)) b = H1 b := fun b hb => by
      rw [upd_ne (Nat.ne_of_lt (Nat.lt_of_lt_of_le hb (by rw [hsz']; exact Nat.le_add_right _ _)))]
      refine tupsU_at fun q hq e => ?_
      have := hTlo q.1 (by rw [← m1]; exact List.mem_map.mpr ⟨q, hq, rfl⟩)
      rw [e] at this
      exact absurd (Nat.lt_of_lt_of_le hb (Nat.le_trans (Nat.le_add_right _ 6) this)) (Nat.lt_irrefl _)
    have oldS : ∀ {b : Addr} {o : HO}, H1 b = some o → upd (tupsU H1 l) h'.objs.size (.lst (l.map fun q => V.ref q.1)) b = some o := fun e => by rw [old _ (I1.hok.lt e)]; exact e
    have hok : HOk X.prog X.w (upd (tupsU H1 l) h'.objs.size (.lst (l.map fun q => V.ref q.1))) s'.heap :=
      HOk.track (HOk.tracks (I1.hok.kept kept) newp prs) hpn ⟨by rw [m5, List.length_map, hT, ← hn]; exact Nat.le_trans (Nat.min_le_left _ _) hz1, Ts.map Value.ref, c, by rw [m5]; exact vals_refs Ts, g7⟩
    have un : Un (frs X.stack) [] H1 (upd (tupsU H1 l) h'.objs.size (.lst (l.map fun q => V.ref q.1))) s1.heap s'.heap :=
      ⟨fun b o e _ _ _ => kept b o e, fun b o e _ _ _ => ⟨o.slots, kept b o e⟩, fun b o e n _ => by rw [old b (Heap.lt_size e)]; exact n, fun b o e _ => ⟨o, kept b o e⟩, fun b zs e => oldS e, fun b o u e => oldS e, fun b ps e => ⟨#[], by rw [oldS e]; simp⟩⟩
    have J : Inv X pins σ (upd (tupsU H1 l) h'.objs.size (.lst (l.map fun q => V.ref q.1))) s' := Inv.call' (ch := []) I1 g2 un hok (by rw [g1]; exact I1.bare) (fun _ z => nomatch z)
    exact ⟨.ref h'.objs.size, _, J, rfl, q1 l h'.objs.size newp (by rw [m3, hn]) (by rw [m4, hn]) hpn⟩
end
end G
/-! My base, part 17: xs.extend(a tuple). -/
namespace G
open PySem PySem.Spec PyProof.Rows L2 TL
theorem ext_tup (l : Addr) (xs : Array Value) (n : Nat) (b : Addr) (ys : Array Value) (n2 : Nat) (dd : Option Addr) (sl : Array (Option Value)) (h0 : ¬(!xs.isEmpty && Builtin.List.listTooLong (xs.size + ys.size)) = true) (h1 : xs.size ≤ sizeLine) (h2 : xs.size + ys.size ≤ sizeLine + 1) :
    Meets (Builtin.«list.extend» ⟨[.ref l, .ref b], []⟩) (fun _ R s => s.heap.get? l = some { cls := .type "list", dict := none, data := .seq xs n, slots := #[] } ∧ s.heap.get? b = some { cls := .type "tuple", dict := dd, data := .seq ys n2, slots := sl } ∧ R (.ok (.ret Value.none)) { s with heap := s.heap.update l (Obj.mapSeq fun x => x ++ ys), toks := s.toks }) :=
  .of_wp fun prog w A R s h => by
    obtain ⟨hp, g, d, tk, os⟩ := s; obtain ⟨hl, hb, h⟩ := h; have q1 := AutoSeq1.idx_int; have q2 := AutoSeq1.sub_tuple_tuple; have q3 := AutoSeq1.sub_list_list; have q4 := AutoSeq1.sub_tuple_list; have q5 := AutoSeq1.sub_list_tuple
    have hz : (xs ++ ys).size ≤ sizeLine + 1 := by rw [Array.size_append]; exact h2
    wp_walk using (wpAny_updateSeq hl rfl (hz := h1) (_hz' := hz)), AutoSeq1.wpAny_loadPart' hl, AutoSeq1.wpAny_loadPart' hb; exact ⟨_, rfl, h⟩
section
variable {X : Cx}
def rExtT (K : PySem.W.Frag) : V → List V → Hp → VK → Prop := fun x vs H Q => ∃ l b xs zs, x = .ref l ∧ vs = [.ref b] ∧ H l = some (.lst xs) ∧ SqT K H b zs ∧ xs.length + zs.length ≤ sizeLine ∧ Q .non (upd H l (.lst (xs ++ zs)))
theorem mt_extT : MtM X "list.extend" (rExtT X.K) := by
  intro pins s σ H x vs v us Q I rx rv h
  obtain ⟨l, b, xs, zs, rfl, rfl, hH, hB, hz, q⟩ := h
  cases rx
  obtain ⟨u, rfl, ru⟩ := rv.one
  cases ru
  obtain ⟨z, its, n, r, hl, e⟩ := I.lstM hH
  obtain ⟨its2, r2, ⟨⟨oc, od, dt, sl⟩, ho, hc, n2, hd⟩, hz2⟩ := I.tuple hB
  simp only at hc hd
  subst hc; subst hd
  have hl2 := r2.length
  have hsz : its.toArray.size + its2.toArray.size ≤ sizeLine := by rw [List.size_toArray, List.size_toArray]; omega
  have hlong : ¬ (!its.toArray.isEmpty && Builtin.List.listTooLong (its.toArray.size + its2.toArray.size)) = true := by rw [notLongL hsz, Bool.and_false]; exact Bool.false_ne_true
  refine call_meets F.slot_list_extend ⟨_, e, rfl⟩ F.entry_list_extend (F.args_list_extend_2 _ _) (ext_tup l its.toArray n b its2.toArray n2 od sl hlong (by rw [List.size_toArray]; omega) (by omega)) ⟨e, ho, ?_⟩
  exact ⟨.non, _, I.lset (its' := its ++ its2) hH e (by simp) (r.append r2) (by rw [List.length_append]; omega), rfl, q⟩
end
end G
/-! My base, part 18: what list(zip(..)) stands for; extend. -/
namespace G
open PySem PySem.Spec PyProof.Rows L2 TL
theorem zip_tk {α β : Type} : ∀ (xs : List α) (ys : List β) (n : Nat), n = min xs.length ys.length → (xs.take n).zip (ys.take n) = xs.zip ys
  | [], ys, n, h => by simp
  | x :: xs, [], n, h => by simp
  | x :: xs, y :: ys, n, h => by
    have e : n = min xs.length ys.length + 1 := by rw [h, List.length_cons, List.length_cons]; omega
    subst e
    rw [List.take_succ_cons, List.take_succ_cons, List.zip_cons_cons, List.zip_cons_cons, zip_tk xs ys _ rfl]
section
variable {α β : Type} [Enc α] [Enc β] {K : PySem.W.Frag} {F H : Hp} {l : List (Addr × V × V)} {ws ws2 : List V} {xs : List α} {ys : List β}
theorem RL.tk (n : Nat) (h : RL K F ws xs) : RL K F (ws.take n) (xs.take n) := by
  show RpA K F _ _
  rw [List.map_take]
  exact RpA.take n h
theorem lz_RL (nw : NewP H l) (sm : Same F (tupsU F l)) (e1 : l.map (·.2.1) = ws.take (min ws.length ws2.length)) (e2 : l.map (·.2.2) = ws2.take (min ws.length ws2.length)) (h1 : RL K F ws xs) (h2 : RL K F ws2 ys) :
    RL K (tupsU F l) (l.map fun q => V.ref q.1) (List.zip xs ys) := by
  rw [← zip_tk xs ys (min ws.length ws2.length) (by rw [h1.len, h2.len])]
  refine tupsU_RL nw.nd (fun q hq => tupsU_in nw.nd hq) ?_ ?_
  · rw [e1]
    exact RpA.up (RL.tk _ h1) sm
  · rw [e2]
    exact RpA.up (RL.tk _ h2) sm
theorem lz_len (e1 : l.map (·.2.1) = ws.take (min ws.length ws2.length)) (hl : ws.length ≤ sizeLine) : (l.map fun q => V.ref q.1).length ≤ sizeLine := by
  have h := congrArg List.length e1
  rw [List.length_map, List.length_take] at h
  rw [List.length_map, h]
  exact Nat.le_trans (Nat.min_le_right _ _) hl
end
def extL {α : Type} (xs ys : List α) : Option (List α) := conL xs ys
end G
/-! My base, part 19: rules that name K. -/
namespace G
open PySem PySem.Spec PyProof.Rows L2 TL
theorem RL.re {α : Type} [Enc α] {K : PySem.W.Frag} {F : Hp} {ws : List V} {x y : List α} (h : x = y) (r : RL K F ws x) : RL K F ws y := h ▸ r
section
variable {X : Cx} {K : PySem.W.Frag}
theorem ix_listK (h : X.K = K := by rfl) : IxR X (rIxL K) := h ▸ ix_list
theorem ix_tupK (h : X.K = K := by rfl) : IxR X (rIxT K) := h ▸ ix_tup
theorem sl_listK (h : X.K = K := by rfl) : SlR X (rSlL K) := h ▸ sl_list
theorem call_lenLK (h : X.K = K := by rfl) : CallR X (.builtin "len") (fun xs H Q => ∃ p ys n, xs = [.ref p] ∧ (SqL K H p ys ∨ SqT K H p ys) ∧ ys.length = n ∧ Q (.int (n : Nat)) H) := by subst h; exact call_lenL
theorem call_isi_ (h : X.K = K := by rfl) : CallR X (.builtin "isinstance") (rIsi K) := by subst h; exact call_isi
theorem call_list_of_ (h : X.K = K := by rfl) : CallR X (.type "list") (fun xs H Q => ∃ p ys, xs = [.ref p] ∧ (SqL K H p ys ∨ SqT K H p ys) ∧ ∀ l, H l = none → Q (.ref l) (upd H l (.lst ys))) := by subst h; exact call_list_of
theorem cr_all_ (hc : X.calm = true) (h : X.K = K := by rfl) : CallR X (.builtin "all") (rAll K) := by subst h; exact cr_all hc
theorem cr_any_ (hc : X.calm = true) (h : X.K = K := by rfl) : CallR X (.builtin "any") (rAny K) := by subst h; exact cr_any hc
theorem cr_sortedI_ (h : X.K = K := by rfl) : CallR X (.builtin "sorted") (rSortedI K) := by subst h; exact cr_sortedI
theorem op_catLK (h : X.K = K := by rfl) : OpR X (binaryOp .Add) (rCatL K) := by subst h; exact op_catL
theorem op_eqDK (hu : X.A.units + 64 < cLine) (h : X.K = K := by rfl) : OpR X (compareOp .Eq) (rEqD K) := by subst h; exact op_eqD hu
theorem op_neDK (hu : X.A.units + 64 < cLine) (h : X.K = K := by rfl) : OpR X (compareOp .NotEq) (rNeD K) := by subst h; exact op_neD hu
theorem pi_listK {tg l : Expr} {tl : TE} (hl : PE X l tl) (h : X.K = K := by rfl) : PI X tg l (iList K tl) := by subst h; exact pi_list hl
theorem pi_tupK {tg l : Expr} {tl : TE} (hl : PE X l tl) (h : X.K = K := by rfl) : PI X tg l (iTup K tl) := by subst h; exact pi_tup hl
theorem pg_tupK {es : List Expr} {k : Nat} {pos : Pos} {t : TGs} (n : Nat) (hc : X.calm = true) (ht : PGs X es t) (h : X.K = K := by rfl)
    (hn : (assignEach es X.env).length = n := by rfl) (hst : (assignEach es X.env).findIdx? (·.1) = none := by rfl) : PG X (.Tuple es k pos) (gTup K n t) := by subst h; exact pg_tup hc ht hn hst
theorem pe_bmK {o e : Expr} {es : List Expr} {to : TE} {t : TA} {name : Str} {apos cpos : Pos} {T id : String} {r : V → List V → Hp → VK → Prop} (pa : PlainAttrs T) (slot : Slot T name id) (hty : typeOf (.builtin id) = pure (.type "method_descriptor")) (hm : MtR X id r) (ho : PE X o to) (ha : PA X (e :: es) t) (h : X.K = K := by rfl)
    (hbase : attributeBase o name X.env (eval o X.env) = eval o X.env := by rfl)
    (hfew : ((backTo cpos (starEach (e :: es) X.env)).all (fun x => !x.1) && (backToKw cpos (keywordEach [] X.env)).all (fun x => x.1.isSome) && decide ((e :: es).length + ([] : List Keyword).length + (if ([] : List Keyword).isEmpty then 0 else 1) < 30)) = true := by rfl)
    (hline : (apos.endLine == cpos.line) = true := by rfl) (hs : starEach (e :: es) X.env = (false, eval e X.env) :: starEach es X.env := by rfl) (hplain : (backTo cpos (starEach es X.env)).any (·.1) = false := by rfl) :
    PE X (.Call (.Attribute o name apos) (e :: es) [] cpos) (tBM K T r to t) := by subst h; exact pe_bm pa slot hty hm ho ha hbase hfew hline hs hplain
theorem pe_bm0K {o : Expr} {to : TE} {name : Str} {apos cpos : Pos} {T id : String} {r : V → List V → Hp → VK → Prop} (pa : PlainAttrs T) (slot : Slot T name id) (hty : typeOf (.builtin id) = pure (.type "method_descriptor")) (hm : MtR X id r) (ho : PE X o to) (h : X.K = K := by rfl)
    (hbase : attributeBase o name X.env (eval o X.env) = eval o X.env := by rfl) (hline : (apos.endLine == cpos.line) = true := by rfl) : PE X (.Call (.Attribute o name apos) [] [] cpos) (tBM0 K T r to) := by subst h; exact pe_bm0 pa slot hty hm ho hbase hline
def rJoin (K : PySem.W.Frag) : V → List V → Hp → VK → Prop := fun x xs H Q => ∃ a p, ∃ ys : List Str, x = .str a ∧ xs = [.ref p] ∧ (SqL K H p (ys.map V.str) ∨ SqT K H p (ys.map V.str)) ∧
  (ys.map (·.length)).sum + ys.length * a.length ≤ 16777216 ∧ Q (.str (Txt.join a ys)) H
theorem pe_joinK {o e : Expr} {to te : TE} {apos pos : Pos} (ho : PE X o to) (he : PE X e te) (h : X.K = K := by rfl) (hs : starEach [e] X.env = [(false, eval e X.env)] := by rfl) (hbase : attributeBase o "join" X.env (eval o X.env) = eval o X.env := by rfl) (hline : (apos.endLine == pos.line) = true := by rfl) :
    PE X (.Call (.Attribute o "join" apos) [e] [] pos) (tM1 (rJoin K) to te) := by subst h; exact pe_join ho he hs hbase hline
theorem pe_revLK {e : Expr} {te : TE} {k : Nat} {p1 p2 p3 pos : Pos} (he : PE X e te) (h : X.K = K := by rfl) : PE X (.Subscript e (.Slice none none (some (.UnaryOp .USub (.Constant (.int 1) k p1) p2)) p3) pos) (tRevL K te) := by subst h; exact pe_revL he
theorem pe_ssetK {a : Expr} {ta : TE} {p p2 q pos : Pos} (hc : X.calm = true) (hg : Gl X "sorted") (hm : X.mg "sorted" = none) (hg2 : Gl X "set") (hm2 : X.mg "set" = none) (ha : PE X a ta) (h : X.K = K := by rfl)
    (na : starEach [a] X.env = (false, eval a X.env) :: starEach [] X.env := by rfl) : PE X (.Call (.Name "sorted" p) [.Call (.Name "set" p2) [a] [] q] [] pos) (tSSet K ta) := by subst h; exact pe_sset hc hg hm hg2 hm2 ha na
theorem pe_lzipK {e e2 : Expr} {ta : TA} {p p2 q pos : Pos} (hc : X.calm = true) (hg : Gl X "list") (hm : X.mg "list" = none) (hg2 : Gl X "zip") (hm2 : X.mg "zip" = none) (ha : PA X [e, e2] ta) (h : X.K = K := by rfl)
    (hs : starEach [e, e2] X.env = (false, eval e X.env) :: starEach [e2] X.env := by rfl) (hpl : (backTo q (starEach [e2] X.env)).any (·.1) = false := by rfl) :
    PE X (.Call (.Name "list" p) [.Call (.Name "zip" p2) [e, e2] [] q] [] pos) (tLZip K ta) := by subst h; exact pe_lzip hc hg hm hg2 hm2 ha hs hpl
theorem mt_extTK (h : X.K = K := by rfl) : MtM X "list.extend" (rExtT K) := by subst h; exact mt_extT
end
end G
/-! sorted(texts), any number; sorted(pairs of ints), any number. -/
namespace G
open PySem PySem.Spec PyProof.Rows L2 TL
def leT (a b : Str) : Bool := decide (tl a ≤ tl b)
def sortT (xs : List Str) : List Str := xs.mergeSort leT
theorem leT_trans (a b c : Str) (h1 : leT a b = true) (h2 : leT b c = true) : leT a c = true := decide_eq_true (List.le_trans (of_decide_eq_true h1) (of_decide_eq_true h2))
theorem leT_total (a b : Str) : (leT a b || leT b a) = true := by
  unfold leT
  rcases List.le_total (tl a) (tl b) with h | h
  · rw [decide_eq_true h]; rfl
  · rw [decide_eq_true h, Bool.or_true]
theorem sortT_perm (xs : List Str) : (sortT xs).Perm xs := List.mergeSort_perm _ _
theorem sortT_sorted (xs : List Str) : (sortT xs).Pairwise fun a b => leT a b = true := List.pairwise_mergeSort leT_trans leT_total xs
theorem sortT_len (xs : List Str) : (sortT xs).length = xs.length := (sortT_perm xs).length_eq
theorem tl_eq {x y : Str} (h : tl x = tl y) : x = y := by
  cases x; cases y
  simp only [tl] at h
  congr
  exact Array.toList_inj.mp h
theorem rising_pw : ∀ (r : List Str) (p : Str), risingS p r = true → (p :: r).Pairwise fun a b => leT a b = true
  | [], p, _ => List.pairwise_singleton _ _
  | x :: r, p, h => by
    have h' : (!ltCps x.cps.toList p.cps.toList && risingS x r) = true := h
    rw [Bool.and_eq_true, ltCps_eq, Bool.not_eq_true', decide_eq_false_iff_not] at h'
    have ih := rising_pw r x h'.2
    have hx : leT p x = true := decide_eq_true h'.1
    refine List.pairwise_cons.mpr ⟨fun z hz => ?_, ih⟩
    rcases List.mem_cons.mp hz with rfl | hz
    · exact hx
    · exact leT_trans _ _ _ hx ((List.pairwise_cons.mp ih).1 z hz)
theorem sortedS_pw : ∀ l : List Str, sortedS l = true → l.Pairwise fun a b => leT a b = true
  | [], _ => List.Pairwise.nil
  | x :: r, h => rising_pw r x h
theorem sortT_uniq {xs ys : List Str} (h : ys.Perm xs) (h2 : sortedS ys = true) : sortT xs = ys :=
  ((sortT_perm xs).trans h.symm).eq_of_pairwise (le := fun a b => leT a b = true) (fun a b _ _ h3 h4 => tl_eq (List.le_antisymm (of_decide_eq_true h3) (of_decide_eq_true h4))) (sortT_sorted xs) (sortedS_pw ys h2)
def rSortedSA (K : PySem.W.Frag) : List V → Hp → VK → Prop := fun vs H Q => ∃ (a : Addr) (xs : List Str), vs = [V.ref a] ∧ SqL K H a (xs.map V.str) ∧
  ∀ (p : Addr), H p = none → Q (.ref p) (upd H p (.lst ((sortT xs).map V.str)))
section
variable {X : Cx} {K : PySem.W.Frag}
theorem cr_sortedSA : CallR X (.builtin "sorted") (rSortedSA X.K) := by
  intro pins s σ H vs us Q I r h
  obtain ⟨a, xs, rfl, hs, q⟩ := h
  obtain ⟨its, rv, hl, hz⟩ := I.list hs
  rw [Vals.ref1 r]
  have hlen0 := rv.length
  refine PyProof.Rows.sorted_strsAny hl.isList rv.strs (by rw [← hlen0]; exact hz) fun out ys h1 h2 h3 => ?_
  obtain rfl := sortT_uniq h2 h3
  obtain ⟨ep, he'⟩ := PyProof.Rows.sortedAll_at s.heap its out
  have hlen : ((sortT xs).map V.str).length ≤ sizeLine := by rw [List.length_map, sortT_len]; rw [List.length_map] at hz; exact hz
  exact ⟨.ref _, upd H (s.heap.objs.size + 1) (.lst ((sortT xs).map V.str)), I.laid (t' := s.toks) (fun _ _ => PyProof.Rows.sortedAll_old) (Nat.le_succ _) ⟨hlen, out.toList, ep, vals_of_strs h1, he'⟩, rfl, q _ (I.hok.fresh (Nat.le_succ _))⟩
theorem cr_sortedSA_ (h : X.K = K := by rfl) : CallR X (.builtin "sorted") (rSortedSA K) := by subst h; exact cr_sortedSA
end
/-! ### pairs -/
def leP (p q : Int × Int) : Bool := decide (p.1 < q.1 ∨ (p.1 = q.1 ∧ p.2 ≤ q.2))
def sortP (xs : List (Int × Int)) : List (Int × Int) := xs.mergeSort leP
theorem leP_trans (a b c : Int × Int) (h1 : leP a b = true) (h2 : leP b c = true) : leP a c = true := by
  have h1 := of_decide_eq_true h1
  have h2 := of_decide_eq_true h2
  exact decide_eq_true (by omega)
theorem leP_total (a b : Int × Int) : (leP a b || leP b a) = true := by
  unfold leP
  by_cases h : a.1 < b.1 ∨ (a.1 = b.1 ∧ a.2 ≤ b.2)
  · rw [decide_eq_true h]; rfl
  · rw [decide_eq_true (p := b.1 < a.1 ∨ (b.1 = a.1 ∧ b.2 ≤ a.2)) (by omega), Bool.or_true]
theorem sortP_perm (xs : List (Int × Int)) : (sortP xs).Perm xs := List.mergeSort_perm _ _
theorem sortP_sorted (xs : List (Int × Int)) : (sortP xs).Pairwise fun a b => leP a b = true := List.pairwise_mergeSort leP_trans leP_total xs
theorem sortP_len (xs : List (Int × Int)) : (sortP xs).length = xs.length := (sortP_perm xs).length_eq
theorem sortP_uniq {xs ys : List (Int × Int)} (h : ys.Perm xs) (h2 : ys.Pairwise fun a b => leP a b = true) : sortP xs = ys :=
  ((sortP_perm xs).trans h.symm).eq_of_pairwise (le := fun a b => leP a b = true) (fun a b _ _ h3 h4 => by
    have h3 := of_decide_eq_true h3
    have h4 := of_decide_eq_true h4
    exact Prod.ext (by omega) (by omega)) (sortP_sorted xs) h2
open Classical in
noncomputable def keyV (K : PySem.W.Frag) (H : Hp) (v : V) : Int × Int := if h : ∃ x : Int × Int, R K H v x then h.choose else (0, 0)
theorem keyV_spec {K : PySem.W.Frag} {H : Hp} {v : V} {x : Int × Int} (h : R K H v x) : R K H v (keyV K H v) := by
  unfold keyV
  rw [dif_pos ⟨x, h⟩]
  exact Exists.choose_spec (⟨x, h⟩ : ∃ x : Int × Int, R K H v x)
def rSortedPK (K : PySem.W.Frag) : List V → Hp → VK → Prop := fun vs H Q => ∃ (a : Addr) (xs : List V) (ds : List (Int × Int)), vs = [V.ref a] ∧ SqL K H a xs ∧ RL K H xs ds ∧
  ∀ (ys : List V) (p : Addr), ys.length = xs.length → (∀ F, RL K F xs ds → RL K F ys (sortP ds)) → H p = none → Q (.ref p) (upd H p (.lst ys))
section
variable {X : Cx} {K : PySem.W.Frag}
theorem cr_sortedPK : CallR X (.builtin "sorted") (rSortedPK X.K) := by
  intro pins s σ H vs us Q I r h
  obtain ⟨a, xs, ds, rfl, hs, hA, q⟩ := h
  have hkey : ∀ i v x, xs[i]? = some v → ds[i]? = some x → keyV X.K H v = x ∧ ∃ t, v = .ref t ∧ SqT X.K H t [.int x.1, .int x.2] := fun i v x hv hx => by
    obtain ⟨x', hx', r⟩ := RL.get hA hv
    rw [hx] at hx'
    cases hx'
    have r2 := keyV_spec r
    obtain ⟨p, v1, v2, e, h1, r3, r4⟩ := R.p2_v r
    obtain ⟨p', w1, w2, e', h2, r5, r6⟩ := R.p2_v r2
    subst e
    cases e'
    obtain rfl := R.int_v r3
    obtain rfl := R.int_v r4
    obtain rfl := R.int_v r5
    obtain rfl := R.int_v r6
    have := I.tuple_inj h1 h2
    simp only [List.cons.injEq, V.int.injEq, and_true] at this
    exact ⟨Prod.ext this.1.symm this.2.symm, p, rfl, h1⟩
  have hlen : xs.length = ds.length := RL.len hA
  have hmem : ∀ v ∈ xs, ∃ t, v = .ref t ∧ SqT X.K H t [.int (keyV X.K H v).1, .int (keyV X.K H v).2] := fun v hv => by
    obtain ⟨i, hi, rfl⟩ := List.getElem_of_mem hv
    obtain ⟨k1, k2⟩ := hkey i xs[i] (ds[i]'(by omega)) (List.getElem?_eq_getElem hi) (List.getElem?_eq_getElem (by omega))
    rw [k1]
    exact k2
  obtain ⟨its, rv, hl, hz⟩ := I.list hs
  obtain ⟨u, rfl, ru⟩ := vals1 r
  obtain rfl : u = Value.ref a := ru
  obtain ⟨e1, e2⟩ := refs_back rv fun x m => by
    obtain ⟨t, e, _⟩ := hmem x m
    exact ⟨t, e⟩
  refine SrtO.sorted_pairsO (k := fun u => keyV X.K H (backV u)) hl.isList (by rw [← rv.length]; exact hz) (fun v hv => ?_) fun h' d out h1 h2 kp hd hn => ?_
  · obtain ⟨t, rfl⟩ := e2 v hv
    have hm : V.ref t ∈ xs := by rw [e1]; exact List.mem_map.mpr ⟨_, hv, rfl⟩
    obtain ⟨t', e, ht⟩ := hmem _ hm
    cases e
    obtain ⟨its2, r2, ⟨o, ho, hc, n, hd⟩, _⟩ := I.tuple ht
    obtain ⟨u1, u2, rfl, ri, rj⟩ := vals2 r2
    obtain ⟨t1, rfl⟩ := ri
    obtain ⟨t2, rfl⟩ := rj
    exact ⟨t, o, t1, t2, n, rfl, ho, hc, hd⟩
  · have h3 : ∀ u ∈ out, ∃ a, u = Value.ref a := fun u hu => e2 u (h2.perm.mem_iff.mp hu)
    obtain ⟨n, hn⟩ := hn
    have hb : SrtO.Stb (ltP (keyV X.K H)) (out.map backV) xs := by
      rw [e1]
      exact SrtO.Stb.map (ltP_swo (keyV X.K H)) backV h2
    have hsr : SrtO.Srtd (ltP (keyV X.K H)) (out.map backV) := SrtO.srtd_map h1
    have hds : xs.map (keyV X.K H) = ds := List.ext_getElem? fun i => by
      rw [List.getElem?_map]
      by_cases hi : i < xs.length
      · rw [List.getElem?_eq_getElem hi, List.getElem?_eq_getElem (by omega)]
        exact congrArg some (hkey i xs[i] (ds[i]'(by omega)) (List.getElem?_eq_getElem hi) (List.getElem?_eq_getElem (by omega))).1
      · rw [List.getElem?_eq_none (by omega), List.getElem?_eq_none (by omega)]
        rfl
    have hso : sortP ds = (out.map backV).map (keyV X.K H) := by
      refine sortP_uniq (by rw [← hds]; exact hb.perm.map _) (List.pairwise_map.mpr (hsr.imp fun {x y} h => ?_))
      have := SrtO.lexB_no.mp h
      exact decide_eq_true (by omega)
    refine ⟨.ref d, upd H d (.lst (out.map backV)), I.laid (t' := s.toks) kp hd ⟨?_, out, n, vals_back h3, hn⟩, rfl, q _ d hb.len (fun F hF => ?_) (I.hok.fresh hd)⟩
    · rw [hb.len]
      exact hz
    · rw [hso]
      have hall : ∀ v ∈ out.map backV, R X.K F v (keyV X.K H v) := fun v hv => by
        obtain ⟨i, hi, rfl⟩ := List.getElem_of_mem (hb.perm.mem_iff.mp hv)
        obtain ⟨x, hx, rx⟩ := RL.get hF (List.getElem?_eq_getElem hi)
        rw [(hkey i xs[i] x (List.getElem?_eq_getElem hi) hx).1]
        exact rx
      have go : ∀ l : List V, (∀ v ∈ l, R X.K F v (keyV X.K H v)) → RL X.K F l (l.map (keyV X.K H)) := fun l => by
        induction l with
        | nil => exact fun _ => .nil
        | cons v l ih => exact fun h => .cons (h v (List.mem_cons_self ..)) (ih fun u hu => h u (List.mem_cons_of_mem _ hu))
      exact go _ hall
theorem cr_sortedPK_ (h : X.K = K := by rfl) : CallR X (.builtin "sorted") (rSortedPK K) := by subst h; exact cr_sortedPK
end
/-! ### lists lent, walked over -/
def Lent {α : Type} [Enc α] (K : PySem.W.Frag) (H F : Hp) (M : Addr → Prop) (v : V) (e : List α) : Prop := ∃ p ws, v = .ref p ∧ SqL K H p ws ∧ ws.length ≤ sizeLine ∧ RL K F ws e ∧ ¬ M p
inductive LentL {α : Type} [Enc α] (K : PySem.W.Frag) (H F : Hp) (M : Addr → Prop) : List V → List (List α) → Prop
  | nil : LentL K H F M [] []
  | cons {v e vs es} : Lent K H F M v e → LentL K H F M vs es → LentL K H F M (v :: vs) (e :: es)
theorem LentL.len {α : Type} [Enc α] {K : PySem.W.Frag} {H F : Hp} {M : Addr → Prop} : ∀ {vs : List V} {es : List (List α)}, LentL K H F M vs es → vs.length = es.length
  | _, _, .nil => rfl
  | _, _, .cons _ t => congrArg (· + 1) t.len
theorem LentL.get {α : Type} [Enc α] {K : PySem.W.Frag} {H F : Hp} {M : Addr → Prop} : ∀ {vs : List V} {es : List (List α)} {i : Nat} {v : V}, LentL K H F M vs es → vs[i]? = some v → ∃ e, es[i]? = some e ∧ Lent K H F M v e
  | _, _, _, _, .nil, h => by simp at h
  | _, _, 0, _, .cons r _, h => ⟨_, rfl, by simp at h; exact h ▸ r⟩
  | _, _, i + 1, _, .cons _ t, h => by
    obtain ⟨e, h1, h2⟩ := LentL.get t (i := i) (by simpa using h)
    exact ⟨e, by simpa using h1, h2⟩
end G
/-! zip and enumerate walked over; a text looked up in a written table. -/
namespace G
open PySem PySem.Spec PyProof.Rows L2 TL
section
variable {K : PySem.W.Frag}
theorem pi_zipK {X : Cx} {e e2 : Expr} {ta : TA} {p pos tpos : Pos} {elts : List Expr} {kk : Nat} (hg : Gl X "zip") (hm : X.mg "zip" = none) (ha : PA X [e, e2] ta) (h : X.K = K := by rfl)
    (hs : starEach [e, e2] X.env = (false, eval e X.env) :: starEach [e2] X.env := by rfl) (hpl : (backTo pos (starEach [e2] X.env)).any (·.1) = false := by rfl) :
    PI X (.Tuple elts kk tpos) (.Call (.Name "zip" p) [e, e2] [] pos) (iZip K ta) := by subst h; exact pi_zip hg hm ha hs hpl
theorem pi_enumK {X : Cx} {e : Expr} {ta : TA} {p pos tpos : Pos} {elts : List Expr} {kk : Nat} (hg : Gl X "enumerate") (hm : X.mg "enumerate" = none) (ha : PA X [e] ta) (h : X.K = K := by rfl) (hs : starEach [e] X.env = [(false, eval e X.env)] := by rfl) :
    PI X (.Tuple elts kk tpos) (.Call (.Name "enumerate" p) [e] [] pos) (iEnum K ta) := by subst h; exact pi_enum hg hm ha hs
theorem for_zip {a b : Addr} {xs ys : List V} {g : TG} {tb : TS} {D : Ends} {σ : L2.St} {H : Hp} (Pv : Nat → L2.St → Hp → Prop) (h0 : Pv 0 σ H)
    (hl : ∀ i σ H, i ≤ min xs.length ys.length → Pv i σ H → SqL K H a xs ∧ SqL K H b ys)
    (hs : ∀ i x y T σ H, xs[i]? = some x → ys[i]? = some y → H T = none → Pv i σ H → g (.ref T) σ (upd H T (.tup [x, y])) fun σ2 H2 => tb { D with nx := Pv (i + 1), ct := Pv (i + 1), bk := D.nx } σ2 H2) (hd : ∀ σ H, Pv (min xs.length ys.length) σ H → D.nx σ H) :
    ∃ W : Nat → Nat → L2.St → Hp → Prop, (∃ m, W 0 m σ H) ∧ ∀ i m σ H, W i m σ H →
      ((Itz K a b).stop i H ∧ D.nx σ H) ∨ ((Itz K a b).go i H ∧ ∃ N : L2.St → Hp → Prop, (∀ σ' H', N σ' H' → ∃ m', m' < m ∧ W (i + 1) m' σ' H') ∧ ∀ x H', (Itz K a b).yld i H x H' → g x σ H' fun σ2 H2 => tb { D with nx := N, ct := N, bk := D.nx } σ2 H2) :=
  for_it (walk_zip rfl) Pv h0 hl (fun i v σ H H' _ p ⟨T, x, y, e1, e2, e3, e4, e5⟩ => by subst e1 e3; exact hs i x y T σ H e4 e5 e2 p) hd
theorem for_enum {a : Addr} {xs : List V} {g : TG} {tb : TS} {D : Ends} {σ : L2.St} {H : Hp} (Pv : Nat → L2.St → Hp → Prop) (h0 : Pv 0 σ H)
    (hl : ∀ i σ H, i ≤ xs.length → Pv i σ H → SqL K H a xs)
    (hs : ∀ i x T σ H, xs[i]? = some x → H T = none → Pv i σ H → g (.ref T) σ (upd H T (.tup [.int (i : Nat), x])) fun σ2 H2 => tb { D with nx := Pv (i + 1), ct := Pv (i + 1), bk := D.nx } σ2 H2) (hd : ∀ σ H, Pv xs.length σ H → D.nx σ H) :
    ∃ W : Nat → Nat → L2.St → Hp → Prop, (∃ m, W 0 m σ H) ∧ ∀ i m σ H, W i m σ H →
      ((Ite K a).stop i H ∧ D.nx σ H) ∨ ((Ite K a).go i H ∧ ∃ N : L2.St → Hp → Prop, (∀ σ' H', N σ' H' → ∃ m', m' < m ∧ W (i + 1) m' σ' H') ∧ ∀ x H', (Ite K a).yld i H x H' → g x σ H' fun σ2 H2 => tb { D with nx := N, ct := N, bk := D.nx } σ2 H2) :=
  for_it walk_enum Pv h0 hl (fun i v σ H H' _ p ⟨T, x, y, e1, e2, e3, e4, e5⟩ => by
    subst e1 e3
    cases e4
    exact hs i y T σ H e5 e2 p) hd
theorem lc_zip {a b : Addr} {xs ys : List V} {g : TG} {tt : TT} {te : TE} {vs : List Nat} {σ : L2.St} {H1 : Hp} {D : Addr} {Qd : Hp → Prop} (Pv : Nat → Hp → Prop) (h0 : Pv 0 (upd H1 D (.lst [])))
    (hl : ∀ i H, i ≤ min xs.length ys.length → Pv i H → SqL K H a xs ∧ SqL K H b ys)
    (hs : ∀ i x y T H, xs[i]? = some x → ys[i]? = some y → H T = none → Pv i H → g (.ref T) (wipe σ vs) (upd H T (.tup [x, y])) fun σ2 H2 => wipe σ2 vs = wipe σ vs ∧ tt σ2 H2 fun b H3 =>
      if b = true then te σ2 H3 fun y H4 => ∃ acc, H4 D = some (.lst acc) ∧ acc.length < sizeLine ∧ Pv (i + 1) (upd H4 D (.lst (acc ++ [y]))) else Pv (i + 1) H3) (hd : ∀ H, Pv (min xs.length ys.length) H → Qd H) :
    ∃ W : Nat → Nat → Hp → Prop, (∃ m, W 0 m (upd H1 D (.lst []))) ∧ ∀ i m H, W i m H →
      ((Itz K a b).stop i H ∧ Qd H) ∨ ((Itz K a b).go i H ∧ ∃ Nx : Hp → Prop, (∀ H', Nx H' → ∃ m', m' < m ∧ W (i + 1) m' H') ∧ ∀ x H', (Itz K a b).yld i H x H' → g x (wipe σ vs) H' fun σ2 H2 => wipe σ2 vs = wipe σ vs ∧ tt σ2 H2 fun b H3 =>
        if b = true then te σ2 H3 fun y H4 => ∃ acc, H4 D = some (.lst acc) ∧ acc.length < sizeLine ∧ Nx (upd H4 D (.lst (acc ++ [y]))) else Nx H3) :=
  lc_it (walk_zip rfl) Pv h0 hl (fun i v H H' _ p ⟨T, x, y, e1, e2, e3, e4, e5⟩ => by subst e1 e3; exact hs i x y T H e4 e5 e2 p) hd
theorem lc_enum {a : Addr} {xs : List V} {g : TG} {tt : TT} {te : TE} {vs : List Nat} {σ : L2.St} {H1 : Hp} {D : Addr} {Qd : Hp → Prop} (Pv : Nat → Hp → Prop) (h0 : Pv 0 (upd H1 D (.lst [])))
    (hl : ∀ i H, i ≤ xs.length → Pv i H → SqL K H a xs)
    (hs : ∀ i x T H, xs[i]? = some x → H T = none → Pv i H → g (.ref T) (wipe σ vs) (upd H T (.tup [.int (i : Nat), x])) fun σ2 H2 => wipe σ2 vs = wipe σ vs ∧ tt σ2 H2 fun b H3 =>
      if b = true then te σ2 H3 fun y H4 => ∃ acc, H4 D = some (.lst acc) ∧ acc.length < sizeLine ∧ Pv (i + 1) (upd H4 D (.lst (acc ++ [y]))) else Pv (i + 1) H3) (hd : ∀ H, Pv xs.length H → Qd H) :
    ∃ W : Nat → Nat → Hp → Prop, (∃ m, W 0 m (upd H1 D (.lst []))) ∧ ∀ i m H, W i m H →
      ((Ite K a).stop i H ∧ Qd H) ∨ ((Ite K a).go i H ∧ ∃ Nx : Hp → Prop, (∀ H', Nx H' → ∃ m', m' < m ∧ W (i + 1) m' H') ∧ ∀ x H', (Ite K a).yld i H x H' → g x (wipe σ vs) H' fun σ2 H2 => wipe σ2 vs = wipe σ vs ∧ tt σ2 H2 fun b H3 =>
        if b = true then te σ2 H3 fun y H4 => ∃ acc, H4 D = some (.lst acc) ∧ acc.length < sizeLine ∧ Nx (upd H4 D (.lst (acc ++ [y]))) else Nx H3) :=
  lc_it walk_enum Pv h0 hl (fun i v H H' _ p ⟨T, x, y, e1, e2, e3, e4, e5⟩ => by
    subst e1 e3
    cases e4
    exact hs i y T H e5 e2 p) hd
theorem gzip_get {α β : Type} {xs : List α} {ys : List β} {i : Nat} {x : α} {y : β} (h1 : xs[i]? = some x) (h2 : ys[i]? = some y) : (List.zip xs ys)[i]? = some (x, y) := by
  rw [List.zip, List.getElem?_zipWith, h1, h2]
theorem enum_get {α : Type} {xs : List α} {i : Nat} {x : α} (h : xs[i]? = some x) : (List.zip (rangeL 0 xs.length) xs)[i]? = some (((i : Nat) : Int), x) := by
  have hi : i < xs.length := (List.getElem?_eq_some_iff.mp h).1
  have := rangeL_at (lo := 0) hi
  rw [Int.zero_add] at this
  exact gzip_get this h
theorem zip_lenV {α β γ δ : Type} {xs : List α} {ys : List β} {vs : List γ} {ws : List δ} (h1 : vs.length = xs.length) (h2 : ws.length = ys.length) : min vs.length ws.length = (List.zip xs ys).length := by rw [List.length_zip, h1, h2]
theorem enum_lenV {α γ : Type} {xs : List α} {vs : List γ} (h1 : vs.length = xs.length) : vs.length = (List.zip (rangeL 0 xs.length) xs).length := by rw [List.length_zip, rangeL_len, h1]; exact (Nat.min_self _).symm
end
/-! ### texts looked up in a written table -/
def dgetI (kvs : List (Str × Str)) (k : Str) : Option Str := (kvs.find? fun kv => decide (kv.1 = k)).map (·.2)
theorem rd_dgetI {ty : TE} {σ : L2.St} {H : Hp} {Q : VK} {k v : Str} (trs : List (TE × TE)) (kvs : List (Str × Str)) (he : trs = kvs.map fun kv => (tC (.str kv.1), tC (.str kv.2))) (h15 : kvs.length ≤ 15) (hm : mergeK [] (kvS kvs) = kvS kvs)
    (hk : dgetI kvs k = some v) (hy : ∀ H1 Q', Q' (.str k) H1 → ty σ H1 Q') (q : ∀ p, H p = none → Q (.str v) (upd H p (.dK (kvS kvs)))) : tDGet (tDisp trs) ty σ H Q := by
  intro p hp
  have walk : ∀ (l : List (Str × Str)) (R : List (V × V) → Hp → Prop) (H1 : Hp), R (l.map fun kv => (V.str kv.1, V.str kv.2)) H1 → tPairs (l.map fun kv => (tC (.str kv.1), tC (.str kv.2))) σ H1 R := by
    intro l
    induction l with
    | nil => intro R H1 h; exact h
    | cons kv l ih => intro R H1 h; exact ih (fun ps H3 => R ((V.str kv.1, V.str kv.2) :: ps) H3) H1 h
  rw [he]
  refine walk kvs _ _ ⟨upd_same, kvS kvs, ?_, ?_, ?_⟩
  · unfold kvS
    rw [List.map_map]
    rfl
  · unfold kvS
    rw [List.length_map]
    exact h15
  · rw [hm, upd_upd]
    have e : valV (kvS kvs) (Sum.inr k) = some (.str v) := by
      rw [valS]
      unfold dgetI at hk
      rw [hk]
      rfl
    exact hy _ _ ⟨p, .str v, rfl, e ▸ DGet.k (k := Sum.inr k) upd_same, q p hp⟩
theorem GS.di {kvs : List (Str × Str)} {k v : Str} (h : ∀ kv ∈ kvs, GS kv.2) (hk : dgetI kvs k = some v) : GS v := by
  unfold dgetI at hk
  cases e : (kvs.find? fun kv => decide (kv.1 = k)) with
  | none => rw [e] at hk; cases hk
  | some kv =>
    rw [e] at hk
    cases hk
    exact h kv (List.mem_of_find?_eq_some e)
end G
/-! tuples of one, things of either type; the bag of five; membership, pop, tuples. -/
namespace G
open PySem PySem.Spec PyProof.Rows L2 TL
structure T1 (α : Type) where
  a : α
  deriving DecidableEq
instance {α : Type} [Enc α] : Enc (T1 α) := ⟨fun p => .tuple [Enc.d p.a]⟩
instance {α : Type} [Enc α] [Dep α] : Dep (T1 α) := ⟨Dep.n α + 1, fun p => by
  have h1 := Dep.le p.a
  show PyData.depthAll [Enc.d p.a] + 1 ≤ _
  simp only [PyData.depthAll]
  omega⟩
instance {α : Type} [Enc α] : NN (T1 α) := ⟨fun _ => nofun⟩
instance {α β : Type} [Enc α] [Enc β] : Enc (α ⊕ β) := ⟨fun s => match s with | .inl x => Enc.d x | .inr y => Enc.d y⟩
instance {α β : Type} [Enc α] [Enc β] [Dep α] [Dep β] : Dep (α ⊕ β) := ⟨max (Dep.n α) (Dep.n β), fun s => match s with
  | .inl x => Nat.le_trans (Dep.le x) (Nat.le_max_left _ _)
  | .inr y => Nat.le_trans (Dep.le y) (Nat.le_max_right _ _)⟩
instance {α β : Type} [Enc α] [Enc β] [NN α] [NN β] : NN (α ⊕ β) := ⟨fun s => match s with
  | .inl x => NN.ne x
  | .inr y => NN.ne y⟩
section
variable {K : PySem.W.Frag} {F : Hp} {v : V} {p : Addr} {α β γ : Type} [Enc α] [Enc β] [Enc γ]
theorem R.p1_v {x : T1 α} (h : R K F v x) : ∃ p v1, v = .ref p ∧ SqT K F p [v1] ∧ R K F v1 x.a := by
  have h' : Rp K F v (.tuple [Enc.d x.a]) := h
  cases h' with
  | tup hs hl ha =>
    cases ha with
    | cons h1 h2 =>
      cases h2
      exact ⟨_, _, rfl, .inl (.inl hs), h1⟩
theorem R.p1_s {x : T1 α} (h : R K F v x) : ∃ p v1, v = .ref p ∧ F p = some (.tup [v1]) ∧ R K F v1 x.a := by
  have h' : Rp K F v (.tuple [Enc.d x.a]) := h
  cases h' with
  | tup hs hl ha =>
    cases ha with
    | cons h1 h2 =>
      cases h2
      exact ⟨_, _, rfl, hs, h1⟩
theorem R.mk1 {v1 : V} {x : α} (h1 : F p = some (.tup [v1])) (r1 : R K F v1 x) : R K F (.ref p) (T1.mk x) := .tup h1 (by show 1 ≤ sizeLine; decide) (.cons r1 .nil)
theorem R.inl {x : α} (r : R K F v x) : R K F v (Sum.inl x : α ⊕ β) := r
theorem R.inr {y : β} (r : R K F v y) : R K F v (Sum.inr y : α ⊕ β) := r
theorem R.some_ {x : α} (r : R K F v x) : R K F v (some x) := r
theorem R.omap {x : Option α} {f : α → β} (h : ∀ a, (Enc.d (f a) : PyData) = Enc.d a) (r : R K F v x) : R K F v (x.map f) := by
  cases x with
  | none => exact r
  | some a => show Rp K F v (Enc.d (f a)); rw [h]; exact r
def getL {α β : Type} : α ⊕ β → Option α
  | .inl x => some x
  | .inr _ => none
def getR {α β : Type} : α ⊕ β → Option β
  | .inr y => some y
  | .inl _ => none
theorem getL_ok {s : α ⊕ β} {x : α} (h : getL s = some x) (r : R K F v s) : R K F v x := by
  cases s with
  | inl a => cases h; exact r
  | inr b => cases h
theorem getR_ok {s : α ⊕ β} {y : β} (h : getR s = some y) (r : R K F v s) : R K F v y := by
  cases s with
  | inr a => cases h; exact r
  | inl b => cases h
theorem getO_ok {s : Option α} {x : α} (h : s = some x) (r : R K F v s) : R K F v x := by subst h; exact r
end
/-- the bag of five: cells, which is next, what is left of the last, the stir, how many were stirred -/
structure Bag2 where
  cells : List Int
  at_ : Nat
  left : Int
  stir : Int
  cnt : Int
structure BagAt2 (F H : Hp) (B C : Addr) (b : Bag2) : Prop where
  hB : H B = some (.lst [.ref C, .int (b.at_ : Nat), .int b.left, .int b.stir, .int b.cnt])
  hC : H C = some (.lst (b.cells.map V.int))
  ne : B ≠ C
  fB : F B = none
  fC : F C = none
section
variable {M : Addr → Prop} {F0 H0 F H F' H' : Hp} {p q B C : Addr} {o : HO} {b b' : Bag2} {ws : List V}
theorem BagAt2.frz (a : BagAt2 F H B C b) (hq : H q = none) : BagAt2 (upd F q o) (upd H q o) B C b :=
  have n1 := ne_of_none a.hB hq
  have n2 := ne_of_none a.hC hq
  ⟨(upd_ne n1).trans a.hB, (upd_ne n2).trans a.hC, a.ne, (upd_ne n1).trans a.fB, (upd_ne n2).trans a.fC⟩
theorem BagAt2.own (a : BagAt2 F H B C b) (hq : H q = none) : BagAt2 F (upd H q o) B C b :=
  have n1 := ne_of_none a.hB hq
  have n2 := ne_of_none a.hC hq
  ⟨(upd_ne n1).trans a.hB, (upd_ne n2).trans a.hC, a.ne, a.fB, a.fC⟩
theorem BagAt2.nb (a : BagAt2 F H B C b) (hq : H q = none) : ¬ Bc B C q := fun z => by
  rcases z with z | z
  · exact ne_of_none a.hB hq z.symm
  · exact ne_of_none a.hC hq z.symm
theorem BagAt2.other (a : BagAt2 F H B C b) (m : ¬ Bc B C q) : BagAt2 F (upd H q o) B C b :=
  have n1 : B ≠ q := fun z => m (.inl z.symm)
  have n2 : C ≠ q := fun z => m (.inr z.symm)
  ⟨(upd_ne n1).trans a.hB, (upd_ne n2).trans a.hC, a.ne, a.fB, a.fC⟩
theorem BagAt2.fz (a : BagAt2 F H B C b) (m : ¬ Bc B C q) : BagAt2 (upd F q o) H B C b :=
  have n1 : B ≠ q := fun z => m (.inl z.symm)
  have n2 : C ≠ q := fun z => m (.inr z.symm)
  ⟨a.hB, a.hC, a.ne, (upd_ne n1).trans a.fB, (upd_ne n2).trans a.fC⟩
theorem BagAt2.gr0 (a : BagAt2 F H B C b) (g : Gr M0 F H F' H') : BagAt2 F' H' B C b :=
  ⟨g.keep _ _ id a.hB, g.keep _ _ id a.hC, a.ne, g.newL (by rw [a.hB]; simp) a.fB (fun ts z => by rw [g.keep _ _ id a.hB] at z; cases z), g.newL (by rw [a.hC]; simp) a.fC (fun ts z => by rw [g.keep _ _ id a.hC] at z; cases z)⟩
theorem BagAt2.apart (a : BagAt2 F H B C b) (k : Gr M0 H H F' H') : BagAt2 F H' B C b := ⟨k.keep _ _ id a.hB, k.keep _ _ id a.hC, a.ne, a.fB, a.fC⟩
theorem BagAt2.put (a : BagAt2 F H B C b) (e : b'.cells = b.cells) : BagAt2 F (upd H B (.lst [.ref C, .int (b'.at_ : Nat), .int b'.left, .int b'.stir, .int b'.cnt])) B C b' :=
  ⟨upd_same, by rw [upd_ne a.ne.symm, a.hC, e], a.ne, a.fB, a.fC⟩
end
/-! ### membership -/
def rInI (K : PySem.W.Frag) : R2 := fun x y H Q => ∃ (k : Int) (p : Addr) (ns : List Int), x = .int k ∧ y = .ref p ∧ (SqL K H p (ns.map V.int) ∨ SqT K H p (ns.map V.int)) ∧ Q (.bl (decide (k ∈ ns))) H
def rNotInI (K : PySem.W.Frag) : R2 := fun x y H Q => ∃ (k : Int) (p : Addr) (ns : List Int), x = .int k ∧ y = .ref p ∧ (SqL K H p (ns.map V.int) ∨ SqT K H p (ns.map V.int)) ∧ Q (.bl (!decide (k ∈ ns))) H
theorem inV_ints (k : Int) (ns : List Int) : inV (.int k) (ns.map V.int) = decide (k ∈ ns) := by
  rw [Bool.eq_iff_iff, decide_eq_true_iff]
  unfold inV
  rw [List.any_map, List.any_eq_true]
  constructor
  · rintro ⟨x, hx, e⟩
    have e' : (x == k) = true := e
    rw [← beq_iff_eq.mp e']
    exact hx
  · intro h
    exact ⟨k, h, beq_iff_eq.mpr rfl⟩
theorem flat_ints (ns : List Int) : (ns.map V.int).all flatV = true := by
  rw [List.all_map, List.all_eq_true]
  intro x _
  rfl
section
variable {X : Cx} {K : PySem.W.Frag}
theorem op_inI (h : X.K = K := by rfl) : OpR X (compareOp .In) (rInI K) := by
  subst h
  intro pins s σ H x y v u Q I rx ry ⟨k, p, ns, e1, e2, hs, q⟩
  exact op_in_seq pins s σ H x y v u Q I rx ry ⟨p, _, e2, hs, by rw [e1]; rfl, flat_ints ns, by rw [e1, inV_ints]; exact q⟩
theorem op_notInI (h : X.K = K := by rfl) : OpR X (compareOp .NotIn) (rNotInI K) := by
  subst h
  intro pins s σ H x y v u Q I rx ry ⟨k, p, ns, e1, e2, hs, q⟩
  exact op_notIn_seq pins s σ H x y v u Q I rx ry ⟨p, _, e2, hs, by rw [e1]; rfl, flat_ints ns, by rw [e1, inV_ints]; exact q⟩
theorem op_inDK (hu : X.A.units + 65 < cLine) (h : X.K = K := by rfl) : OpR X (compareOp .In) (rInD K) := by subst h; exact op_inD hu
theorem op_notInDK (hu : X.A.units + 65 < cLine) (h : X.K = K := by rfl) : OpR X (compareOp .NotIn) (rNotInD K) := by subst h; exact op_notInD hu
theorem sl_tupK (h : X.K = K := by rfl) : SlR X (rSlA K) := by subst h; exact sl_tupA
theorem op_catTK (h : X.K = K := by rfl) : OpR X (binaryOp .Add) (rCatA K) := by subst h; exact op_catA
theorem cr_maxK (hc : X.calm = true) (h : X.K = K := by rfl) : CallR X (.builtin "max") (rMax K) := by subst h; exact cr_max hc
theorem cr_minK' (hc : X.calm = true) (h : X.K = K := by rfl) : CallR X (.builtin "min") (rMin K) := by subst h; exact cr_min hc
theorem pe_tupleOfK {a : Expr} {ta : TE} {p pos : Pos} (hg : Gl X "tuple") (hm : X.mg "tuple" = none) (ha : PE X a ta) (h : X.K = K := by rfl) (na : starEach [a] X.env = (false, eval a X.env) :: starEach [] X.env := by rfl) :
    PE X (.Call (.Name "tuple" p) [a] [] pos) (tThen ta (kTup K)) := by subst h; exact pe_tupleOf hg hm ha na
end
def inD {α : Type} [Enc α] (x : α) (xs : List α) : Bool := (xs.map Enc.d).any fun z => PyData.eqv z (Enc.d x)
/-! ### the least, the greatest -/
def maxO : List Int → Option Int
  | [] => none
  | x :: r => some (r.foldl max x)
def minO : List Int → Option Int
  | [] => none
  | x :: r => some (r.foldl min x)
theorem foldl_max (r : List Int) : ∀ x : Int, (r.foldl max x ∈ x :: r) ∧ ∀ y ∈ x :: r, y ≤ r.foldl max x := by
  induction r with
  | nil => intro x; exact ⟨List.mem_cons_self .., fun y hy => by rw [List.mem_singleton.mp hy]; exact Int.le_refl _⟩
  | cons z r ih =>
    intro x
    obtain ⟨h1, h2⟩ := ih (max x z)
    refine ⟨?_, fun y hy => ?_⟩
    · show List.foldl max (max x z) r ∈ _
      rcases List.mem_cons.mp h1 with e | e
      · rw [e]
        by_cases h : x ≤ z
        · rw [Int.max_eq_right h]; exact List.mem_cons_of_mem _ (List.mem_cons_self ..)
        · rw [Int.max_eq_left (by omega)]; exact List.mem_cons_self ..
      · exact List.mem_cons_of_mem _ (List.mem_cons_of_mem _ e)
    · show y ≤ List.foldl max (max x z) r
      have h3 := h2 (max x z) (List.mem_cons_self ..)
      rcases List.mem_cons.mp hy with e | hy
      · omega
      · rcases List.mem_cons.mp hy with e | hy
        · omega
        · exact h2 y (List.mem_cons_of_mem _ hy)
theorem foldl_min (r : List Int) : ∀ x : Int, (r.foldl min x ∈ x :: r) ∧ ∀ y ∈ x :: r, r.foldl min x ≤ y := by
  induction r with
  | nil => intro x; exact ⟨List.mem_cons_self .., fun y hy => by rw [List.mem_singleton.mp hy]; exact Int.le_refl _⟩
  | cons z r ih =>
    intro x
    obtain ⟨h1, h2⟩ := ih (min x z)
    refine ⟨?_, fun y hy => ?_⟩
    · show List.foldl min (min x z) r ∈ _
      rcases List.mem_cons.mp h1 with e | e
      · rw [e]
        by_cases h : x ≤ z
        · rw [Int.min_eq_left h]; exact List.mem_cons_self ..
        · rw [Int.min_eq_right (by omega)]; exact List.mem_cons_of_mem _ (List.mem_cons_self ..)
      · exact List.mem_cons_of_mem _ (List.mem_cons_of_mem _ e)
    · show List.foldl min (min x z) r ≤ y
      have h3 := h2 (min x z) (List.mem_cons_self ..)
      rcases List.mem_cons.mp hy with e | hy
      · omega
      · rcases List.mem_cons.mp hy with e | hy
        · omega
        · exact h2 y (List.mem_cons_of_mem _ hy)
theorem maxO_ok {xs : List Int} {m : Int} (h : maxO xs = some m) : 0 < xs.length ∧ m ∈ xs ∧ ∀ y ∈ xs, y ≤ m := by
  cases xs with
  | nil => cases h
  | cons x r =>
    cases h
    exact ⟨Nat.succ_pos _, (foldl_max r x).1, (foldl_max r x).2⟩
theorem minO_ok {xs : List Int} {m : Int} (h : minO xs = some m) : 0 < xs.length ∧ m ∈ xs ∧ ∀ y ∈ xs, m ≤ y := by
  cases xs with
  | nil => cases h
  | cons x r =>
    cases h
    exact ⟨Nat.succ_pos _, (foldl_min r x).1, (foldl_min r x).2⟩
theorem max_uniq {xs : List Int} {m k : Int} (h : maxO xs = some m) (hk : k ∈ xs) (hl : ∀ y, y ∈ xs → y ≤ k) : k = m := by
  obtain ⟨_, h1, h2⟩ := maxO_ok h
  have := h2 k hk
  have := hl m h1
  omega
theorem min_uniq {xs : List Int} {m k : Int} (h : minO xs = some m) (hk : k ∈ xs) (hl : ∀ y, y ∈ xs → k ≤ y) : k = m := by
  obtain ⟨_, h1, h2⟩ := minO_ok h
  have := h2 k hk
  have := hl m h1
  omega
/-! ### pop -/
def popI {α : Type} (xs : List α) (i : Int) : Option (α × List α) := (ixN xs.length i).bind fun j => xs[j]?.map fun x => (x, xs.eraseIdx j)
theorem popI_ok {α : Type} {xs r : List α} {i : Int} {x : α} (h : popI xs i = some (x, r)) : ∃ j, ixN xs.length i = some j ∧ xs[j]? = some x ∧ xs.eraseIdx j = r := by
  unfold popI at h
  obtain ⟨j, h1, h2⟩ := Option.bind_eq_some_iff.mp h
  obtain ⟨y, h3, h4⟩ := Option.map_eq_some_iff.mp h2
  cases h4
  exact ⟨j, h1, h3, rfl⟩
theorem popI_at {i : Int} {n j : Nat} (h : ixN n i = some j) (hn : n ≤ sizeLine) : (-(2 ^ 63) ≤ i ∧ i < 2 ^ 63) ∧ seqIndex? i n = some j := by
  obtain ⟨h1, h2, h3, h4⟩ := ixN_seq h
  rw [sizeLine_eq] at hn
  exact ⟨by omega, h1⟩
theorem RpA.erase {K : PySem.W.Frag} {F : Hp} : ∀ {vs : List V} {ds : List PyData} (j : Nat), RpA K F vs ds → RpA K F (vs.eraseIdx j) (ds.eraseIdx j)
  | _, _, _, .nil => .nil
  | _, _, 0, .cons _ t => t
  | _, _, j + 1, .cons h t => .cons h (RpA.erase j t)
theorem map_er {α β : Type} (f : α → β) : ∀ (l : List α) (j : Nat), (l.eraseIdx j).map f = (l.map f).eraseIdx j
  | [], _ => rfl
  | _ :: _, 0 => rfl
  | x :: l, j + 1 => congrArg (f x :: ·) (map_er f l j)
theorem RL.erase {α : Type} [Enc α] {K : PySem.W.Frag} {F : Hp} {vs : List V} {xs : List α} (j : Nat) (h : RL K F vs xs) : RL K F (vs.eraseIdx j) (xs.eraseIdx j) := by
  have := RpA.erase j h
  rw [← map_er] at this
  exact this
theorem erase_le {α : Type} {xs : List α} {j n : Nat} (h : xs.length ≤ n) : (xs.eraseIdx j).length ≤ n := Nat.le_trans (List.length_eraseIdx_le _ _) h
/-! ### a list so many times -/
def repL {α : Type} (xs : List α) (k : Int) : Option (List α) := if -(2 ^ 63) ≤ k ∧ k < 2 ^ 63 ∧ xs.length * k.toNat ≤ sizeLine then some (List.replicate k.toNat xs).flatten else none
theorem repL_ok {α : Type} {xs r : List α} {k : Int} (h : repL xs k = some r) : (-(2 ^ 63) ≤ k ∧ k < 2 ^ 63 ∧ xs.length * k.toNat ≤ sizeLine) ∧ (List.replicate k.toNat xs).flatten = r := by
  unfold repL at h
  split at h
  · exact ⟨by assumption, Option.some.inj h⟩
  · cases h
theorem RL.rep {α : Type} [Enc α] {K : PySem.W.Frag} {F : Hp} {vs : List V} {xs : List α} (h : RL K F vs xs) : ∀ n : Nat, RL K F (List.replicate n vs).flatten (List.replicate n xs).flatten
  | 0 => RpA.nil
  | n + 1 => by rw [List.replicate_succ, List.replicate_succ, List.flatten_cons, List.flatten_cons]; exact RL.app h (RL.rep h n)
theorem rep_len {α : Type} (xs : List α) (n : Nat) : (List.replicate n xs).flatten.length = xs.length * n := by
  rw [List.length_flatten, List.map_replicate, List.sum_replicate_nat, Nat.mul_comm]
theorem units65 {k : Nat} {A : Around} (r : Room k A) : A.units + 65 < cLine := by have := r.un; omega
def rSlF (K : PySem.W.Frag) : V → Option Int → Option Int → Hp → VK → Prop := fun x lo hi H Q => ∃ (F : Hp) (a : Addr) (xs : List V), x = .ref a ∧ F a = some (.tup xs) ∧ Same F H ∧
  ∀ q F' H', Gr M0 F H F' H' → F' q = some (.tup (cutV xs lo hi)) → Q (.ref q) H'
theorem sl_tupF {X : Cx} {K : PySem.W.Frag} (h : X.K = K := by rfl) : SlR X (rSlF K) := by
  subst h
  intro pins s σ H x v vl vu lo hi sl Q I rx hs pl pu ⟨F, a, xs, e, hx, hF, q⟩
  refine sl_tupA pins s σ H x v vl vu lo hi sl Q I rx hs pl pu ⟨a, xs, e, .inl (.inl (hF _ _ hx)), fun hfull => ?_, fun _ p hp => ?_⟩
  · refine q a F H (Gr.refl hF) ?_
    unfold cutV
    rw [hfull.1, hfull.2, List.drop_zero, Nat.sub_zero, List.take_length]
    exact hx
  · exact q p _ _ ((Gr.refl hF).frz (o := .tup (cutV xs lo hi)) hp) fzT
def popL {α : Type} (xs : List α) : Option (α × List α) := xs[xs.length - 1]?.map fun x => (x, xs.dropLast)
theorem popL_ok {α : Type} {xs r : List α} {x : α} (h : popL xs = some (x, r)) : xs[xs.length - 1]? = some x ∧ xs.dropLast = r := by
  unfold popL at h
  obtain ⟨y, h3, h4⟩ := Option.map_eq_some_iff.mp h
  cases h4
  exact ⟨h3, rfl⟩
/-! ### how many unlike tuples of ints -/
class IK (α : Type) [Enc α] where
  ks : α → List Int
  enc : ∀ x, Enc.d x = .tuple ((ks x).map .int)
  few : ∀ x, (ks x).length ≤ 8
  pos : ∀ x, 0 < (ks x).length
  inj : ∀ x y, ks x = ks y → x = y
instance : IK (Int × Int) := ⟨fun x => [x.1, x.2], fun _ => rfl, fun _ => by show 2 ≤ 8; decide, fun _ => Nat.succ_pos _, fun x y h => by
  obtain ⟨h1, h2⟩ := List.cons.inj h
  exact Prod.ext h1 (List.cons.inj h2).1⟩
instance : IK (T4 Int Int Int Int) := ⟨fun x => [x.a, x.b, x.c, x.e], fun _ => rfl, fun _ => by show 4 ≤ 8; decide, fun _ => Nat.succ_pos _, fun x y h => by
  obtain ⟨h1, h2⟩ := List.cons.inj h
  obtain ⟨h3, h4⟩ := List.cons.inj h2
  obtain ⟨h5, h6⟩ := List.cons.inj h4
  cases x
  cases y
  simp only at h1 h3 h5 h6
  rw [h1, h3, h5, (List.cons.inj h6).1]⟩
instance : IK (T3 Int Int Int) := ⟨fun x => [x.a, x.b, x.c], fun _ => rfl, fun _ => by show 3 ≤ 8; decide, fun _ => Nat.succ_pos _, fun x y h => by
  obtain ⟨h1, h2⟩ := List.cons.inj h
  obtain ⟨h3, h4⟩ := List.cons.inj h2
  cases x
  cases y
  simp only at h1 h3 h4
  rw [h1, h3, (List.cons.inj h4).1]⟩
theorem rp_ints {K : PySem.W.Frag} {F : Hp} : ∀ {ns : List Int} {vs : List V}, RpA K F vs (ns.map .int) → vs = ns.map V.int
  | [], _, .nil => rfl
  | _ :: _, _, .cons h t => by
    cases h
    rw [rp_ints t]
    rfl
theorem ik_rows {α : Type} [Enc α] [IK α] {K : PySem.W.Frag} {F : Hp} : ∀ (ds : List α) {vs : List V}, RpA K F vs (ds.map Enc.d) → ∃ ks : List (Addr × List Int), vs = ks.map (fun p => V.ref p.1) ∧ ds.map IK.ks = ks.map (·.2) ∧ ∀ p ∈ ks, SqT K F p.1 (p.2.map V.int)
  | [], _, h => by cases h; exact ⟨[], rfl, rfl, fun _ h => nomatch h⟩
  | x :: ds, _, h => by
    cases h with
    | cons h t =>
      obtain ⟨ks, e1, e2, e3⟩ := ik_rows ds t
      rw [IK.enc x] at h
      cases h with
      | tup hs hl ha =>
        obtain rfl := rp_ints ha
        refine ⟨(_, IK.ks x) :: ks, by rw [e1]; rfl, by rw [List.map_cons, List.map_cons, e2], fun p hp => ?_⟩
        rcases List.mem_cons.mp hp with rfl | hp
        · exact .inl (.inl hs)
        · exact e3 p hp
theorem len_same {α : Type} [DecidableEq α] {a b : List α} (ha : a.Nodup) (hb : b.Nodup) (h : ∀ x, x ∈ a ↔ x ∈ b) : a.length = b.length := by
  refine Nat.le_antisymm ?_ ?_
  · exact go ha fun x hx => (h x).mp hx
  · exact go hb fun x hx => (h x).mpr hx
where
  go : ∀ {a b : List α}, a.Nodup → (∀ x ∈ a, x ∈ b) → a.length ≤ b.length
    | [], _, _, _ => Nat.zero_le _
    | x :: a, b, ha, h => by
      obtain ⟨h1, h2⟩ := List.nodup_cons.mp ha
      have hx := h x (List.mem_cons_self ..)
      have := go (a := a) (b := b.erase x) h2 fun y hy => (List.mem_erase_of_ne (fun e => by rw [e] at hy; exact h1 hy)).mpr (h y (List.mem_cons_of_mem _ hy))
      rw [List.length_erase_of_mem hx] at this
      have hp := List.length_pos_of_mem hx
      rw [List.length_cons]
      omega
def undup {α : Type} [DecidableEq α] : List α → List α
  | [] => []
  | x :: l => if x ∈ l then undup l else x :: undup l
theorem mem_undup {α : Type} [DecidableEq α] {x : α} : ∀ {l : List α}, x ∈ undup l ↔ x ∈ l
  | [] => Iff.rfl
  | y :: l => by
    unfold undup
    by_cases h : y ∈ l
    · rw [if_pos h, mem_undup, List.mem_cons]
      exact ⟨.inr, fun e => e.elim (fun e => e ▸ h) id⟩
    · rw [if_neg h, List.mem_cons, List.mem_cons, mem_undup]
theorem nodup_undup {α : Type} [DecidableEq α] : ∀ l : List α, (undup l).Nodup
  | [] => List.nodup_nil
  | y :: l => by
    unfold undup
    by_cases h : y ∈ l
    · rw [if_pos h]; exact nodup_undup l
    · rw [if_neg h]
      exact List.nodup_cons.mpr ⟨fun z => h (mem_undup.mp z), nodup_undup l⟩
def lsetT {α : Type} [DecidableEq α] (xs : List α) : Option Int := if xs.length < 64 then some (((undup xs).length : Nat) : Int) else none
theorem lsetT_ok {α : Type} [DecidableEq α] {xs : List α} {n : Int} (h : lsetT xs = some n) : xs.length < 64 ∧ (((undup xs).length : Nat) : Int) = n := by
  unfold lsetT at h
  split at h
  · exact ⟨by assumption, Option.some.inj h⟩
  · cases h
def tLenSetT (K : PySem.W.Frag) {α : Type} [Enc α] [IK α] [DecidableEq α] (ta : TE) : TE := fun σ H Q => ta σ H fun x H1 => ∃ (l : Addr) (vs : List V) (ds : List α), x = V.ref l ∧ SqL K H1 l vs ∧ RL K H1 vs ds ∧ ds.length < 64 ∧ Q (.int ((undup ds).length : Nat)) H1
theorem pe_lenSetT {X : Cx} {K : PySem.W.Frag} {α : Type} [Enc α] [IK α] [DecidableEq α] {a : Expr} {ta : TE} {p p2 q pos : Pos} (hc : X.calm = true) (hu : X.A.units + 64 < cLine) (hg : Gl X "len") (hm : X.mg "len" = none) (hg2 : Gl X "set") (hm2 : X.mg "set" = none) (ha : PE X a ta) (hK : X.K = K := by rfl)
    (na : starEach [a] X.env = (false, eval a X.env) :: starEach [] X.env := by rfl) : PE X (.Call (.Name "len" p) [.Call (.Name "set" p2) [a] [] q] [] pos) (tLenSetT (α := α) K ta) := by
  subst hK
  refine ⟨fun pins s σ H Q I h => ?_⟩
  refine Call_ (ld_blt I hg hm PySem.boot_len ?_)
  refine PyProof.Rows.callWith_builtin1 (PyProof.Rows.args_cons ?_ rfl) rfl rfl
  refine Call_ (ld_blt I hg2 hm2 PyProof.Rows.boot_set ?_)
  refine PyProof.Rows.callWith_type1 (PyProof.Rows.args_cons (thn (ha.run pins s σ H _ I h) fun v s1 ⟨x, H1, I1, r1, q1⟩ => PyProof.Rows.args_nil ?_) na) na rfl
  obtain ⟨l, vs, ds, rfl, hq, hA, h1, q1⟩ := q1
  cases r1
  obtain ⟨ks, rfl, e2, e3⟩ := ik_rows ds hA
  obtain ⟨its, rv, pl, hz⟩ := I1.list hq
  have hlen : ks.length = ds.length := by have := congrArg List.length e2; rwa [List.length_map, List.length_map, eq_comm] at this
  refine call_set_tups (P := X.prog) (w := X.w) ks (I1.ok.hd hc) pl.isList (by simpa using refs_of_vals rv) (fun p hp => I1.isT (e3 p hp)) (by omega) (by omega) fun h' tk L es ep t R g k => ?_
  have hL : L.length = (undup ds).length := by
    have k1 := R.nd
    have k2 : ((undup ds).map IK.ks).Nodup := by
      refine List.pairwise_map.mpr ((nodup_undup ds).imp fun {x y} hne e => hne (IK.inj x y e))
    have := len_same k1 k2 fun z => by
      constructor
      · intro hz
        obtain ⟨p, hp, rfl⟩ := List.mem_map.mp hz
        have hp2 := List.mem_of_mem_take (g.sub p hp)
        have : p.2 ∈ ds.map IK.ks := by rw [e2]; exact List.mem_map.mpr ⟨p, hp2, rfl⟩
        obtain ⟨x, hx, e⟩ := List.mem_map.mp this
        exact List.mem_map.mpr ⟨x, mem_undup.mpr hx, e⟩
      · intro hz
        obtain ⟨x, hx, rfl⟩ := List.mem_map.mp hz
        have : IK.ks x ∈ ks.map (·.2) := by rw [← e2]; exact List.mem_map.mpr ⟨x, mem_undup.mp hx, rfl⟩
        obtain ⟨p, hp, e⟩ := List.mem_map.mp this
        rw [← e]
        exact g.all p (by rw [List.take_length]; exact hp)
    rwa [List.length_map, List.length_map] at this
  refine PyProof.Rows.args_nil ?_
  obtain ⟨o, ho, hex, hd⟩ := R.ob
  have I2 : Inv X pins σ H1 { s1 with heap := h', toks := tk } := I1.kept fun b o e => k b o e
  have hsz : es.size = L.length := SetTR.size (s := { s1 with heap := h', toks := tk }) R
  have hfit : t.fits es.size = true := SetTR.fits (s := { s1 with heap := h', toks := tk }) R
  have hfew := R.few
  refine call_len_set (s := { s1 with heap := h', toks := tk }) ho hex hd hfit (by rw [hsz]; omega) ⟨.int ((undup ds).length : Nat), H1, I2.tok _, ⟨_, by rw [hsz, hL]⟩, q1⟩
end G
/-! My base, part 23: dicts of one's own. -/
namespace G
open PySem PySem.Spec PyProof.Rows L2 TL

/-- a thing of one's own at p, whatever it is, but no tuple -/
structure Od (H0 F H : Hp) (p : Addr) (ob : HO) : Prop where
  h : H p = some ob
  nF : F p = none
  n0 : H0 p = none
  nt : ∀ ts, ob ≠ .tup ts
section
variable {M : Addr → Prop} {F0 H0 F H F' H' : Hp} {p q B C : Addr} {ob o u : HO} {K : PySem.W.Frag} {xs ws us : List V} {b : Bag} {b2 : Bag2}
theorem Od.new (g : Gr M F0 H0 F H) (hp : H p = none) (nt : ∀ ts, o ≠ .tup ts) : Od H0 F (upd H p o) p o := ⟨upd_same, g.noneF hp, g.none0 hp, nt⟩
theorem Od.frz (w : Od H0 F H p ob) (hq : H q = none) : Od H0 (upd F q o) (upd H q o) p ob :=
  have ne := ne_of_none w.h hq
  ⟨(upd_ne ne).trans w.h, (upd_ne ne).trans w.nF, w.n0, w.nt⟩
theorem Od.own (w : Od H0 F H p ob) (hq : H q = none) : Od H0 F (upd H q o) p ob :=
  have ne := ne_of_none w.h hq
  ⟨(upd_ne ne).trans w.h, w.nF, w.n0, w.nt⟩
theorem Od.put (w : Od H0 F H p ob) (nt : ∀ ts, o ≠ .tup ts) : Od H0 F (upd H p o) p o := ⟨upd_same, w.nF, w.n0, nt⟩
theorem Od.other (w : Od H0 F H p ob) (ne : p ≠ q) : Od H0 F (upd H q o) p ob := ⟨(upd_ne ne).trans w.h, w.nF, w.n0, w.nt⟩
theorem Od.ne (w : Od H0 F H p ob) (hq : H q = none) : p ≠ q := ne_of_none w.h hq
theorem Od.gr (w : Od H0 F H p ob) (g : Gr M F H F' H') (m : ¬ M p) : Od H0 F' H' p ob :=
  ⟨g.keep _ _ m w.h, g.newL (by rw [w.h]; simp) w.nF (fun ts z => by rw [g.keep _ _ m w.h] at z; exact w.nt ts (Option.some.inj z)), w.n0, w.nt⟩
theorem Od.gr0 (w : Od H0 F H p ob) (g : Gr M0 F H F' H') : Od H0 F' H' p ob := w.gr g id
theorem Od.fz (w : Od H0 F H p ob) (ne : p ≠ q) : Od H0 (upd F q o) H p ob := ⟨w.h, (upd_ne ne).trans w.nF, w.n0, w.nt⟩
theorem Od.apart (w : Od H0 F H p ob) (k : Gr M0 H H F' H') : Od H0 F H' p ob := ⟨k.keep _ _ id w.h, w.nF, w.n0, w.nt⟩
theorem Od.adopt {ts : List V} (w : Od H0 F H p ob) (h : H q = some (.tup ts)) : Od H0 (upd F q (.tup ts)) H p ob :=
  have ne : p ≠ q := fun z => by subst z; rw [w.h] at h; exact w.nt ts (Option.some.inj h)
  ⟨w.h, (upd_ne ne).trans w.nF, w.n0, w.nt⟩
theorem Ow.adopt {ts : List V} (w : Ow H0 F H p ws) (h : H q = some (.tup ts)) : Ow H0 (upd F q (.tup ts)) H p ws :=
  have ne : p ≠ q := fun z => by subst z; rw [w.h] at h; cases h
  ⟨w.h, (upd_ne ne).trans w.nF, w.n0⟩
theorem BagAt.adopt {ts : List V} (a : BagAt F H B C b) (h : H q = some (.tup ts)) : BagAt (upd F q (.tup ts)) H B C b :=
  have n1 : B ≠ q := fun z => by subst z; rw [a.hB] at h; cases h
  have n2 : C ≠ q := fun z => by subst z; rw [a.hC] at h; cases h
  ⟨a.hB, a.hC, a.ne, (upd_ne n1).trans a.fB, (upd_ne n2).trans a.fC⟩
theorem BagAt2.adopt {ts : List V} (a : BagAt2 F H B C b2) (h : H q = some (.tup ts)) : BagAt2 (upd F q (.tup ts)) H B C b2 :=
  have n1 : B ≠ q := fun z => by subst z; rw [a.hB] at h; cases h
  have n2 : C ≠ q := fun z => by subst z; rw [a.hC] at h; cases h
  ⟨a.hB, a.hC, a.ne, (upd_ne n1).trans a.fB, (upd_ne n2).trans a.fC⟩
end

/-! ### tables of pairs -/
section
variable {α β γ : Type} [DecidableEq α]
def dval (xs : List (α × β)) (x : α) : Option β := (xs.find? fun p => decide (p.1 = x)).map (·.2)
def dput (xs : List (α × β)) (x : α) (y : β) : List (α × β) := if (dval xs x).isSome then xs.map (fun p => if p.1 = x then (p.1, y) else p) else xs ++ [(x, y)]
def dputO (xs : List (α × β)) (x : α) (y : β) : Option (List (α × β)) := if xs.length < sizeLine then some (dput xs x y) else none
theorem dputO_ok {xs r : List (α × β)} {x : α} {y : β} (h : dputO xs x y = some r) : xs.length < sizeLine ∧ dput xs x y = r := by
  unfold dputO at h
  split at h
  · next h1 => exact ⟨h1, Option.some.inj h⟩
  · cases h
theorem dval_nil (x : α) : dval ([] : List (α × β)) x = none := rfl
theorem dval_pos {p : α × β} {r : List (α × β)} {x : α} (e : p.1 = x) : dval (p :: r) x = some p.2 := by simp [dval, List.find?_cons, e]
theorem dval_neg {p : α × β} {r : List (α × β)} {x : α} (e : ¬ p.1 = x) : dval (p :: r) x = dval r x := by simp [dval, List.find?_cons, e]
theorem dput_len (xs : List (α × β)) (x : α) (y : β) : (dput xs x y).length ≤ xs.length + 1 := by
  unfold dput
  split
  · rw [List.length_map]; exact Nat.le_succ _
  · rw [List.length_append]; exact Nat.le_refl _
end

/-- things that are keys: ints, texts, tuples of these -/
class DK (α : Type) [Enc α] where
  Kt : Type
  dec : DecidableEq Kt
  ho : List (Kt × V) → HO
  k : α → Kt
  inj : ∀ {x y : α}, k x = k y → x = y
  ok : α → Prop
  okR : ∀ {K : PySem.W.Frag} {F : Hp} {v : V} {x : α}, R K F v x → ok x
  nt : ∀ kvs ts, ho kvs ≠ .tup ts
  mu : ∀ kvs, Mut (some (ho kvs))
  isD : ∀ {H : Hp} {p : Addr} {kvs : List (Kt × V)}, Rd H p (ho kvs) → IsD H p
  get : ∀ {K : PySem.W.Frag} {F H : Hp} {p : Addr} {y : V} {x : α} {kvs : List (Kt × V)}, Rd H p (ho kvs) → R K F y x → Same F H → DGet H p y (@valV Kt dec kvs (k x))
  put : ∀ {K : PySem.W.Frag} {F H : Hp} {p : Addr} {y v : V} {x : α} {kvs : List (Kt × V)}, H p = some (ho kvs) → R K F y x → Same F H → kvs.length < sizeLine → DPut H p y v (upd H p (ho (@putK Kt dec kvs (k x) v)))
instance {α : Type} [Enc α] [DK α] : DecidableEq (DK.Kt α) := DK.dec
instance : DK Int where
  Kt := Key
  dec := inferInstance
  ho := .dK
  k := Sum.inl
  inj := fun h => Sum.inl.inj h
  ok := fun _ => True
  okR := fun _ => trivial
  nt := fun _ _ z => nomatch z
  mu := fun _ => trivial
  isD := fun h => .inl ⟨_, h⟩
  get := fun h r s => by
    obtain rfl := R.int_v r
    exact .inl ⟨_, _, h, rfl, rfl⟩
  put := fun h r s hl => by
    obtain rfl := R.int_v r
    exact .inl ⟨_, _, h, rfl, hl, rfl⟩
instance : DK Str where
  Kt := Key
  dec := inferInstance
  ho := .dK
  k := Sum.inr
  inj := fun h => Sum.inr.inj h
  ok := GS
  okR := fun r => (R.str_v r).2
  nt := fun _ _ z => nomatch z
  mu := fun _ => trivial
  isD := fun h => .inl ⟨_, h⟩
  get := fun h r s => by
    obtain ⟨rfl, _⟩ := R.str_v r
    exact .inl ⟨_, _, h, rfl, rfl⟩
  put := fun h r s hl => by
    obtain ⟨rfl, _⟩ := R.str_v r
    exact .inl ⟨_, _, h, rfl, hl, rfl⟩
/-- a tuple of ints as a key -/
abbrev ikeys (ns : List Int) : List Key := ns.map Sum.inl
theorem ikeys_kV (ns : List Int) : (ikeys ns).map kV = ns.map V.int := by rw [ikeys, List.map_map]; rfl
theorem ik_tup {α : Type} [Enc α] [IK α] {K : PySem.W.Frag} {F : Hp} {v : V} {x : α} (r : R K F v x) : ∃ b, v = .ref b ∧ F b = some (.tup ((ikeys (IK.ks x)).map kV)) := by
  have r' : Rp K F v (.tuple ((IK.ks x).map .int)) := by rw [← IK.enc x]; exact r
  cases r' with
  | tup hs hl ha =>
    obtain rfl := rp_ints ha
    exact ⟨_, rfl, by rw [ikeys_kV]; exact hs⟩
theorem ikeys_inj : ∀ {a b : List Int}, ikeys a = ikeys b → a = b
  | [], [], _ => rfl
  | [], _ :: _, h => by cases h
  | _ :: _, [], h => by cases h
  | x :: a, y :: b, h => by
    have h' : Sum.inl x :: ikeys a = Sum.inl y :: ikeys b := h
    obtain ⟨h1, h2⟩ := List.cons.inj h'
    rw [Sum.inl.inj h1, ikeys_inj h2]
instance {α : Type} [Enc α] [IK α] : DK α where
  Kt := List Key
  dec := inferInstance
  ho := .dT
  k := fun x => ikeys (IK.ks x)
  inj := fun h => IK.inj _ _ (ikeys_inj h)
  ok := fun _ => True
  okR := fun _ => trivial
  nt := fun _ _ z => nomatch z
  mu := fun _ => trivial
  isD := fun h => .inr ⟨_, h⟩
  get := fun h r s => by
    obtain ⟨b, rfl, hb⟩ := ik_tup r
    exact .inr ⟨_, _, b, h, rfl, s _ _ hb, rfl⟩
  put := fun h r s hl => by
    obtain ⟨b, rfl, hb⟩ := ik_tup r
    exact .inr ⟨_, _, b, h, rfl, s _ _ hb, hl, rfl⟩

/-- the entries kvs stand for the pairs xs -/
def RD {α β : Type} [Enc α] [DK α] [Enc β] (K : PySem.W.Frag) (F : Hp) (kvs : List (DK.Kt α × V)) (xs : List (α × β)) : Prop :=
  kvs.map (·.1) = xs.map (fun p => DK.k p.1) ∧ RL K F (kvs.map (·.2)) (xs.map (·.2)) ∧ ∀ p ∈ xs, DK.ok p.1
section
variable {α β : Type} [Enc α] [DK α] [Enc β] {K : PySem.W.Frag} {F F' : Hp} {kvs : List (DK.Kt α × V)} {xs : List (α × β)}
theorem RD.nil : RD K F ([] : List (DK.Kt α × V)) ([] : List (α × β)) := ⟨rfl, RpA.nil, fun _ h => nomatch h⟩
theorem RD.up (h : RD K F kvs xs) (e : Same F F') : RD K F' kvs xs := ⟨h.1, RpA.up h.2.1 e, h.2.2⟩
theorem RD.len (h : RD K F kvs xs) : kvs.length = xs.length := by
  have := congrArg List.length h.1
  rwa [List.length_map, List.length_map] at this
theorem RD.cons_iff {q : DK.Kt α × V} {p : α × β} : RD K F (q :: kvs) (p :: xs) ↔ (q.1 = DK.k p.1 ∧ R K F q.2 p.2 ∧ DK.ok p.1) ∧ RD K F kvs xs := by
  constructor
  · rintro ⟨h1, h2, ho⟩
    obtain ⟨h3, h4⟩ := List.cons.inj h1
    cases h2 with
    | cons r rs => exact ⟨⟨h3, r, ho _ (List.mem_cons_self ..)⟩, h4, rs, fun p hp => ho p (List.mem_cons_of_mem _ hp)⟩
  · rintro ⟨⟨h3, r, o⟩, h4, rs, ho⟩
    refine ⟨by rw [List.map_cons, List.map_cons, h3, h4], RpA.cons r rs, fun p hp => ?_⟩
    rcases List.mem_cons.mp hp with rfl | hp
    · exact o
    · exact ho p hp
theorem RD.nil_l (h : RD K F kvs ([] : List (α × β))) : kvs = [] := List.eq_nil_of_length_eq_zero h.len
theorem RD.cons_l {p : α × β} (h : RD K F kvs (p :: xs)) : ∃ q qs, kvs = q :: qs := by
  cases kvs with
  | nil => exact absurd h.len (by simp)
  | cons q qs => exact ⟨q, qs, rfl⟩
variable [DecidableEq α]
theorem RD.val : ∀ {xs : List (α × β)} {kvs : List (DK.Kt α × V)}, RD K F kvs xs → ∀ x : α, (dval xs x = none ∧ valV kvs (DK.k x) = none) ∨ ∃ y v, dval xs x = some y ∧ valV kvs (DK.k x) = some v ∧ R K F v y
  | [], kvs, h, x => by
    obtain rfl := h.nil_l
    exact .inl ⟨rfl, rfl⟩
  | p :: xs, kvs, h, x => by
    obtain ⟨q, qs, rfl⟩ := h.cons_l
    obtain ⟨⟨h1, h2, ho⟩, h3⟩ := RD.cons_iff.mp h
    by_cases e : p.1 = x
    · exact .inr ⟨p.2, q.2, dval_pos e, valV_pos (by rw [h1, e]), h2⟩
    · have e2 : ¬ q.1 = DK.k x := fun z => e (DK.inj (h1.symm.trans z))
      rw [dval_neg e, valV_neg e2]
      exact RD.val h3 x
theorem RD.get (h : RD K F kvs xs) {x : α} {y : β} (e : dval xs x = some y) : ∃ v, valV kvs (DK.k x) = some v ∧ R K F v y := by
  rcases h.val x with ⟨z, _⟩ | ⟨y', v, z, e2, r⟩
  · rw [z] at e; cases e
  · rw [z] at e; cases e; exact ⟨v, e2, r⟩
theorem RD.is (h : RD K F kvs xs) (x : α) : (valV kvs (DK.k x)).isSome = (dval xs x).isSome := by
  rcases h.val x with ⟨z, z2⟩ | ⟨y', v, z, e2, r⟩
  · rw [z, z2]; rfl
  · rw [z, e2]; rfl
theorem RD.getD (h : RD K F kvs xs) (x : α) {z : V} {d : β} (r : R K F z d) : R K F ((valV kvs (DK.k x)).getD z) ((dval xs x).getD d) := by
  rcases h.val x with ⟨e, e2⟩ | ⟨y', v, e, e2, r2⟩
  · rw [e, e2]; exact r
  · rw [e, e2]; exact r2
theorem RD.getO (h : RD K F kvs xs) (x : α) : R K F ((valV kvs (DK.k x)).getD .non) (dval xs x) := by
  rcases h.val x with ⟨e, e2⟩ | ⟨y', v, e, e2, r2⟩
  · rw [e, e2]; exact Rp.non
  · rw [e, e2]; exact r2
theorem RD.app {us : List (DK.Kt α × V)} {ys : List (α × β)} (h : RD K F kvs xs) (h2 : RD K F us ys) : RD K F (kvs ++ us) (xs ++ ys) :=
  ⟨by rw [List.map_append, List.map_append, h.1, h2.1], by rw [List.map_append, List.map_append]; exact RL.app h.2.1 h2.2.1, fun p hp => (List.mem_append.mp hp).elim (h.2.2 p) (h2.2.2 p)⟩
theorem RD.repl (x : α) {y : β} {v : V} (r : R K F v y) : ∀ {xs : List (α × β)} {kvs : List (DK.Kt α × V)}, RD K F kvs xs → RD K F (kvs.map fun kv => if kv.1 = DK.k x then (kv.1, v) else kv) (xs.map fun p => if p.1 = x then (p.1, y) else p)
  | [], kvs, h => by
    obtain rfl := h.nil_l
    exact RD.nil
  | p :: xs, kvs, h => by
    obtain ⟨q, qs, rfl⟩ := h.cons_l
    obtain ⟨⟨h1, h2, ho⟩, h3⟩ := RD.cons_iff.mp h
    rw [List.map_cons, List.map_cons]
    refine RD.cons_iff.mpr ⟨?_, RD.repl x r h3⟩
    by_cases e : p.1 = x
    · rw [if_pos e, if_pos (by rw [h1, e])]; exact ⟨h1, r, ho⟩
    · rw [if_neg e, if_neg (fun z => e (DK.inj (h1.symm.trans z)))]; exact ⟨h1, h2, ho⟩
theorem RD.put (h : RD K F kvs xs) (x : α) (hx : DK.ok x) {y : β} {v : V} (r : R K F v y) : RD K F (putK kvs (DK.k x) v) (dput xs x y) := by
  have e : (kvs.any fun kv => decide (kv.1 = DK.k x)) = (dval xs x).isSome := by rw [valV_any]; exact h.is x
  unfold putK dput
  rw [e]
  by_cases q : (dval xs x).isSome = true
  · rw [if_pos q, if_pos q]; exact RD.repl x r h
  · rw [if_neg q, if_neg q]
    exact h.app (RD.cons_iff.mpr ⟨⟨rfl, r, hx⟩, RD.nil⟩)
omit [DecidableEq α] in
theorem RD.at : ∀ {xs : List (α × β)} {kvs : List (DK.Kt α × V)} {i : Nat} {q : DK.Kt α × V}, RD K F kvs xs → kvs[i]? = some q → ∃ p, xs[i]? = some p ∧ q.1 = DK.k p.1 ∧ R K F q.2 p.2 ∧ DK.ok p.1
  | [], kvs, i, q, h, e => by
    obtain rfl := h.nil_l
    simp at e
  | p :: xs, kvs, i, q, h, e => by
    obtain ⟨q', qs, rfl⟩ := h.cons_l
    obtain ⟨⟨h1, h2, ho⟩, h3⟩ := RD.cons_iff.mp h
    cases i with
    | zero =>
      rw [List.getElem?_cons_zero] at e
      cases e
      exact ⟨p, rfl, h1, h2, ho⟩
    | succ j =>
      rw [List.getElem?_cons_succ] at e
      rw [List.getElem?_cons_succ]
      exact RD.at h3 e
end

/-! ### rules -/
section
variable {X : Cx}
def rInDic : R2 := fun x y H Q => ∃ a o b, y = .ref a ∧ DGet H a x o ∧ o.isSome = b ∧ Q (.bl b) H
def rNotInDic : R2 := fun x y H Q => ∃ a o b, y = .ref a ∧ DGet H a x o ∧ o.isSome = b ∧ Q (.bl (!b)) H
theorem op_inDic (hu : X.A.units + 1 < cLine) : OpR X (compareOp .In) rInDic := by
  intro pins s σ H x y v u Q I rx ry ⟨a, o, b, e, g, e2, q⟩
  subst e e2
  obtain rfl : u = Value.ref a := ry
  exact d_in hu I g rx fun s1 I1 => ⟨.bl o.isSome, H, I1, rfl, q⟩
theorem op_notInDic (hu : X.A.units + 1 < cLine) : OpR X (compareOp .NotIn) rNotInDic := by
  intro pins s σ H x y v u Q I rx ry ⟨a, o, b, e, g, e2, q⟩
  subst e e2
  obtain rfl : u = Value.ref a := ry
  exact d_notIn hu I g rx fun s1 I1 => ⟨.bl (!o.isSome), H, I1, rfl, q⟩
/-- d.get(k), d.get(k, z): what comes is named -/
def tGet1 (td ty : TE) : TE := fun σ H Q => td σ H fun x H1 => ∃ a, x = .ref a ∧ IsD H1 a ∧ ty σ H1 fun y H2 => ∃ o r, DGet H2 a y o ∧ o.getD .non = r ∧ Q r H2
def tGet2 (td ty tx : TE) : TE := fun σ H Q => td σ H fun x H1 => ∃ a, x = .ref a ∧ IsD H1 a ∧ ty σ H1 fun y H2 => tx σ H2 fun z H3 => ∃ o r, DGet H3 a y o ∧ o.getD z = r ∧ Q r H3
theorem pe_get1 {o e : Expr} {apos cpos : Pos} {td ty : TE} (hu : X.A.units + 1 < cLine) (ho : PE X o td) (he : PE X e ty) (m : M1 X o "get" apos e cpos) : PE X (.Call (.Attribute o "get" apos) [e] [] cpos) (tGet1 td ty) := by
  refine ⟨fun pins s σ H Q I h => ?_⟩
  refine wpAny_Call_method m.base m.few m.line PySem.F.plainAttrs_dict PySem.F.slot_dict_get PySem.F.type_dict_get (thn (ho.run pins s σ H _ I h) fun u s1 ⟨x, H1, I1, rx, a, ex, d, q1⟩ => ?_)
  subst ex
  obtain rfl : u = Value.ref a := rx
  obtain ⟨t1, t2, _⟩ := isD_at I1 d
  refine ⟨t1, t2, ?_⟩
  rw [m.trees]
  refine Calls.callWith_builtin rfl (Calls.evalArgs_plain (Calls.spliced_cons (thn (he.run pins s1 σ H1 _ I1 q1) fun iv s2 ⟨y, H2, I2, ry, ov, r, g, e, q2⟩ => Calls.spliced_nil ?_)))
  subst e
  exact d_get1 hu I2 g ry fun w' s3 I3 rw' => ⟨_, H2, I3, rw', q2⟩
theorem pe_get2 {o e f : Expr} {apos cpos : Pos} {td ty tx : TE} (hu : X.A.units + 1 < cLine) (ho : PE X o td) (he : PE X e ty) (hf : PE X f tx) (m : M2 X o "get" apos e f cpos) : PE X (.Call (.Attribute o "get" apos) [e, f] [] cpos) (tGet2 td ty tx) := by
  refine ⟨fun pins s σ H Q I h => ?_⟩
  refine wpAny_Call_method m.base m.few m.line PySem.F.plainAttrs_dict PySem.F.slot_dict_get PySem.F.type_dict_get (thn (ho.run pins s σ H _ I h) fun u s1 ⟨x, H1, I1, rx, a, ex, d, q1⟩ => ?_)
  subst ex
  obtain rfl : u = Value.ref a := rx
  obtain ⟨t1, t2, _⟩ := isD_at I1 d
  refine ⟨t1, t2, ?_⟩
  rw [m.trees]
  refine Calls.callWith_builtin rfl (Calls.evalArgs_plain (Calls.spliced_cons (thn (he.run pins s1 σ H1 _ I1 q1) fun iv s2 ⟨y, H2, I2, ry, q2⟩ =>
    Calls.spliced_cons (thn (hf.run pins s2 σ H2 _ I2 q2) fun fv s3 ⟨z, H3, I3, rz, ov, r, g, e, q3⟩ => Calls.spliced_nil ?_))))
  subst e
  exact d_get2 hu I3 g ry rz fun w' s4 I4 rw' => ⟨_, H3, I4, rw', q3⟩
/-- {k: v}, k a tuple of ints and texts -/
def tDispT (tk tv : TE) : TE := fun σ H Q => ∀ p, H p = none → tk σ (upd H p (.dT [])) fun y H1 => tv σ H1 fun v H2 =>
  H2 p = some (.dT []) ∧ ∃ (b : Addr) (k : List Key), y = .ref b ∧ H2 b = some (.tup (k.map kV)) ∧ Q (.ref p) (upd H2 p (.dT [(k, v)]))
theorem pe_dispT {pos : Pos} {k v : Expr} {tk tv : TE} (hu : X.A.units < cLine) (hk : PE X k tk) (hv : PE X v tv) : PE X (.Dict [some k] [v] pos) (tDispT tk tv) := by
  refine ⟨fun pins s σ H Q I q => ?_⟩
  have hn := I.hok.fresh (Nat.le_refl s.heap.objs.size)
  have I1 := I.laid (a := s.heap.objs.size) (o := .dT []) (h' := s.heap.push { cls := .type "dict", data := .dict #[] }) (t' := s.toks) (fun _ _ q => Heap.get?_push_of_some _ q) (Nat.le_refl _) (dt_empty s.heap I.big)
  have sh := zip_pairTrees [some k] [v] X.env pos rfl rfl
  rw [arm_eval_Dict, sh, dictDisplay_pairs (pairTrees [some k] [v] X.env pos) (fun z => nomatch z) (by show 1 < 17; decide)]
  refine wpAny_bind (wpAny_standAt (wpAny_bind (wpAny_subDictH (knd := tupleKind (mixKind X.prog X.w)) hu (by show 1 ≤ 15; decide) ?_)))
  refine pairTrees_cons_walk (thn (hk.run pins _ σ _ _ I1 (q _ hn)) fun u s1 ⟨y, H1, I2, ry, q1⟩ => thn (hv.run pins s1 σ H1 _ I2 q1) fun w2 s2 ⟨y2, H2, I3, ry2, q2⟩ => pairTrees_nil_walk ?_)
  obtain ⟨e, b, ks, e1, hb, q3⟩ := q2
  subst e1
  obtain rfl : u = Value.ref b := ry
  obtain ⟨z, hd, xs, rel, dd⟩ := dt_of I3.hok e
  cases rel
  refine ⟨[(ks, b, w2)], ⟨rfl, rfl, key_of I3.hok hb, trivial⟩, dd, fun h' tk' dd' hs => wpAny_pure ?_⟩
  refine ⟨.ref s.heap.objs.size, _, ?_, rfl, q3⟩
  have he : ∃ q, h'.get? s.heap.objs.size = some q := let ⟨q, _, _, hq, _⟩ := dd'; ⟨q, hq⟩
  have neb : b ≠ s.heap.objs.size := ne_of hb e (fun z => nomatch z)
  refine d_write I3 (by rw [e]; exact True.intro) hs he ?_
  obtain ⟨o, es, ep, h1, h2, h3, h4, h5, h6⟩ := dd'
  refine ⟨by show 1 ≤ sizeLine; decide, hd, [(ks, b, w2)], .cons ⟨rfl, ?_, ry2⟩ .nil, o, es, ep, h1, h2, h3, h4, h6⟩
  show upd H2 _ _ b = _
  rw [upd_ne neb]
  exact hb
end

/-! ### walking -/
/-- the pairs of a locked dict with tuple keys, each a new tuple -/
def ItiT (d : Addr) (o : Obj) (kvs : List (List Key × V)) : It :=
  ⟨fun i H => H d = some (.frz o (.dT kvs)) ∧ i < kvs.length, fun i H x H' => ∃ T k v q, kvs[i]? = some (k, v) ∧ x = .ref T ∧ H T = none ∧ H q = some (.tup (k.map kV)) ∧ H' = upd H T (.tup [.ref q, v]), fun i H => H d = some (.frz o (.dT kvs)) ∧ kvs.length ≤ i⟩

section
variable {X : Cx} {pins : List (Addr × Obj)} {σ : L2.St} {H : Hp} {s : Shared} {d : Addr} {o : Obj}
theorem frzT2 {kvs : List (List Key × V)} (I : Inv X pins σ H s) (h : H d = some (.frz o (.dT kvs))) :
    (d == sysModules) = false ∧ s.heap.get? d = some o ∧ o.ExactDict ∧ ∃ (es : Array DictEntry) (ep : Nat), o.data = .dict es ep ∧ es.size = kvs.length ∧
      ∀ (i : Nat) (k : List Key) (v : V), kvs[i]? = some (k, v) → ∃ (en : DictEntry) (q : Addr), es[i]? = some en ∧ en.key = .ref q ∧ H q = some (.tup (k.map kV)) ∧ RelV v en.val := by
  obtain ⟨hd, z, hs, xs, pr, o', es, ep, ho, hx, hdt, he, _⟩ := I.hok d _ h
  rw [hd] at ho
  cases ho
  refine ⟨hs, hd, hx, es, ep, hdt, ?_, fun i k v e => ?_⟩
  · have l1 : es.size = xs.length := size_of_entries he
    have l2 : kvs.length = xs.length := Paired.length pr
    omega
  · obtain ⟨b, hb, e1, e2, e3⟩ := paired_get pr e
    have q := entry_at he i
    rw [hb] at q
    exact ⟨_, b.2.1, q, rfl, e2, e3⟩
end
section
variable {P : Program} {w : World} {K : PySem.W.Frag} {d : Addr} {o : Obj} {es : Array DictEntry} {ep : Nat}
theorem turn_itemsT {kvs : List (List Key × V)} {elts : List Expr} {kk : Nat} {tpos : Pos} (it : Addr) (hod : o.data = .dict es ep) :
    Turn P w K (.Tuple elts kk tpos) (ItiT d o kvs) [it] it (fun i h => ∃ ok ov, IsItemIter h it d i kvs.length ep ok ov) where
  mem := by simp
  obj := fun i h st b hb => by
    have e : b = it := by simpa using hb
    subst e
    obtain ⟨ok, ov, e⟩ := st
    exact ⟨_, e, fun v z => nomatch z⟩
  keep := fun i h h' st k => let ⟨ok, ov, e⟩ := st; ⟨ok, ov, k it (by simp) _ e⟩
  item := by
    intro X hP hw hK hc i pins s σ H E I hf st hg
    subst hP hw hK
    obtain ⟨hd, hi⟩ := hg
    obtain ⟨hs, hgd, hx, es', ep', hdt, hsz, ent⟩ := frzT2 I hd
    obtain ⟨rfl, rfl⟩ := dict_ep hod hdt
    obtain ⟨⟨k, v⟩, hkv⟩ : ∃ p, kvs[i]? = some p := ⟨kvs[i], List.getElem?_eq_getElem hi⟩
    obtain ⟨en, q, hen, hkey, hq, ru⟩ := ent i k v hkv
    obtain ⟨ok, ov, he⟩ := st
    rw [← hsz] at he
    have hlt : it < s.heap.objs.size := Heap.lt_size he
    have hi2 : i < es'.size := by omega
    have hen2 : es'[i] = en := by rw [Array.getElem?_eq_getElem hi2] at hen; exact Option.some.inj hen
    refine DT.nextI he ⟨o, hgd, hx, hdt⟩ hi2 fun h' ho hT hz hk => ?_
    rw [hen2] at ho hT
    refine ⟨_, rfl, wpAny_letOwnedTupleGo_items (s := { s with heap := h' }) ho fun h'' he' sb => ?_⟩
    have hT2 : h''.get? s.heap.objs.size = some { cls := .type "tuple", data := .seq #[en.key, en.val] } := (sb.2 _ (Nat.ne_of_gt hlt)).trans hT
    have new : ObjOk X.prog X.w (upd H s.heap.objs.size (.tup [.ref q, v])) h'' s.heap.objs.size (.tup [.ref q, v]) :=
      ⟨by show 2 ≤ sizeLine; decide, [en.key, en.val], .cons hkey (.cons ru .nil), ⟨_, hT2, rfl, _, rfl⟩⟩
    have I1 : Inv X pins σ (upd H s.heap.objs.size (.tup [.ref q, v])) { s with heap := h'' } :=
      I.turnedNew (t' := s.toks) (ch := [it]) (fun b ob hb e => (sb.2 b (by simpa using hb)).trans (hk b ob (by simpa using hb) e)) hf (Nat.le_refl _) new
    refine ⟨.ref s.heap.objs.size, _, I1, rfl, ⟨_, k, v, q, hkv, rfl, I.hok.fresh (Nat.le_refl _), hq, rfl⟩, ⟨en.key, en.val, ?_⟩, fun b hb => ?_⟩
    · rw [← hsz]; exact he'
    · have e : b = it := by simpa using hb
      rw [e, upd_ne (Nat.ne_of_lt hlt)]
      exact (hf it (by simp)).1
  done := by
    intro X hP hw hK hc i pins s σ H E I hf st hg
    subst hP hw hK
    obtain ⟨hd, hi⟩ := hg
    obtain ⟨f0, f1, f2, f3, f4, f5⟩ := hf it (by simp)
    obtain ⟨hs, hgd, hx, es', ep', hdt, hsz, ent⟩ := frzT2 I hd
    obtain ⟨rfl, rfl⟩ := dict_ep hod hdt
    obtain ⟨ok, ov, he⟩ := st
    rw [← hsz] at he
    exact DT.endI (I.ok.hd hc) he ⟨o, hgd, hx, hdt⟩ (by omega) fun h' eb => ⟨rfl, I.turned (t' := s.toks) (fun b ob hb e => eb b ob hb e) f0 f1 f3 f4 f5⟩
  self := fun A i s Q E st h => let ⟨_, _, e⟩ := st; PySem.W.kcp_self e h
end
def iItemsT (td : TE) : TI := fun σ H R => td σ H fun x H1 => ∃ d o kvs, x = .ref d ∧ H1 d = some (.frz o (.dT kvs)) ∧ R (ItiT d o kvs) H1
theorem pi_itemsT {X : Cx} {e : Expr} {td : TE} {apos cpos : Pos} {elts : List Expr} {kk : Nat} {tpos : Pos} (he : PE X e td) (hbase : attributeBase e "items" X.env (eval e X.env) = eval e X.env := by rfl) (hline : (apos.endLine == cpos.line) = true := by rfl) :
    PI X (.Tuple elts kk tpos) (.Call (.Attribute e "items" apos) [] [] cpos) (iItemsT td) := by
  refine ⟨fun pins s σ H R I h => ?_⟩
  refine wpAny_Call_method (T := "dict") (id := "dict.items") hbase rfl hline F.plainAttrs_dict F.slot_dict_items F.type_dict_items (thn (he.run pins s σ H _ I h) fun u s1 ⟨x, H1, I1, rx, d, o, kvs, ex, hd, q⟩ => ?_)
  subst ex
  obtain rfl : u = Value.ref d := rx
  obtain ⟨hs, hgd, hx, es, ep, hdt, hsz, ent⟩ := frzT2 I1 hd
  have hm : DT.Raw s1.heap d es ep := ⟨o, hgd, hx, hdt⟩
  refine ⟨hm.typeIs, fun b q => by cases q; exact ⟨o, hgd, hx.2.1⟩, ?_⟩
  have I2 : Inv X pins σ H1 { s1 with heap := s1.heap.push { cls := .type "dict_items", data := .fields #[.ref d] } } := I1.kept (t' := s1.toks) fun b ob q => Heap.get?_push_of_some _ q
  have fin : wpAny (model X.prog X.w) X.A (pyIter (.ref s1.heap.objs.size)) (PIE X pins σ (.Tuple elts kk tpos) R) X.xe { s1 with heap := s1.heap.push { cls := .type "dict_items", data := .fields #[.ref d] } } := by
    refine DT.iterI (d := d) ⟨_, Heap.get?_push_size _ rfl, rfl, rfl⟩ (hm.push _) (pi_one (tk := s1.toks) I2 _ (turn_itemsT _ hdt) ⟨.none, .none, ?_⟩ q)
    rw [← hsz]
    exact Heap.get?_push_size _ rfl
  show wpAny _ _ (callWith cpos (.builtin "dict.items") [.ref d] [] []) _ X.xe s1
  exact method_meetsIn F.slot_dict_items F.entry_dict_items rfl (PySem.evalArgs_none ⟨rfl, hm.typeIs, F.args_dict_items_1 _, _, DT.meetsItems (es := es) (ep := ep) hs, hm, fin⟩)

/-- the kinds of keys, walked: what a turn gives -/
def YKeyT (kvs : List (List Key × V)) : Nat → Hp → V → Hp → Prop := fun i H x H' => H' = H ∧ ∃ (k : List Key) (v : V) (q : Addr), kvs[i]? = some (k, v) ∧ x = .ref q ∧ H q = some (.tup (k.map kV))
def YKeyK (kvs : List (Key × V)) : Nat → Hp → V → Hp → Prop := fun i H x H' => H' = H ∧ ∃ k v, kvs[i]? = some (k, v) ∧ x = kV k
def YItT (kvs : List (List Key × V)) : Nat → Hp → V → Hp → Prop := fun i H x H' => ∃ T k v q, kvs[i]? = some (k, v) ∧ x = .ref T ∧ H T = none ∧ H q = some (.tup (k.map kV)) ∧ H' = upd H T (.tup [.ref q, v])
theorem walk_keysT {d : Addr} {o : Obj} {kvs : List (List Key × V)} : Walk (Itkt d o kvs) kvs.length (fun H => H d = some (.frz o (.dT kvs))) (YKeyT kvs) :=
  ⟨fun i H hi h => ⟨h, hi⟩, fun H h => ⟨h, Nat.le_refl _⟩, fun i H x H' hi h y => y⟩
theorem walk_keysK {d : Addr} {o : Obj} {kvs : List (Key × V)} : Walk (Itk d o kvs) kvs.length (fun H => H d = some (.frz o (.dK kvs))) (YKeyK kvs) :=
  ⟨fun i H hi h => ⟨h, hi⟩, fun H h => ⟨h, Nat.le_refl _⟩, fun i H x H' hi h y => y⟩
theorem walk_itemsT {d : Addr} {o : Obj} {kvs : List (List Key × V)} : Walk (ItiT d o kvs) kvs.length (fun H => H d = some (.frz o (.dT kvs))) (YItT kvs) :=
  ⟨fun i H hi h => ⟨h, hi⟩, fun H h => ⟨h, Nat.le_refl _⟩, fun i H x H' hi h y => y⟩
/-- for k in d | a comprehension over d's keys, d locked -/
def iKeysT (td : TE) : TI := fun σ H R => td σ H fun x H1 => ∃ d o kvs, x = .ref d ∧ H1 d = some (.frz o (.dT kvs)) ∧ R (Itkt d o kvs) H1
def iKeysK (td : TE) : TI := fun σ H R => td σ H fun x H1 => ∃ d o kvs, x = .ref d ∧ H1 d = some (.frz o (.dK kvs)) ∧ R (Itk d o kvs) H1
section
variable {X : Cx} {tg e : Expr} {td : TE}
theorem pi_keysT (he : PE X e td) : PI X tg e (iKeysT td) := by
  refine ⟨fun pins s σ H R I h => ?_⟩
  refine thn (he.run pins s σ H _ I h) fun u s1 ⟨x, H1, I1, rx, d, o, kvs, ex, hd, q⟩ => ?_
  subst ex
  obtain rfl : u = Value.ref d := rx
  obtain ⟨hs, hgd, hx, es, ep, hdt, hsz, ent⟩ := I1.frzT hd
  refine iter_keys hs hgd hx hdt (pi_one (tk := s1.toks) I1 _ (turn_keysT _ hdt) ⟨_, Heap.get?_push_size _ rfl, rfl, ?_⟩ q)
  rw [hsz] <;> rfl
theorem pi_keysK (he : PE X e td) : PI X tg e (iKeysK td) := by
  refine ⟨fun pins s σ H R I h => ?_⟩
  refine thn (he.run pins s σ H _ I h) fun u s1 ⟨x, H1, I1, rx, d, o, kvs, ex, hd, q⟩ => ?_
  subst ex
  obtain rfl : u = Value.ref d := rx
  obtain ⟨hs, hgd, hx, es, ep, vs, hdt, hsz, kv, hm⟩ := I1.frzK hd
  refine iter_keys hs hgd hx hdt (pi_one (tk := s1.toks) I1 _ (turn_keys _ hdt) ⟨_, Heap.get?_push_size _ rfl, rfl, ?_⟩ q)
  rw [hsz] <;> rfl
end
section
variable {g : TG} {tt : TT} {te : TE} {tb : TS} {D : Ends} {vs : List Nat} {σ : L2.St} {H1 : Hp} {Dl d : Addr} {o : Obj} {Qd : Hp → Prop}
theorem lc_keysT {kvs : List (List Key × V)} (Pv : Nat → Hp → Prop) (h0 : Pv 0 (upd H1 Dl (.lst []))) (hG : ∀ i H, i ≤ kvs.length → Pv i H → H d = some (.frz o (.dT kvs)))
    (hs : ∀ i k v q H, kvs[i]? = some (k, v) → H q = some (.tup (k.map kV)) → Pv i H → g (.ref q) (wipe σ vs) H fun σ2 H2 => wipe σ2 vs = wipe σ vs ∧ tt σ2 H2 fun b H3 =>
      if b = true then te σ2 H3 fun y H4 => ∃ acc, H4 Dl = some (.lst acc) ∧ acc.length < sizeLine ∧ Pv (i + 1) (upd H4 Dl (.lst (acc ++ [y]))) else Pv (i + 1) H3) (hd : ∀ H, Pv kvs.length H → Qd H) :
    ∃ W : Nat → Nat → Hp → Prop, (∃ m, W 0 m (upd H1 Dl (.lst []))) ∧ ∀ i m H, W i m H →
      ((Itkt d o kvs).stop i H ∧ Qd H) ∨ ((Itkt d o kvs).go i H ∧ ∃ Nx : Hp → Prop, (∀ H', Nx H' → ∃ m', m' < m ∧ W (i + 1) m' H') ∧ ∀ x H', (Itkt d o kvs).yld i H x H' → g x (wipe σ vs) H' fun σ2 H2 => wipe σ2 vs = wipe σ vs ∧ tt σ2 H2 fun b H3 =>
        if b = true then te σ2 H3 fun y H4 => ∃ acc, H4 Dl = some (.lst acc) ∧ acc.length < sizeLine ∧ Nx (upd H4 Dl (.lst (acc ++ [y]))) else Nx H3) :=
  lc_it walk_keysT Pv h0 hG (fun i x H H' hi p ⟨e1, k, v, q, e2, e3, e4⟩ => by subst e1 e3; exact hs i k v q _ e2 e4 p) hd
theorem lc_keysK {kvs : List (Key × V)} (Pv : Nat → Hp → Prop) (h0 : Pv 0 (upd H1 Dl (.lst []))) (hG : ∀ i H, i ≤ kvs.length → Pv i H → H d = some (.frz o (.dK kvs)))
    (hs : ∀ i k v H, kvs[i]? = some (k, v) → Pv i H → g (kV k) (wipe σ vs) H fun σ2 H2 => wipe σ2 vs = wipe σ vs ∧ tt σ2 H2 fun b H3 =>
      if b = true then te σ2 H3 fun y H4 => ∃ acc, H4 Dl = some (.lst acc) ∧ acc.length < sizeLine ∧ Pv (i + 1) (upd H4 Dl (.lst (acc ++ [y]))) else Pv (i + 1) H3) (hd : ∀ H, Pv kvs.length H → Qd H) :
    ∃ W : Nat → Nat → Hp → Prop, (∃ m, W 0 m (upd H1 Dl (.lst []))) ∧ ∀ i m H, W i m H →
      ((Itk d o kvs).stop i H ∧ Qd H) ∨ ((Itk d o kvs).go i H ∧ ∃ Nx : Hp → Prop, (∀ H', Nx H' → ∃ m', m' < m ∧ W (i + 1) m' H') ∧ ∀ x H', (Itk d o kvs).yld i H x H' → g x (wipe σ vs) H' fun σ2 H2 => wipe σ2 vs = wipe σ vs ∧ tt σ2 H2 fun b H3 =>
        if b = true then te σ2 H3 fun y H4 => ∃ acc, H4 Dl = some (.lst acc) ∧ acc.length < sizeLine ∧ Nx (upd H4 Dl (.lst (acc ++ [y]))) else Nx H3) :=
  lc_it walk_keysK Pv h0 hG (fun i x H H' hi p ⟨e1, k, v, e2, e3⟩ => by subst e1 e3; exact hs i k v _ e2 p) hd
theorem lc_itemsT {kvs : List (List Key × V)} (Pv : Nat → Hp → Prop) (h0 : Pv 0 (upd H1 Dl (.lst []))) (hG : ∀ i H, i ≤ kvs.length → Pv i H → H d = some (.frz o (.dT kvs)))
    (hs : ∀ i k v q T H, kvs[i]? = some (k, v) → H q = some (.tup (k.map kV)) → H T = none → Pv i H → g (.ref T) (wipe σ vs) (upd H T (.tup [.ref q, v])) fun σ2 H2 => wipe σ2 vs = wipe σ vs ∧ tt σ2 H2 fun b H3 =>
      if b = true then te σ2 H3 fun y H4 => ∃ acc, H4 Dl = some (.lst acc) ∧ acc.length < sizeLine ∧ Pv (i + 1) (upd H4 Dl (.lst (acc ++ [y]))) else Pv (i + 1) H3) (hd : ∀ H, Pv kvs.length H → Qd H) :
    ∃ W : Nat → Nat → Hp → Prop, (∃ m, W 0 m (upd H1 Dl (.lst []))) ∧ ∀ i m H, W i m H →
      ((ItiT d o kvs).stop i H ∧ Qd H) ∨ ((ItiT d o kvs).go i H ∧ ∃ Nx : Hp → Prop, (∀ H', Nx H' → ∃ m', m' < m ∧ W (i + 1) m' H') ∧ ∀ x H', (ItiT d o kvs).yld i H x H' → g x (wipe σ vs) H' fun σ2 H2 => wipe σ2 vs = wipe σ vs ∧ tt σ2 H2 fun b H3 =>
        if b = true then te σ2 H3 fun y H4 => ∃ acc, H4 Dl = some (.lst acc) ∧ acc.length < sizeLine ∧ Nx (upd H4 Dl (.lst (acc ++ [y]))) else Nx H3) :=
  lc_it walk_itemsT Pv h0 hG (fun i x H H' hi p ⟨T, k, v, q, e2, e3, e4, e5, e6⟩ => by subst e3 e6; exact hs i k v q T _ e2 e5 e4 p) hd
theorem for_keysT {kvs : List (List Key × V)} {H : Hp} (Pv : Nat → L2.St → Hp → Prop) (h0 : Pv 0 σ H) (hG : ∀ i σ H, i ≤ kvs.length → Pv i σ H → H d = some (.frz o (.dT kvs)))
    (hs : ∀ i k v q σ H, kvs[i]? = some (k, v) → H q = some (.tup (k.map kV)) → Pv i σ H → g (.ref q) σ H fun σ2 H2 => tb { D with nx := Pv (i + 1), ct := Pv (i + 1), bk := D.nx } σ2 H2) (hd : ∀ σ H, Pv kvs.length σ H → D.nx σ H) :
    ∃ W : Nat → Nat → L2.St → Hp → Prop, (∃ m, W 0 m σ H) ∧ ∀ i m σ H, W i m σ H →
      ((Itkt d o kvs).stop i H ∧ D.nx σ H) ∨ ((Itkt d o kvs).go i H ∧ ∃ N : L2.St → Hp → Prop, (∀ σ' H', N σ' H' → ∃ m', m' < m ∧ W (i + 1) m' σ' H') ∧ ∀ x H', (Itkt d o kvs).yld i H x H' → g x σ H' fun σ2 H2 => tb { D with nx := N, ct := N, bk := D.nx } σ2 H2) :=
  for_it walk_keysT Pv h0 hG (fun i x σ H H' hi p ⟨e1, k, v, q, e2, e3, e4⟩ => by subst e1 e3; exact hs i k v q σ _ e2 e4 p) hd
end
/-- the key of a turn, as a thing -/
theorem ik_of {α : Type} [Enc α] [IK α] {K : PySem.W.Frag} {F : Hp} {b : Addr} {x : α} (h : F b = some (.tup ((ikeys (IK.ks x)).map kV))) : R K F (.ref b) x := by
  show Rp K F _ (Enc.d x)
  rw [IK.enc x]
  rw [ikeys_kV] at h
  refine .tup h (by rw [List.length_map]; exact Nat.le_trans (IK.few x) (by decide)) ?_
  generalize IK.ks x = ns
  induction ns with
  | nil => exact .nil
  | cons n ns ih => exact .cons (.int n) ih
theorem RD.re {α β : Type} [Enc α] [DK α] [Enc β] {K : PySem.W.Frag} {F : Hp} {kvs : List (DK.Kt α × V)} {xs ys : List (α × β)} (e : xs = ys) (h : RD K F kvs xs) : RD K F kvs ys := e ▸ h
theorem RD.keyT {α β : Type} [Enc α] [IK α] [Enc β] {K : PySem.W.Frag} {F : Hp} {kvs : List (List Key × V)} {xs : List (α × β)} {i : Nat} {k : List Key} {v : V} (h : RD (α := α) K F kvs xs) (e : kvs[i]? = some (k, v)) :
    ∃ x y, xs[i]? = some (x, y) ∧ (xs.map Prod.fst)[i]? = some x ∧ k = ikeys (IK.ks x) ∧ R K F v y := by
  obtain ⟨p, e1, e2, r, _⟩ := RD.at h e
  refine ⟨p.1, p.2, e1, by rw [List.getElem?_map, e1]; rfl, e2, r⟩
theorem RD.lenk {α β : Type} [Enc α] [DK α] [Enc β] {K : PySem.W.Frag} {F : Hp} {kvs : List (DK.Kt α × V)} {xs : List (α × β)} (h : RD K F kvs xs) : kvs.length = (xs.map Prod.fst).length := by rw [List.length_map]; exact h.len
theorem RD.one {α β : Type} [Enc α] [DK α] [Enc β] {K : PySem.W.Frag} {F : Hp} (x : α) (hx : DK.ok x) {y : β} {v : V} (r : R K F v y) : RD K F [(DK.k x, v)] [(x, y)] := RD.cons_iff.mpr ⟨⟨rfl, r, hx⟩, RD.nil⟩
theorem RD.keyI {β : Type} [Enc β] {K : PySem.W.Frag} {F : Hp} {kvs : List (Key × V)} {xs : List (Int × β)} {i : Nat} {k : Key} {v : V} (h : RD (α := Int) K F kvs xs) (e : kvs[i]? = some (k, v)) :
    ∃ x y, xs[i]? = some (x, y) ∧ (xs.map Prod.fst)[i]? = some x ∧ k = Sum.inl x ∧ R K F v y := by
  obtain ⟨p, e1, e2, r, _⟩ := RD.at h e
  exact ⟨p.1, p.2, e1, by rw [List.getElem?_map, e1]; rfl, e2, r⟩
theorem dput_le {α β : Type} [Enc α] [DK α] [Enc β] [DecidableEq α] {K : PySem.W.Frag} {F : Hp} {kvs : List (DK.Kt α × V)} {xs : List (α × β)} (h : RD K F kvs xs) {x : α} {v : V} (hl : xs.length < sizeLine) : (putK kvs (DK.k x) v).length ≤ sizeLine := by
  have := length_putK kvs (DK.k x) v
  rw [h.len] at this
  omega
theorem RD.keyS {β : Type} [Enc β] {K : PySem.W.Frag} {F : Hp} {kvs : List (Key × V)} {xs : List (Str × β)} {i : Nat} {k : Key} {v : V} (h : RD (α := Str) K F kvs xs) (e : kvs[i]? = some (k, v)) :
    ∃ x y, xs[i]? = some (x, y) ∧ (xs.map Prod.fst)[i]? = some x ∧ k = Sum.inr x ∧ R K F v y ∧ GS x := by
  obtain ⟨p, e1, e2, r, o⟩ := RD.at h e
  exact ⟨p.1, p.2, e1, by rw [List.getElem?_map, e1]; rfl, e2, r, o⟩
end G
/-! My base, part 24: lists of tuples of ints, sorted. -/
namespace G
open PySem PySem.Spec PyProof.Rows L2 TL
section
variable {α : Type} [Enc α] [IK α]
abbrev itZ (ns : List Int) : List (Int ⊕ List Nat) := ns.map Sum.inl
theorem itZ_inj : ∀ {a b : List Int}, itZ a = itZ b → a = b
  | [], [], _ => rfl
  | [], _ :: _, h => by cases h
  | _ :: _, [], h => by cases h
  | x :: a, y :: b, h => by
    have h' : Sum.inl x :: itZ a = Sum.inl y :: itZ b := h
    obtain ⟨h1, h2⟩ := List.cons.inj h'
    rw [Sum.inl.inj h1, itZ_inj h2]
def ltK (a b : α) : Bool := lexLt itemOrd (itZ (IK.ks a)) (itZ (IK.ks b))
def leK (a b : α) : Bool := !ltK b a
def sortK (xs : List α) : List α := xs.mergeSort leK
theorem leK_trans (a b c : α) (h1 : leK a b = true) (h2 : leK b c = true) : leK a c = true := by
  unfold leK at *
  rw [Bool.not_eq_true'] at *
  exact KeyOrd.kle_trans (O := listOrd itemOrd) (show (listOrd itemOrd).kle (itZ (IK.ks a)) (itZ (IK.ks b)) from h1) h2
theorem leK_total (a b : α) : (leK a b || leK b a) = true := by
  unfold leK
  cases h : ltK b a with
  | false => rfl
  | true =>
    have : ltK a b = false := KeyOrd.klt_asymm (O := listOrd itemOrd) h
    rw [this]; rfl
theorem sortK_perm (xs : List α) : (sortK xs).Perm xs := List.mergeSort_perm _ _
theorem sortK_sorted (xs : List α) : (sortK xs).Pairwise fun a b => leK a b = true := List.pairwise_mergeSort leK_trans leK_total xs
theorem sortK_len (xs : List α) : (sortK xs).length = xs.length := (sortK_perm xs).length_eq
theorem leK_anti {a b : α} (h1 : leK a b = true) (h2 : leK b a = true) : a = b := by
  unfold leK at *
  rw [Bool.not_eq_true'] at *
  exact IK.inj _ _ (itZ_inj ((listOrd itemOrd).total _ _ h2 h1))
theorem sortK_uniq {xs ys : List α} (h : ys.Perm xs) (h2 : ys.Pairwise fun a b => leK a b = true) : sortK xs = ys :=
  ((sortK_perm xs).trans h.symm).eq_of_pairwise (le := fun a b => leK a b = true) (fun a b _ _ h3 h4 => leK_anti h3 h4) (sortK_sorted xs) h2
theorem ik_same {K : PySem.W.Frag} {H : Hp} {v : V} {x y : α} (h1 : R K H v x) (h2 : R K H v y) : x = y := by
  obtain ⟨b, rfl, hb⟩ := ik_tup h1
  obtain ⟨b', e, hb'⟩ := ik_tup h2
  cases e
  rw [hb] at hb'
  rw [ikeys_kV, ikeys_kV] at hb'
  have e1 := Option.some.inj hb'
  have e2 : (IK.ks x).map V.int = (IK.ks y).map V.int := by injection e1
  refine IK.inj _ _ ?_
  generalize IK.ks x = a at e2
  generalize IK.ks y = b at e2
  clear hb hb' e1 h1 h2
  induction a generalizing b with
  | nil => cases b with
    | nil => rfl
    | cons _ _ => cases e2
  | cons p a ih => cases b with
    | nil => cases e2
    | cons q b =>
      rw [List.map_cons, List.map_cons] at e2
      obtain ⟨h1, h2⟩ := List.cons.inj e2
      injection h1 with h1
      rw [h1, ih b h2]
open Classical in
noncomputable def keyT [Inhabited α] (K : PySem.W.Frag) (H : Hp) (v : V) : α := if h : ∃ x : α, R K H v x then h.choose else default
theorem keyT_spec [Inhabited α] {K : PySem.W.Frag} {H : Hp} {v : V} {x : α} (h : R K H v x) : keyT K H v = x := by
  unfold keyT
  rw [dif_pos ⟨x, h⟩]
  exact ik_same (Exists.choose_spec (⟨x, h⟩ : ∃ x : α, R K H v x)) h
theorem tupItems_ints : ∀ (i : Nat) {ns : List Int} {vs : List Value}, Vals (ns.map V.int) vs → tupItems (fun _ => false) i vs = some (itZ ns)
  | i, [], _, r => by cases r; rfl
  | i, n :: ns, _, r => by
    rw [List.map_cons] at r
    cases r with
    | cons h t =>
      obtain ⟨tk, rfl⟩ := h
      show (if false = true then none else (tupItems (fun _ => false) (i + 1) _).map (Sum.inl n :: ·)) = _
      rw [if_neg Bool.false_ne_true, tupItems_ints (i + 1) t]
      rfl
def rSortedTK (α : Type) [Enc α] [IK α] (K : PySem.W.Frag) : List V → Hp → VK → Prop := fun vs H Q => ∃ (a : Addr) (xs : List V) (ds : List α), vs = [V.ref a] ∧ SqL K H a xs ∧ RL K H xs ds ∧
  ∀ (ys : List V) (p : Addr), ys.length = xs.length → (∀ F, RL K F xs ds → RL K F ys (sortK ds)) → H p = none → Q (.ref p) (upd H p (.lst ys))
theorem kkC {h : Heap} {ps : Array Keyed} {i : Nat} {p : Keyed} (e : ps[i]? = some p) : KK (G.tupKindC h (fun _ => false)) ps i = (G.tupKeyC h (fun _ => false) p.1).getD [] := by
  unfold KK
  rw [e]
theorem cr_sortedTK {X : Cx} [Inhabited α] : CallR X (.builtin "sorted") (rSortedTK α X.K) := by
  intro pins s σ H vs us Q I r h
  obtain ⟨a, xs, ds, rfl, hs, hA, q⟩ := h
  have hlen : xs.length = ds.length := RL.len hA
  have hkey : ∀ i v x, xs[i]? = some v → ds[i]? = some x → keyT X.K H v = x := fun i v x hv hx => by
    obtain ⟨x', hx', r⟩ := RL.get hA hv
    rw [hx] at hx'
    cases hx'
    exact keyT_spec r
  have hmem : ∀ v ∈ xs, R X.K H v (keyT X.K H v : α) := fun v hv => by
    obtain ⟨i, hi, rfl⟩ := List.getElem_of_mem hv
    obtain ⟨x, hx, r⟩ := RL.get hA (List.getElem?_eq_getElem hi)
    rw [keyT_spec r]
    exact r
  obtain ⟨its, rv, hl, hz⟩ := I.list hs
  obtain ⟨u, rfl, ru⟩ := vals1 r
  obtain rfl : u = Value.ref a := ru
  obtain ⟨e1, e2⟩ := refs_back rv fun x m => by
    obtain ⟨b, e, _⟩ := ik_tup (hmem x m)
    exact ⟨b, e⟩
  have hin : ∀ v ∈ its, backV v ∈ xs := fun v hv => by rw [e1]; exact List.mem_map.mpr ⟨_, hv, rfl⟩
  have hobj : ∀ v ∈ its, ∃ (t : Addr) (o : Obj) (its2 : List Value) (n : Nat), v = .ref t ∧ s.heap.get? t = some o ∧ o.cls = .type "tuple" ∧ o.data = .seq its2.toArray n ∧ Vals ((IK.ks (keyT X.K H (backV v) : α)).map V.int) its2 := fun v hv => by
    obtain ⟨t, rfl⟩ := e2 v hv
    obtain ⟨b, e, hb⟩ := ik_tup (hmem _ (hin _ hv))
    have e' : V.ref t = V.ref b := e
    cases e'
    rw [ikeys_kV] at hb
    obtain ⟨_, its2, r2, o, ho, hc, n, hd⟩ := (show ObjOk X.prog X.w H s.heap t (.tup _) from I.hok t _ hb)
    exact ⟨t, o, its2, n, rfl, ho, hc, hd, r2⟩
  have hkC : ∀ v ∈ its, G.tupKeyC s.heap (fun _ => false) v = some (itZ (IK.ks (keyT X.K H (backV v) : α))) := fun v hv => by
    obtain ⟨t, o, its2, n, rfl, ho, hc, hd, r2⟩ := hobj v hv
    have hi := tupItems_ints 0 r2
    have h1 : G.isTupObj s.heap (.ref t) = true := by simp [G.isTupObj, ho, hc]
    have h2 : tupKey s.heap (fun _ => false) (.ref t) = some (itZ (IK.ks (keyT X.K H (backV (.ref t)) : α))) := by
      simp only [tupKey, ho, hd]
      exact hi
    unfold G.tupKeyC
    rw [if_pos h1]
    exact h2
  have hT : ∃ fs, TupsOf s.heap (fun _ => false) its fs := by
    have go : ∀ l : List Value, (∀ v ∈ l, v ∈ its) → ∃ fs, TupsOf s.heap (fun _ => false) l fs := fun l => by
      induction l with
      | nil => exact fun _ => ⟨[], .nil⟩
      | cons v l ih =>
        intro hh
        obtain ⟨fs, t⟩ := ih fun u hu => hh u (List.mem_cons_of_mem _ hu)
        obtain ⟨t', o, its2, n, rfl, ho, hc, hd, r2⟩ := hobj v (hh v (List.mem_cons_self ..))
        have hp := IK.pos (keyT X.K H (backV (.ref t')) : α)
        generalize IK.ks (keyT X.K H (backV (.ref t')) : α) = ns at hp r2
        cases ns with
        | nil => exact absurd hp (by simp)
        | cons m ns =>
          rw [List.map_cons] at r2
          cases r2 with
          | @cons _ u1 _ us1 h1 t1 =>
            obtain ⟨tk, rfl⟩ := h1
            exact ⟨_, .cons ⟨t', o, _, n, rfl, ho, hc, hd, by simp, fun _ => ⟨m, tk, rfl⟩, fun z => nomatch z⟩ t⟩
    exact go its fun _ h => h
  obtain ⟨fs, hT⟩ := hT
  refine G.sorted_tups hl.isList hT (fun v hv => ⟨_, hkC v hv⟩) (by rw [← rv.length]; exact hz) fun st' p1 p2 _ => ?_
  have hpair : ∀ p ∈ (arrOf st').toList, p.1 = p.2 ∧ p.1 ∈ its := fun p hp => by
    have : p ∈ (pairsOf its).toList := p1.toList.mem_iff.mp hp
    rw [pairsOf_toList] at this
    exact mem_zip_self this
  have hperm : ((arrOf st').map (·.2)).toList.Perm its := by
    rw [Array.toList_map]
    have z := p1.toList.map Prod.snd
    rw [pairsOf_toList, List.map_snd_zip (Nat.le_refl _)] at z
    exact z
  obtain ⟨out, hout⟩ : ∃ out : Array Value, (arrOf st').map (·.2) = out := ⟨_, rfl⟩
  have hsz : (arrOf st').size = its.length := by
    have := p1.size_eq
    rw [this, pairsOf_size]
  have h3 : ∀ u ∈ out.toList, ∃ a, u = Value.ref a := fun u hu => e2 u ((hout ▸ hperm).mem_iff.mp hu)
  have hds : xs.map (keyT X.K H : V → α) = ds := List.ext_getElem? fun i => by
    rw [List.getElem?_map]
    by_cases hi : i < xs.length
    · rw [List.getElem?_eq_getElem hi, List.getElem?_eq_getElem (by omega)]
      exact congrArg some (hkey i xs[i] (ds[i]'(by omega)) (List.getElem?_eq_getElem hi) (List.getElem?_eq_getElem (by omega)))
    · rw [List.getElem?_eq_none (by omega), List.getElem?_eq_none (by omega)]
      rfl
  have hb : (out.toList.map backV).Perm xs := by
    rw [e1, ← hout]
    exact hperm.map _
  have hso : sortK ds = (out.toList.map backV).map (keyT X.K H : V → α) := by
    refine sortK_uniq (by rw [← hds]; exact hb.map _) ?_
    rw [List.map_map, ← hout, Array.toList_map, List.map_map]
    refine List.pairwise_iff_getElem.mpr fun i j hi hj hij => ?_
    rw [List.length_map] at hi hj
    rw [Array.length_toList] at hi hj
    have g := p2 i j (Nat.le_of_lt hij) (by rw [← p1.size_eq]; exact hj)
    have gi : (arrOf st')[i]? = some (arrOf st')[i] := Array.getElem?_eq_getElem hi
    have gj : (arrOf st')[j]? = some (arrOf st')[j] := Array.getElem?_eq_getElem hj
    rw [kkC gi, kkC gj] at g
    obtain ⟨a1, a2⟩ := hpair (arrOf st')[i] (by simp)
    obtain ⟨b1, b2⟩ := hpair (arrOf st')[j] (by simp)
    rw [hkC _ a2, hkC _ b2] at g
    rw [List.getElem_map, List.getElem_map, Array.getElem_toList, Array.getElem_toList]
    unfold leK
    rw [Bool.not_eq_true']
    show lexLt itemOrd (itZ (IK.ks (keyT X.K H (backV (arrOf st')[j].2) : α))) (itZ (IK.ks (keyT X.K H (backV (arrOf st')[i].2) : α))) = false
    rw [← a1, ← b1]
    exact g
  obtain ⟨ep, he'⟩ := sortedAll_at s.heap its out
  have hlen2 : (out.toList.map backV).length ≤ sizeLine := by rw [hb.length_eq]; exact hz
  rw [hout]
  refine ⟨.ref _, upd H (s.heap.objs.size + 1) (.lst (out.toList.map backV)), I.laid (t' := s.toks) (fun _ _ => sortedAll_old) (Nat.le_succ _) ⟨hlen2, out.toList, ep, vals_back h3, he'⟩, rfl, q _ _ hb.length_eq (fun F hF => ?_) (I.hok.fresh (Nat.le_succ _))⟩
  rw [hso]
  have hall : ∀ v ∈ out.toList.map backV, R X.K F v (keyT X.K H v : α) := fun v hv => by
    obtain ⟨i, hi, rfl⟩ := List.getElem_of_mem (hb.mem_iff.mp hv)
    obtain ⟨x, hx, rx⟩ := RL.get hF (List.getElem?_eq_getElem hi)
    rw [hkey i xs[i] x (List.getElem?_eq_getElem hi) hx]
    exact rx
  have go : ∀ l : List V, (∀ v ∈ l, R X.K F v (keyT X.K H v : α)) → RL X.K F l (l.map (keyT X.K H : V → α)) := fun l => by
    induction l with
    | nil => exact fun _ => .nil
    | cons v l ih => exact fun h => .cons (h v (List.mem_cons_self ..)) (ih fun u hu => h u (List.mem_cons_of_mem _ hu))
  exact go _ hall
theorem cr_sortedTK_ {X : Cx} {K : PySem.W.Frag} [Inhabited α] (h : X.K = K := by rfl) : CallR X (.builtin "sorted") (rSortedTK α K) := by subst h; exact cr_sortedTK
end
instance : Inhabited (T3 Int Int Int) := ⟨⟨0, 0, 0⟩⟩
instance : Inhabited (T4 Int Int Int Int) := ⟨⟨0, 0, 0, 0⟩⟩
end G
/-! My base, part 25: a list of lists, all of one's own. -/
namespace G
open PySem PySem.Spec PyProof.Rows L2 TL
abbrev refsN (rows : List (Addr × List V)) : List V := rows.map fun r => V.ref r.1
structure Nest (H0 F H : Hp) (f : Addr) (rows : List (Addr × List V)) : Prop where
  h : H f = some (.lst (refsN rows))
  nF : F f = none
  n0 : H0 f = none
  rh : ∀ r ∈ rows, H r.1 = some (.lst r.2)
  rF : ∀ r ∈ rows, F r.1 = none
  r0 : ∀ r ∈ rows, H0 r.1 = none
  rf : ∀ r ∈ rows, r.1 ≠ f
  nd : (rows.map (·.1)).Nodup
/-- q is none of them -/
def Apt (f : Addr) (rows : List (Addr × List V)) (q : Addr) : Prop := f ≠ q ∧ ∀ r ∈ rows, r.1 ≠ q
section
variable {M : Addr → Prop} {F0 H0 F H F' H' : Hp} {f p q : Addr} {o : HO} {K : PySem.W.Frag} {rows : List (Addr × List V)} {us ws : List V}
theorem Nest.ne (w : Nest H0 F H f rows) (hq : H q = none) : Apt f rows q := ⟨ne_of_none w.h hq, fun r hr => ne_of_none (w.rh r hr) hq⟩
theorem Nest.other (w : Nest H0 F H f rows) (a : Apt f rows q) : Nest H0 F (upd H q o) f rows :=
  ⟨(upd_ne a.1).trans w.h, w.nF, w.n0, fun r hr => (upd_ne (a.2 r hr)).trans (w.rh r hr), w.rF, w.r0, w.rf, w.nd⟩
theorem Nest.own (w : Nest H0 F H f rows) (hq : H q = none) : Nest H0 F (upd H q o) f rows := w.other (w.ne hq)
theorem Nest.fz (w : Nest H0 F H f rows) (a : Apt f rows q) : Nest H0 (upd F q o) H f rows :=
  ⟨w.h, (upd_ne a.1).trans w.nF, w.n0, w.rh, fun r hr => (upd_ne (a.2 r hr)).trans (w.rF r hr), w.r0, w.rf, w.nd⟩
theorem Nest.frz (w : Nest H0 F H f rows) (hq : H q = none) : Nest H0 (upd F q o) (upd H q o) f rows := (w.own hq).fz (w.ne hq)
theorem Nest.gr0 (w : Nest H0 F H f rows) (g : Gr M0 F H F' H') : Nest H0 F' H' f rows :=
  ⟨g.keep _ _ id w.h, g.newL (by rw [w.h]; simp) w.nF (fun ts z => by rw [g.keep _ _ id w.h] at z; cases z), w.n0, fun r hr => g.keep _ _ id (w.rh r hr),
    fun r hr => g.newL (by rw [w.rh r hr]; simp) (w.rF r hr) (fun ts z => by rw [g.keep _ _ id (w.rh r hr)] at z; cases z), w.r0, w.rf, w.nd⟩
theorem Nest.apart (w : Nest H0 F H f rows) (k : Gr M0 H H F' H') : Nest H0 F H' f rows :=
  ⟨k.keep _ _ id w.h, w.nF, w.n0, fun r hr => k.keep _ _ id (w.rh r hr), w.rF, w.r0, w.rf, w.nd⟩
theorem Nest.adopt {ts : List V} (w : Nest H0 F H f rows) (h : H q = some (.tup ts)) : Nest H0 (upd F q (.tup ts)) H f rows :=
  w.fz ⟨(fun z => by subst z; rw [w.h] at h; cases h), (fun r hr z => by subst z; rw [w.rh r hr] at h; cases h)⟩
theorem Nest.nil (g : Gr M F0 H0 F H) (hp : H p = none) : Nest H0 F (upd H p (.lst [])) p [] :=
  ⟨upd_same, g.noneF hp, g.none0 hp, (fun _ h => nomatch h), (fun _ h => nomatch h), (fun _ h => nomatch h), (fun _ h => nomatch h), List.nodup_nil⟩
theorem Nest.grow (w : Nest H0 F H f rows) (g : Gr M F0 H0 F H) (hp : H p = none) : Nest H0 F (upd (upd H p (.lst [])) f (.lst (refsN rows ++ [.ref p]))) f (rows ++ [(p, [])]) := by
  have a := w.ne hp
  refine ⟨by rw [upd_same, refsN, refsN, List.map_append]; rfl, w.nF, w.n0, fun r hr => ?_, fun r hr => ?_, fun r hr => ?_, fun r hr => ?_, ?_⟩
  · rcases List.mem_append.mp hr with hr | hr
    · rw [upd_ne (w.rf r hr), upd_ne (a.2 r hr)]; exact w.rh r hr
    · rw [List.mem_singleton.mp hr, upd_ne a.1.symm, upd_same]
  · rcases List.mem_append.mp hr with hr | hr
    · exact w.rF r hr
    · rw [List.mem_singleton.mp hr]; exact g.noneF hp
  · rcases List.mem_append.mp hr with hr | hr
    · exact w.r0 r hr
    · rw [List.mem_singleton.mp hr]; exact g.none0 hp
  · rcases List.mem_append.mp hr with hr | hr
    · exact w.rf r hr
    · rw [List.mem_singleton.mp hr]; exact a.1.symm
  · rw [List.map_append]
    refine List.nodup_append.mpr ⟨w.nd, by simp, fun x hx y hy => ?_⟩
    obtain ⟨r, hr, rfl⟩ := List.mem_map.mp hx
    have hy' : y = p := by simpa using hy
    rw [hy']
    exact a.2 r hr
theorem Nest.put (w : Nest H0 F H f rows) {j : Nat} {r : Addr × List V} (hj : rows[j]? = some r) : Nest H0 F (upd H r.1 (.lst us)) f (rows.set j (r.1, us)) := by
  have hr : r ∈ rows := List.mem_of_getElem? hj
  have hjl : j < rows.length := (List.getElem?_eq_some_iff.mp hj).1
  have e1 : (rows.set j (r.1, us)).map (·.1) = rows.map (·.1) := by
    rw [List.map_set]
    refine List.ext_getElem? fun i => ?_
    rw [List.getElem?_set]
    by_cases hi : j = i
    · subst hi
      rw [if_pos rfl, if_pos (by rw [List.length_map]; exact hjl), List.getElem?_map, hj]
      rfl
    · rw [if_neg hi]
  have e2 : refsN (rows.set j (r.1, us)) = refsN rows := by
    have : ∀ l : List (Addr × List V), refsN l = (l.map (·.1)).map V.ref := fun l => by rw [refsN, List.map_map]; rfl
    rw [this, this, e1]
  have hmem : ∀ x ∈ rows.set j (r.1, us), x = (r.1, us) ∨ (x ∈ rows ∧ x.1 ≠ r.1) := fun x hx => by
    obtain ⟨i, hi⟩ := List.mem_iff_getElem?.mp hx
    rw [List.getElem?_set] at hi
    by_cases hij : j = i
    · rw [if_pos hij] at hi
      split at hi
      · exact .inl (Option.some.inj hi).symm
      · next hn => exact absurd (hij ▸ hjl) hn
    · rw [if_neg hij] at hi
      refine .inr ⟨List.mem_of_getElem? hi, fun z => hij ?_⟩
      have h1 : (rows.map (·.1))[j]? = some r.1 := by rw [List.getElem?_map, hj]; rfl
      have h2 : (rows.map (·.1))[i]? = some r.1 := by rw [List.getElem?_map, hi]; exact congrArg some z
      exact (List.getElem?_inj (List.getElem?_eq_some_iff.mp h1).1 w.nd).mp (h1.trans h2.symm)
  refine ⟨by rw [upd_ne (w.rf r hr).symm, e2]; exact w.h, w.nF, w.n0, fun x hx => ?_, fun x hx => ?_, fun x hx => ?_, fun x hx => ?_, by rw [e1]; exact w.nd⟩
  · rcases hmem x hx with rfl | ⟨hx, n⟩
    · exact upd_same
    · rw [upd_ne n]; exact w.rh x hx
  · rcases hmem x hx with rfl | ⟨hx, n⟩
    · exact w.rF r hr
    · exact w.rF x hx
  · rcases hmem x hx with rfl | ⟨hx, n⟩
    · exact w.r0 r hr
    · exact w.r0 x hx
  · rcases hmem x hx with rfl | ⟨hx, n⟩
    · exact w.rf r hr
    · exact w.rf x hx
end
def RN {α : Type} [Enc α] (K : PySem.W.Frag) (F : Hp) (rows : List (Addr × List V)) (xs : List (List α)) : Prop :=
  rows.length = xs.length ∧ ∀ (j : Nat) (r : Addr × List V), rows[j]? = some r → ∃ x, xs[j]? = some x ∧ RL K F r.2 x ∧ r.2.length ≤ sizeLine
def appN {α : Type} (xs : List (List α)) (i : Int) (y : α) : Option (List (List α)) :=
  (ixN xs.length i).bind fun j => xs[j]?.bind fun r => if r.length < sizeLine then some (xs.set j (r ++ [y])) else none
theorem appN_ok {α : Type} {xs zs : List (List α)} {i : Int} {y : α} (h : appN xs i y = some zs) : ∃ j r, ixN xs.length i = some j ∧ xs[j]? = some r ∧ r.length < sizeLine ∧ xs.set j (r ++ [y]) = zs := by
  unfold appN at h
  obtain ⟨j, h1, h⟩ := Option.bind_eq_some_iff.mp h
  obtain ⟨r, h2, h⟩ := Option.bind_eq_some_iff.mp h
  split at h
  · exact ⟨j, r, h1, h2, by assumption, Option.some.inj h⟩
  · cases h
section
variable {α : Type} [Enc α] {K : PySem.W.Frag} {F F' : Hp} {rows : List (Addr × List V)} {xs ys : List (List α)}
theorem RN.up (h : RN K F rows xs) (e : Same F F') : RN K F' rows xs := ⟨h.1, fun j r hr => let ⟨x, h1, h2, h3⟩ := h.2 j r hr; ⟨x, h1, RpA.up h2 e, h3⟩⟩
theorem RN.re (e : xs = ys) (h : RN K F rows xs) : RN K F rows ys := e ▸ h
theorem RN.len (h : RN K F rows xs) : (refsN rows).length = xs.length := by rw [List.length_map]; exact h.1
theorem RN.row (h : RN K F rows xs) {j : Nat} {x : List α} (e : xs[j]? = some x) : ∃ r, rows[j]? = some r ∧ RL K F r.2 x ∧ r.2.length ≤ sizeLine := by
  have hj : j < rows.length := by rw [h.1]; exact (List.getElem?_eq_some_iff.mp e).1
  obtain ⟨x', h1, h2, h3⟩ := h.2 j _ (List.getElem?_eq_getElem hj)
  rw [e] at h1
  cases h1
  exact ⟨_, List.getElem?_eq_getElem hj, h2, h3⟩
theorem RN.at_ (h : RN K F rows xs) {i : Int} {j : Nat} {r : Addr × List V} (e : ixN xs.length i = some j) (hr : rows[j]? = some r) : atI (refsN rows) i = some (V.ref r.1) := by
  unfold atI
  rw [h.len, e]
  show (refsN rows)[j]? = _
  rw [refsN, List.getElem?_map, hr]
  rfl
theorem RN.get (h : RN K F rows xs) {i : Nat} {v : V} (e : (refsN rows)[i]? = some v) : ∃ x r, xs[i]? = some x ∧ r ∈ rows ∧ v = .ref r.1 ∧ RL K F r.2 x ∧ r.2.length ≤ sizeLine := by
  rw [refsN, List.getElem?_map] at e
  obtain ⟨r, hr, rfl⟩ := Option.map_eq_some_iff.mp e
  obtain ⟨x, h1, h2, h3⟩ := h.2 i r hr
  exact ⟨x, r, h1, List.mem_of_getElem? hr, rfl, h2, h3⟩
theorem RN.put (h : RN K F rows xs) {j : Nat} {r : Addr × List V} {x : List α} {us : List V} (hr : rows[j]? = some r) (hx : RL K F us x) (hl : us.length ≤ sizeLine) : RN K F (rows.set j (r.1, us)) (xs.set j x) := by
  refine ⟨by rw [List.length_set, List.length_set]; exact h.1, fun k q hq => ?_⟩
  rw [List.getElem?_set] at hq ⊢
  by_cases hk : j = k
  · subst hk
    rw [if_pos rfl] at hq ⊢
    have hj : j < rows.length := (List.getElem?_eq_some_iff.mp hr).1
    rw [if_pos hj] at hq
    rw [if_pos (by rw [← h.1]; exact hj)]
    cases hq
    exact ⟨x, rfl, hx, hl⟩
  · rw [if_neg hk] at hq ⊢
    exact h.2 k q hq
theorem RN.empty {β : Type} {l : List β} (h : rows.length = l.length) (he : ∀ r ∈ rows, r.2 = []) : RN K F rows (l.map fun _ => ([] : List α)) := by
  refine ⟨by rw [List.length_map]; exact h, fun j r hr => ⟨[], ?_, ?_, ?_⟩⟩
  · have hj : j < rows.length := (List.getElem?_eq_some_iff.mp hr).1
    rw [List.getElem?_map, List.getElem?_eq_getElem (by omega)]
    rfl
  · rw [he r (List.mem_of_getElem? hr)]; exact RpA.nil
  · rw [he r (List.mem_of_getElem? hr)]; exact Nat.zero_le _
end
theorem Apt.put {f q : Addr} {rows : List (Addr × List V)} {j : Nat} {r : Addr × List V} {us : List V} (a : Apt f rows q) (hj : rows[j]? = some r) : Apt f (rows.set j (r.1, us)) q :=
  ⟨a.1, fun x hx => by
    rcases List.mem_or_eq_of_mem_set hx with h | h
    · exact a.2 x h
    · rw [h]; exact a.2 r (List.mem_of_getElem? hj)⟩
end G
/-! My base, part 26: sorted(set(a tuple of whole numbers)); tuples put together. -/
namespace G
open PySem PySem.Spec PyProof.Rows L2 TL
section
variable {P : Program} {w : World} {A : Around} {E : Value → Shared → Prop} {s : Shared}
theorem set_of_tuple {l : Addr} {xs : Array Value} (ks : List Int) {Q : Value → Shared → Prop} (hh : A.handled = none) (hl : s.heap.IsTuple l xs) (hk : IntsAre xs.toList ks) (hb : ks.length + 1 < scanBound)
    (hq : ∀ (h' : Heap) (tk c : Nat), SetR w h' s.heap.objs.size (fun j => decide (j ∈ ks)) c → c ≤ ks.length → (∀ b o, s.heap.get? b = some o → h'.get? b = some o) → Q (.ref s.heap.objs.size) { s with heap := h', toks := tk }) :
    wpAny (model P w) A (call (.type "set") [.ref l]) Q E s := by
  have hsz : xs.size = ks.length := (Array.length_toList (xs := xs)).symm.trans (IntsAre.length hk)
  obtain ⟨c0, tl0, hmro⟩ := F.called_set.mro
  have hmade := F.called_set.made; have hsub := F.called_set.sub
  refine wpAny_call (codeAny_of_tree ?_); show wpAny _ _ (callAny (.type "set") _) _ _ _
  refine wpAny_pure ⟨Code.quiet_builtin _ (by decide +kernel), codeAny_builtin F.entry_type_call ?_⟩; rw [Around.under_plain (weight_type_call_type "set" [.ref l] []) rfl]
  have n1 := F.called_set.notType; have n2 := F.called_set.canCreate; have n3 := F.typeCall_set_1 (.ref l)
  repeat (any_goals (first | assumption | wp_step))
  refine codeAny_mono (code_set_led1 (A := A.in1) (.ref l) (E := E) (Q₁ := fun ob s₁ => ob = .ref s.heap.objs.size ∧ s₁ = { s with heap := s.heap.push (newS w) }) ⟨rfl, rfl⟩) fun r s₁ hr => ?_
  cases r with
  | error e => exact hr
  | ok fl =>
    cases fl with
    | next => exact hr.elim
    | brk => exact hr.elim
    | cont => exact hr.elim
    | ret ob =>
      obtain ⟨rfl, rfl⟩ := hr
      have hS : (s.heap.push (newS w)).get? s.heap.objs.size = some (newS w) := Heap.get?_push_size _ rfl
      have hT : Shared.TypeIs { s with heap := s.heap.push (newS w) } (.ref s.heap.objs.size) "set" := ⟨_, hS, rfl⟩
      have hli := F.called_set.init.lookup; have hbi := F.called_set.init.bind (.ref s.heap.objs.size)
      repeat (any_goals (first | assumption | wp_step))
      refine codeAny_mono (codeAny_call_builtin (R := wants (fun rr s₂ => rr = .none ∧ ∃ h' tk c, s₂ = { s with heap := h', toks := tk } ∧ SetR w h' s.heap.objs.size (fun j => decide (j ∈ ks)) c ∧ c ≤ ks.length ∧ (∀ b o, s.heap.get? b = some o → h'.get? b = some o)) E)
        F.called_set.init.plain F.entry_set_init (check_set_init_1 hT ?_)) fun r2 s2 hr2 => ?_
      · obtain ⟨⟨lc, ld, lt, ls⟩, hol, hcl, nl, hdl⟩ := hl
        simp only at hcl hdl; subst hcl; subst hdl
        have hol' : (s.heap.push (newS w)).get? l = some { cls := .type "tuple", dict := ld, data := .seq xs nl, slots := ls } := Heap.get?_push_of_some _ hol
        have b1 := F.sub_tuple_set; have b2 := F.sub_tuple_frozenset
        have b3 : (Value.type "tuple" == Value.type "dict") = false := by decide
        have hl1 : (s.heap.push (newS w)).IsTuple l xs := ⟨_, hol', rfl, nl, rfl⟩
        unfold Builtin.«set.__init__» noKeywords Builtin.Frozenset.updateFrom; generalize hPI : pyIter = PI
        wp_walk
        subst hPI; refine wpAny_pyIter_tuple hl1 ?_
        refine wpAny_bind (wpAny_runValue ?_); have lS : l < s.heap.objs.size := Heap.lt_size hol
        have hh3 : A.in1.in1.in1.handled = none := by simp [hh]
        have lI : l ≠ (s.heap.push (newS w)).objs.size := by rw [Heap.size_push]; exact Nat.ne_of_lt (Nat.lt_succ_of_lt lS)
        have sI : s.heap.objs.size ∉ [(s.heap.push (newS w)).objs.size, l] := by
          rw [Heap.size_push]
          intro z
          rcases List.mem_cons.mp z with z | z
          · exact absurd z (Nat.ne_of_lt (Nat.lt_succ_self _))
          · exact absurd (List.mem_singleton.mp z) (Nat.ne_of_gt lS)
        have each : ∀ (i : Nat) (v : Value), xs[i]? = some v → ∃ k t, ks[i]? = some k ∧ v = .int k t := fun i v hv => by
          have hi : i < ks.length := by rw [← hsz]; exact (Array.getElem?_eq_some_iff.mp hv).1
          obtain ⟨t, e⟩ := PyProof.Rows.IntsAre.int_at hk i v (by rw [Array.getElem?_toList]; exact hv)
          exact ⟨ks[i], t, List.getElem?_eq_getElem hi, by rw [e, List.getD_eq_getElem?_getD, List.getElem?_eq_getElem hi]; rfl⟩
        refine set_update_ints ((Walks.tuple hh3 _ l lI xs).toS) s.heap.objs.size sI ks hsz hb each (xs.size - 0) 0 _ (by omega) (Nat.zero_le _) ⟨⟨_, Heap.get?_push_size _ rfl, rfl, rfl⟩, (hl1.push _)⟩ ⟨0, Nat.le_refl 0, setR_new_at (Heap.get?_push_of_some _ hS)⟩ (fun s' c' hm hc' hS' => ?_)
        obtain ⟨h', g2, d', tk', os'⟩ := s'
        have eg : g2 = s.gens := hm.gens; have ed : d' = s.drawn := hm.drawn
        have eo : os' = s.os := hm.os; subst eg; subst ed; subst eo
        show wpAny _ _ _ _ _ _; refine wpAny_pure ?_
        show wpAny _ _ (ret Value.none) _ _ _; rw [hsz] at hc'
        refine wpAny_pure ⟨rfl, h', tk', c', rfl, hS', hc', fun b o e => ?_⟩
        have m0 : b < s.heap.objs.size := Heap.lt_size e
        refine hm.heap b o (fun z => ?_) (Heap.get?_push_of_some _ (Heap.get?_push_of_some _ e))
        rcases List.mem_cons.mp z with z | z
        · exact absurd z (Nat.ne_of_lt m0)
        · have z := List.mem_singleton.mp z
          rw [Heap.size_push] at z
          exact absurd z (Nat.ne_of_lt (Nat.lt_succ_of_lt m0))
      · cases r2 with
        | error e => exact hr2
        | ok fl2 =>
          cases fl2 with
          | next => exact hr2.elim
          | brk => exact hr2.elim
          | cont => exact hr2.elim
          | ret rr =>
            obtain ⟨rfl, h', tk, c, rfl, hS', hc', hk'⟩ := hr2
            repeat (any_goals (first | assumption | wp_step))
            exact hq _ _ _ hS' hc' hk'
end
section
variable {X : Cx}
def tSSetT (K : PySem.W.Frag) (ta : TE) : TE := fun σ H Q => ta σ H fun x H1 => ∃ (l : Addr) (ks : List Int), x = V.ref l ∧ SqT K H1 l (ks.map V.int) ∧ ks.length < 4000 ∧
  ∀ (ns : List Int) (p : Addr), ns.Pairwise (· < ·) → (∀ k, k ∈ ns ↔ k ∈ ks) → ns.length ≤ ks.length → H1 p = none → Q (.ref p) (upd H1 p (.lst (ns.map V.int)))
theorem pe_ssetT {a : Expr} {ta : TE} {p p2 q pos : Pos} (hc : X.calm = true) (hg : Gl X "sorted") (hm : X.mg "sorted" = none) (hg2 : Gl X "set") (hm2 : X.mg "set" = none) (ha : PE X a ta)
    (na : starEach [a] X.env = (false, eval a X.env) :: starEach [] X.env := by rfl) : PE X (.Call (.Name "sorted" p) [.Call (.Name "set" p2) [a] [] q] [] pos) (tSSetT X.K ta) := by
  refine ⟨fun pins s σ H Q I h => ?_⟩
  refine Call_ (ld_blt I hg hm (u := .builtin "sorted") (by decide +kernel) ?_)
  refine PyProof.Rows.callWith_builtin1 (PyProof.Rows.args_cons ?_ rfl) rfl rfl
  refine Call_ (ld_blt I hg2 hm2 PyProof.Rows.boot_set ?_)
  refine PyProof.Rows.callWith_type1 (PyProof.Rows.args_cons (thn (ha.run pins s σ H _ I h) fun v s1 ⟨x, H1, I1, r1, q1⟩ => PyProof.Rows.args_nil ?_) na) na rfl
  obtain ⟨l, ks, rfl, hq, h4, q1⟩ := q1
  cases r1
  obtain ⟨its, r, pl, hz⟩ := I1.tuple hq
  refine set_of_tuple ks (I1.ok.hd hc) pl (by simpa using r.ints) (by unfold scanBound; omega) fun h' tk c hS hck hk => ?_
  refine PyProof.Rows.args_nil ?_
  have I2 : Inv X pins σ H1 { s1 with heap := h', toks := tk } := I1.kept fun b o e => hk b o e
  refine set_sorted hS (I2.ok.hd hc) fun s' p out c2 ns k g o hp hgt hi hs hmem hlen => ?_
  have hlen2 : ns.length ≤ ks.length := Nat.le_trans hlen hck
  have hlz : (ns.map V.int).length ≤ sizeLine := by rw [List.length_map, sizeLine_eq]; omega
  have hn : H1 p = none := I2.hok.fresh hp
  have J : Inv X pins σ (upd H1 p (.lst (ns.map V.int))) s' := Inv.call' (ch := []) I2 o (Un.laid k hp hn) (I2.hok.laid k hp ⟨hlz, out, c2, vals_of_ints hi, hgt⟩) (by rw [g]; exact I2.bare) (fun _ z => nomatch z)
  exact ⟨.ref p, _, J, rfl, q1 ns p hs (fun k => by rw [hmem k, decide_eq_true_iff]) hlen2 hn⟩
theorem pe_ssetTK {K : PySem.W.Frag} {a : Expr} {ta : TE} {p p2 q pos : Pos} (hc : X.calm = true) (hg : Gl X "sorted") (hm : X.mg "sorted" = none) (hg2 : Gl X "set") (hm2 : X.mg "set" = none) (ha : PE X a ta) (h : X.K = K := by rfl)
    (na : starEach [a] X.env = (false, eval a X.env) :: starEach [] X.env := by rfl) : PE X (.Call (.Name "sorted" p) [.Call (.Name "set" p2) [a] [] q] [] pos) (tSSetT K ta) := by subst h; exact pe_ssetT hc hg hm hg2 hm2 ha na
/-- two tuples, put together -/
def rCatF : R2 := fun x y H Q => ∃ (F : Hp) (a b : Addr) (xs ys : List V), x = .ref a ∧ y = .ref b ∧ F a = some (.tup xs) ∧ F b = some (.tup ys) ∧ Same F H ∧ xs.length + ys.length ≤ sizeLine ∧
  ∀ q F' H', Gr M0 F H F' H' → F' q = some (.tup (xs ++ ys)) → Q (.ref q) H'
theorem op_catF : OpR X (binaryOp .Add) rCatF := by
  intro pins s σ H x y v u Q I rx ry ⟨F, a, b, xs, ys, e1, e2, ha, hb, hF, hl, q⟩
  refine op_catA pins s σ H x y v u Q I rx ry ⟨a, b, xs, ys, e1, e2, .inl (.inl (hF _ _ ha)), .inl (.inl (hF _ _ hb)), hl, fun h => ?_, fun h1 h2 => ?_, fun h1 h2 p hp => ?_⟩
  · exact q b F H (Gr.refl hF) (by rw [h, List.nil_append]; exact hb)
  · exact q a F H (Gr.refl hF) (by rw [h2, List.append_nil]; exact ha)
  · exact q p _ _ ((Gr.refl hF).frz (o := .tup (xs ++ ys)) hp) fzT
end
def conV {α : Type} (xs ys : VT α) : Option (VT α) := if xs.l.length + ys.l.length ≤ sizeLine then some (VT.mk (xs.l ++ ys.l)) else none
theorem conV_ok {α : Type} {xs ys r : VT α} (h : conV xs ys = some r) : xs.l.length + ys.l.length ≤ sizeLine ∧ VT.mk (xs.l ++ ys.l) = r := by
  unfold conV at h
  split at h
  · exact ⟨by assumption, Option.some.inj h⟩
  · cases h
end G
/-! My base, part 27: sorted(a dict of texts). -/
namespace G
open PySem PySem.Spec PyProof.Rows L2 TL PySem.Calls PySem.W
section
variable {prog : Program} {w : World} {A : Around} {E : Value → Shared → Prop} {s : Shared} {T : String} {r d : Addr} {n : Nat} {P : Nat → Value → Prop} {OK : Heap → Prop}
/-- what an iterable of the kit's gives, gathered -/
theorem gather {R : List Value → Shared → Prop} (K : KdlSrc prog w T r d n P OK) (hh : A.handled = none) (hok : OK s.heap) (hn : n ≤ sizeLine)
    (h : ∀ (h' : Heap) (tk : Nat) (vs : List Value), (∀ b o, s.heap.get? b = some o → h'.get? b = some o) → s.heap.objs.size < h'.objs.size → vs.length = n → (∀ j v, vs[j]? = some v → P j v) → R vs { s with heap := h', toks := tk }) :
    wpAny (model prog w) A (collect (.ref r)) R E s := by
  obtain ⟨hr, hd⟩ := K.there _ hok
  unfold collect
  refine wpAny_bind (wpAny_runValue (codeAny_builtin entry_proto_collect' ?_))
  rw [Around.under_plainId PySem.F.plain_proto_collect _]
  show wpAny _ A.in1 (newList [] >>= fun l => again (.builtin "list.__iadd__" ⟨[l, .ref r], []⟩)) _ _ s
  refine wpAny_bind (wpAny_newObj_type ?_)
  refine wpAny_pure ⟨plainId_quiet PySem.F.plain_list_iadd _, codeAny_builtin entry_list_iadd' ?_⟩
  rw [Around.under_plainId PySem.F.plain_list_iadd _]
  have hS : (s.heap.push { cls := .type "list", data := .seq ([] : List Value).toArray }).get? s.heap.objs.size = some { cls := .type "list", data := .seq #[] } := Heap.get?_push_size _ rfl
  show wpAny _ A.in1 (Builtin.List.listExtendWith (.ref s.heap.objs.size) (.ref r) (.ref s.heap.objs.size)) _ _ _
  have key := kdl_extend (prog := prog) (w := w) (A := A) (s := { s with heap := s.heap.push { cls := .type "list", data := .seq ([] : List Value).toArray } }) (R := fun (q : Result) (s' : Shared) => ∃ (h' : Heap) (tk : Nat) (acc' : Array Value) (c' : Nat), q = .ok (.ret (.ref s.heap.objs.size)) ∧ s' = { s with heap := h', toks := tk } ∧
      (∀ b o, b ≠ s.heap.objs.size → (s.heap.push { cls := .type "list", data := .seq ([] : List Value).toArray }).get? b = some o → h'.get? b = some o) ∧ h'.get? s.heap.objs.size = some { cls := .type "list", dict := none, data := .seq acc' c', slots := #[] } ∧ ItemsOf P acc' n)
    K hh (K.keep _ _ hok fun b _ o e => Heap.get?_push_of_some _ e) s.heap.objs.size (Nat.ne_of_gt hr) (Nat.ne_of_gt hd) (.ref s.heap.objs.size) 0 hS
    (fun h' tk acc' c' hk hS' hacc => ⟨h', tk, acc', c', rfl, rfl, hk, hS', hacc⟩) hn
  refine wpAny_mono key (fun fin s' x => ?_) fun e s' x => ?_
  · cases fin with
    | done f =>
      obtain ⟨h', tk, acc', c', e, rfl, hk, hS', hacc⟩ := x
      cases e
      refine wpAny_bind (wpAny_load hS' ?_)
      exact wpAny_pure (h h' tk acc'.toList (fun b o e => hk b o (Nat.ne_of_lt (Heap.lt_size e)) (Heap.get?_push_of_some _ e)) (Heap.lt_size hS') (by rw [Array.length_toList]; exact hacc.1) fun j v e => hacc.2 j v (by rw [← Array.getElem?_toList]; exact e))
    | again c₁ =>
      refine ⟨x.1, codeAny_mono x.2 fun q s₂ y => ?_⟩
      obtain ⟨h', tk, acc', c', rfl, rfl, hk, hS', hacc⟩ := y
      refine wpAny_bind (wpAny_load hS' ?_)
      exact wpAny_pure (h h' tk acc'.toList (fun b o e => hk b o (Nat.ne_of_lt (Heap.lt_size e)) (Heap.get?_push_of_some _ e)) (Heap.lt_size hS') (by rw [Array.length_toList]; exact hacc.1) fun j v e => hacc.2 j v (by rw [← Array.getElem?_toList]; exact e))
  · obtain ⟨_, _, _, _, e', _⟩ := x
    cases e'
end
theorem strs_by : ∀ {vs : List Value} {xs : List Str}, vs.length = xs.length → (∀ (j : Nat) (v : Value), vs[j]? = some v → ∃ (x : Str) (t : Tok), xs[j]? = some x ∧ v = Value.str x t) → StrsAre vs xs
  | [], [], _, _ => .nil
  | [], _ :: _, h, _ => by cases h
  | _ :: _, [], h, _ => by cases h
  | v :: vs, x :: xs, h, k => by
    obtain ⟨x', t, e1, e2⟩ := k 0 v rfl
    cases e1
    subst e2
    exact .cons _ _ (strs_by (by simpa using h) fun j v e => k (j + 1) v e)
theorem ints_by : ∀ {vs : List Value} {xs : List Int}, vs.length = xs.length → (∀ (j : Nat) (v : Value), vs[j]? = some v → ∃ (x : Int) (t : Tok), xs[j]? = some x ∧ v = Value.int x t) → IntsAre vs xs
  | [], [], _, _ => .nil
  | [], _ :: _, h, _ => by cases h
  | _ :: _, [], h, _ => by cases h
  | v :: vs, x :: xs, h, k => by
    obtain ⟨x', t, e1, e2⟩ := k 0 v rfl
    cases e1
    subst e2
    exact .cons _ _ (ints_by (by simpa using h) fun j v e => k (j + 1) v e)
/-- sorted(a dict of texts) -/
def rSortedDS : List V → Hp → VK → Prop := fun vs H Q => ∃ (a : Addr) (kvs : List (Key × V)) (xs : List Str), vs = [V.ref a] ∧ Rd H a (.dK kvs) ∧ kvs.map (·.1) = xs.map Sum.inr ∧
  ∀ p : Addr, H p = none → Q (.ref p) (upd H p (.lst ((sortT xs).map V.str)))
theorem cr_sortedDS {X : Cx} (hc : X.calm = true) : CallR X (.builtin "sorted") rSortedDS := by
  intro pins s σ H vs us Q I r h
  obtain ⟨a, kvs, xs, rfl, ha, hk, q⟩ := h
  obtain ⟨u, rfl, ru⟩ := vals1 r
  obtain rfl : u = Value.ref a := ru
  obtain ⟨z, hd, vs0, rel, o, es, ep, ho, hx, hdt, rest⟩ := dk_rd I.hok ha
  have hlen : kvs.length = vs0.length := Paired.length rel
  have hxl : kvs.length = xs.length := by have := congrArg List.length hk; rwa [List.length_map, List.length_map] at this
  have hat : s.heap.DictAt (mixKind X.prog X.w) a vs0 ep := ⟨o, es, ho, hx, hdt, rest⟩
  refine Calls.call_function_entry kind_sorted plain_sorted entry_sorted (args_sorted1 _) ?_
  unfold Builtin.«sorted»
  refine wpAny_bind (m := checkCount "sorted" 1 1 _) (wpAny_pure ?_)
  refine wpAny_bind (gather (kdl_dict (prog := X.prog) (w := X.w) (knd := mixKind X.prog X.w) (kvs := vs0) (ep := ep) hd) (I.ok.hd hc) hat (by omega) fun h' tk vs1 hkp hsz1 hl1 hv1 => ?_)
  have hS : StrsAre vs1 xs := strs_by (by omega) fun j v e => by
    obtain ⟨k, x, e1, e2⟩ := hv1 j v e
    have hj : j < kvs.length := by rw [hlen]; exact (List.getElem?_eq_some_iff.mp e1).1
    obtain ⟨u, e3, _⟩ := kv_get rel (i := j) (k := (kvs[j]).1) (v := (kvs[j]).2) (List.getElem?_eq_getElem hj)
    rw [e1] at e3
    have e4 : k = (kvs[j]).1 := congrArg Prod.fst (Option.some.inj e3)
    have e5 : (kvs.map (·.1))[j]? = some (kvs[j]).1 := by rw [List.getElem?_map, List.getElem?_eq_getElem hj]; rfl
    rw [hk, List.getElem?_map] at e5
    obtain ⟨x', e6, e7⟩ := Option.map_eq_some_iff.mp e5
    rw [e4, ← e7] at e2
    rcases keyIs_shape (show keyIs (Sum.inr x') v = true from e2) with ⟨i, t, z1, _⟩ | ⟨y, t, z1, z2⟩
    · cases z1
    · cases z1
      exact ⟨_, t, e6, z2⟩
  have hl1' : vs1.length ≤ sizeLine := by omega
  refine wpAny_bind (wpAny_newList ?_ hl1')
  have hoL : (h'.push (seqObj "list" vs1.toArray 0)).get? h'.objs.size = some (seqObj "list" vs1.toArray 0) := Heap.get?_push_size _ rfl
  show wpAny _ _ _ _ _ { s with heap := h'.push (seqObj "list" vs1.toArray 0), toks := tk }
  refine wpAny_bind (wpAny_holding (wpAny_call_entry slot_list_sort ⟨_, hoL, rfl⟩ entry_list_sort (list_sort_treeKAny strKind_oneLt hoL hS.keysOf (fun v₁ v₂ rest e => keyKind_strs (by rw [← e]; exact hS)) hl1' fun st' a1 a2 => ⟨_, rfl, ?_⟩) (args_list_sort _)))
  refine wpAny_pure ⟨_, rfl, ?_⟩
  obtain ⟨ss', h1, h2, h3⟩ := sorted_out_str hS a1 a2
  obtain ⟨out, hout⟩ : ∃ out, (arrOf st').map (·.2) = out := ⟨_, rfl⟩
  rw [hout] at h1 ⊢
  obtain rfl := sortT_uniq h2 h3
  obtain ⟨e, hfin⟩ := sortedHeap_at (vs := vs1) (out := out) hoL
  have hlz : ((sortT xs).map V.str).length ≤ sizeLine := by rw [List.length_map, sortT_len]; omega
  have hkeep : ∀ b u, s.heap.get? b = some u → (sortedHeap (h'.push (seqObj "list" vs1.toArray 0)) h'.objs.size vs1 out).get? b = some u := fun b u e => by
    have e2 := hkp b u e
    have hlt := Heap.lt_size e2
    rw [sortedHeap_old (Nat.ne_of_lt hlt) (by rw [Heap.size_push]; exact Nat.lt_succ_of_lt hlt), Heap.get?_push_ne _ _ _ (Nat.ne_of_lt hlt)]
    exact e2
  have hfr : s.heap.objs.size ≤ h'.objs.size := Nat.le_of_lt hsz1
  exact ⟨.ref h'.objs.size, upd H h'.objs.size (.lst ((sortT xs).map V.str)), I.laid (t' := tk) hkeep hfr ⟨hlz, out.toList, e, vals_of_strs h1, hfin⟩, rfl, q _ (I.hok.fresh hfr)⟩
theorem scr_stays {K : PySem.W.Frag} {M : Addr → Prop} {F0 H0 F H H1 : Hp} {a : Addr} {xs : List V} (hS : SqL K H1 a xs) (hN : ∀ o, H1 a = some o → ¬ M a) (h : SqL K H0 a xs) (g : Gr M F0 H0 F H) : SqL K H a xs := by
  rcases hS with (e | ⟨o, e⟩) | e
  · exact g.seq (hN _ e) h
  · exact g.seq (hN _ e) h
  · exact .inr e
end G
/-! My base, part 28: dict(a list of pairs), the keys tuples of ints. -/
namespace G
open PySem PySem.Spec PyProof.Rows L2 TL
def putAllK (xs : List (List Key × V)) : List (List Key × V) → List (List Key × V)
  | [] => xs
  | p :: ps => putAllK (putK xs p.1 p.2) ps
def dputAll {α β : Type} [DecidableEq α] (xs : List (α × β)) : List (α × β) → List (α × β)
  | [] => xs
  | p :: ps => dputAll (dput xs p.1 p.2) ps
theorem putAllK_len : ∀ (ps xs : List (List Key × V)), (putAllK xs ps).length ≤ xs.length + ps.length
  | [], xs => Nat.le_refl _
  | p :: ps, xs => by
    have h1 := putAllK_len ps (putK xs p.1 p.2)
    have h2 := length_putK xs p.1 p.2
    rw [putAllK, List.length_cons]
    omega
section
variable {α β : Type} [Enc α] [IK α] [Enc β] {K : PySem.W.Frag}
theorem kt_all {H : Hp} : ∀ {ps : List (List Key × V)} {qs : List (List Key × Addr × Value)} {kvs : List (List Key × V)} {xs : List (List Key × Addr × Value)}, KT H kvs xs → KT H ps qs → KT H (putAllK kvs ps) (storedAllH xs qs)
  | [], _, _, _, h, .nil => h
  | p :: ps, _, _, _, h, .cons r t => by
    obtain ⟨r1, r2, r3⟩ := r
    rw [putAllK, storedAllH, List.foldl_cons]
    have h2 := KT.put h p.1 r2 r3
    rw [r1] at h2 ⊢
    exact kt_all h2 t
theorem rd_all [DecidableEq α] {F : Hp} : ∀ {ps : List (List Key × V)} {ys : List (α × β)} {kvs : List (List Key × V)} {xs : List (α × β)}, RD (α := α) K F kvs xs → RD (α := α) K F ps ys → RD (α := α) K F (putAllK kvs ps) (dputAll xs ys)
  | ps, [], kvs, xs, h, h2 => by
    obtain rfl := h2.nil_l
    exact h
  | ps, y :: ys, kvs, xs, h, h2 => by
    obtain ⟨q, qs, rfl⟩ := h2.cons_l
    obtain ⟨⟨e, r, o⟩, h3⟩ := RD.cons_iff.mp h2
    rw [putAllK, dputAll]
    refine rd_all ?_ h3
    rw [e]
    exact RD.put h y.1 o r
/-- the rows of a list of pairs: each its tuple, its key's tuple, the key, the value -/
theorem rows_of {F : Hp} : ∀ {xs : List (α × β)} {ws : List V}, RL K F ws xs → ∃ rs : List (Addr × Addr × V), ws = rs.map (fun r => V.ref r.1) ∧ rs.length = xs.length ∧
    ∀ (j : Nat) (x : α × β) (r : Addr × Addr × V), xs[j]? = some x → rs[j]? = some r → F r.1 = some (.tup [.ref r.2.1, r.2.2]) ∧ F r.2.1 = some (.tup ((ikeys (IK.ks x.1)).map kV)) ∧ R K F r.2.2 x.2
  | [], ws, h => by
    cases h
    exact ⟨[], rfl, rfl, fun j x r e => by simp at e⟩
  | x :: xs, ws, h => by
    cases h with
    | cons r t =>
      obtain ⟨p, v1, v2, e, hp, r1, r2⟩ := R.p2_s (x := x) r
      obtain ⟨b, e2, hb⟩ := ik_tup r1
      subst e e2
      obtain ⟨rs, e3, e4, e5⟩ := rows_of t
      refine ⟨(p, b, v2) :: rs, by rw [e3]; rfl, by rw [List.length_cons, List.length_cons, e4], fun j y q hy hq => ?_⟩
      cases j with
      | zero =>
        cases hy
        cases hq
        exact ⟨hp, hb, r2⟩
      | succ j => exact e5 j y q (by simpa using hy) (by simpa using hq)
def rDictT (α β : Type) [Enc α] [IK α] [Enc β] [DecidableEq α] (K : PySem.W.Frag) : List V → Hp → VK → Prop := fun vs H Q => ∃ (a : Addr) (ws : List V) (xs : List (α × β)), vs = [V.ref a] ∧ SqL K H a ws ∧ RL K H ws xs ∧
  ∀ (p : Addr) (kvs : List (List Key × V)), H p = none → kvs.length ≤ xs.length → (∀ F, Same F H → RL K F ws xs → RD (α := α) (β := β) K F kvs (dputAll [] xs)) → Q (.ref p) (upd H p (.dT kvs))
theorem call_dictT [DecidableEq α] {X : Cx} (hcalm : X.calm = true) (hu : X.A.units + 4 < cLine) : CallR X (.type "dict") (rDictT α β X.K) := by
  intro pins s σ H vs us Q I r q
  obtain ⟨a, ws, xs, ex, hq, hA, q⟩ := q
  subst ex
  obtain ⟨u, eu, rx⟩ := vals1 r
  subst eu
  cases rx
  obtain ⟨its, rv, pl, hz⟩ := I.list hq
  obtain ⟨rs, e1, e2, e3⟩ := rows_of hA
  subst e1
  obtain ⟨o, n, ho, hc, hd, hdat⟩ := pl
  have hil : its.length = rs.length := by have := rv.length; rw [List.length_map] at this; omega
  have row : ∀ (j : Nat) (x : α × β) (r : Addr × Addr × V), xs[j]? = some x → rs[j]? = some r → H r.1 = some (.tup [.ref r.2.1, r.2.2]) ∧ H r.2.1 = some (.tup ((ikeys (IK.ks x.1)).map kV)) ∧ ∃ u : Value, IsTup s.heap r.1 #[.ref r.2.1, u] ∧ RelV r.2.2 u := fun j x r hx hr => by
    obtain ⟨h1, h2, h3⟩ := e3 j x r hx hr
    obtain ⟨_, its2, r2, ht⟩ := (show ObjOk X.prog X.w H s.heap r.1 (.tup _) from I.hok _ _ h1)
    obtain ⟨u1, u2, rfl, ra, rb⟩ := vals2 r2
    obtain rfl : u1 = Value.ref r.2.1 := ra
    exact ⟨h1, h2, u2, ht, rb⟩
  -- the values of the rows
  have vals : ∃ us : List Value, us.length = rs.length ∧ ∀ (j : Nat) (r : Addr × Addr × V) (u : Value), rs[j]? = some r → us[j]? = some u → IsTup s.heap r.1 #[.ref r.2.1, u] ∧ RelV r.2.2 u := by
    have go : ∀ (l : List (Addr × Addr × V)), (∀ r ∈ l, ∃ u : Value, IsTup s.heap r.1 #[.ref r.2.1, u] ∧ RelV r.2.2 u) → ∃ us : List Value, us.length = l.length ∧ ∀ (j : Nat) (r : Addr × Addr × V) (u : Value), l[j]? = some r → us[j]? = some u → IsTup s.heap r.1 #[.ref r.2.1, u] ∧ RelV r.2.2 u := fun l => by
      induction l with
      | nil => exact fun _ => ⟨[], rfl, fun j r u e => by simp at e⟩
      | cons r l ih =>
        intro h
        obtain ⟨us, h1, h2⟩ := ih fun r hr => h r (List.mem_cons_of_mem _ hr)
        obtain ⟨u, h3⟩ := h r (List.mem_cons_self ..)
        refine ⟨u :: us, by rw [List.length_cons, List.length_cons, h1], fun j r' u' hr hu => ?_⟩
        cases j with
        | zero => cases hr; cases hu; exact h3
        | succ j => exact h2 j r' u' (by simpa using hr) (by simpa using hu)
    refine go rs fun r hr => ?_
    obtain ⟨j, hj⟩ := List.mem_iff_getElem?.mp hr
    have hjl : j < xs.length := by rw [← e2]; exact (List.getElem?_eq_some_iff.mp hj).1
    obtain ⟨_, _, u, h⟩ := row j _ r (List.getElem?_eq_getElem hjl) hj
    exact ⟨u, h⟩
  obtain ⟨us, hul, hus⟩ := vals
  obtain ⟨ps, hps⟩ : ∃ ps : List (List Key × Addr × Value), ps = (List.zip xs (List.zip rs us)).map fun z => (ikeys (IK.ks z.1.1), z.2.1.2.1, z.2.2) := ⟨_, rfl⟩
  obtain ⟨kvs, hkvs⟩ : ∃ kvs : List (List Key × V), kvs = (List.zip xs rs).map fun z => (ikeys (IK.ks z.1.1), z.2.2.2) := ⟨_, rfl⟩
  have psl : ps.length = rs.length := by rw [hps, List.length_map, List.length_zip, List.length_zip]; omega
  have psg : ∀ (j : Nat) (x : α × β) (r : Addr × Addr × V) (u : Value), xs[j]? = some x → rs[j]? = some r → us[j]? = some u → ps[j]? = some (ikeys (IK.ks x.1), r.2.1, u) := fun j x r u h1 h2 h3 => by
    rw [hps, List.getElem?_map, List.zip, List.getElem?_zipWith, h1]
    rw [List.zip, List.getElem?_zipWith, h2, h3]
    rfl
  have all3 : ∀ j, j < rs.length → ∃ x r u, xs[j]? = some x ∧ rs[j]? = some r ∧ us[j]? = some u := fun j hj =>
    ⟨_, _, _, List.getElem?_eq_getElem (by omega), List.getElem?_eq_getElem hj, List.getElem?_eq_getElem (by omega)⟩
  have hkt : KT H kvs ps := by
    rw [hkvs, hps]
    have go : ∀ (xs : List (α × β)) (rs : List (Addr × Addr × V)) (us : List Value), rs.length = xs.length → us.length = rs.length → (∀ (j : Nat) x r u, xs[j]? = some x → rs[j]? = some r → us[j]? = some u → H r.2.1 = some (.tup ((ikeys (IK.ks x.1)).map kV)) ∧ RelV r.2.2 u) →
        KT H ((List.zip xs rs).map fun z => (ikeys (IK.ks z.1.1), z.2.2.2)) ((List.zip xs (List.zip rs us)).map fun z => (ikeys (IK.ks z.1.1), z.2.1.2.1, z.2.2)) := fun xs => by
      induction xs with
      | nil =>
        intro rs us h1 h2 _
        obtain rfl := List.eq_nil_of_length_eq_zero h1
        exact .nil
      | cons x xs ih =>
        intro rs us h1 h2 h3
        cases rs with
        | nil => cases h1
        | cons r rs =>
          cases us with
          | nil => cases h2
          | cons u us =>
            obtain ⟨h4, h5⟩ := h3 0 x r u rfl rfl rfl
            exact .cons ⟨rfl, h4, h5⟩ (ih rs us (by simpa using h1) (by simpa using h2) fun j x r u a b c => h3 (j + 1) x r u a b c)
    refine go xs rs us e2 hul fun j x r u h1 h2 h3 => ?_
    exact ⟨(row j x r h1 h2).2.1, (hus j r u h2 h3).2⟩
  have hlast : (putAllK [] kvs).length ≤ xs.length := by
    have := putAllK_len kvs []
    rw [hkvs] at this ⊢
    rw [List.length_map, List.length_zip, List.length_nil] at this
    omega
  have hsz : rs.length ≤ sizeLine := by rw [List.length_map] at hz; exact hz
  have key : ∀ x ∈ ps, (tupleKind (mixKind X.prog X.w)).is s.heap x.1 x.2.1 := fun x hx => by
    obtain ⟨j, hj⟩ := List.mem_iff_getElem?.mp hx
    have hjl : j < rs.length := by rw [← psl]; exact (List.getElem?_eq_some_iff.mp hj).1
    obtain ⟨y, r, u, h1, h2, h3⟩ := all3 j hjl
    rw [psg j y r u h1 h2 h3] at hj
    cases hj
    exact key_of I.hok (row j y r h1 h2).2.1
  refine call_dict_pairsH (knd := tupleKind (mixKind X.prog X.w)) (ps := ps) (PairArg.list a its.toArray (fun j => ((rs[j]?).map (·.1)).getD 0) (ps.map fun p => (Value.ref p.2.1, p.2.2))) (I.ok.hd hcalm) (tupleKind_room_in1 (by simp only [Around.in1_units]; omega)) ⟨⟨o, n, ho, hc, hd, hdat⟩, ?_, ?_⟩ ⟨?_, ?_⟩ ?_ (by rw [List.length_map, psl]; exact hsz) fun h' tk dd hk => ?_
  · rw [List.size_toArray, List.length_map, psl]; exact hil
  · intro j k v hj
    rw [List.getElem?_map] at hj
    obtain ⟨p, hp, ep⟩ := Option.map_eq_some_iff.mp hj
    have hjl : j < rs.length := by rw [← psl]; exact (List.getElem?_eq_some_iff.mp hp).1
    obtain ⟨y, r, u, h1, h2, h3⟩ := all3 j hjl
    rw [psg j y r u h1 h2 h3] at hp
    cases hp
    cases ep
    refine ⟨?_, ?_⟩
    · have rv2 : Vals ((rs.map (·.1)).map V.ref) its := by rw [List.map_map]; exact rv
      have e9 := refs_at rv2
      have e10 : ((rs[j]?).map (·.1)).getD 0 = r.1 := by rw [h2]; rfl
      show _ = some (Value.ref (((rs[j]?).map (·.1)).getD 0))
      rw [e10, List.getElem?_toArray, e9, List.getElem?_map, List.getElem?_map, h2]
      rfl
    · show PairAt s.heap (((rs[j]?).map (·.1)).getD 0) _ _
      rw [h2]
      obtain ⟨o2, ho2, hc2, n2, hd2⟩ := (hus j r u h2 h3).1
      exact .inl ⟨o2, ho2, hc2, n2, hd2⟩
  · rw [List.length_map]
  · intro i k v hi
    have hi' : (ps.map fun p => (Value.ref p.2.1, p.2.2))[i]? = some (k, v) := hi
    rw [List.getElem?_map] at hi'
    obtain ⟨p, hp, ep⟩ := Option.map_eq_some_iff.mp hi'
    cases ep
    exact ⟨p.1, p.2.1, hp, rfl⟩
  · intro h' hk x hx
    obtain ⟨o2, items, n2, g1, g2, g3, g4⟩ := key x hx
    exact ⟨o2, items, n2, hk _ _ (Nat.ne_of_lt (Heap.lt_size g1)) (fun z => nomatch z) g1, g2, g3, g4⟩
  · have hm : (s.heap.objs.size == sysModules) = false := beq_eq_false_iff_ne.mpr (Nat.ne_of_gt I.big)
    obtain ⟨od, es, ep, d1, d2, d3, d4, d5, d6⟩ := dd
    have hn : H s.heap.objs.size = none := I.hok.fresh (Nat.le_refl _)
    have kt2 : KT H (putAllK [] kvs) (storedAllH [] ps) := kt_all .nil hkt
    refine ⟨.ref s.heap.objs.size, upd H s.heap.objs.size (.dT (putAllK [] kvs)), I.laid (t' := tk) (fun b o e => hk b o (fun z => nomatch z) e) (Nat.le_refl _) (show ObjOk X.prog X.w _ _ _ (.dT (putAllK [] kvs)) from ⟨by rw [List.length_map] at hz; omega, hm, storedAllH [] ps, Paired.mapP kt2 fun p q z => ⟨z.1, by rw [upd_ne (ne_of_none z.2.1 hn)]; exact z.2.1, z.2.2⟩, od, es, ep, d1, d2, d3, d4, d6⟩), rfl, q _ _ hn hlast (fun F hFH hF => ?_)⟩
    refine rd_all RD.nil ?_
    rw [hkvs]
    have go : ∀ (xs : List (α × β)) (rs : List (Addr × Addr × V)), rs.length = xs.length → (∀ (j : Nat) x r, xs[j]? = some x → rs[j]? = some r → R X.K F r.2.2 x.2) → RD (α := α) (β := β) X.K F ((List.zip xs rs).map fun z => (ikeys (IK.ks z.1.1), z.2.2.2)) xs := fun xs => by
      induction xs with
      | nil =>
        intro rs h1 _
        obtain rfl := List.eq_nil_of_length_eq_zero h1
        exact RD.nil
      | cons x xs ih =>
        intro rs h1 h2
        cases rs with
        | nil => cases h1
        | cons r rs => exact RD.cons_iff.mpr ⟨⟨rfl, h2 0 x r rfl rfl, trivial⟩, ih rs (by simpa using h1) fun j x r a b => h2 (j + 1) x r a b⟩
    refine go xs rs e2 fun j x r h1 h2 => ?_
    obtain ⟨y, hy, ry⟩ := RL.get hF (v := V.ref r.1) (i := j) (by rw [List.getElem?_map, h2]; rfl)
    rw [h1] at hy
    cases hy
    obtain ⟨p, v1, v2, e, hp, r1, r2⟩ := R.p2_s ry
    cases e
    have := hFH _ _ hp
    rw [(row j x r h1 h2).1] at this
    cases this
    exact r2
end
end G
/-! My base, part 29: < > <= >= of data of one type (ints, texts, lists, tuples of these). -/
namespace G
open PySem PySem.Spec PyProof.Rows L2 TL
/-- two of the type can be put in order, place by place -/
class Alk (α : Type) [Enc α] : Prop where
  ak : ∀ x y : α, PySem.W.alike (Enc.d x) (Enc.d y) = true
  nn : ∀ x : α, Enc.d x ≠ PyData.none
open PySem.W (alike alikeAll)
theorem alikeAll_enc {α : Type} [Enc α] [Alk α] : ∀ xs ys : List α, alikeAll (xs.map Enc.d) (ys.map Enc.d) = true
  | [], _ => by rw [List.map_nil, alikeAll]
  | _ :: _, [] => by rw [List.map_nil, List.map_cons, alikeAll]
  | x :: xs, y :: ys => by
    rw [List.map_cons, List.map_cons, alikeAll, Alk.ak x y, alikeAll_enc xs ys]
    rfl
instance : Alk Int := ⟨fun x y => by show alike (.int x) (.int y) = true; simp only [alike], fun x h => nomatch h⟩
instance : Alk Str := ⟨fun x y => by show alike (.str x) (.str y) = true; simp only [alike], fun x h => nomatch h⟩
instance {α : Type} [Enc α] [Alk α] : Alk (List α) := ⟨fun x y => by show alike (.list _) (.list _) = true; simp only [alike]; exact alikeAll_enc x y, fun x h => nomatch h⟩
instance {α β : Type} [Enc α] [Enc β] [Alk α] [Alk β] : Alk (α × β) := ⟨fun x y => by show alike (.tuple [_, _]) (.tuple [_, _]) = true; simp only [alike, alikeAll, Alk.ak, Bool.and_self], fun x h => nomatch h⟩
/-- x < y -/
def ltD {α : Type} [Enc α] (x y : α) : Bool := PySem.W.dataLt (Enc.d x) (Enc.d y)
section
variable {K : PySem.W.Frag} {X : Cx}
def rOrd (α : Type) [Enc α] (f : α → α → Bool) (K : PySem.W.Frag) : R2 := fun x y H Q => ∃ d e : α, R K H x d ∧ R K H y e ∧ Q (.bl (f d e)) H
theorem op_gtD {α : Type} [Enc α] [Alk α] [Dep α] (hd : Dep.n α ≤ 64) (hu : X.A.units + 64 < cLine) : OpR X (compareOp .Gt) (rOrd α (fun x y => ltD y x) X.K) := by
  intro pins s σ H x y v u Q I rx ry h
  obtain ⟨d, e, hd, he, q⟩ := h
  obtain ⟨as, r1⟩ := Dp.reads I _ x v (Rp.dp _ _ hd) rx
  obtain ⟨bs, r2⟩ := Dp.reads I _ y u (Rp.dp _ _ he) ry
  exact PySem.W.rcGt_alike _ _ _ _ _ _ _ _ r1 r2 (Alk.ak d e) (Alk.nn d) (SeqAt.room_of_shaped (R.shaped hd (by assumption)) hu) _ _ _ _ ⟨.bl _, H, I, rfl, q⟩
theorem op_ltD {α : Type} [Enc α] [Alk α] [Dep α] (hd : Dep.n α ≤ 64) (hu : X.A.units + 64 < cLine) : OpR X (compareOp .Lt) (rOrd α (fun x y => ltD x y) X.K) := by
  intro pins s σ H x y v u Q I rx ry h
  obtain ⟨d, e, hd, he, q⟩ := h
  obtain ⟨as, r1⟩ := Dp.reads I _ x v (Rp.dp _ _ hd) rx
  obtain ⟨bs, r2⟩ := Dp.reads I _ y u (Rp.dp _ _ he) ry
  exact PySem.W.rcLt_alike _ _ _ _ _ _ _ _ r1 r2 (Alk.ak d e) (Alk.nn d) (SeqAt.room_of_shaped (R.shaped hd (by assumption)) hu) _ _ _ _ ⟨.bl _, H, I, rfl, q⟩
theorem op_leD {α : Type} [Enc α] [Alk α] [Dep α] (hd : Dep.n α ≤ 64) (hu : X.A.units + 64 < cLine) : OpR X (compareOp .LtE) (rOrd α (fun x y => !ltD y x) X.K) := by
  intro pins s σ H x y v u Q I rx ry h
  obtain ⟨d, e, hd, he, q⟩ := h
  obtain ⟨as, r1⟩ := Dp.reads I _ x v (Rp.dp _ _ hd) rx
  obtain ⟨bs, r2⟩ := Dp.reads I _ y u (Rp.dp _ _ he) ry
  exact PySem.W.rcLe_alike _ _ _ _ _ _ _ _ r1 r2 (Alk.ak d e) (Alk.nn d) (SeqAt.room_of_shaped (R.shaped hd (by assumption)) hu) _ _ _ _ ⟨.bl _, H, I, rfl, q⟩
theorem op_geD {α : Type} [Enc α] [Alk α] [Dep α] (hd : Dep.n α ≤ 64) (hu : X.A.units + 64 < cLine) : OpR X (compareOp .GtE) (rOrd α (fun x y => !ltD x y) X.K) := by
  intro pins s σ H x y v u Q I rx ry h
  obtain ⟨d, e, hd, he, q⟩ := h
  obtain ⟨as, r1⟩ := Dp.reads I _ x v (Rp.dp _ _ hd) rx
  obtain ⟨bs, r2⟩ := Dp.reads I _ y u (Rp.dp _ _ he) ry
  exact PySem.W.rcGe_alike _ _ _ _ _ _ _ _ r1 r2 (Alk.ak d e) (Alk.nn d) (SeqAt.room_of_shaped (R.shaped hd (by assumption)) hu) _ _ _ _ ⟨.bl _, H, I, rfl, q⟩
end
section
variable {K : PySem.W.Frag} {X : Cx}
theorem op_gtDK {α : Type} [Enc α] [Alk α] [Dep α] (hu : X.A.units + 64 < cLine) (hd : Dep.n α ≤ 64 := by decide) (h : X.K = K := by rfl) : OpR X (compareOp .Gt) (rOrd α (fun x y => ltD y x) K) := by subst h; exact op_gtD hd hu
theorem op_ltDK {α : Type} [Enc α] [Alk α] [Dep α] (hu : X.A.units + 64 < cLine) (hd : Dep.n α ≤ 64 := by decide) (h : X.K = K := by rfl) : OpR X (compareOp .Lt) (rOrd α (fun x y => ltD x y) K) := by subst h; exact op_ltD hd hu
theorem op_leDK {α : Type} [Enc α] [Alk α] [Dep α] (hu : X.A.units + 64 < cLine) (hd : Dep.n α ≤ 64 := by decide) (h : X.K = K := by rfl) : OpR X (compareOp .LtE) (rOrd α (fun x y => !ltD y x) K) := by subst h; exact op_leD hd hu
theorem op_geDK {α : Type} [Enc α] [Alk α] [Dep α] (hu : X.A.units + 64 < cLine) (hd : Dep.n α ≤ 64 := by decide) (h : X.K = K := by rfl) : OpR X (compareOp .GtE) (rOrd α (fun x y => !ltD x y) K) := by subst h; exact op_geD hd hu
end
/-! what the order is -/
theorem ltD_ints (xs ys : List Int) : ltD xs ys = decide (xs < ys) := by
  have h := PySem.W.dataLt_ints xs ys
  rw [← h]
  exact PySem.W.dataLt_list _ _
theorem ltD_int (x y : Int) : ltD x y = decide (x < y) := PySem.W.dataLt_int x y
theorem ltD_p2 {α β : Type} [Enc α] [Enc β] [Alk α] [Alk β] (x y : α × β) : ltD x y = if eqD x.1 y.1 = true then (if eqD x.2 y.2 = true then false else ltD x.2 y.2) else ltD x.1 y.1 :=
  PySem.W.dataLt_pair (Alk.ak x.1 y.1) (Alk.ak x.2 y.2)
theorem call_dictTK {α β : Type} [Enc α] [IK α] [Enc β] [DecidableEq α] {X : Cx} {K : PySem.W.Frag} (hcalm : X.calm = true) (hu : X.A.units + 64 < cLine) (h : X.K = K := by rfl) : CallR X (.type "dict") (rDictT α β K) := by
  subst h
  exact call_dictT hcalm (by omega)
end G
/-! My base, part 30: list(range(n)). -/
namespace G
open PySem PySem.Spec PyProof.Rows L2 TL
section
variable {X : Cx}
theorem cr_range1 : CallR X (.type "range") (fun vs H Q => ∃ j, vs = [V.int j] ∧ ∀ p, H p = none → Q (.ref p) (upd H p (.rng 0 j))) := by
  intro pins s σ H vs us Q I r h
  obtain ⟨j, rfl, q⟩ := h
  obtain ⟨u1, rfl, ri⟩ := vals1 r
  obtain ⟨t, rfl⟩ := ri
  refine call_range_1 ⟨.ref s.heap.objs.size, upd H s.heap.objs.size (.rng 0 j), I.laid (t' := s.toks + 2) (fun b o e => Heap.get?_push_of_some _ e) (Nat.le_refl _) ?_, rfl, q _ (I.hok.fresh (Nat.le_refl _))⟩
  exact ⟨_, _, _, Heap.get?_push_size _ rfl⟩
theorem cr_listRng (hc : X.calm = true) : CallR X (.type "list") (fun vs H Q => ∃ p lo hi, vs = [V.ref p] ∧ H p = some (.rng lo hi) ∧ (-(2 ^ 62) ≤ lo ∧ lo < 2 ^ 62 ∧ -(2 ^ 62) ≤ hi ∧ hi < 2 ^ 62) ∧ (hi - lo).toNat ≤ sizeLine ∧
    ∀ q, H q = none → Q (.ref q) (upd H q (.lst ((rangeL lo (hi - lo).toNat).map V.int)))) := by
  intro pins s σ H vs us Q I r h
  obtain ⟨p, lo, hi, rfl, hp, hb, hz, q⟩ := h
  obtain ⟨u1, rfl, ri⟩ := vals1 r
  obtain rfl : u1 = .ref p := ri
  obtain ⟨t, u, v, ho⟩ := I.hok _ _ hp
  refine call_list_range (n := (hi - lo).toNat) (I.ok.hd hc) ho (small_one hb.1 hb.2.1 hb.2.2.1 hb.2.2.2) (rangeSize_nat _ _) (by rw [sizeLine_eq] at hz; omega) fun h' tk acc c hk hD hI => ?_
  refine ⟨.ref s.heap.objs.size, upd H s.heap.objs.size (.lst ((rangeL lo (hi - lo).toNat).map V.int)), I.laid (t' := tk) hk (Nat.le_refl _) (show ObjOk X.prog X.w _ _ _ (.lst _) from ⟨by rw [List.length_map, rangeL_len]; exact hz, acc.toList, c, ?_, by rw [Array.toArray_toList]; exact hD⟩), rfl, q _ (I.hok.fresh (Nat.le_refl _))⟩
  obtain ⟨h1, h2⟩ := hI
  have go : ∀ (n : Nat) (k : Nat) (vs : List Value), vs.length = n → (∀ i v, vs[i]? = some v → ∃ t, v = Value.int (lo + ((k + i : Nat) : Int) * 1) t) → Vals ((List.range' k n).map fun j => V.int (lo + (j : Nat))) vs := fun n => by
    induction n with
    | zero =>
      intro k vs e _
      obtain rfl := List.eq_nil_of_length_eq_zero e
      exact .nil
    | succ n ih =>
      intro k vs e hv
      cases vs with
      | nil => cases e
      | cons v vs =>
        rw [List.range'_succ, List.map_cons]
        refine .cons ?_ (ih (k + 1) vs (by simpa using e) fun i w hw => ?_)
        · obtain ⟨t, e2⟩ := hv 0 v rfl
          rw [Int.mul_one] at e2
          exact ⟨t, e2⟩
        · obtain ⟨t, e2⟩ := hv (i + 1) w (by simpa using hw)
          exact ⟨t, by rw [e2]; congr 3; omega⟩
  have := go (hi - lo).toNat 0 acc.toList (by rw [Array.length_toList]; exact h1) fun i v hv => by
    obtain ⟨t, e⟩ := h2 i v (by rw [← hv, Array.getElem?_toList])
    exact ⟨t, by rw [e, Nat.zero_add]⟩
  unfold rangeL
  rw [List.map_map, List.range_eq_range']
  exact this
end
end G
/-! My base, part 31: dict comprehensions, the keys of any kind that a dict of one's own can have. -/
namespace G
open PySem PySem.Spec PyProof.Rows L2 TL
/-- how a dict of a kind begins, and how it takes a value -/
structure StoreOk (S : Hp → Addr → V → V → Hp → Prop) (ob0 : HO) : Prop where
  empty : ∀ (P : Program) (w : World) (H : Hp) (h : Heap), sysModules < h.objs.size → ObjOk P w H (h.push { cls := .type "dict", data := .dict #[] }) h.objs.size ob0
  set : ∀ {X : Cx} {pins : List (Addr × Obj)} {σ : L2.St} {H H' : Hp} {s : Shared} {E : Value → Shared → Prop} {D : Addr} {y z : V} {u r : Value} {Q : Unit → Shared → Prop}, X.A.units + 1 < cLine → Inv X pins σ H s → S H D y z H' → RelV y u → RelV z r →
    (∀ s', Inv X pins σ H' s' → Q () s') → wpAny (model X.prog X.w) X.A (dictSet D u r) Q E s
theorem store_put {X : Cx} {pins : List (Addr × Obj)} {σ : L2.St} {H H' : Hp} {s : Shared} {E : Value → Shared → Prop} {D : Addr} {y z : V} {u r : Value} {Q : Unit → Shared → Prop} (hu : X.A.units + 1 < cLine) (I : Inv X pins σ H s) (g : DPut H D y z H') (ry : RelV y u) (rv : RelV z r)
    (h : ∀ s', Inv X pins σ H' s' → Q () s') : wpAny (model X.prog X.w) X.A (dictSet D u r) Q E s := by
  rcases g with ⟨kvs, k, e, rfl, l, rfl⟩ | ⟨kvs, k, b, e, rfl, eb, l, rfl⟩
  · exact d_dictSet I e l ry rv h
  · obtain rfl : u = Value.ref b := ry
    obtain ⟨len, hd, xs, rel, dd⟩ := dt_of I.hok e
    have hz : xs.length ≤ sizeLine := by rw [← Paired.length rel]; exact len
    have hl : (putK kvs k z).length ≤ sizeLine := by have := length_putK kvs k z; omega
    refine wpAny_dictSet_heap (hsz := hz) (knd := tupleKind (mixKind X.prog X.w)) (show X.A.units < cLine by omega) (key_of I.hok eb) dd fun h' dd' hs => h _ ?_
    obtain ⟨q, es, ep, hq, h2, h3, h4, _, h5⟩ := dd'
    refine d_write I (by rw [e]; exact True.intro) hs ⟨q, hq⟩ ⟨hl, hd, _, KT.keeps (rel.put k eb rv) fun c ys ec => ?_, q, es, ep, hq, h2, h3, h4, h5⟩
    rw [upd_ne (ne_of ec e (fun z => nomatch z))]
    exact ec
theorem storeK : StoreOk DPut (.dK []) := ⟨fun P w H h hb => dk_empty h hb, fun hu I g ry rv h => store_put hu I g ry rv h⟩
theorem storeT : StoreOk DPut (.dT []) := ⟨fun P w H h hb => dt_empty h hb, fun hu I g ry rv h => store_put hu I g ry rv h⟩
section
variable {X : Cx}
/-- {k: v for target in iter if ..} into a dict that begins as ob0 and takes by S -/
def tDcS (S : Hp → Addr → V → V → Hp → Prop) (ob0 : HO) (wi : TI) (g : TG) (tt : TT) (tk tv : TE) (vs : List Nat) : TE := fun σ H Q => wi σ H fun J H1 => ∀ D, H1 D = none →
  ∃ W : Nat → Nat → Hp → Prop, (∃ m, W 0 m (upd H1 D ob0)) ∧ ∀ i m H, W i m H →
    (J.stop i H ∧ Q (.ref D) H) ∨ (J.go i H ∧ ∃ Nx : Hp → Prop, (∀ H', Nx H' → ∃ m', m' < m ∧ W (i + 1) m' H') ∧ ∀ x H', J.yld i H x H' → g x (wipe σ vs) H' fun σ2 H2 => wipe σ2 vs = wipe σ vs ∧ tt σ2 H2 fun b H3 =>
      if b = true then tk σ2 H3 fun y H4 => tv σ2 H4 fun z H5 => ∃ H6, S H5 D y z H6 ∧ Nx H6 else Nx H3)
theorem dc_coreS {pins : List (Addr × Obj)} {s : Shared} {σ : L2.St} {H : Hp} {Q : VK} {pos' : Pos} {use : Option (Value → Sem Unit)} {Qf : Value → Shared → Prop} {S : Hp → Addr → V → V → Hp → Prop} {ob0 : HO} (so : StoreOk S ob0) {kx vx tg iter : Expr} {ifs : List Expr} {scope : Scope} {own : List (Str × Nat)} {pos : Pos} {wi : TI} {g : TG} {tt : TT} {tk tv : TE} (hc : X.calm = true) (hu : X.A.units + 1 < cLine) (hN : X.N.Nodup) (I : Inv X pins σ H s)
    (hi : PI X tg iter wi) (ok : BlkOk X.N X.env.scope scope own)
    (hg : ∀ (s : Shared) (H : Hp) (C : Addr) (cl : List (Str × Addr)) (fp : List Addr), PG (X.blk s H scope (compEnvC scope cl C X.env) fp) tg g) (ht : ∀ (s : Shared) (H : Hp) (C : Addr) (cl : List (Str × Addr)) (fp : List Addr), PTs (X.blk s H scope (compEnvC scope cl C X.env) fp) ifs tt)
    (hk : ∀ (s : Shared) (H : Hp) (C : Addr) (cl : List (Str × Addr)) (fp : List Addr), PE (X.blk s H scope (compEnvC scope cl C X.env) fp) kx tk)
    (he : ∀ (s : Shared) (H : Hp) (C : Addr) (cl : List (Str × Addr)) (fp : List Addr), PE (X.blk s H scope (compEnvC scope cl C X.env) fp) vx tv) (hs : ∀ x, foldedSetIterable iter X.env x = pure x)
    (h : tDcS S ob0 wi g tt tk tv (own.map (·.2)) σ H Q)
    (hRR : ∀ D C s' m H', Inv X pins σ H' s' → Q (.ref D) H' → s'.heap.Ns C m → FpOk X pins H' C → compPost (model X.prog X.w) X.A X.xe use Qf (.ref D) C (.ok .next) s') :
    wpAny (model X.prog X.w) X.A (comprehension (.DictComp kx vx [⟨tg, iter, ifs, 0⟩] scope pos) scope X.env pos' newDict false (eval iter X.env) use) Qf X.xe s := by
  have cells : ∀ y ∈ scope.names, y.2 = .free → ∃ c, X.env.cells.lookup y.1 = some c := fun y hy e => (ok.free y hy e).elim (fun k => I.ok.has _ (.inl k)) (fun k => I.ok.has _ (.inr k))
  refine wpAny_comprehension_free (use := use) rfl hs (closure_ok cells) ok.kind (fun y hy e => by rw [ok.uniq y hy, e]) (thn (hi.run pins s σ H _ I h) fun xv s1 hx => thn hx fun itv s2 ⟨it, fp, tn, J, H2, ei, I2, T, st2, f2, q⟩ => ?_)
  subst ei
  refine wpAny_newObj_type (newEnv_comp ?_)
  have hDn : H2 s2.heap.objs.size = none := I2.hok.fresh (Nat.le_refl _)
  obtain ⟨W, ⟨m0, w0⟩, turn⟩ := q _ hDn
  generalize hD : s2.heap.objs.size = D at hDn w0 turn ⊢
  generalize hs3 : ({ s2 with heap := s2.heap.push { cls := .type "dict", data := .dict #[] } } : Shared) = s3
  have h3 : s3.heap = s2.heap.push { cls := .type "dict", data := .dict #[] } := by rw [← hs3]
  have I3 : Inv X pins σ (upd H2 D ob0) s3 := by
    subst hD hs3
    exact I2.laid (t' := s2.toks) (fun b o e => Heap.get?_push_of_some _ e) (Nat.le_refl _) (so.empty _ _ _ _ I2.big)
  have f3 : ∀ b ∈ fp, FpOk X pins (upd H2 D ob0) b ∧ b < s3.heap.objs.size := fun b hb => by
    obtain ⟨o, e, _⟩ := T.obj _ _ st2 b hb
    have hlt := Heap.lt_size e
    exact ⟨⟨by rw [upd_ne (by rw [← hD]; exact Nat.ne_of_lt hlt)]; exact (f2 b hb).1, (f2 b hb).2⟩, by rw [h3, Heap.size_push]; exact Nat.lt_succ_of_lt hlt⟩
  have st3 : tn 0 s3.heap := T.keep _ _ _ st2 fun b _ o e => by rw [h3]; exact Heap.get?_push_of_some _ e
  have I4 := block_start I3 ok hN f3
  have pg := hg s3 (upd H2 D ob0) s3.heap.objs.size (cellsFrom (s3.heap.objs.size + 1) scope.names (cloFrom X.env.cells scope.names [])) fp
  have pt := ht s3 (upd H2 D ob0) s3.heap.objs.size (cellsFrom (s3.heap.objs.size + 1) scope.names (cloFrom X.env.cells scope.names [])) fp
  have pk := hk s3 (upd H2 D ob0) s3.heap.objs.size (cellsFrom (s3.heap.objs.size + 1) scope.names (cloFrom X.env.cells scope.names [])) fp
  have pv := he s3 (upd H2 D ob0) s3.heap.objs.size (cellsFrom (s3.heap.objs.size + 1) scope.names (cloFrom X.env.cells scope.names [])) fp
  show codeAny _ _ (.compStart (.DictComp kx vx [⟨tg, iter, ifs, 0⟩] scope pos) 0 (.ref it) (.ref D) (compEnvC scope (cellsFrom (s3.heap.objs.size + 1) scope.names (cloFrom X.env.cells scope.names [])) s3.heap.objs.size X.env)) (compPost (model X.prog X.w) X.A X.xe use Qf (.ref D) s3.heap.objs.size)
    { s3 with heap := pushCells (s3.heap.push { cls := .type "dict", data := .dict #[] }) scope.names }
  have none3 : ∀ b ∈ fp, (upd H2 D ob0) b = none := fun b hb => (f3 b hb).1.1
  generalize hce : compEnvC scope (cellsFrom (s3.heap.objs.size + 1) scope.names (cloFrom X.env.cells scope.names [])) s3.heap.objs.size X.env = ce at I4 pg pt pk pv ⊢
  have loc : ce.locals = s3.heap.objs.size := by rw [← hce]; rfl
  generalize hH3 : upd H2 D ob0 = H3 at I3 I4 pg pt pk pv w0 none3 f3
  generalize hs4 : ({ s3 with heap := pushCells (s3.heap.push { cls := .type "dict", data := .dict #[] }) scope.names } : Shared) = s4 at I4 ⊢
  have st4 : tn 0 s4.heap := T.keep _ _ _ st3 fun b _ o e => by rw [← hs4]; exact pushCells_keeps _ _ _ _ (Heap.get?_push_of_some _ e)
  have stays : ∀ {σ' : L2.St} {H' : Hp} {s' : Shared}, Inv (X.blk s3 H3 scope ce fp) [] σ' H' s' → (∀ b ∈ fp, H' b = none) → ∀ b ∈ fp, FpOk (X.blk s3 H3 scope ce fp) [] H' b := fun {σ' H' s'} I' hn b hb =>
    ⟨hn b hb, (I'.ok.exf b hb).1, I'.ok.exfs b hb, .inl hb, fun x c e => (I'.ok.exf b hb).2 x c e, fun p hp => nomatch (show p ∈ ([] : List (Addr × Obj)) from hp)⟩
  have loop : codeAny (model X.prog X.w) X.A (.compLoop (.DictComp kx vx [⟨tg, iter, ifs, 0⟩] scope pos) 0 (.ref it) (.ref D) ce) (compPost (model X.prog X.w) X.A X.xe use Qf (.ref D) s3.heap.objs.size) s4 := by
    refine compLoop_anyD (fun n s' => ∃ i H', Inv (X.blk s3 H3 scope ce fp) [] (wipe σ (own.map (·.2))) H' s' ∧ tn i s'.heap ∧ (∀ b ∈ fp, H' b = none) ∧ W i n H') (fun n s5 ⟨i, H5, I5, st5, n5, w5⟩ => ?_) m0 ⟨0, H3, I4, st4, none3, w0⟩
    rcases turn i n H5 w5 with ⟨stop, qq⟩ | ⟨go, Nx, hNx, step⟩
    · -- no more turns
      refine thnF (T.done (X.blk s3 H3 scope ce fp) rfl rfl rfl hc i [] s5 _ H5 (fun _ _ => False) I5 (stays I5 n5) st5 stop) fun r s6 ⟨hr, I6⟩ => ?_
      subst hr
      have I7 : Inv X pins σ H5 s6 := I3.call' (ch := fp) I6.os I6.base I6.hok I6.bare fun b hb => ⟨(f3 b hb).1.2.2.2.1, (f3 b hb).1.2.1, (f3 b hb).1.2.2.2.2.1, (f3 b hb).1.2.2.2.2.2⟩
      have nC : H5 s3.heap.objs.size = none := loc ▸ I6.free
      obtain ⟨m, hn, _⟩ := I6.loc
      have hn : s6.heap.Ns s3.heap.objs.size m := loc ▸ hn
      exact hRR D s3.heap.objs.size s6 m H5 I7 qq hn (I3.fpOk (Nat.le_refl _) nC)
    · -- a turn
      refine thnF (T.item (X.blk s3 H3 scope ce fp) rfl rfl rfl hc i [] s5 _ H5 (fun _ _ => False) I5 (stays I5 n5) st5 go) fun r s6 ⟨u, hr, h6⟩ => ?_
      subst hr
      refine thnF h6 fun _ s7 ⟨x, H7, I7, r7, y7, st7, n7⟩ => ?_
      refine thnF (pg.run _ s7 _ H7 x u _ (I7.pinned (stays I7 n7) (T.obj _ _ st7)) r7 (step x H7 y7)) fun _ s8 ⟨σ8, H8, I8, hw8, q8⟩ => thnF (pt.run _ s8 σ8 H8 _ I8 q8) fun b s9 ⟨H9, I9, q9⟩ => ?_
      have close : ∀ {s' : Shared} {H' : Hp}, Inv (X.blk s3 H3 scope ce fp) ([] ++ pinsAt fp s7.heap) σ8 H' s' → Nx H' → ∃ m, m < n ∧ ∃ i H', Inv (X.blk s3 H3 scope ce fp) [] (wipe σ (own.map (·.2))) H' s' ∧ tn i s'.heap ∧ (∀ b ∈ fp, H' b = none) ∧ W i m H' := fun {s' H'} I' nx => by
        obtain ⟨m', hm, w'⟩ := hNx H' nx
        have pin' : ∀ b ∈ fp, ∀ o, s7.heap.get? b = some o → s'.heap.get? b = some o ∧ H' b = none := fun b hb o e =>
          have z := I'.pin (b, o) (List.mem_append_right _ (List.mem_append_right _ (mem_pinsAt hb e)))
          ⟨z.1, z.2.1⟩
        refine ⟨m', hm, i + 1, H', (I'.unpinned (pins := [])).weak (by rw [← hw8, wipe_length]) (fun j v e => by rw [← hw8] at e; exact (wipe_some e).1), T.keep _ _ _ st7 fun b hb o e => (pin' b hb o e).1, fun b hb => ?_, w'⟩
        obtain ⟨o, e, _⟩ := T.obj _ _ st7 b hb
        exact (pin' b hb o e).2
      cases b with
      | false => exact close I9 q9
      | true =>
        simp only [if_true] at q9 ⊢
        exact thnF (pk.run _ s9 σ8 H9 _ I9 q9) fun ku s10 ⟨yk, H10, I10, r10, q10⟩ => thnF (pv.run _ s10 σ8 H10 _ I10 q10) fun vu s11 ⟨yv, H11, I11, r11, H12, sd, nx⟩ =>
          so.set (X := X.blk s3 H3 scope ce fp) hu I11 sd r10 r11 fun s12 I12 => close I12 nx
  exact codeAny_compStart_dict loop (T.self X.A 0 _ _ _ st4 loop)
theorem pe_dcS {S : Hp → Addr → V → V → Hp → Prop} {ob0 : HO} (so : StoreOk S ob0) {kx vx tg iter : Expr} {ifs : List Expr} {scope : Scope} {own : List (Str × Nat)} {pos : Pos} {wi : TI} {g : TG} {tt : TT} {tk tv : TE} (hc : X.calm = true) (hu : X.A.units + 1 < cLine) (hN : X.N.Nodup)
    (hi : PI X tg iter wi) (ok : BlkOk X.N X.env.scope scope own)
    (hg : ∀ (s : Shared) (H : Hp) (C : Addr) (cl : List (Str × Addr)) (fp : List Addr), PG (X.blk s H scope (compEnvC scope cl C X.env) fp) tg g) (ht : ∀ (s : Shared) (H : Hp) (C : Addr) (cl : List (Str × Addr)) (fp : List Addr), PTs (X.blk s H scope (compEnvC scope cl C X.env) fp) ifs tt)
    (hk : ∀ (s : Shared) (H : Hp) (C : Addr) (cl : List (Str × Addr)) (fp : List Addr), PE (X.blk s H scope (compEnvC scope cl C X.env) fp) kx tk)
    (he : ∀ (s : Shared) (H : Hp) (C : Addr) (cl : List (Str × Addr)) (fp : List Addr), PE (X.blk s H scope (compEnvC scope cl C X.env) fp) vx tv) (hs : ∀ x, foldedSetIterable iter X.env x = pure x := by intro _; rfl) :
    PE X (.DictComp kx vx [⟨tg, iter, ifs, 0⟩] scope pos) (tDcS S ob0 wi g tt tk tv (own.map (·.2))) := by
  refine ⟨fun pins s σ H Q I h => ?_⟩
  rw [arm_eval_DictComp]
  refine dc_coreS so hc hu hN I hi ok hg ht hk he hs h fun D C s' m H' I' q hn f => ⟨m, hn, fun h'' sb => ?_⟩
  obtain ⟨f0, f1, f2, f3, f4, f5⟩ := f
  exact ⟨.ref D, H', I'.turned (t' := s'.toks) (fun b o hb e => (sb.2 b hb).trans e) f0 f1 f3 f4 f5, rfl, q⟩
/-- name = {..}, the name a local -/
theorem ps_setDcS {i : Nat} {y : Str} {py spos : Pos} {S : Hp → Addr → V → V → Hp → Prop} {ob0 : HO} (so : StoreOk S ob0) {kx vx tg iter : Expr} {ifs : List Expr} {scope : Scope} {own : List (Str × Nat)} {pos : Pos} {wi : TI} {g : TG} {tt : TT} {tk tv : TE} (hc : X.calm = true) (hu : X.A.units + 1 < cLine) (hN : X.N.Nodup) (hy : X.N[i]? = some y) (hyl : X.env.scope.names.lookup y = some .local)
    (hsw : swapsWith (.DictComp kx vx [⟨tg, iter, ifs, 0⟩] scope pos) (some (.Name y py)) spos.line X.env = pure true) (hi : PI X tg iter wi) (ok : BlkOk X.N X.env.scope scope own)
    (hg : ∀ (s : Shared) (H : Hp) (C : Addr) (cl : List (Str × Addr)) (fp : List Addr), PG (X.blk s H scope (compEnvC scope cl C X.env) fp) tg g) (ht : ∀ (s : Shared) (H : Hp) (C : Addr) (cl : List (Str × Addr)) (fp : List Addr), PTs (X.blk s H scope (compEnvC scope cl C X.env) fp) ifs tt)
    (hk : ∀ (s : Shared) (H : Hp) (C : Addr) (cl : List (Str × Addr)) (fp : List Addr), PE (X.blk s H scope (compEnvC scope cl C X.env) fp) kx tk)
    (he : ∀ (s : Shared) (H : Hp) (C : Addr) (cl : List (Str × Addr)) (fp : List Addr), PE (X.blk s H scope (compEnvC scope cl C X.env) fp) vx tv) (hs : ∀ x, foldedSetIterable iter X.env x = pure x := by intro _; rfl) :
    PS X (.Assign [.Name y py] (.DictComp kx vx [⟨tg, iter, ifs, 0⟩] scope pos) spos) (tAsg (tDcS S ob0 wi g tt tk tv (own.map (·.2))) (gName i)) := by
  refine ⟨fun pins s σ H D I h => ?_⟩
  rw [exec_Assign_Name_used _ _ _ _ hsw]
  refine wpAny_bind (wpAny_standAt (wpAny_bind ?_))
  show wpAny _ X.A (do let _ ← comprehension (.DictComp kx vx [⟨tg, iter, ifs, 0⟩] scope pos) scope X.env (firstIterPos [⟨tg, iter, ifs, 0⟩] pos) newDict false (eval iter X.env) (some (assign (.Name y py) X.env))) _ _ s
  have h : tDcS S ob0 wi g tt tk tv (own.map (·.2)) σ H (fun x H1 => gName i x σ H1 D.nx) := h
  refine wpAny_bind (thn (dc_coreS (Qf := fun _ s' => SP X pins D .next s') so hc hu hN I hi ok hg ht hk he hs h fun L C s' m H' I' q hn f => ?_) fun _ s' hq => wpAny_pure (wpAny_pure hq))
  show wpAny _ _ (assign (.Name y py) X.env (.ref L)) _ _ _
  refine wpAny_assign_Name (store_ok2 (v := V.ref L) I' hN hy (.inl hyl) rfl (fun s2 I2 ⟨a, sb, ha⟩ => ?_) (.inr hyl))
  obtain ⟨f0, f1, f2, f3, f4, f5⟩ := f
  have haC : C ≠ a := by
    rcases ha with z | z
    · rw [z]; exact f1
    · exact fun e => f4 y a z e.symm
  refine ⟨m, hn.sameBut sb haC, fun h3 sb3 => ?_⟩
  exact ⟨_, H', I2.turned (t' := s2.toks) (fun b o hb e => (sb3.2 b hb).trans e) f0 f1 f3 f4 f5, q⟩
theorem sw_trueD {kx vx : Expr} {gs : List Comprehension} {scope : Scope} {pos py : Pos} {y : Str} {l : Nat} {env : Env} (hk : env.scope.kind = .function) (hy : env.scope.names.lookup y = some .local) (hl : (py.line == pos.line) = true)
    (ha : (scope.names.any fun (n, k) => n == y && (k == .local || k == .cell)) = false) : swapsWith (.DictComp kx vx gs scope pos) (some (.Name y py)) l env = pure true := by
  have ky : env.kindOf y = some .local := hy
  have hb : env.blockKind = .function := by unfold Env.blockKind; rw [hk]; rfl
  unfold swapsWith
  simp only [hb, ky, ha, Expr.pos, hl]
  rfl
end
end G
/-! My base, part 32: walks of dict comprehensions; a < b < c whose last part has effects. -/
namespace G
open PySem PySem.Spec PyProof.Rows L2 TL
section
variable {J : It} {n : Nat} {Gd : Hp → Prop} {Y : Nat → Hp → V → Hp → Prop} {S : Hp → Addr → V → V → Hp → Prop} {ob0 : HO} {g : TG} {tt : TT} {tk tv : TE} {vs : List Nat} {σ : L2.St} {H1 : Hp} {D : Addr} {Qd : Hp → Prop} {K : PySem.W.Frag}
theorem dS_it (w : Walk J n Gd Y) (Pv : Nat → Hp → Prop) (h0 : Pv 0 (upd H1 D ob0)) (hG : ∀ i H, i ≤ n → Pv i H → Gd H)
    (hs : ∀ i x H H', i < n → Pv i H → Y i H x H' → g x (wipe σ vs) H' fun σ2 H2 => wipe σ2 vs = wipe σ vs ∧ tt σ2 H2 fun b H3 =>
      if b = true then tk σ2 H3 fun y H4 => tv σ2 H4 fun z H5 => ∃ H6, S H5 D y z H6 ∧ Pv (i + 1) H6 else Pv (i + 1) H3) (hd : ∀ H, Pv n H → Qd H) :
    ∃ W : Nat → Nat → Hp → Prop, (∃ m, W 0 m (upd H1 D ob0)) ∧ ∀ i m H, W i m H →
      (J.stop i H ∧ Qd H) ∨ (J.go i H ∧ ∃ Nx : Hp → Prop, (∀ H', Nx H' → ∃ m', m' < m ∧ W (i + 1) m' H') ∧ ∀ x H', J.yld i H x H' → g x (wipe σ vs) H' fun σ2 H2 => wipe σ2 vs = wipe σ vs ∧ tt σ2 H2 fun b H3 =>
        if b = true then tk σ2 H3 fun y H4 => tv σ2 H4 fun z H5 => ∃ H6, S H5 D y z H6 ∧ Nx H6 else Nx H3) := by
  refine ⟨fun i m H => m = n - i ∧ i ≤ n ∧ Pv i H, ⟨n, by simp, Nat.zero_le _, h0⟩, ?_⟩
  rintro i m H ⟨rfl, hi, p⟩
  have q := hG i H hi p
  by_cases hlt : i < n
  · exact .inr ⟨w.goes i H hlt q, Pv (i + 1), fun H' p' => ⟨n - (i + 1), by omega, rfl, hlt, p'⟩, fun x H' y => hs i x H H' hlt p (w.yields i H x H' hlt q y)⟩
  · have e : i = n := by omega
    subst e
    exact .inl ⟨w.stops H q, hd H p⟩
abbrev DcGoal (S : Hp → Addr → V → V → Hp → Prop) (ob0 : HO) (J : It) (g : TG) (tt : TT) (tk tv : TE) (vs : List Nat) (σ : L2.St) (H1 : Hp) (D : Addr) (Qd : Hp → Prop) : Prop :=
    ∃ W : Nat → Nat → Hp → Prop, (∃ m, W 0 m (upd H1 D ob0)) ∧ ∀ i m H, W i m H →
      (J.stop i H ∧ Qd H) ∨ (J.go i H ∧ ∃ Nx : Hp → Prop, (∀ H', Nx H' → ∃ m', m' < m ∧ W (i + 1) m' H') ∧ ∀ x H', J.yld i H x H' → g x (wipe σ vs) H' fun σ2 H2 => wipe σ2 vs = wipe σ vs ∧ tt σ2 H2 fun b H3 =>
        if b = true then tk σ2 H3 fun y H4 => tv σ2 H4 fun z H5 => ∃ H6, S H5 D y z H6 ∧ Nx H6 else Nx H3)
abbrev DcStep (S : Hp → Addr → V → V → Hp → Prop) (g : TG) (tt : TT) (tk tv : TE) (vs : List Nat) (σ : L2.St) (D : Addr) (N : Hp → Prop) (x : V) (H : Hp) : Prop :=
  g x (wipe σ vs) H fun σ2 H2 => wipe σ2 vs = wipe σ vs ∧ tt σ2 H2 fun b H3 => if b = true then tk σ2 H3 fun y H4 => tv σ2 H4 fun z H5 => ∃ H6, S H5 D y z H6 ∧ N H6 else N H3
theorem dS_list {a : Addr} {xs : List V} (Pv : Nat → Hp → Prop) (h0 : Pv 0 (upd H1 D ob0)) (hl : ∀ i H, i ≤ xs.length → Pv i H → SqL K H a xs)
    (hs : ∀ i x H, xs[i]? = some x → Pv i H → DcStep S g tt tk tv vs σ D (Pv (i + 1)) x H) (hd : ∀ H, Pv xs.length H → Qd H) : DcGoal S ob0 (Itl K a) g tt tk tv vs σ H1 D Qd :=
  dS_it walk_list Pv h0 hl (fun i x H H' _ p y => by obtain ⟨e, y⟩ := y; subst e; exact hs i x _ y p) hd
theorem dS_tup {a : Addr} {xs : List V} (Pv : Nat → Hp → Prop) (h0 : Pv 0 (upd H1 D ob0)) (hl : ∀ i H, i ≤ xs.length → Pv i H → SqT K H a xs)
    (hs : ∀ i x H, xs[i]? = some x → Pv i H → DcStep S g tt tk tv vs σ D (Pv (i + 1)) x H) (hd : ∀ H, Pv xs.length H → Qd H) : DcGoal S ob0 (Itt K a) g tt tk tv vs σ H1 D Qd :=
  dS_it walk_tup Pv h0 hl (fun i x H H' _ p y => by obtain ⟨e, y⟩ := y; subst e; exact hs i x _ y p) hd
theorem dS_range {lo : Int} {n : Nat} (Pv : Nat → Hp → Prop) (h0 : Pv 0 (upd H1 D ob0))
    (hs : ∀ i H, i < n → Pv i H → DcStep S g tt tk tv vs σ D (Pv (i + 1)) (.int (lo + i)) H) (hd : ∀ H, Pv n H → Qd H) : DcGoal S ob0 (Itr lo n) g tt tk tv vs σ H1 D Qd :=
  dS_it walk_range Pv h0 (fun _ _ _ _ => trivial) (fun i x H H' hi p y => by obtain ⟨e, y⟩ := y; subst e y; exact hs i _ hi p) hd
theorem dS_zip {a b : Addr} {xs ys : List V} (Pv : Nat → Hp → Prop) (h0 : Pv 0 (upd H1 D ob0)) (hl : ∀ i H, i ≤ min xs.length ys.length → Pv i H → SqL K H a xs ∧ SqL K H b ys)
    (hs : ∀ i x y T H, xs[i]? = some x → ys[i]? = some y → H T = none → Pv i H → DcStep S g tt tk tv vs σ D (Pv (i + 1)) (.ref T) (upd H T (.tup [x, y]))) (hd : ∀ H, Pv (min xs.length ys.length) H → Qd H) : DcGoal S ob0 (Itz K a b) g tt tk tv vs σ H1 D Qd :=
  dS_it (walk_zip rfl) Pv h0 hl (fun i v H H' _ p ⟨T, x, y, e1, e2, e3, e4, e5⟩ => by subst e1 e3; exact hs i x y T H e4 e5 e2 p) hd
theorem dS_enum {a : Addr} {xs : List V} (Pv : Nat → Hp → Prop) (h0 : Pv 0 (upd H1 D ob0)) (hl : ∀ i H, i ≤ xs.length → Pv i H → SqL K H a xs)
    (hs : ∀ i x T H, xs[i]? = some x → H T = none → Pv i H → DcStep S g tt tk tv vs σ D (Pv (i + 1)) (.ref T) (upd H T (.tup [.int (i : Nat), x]))) (hd : ∀ H, Pv xs.length H → Qd H) : DcGoal S ob0 (Ite K a) g tt tk tv vs σ H1 D Qd :=
  dS_it walk_enum Pv h0 hl (fun i v H H' _ p ⟨T, x, y, e1, e2, e3, e4, e5⟩ => by
    subst e1 e3
    cases e4
    exact hs i y T H e5 e2 p) hd
theorem dS_str {z : Str} (Pv : Nat → Hp → Prop) (h0 : Pv 0 (upd H1 D ob0))
    (hs : ∀ i c H, z.cps[i]? = some c → Pv i H → DcStep S g tt tk tv vs σ D (Pv (i + 1)) (.str (sgn c)) H) (hd : ∀ H, Pv z.cps.size H → Qd H) : DcGoal S ob0 (Its z) g tt tk tv vs σ H1 D Qd :=
  dS_it walk_str Pv h0 (fun _ _ _ _ => trivial) (fun i x H H' _ p y => by
    obtain ⟨rfl, c, hc, rfl⟩ := y
    exact hs i c _ hc p) hd
theorem dS_keysT {d : Addr} {o : Obj} {kvs : List (List Key × V)} (Pv : Nat → Hp → Prop) (h0 : Pv 0 (upd H1 D ob0)) (hG : ∀ i H, i ≤ kvs.length → Pv i H → H d = some (.frz o (.dT kvs)))
    (hs : ∀ i k v q H, kvs[i]? = some (k, v) → H q = some (.tup (k.map kV)) → Pv i H → DcStep S g tt tk tv vs σ D (Pv (i + 1)) (.ref q) H) (hd : ∀ H, Pv kvs.length H → Qd H) : DcGoal S ob0 (Itkt d o kvs) g tt tk tv vs σ H1 D Qd :=
  dS_it walk_keysT Pv h0 hG (fun i x H H' hi p ⟨e1, k, v, q, e2, e3, e4⟩ => by subst e1 e3; exact hs i k v q _ e2 e4 p) hd
theorem dS_keysK {d : Addr} {o : Obj} {kvs : List (Key × V)} (Pv : Nat → Hp → Prop) (h0 : Pv 0 (upd H1 D ob0)) (hG : ∀ i H, i ≤ kvs.length → Pv i H → H d = some (.frz o (.dK kvs)))
    (hs : ∀ i k v H, kvs[i]? = some (k, v) → Pv i H → DcStep S g tt tk tv vs σ D (Pv (i + 1)) (kV k) H) (hd : ∀ H, Pv kvs.length H → Qd H) : DcGoal S ob0 (Itk d o kvs) g tt tk tv vs σ H1 D Qd :=
  dS_it walk_keysK Pv h0 hG (fun i x H H' hi p ⟨e1, k, v, e2, e3⟩ => by subst e1 e3; exact hs i k v _ e2 p) hd
theorem dS_itemsT {d : Addr} {o : Obj} {kvs : List (List Key × V)} (Pv : Nat → Hp → Prop) (h0 : Pv 0 (upd H1 D ob0)) (hG : ∀ i H, i ≤ kvs.length → Pv i H → H d = some (.frz o (.dT kvs)))
    (hs : ∀ i k v q T H, kvs[i]? = some (k, v) → H q = some (.tup (k.map kV)) → H T = none → Pv i H → DcStep S g tt tk tv vs σ D (Pv (i + 1)) (.ref T) (upd H T (.tup [.ref q, v]))) (hd : ∀ H, Pv kvs.length H → Qd H) : DcGoal S ob0 (ItiT d o kvs) g tt tk tv vs σ H1 D Qd :=
  dS_it walk_itemsT Pv h0 hG (fun i x H H' hi p ⟨T, k, v, q, e2, e3, e4, e5, e6⟩ => by subst e3 e6; exact hs i k v q T _ e2 e5 e4 p) hd
end
theorem dputAll_snoc {α β : Type} [DecidableEq α] : ∀ (xs : List (α × β)) (D : List (α × β)) (x : α) (y : β), dputAll D (xs ++ [(x, y)]) = dput (dputAll D xs) x y
  | [], _, _, _ => rfl
  | p :: xs, D, x, y => dputAll_snoc xs (dput D p.1 p.2) x y
section
variable {M : Addr → Prop} {F H : Hp} {σ : L2.St} {tc : TE} {r' : R2} {y : V} {Q : VK} {a c : Bool} {P : Hp → Hp → Prop}
theorem chJV (h2 : a = true → ∀ Q : VK, (∀ F' H', Gr M F H F' H' → P F' H' → Q (.bl c) H') → tc σ H fun w' H4 => r' y w' H4 Q) (h3 : a = false → c = false ∧ P F H) (fh : Same F H)
    (q : ∀ F' H', Gr M F H F' H' → P F' H' → Q (.bl c) H') : if a = true then (tc σ H fun w' H4 => r' y w' H4 Q) else Q (.bl false) H :=
  andJV (tb := fun σ H Q => tc σ H fun w' H4 => r' y w' H4 Q) h2 h3 fh q
end
/-- a list of one kind or of another -/
def lenA {α β : Type} : List α ⊕ List β → Nat
  | .inl xs => xs.length
  | .inr ys => ys.length
theorem R.alt_lst {α β : Type} [Enc α] [Enc β] {K : PySem.W.Frag} {F : Hp} {v : V} {x : List α ⊕ List β} (h : R K F v x) : ∃ p ws, v = .ref p ∧ SqL K F p ws ∧ ws.length = lenA x := by
  cases x with
  | inl xs =>
    obtain ⟨p, ws, e, hS, _, hA⟩ := R.lst_v (show R K F v xs from h)
    exact ⟨p, ws, e, hS, RL.len hA⟩
  | inr xs =>
    obtain ⟨p, ws, e, hS, _, hA⟩ := R.lst_v (show R K F v xs from h)
    exact ⟨p, ws, e, hS, RL.len hA⟩
end G
/-! My base, part 33: t[::-1] of tuples; xs.index(x). -/
namespace G
open PySem PySem.Spec PyProof.Rows L2 TL HT
theorem fm_map {α β : Type} {f : α → Option β} {g : α → β} : ∀ {l : List α}, (∀ m ∈ l, f m = some (g m)) → l.filterMap f = l.map g
  | [], _ => rfl
  | x :: l, h => by
    rw [List.filterMap_cons, h x (List.mem_cons_self ..), List.map_cons, fm_map fun m hm => h m (List.mem_cons_of_mem _ hm)]
theorem pick_rev (xs : Array Value) : ((List.range xs.size).filterMap fun (m : Nat) => xs[(((xs.size : Nat) : Int) - 1 + (m : Int) * -1).toNat]?).toArray = xs.toList.reverse.toArray := by
  congr 1
  have e : ∀ m ∈ List.range xs.size, xs[(((xs.size : Nat) : Int) - 1 + (m : Int) * -1).toNat]? = some ((xs.toList.reverse)[m]?.getD .none) := fun m hm => by
    have hm := List.mem_range.mp hm
    have e1 : (((xs.size : Nat) : Int) - 1 + (m : Int) * -1).toNat = xs.size - 1 - m := by omega
    rw [e1, List.getElem?_reverse (by rw [Array.length_toList]; exact hm), Array.length_toList, Array.getElem?_toList, Array.getElem?_eq_getElem (by omega)]
    rfl
  rw [fm_map e]
  refine List.ext_getElem? fun i => ?_
  rw [List.getElem?_map]
  by_cases c : i < xs.size
  · rw [List.getElem?_range c]
    have : i < xs.toList.reverse.length := by rw [List.length_reverse, Array.length_toList]; exact c
    rw [Option.map_some, List.getElem?_eq_getElem this, Option.getD_some]
  · rw [List.getElem?_eq_none (by rw [List.length_range]; omega), List.getElem?_eq_none (by rw [List.length_reverse, Array.length_toList]; omega)]
    rfl
section
variable {prog : Program} {w : World} {A : Around} {E : Value → Shared → Prop} {s : Shared}
theorem adjust_rev (n : Nat) : Builtin.Slice.sliceAdjust none none (-1) (n : Int) = (((n : Nat) : Int) - 1, -1) := by
  unfold Builtin.Slice.sliceAdjust
  simp
theorem places_rev (n : Nat) : Builtin.Slice.slicePlaces (((n : Nat) : Int) - 1) (-1) (-1) = n := by
  unfold Builtin.Slice.slicePlaces
  rw [if_neg (by decide)]
  split <;> simp <;> omega
theorem sliceApplied_rev {sl : Addr} {vl vu vs : Value} {n : Nat} {Q : Int × Int × Nat → Shared → Prop} (hs : s.heap.IsSliceOf sl vl vu vs) (pl : IsPart vl none) (pu : IsPart vu none) (ps : IsPart vs (some (-1)))
    (h : Q (((n : Nat) : Int) - 1, -1, n) s) : wpAny (model prog w) A (Builtin.Slice.sliceApplied (.ref sl) (pure (n : Int))) Q E s := by
  obtain ⟨os, hos, hcs, hds⟩ := id hs
  unfold Builtin.Slice.sliceApplied Builtin.Slice.sliceFields
  refine wpAny_bind (wpAny_bind (wpAny_field hos hds (x := vl) rfl (wpAny_bind (wpAny_field hos hds (x := vu) rfl (wpAny_bind (wpAny_field hos hds (x := vs) rfl (wpAny_pure ?_)))))))
  refine wpAny_bind (slicePart_ ps ?_)
  show wpAny _ _ (if ((-1 : Int) == 0) = true then _ else _) _ _ s
  rw [if_neg (by decide)]
  refine wpAny_bind (slicePart_ pl (wpAny_bind (slicePart_ pu (wpAny_bind (wpAny_pure ?_)))))
  show wpAny _ _ (match Builtin.Slice.sliceAdjust none none (-1) (n : Int) with | (lo, hi) => pure (lo, (-1 : Int), Builtin.Slice.slicePlaces lo hi (-1))) _ _ s
  rw [adjust_rev n]
  show wpAny _ _ (pure (((n : Nat) : Int) - 1, (-1 : Int), Builtin.Slice.slicePlaces (((n : Nat) : Int) - 1) (-1) (-1))) _ _ s
  rw [places_rev]
  exact wpAny_pure h
theorem getItem_tuple_rev {t sl : Addr} {items : Array Value} {vl vu vs : Value} {Q : Value → Shared → Prop} (ht : IsTup s.heap t items) (hs : s.heap.IsSliceOf sl vl vu vs) (pl : IsPart vl none) (pu : IsPart vu none) (ps : IsPart vs (some (-1)))
    (h : Q (.ref s.heap.objs.size) { s with heap := s.heap.push { cls := .type "tuple", data := .seq items.toList.reverse.toArray } })
    (hsz : items.size ≤ sizeLine) : wpAny (model prog w) A (getItem (.ref t) (.ref sl)) Q E s := by
  have htake : sizeOk (.seq items.toList.reverse.toArray) := by
    show items.toList.reverse.toArray.size ≤ sizeLine
    rw [List.size_toArray, List.length_reverse, Array.length_toList]
    exact hsz
  obtain ⟨os, hos, hcs, hds⟩ := id hs
  have hTs : s.TypeIs (.ref sl) "slice" := ⟨os, hos, hcs⟩
  unfold getItem
  try with_reducible refine wpAny_holding ?_
  first | refine wpAny_bind (wpAny_pure ?_) | skip
  refine wpAny_bind (wpAny_sequenceKey ht.typeIs (by decide) ?_)
  refine wpAny_bind (wpAny_callSpecial?_slot (name := Str.ofString "__getitem__") ht.typeIs PyProof.Rows.slot_tuple_getitem
    (wpAny_call_entry PyProof.Rows.slot_tuple_getitem ht.typeIs entry_tuple_getitem ?_ (args_tuple_getitem _ _)))
  show wpAny _ _ (Builtin.Tuple.tupleItemsOf (.ref t) >>= _) _ _ s
  refine wpAny_bind (tupleItemsOf_ ht ?_)
  refine wpAny_bind (wpAny_typeOf hTs ?_)
  rw [if_pos (by decide)]
  refine wpAny_bind (sliceApplied_rev hs pl pu ps ?_)
  have hno : ¬ ((((items.size : Nat) : Int) - 1 == 0 && (-1 : Int) == 1 && items.size == items.size) = true) := by
    intro q
    rw [Bool.and_eq_true, Bool.and_eq_true] at q
    exact absurd (eq_of_beq q.1.2) (by decide)
  show wpAny _ _ (if (((items.size : Nat) : Int) - 1 == 0 && (-1 : Int) == 1 && items.size == items.size) = true then _ else _) _ _ s
  rw [if_neg hno, pick_rev]
  first
    | exact wpAny_bind (m := Builtin.Tuple.tupleExact _) (wpAny_newObj_type (wpAny_pure ⟨_, rfl, wpAny_pure h⟩) htake)
    | exact wpAny_bind (m := Builtin.Tuple.tupleExact _) (wpAny_newObj_type (wpAny_bind (wpAny_pure (wpAny_pure ⟨_, rfl, wpAny_pure h⟩))) htake)
end
def tRevT (K : PySem.W.Frag) (te : TE) : TE := fun σ H Q => te σ H fun x H1 => ∃ a xs, x = .ref a ∧ SqT K H1 a xs ∧ ∀ p, H1 p = none → Q (.ref p) (upd H1 p (.tup xs.reverse))
theorem pe_revT {X : Cx} {e : Expr} {te : TE} {k : Nat} {p1 p2 p3 pos : Pos} (he : PE X e te) : PE X (.Subscript e (.Slice none none (some (.UnaryOp .USub (.Constant (.int 1) k p1) p2)) p3) pos) (tRevT X.K te) := by
  refine ⟨fun pins s σ H Q I h => ?_⟩
  refine Subscript_ (thn (he.run pins s σ H _ I h) fun v s1 ⟨x, H1, I1, r1, q1⟩ => ?_)
  obtain ⟨a, xs, ex, hx, q⟩ := q1
  subst ex
  cases r1
  have hst : PO X (some (.UnaryOp .USub (.Constant (.int 1) k p1) p2)) (tPart (tUn (rU fun i => .int (-i)) (tC (.int 1)))) := po_some (pe_un un_neg pe_int)
  refine wpAny_Slice (thn (po_none.run pins s1 σ H1 (fun o H2 => o = none ∧ H2 = H1) I1 ⟨rfl, rfl⟩) fun vl s2 ⟨l, H2, I2, pl, el, e2⟩ => ?_)
  subst el e2
  refine thn (po_none.run pins s2 σ H2 (fun o H3 => o = none ∧ H3 = H2) I2 ⟨rfl, rfl⟩) fun vu s3 ⟨u, H3, I3, pu, eu, e3⟩ => ?_
  subst eu e3
  refine thn (hst.run pins s3 σ H3 (fun o H4 => o = some (-1) ∧ H4 = H3) I3 ⟨1, rfl, -1, rfl, rfl, rfl⟩) fun vs s4 ⟨o, H4, I4, ps, eo, e4⟩ => ?_
  subst eo e4
  have I5 : Inv X pins σ H4 { s4 with heap := s4.heap.push { cls := .type "slice", data := .fields #[vl, vu, vs] } } := I4.kept (t' := s4.toks) fun b ob q => Heap.get?_push_of_some _ q
  obtain ⟨its, r, ht, hz⟩ := I5.tuple hx
  have hlen := r.length
  show wpAny (model X.prog X.w) X.A (subscriptTail e (.Slice none none (some (.UnaryOp .USub (.Constant (.int 1) k p1) p2)) p3) (.ref a) (.ref s4.heap.objs.size)) (EP X pins σ Q) X.xe { s4 with heap := s4.heap.push { cls := .type "slice", data := .fields #[vl, vu, vs] } }
  refine tail_any (ops := [.ref a, .ref s4.heap.objs.size]) ht.typeIs PyProof.Rows.slot_tuple_getitem.lookup ?_ (by with_unfolding_all rfl)
  refine getItem_tuple_rev ht (Heap.IsSliceOf.new _ vl vu vs) pl pu ps ?_ (by rw [List.size_toArray]; omega)
  refine ⟨.ref _, _, I5.laid (t' := s4.toks) (o := .tup xs.reverse) (fun b ob q => Heap.get?_push_of_some _ q) (Nat.le_refl _) ?_, rfl, q _ (I5.hok.fresh (Nat.le_refl _))⟩
  exact ⟨by rw [List.length_reverse]; exact hz, _, r.reverse, IsTup.new _ _⟩
theorem pe_revTK {X : Cx} {K : PySem.W.Frag} {e : Expr} {te : TE} {k : Nat} {p1 p2 p3 pos : Pos} (he : PE X e te) (h : X.K = K := by rfl) : PE X (.Subscript e (.Slice none none (some (.UnaryOp .USub (.Constant (.int 1) k p1) p2)) p3) pos) (tRevT K te) := by
  subst h; exact pe_revT he
/-! ### xs.index(x) -/
def idxN {α : Type} [Enc α] (xs : List α) (x : α) : Option Nat := xs.findIdx? fun y => eqD y x
def idxO {α : Type} [Enc α] (xs : List α) (x : α) : Option Int := (idxN xs x).map fun j => ((j : Nat) : Int)
theorem idxO_ok {α : Type} [Enc α] {xs : List α} {x : α} {r : Int} (h : idxO xs x = some r) : ∃ j, idxN xs x = some j ∧ ((j : Nat) : Int) = r := Option.map_eq_some_iff.mp h
def rIdx (α : Type) [Enc α] (K : PySem.W.Frag) : V → List V → Hp → VK → Prop := fun x ys H Q => ∃ (y : V) (xs : List α) (z : α) (j : Nat), ys = [y] ∧ R K H x xs ∧ R K H y z ∧ idxN xs z = some j ∧ Q (.int (j : Nat)) H
theorem mt_idx {α : Type} [Enc α] [Dep α] {X : Cx} (hd : Dep.n α ≤ 60) (hu : X.A.units + 65 < cLine) : MtR X "list.index" (rIdx α X.K) := by
  intro pins s σ H x xs v us Q I rx rxs h
  obtain ⟨y, l, z, j, rfl, hx, hy, hj, q⟩ := h
  obtain ⟨a, ws, rfl, hS, hl, hA⟩ := R.lst_v hx
  obtain ⟨h1, h2, h3⟩ := List.findIdx?_eq_some_iff_getElem.mp hj
  refine mt_indexD hu pins s σ H _ _ v us Q I rx rxs ⟨a, y, Enc.d z, l.map Enc.d, j, Enc.d l[j], rfl, rfl, Rp.dp _ _ hx, Rp.dp _ _ hy, ?_, R.shaped hy (by omega), ?_, h2, fun m z' hm hz' => ?_, q⟩
  · exact Bool.and_eq_true_iff.mpr ⟨Rp.lay _ _ hx, decide_eq_true (Nat.le_trans (Dep.le l) (by show Dep.n α + 1 ≤ 64; omega))⟩
  · rw [List.getElem?_map, List.getElem?_eq_getElem h1]; rfl
  · have hml : m < l.length := by omega
    rw [List.getElem?_map, List.getElem?_eq_getElem hml] at hz'
    rw [← Option.some.inj hz']
    have := h3 m hm
    exact Bool.eq_false_iff.mpr this
theorem mt_idxK {α : Type} [Enc α] [Dep α] {X : Cx} {K : PySem.W.Frag} (hu : X.A.units + 65 < cLine) (hd : Dep.n α ≤ 60 := by decide) (h : X.K = K := by rfl) : MtR X "list.index" (rIdx α K) := by subst h; exact mt_idx hd hu
end G
/-! My base, part 34: defs that run where nothing is being shown (no guards around them); repr of data; how the law's call begins there. -/
namespace G
open PySem PySem.Spec PyProof.Rows L2 TL
/-- a promise that is kept where no guard stands around -/
structure GnOk (P : Program) (w : World) (K : PySem.W.Frag) (mg : Str → Option Value) (base : Heap) (cx : CXT) (k : Nat) (f : Addr) (fd : FuncData) (ps : List Str) (sp : Sp) : Prop where
  ln : ∀ xs Hx Qx Ex, sp xs Hx Qx Ex → xs.length = ps.length
  go : ∀ (Ar : Around) (out : List Env) (sh : Shared) (Hx : Hp) (args : Args) (us : List Value) (xs : List V) (Qx : VK) (Ex : XK), Room k Ar → Ar.guards = some [] → Env0 P w K mg base Ar out sh Hx →
    BindsTo sh fd args (ps.zip us) → Vals xs us → sp xs Hx Qx Ex → codeAny (model P w) Ar (.call (.ref f) args) (CR cx out P w Hx sh Qx Ex) sh
theorem GnOk.of {P : Program} {w : World} {K : PySem.W.Frag} {mg : Str → Option Value} {base : Heap} {cx : CXT} {k : Nat} {f : Addr} {fd : FuncData} {ps : List Str} {sp : Sp} (F : FnOk P w K mg base cx k f fd ps sp) : GnOk P w K mg base cx k f fd ps sp :=
  ⟨F.len, fun Ar out sh Hx args us xs Qx Ex hr _ => F.run Ar out sh Hx args us xs Qx Ex hr⟩
section
variable {P : Program} {w : World} {K : PySem.W.Frag} {mg : Str → Option Value} {base : Heap} {x qual : Str} {params : Arguments} {body : List Stmt} {scope : Scope} {f : Addr} {fd : FuncData}
theorem fd_okG {N ps : List Str} {k : Nat} {sp : Sp} (F : FunD K x qual params body scope [] [] f fd) (S : FnScope N ps scope) (len : ∀ vs H Q E, sp vs H Q E → vs.length = ps.length)
    (hbody : ∀ (cdv : Value) (A : Around) (outer : List Env) (s : Shared) (H : Hp) (vs : List V) (Q : VK) (E : XK), Room k (A.deeper (envOfC qual scope s.heap.objs.size f cdv)) → (A.deeper (envOfC qual scope s.heap.objs.size f cdv)).guards = some [] → sp vs H Q E →
      ∃ t, PSs (cxOf CX0 P w K mg base N qual scope f cdv A outer s H E).nox body t ∧ t { nx := fun _ H' => Q .non H', rt := Q } (start N vs) H) : GnOk P w K mg base CX0 (k + 1) f fd ps sp := by
  obtain ⟨oc, od, dV, kV, doc, pm, an, cdv, ct, osl, rfl, lk, hcd, _, _⟩ := F.ex
  refine ⟨len, fun Ar out sh Hx args us xs Qx Ex hr hgd e0 hb rel hsp => ?_⟩
  have lenE := len _ _ _ _ hsp
  have kin0 : K.In sh.heap := e0.mod.kin.keeps fun a ob q => (e0.bs a ob q).1
  have lim0 : sh.heap.NoLimit := e0.mod.nolimit.keeps fun a ob q => (e0.bs a ob q).1
  have kinds : ∀ z ∈ ps.zip us, scope.names.lookup z.1 = some .local ∨ (scope.names.lookup z.1 = some .cell ∧ ((cellsFrom (sh.heap.objs.size + 1) scope.names []).lookup z.1).isSome = true) := fun ⟨m, u⟩ hz =>
    (S.par m (List.of_mem_zip hz).1).elim .inl fun c => .inr ⟨c, PySem.W.cellsFrom_some _ _ _ (.inl c)⟩
  refine codeAny_call_function hr.depth (kin0 _ _ lk) rfl S.co S.gen rfl (PySem.W.codeRec_of kin0 hcd) (hb _ _ _ _ (wpAny_newFunctionEnv_cells S.kind kinds fun en hen s1 inc => ?_))
  subst hen
  refine ⟨lim0.keeps inc.toInCall.keep, codeAny_func ?_⟩
  obtain ⟨t, ht, hq⟩ := hbody cdv Ar out sh Hx xs Qx Ex (hr.deeper _) hgd hsp
  have I0 : Inv (cxOf CX0 P w K mg base N qual scope f cdv Ar out sh Hx Ex) [] (start N xs) Hx s1 := inv_start S hr.hd e0 lenE rel inc
  refine wpAny_mono (ht.nox.run [] s1 (start N xs) Hx _ I0 hq) (fun fl s2 hs => ?_) fun e s2 hs => hs
  have close : ∀ {σ2 : L2.St} {H2 : Hp} {v : V} {u : Value}, Inv (cxOf CX0 P w K mg base N qual scope f cdv Ar out sh Hx Ex) [] σ2 H2 s2 → RelV v u → Qx v H2 → CE out P w Hx sh Qx u s2 :=
    fun {σ2 H2 v u} J rv qv => ⟨v, H2, J.os, J.bare, J.base, J.hok, rv, qv⟩
  match fl, hs with
  | .ret u, ⟨v, σ2, H2, J, rv, qv⟩ => exact close J rv qv
  | .next, ⟨σ2, H2, J, qv⟩ => exact close (v := V.non) (u := Value.none) J rfl qv
  | .brk, ⟨_, _, _, qv⟩ => exact False.elim qv
  | .cont, ⟨_, _, _, qv⟩ => exact False.elim qv
end
section
variable {X : Cx} {cx : CXT} {k : Nat} {f : Addr} {fd : FuncData} {ps : List Str} {sp : Sp} {dvs : List V} {ds : List Value} {E : XK} {x : Str} {p pos : Pos} {e : Expr} {es : List Expr} {t : TA}
theorem pe_callG (F : GnOk X.prog X.w X.K X.mg X.base cx k f fd ps sp) (hgd : X.A.guards = some []) (hr : Room k X.A) (hg : Gl X x) (hm : X.mg x = some (.ref f)) (hk : PySem.W.keepIn X.K (.ref f) = true) (hb : Binds X.K fd ps ds) (hd : Vals dvs ds) (hx : Passes cx X E)
    (ha : PA X (e :: es) t) (hdb : (x == ("__debug__" : Str)) = false := by decide) (he : starEach (e :: es) X.env = (false, eval e X.env) :: starEach es X.env := by rfl) (hpl : (backTo pos (starEach es X.env)).any (·.1) = false := by rfl) :
    PE X (.Call (.Name x p) (e :: es) [] pos) (tCall sp dvs E t) := by
  refine ⟨fun pins s σ H Q I h => wpAny_Call_Name_kw (ld_glob I hg hm ?_ hdb)⟩
  refine PySem.W.callWith_K (h₀ := X.base) I.ok.mod.kin hk (thn (ha.run pos pins s σ H _ I h) fun us s1 ⟨vs, H1, I1, r, q⟩ => ⟨I1.kIn, ?_⟩) he hpl
  have rel : Vals (vs ++ dvs) (us ++ ds) := r.append hd
  have lenU : (us ++ ds).length = ps.length := by rw [← rel.length]; exact F.ln _ _ _ _ q
  refine wpAny_call (codeAny_mono (F.go X.A X.stack s1 H1 ⟨us, []⟩ (us ++ ds) (vs ++ dvs) Q E hr hgd I1.env0 (hb s1 us I1.kIn lenU) rel q) fun res s2 hq => ?_)
  match res, hq with
  | .error ev, hq => exact hx pins σ H1 s1 ev s2 I1 hq
  | .ok (.ret u), hq => exact I1.after hq
  | .ok .next, hq => exact False.elim hq
  | .ok .brk, hq => exact False.elim hq
  | .ok .cont, hq => exact False.elim hq
end
/-! ### repr of data -/
section
variable {K : PySem.W.Frag} {F : Hp}
mutual
theorem Rp.nodict : ∀ (d : PyData) (v : V), Rp K F v d → d.hasDict = false
  | .none, _, _ => rfl
  | .bool b, _, _ => rfl
  | .int i, _, _ => rfl
  | .str x, _, _ => rfl
  | .list ds, _, h => by cases h with | lst hs hl ha => exact RpA.nodict ds _ ha
  | .tuple ds, _, h => by cases h with | tup hs hl ha => exact RpA.nodict ds _ ha
  | .dict _, _, h => by cases h
theorem RpA.nodict : ∀ (ds : List PyData) (vs : List V), RpA K F vs ds → PyData.hasDictAll ds = false
  | [], _, _ => rfl
  | d :: ds, _, h => by
    cases h with
    | cons h1 h2 =>
      show (d.hasDict || PyData.hasDictAll ds) = false
      rw [Rp.nodict d _ h1, RpA.nodict ds _ h2]
      rfl
end
end
/-- the text that is shown of a thing -/
def reprO {α : Type} [Enc α] (x : α) : Option Str := if (Enc.d x).showable = true ∧ (Enc.d x).shown.length ≤ sizeLine then some (Enc.d x).shown else none
theorem reprO_ok {α : Type} [Enc α] {x : α} {r : Str} (h : reprO x = some r) : ((Enc.d x).showable = true ∧ (Enc.d x).shown.length ≤ sizeLine) ∧ (Enc.d x).shown = r := by
  unfold reprO at h
  split at h
  · next c => exact ⟨c, Option.some.inj h⟩
  · cases h
def rReprD (α : Type) [Enc α] (K : PySem.W.Frag) : List V → Hp → VK → Prop := fun xs H Q => ∃ (p : Addr) (x : α), xs = [.ref p] ∧ R K H (.ref p) x ∧ ((Enc.d x).showable = true ∧ (Enc.d x).shown.length ≤ sizeLine) ∧ Q (.str (Enc.d x).shown) H
theorem call_reprD {α : Type} [Enc α] [Dep α] {X : Cx} (hgd : X.A.guards = some []) (hu : X.A.units + 65 < cLine) (hd : Dep.n α ≤ 60) : CallR X (.builtin "repr") (rReprD α X.K) := by
  intro pins s σ H xs us Q I r h
  obtain ⟨p, x, rfl, hx, ⟨sh, sz⟩, q⟩ := h
  obtain ⟨u, rfl, ru⟩ := vals1 r
  obtain rfl : u = Value.ref p := ru
  obtain ⟨as, rd⟩ := Dp.reads I _ _ _ (Rp.dp _ _ hx) rfl
  have dp := Dep.le x
  exact repr_of_reads' rd sh (fun z => by rw [Rp.nodict _ _ hx] at z; cases z) hgd (by omega) (fun _ _ e => e) (fun h' u tk hk => ⟨.str _, H, I.kept hk, ⟨u, rfl⟩, q⟩) sz
theorem call_reprDK {α : Type} [Enc α] [Dep α] {X : Cx} {K : PySem.W.Frag} (hgd : X.A.guards = some []) (hu : X.A.units + 65 < cLine) (hd : Dep.n α ≤ 60 := by decide) (h : X.K = K := by rfl) : CallR X (.builtin "repr") (rReprD α K) := by subst h; exact call_reprD hgd hu hd
/-! ### the law's own call -/
theorem law_begin {P : Program} {w : World} {K : PySem.W.Frag} {mg mb : Str → Option Value} {k : Nat} {fa a : Addr} {fd : FuncData} {x : Str} {sp : Sp} {s₁ : Shared} {vs : List Value} {ns : List Int}
    (kin : K.In s₁.heap) (nsm : s₁.heap.Ns mainGlobals mg) (nsb : s₁.heap.Ns builtinsNs mb) (boot : ∀ y : Str, y ≠ "__name__" → mb y = bootBuiltins y) (lim : s₁.heap.NoLimit) (nog : s₁.gens = #[])
    (scr : s₁.heap.get? a = some { cls := .type "list", data := .seq vs.toArray }) (sInts : IntsAre vs ns) (few : ns.length ≤ sizeLine) (room : Room k callerA)
    (F : ∀ base : Heap, K.In base → base.Ns mainGlobals mg → GnOk P w K mg base CX0 k fa fd [x] sp) (hbind : ∀ (s : Shared) (u : Value), BindsTo s fd ⟨[u], []⟩ [(x, u)])
    (hsp : ∀ H : Hp, Only H → SqL K H a (ns.map V.int) → sp [.ref a] H (fun v _ => v = .bl true) fun _ _ _ => False) :
    codeAny (model P w) callerA (.call (.ref fa) ⟨[.ref a], []⟩) (fun r s' => r = .ok (.ret (.bool true)) ∧ OldK s₁.heap s'.heap ∧ s'.os = s₁.os ∧ AllBare s'.gens) s₁ := by
  -- whatever is told of the script ahead
  have from_ : ∀ Hx : Hp, Only Hx → SqL K Hx a (ns.map V.int) → HOk P w Hx s₁.heap → (∀ b, Hx b ≠ none → b = a) → (Hx a ≠ none → K.lookup a = none) →
      codeAny (model P w) callerA (.call (.ref fa) ⟨[.ref a], []⟩) (fun r s' => r = .ok (.ret (.bool true)) ∧ OldK s₁.heap s'.heap ∧ s'.os = s₁.os ∧ AllBare s'.gens) s₁ := by
    intro Hx only seq ok one notK
    have hidden : ∀ {b : Addr} {ob : Obj}, s₁.heap.get? b = some ob → Hx b = none → (hidT s₁.heap Hx).get? b = some ob := fun q n => hidT_get q n
    have nodict : ∀ {b : Addr} {ob : Obj} {es : Array DictEntry} {ep : Nat}, s₁.heap.get? b = some ob → ob.data = .dict es ep → Hx b = none := fun {b ob es ep} q dd => Classical.byContradiction fun ne => by
      obtain rfl := one b ne
      rw [scr] at q
      cases q
      have z : Data.seq vs.toArray _ = Data.dict es ep := dd
      cases z
    have keepNs : ∀ {b : Addr} {m : Str → Option Value}, s₁.heap.Ns b m → (hidT s₁.heap Hx).Ns b m := fun {b m} ⟨ob, es, ep, q, dd, rr⟩ => ⟨ob, es, ep, hidden q (nodict q dd), dd, rr⟩
    have kinH : K.In (hidT s₁.heap Hx) := fun b ob q => hidden (kin b ob q) (Classical.byContradiction fun ne => by
      obtain rfl := one b ne
      rw [notK ne] at q
      cases q)
    have modH : Mod K mg (hidT s₁.heap Hx) := ⟨kinH, keepNs nsm, ⟨mb, keepNs nsb, boot⟩, let ⟨mc, z1, z2⟩ := lim; ⟨mc, keepNs z1, z2⟩⟩
    have env : Env0 P w K mg (hidT s₁.heap Hx) callerA [] s₁ Hx := ⟨rfl, modH, fun b ob q => of_hidT q, Nat.le_of_eq (hidT_size _ _), trivial, fun b hb => (List.not_mem_nil (show b ∈ ([] : List Addr) from hb)).elim, ok, .of_eq nog⟩
    refine codeAny_mono ((F _ kinH (keepNs nsm)).go callerA [] s₁ Hx ⟨[.ref a], []⟩ [.ref a] [.ref a] _ _ room rfl env (hbind s₁ (.ref a)) (.cons rfl .nil) (hsp Hx only seq)) fun res s2 hq => ?_
    match res, hq with
    | .error ev, hq => exact hq.elim
    | .ok .next, hq => exact False.elim hq
    | .ok .brk, hq => exact False.elim hq
    | .ok .cont, hq => exact False.elim hq
    | .ok (.ret u), ⟨v, H2, os2, bare2, un2, ok2, rel2, tv⟩ =>
      have tv2 : v = .bl true := tv
      subst tv2
      obtain rfl : u = Value.bool true := rel2
      refine ⟨rfl, OldK.of_keep fun b ob q => ?_, os2, bare2⟩
      rcases only b with z | ⟨ob2, xs, z⟩
      · exact un2.keep b ob q z (fun y => List.not_mem_nil (show b ∈ ([] : List Addr) from y)) (by simp)
      · have z2 := un2.frzs b ob2 _ z
        obtain ⟨e1, _⟩ := ok b _ z
        obtain ⟨e2, _⟩ := ok2 b _ z2
        rw [q] at e1
        cases e1
        exact e2
  have rel := vals_ints sInts
  have lenV := sInts.length
  cases hk : K.lookup a with
  | some ob =>
    have e := kin a ob hk
    rw [scr] at e
    cases e
    exact from_ (fun _ => none) (fun _ => .inl rfl) (.inr ⟨_, vs.toArray, _, hk, rfl, rfl, rfl, by rw [List.size_toArray, lenV]; exact few, by simpa using rel⟩) (fun b u z => by cases (show (none : Option HO) = some u from z)) (fun b z => absurd rfl z) fun z => absurd rfl z
  | none =>
    let one : Hp := fun b => if b = a then some (.frz { cls := .type "list", data := .seq vs.toArray } (.lst (ns.map V.int))) else none
    have at_ : one a = some (.frz { cls := .type "list", data := .seq vs.toArray } (.lst (ns.map V.int))) := if_pos rfl
    have off : ∀ b, b ≠ a → one b = none := fun b hb => if_neg hb
    refine from_ one (fun b => ?_) (.inl (.inr ⟨_, at_⟩)) (fun b u z => ?_) (fun b z => Classical.byContradiction fun ne => z (off b ne)) fun _ => hk
    · by_cases hb : b = a
      · exact .inr ⟨_, _, by rw [hb]; exact at_⟩
      · exact .inl (off b hb)
    · by_cases hb : b = a
      · subst hb
        rw [at_] at z
        cases z
        exact ⟨scr, by rw [List.length_map]; exact few, vs, _, rel, scr⟩
      · rw [off b hb] at z
        cases z
theorem walk_ofG {l : PySem.W.OpenLaw} {n k : Nat} {q : Program} {loose : List Str} {XP : (Str → Option Value) → Heap → Prop} {YP : World → Heap → Prop} {d : DefRec} {x : Str}
    (hn : l.most = some n) (hn2 : n ≤ sizeLine) (hdf : d.params.defaults = []) (room : Room k callerA)
    (F : ∀ (w : World) (mg : Str → Option Value) (fa : Addr) (hp : Heap), YP w hp → hp.Ns mainGlobals mg → mg d.name = some (.ref fa) →
      ∃ (K : PySem.W.Frag) (fd : FuncData) (sp : Sp), K.In hp ∧ (∀ (sh : Shared) (u : Value), BindsTo sh fd ⟨[u], []⟩ [(x, u)]) ∧
        (∀ (Hx : Hp) (a : Addr) (ns : List Int), ns.length ≤ n → Only Hx → SqL K Hx a (ns.map V.int) → sp [.ref a] Hx (fun v _ => v = .bl true) fun _ _ _ => False) ∧
        ∀ base : Heap, K.In base → base.Ns mainGlobals mg → GnOk l.prog w K mg base CX0 k fa fd [x] sp) :
    PySem.W.WalkO q loose XP YP l.row.toRowW d [] (fun f vs => PySem.call f vs) := by
  refine Att.attach_call hn hdf fun w s0 s1 mg mb fa ob pm cd doc a vs ns Gr_ Y _ _ _ hmg scr sInts few nog => ?_
  obtain ⟨K, fd, sp, kin, hb, hsp, hF⟩ := F w mg fa _ Y Gr_.T.g hmg
  exact law_begin kin Gr_.T.g Gr_.T.b Gr_.T.builtins Gr_.T.nolimit nog scr sInts (Nat.le_trans few hn2) room hF hb fun Hx hO hS => hsp Hx a ns few hO hS
end G
/-! My base, part 35: repr of data as the generator wants it. -/
namespace G
open PySem PySem.Spec PyProof.Rows L2 TL
def rReprO (α : Type) [Enc α] (K : PySem.W.Frag) : List V → Hp → VK → Prop := fun xs H Q => ∃ (p : Addr) (x : α) (t : Str), xs = [.ref p] ∧ R K H (.ref p) x ∧ reprO x = some t ∧ Q (.str t) H
theorem call_reprOK {α : Type} [Enc α] [Dep α] {X : Cx} {k : Nat} {K : PySem.W.Frag} (hgd : X.A.guards = some []) (hr : Room k X.A) (hd : Dep.n α ≤ 60 := by decide) (h : X.K = K := by rfl) : CallR X (.builtin "repr") (rReprO α K) := by
  subst h
  intro pins s σ H xs us Q I r h
  obtain ⟨p, x, t, rfl, hx, e, q⟩ := h
  obtain ⟨⟨h1, h2⟩, h3⟩ := reprO_ok e
  exact call_reprD (α := α) hgd (by have := hr.un; omega) hd pins s σ H _ us Q I r ⟨p, x, rfl, hx, ⟨h1, h2⟩, by rw [h3]; exact q⟩
section
variable {α β : Type} [Enc α] [Enc β] {K : PySem.W.Frag} {F : Hp} {ws : List V}
theorem RL.some {xs : List α} (h : RL K F ws xs) : RL K F ws (xs.map Option.some) := by
  show RpA K F ws _
  rw [List.map_map]
  exact h
theorem RL.inl {xs : List α} (h : RL K F ws xs) : RL K F ws (xs.map (Sum.inl : α → α ⊕ β)) := by
  show RpA K F ws _
  rw [List.map_map]
  exact h
end
/-! ### a list of lists of one's own is changed no more -/
section
variable {M : Addr → Prop} {F0 H0 F H F' : Hp} {f p q : Addr} {K : PySem.W.Frag} {rows : List (Addr × List V)} {ws : List V} {ob : HO}
theorem Nest.settle {α : Type} [Enc α] {xs : List (List α)} (w : Nest H0 F H f rows) (hA : RN K F rows xs) (g : Gr M F0 H0 F H) :
    ∃ F', Gr M F0 H0 F' H ∧ Same F F' ∧ Ow H0 F' H f (refsN rows) ∧ RL K F' (refsN rows) xs ∧ (∀ q, (∀ r ∈ rows, r.1 ≠ q) → F' q = F q) := by
  let F' : Hp := fun a => if a ∈ rows.map (·.1) then H a else F a
  have off : ∀ q, (∀ r ∈ rows, r.1 ≠ q) → F' q = F q := fun q h => if_neg fun m => by
    obtain ⟨r, hr, e⟩ := List.mem_map.mp m
    exact h r hr e
  have on : ∀ r ∈ rows, F' r.1 = H r.1 := fun r hr => if_pos (List.mem_map.mpr ⟨r, hr, rfl⟩)
  have cs : ∀ a, (∃ r ∈ rows, r.1 = a) ∨ F' a = F a := fun a => by
    by_cases h : a ∈ rows.map (·.1)
    · obtain ⟨r, hr, e⟩ := List.mem_map.mp h
      exact .inl ⟨r, hr, e⟩
    · exact .inr (if_neg h)
  have sm : Same F F' := fun b u e => by
    rcases cs b with ⟨r, hr, rfl⟩ | h
    · rw [w.rF r hr] at e; cases e
    · rw [h]; exact e
  have hF : ∀ j (r : Addr × List V), rows[j]? = some r → ∀ x : List α, RL K F r.2 x → r.2.length ≤ sizeLine → R K F' (.ref r.1) x := fun j r hj x h1 h2 => by
    have hr := List.mem_of_getElem? hj
    exact R.mkl (.inl (.inl ((on r hr).trans (w.rh r hr)))) h2 (RpA.up h1 sm)
  refine ⟨F', ⟨fun b u e => ?_, fun b u e => sm b u (g.ff b u e), g.keep, g.there, fun a e n => ?_⟩, sm, ⟨w.h, ?_, w.n0⟩, ?_, off⟩
  · rcases cs b with ⟨r, hr, rfl⟩ | h
    · rw [← on r hr]; exact e
    · rw [h] at e; exact g.fh b u e
  · rcases cs a with ⟨r, hr, rfl⟩ | h
    · exact absurd (w.r0 r hr) e
    · rw [h]; exact g.new a e n
  · rw [off f w.rf]; exact w.nF
  · obtain ⟨hl, hr⟩ := hA
    have go : ∀ (rs : List (Addr × List V)) (ys : List (List α)), rs.length = ys.length → (∀ (j : Nat) (r : Addr × List V), rs[j]? = some r → ∃ y, ys[j]? = some y ∧ R K F' (.ref r.1) y) → RL K F' (refsN rs) ys := by
      intro rs
      induction rs with
      | nil => intro ys e _; cases ys with | nil => exact .nil | cons _ _ => cases e
      | cons r rs ih =>
        intro ys e h
        cases ys with
        | nil => cases e
        | cons y ys =>
          obtain ⟨y', e1, h1⟩ := h 0 r rfl
          cases e1
          exact .cons h1 (ih ys (Nat.succ.inj e) fun j r' hj => h (j + 1) r' hj)
    exact go rows xs hl fun j r hj => by
      obtain ⟨x, h1, h2, h3⟩ := hr j r hj
      exact ⟨x, h1, hF j r hj x h2 h3⟩
theorem Ow.settle (w : Ow H0 F H p ws) (e : F' p = F p) : Ow H0 F' H p ws := ⟨w.h, e.trans w.nF, w.n0⟩
theorem Od.settle (w : Od H0 F H p ob) (e : F' p = F p) : Od H0 F' H p ob := ⟨w.h, e.trans w.nF, w.n0, w.nt⟩
end
/-! ### xs.extend(any list) -/
theorem ext_lst (l : Addr) (xs : Array Value) (n : Nat) (b : Addr) (ys : Array Value) (n2 : Nat) (sl : Array (Option Value)) (h0 : ¬(!xs.isEmpty && Builtin.List.listTooLong (xs.size + ys.size)) = true) (h1 : xs.size ≤ sizeLine) (h2 : xs.size + ys.size ≤ sizeLine + 1) :
    Meets (Builtin.«list.extend» ⟨[.ref l, .ref b], []⟩) (fun _ R s => s.heap.get? l = some { cls := .type "list", dict := none, data := .seq xs n, slots := #[] } ∧ s.heap.get? b = some { cls := .type "list", dict := none, data := .seq ys n2, slots := sl } ∧ R (.ok (.ret Value.none)) { s with heap := s.heap.update l (Obj.mapSeq fun x => x ++ ys), toks := s.toks }) :=
  .of_wp fun prog w A R s h => by
    obtain ⟨hp, g, d, tk, os⟩ := s; obtain ⟨hl, hb, h⟩ := h; have q1 := AutoSeq1.idx_int; have q2 := AutoSeq1.sub_tuple_tuple; have q3 := AutoSeq1.sub_list_list; have q4 := AutoSeq1.sub_tuple_list; have q5 := AutoSeq1.sub_list_tuple
    have hz : (xs ++ ys).size ≤ sizeLine + 1 := by rw [Array.size_append]; exact h2
    wp_walk using (wpAny_updateSeq hl rfl (hz := h1) (_hz' := hz)), AutoSeq1.wpAny_loadPart' hl, AutoSeq1.wpAny_loadPart' hb; exact ⟨_, rfl, h⟩
section
variable {X : Cx}
def rExtL (K : PySem.W.Frag) : V → List V → Hp → VK → Prop := fun x vs H Q => ∃ l b xs zs, x = .ref l ∧ vs = [.ref b] ∧ H l = some (.lst xs) ∧ SqL K H b zs ∧ xs.length + zs.length ≤ sizeLine ∧ Q .non (upd H l (.lst (xs ++ zs)))
theorem mt_extL : MtM X "list.extend" (rExtL X.K) := by
  intro pins s σ H x vs v us Q I rx rv h
  obtain ⟨l, b, xs, zs, rfl, rfl, hH, hB, hz, q⟩ := h
  cases rx
  obtain ⟨u, rfl, ru⟩ := rv.one
  cases ru
  obtain ⟨z, its, n, r, hl, e⟩ := I.lstM hH
  obtain ⟨its2, r2, ⟨⟨oc, od, dt, sl⟩, n2, ho, hc, hdi, hd⟩, hz2⟩ := I.list hB
  simp only at hc hd hdi
  subst hc; subst hd; subst hdi
  have hl2 := r2.length
  have hsz : its.toArray.size + its2.toArray.size ≤ sizeLine := by rw [List.size_toArray, List.size_toArray]; omega
  have hlong : ¬ (!its.toArray.isEmpty && Builtin.List.listTooLong (its.toArray.size + its2.toArray.size)) = true := by rw [notLongL hsz, Bool.and_false]; exact Bool.false_ne_true
  refine call_meets F.slot_list_extend ⟨_, e, rfl⟩ F.entry_list_extend (F.args_list_extend_2 _ _) (ext_lst l its.toArray n b its2.toArray n2 sl hlong (by rw [List.size_toArray]; omega) (by omega)) ⟨e, ho, ?_⟩
  exact ⟨.non, _, I.lset (its' := its ++ its2) hH e (by simp) (r.append r2) (by rw [List.length_append]; omega), rfl, q⟩
theorem mt_extLK {K : PySem.W.Frag} (h : X.K = K := by rfl) : MtM X "list.extend" (rExtL K) := by subst h; exact mt_extL
end
/-! ### loops that are left by break -/
section
variable {D : Ends} {σ : L2.St} {H : Hp} {t : TS} {g : TG} {c : TT} {wi : TI}
theorem p_forB (h : ∀ nx_ : L2.St → Hp → Prop, (∀ σ' H', D.nx σ' H' → nx_ σ' H') → tFor wi g t { D with nx := nx_ } σ H) : tFor wi g t D σ H := h D.nx fun _ _ z => z
theorem p_whileB (h : ∀ nx_ : L2.St → Hp → Prop, (∀ σ' H', D.nx σ' H' → nx_ σ' H') → tWhile c t { D with nx := nx_ } σ H) : tWhile c t D σ H := h D.nx fun _ _ z => z
theorem p_postL {P : Prop} {nx_ : L2.St → Hp → Prop} (Post : L2.St → Hp → Prop) (h2 : (∀ σ' H', Post σ' H' → nx_ σ' H') → P) (h1 : ∀ σ' H', Post σ' H' → nx_ σ' H') : P := h2 h1
end
end G
/-! Plain laws: how the makings come out. -/
namespace G
open PySem PySem.Spec PyProof.Rows L2 TL
section
variable {α β γ δ S : Type} {I : S → Prop}
def O1 (o : Option α) (P : α → Prop) : Prop := ∃ a, o = some a ∧ P a
def O2 (I : S → Prop) (o : Option (α × S)) (P : α → Prop) : Prop := ∃ a b, o = some (a, b) ∧ I b ∧ P a
theorem O1.ret {a : α} {P : α → Prop} (h : P a) : O1 (some a) P := ⟨a, rfl, h⟩
theorem O1.imp {o : Option α} {P Q : α → Prop} (h : O1 o P) (k : ∀ a, P a → Q a) : O1 o Q := let ⟨a, e, p⟩ := h; ⟨a, e, k a p⟩
theorem O1.bind {o : Option α} {f : α → Option β} {P : α → Prop} {Q : β → Prop} (h : O1 o P) (k : ∀ a, P a → O1 (f a) Q) : O1 (Option.bind o f) Q := by
  obtain ⟨a, rfl, p⟩ := h
  exact k a p
theorem O2.ret {a : α} {b : S} {P : α → Prop} (hb : I b) (h : P a) : O2 I (some (a, b)) P := ⟨a, b, rfl, hb, h⟩
theorem O2.imp {o : Option (α × S)} {P Q : α → Prop} (h : O2 I o P) (k : ∀ a, P a → Q a) : O2 I o Q := let ⟨a, b, e, i, p⟩ := h; ⟨a, b, e, i, k a p⟩
theorem O2.bind1 {o : Option α} {f : α → Option (β × S)} {P : α → Prop} {Q : β → Prop} (h : O1 o P) (k : ∀ a, P a → O2 I (f a) Q) : O2 I (Option.bind o f) Q := by
  obtain ⟨a, rfl, p⟩ := h
  exact k a p
theorem O2.ite {c : Bool} {x y : Option (α × S)} {P : α → Prop} (h1 : c = true → O2 I x P) (h2 : c = false → O2 I y P) : O2 I (if c = true then x else y) P := by
  cases c with
  | true => exact h1 rfl
  | false => exact h2 rfl
theorem O1.ite {c : Bool} {x y : Option α} {P : α → Prop} (h1 : c = true → O1 x P) (h2 : c = false → O1 y P) : O1 (if c = true then x else y) P := by
  cases c with
  | true => exact h1 rfl
  | false => exact h2 rfl
end
section
variable {α β : Type} {S : Type} {I : S → Prop}
theorem O2.bind {o : Option (α × S)} {f : α → S → Option (β × S)} {P : α → Prop} {Q : β → Prop} (h : O2 I o P) (k : ∀ a b, I b → P a → O2 I (f a b) Q) : O2 I (bind2 o f) Q := by
  obtain ⟨a, b, rfl, i, p⟩ := h
  exact k a b i p
end
section
variable {α β γ δ R T S : Type} {I : S → Prop} {Q : T → Prop} {g : R → Option (T × S)}
theorem O2.bL0 {o : Option (Lp Unit R)} {f : Option (T × S)} (e : o = some (.go ())) (k : O2 I f Q) : O2 I (bindL0 o f g) Q := by subst e; exact k
theorem O2.bL1 {o : Option (Lp α R)} {f : α → Option (T × S)} {a : α} (e : o = some (.go a)) (k : O2 I (f a) Q) : O2 I (bindL1 o f g) Q := by subst e; exact k
theorem O2.bL2 {o : Option (Lp (α × β) R)} {f : α → β → Option (T × S)} {a : α} {b : β} (e : o = some (.go (a, b))) (k : O2 I (f a b) Q) : O2 I (bindL2 o f g) Q := by subst e; exact k
theorem O2.bL3 {o : Option (Lp (α × β × γ) R)} {f : α → β → γ → Option (T × S)} {a : α} {b : β} {c : γ} (e : o = some (.go (a, b, c))) (k : O2 I (f a b c) Q) : O2 I (bindL3 o f g) Q := by subst e; exact k
end
theorem O2.true_ {S : Type} {I : S → Prop} {o : Option (Bool × S)} (h : O2 I o (fun r => r = true)) : ∃ b, o = some (true, b) := by
  obtain ⟨r, b, e, _, rfl⟩ := h
  exact ⟨b, e⟩
/-! ### lists and texts -/
theorem atI_O {α : Type} {xs : List α} {i : Int} {P : α → Prop} (h0 : 0 ≤ i) (h1 : i < xs.length) (h : ∀ x ∈ xs, P x) : O1 (atI xs i) P := by
  obtain ⟨n, rfl⟩ := Int.eq_ofNat_of_zero_le h0
  have hn : n < xs.length := by omega
  have e : xs[n]? = some xs[n] := List.getElem?_eq_getElem hn
  exact ⟨_, atI_nat e, h _ (List.getElem_mem hn)⟩
theorem tl_inj {x y : Str} (h : tl x = tl y) : x = y := by
  obtain ⟨⟨l⟩⟩ := x
  obtain ⟨⟨m⟩⟩ := y
  have h' : l = m := h
  rw [h']
theorem eqS_tl {x y : Str} : eqS x y = decide (tl x = tl y) := by
  rw [eqS_iff]
  exact decide_eq_decide.mpr ⟨fun h => by rw [h], tl_inj⟩
theorem tl_cut {z : Str} {lo hi : Option Int} : tl (cutS z lo hi) = ((tl z).drop (HT.sIx (tl z).length 0 lo)).take (HT.sIx (tl z).length (tl z).length hi - HT.sIx (tl z).length 0 lo) := by
  rw [← len_tl]
  unfold cutS tl
  rfl
theorem sIx_neg (n d : Nat) {k : Nat} (hk : 0 < k) : HT.sIx n d (some (-(k : Int))) = n - k := by
  show (if (-(k : Int)) < 0 then (-(k : Int) + (n : Int)).toNat else min (-(k : Int)).toNat n) = n - k
  rw [if_pos (by omega)]
  omega
theorem sIx_neg1 (n d : Nat) : HT.sIx n d (some (-1)) = n - 1 := sIx_neg n d (k := 1) (by decide)
theorem sIx_n (n d : Nat) : HT.sIx n d none = d := rfl
theorem tl_sgn (c : Nat) : tl (sgn c) = [c] := rfl
theorem catS_O {a b : Str} {P : Str → Prop} (h : (tl a).length + (tl b).length ≤ 16777216) (p : P (a ++ b)) : O1 (catS a b) P := by
  refine ⟨a ++ b, ?_, p⟩
  unfold catS
  rw [if_pos (by rw [len_tl, len_tl, sizeLine_eq]; exact h)]
theorem mulS_O {x : Str} {n : Int} {P : Str → Prop} (h1 : -(2 ^ 63 : Int) ≤ n) (h2 : n ≤ 16777216) (h3 : (tl x).length * n.toNat ≤ 16777216) (p : P (Txt.mul x n)) : O1 (mulS x n) P := by
  refine ⟨_, ?_, p⟩
  unfold mulS
  rw [if_pos ⟨h1, h2, by rw [len_tl]; exact h3⟩]
theorem codeAt_O {x : Str} {i : Int} {P : Nat → Prop} (h0 : 0 ≤ i) (h1 : i < (tl x).length) (h : ∀ c ∈ tl x, P c) : O1 (codeAt x i) P := atI_O h0 h1 h
theorem rangeO1_O {n : Int} {P : List Int → Prop} (h : n ≤ 16777216) (h0 : -(2 ^ 62) ≤ n) (p : P (rangeL 0 n.toNat)) : O1 (rangeO1 n) P := by
  refine ⟨_, ?_, p⟩
  unfold rangeO1
  rw [if_pos ⟨⟨h0, by omega⟩, by rw [sizeLine_eq]; omega⟩]
theorem joinS_O {sep : Str} {ys : List Str} {P : Str → Prop} (h : (ys.map fun y => (tl y).length).sum + ys.length * (tl sep).length ≤ 16777216) (p : P (Txt.join sep ys)) : O1 (joinS sep ys) P := by
  refine ⟨_, ?_, p⟩
  unfold joinS
  rw [if_pos]
  have e : (ys.map fun y => y.length) = ys.map fun y => (tl y).length := List.map_congr_left fun y _ => len_tl y
  show (ys.map fun y => y.length).sum + ys.length * sep.length ≤ _
  rw [e, len_tl]
  exact h
theorem tl_empty : tl ("" : Str) = [] := by decide +kernel
theorem joinL_nil : ∀ (ys : List (List Nat)), joinL [] ys = ys.flatten
  | [] => rfl
  | [y] => by show y = [y].flatten; simp
  | y :: z :: r => by
    show y ++ ([] ++ joinL [] (z :: r)) = _
    rw [joinL_nil (z :: r)]
    simp
theorem tl_join0 (ys : List Str) : tl (Txt.join ("" : Str) ys) = (ys.map tl).flatten := by rw [tl_joinS, tl_empty, joinL_nil]
/-- a text of no more than n signs -/
def Sh (n : Nat) (x : Str) : Prop := (tl x).length ≤ n
theorem Sh.mono {n m : Nat} {x : Str} (h : Sh n x) (k : n ≤ m) : Sh m x := Nat.le_trans h k
theorem Sh.cut {n : Nat} {x : Str} {lo hi : Option Int} (h : Sh n x) : Sh n (cutS x lo hi) := by
  unfold Sh at *
  rw [tl_cut, List.length_take, List.length_drop]
  omega
theorem Sh.sgn {c : Nat} : Sh 1 (sgn c) := Nat.le_refl 1
theorem Sh.rev {n : Nat} {x : Str} (h : Sh n x) : Sh n (revS x) := by
  unfold Sh at *
  rw [tl_revS, List.length_reverse]
  exact h
theorem Sh.cat {n m : Nat} {a b : Str} (ha : Sh n a) (hb : Sh m b) : Sh (n + m) (a ++ b) := by
  unfold Sh at *
  rw [tl_append, List.length_append]
  omega
theorem Sh.cat_O {n m : Nat} {a b : Str} (ha : Sh n a) (hb : Sh m b) (h : n + m ≤ 16777216 := by decide) : O1 (catS a b) (Sh (n + m)) :=
  catS_O (Nat.le_trans (Nat.add_le_add ha hb) h) (ha.cat hb)
theorem tl_mul_len (x : Str) (n : Int) : (tl (Txt.mul x n)).length = n.toNat * (tl x).length := by
  rw [tl_mul, List.length_flatten, List.map_replicate, List.sum_replicate_nat]
theorem Sh.mul_O {n m : Nat} {x : Str} {i : Int} (hx : Sh n x) (h0 : -1000000 ≤ i) (h1 : i ≤ (m : Nat)) (h2 : m * n ≤ 16777216) (h3 : m ≤ 16777216) : O1 (mulS x i) (Sh (m * n)) := by
  have h4 : i.toNat ≤ m := by omega
  have h5 : i.toNat * (tl x).length ≤ m * n := Nat.mul_le_mul h4 hx
  refine mulS_O (by omega) (by omega) (by rw [Nat.mul_comm]; omega) ?_
  unfold Sh
  rw [tl_mul_len]
  exact h5
theorem sh_sum {n : Nat} : ∀ {ys : List Str}, (∀ y ∈ ys, Sh n y) → (ys.map fun y => (tl y).length).sum ≤ ys.length * n
  | [], _ => by simp
  | y :: ys, h => by
    have h1 := sh_sum (n := n) (ys := ys) fun z hz => h z (List.mem_cons_of_mem _ hz)
    have h2 : (tl y).length ≤ n := h y (List.mem_cons_self ..)
    rw [List.map_cons, List.sum_cons, List.length_cons, Nat.add_mul, Nat.one_mul]
    omega
theorem Sh.join_O {n m : Nat} {ys : List Str} (h : ∀ y ∈ ys, Sh n y) (hm : ys.length ≤ m) (h2 : m * n ≤ 16777216) : O1 (joinS ("" : Str) ys) (Sh (m * n)) := by
  have h1 := sh_sum h
  have h3 : ys.length * n ≤ m * n := Nat.mul_le_mul_right n hm
  have e : (tl ("" : Str)).length = 0 := by rw [tl_empty]; rfl
  refine joinS_O (by rw [e]; omega) ?_
  unfold Sh
  rw [tl_join0, List.length_flatten, List.map_map]
  exact Nat.le_trans h1 h3
theorem rangeL_length {lo : Int} {n : Nat} : (rangeL lo n).length = n := rangeL_len lo n
/-! ### == of data -/
class EqvD (α : Type) [Enc α] : Prop where
  iff : ∀ x y : α, PyData.eqv (Enc.d x) (Enc.d y) = true ↔ x = y
instance : EqvD Int := ⟨fun x y => by show (x == y) = true ↔ _; exact beq_iff_eq⟩
instance : EqvD Bool := ⟨fun x y => by show (x == y) = true ↔ _; exact beq_iff_eq⟩
instance : EqvD Str := ⟨fun x y => by show (x == y) = true ↔ _; exact beq_iff_eq⟩
instance {α : Type} [Enc α] [EqvD α] [NN α] : EqvD (Option α) := ⟨fun x y => by
  cases x with
  | none =>
    cases y with
    | none => exact ⟨fun _ => rfl, fun _ => rfl⟩
    | some y =>
      have n := NN.ne y
      refine ⟨fun h => ?_, (fun h => nomatch h)⟩
      have h' : PyData.eqv .none (Enc.d y) = true := h
      revert h' n
      generalize Enc.d y = d
      intro n h'
      cases d <;> first | exact absurd rfl n | cases h'
  | some x =>
    cases y with
    | none =>
      have n := NN.ne x
      refine ⟨fun h => ?_, (fun h => nomatch h)⟩
      have h' : PyData.eqv (Enc.d x) .none = true := h
      revert h' n
      generalize Enc.d x = d
      intro n h'
      cases d <;> first | exact absurd rfl n | cases h'
    | some y => exact ⟨fun h => congrArg some ((EqvD.iff x y).mp h), fun h => (EqvD.iff x y).mpr (Option.some.inj h)⟩⟩
theorem eqvAll_iff {α : Type} [Enc α] [EqvD α] : ∀ xs ys : List α, PyData.eqvAll (xs.map Enc.d) (ys.map Enc.d) = true ↔ xs = ys
  | [], [] => ⟨fun _ => rfl, fun _ => rfl⟩
  | [], _ :: _ => ⟨(fun h => nomatch h), (fun h => nomatch h)⟩
  | _ :: _, [] => ⟨(fun h => nomatch h), (fun h => nomatch h)⟩
  | x :: xs, y :: ys => by
    show (PyData.eqv (Enc.d x) (Enc.d y) && PyData.eqvAll (xs.map Enc.d) (ys.map Enc.d)) = true ↔ _
    rw [Bool.and_eq_true, EqvD.iff, eqvAll_iff xs ys, List.cons.injEq]
instance {α : Type} [Enc α] [EqvD α] : EqvD (List α) := ⟨fun x y => eqvAll_iff x y⟩
instance {α : Type} [Enc α] [EqvD α] : EqvD (VT α) := ⟨fun x y => by
  obtain ⟨x⟩ := x
  obtain ⟨y⟩ := y
  rw [VT.mk.injEq]
  exact eqvAll_iff x y⟩
instance {α β : Type} [Enc α] [Enc β] [EqvD α] [EqvD β] : EqvD (α × β) := ⟨fun x y => by
  obtain ⟨a, b⟩ := x
  obtain ⟨c, d⟩ := y
  show (PyData.eqv (Enc.d a) (Enc.d c) && (PyData.eqv (Enc.d b) (Enc.d d) && true)) = true ↔ _
  rw [Bool.and_true, Bool.and_eq_true, EqvD.iff, EqvD.iff, Prod.mk.injEq]⟩
instance {α β γ : Type} [Enc α] [Enc β] [Enc γ] [EqvD α] [EqvD β] [EqvD γ] : EqvD (T3 α β γ) := ⟨fun x y => by
  obtain ⟨a, b, e⟩ := x
  obtain ⟨c, d, f⟩ := y
  show (PyData.eqv (Enc.d a) (Enc.d c) && (PyData.eqv (Enc.d b) (Enc.d d) && (PyData.eqv (Enc.d e) (Enc.d f) && true))) = true ↔ _
  rw [Bool.and_true, Bool.and_eq_true, Bool.and_eq_true, EqvD.iff, EqvD.iff, EqvD.iff, T3.mk.injEq]⟩
instance {α β γ δ : Type} [Enc α] [Enc β] [Enc γ] [Enc δ] [EqvD α] [EqvD β] [EqvD γ] [EqvD δ] : EqvD (T4 α β γ δ) := ⟨fun x y => by
  obtain ⟨a, b, e, g⟩ := x
  obtain ⟨c, d, f, h⟩ := y
  show (PyData.eqv (Enc.d a) (Enc.d c) && (PyData.eqv (Enc.d b) (Enc.d d) && (PyData.eqv (Enc.d e) (Enc.d f) && (PyData.eqv (Enc.d g) (Enc.d h) && true)))) = true ↔ _
  rw [Bool.and_true, Bool.and_eq_true, Bool.and_eq_true, Bool.and_eq_true, EqvD.iff, EqvD.iff, EqvD.iff, EqvD.iff, T4.mk.injEq]⟩
theorem eqD_iff {α : Type} [Enc α] [EqvD α] {x y : α} : eqD x y = true ↔ x = y := EqvD.iff x y
theorem eqD_dec {α : Type} [Enc α] [EqvD α] [DecidableEq α] {x y : α} : eqD x y = decide (x = y) := by
  rw [Bool.eq_iff_iff, eqD_iff, decide_eq_true_iff]
theorem eqD_refl {α : Type} [Enc α] [EqvD α] (x : α) : eqD x x = true := eqD_iff.mpr rfl
theorem eqD_false {α : Type} [Enc α] [EqvD α] {x y : α} (h : x ≠ y) : eqD x y = false := Bool.eq_false_iff.mpr fun e => h (eqD_iff.mp e)
theorem alike_self {α : Type} [DecidableEq α] (x : α) : m_l_alike x x = some true := by
  unfold m_l_alike
  rw [if_pos rfl]
theorem bind2_some {α β γ : Type} {a : α} {b : β} {f : α → β → Option γ} : bind2 (some (a, b)) f = f a b := rfl
theorem notT {α : Type} {a b : α} : (if (!true) = true then a else b) = b := rfl
theorem alike_O {α : Type} [DecidableEq α] {x y : α} {P : Bool → Prop} (h : x = y) (p : P true) : O1 (m_l_alike x y) P := by
  refine ⟨true, ?_, p⟩
  unfold m_l_alike
  rw [if_pos h]
end G
/-! Plain laws: patterns, their worth, addresses written. -/
namespace G
open PySem PySem.Spec PyProof.Rows L2 TL
/-- a sign of '01' -/
def isB (c : Nat) : Bool := decide (c ∈ [48, 49])
theorem isB_iff {c : Nat} : isB c = true ↔ c = 48 ∨ c = 49 := by unfold isB; simp
theorem tl01 : tl ("01" : Str) = [48, 49] := by decide +kernel
theorem tlStar : tl ("*" : Str) = [42] := by decide +kernel
theorem tl0 : tl ("0" : Str) = [48] := by decide +kernel
theorem tl1 : tl ("1" : Str) = [49] := by decide +kernel
def Bits (bs : List Nat) : Prop := ∀ c ∈ bs, isB c = true
theorem Bits.nil : Bits [] := fun _ h => nomatch h
theorem Bits.app {a b : List Nat} (ha : Bits a) (hb : Bits b) : Bits (a ++ b) := fun c h => (List.mem_append.mp h).elim (ha c) (hb c)
theorem Bits.take {a : List Nat} (n : Nat) (ha : Bits a) : Bits (a.take n) := fun c h => ha c (List.mem_of_mem_take h)
theorem Bits.drop {a : List Nat} (n : Nat) (ha : Bits a) : Bits (a.drop n) := fun c h => ha c (List.mem_of_mem_drop h)
theorem Bits.one {c : Nat} (h : isB c = true) : Bits [c] := fun d hd => by rw [List.mem_singleton.mp hd]; exact h
theorem Bits.mem01 {c : Nat} (h : c ∈ tl ("01" : Str)) : isB c = true := by rw [tl01] at h; exact decide_eq_true h
theorem Bits.no42 {a : List Nat} (ha : Bits a) : 42 ∉ a := fun h => absurd (ha 42 h) (by decide)
/-- the pattern of w signs that bits bs make -/
def patL (w : Nat) (bs : List Nat) : List Nat := bs ++ (if bs.length < w then [42] else [])
structure Pat (w : Nat) (bs : List Nat) (x : Str) : Prop where
  bits : Bits bs
  le : bs.length ≤ w
  eq : tl x = patL w bs
theorem tl_strip (x y : Str) : tl (Txt.stripChars x y) = ((tl x).take (stripHi y.cps.contains true x (stripLo y.cps.contains true x))).drop (stripLo y.cps.contains true x) := by
  unfold Txt.stripChars
  rw [stripBy_eq]
  show (x.cps.extract _ _).toList = _
  rw [List.drop_take]
  simp [tl]
theorem tw0 {p : Nat → Bool} : ∀ l : List Nat, (∀ c, l.head? = some c → p c = false) → l.takeWhile p = []
  | [], _ => rfl
  | c :: r, h => by rw [List.takeWhile_cons, if_neg (by rw [h c rfl]; exact Bool.false_ne_true)]
theorem strip_star {x : Str} {bs st : List Nat} (e : tl x = bs ++ st) (h : 42 ∉ bs) (hs : st = [] ∨ st = [42]) : tl (Txt.stripChars x ("*" : Str)) = bs := by
  have hc : ∀ c : Nat, (("*" : Str)).cps.contains c = decide (c = 42) := fun c => by
    have e1 : (("*" : Str)).cps = #[42] := by decide +kernel
    rw [e1]
    simp [Bool.beq_eq_decide_eq]
  rw [tl_strip]
  generalize hg : (("*" : Str)).cps.contains = g at *
  have hx : x.cps.toList = bs ++ st := e
  have hlen : x.length = bs.length + st.length := by rw [len_tl, e, List.length_append]
  cases bs with
  | nil =>
    rcases hs with rfl | rfl
    · rw [e]; simp
    · have h1 : stripLo g true x = 1 := by
        unfold stripLo
        rw [if_pos rfl, hx]
        show (List.takeWhile g [42]).length = 1
        rw [List.takeWhile_cons, if_pos (by rw [hc]; decide)]
        rfl
      rw [h1, e]
      rw [List.drop_eq_nil_iff, List.length_take]
      exact Nat.min_le_right _ _
  | cons c r =>
    have hc42 : g c = false := by rw [hc]; exact decide_eq_false fun z => h (by rw [z]; exact List.mem_cons_self ..)
    have h1 : stripLo g true x = 0 := by
      unfold stripLo
      rw [if_pos rfl, hx]
      show (List.takeWhile g (c :: (r ++ st))).length = 0
      rw [List.takeWhile_cons, if_neg (by rw [hc42]; decide)]
      rfl
    have hlast : ∀ l : List Nat, 42 ∉ l → l.reverse.takeWhile g = [] := fun l hl => tw0 _ fun d hd => by
      rw [hc]
      refine decide_eq_false fun z => hl ?_
      rw [← z]
      exact List.mem_reverse.mp (List.mem_of_mem_head? hd)
    have h2 : stripHi g true x 0 = (c :: r).length := by
      unfold stripHi
      rw [if_pos rfl, hx, List.drop_zero, hlen]
      rcases hs with rfl | rfl
      · rw [List.append_nil, hlast _ h]
        simp
      · rw [List.reverse_append]
        show _ - (List.takeWhile g (42 :: (c :: r).reverse)).length = _
        rw [List.takeWhile_cons, if_pos (by rw [hc]; decide), hlast _ h]
        simp
    rw [h1, h2, e, List.drop_zero, List.take_left]
theorem part_star {x : Str} {bs st : List Nat} (e : tl x = bs ++ st) (h : 42 ∉ bs) (hs : st = [] ∨ st = [42]) : tl (partS x ("*" : Str)).a = bs := by
  have ex : x = ⟨bs.toArray⟩ ++ (⟨st.toArray⟩ : Str) := tl_inj (by rw [tl_append, e])
  have hb : 42 ∉ tl (⟨bs.toArray⟩ : Str) := by simpa [tl] using h
  rcases hs with rfl | rfl
  · have e2 : x = ⟨bs.toArray⟩ := tl_inj (by rw [e]; simp [tl])
    show tl (Txt.partition x ("*" : Str)).1 = bs
    rw [e2, TL.partition_none tlStar hb]
  · have e2 : x = (⟨bs.toArray⟩ : Str) ++ ("*" : Str) ++ Str.empty := tl_inj (by rw [tl_append, tl_append, tlStar, e]; simp [tl, Str.empty])
    show tl (Txt.partition x ("*" : Str)).1 = bs
    rw [e2, TL.partition_app tlStar hb]
theorem Pat.strip {w : Nat} {bs : List Nat} {x : Str} (p : Pat w bs x) : tl (Txt.stripChars x ("*" : Str)) = bs := by
  refine strip_star (st := if bs.length < w then [42] else []) p.eq p.bits.no42 ?_
  split
  · exact .inr rfl
  · exact .inl rfl
theorem Pat.part {w : Nat} {bs : List Nat} {x : Str} (p : Pat w bs x) : tl (partS x ("*" : Str)).a = bs := by
  refine part_star (st := if bs.length < w then [42] else []) p.eq p.bits.no42 ?_
  split
  · exact .inr rfl
  · exact .inl rfl
theorem Pat.len {w : Nat} {bs : List Nat} {x : Str} (p : Pat w bs x) : (tl x).length ≤ w := by
  rw [p.eq, patL, List.length_append]
  have := p.le
  split
  · simp; omega
  · simp; omega
/-! ### worth -/
def wr (bs : List Nat) : Nat := bs.foldl (fun n c => 2 * n + (if c = 49 then 1 else 0)) 0
theorem wr_from (bs : List Nat) : ∀ a : Nat, bs.foldl (fun n c => 2 * n + (if c = 49 then 1 else 0)) a = a * 2 ^ bs.length + wr bs := by
  induction bs with
  | nil => intro a; simp [wr]
  | cons c bs ih =>
    intro a
    have h0 := ih (2 * 0 + (if c = 49 then 1 else 0))
    show List.foldl _ (2 * a + (if c = 49 then 1 else 0)) bs = _
    rw [ih]
    have h1 : wr (c :: bs) = (2 * 0 + (if c = 49 then 1 else 0)) * 2 ^ bs.length + wr bs := h0
    rw [h1, List.length_cons, Nat.pow_succ]
    generalize (if c = 49 then 1 else 0) = d
    generalize 2 ^ bs.length = p
    rw [Nat.add_mul, Nat.mul_zero, Nat.zero_add, Nat.add_assoc, Nat.mul_comm 2 a, Nat.mul_assoc, Nat.mul_comm 2 p]
theorem wr_app (a b : List Nat) : wr (a ++ b) = wr a * 2 ^ b.length + wr b := by
  unfold wr
  rw [List.foldl_append]
  exact wr_from b _
theorem wr_cons (c : Nat) (b : List Nat) : wr (c :: b) = (if c = 49 then 1 else 0) * 2 ^ b.length + wr b := by
  have := wr_app [c] b
  rw [List.singleton_append] at this
  rw [this]
  congr 2
  simp [wr]
theorem wr_snoc (a : List Nat) (c : Nat) : wr (a ++ [c]) = 2 * wr a + (if c = 49 then 1 else 0) := by
  unfold wr
  rw [List.foldl_append]
  rfl
theorem wr_lt : ∀ bs : List Nat, wr bs < 2 ^ bs.length
  | [] => by decide
  | c :: bs => by
    have := wr_lt bs
    rw [wr_cons, List.length_cons, Nat.pow_succ]
    split <;> omega
theorem wr_zeros (k : Nat) : wr (List.replicate k 48) = 0 := by
  induction k with
  | zero => rfl
  | succ k ih => rw [List.replicate_succ, wr_cons, ih]; simp
theorem wr_ones (k : Nat) : wr (List.replicate k 49) + 1 = 2 ^ k := by
  induction k with
  | zero => rfl
  | succ k ih =>
    rw [List.replicate_succ, wr_cons, List.length_replicate, Nat.pow_succ, if_pos rfl]
    omega
theorem wr_inj : ∀ {a b : List Nat}, Bits a → Bits b → a.length = b.length → wr a = wr b → a = b
  | [], [], _, _, _, _ => rfl
  | [], _ :: _, _, _, h, _ => nomatch h
  | _ :: _, [], _, _, h, _ => nomatch h
  | c :: a, d :: b, ha, hb, h, e => by
    have hl : a.length = b.length := Nat.succ.inj h
    rw [wr_cons, wr_cons, hl] at e
    have h1 := wr_lt a
    have h2 := wr_lt b
    rw [hl] at h1
    have hc := isB_iff.mp (ha c (List.mem_cons_self ..))
    have hd := isB_iff.mp (hb d (List.mem_cons_self ..))
    have he : c = d ∧ wr a = wr b := by
      rcases hc with rfl | rfl <;> rcases hd with rfl | rfl <;> simp at e ⊢ <;> omega
    rw [he.1, wr_inj (fun x hx => ha x (List.mem_cons_of_mem _ hx)) (fun x hx => hb x (List.mem_cons_of_mem _ hx)) hl he.2]
theorem toI_sgn1 (c : Nat) : toI (eqS (sgn c) ("1" : Str)) = ((if c = 49 then 1 else 0 : Nat) : Int) := by
  rw [eqS_tl, tl_sgn, tl1]
  by_cases h : c = 49
  · subst h; rfl
  · rw [decide_eq_false (fun e => h (List.cons.inj e).1), if_neg h]; rfl
theorem log2_lt64 {a : Nat} (h : a < 2 ^ 64) : a.log2 < 64 := by
  by_cases h0 : a = 0
  · subst h0; decide
  · exact (Nat.log2_lt h0).mpr h
theorem mulI_nat {a b : Nat} (ha : a < 2 ^ 64) (hb : b < 2 ^ 64) : mulI (a : Int) (b : Int) = some ((a * b : Nat) : Int) := by
  unfold mulI
  have h1 := log2_lt64 ha
  have h2 := log2_lt64 hb
  rw [if_pos (by rw [Int.natAbs_natCast, Int.natAbs_natCast]; omega)]
  rfl
theorem shlI_one {k : Nat} (h : k ≤ 1000000) : shlI 1 (k : Int) = some ((2 ^ k : Nat) : Int) := by
  unfold shlI
  rw [if_pos ⟨by omega, by omega, by decide⟩, Int.one_mul, Int.toNat_natCast]
  simp
theorem shrI_nat {n k : Nat} : shrI (n : Int) (k : Int) = some ((n / 2 ^ k : Nat) : Int) := by
  unfold shrI
  rw [if_pos (by omega), Int.toNat_natCast]
  simp
theorem and_one (n : Nat) : Builtin.bitAnd (n : Int) 1 = ((n % 2 : Nat) : Int) := by
  have := Bits.bitAnd_mask (x := (n : Int)) 1 (by omega)
  rw [show ((2 : Int) ^ 1 - 1) = 1 by decide] at this
  rw [this]
  simp
theorem pow_lt64 {k : Nat} (h : k < 64) : 2 ^ k < 2 ^ 64 := Nat.pow_lt_pow_right (by decide) h
/-! ### an address written with w signs -/
def bin : Nat → Nat → List Nat
  | 0, _ => []
  | w + 1, n => bin w (n / 2) ++ [48 + n % 2]
theorem bin_len : ∀ w n : Nat, (bin w n).length = w
  | 0, _ => rfl
  | w + 1, n => by rw [bin, List.length_append, bin_len w]; rfl
theorem bin_bits : ∀ w n : Nat, Bits (bin w n)
  | 0, _ => Bits.nil
  | w + 1, n => (bin_bits w _).app (Bits.one (isB_iff.mpr (by have := Nat.mod_two_eq_zero_or_one n; omega)))
theorem wr_bin : ∀ w n : Nat, wr (bin w n) = n % 2 ^ w
  | 0, n => by rw [Nat.pow_zero, Nat.mod_one]; rfl
  | w + 1, n => by
    rw [bin, wr_snoc, wr_bin w, Nat.pow_succ, Nat.mul_comm (2 ^ w) 2, Nat.mod_mul]
    have : (if 48 + n % 2 = 49 then 1 else 0) = n % 2 := by
      have := Nat.mod_two_eq_zero_or_one n
      split <;> omega
    rw [this]
    omega
theorem bin_take : ∀ (k j n : Nat), (bin (k + j) n).take k = bin k (n / 2 ^ j)
  | k, 0, n => by
    rw [Nat.add_zero, Nat.pow_zero, Nat.div_one]
    exact List.take_of_length_le (by rw [bin_len]; exact Nat.le_refl _)
  | k, j + 1, n => by
    show (bin (k + j) (n / 2) ++ [48 + n % 2]).take k = _
    rw [List.take_append_of_le_length (by rw [bin_len]; omega), bin_take k j, Nat.div_div_eq_div_mul, Nat.pow_succ, Nat.mul_comm 2]
theorem bin_top : ∀ k n : Nat, bin (k + 1) n = (48 + n / 2 ^ k % 2) :: bin k n
  | 0, n => by rw [Nat.pow_zero, Nat.div_one]; rfl
  | k + 1, n => by
    rw [bin, bin_top k (n / 2), Nat.div_div_eq_div_mul, Nat.mul_comm 2, ← Nat.pow_succ]
    rfl
theorem code01 {d : Nat} (h : d < 2) : codeAt ("01" : Str) (d : Nat) = some (48 + d) := by
  have : d = 0 ∨ d = 1 := by omega
  rcases this with rfl | rfl
  · exact atI_nat (by rw [tl01]; rfl)
  · exact atI_nat (by rw [tl01]; rfl)
end G
namespace G
open PySem PySem.Spec PyProof.Rows L2 TL
/-! ### addresses that spans have within a block -/
def cn1 (s : Int × Int) (a e : Int) : Int := max 0 (min e s.2 - max a s.1)
def ct (S : List (Int × Int)) (a e : Int) : Int := (S.map fun s => cn1 s a e).sum
theorem ct_nil (a e : Int) : ct [] a e = 0 := rfl
theorem ct_cons (s : Int × Int) (S : List (Int × Int)) (a e : Int) : ct (s :: S) a e = cn1 s a e + ct S a e := by unfold ct; rw [List.map_cons, List.sum_cons]
theorem ct_app (S T : List (Int × Int)) (a e : Int) : ct (S ++ T) a e = ct S a e + ct T a e := by
  induction S with
  | nil => rw [List.nil_append, ct_nil]; omega
  | cons s S ih => rw [List.cons_append, ct_cons, ct_cons, ih]; omega
theorem cn1_nn (s : Int × Int) (a e : Int) : 0 ≤ cn1 s a e := by unfold cn1; omega
theorem ct_nn (S : List (Int × Int)) (a e : Int) : 0 ≤ ct S a e := by
  induction S with
  | nil => exact Int.le_refl _
  | cons s S ih => rw [ct_cons]; have := cn1_nn s a e; omega
theorem cn1_cut {s : Int × Int} {a m e : Int} (h1 : a ≤ m) (h2 : m ≤ e) : cn1 s a e = cn1 s a m + cn1 s m e ∨ s.2 ≤ s.1 := by
  unfold cn1
  omega
/-- rising spans, that may touch -/
def Rise (S : List (Int × Int)) : Prop := (∀ s ∈ S, s.1 < s.2) ∧ S.Pairwise fun s t => s.2 ≤ t.1
/-- rising spans with gaps -/
def Gaps (S : List (Int × Int)) : Prop := (∀ s ∈ S, s.1 < s.2) ∧ S.Pairwise fun s t => s.2 < t.1
theorem Gaps.rise {S : List (Int × Int)} (h : Gaps S) : Rise S := ⟨h.1, h.2.imp fun h => Int.le_of_lt h⟩
theorem Rise.tail {s : Int × Int} {S : List (Int × Int)} (h : Rise (s :: S)) : Rise S := ⟨fun t ht => h.1 t (List.mem_cons_of_mem _ ht), (List.pairwise_cons.mp h.2).2⟩
theorem Gaps.tail {s : Int × Int} {S : List (Int × Int)} (h : Gaps (s :: S)) : Gaps S := ⟨fun t ht => h.1 t (List.mem_cons_of_mem _ ht), (List.pairwise_cons.mp h.2).2⟩
theorem ct_cut {S : List (Int × Int)} (h : Rise S) {a m e : Int} (h1 : a ≤ m) (h2 : m ≤ e) : ct S a e = ct S a m + ct S m e := by
  induction S with
  | nil => rfl
  | cons s S ih =>
    rw [ct_cons, ct_cons, ct_cons, ih h.tail]
    have := h.1 s (List.mem_cons_self ..)
    rcases cn1_cut (s := s) h1 h2 with e | e <;> omega
/-- what stands behind k alone has at most what is behind k -/
theorem ct_from {S : List (Int × Int)} (h : Rise S) {k a e : Int} (hk : ∀ s ∈ S, k ≤ s.1) : ct S a e ≤ max 0 (e - max a k) := by
  induction S generalizing k with
  | nil => rw [ct_nil]; omega
  | cons s S ih =>
    rw [ct_cons]
    have h1 := h.1 s (List.mem_cons_self ..)
    have h2 := hk s (List.mem_cons_self ..)
    have h3 := ih h.tail (k := s.2) fun t ht => (List.pairwise_cons.mp h.2).1 t ht
    unfold cn1
    omega
theorem ct_le {S : List (Int × Int)} (h : Rise S) {a e : Int} (hae : a ≤ e) : ct S a e ≤ e - a := by
  cases S with
  | nil => rw [ct_nil]; omega
  | cons s S =>
    have h3 := ct_from h.tail (k := s.2) (a := a) (e := e) fun t ht => (List.pairwise_cons.mp h.2).1 t ht
    have h1 := h.1 s (List.mem_cons_self ..)
    rw [ct_cons]
    unfold cn1
    omega
/-- a block that is had whole is had by one, where there are gaps -/
theorem ct_full {S : List (Int × Int)} (h : Gaps S) {a e : Int} (hae : a < e) (hc : ct S a e = e - a) : ∃ A s B, S = A ++ s :: B ∧ s.1 ≤ a ∧ e ≤ s.2 ∧ (∀ t ∈ A, cn1 t a e = 0) ∧ (∀ t ∈ B, cn1 t a e = 0) := by
  induction S with
  | nil => rw [ct_nil] at hc; omega
  | cons s S ih =>
    rw [ct_cons] at hc
    have h1 := h.1 s (List.mem_cons_self ..)
    have hp := (List.pairwise_cons.mp h.2).1
    by_cases hz : cn1 s a e = 0
    · obtain ⟨A, t, B, rfl, k1, k2, k3, k4⟩ := ih h.tail (by omega)
      refine ⟨s :: A, t, B, rfl, k1, k2, fun u hu => ?_, k4⟩
      rcases List.mem_cons.mp hu with rfl | hu
      · exact hz
      · exact k3 u hu
    · have h3 := ct_from h.tail.rise (k := s.2 + 1) (a := a) (e := e) fun t ht => hp t ht
      have hb : s.1 ≤ a ∧ e ≤ s.2 := by unfold cn1 at hz hc; omega
      refine ⟨[], s, S, rfl, hb.1, hb.2, (fun t ht => absurd ht (List.not_mem_nil)), fun t ht => ?_⟩
      have := hp t ht
      unfold cn1
      omega
def ends1 (s : Int × Int) (a e : Int) : Nat := (if a < s.1 ∧ s.1 < e then 1 else 0) + (if a < s.2 ∧ s.2 < e then 1 else 0)
def ends (S : List (Int × Int)) (a e : Int) : Nat := (S.map fun s => ends1 s a e).sum
theorem ends_cons (s : Int × Int) (S : List (Int × Int)) (a e : Int) : ends (s :: S) a e = ends1 s a e + ends S a e := by unfold ends; rw [List.map_cons, List.sum_cons]
theorem ends_le (S : List (Int × Int)) (a e : Int) : ends S a e ≤ 2 * S.length := by
  induction S with
  | nil => exact Nat.le_refl _
  | cons s S ih =>
    rw [ends_cons, List.length_cons]
    have : ends1 s a e ≤ 2 := by unfold ends1; split <;> split <;> omega
    omega
theorem ends_cut (S : List (Int × Int)) {a m e : Int} (h1 : a ≤ m) (h2 : m ≤ e) : ends S a m + ends S m e ≤ ends S a e := by
  induction S with
  | nil => exact Nat.le_refl _
  | cons s S ih =>
    rw [ends_cons, ends_cons, ends_cons]
    have : ends1 s a m + ends1 s m e ≤ ends1 s a e := by
      unfold ends1
      repeat' split
      all_goals omega
    omega
theorem ends_zero {S : List (Int × Int)} (h : Rise S) {a e : Int} (hae : a < e) (hz : ends S a e = 0) : ct S a e = 0 ∨ ct S a e = e - a := by
  induction S with
  | nil => exact .inl rfl
  | cons s S ih =>
    rw [ends_cons] at hz
    have hl := ct_le h (Int.le_of_lt hae)
    rw [ct_cons] at hl ⊢
    have h1 := h.1 s (List.mem_cons_self ..)
    have h0 : ends1 s a e = 0 := by omega
    have hs : cn1 s a e = 0 ∨ cn1 s a e = e - a := by
      unfold ends1 at h0
      unfold cn1
      split at h0 <;> split at h0 <;> omega
    have hn := ct_nn S a e
    rcases ih h.tail (by omega) with e1 | e1 <;> rcases hs with e2 | e2 <;> omega
/-! ### the leaves -/
abbrev H2 (j : Nat) : Int := ((2 ^ j : Nat) : Int)
theorem H2_succ (j : Nat) : H2 (j + 1) = 2 * H2 j := by show ((2 ^ (j + 1) : Nat) : Int) = 2 * ((2 ^ j : Nat) : Int); rw [Nat.pow_succ]; omega
theorem H2_pos (j : Nat) : 0 < H2 j := Int.ofNat_lt.mpr (Nat.two_pow_pos j)
theorem H2_zero : H2 0 = 1 := rfl
def can (S : List (Int × Int)) : Nat → Int → List Nat → List (List Nat)
  | 0, a, bs => if ct S a (a + H2 0) = 0 then [] else [bs]
  | j + 1, a, bs => if ct S a (a + H2 (j + 1)) = 0 then [] else if ct S a (a + H2 (j + 1)) = H2 (j + 1) then [bs ++ [42]] else can S j a (bs ++ [48]) ++ can S j (a + H2 j) (bs ++ [49])
/-- a leaf as it is written -/
def leaf (j : Nat) (bs : List Nat) : List Nat := if j = 0 then bs else bs ++ [42]
theorem can_none {S : List (Int × Int)} {j : Nat} {a : Int} {bs : List Nat} (h : ct S a (a + H2 j) = 0) : can S j a bs = [] := by
  cases j <;> (unfold can; rw [if_pos h])
theorem can_full {S : List (Int × Int)} {j : Nat} {a : Int} {bs : List Nat} (h : ct S a (a + H2 j) = H2 j) : can S j a bs = [leaf j bs] := by
  have := H2_pos j
  cases j with
  | zero => unfold can; rw [if_neg (by omega)]; rfl
  | succ j => unfold can; rw [if_neg (by omega), if_pos h]; rfl
theorem can_part {S : List (Int × Int)} {j : Nat} {a : Int} {bs : List Nat} (h1 : ct S a (a + H2 (j + 1)) ≠ 0) (h2 : ct S a (a + H2 (j + 1)) ≠ H2 (j + 1)) : can S (j + 1) a bs = can S j a (bs ++ [48]) ++ can S j (a + H2 j) (bs ++ [49]) := by
  conv => lhs; unfold can
  rw [if_neg h1, if_neg h2]
theorem can_len {S : List (Int × Int)} (h : Rise S) : ∀ (j : Nat) (a : Int) (bs : List Nat), (can S j a bs).length ≤ 1 + j * ends S a (a + H2 j)
  | 0, a, bs => by
    unfold can
    split
    · exact Nat.zero_le _
    · exact Nat.le_add_right _ _
  | j + 1, a, bs => by
    have hp := H2_pos (j + 1)
    have hj := H2_pos j
    have hs := H2_succ j
    by_cases h0 : ct S a (a + H2 (j + 1)) = 0
    · rw [can_none h0]; exact Nat.zero_le _
    · by_cases h1 : ct S a (a + H2 (j + 1)) = H2 (j + 1)
      · rw [can_full h1]; exact Nat.le_add_right _ _
      · rw [can_part h0 h1, List.length_append]
        have l := can_len h j a (bs ++ [48])
        have r := can_len h j (a + H2 j) (bs ++ [49])
        have he : a + H2 j + H2 j = a + H2 (j + 1) := by omega
        rw [he] at r
        have hc := ends_cut S (a := a) (m := a + H2 j) (e := a + H2 (j + 1)) (by omega) (by omega)
        have hz : ends S a (a + H2 (j + 1)) ≠ 0 := fun e => by
          rcases ends_zero h (by omega) e with e | e <;> omega
        generalize ends S a (a + H2 (j + 1)) = x at *
        generalize ends S a (a + H2 j) = y at *
        generalize ends S (a + H2 j) (a + H2 (j + 1)) = z at *
        have : j * y + j * z ≤ j * x := by rw [← Nat.mul_add]; exact Nat.mul_le_mul_left _ hc
        have : (j + 1) * x = j * x + x := Nat.succ_mul j x
        omega
theorem can_congr {S T : List (Int × Int)} : ∀ (j : Nat) (a : Int) (bs : List Nat), (∀ f b, a ≤ f → b ≤ a + H2 j → ct S f b = ct T f b) → can S j a bs = can T j a bs
  | 0, a, bs, h => by
    unfold can
    rw [h a (a + H2 0) (Int.le_refl _) (Int.le_refl _)]
  | j + 1, a, bs, h => by
    have hj := H2_pos j
    have hs := H2_succ j
    unfold can
    rw [h a _ (Int.le_refl _) (Int.le_refl _), can_congr j a _ fun f b h1 h2 => h f b h1 (by omega), can_congr j (a + H2 j) _ fun f b h1 h2 => h f b (by omega) (by omega)]
theorem flat_nil {α β : Type} {f : α → List β} : ∀ {l : List α}, (∀ x ∈ l, f x = []) → l.flatMap f = []
  | [], _ => rfl
  | x :: l, h => by rw [List.flatMap_cons, h x (List.mem_cons_self ..), flat_nil fun y hy => h y (List.mem_cons_of_mem _ hy)]; rfl
theorem ct_zero {S : List (Int × Int)} {a e : Int} : ct S a e = 0 ↔ ∀ s ∈ S, cn1 s a e = 0 := by
  induction S with
  | nil => exact ⟨fun _ t h => absurd h (List.not_mem_nil), fun _ => rfl⟩
  | cons s S ih =>
    rw [ct_cons]
    have h1 := cn1_nn s a e
    have h2 := ct_nn S a e
    constructor
    · intro h t ht
      rcases List.mem_cons.mp ht with rfl | ht
      · omega
      · exact ih.mp (by omega) t ht
    · intro h
      have h3 := h s (List.mem_cons_self ..)
      have h4 := ih.mpr fun t ht => h t (List.mem_cons_of_mem _ ht)
      omega
theorem ct_one (s : Int × Int) (a e : Int) : ct [s] a e = cn1 s a e := by rw [ct_cons, ct_nil]; omega
/-- the leaves of spans with gaps are those of each -/
theorem can_each {S : List (Int × Int)} (h : Gaps S) : ∀ (j : Nat) (a : Int) (bs : List Nat), can S j a bs = S.flatMap fun s => can [s] j a bs := fun j => by
  induction j with
  | zero =>
    intro a bs
    by_cases h0 : ct S a (a + H2 0) = 0
    · rw [can_none h0, flat_nil fun s hs => can_none (by rw [ct_one]; exact ct_zero.mp h0 s hs)]
    · have hl := ct_le h.rise (a := a) (e := a + H2 0) (by rw [H2_zero]; omega)
      have hn := ct_nn S a (a + H2 0)
      exact full h 0 a bs (by rw [H2_zero] at *; omega)
  | succ j ih =>
    intro a bs
    have hj := H2_pos j
    have hs := H2_succ j
    by_cases h0 : ct S a (a + H2 (j + 1)) = 0
    · rw [can_none h0, flat_nil fun s hs => can_none (by rw [ct_one]; exact ct_zero.mp h0 s hs)]
    · by_cases h1 : ct S a (a + H2 (j + 1)) = H2 (j + 1)
      · exact full h (j + 1) a bs h1
      · rw [can_part h0 h1, ih, ih]
        have e1 : S.flatMap (fun s => can [s] (j + 1) a bs) = S.flatMap fun s => can [s] j a (bs ++ [48]) ++ can [s] j (a + H2 j) (bs ++ [49]) := by
          have hle : ∀ T : List (Int × Int), (∀ t ∈ T, t.1 < t.2) → ct T a (a + H2 (j + 1)) < H2 (j + 1) → (T.flatMap fun s => can [s] (j + 1) a bs) = T.flatMap fun s => can [s] j a (bs ++ [48]) ++ can [s] j (a + H2 j) (bs ++ [49]) := fun T => by
            induction T with
            | nil => exact fun _ _ => rfl
            | cons t T ihT =>
              intro ht hc
              rw [ct_cons] at hc
              have n1 := cn1_nn t a (a + H2 (j + 1))
              have n2 := ct_nn T a (a + H2 (j + 1))
              rw [List.flatMap_cons, List.flatMap_cons, ihT (fun u hu => ht u (List.mem_cons_of_mem _ hu)) (by omega)]
              congr 1
              have ht1 := ht t (List.mem_cons_self ..)
              by_cases hz : ct [t] a (a + H2 (j + 1)) = 0
              · rw [can_none hz]
                have hcut := ct_cut (S := [t]) ⟨fun u hu => by rw [List.mem_singleton.mp hu]; exact ht1, List.pairwise_singleton _ _⟩ (a := a) (m := a + H2 j) (e := a + H2 (j + 1)) (by omega) (by omega)
                have m1 := ct_nn [t] a (a + H2 j)
                have m2 := ct_nn [t] (a + H2 j) (a + H2 (j + 1))
                have he : a + H2 j + H2 j = a + H2 (j + 1) := by omega
                rw [can_none (by omega : ct [t] a (a + H2 j) = 0), can_none (by rw [he]; omega)]
                rfl
              · exact can_part hz (by rw [ct_one]; omega)
          have hl := ct_le h.rise (a := a) (e := a + H2 (j + 1)) (by omega)
          exact hle S h.1 (by omega)
        rw [e1]
        exact (inter h (m := a + H2 j) (L := fun s => can [s] j a (bs ++ [48])) (R := fun s => can [s] j (a + H2 j) (bs ++ [49])) (fun s hs => can_none (by rw [ct_one]; unfold cn1; omega)) (fun s hs => can_none (by rw [ct_one]; unfold cn1; omega)))
where
  full {S : List (Int × Int)} (h : Gaps S) (j : Nat) (a : Int) (bs : List Nat) (h1 : ct S a (a + H2 j) = H2 j) : can S j a bs = S.flatMap fun s => can [s] j a bs := by
    have hj := H2_pos j
    obtain ⟨A, s, B, rfl, k1, k2, k3, k4⟩ := ct_full h (a := a) (e := a + H2 j) (by omega) (by omega)
    rw [can_full h1, List.flatMap_append, List.flatMap_cons, flat_nil fun t ht => can_none (by rw [ct_one]; exact k3 t ht), flat_nil fun t ht => can_none (by rw [ct_one]; exact k4 t ht), can_full (by rw [ct_one]; unfold cn1; omega)]
    rfl
  inter {S : List (Int × Int)} {m : Int} {L R : Int × Int → List (List Nat)} (h : Gaps S) (hL : ∀ s, m ≤ s.1 → L s = []) (hR : ∀ s, s.2 ≤ m → R s = []) : S.flatMap L ++ S.flatMap R = S.flatMap fun s => L s ++ R s := by
    induction S with
    | nil => rfl
    | cons s S ih =>
      rw [List.flatMap_cons, List.flatMap_cons, List.flatMap_cons, ← ih h.tail]
      by_cases hs : s.2 ≤ m
      · rw [hR s hs]; simp
      · have : S.flatMap L = [] := flat_nil fun t ht => hL t (by have := (List.pairwise_cons.mp h.2).1 t ht; omega)
        rw [this]; simp
end G
namespace G
open PySem PySem.Spec PyProof.Rows L2 TL
/-! ### the address at which a block begins -/
abbrev beg (bs : List Nat) (j : Nat) : Int := ((wr bs * 2 ^ j : Nat) : Int)
theorem beg0 (bs : List Nat) (j : Nat) : beg (bs ++ [48]) j = beg bs (j + 1) := by
  unfold beg
  rw [wr_snoc, if_neg (by decide), Nat.pow_succ, Nat.add_zero, Nat.mul_comm 2, Nat.mul_assoc, Nat.mul_comm 2]
theorem beg1 (bs : List Nat) (j : Nat) : beg (bs ++ [49]) j = beg bs (j + 1) + H2 j := by
  unfold beg
  rw [wr_snoc, if_pos rfl, Nat.pow_succ, Nat.add_mul, Nat.one_mul, Nat.mul_comm 2, Nat.mul_assoc, Nat.mul_comm 2, Int.natCast_add]
theorem beg_nil (j : Nat) : beg [] j = 0 := by unfold beg; rw [show wr [] = 0 from rfl, Nat.zero_mul]; rfl
/-! ### the leaves without their stars -/
def canB (S : List (Int × Int)) : Nat → Int → List Nat → List (List Nat)
  | 0, a, bs => if ct S a (a + H2 0) = 0 then [] else [bs]
  | j + 1, a, bs => if ct S a (a + H2 (j + 1)) = 0 then [] else if ct S a (a + H2 (j + 1)) = H2 (j + 1) then [bs] else canB S j a (bs ++ [48]) ++ canB S j (a + H2 j) (bs ++ [49])
theorem canB_none {S : List (Int × Int)} {j : Nat} {a : Int} {bs : List Nat} (h : ct S a (a + H2 j) = 0) : canB S j a bs = [] := by
  cases j <;> (unfold canB; rw [if_pos h])
theorem canB_full {S : List (Int × Int)} {j : Nat} {a : Int} {bs : List Nat} (h : ct S a (a + H2 j) = H2 j) : canB S j a bs = [bs] := by
  have := H2_pos j
  cases j with
  | zero => unfold canB; rw [if_neg (by omega)]
  | succ j => unfold canB; rw [if_neg (by omega), if_pos h]
theorem canB_part {S : List (Int × Int)} {j : Nat} {a : Int} {bs : List Nat} (h1 : ct S a (a + H2 (j + 1)) ≠ 0) (h2 : ct S a (a + H2 (j + 1)) ≠ H2 (j + 1)) : canB S (j + 1) a bs = canB S j a (bs ++ [48]) ++ canB S j (a + H2 j) (bs ++ [49]) := by
  conv => lhs; unfold canB
  rw [if_neg h1, if_neg h2]
/-- which of the three -/
theorem can_cases {S : List (Int × Int)} (h : Rise S) {P : Nat → Int → List Nat → Prop} (j : Nat) (a : Int) (bs : List Nat)
    (h0 : ∀ j a bs, ct S a (a + H2 j) = 0 → P j a bs) (h1 : ∀ j a bs, ct S a (a + H2 j) = H2 j → P j a bs)
    (h2 : ∀ j a bs, ct S a (a + H2 (j + 1)) ≠ 0 → ct S a (a + H2 (j + 1)) ≠ H2 (j + 1) → P j a (bs ++ [48]) → P j (a + H2 j) (bs ++ [49]) → P (j + 1) a bs) : P j a bs := by
  induction j generalizing a bs with
  | zero =>
    by_cases e : ct S a (a + H2 0) = 0
    · exact h0 _ _ _ e
    · have l := ct_le h (a := a) (e := a + H2 0) (by rw [H2_zero]; omega)
      have n := ct_nn S a (a + H2 0)
      exact h1 _ _ _ (by have := H2_zero; omega)
  | succ j ih =>
    by_cases e : ct S a (a + H2 (j + 1)) = 0
    · exact h0 _ _ _ e
    · by_cases e2 : ct S a (a + H2 (j + 1)) = H2 (j + 1)
      · exact h1 _ _ _ e2
      · exact h2 _ _ _ e e2 (ih _ _) (ih _ _)
theorem patL_leaf {w j : Nat} {bs : List Nat} (h : bs.length + j = w) : patL w bs = leaf j bs := by
  unfold patL leaf
  by_cases e : j = 0
  · rw [if_neg (by omega), if_pos e, List.append_nil]
  · rw [if_pos (by omega), if_neg e]
theorem can_canB {S : List (Int × Int)} (h : Rise S) {w : Nat} (j : Nat) (a : Int) (bs : List Nat) : bs.length + j = w → can S j a bs = (canB S j a bs).map (patL w) :=
  can_cases h (P := fun j a bs => bs.length + j = w → can S j a bs = (canB S j a bs).map (patL w)) j a bs
    (fun j a bs e _ => by rw [can_none e, canB_none e]; rfl)
    (fun j a bs e hl => by rw [can_full e, canB_full e, List.map_cons, patL_leaf hl]; rfl)
    (fun j a bs e1 e2 i1 i2 hl => by
      rw [can_part e1 e2, canB_part e1 e2, List.map_append, i1 (by rw [List.length_append]; show _ + 1 + _ = _; omega), i2 (by rw [List.length_append]; show _ + 1 + _ = _; omega)])
theorem canB_pre {S : List (Int × Int)} (h : Rise S) (j : Nat) (a : Int) (bs : List Nat) : ∀ x ∈ canB S j a bs, ∃ u, x = bs ++ u ∧ u.length ≤ j ∧ Bits u ∧ (u = [] → ct S a (a + H2 j) = H2 j) :=
  can_cases h (P := fun j a bs => ∀ x ∈ canB S j a bs, ∃ u, x = bs ++ u ∧ u.length ≤ j ∧ Bits u ∧ (u = [] → ct S a (a + H2 j) = H2 j)) j a bs
    (fun j a bs e x hx => by rw [canB_none e] at hx; exact (List.not_mem_nil hx).elim)
    (fun j a bs e x hx => by
      rw [canB_full e] at hx
      rw [List.mem_singleton.mp hx]
      exact ⟨[], (List.append_nil _).symm, Nat.zero_le _, Bits.nil, fun _ => e⟩)
    (fun j a bs e1 e2 i1 i2 x hx => by
      rw [canB_part e1 e2] at hx
      rcases List.mem_append.mp hx with hx | hx
      · obtain ⟨u, rfl, hl, hb, _⟩ := i1 x hx
        exact ⟨48 :: u, by simp, Nat.succ_le_succ hl, (Bits.one (by decide)).app hb, fun z => nomatch z⟩
      · obtain ⟨u, rfl, hl, hb, _⟩ := i2 x hx
        exact ⟨49 :: u, by simp, Nat.succ_le_succ hl, (Bits.one (by decide)).app hb, fun z => nomatch z⟩)
/-- not the two halves of one -/
def NoSib (x y : List Nat) : Prop := ¬ (x.length = y.length ∧ x.dropLast = y.dropLast)
theorem canB_sib {S : List (Int × Int)} (h : Rise S) (j : Nat) (a : Int) (bs : List Nat) : (canB S j a bs).Pairwise NoSib :=
  can_cases h (P := fun j a bs => (canB S j a bs).Pairwise NoSib) j a bs
    (fun j a bs e => by rw [canB_none e]; exact List.Pairwise.nil)
    (fun j a bs e => by rw [canB_full e]; exact List.pairwise_singleton _ _)
    (fun j a bs e1 e2 i1 i2 => by
      rw [canB_part e1 e2]
      refine List.pairwise_append.mpr ⟨i1, i2, fun x hx y hy => ?_⟩
      obtain ⟨u, rfl, hl, _, hu⟩ := canB_pre h _ _ _ x hx
      obtain ⟨v, rfl, hl2, _, hv⟩ := canB_pre h _ _ _ y hy
      rintro ⟨z1, z2⟩
      have hlen : u.length = v.length := by simp at z1; exact z1
      cases u with
      | nil =>
        cases v with
        | nil =>
          have a1 := hu rfl
          have a2 := hv rfl
          have hj := H2_pos j
          have hs := H2_succ j
          have hc := ct_cut h (a := a) (m := a + H2 j) (e := a + H2 (j + 1)) (by omega) (by omega)
          rw [show a + H2 j + H2 j = a + H2 (j + 1) by omega] at a2
          omega
        | cons _ _ => simp at hlen
      | cons c u =>
        cases v with
        | nil => simp at hlen
        | cons d v =>
          rw [List.append_assoc, List.append_assoc, List.dropLast_append_of_ne_nil (by simp), List.dropLast_append_of_ne_nil (by simp), List.dropLast_append_of_ne_nil (by simp)] at z2
          have := List.append_cancel_left z2
          simp at this)
/-! ### the spans of leaves -/
def spB (w : Nat) (x : List Nat) : Int × Int := (beg x (w - x.length), beg x (w - x.length) + H2 (w - x.length))
theorem spB_at {w j : Nat} {bs : List Nat} (h : bs.length + j = w) : spB w bs = (beg bs j, beg bs j + H2 j) := by
  unfold spB
  rw [show w - bs.length = j by omega]
theorem ct_sub {S : List (Int × Int)} (h : Rise S) {a e x y : Int} (h1 : a ≤ x) (h2 : x ≤ y) (h3 : y ≤ e) : ct S a e = ct S a x + ct S x y + ct S y e := by
  rw [ct_cut h (a := a) (m := x) (e := e) h1 (by omega), ct_cut h (a := x) (m := y) (e := e) h2 h3]
  omega
theorem ct_rev {S : List (Int × Int)} {x y : Int} (h : y ≤ x) : ct S x y = 0 := ct_zero.mpr fun s _ => by unfold cn1; omega
theorem ct_canB {S : List (Int × Int)} (h : Rise S) {w : Nat} (j : Nat) (a : Int) (bs : List Nat) : bs.length + j = w → a = beg bs j → ∀ f b, ct ((canB S j a bs).map (spB w)) f b = ct S (max f a) (min b (a + H2 j)) :=
  can_cases h (P := fun j a bs => bs.length + j = w → a = beg bs j → ∀ f b, ct ((canB S j a bs).map (spB w)) f b = ct S (max f a) (min b (a + H2 j))) j a bs
    (fun j a bs e _ _ f b => by
      have hj := H2_pos j
      rw [canB_none e, List.map_nil, ct_nil]
      by_cases hh : max f a ≤ min b (a + H2 j)
      · have := ct_sub h (a := a) (e := a + H2 j) (x := max f a) (y := min b (a + H2 j)) (by omega) hh (by omega)
        have n1 := ct_nn S a (max f a)
        have n2 := ct_nn S (max f a) (min b (a + H2 j))
        have n3 := ct_nn S (min b (a + H2 j)) (a + H2 j)
        omega
      · rw [ct_rev (by omega)])
    (fun j a bs e hl ha f b => by
      have hj := H2_pos j
      rw [canB_full e, List.map_cons, List.map_nil, ct_one, spB_at hl, ← ha]
      unfold cn1
      show max 0 (min b (a + H2 j) - max f a) = _
      by_cases hh : max f a ≤ min b (a + H2 j)
      · have := ct_sub h (a := a) (e := a + H2 j) (x := max f a) (y := min b (a + H2 j)) (by omega) hh (by omega)
        have n1 := ct_le h (a := a) (e := max f a) (by omega)
        have n2 := ct_le h (a := max f a) (e := min b (a + H2 j)) hh
        have n3 := ct_le h (a := min b (a + H2 j)) (e := a + H2 j) (by omega)
        omega
      · rw [ct_rev (by omega)]; omega)
    (fun j a bs e1 e2 i1 i2 hl ha f b => by
      have hj := H2_pos j
      have hs := H2_succ j
      rw [canB_part e1 e2, List.map_append, ct_app, i1 (by rw [List.length_append]; show _ + 1 + _ = _; omega) (by rw [beg0]; exact ha), i2 (by rw [List.length_append]; show _ + 1 + _ = _; omega) (by rw [beg1, ha])]
      rw [show a + H2 j + H2 j = a + H2 (j + 1) by omega]
      by_cases k1 : max f a ≤ min b (a + H2 (j + 1))
      · by_cases k2 : max f a ≤ a + H2 j
        · by_cases k3 : a + H2 j ≤ min b (a + H2 (j + 1))
          · rw [ct_cut h (a := max f a) (m := a + H2 j) (e := min b (a + H2 (j + 1))) k2 k3, show min b (a + H2 j) = a + H2 j by omega, show max f (a + H2 j) = a + H2 j by omega]
          · rw [ct_rev (x := max f (a + H2 j)) (by omega), show min b (a + H2 j) = min b (a + H2 (j + 1)) by omega]
            omega
        · rw [ct_rev (x := max f a) (y := min b (a + H2 j)) (by omega), show max f (a + H2 j) = max f a by omega]
          omega
      · rw [ct_rev (x := max f a) (y := min b (a + H2 j)) (by omega), ct_rev (x := max f (a + H2 j)) (by omega), ct_rev (by omega)]
        omega)
theorem spB_in {S : List (Int × Int)} (h : Rise S) {w : Nat} (j : Nat) (a : Int) (bs : List Nat) : bs.length + j = w → a = beg bs j → ∀ s ∈ (canB S j a bs).map (spB w), a ≤ s.1 ∧ s.1 < s.2 ∧ s.2 ≤ a + H2 j :=
  can_cases h (P := fun j a bs => bs.length + j = w → a = beg bs j → ∀ s ∈ (canB S j a bs).map (spB w), a ≤ s.1 ∧ s.1 < s.2 ∧ s.2 ≤ a + H2 j) j a bs
    (fun j a bs e _ _ s hs => by rw [canB_none e] at hs; exact (List.not_mem_nil hs).elim)
    (fun j a bs e hl ha s hs => by
      have hj := H2_pos j
      rw [canB_full e, List.map_cons, List.map_nil] at hs
      rw [List.mem_singleton.mp hs, spB_at hl, ← ha]
      exact ⟨Int.le_refl _, by show a < a + H2 j; omega, Int.le_refl _⟩)
    (fun j a bs e1 e2 i1 i2 hl ha s hs => by
      have hj := H2_pos j
      have hs2 := H2_succ j
      rw [canB_part e1 e2, List.map_append] at hs
      rcases List.mem_append.mp hs with hs | hs
      · have := i1 (by rw [List.length_append]; show _ + 1 + _ = _; omega) (by rw [beg0]; exact ha) s hs
        omega
      · have := i2 (by rw [List.length_append]; show _ + 1 + _ = _; omega) (by rw [beg1, ha]) s hs
        omega)
theorem spB_rise {S : List (Int × Int)} (h : Rise S) {w : Nat} (j : Nat) (a : Int) (bs : List Nat) : bs.length + j = w → a = beg bs j → Rise ((canB S j a bs).map (spB w)) := fun hl ha =>
  ⟨fun s hs => (spB_in h j a bs hl ha s hs).2.1, can_cases h (P := fun j a bs => bs.length + j = w → a = beg bs j → ((canB S j a bs).map (spB w)).Pairwise fun s t => s.2 ≤ t.1) j a bs
    (fun j a bs e _ _ => by rw [canB_none e]; exact List.Pairwise.nil)
    (fun j a bs e _ _ => by rw [canB_full e]; exact List.pairwise_singleton _ _)
    (fun j a bs e1 e2 i1 i2 hl ha => by
      rw [canB_part e1 e2, List.map_append]
      have l1 : (bs ++ [48]).length + j = w := by rw [List.length_append]; show _ + 1 + _ = _; omega
      have l2 : (bs ++ [49]).length + j = w := by rw [List.length_append]; show _ + 1 + _ = _; omega
      have b1 : a = beg (bs ++ [48]) j := by rw [beg0]; exact ha
      have b2 : a + H2 j = beg (bs ++ [49]) j := by rw [beg1, ha]
      refine List.pairwise_append.mpr ⟨i1 l1 b1, i2 l2 b2, fun s hs t ht => ?_⟩
      have := spB_in h j a _ l1 b1 s hs
      have := spB_in h j _ _ l2 b2 t ht
      omega) hl ha⟩
/-! ### the leaves of both -/
def canM (S : List (Int × Int)) : Nat → Int → List Nat → List (List Nat)
  | 0, _, bs => [bs]
  | j + 1, a, bs => if ct S a (a + H2 (j + 1)) = 0 ∨ ct S a (a + H2 (j + 1)) = H2 (j + 1) then [bs] else canM S j a (bs ++ [48]) ++ canM S j (a + H2 j) (bs ++ [49])
theorem canM_one {S : List (Int × Int)} {j : Nat} {a : Int} {bs : List Nat} (h : ct S a (a + H2 j) = 0 ∨ ct S a (a + H2 j) = H2 j) : canM S j a bs = [bs] := by
  cases j with
  | zero => rfl
  | succ j => unfold canM; rw [if_pos h]
theorem canM_part {S : List (Int × Int)} {j : Nat} {a : Int} {bs : List Nat} (h1 : ct S a (a + H2 (j + 1)) ≠ 0) (h2 : ct S a (a + H2 (j + 1)) ≠ H2 (j + 1)) : canM S (j + 1) a bs = canM S j a (bs ++ [48]) ++ canM S j (a + H2 j) (bs ++ [49]) := by
  conv => lhs; unfold canM
  rw [if_neg (by rintro (h | h); exact h1 h; exact h2 h)]
theorem canM_perm {S R : List (Int × Int)} (h : Rise S) (j : Nat) (a : Int) (bs : List Nat) : (∀ x y, a ≤ x → x ≤ y → y ≤ a + H2 j → ct S x y + ct R x y = y - x) → (canM S j a bs).Perm (canB S j a bs ++ canB R j a bs) :=
  can_cases h (P := fun j a bs => (∀ x y, a ≤ x → x ≤ y → y ≤ a + H2 j → ct S x y + ct R x y = y - x) → (canM S j a bs).Perm (canB S j a bs ++ canB R j a bs)) j a bs
    (fun j a bs e hc => by
      have hj := H2_pos j
      have := hc a (a + H2 j) (Int.le_refl _) (by omega) (Int.le_refl _)
      rw [canM_one (.inl e), canB_none e, canB_full (by omega : ct R a (a + H2 j) = H2 j)]
      exact List.Perm.refl _)
    (fun j a bs e hc => by
      have hj := H2_pos j
      have := hc a (a + H2 j) (Int.le_refl _) (by omega) (Int.le_refl _)
      rw [canM_one (.inr e), canB_full e, canB_none (by omega : ct R a (a + H2 j) = 0)]
      exact List.Perm.refl _)
    (fun j a bs e1 e2 i1 i2 hc => by
      have hj := H2_pos j
      have hs := H2_succ j
      have := hc a (a + H2 (j + 1)) (Int.le_refl _) (by omega) (Int.le_refl _)
      rw [canM_part e1 e2, canB_part e1 e2, canB_part (by omega : ct R a (a + H2 (j + 1)) ≠ 0) (by omega)]
      refine ((i1 fun x y h1 h2 h3 => hc x y h1 h2 (by omega)).append (i2 fun x y h1 h2 h3 => hc x y (by omega) h2 (by omega))).trans ?_
      rw [List.append_assoc, List.append_assoc]
      refine List.Perm.append_left _ ?_
      rw [← List.append_assoc, ← List.append_assoc]
      exact List.Perm.append_right _ List.perm_append_comm)
/-- the one has a 0 where the other has a 1, all alike ahead of it -/
def Apart (x y : List Nat) : Prop := ∃ c u v, x = c ++ 48 :: u ∧ y = c ++ 49 :: v
theorem canM_pre {S : List (Int × Int)} (h : Rise S) (j : Nat) (a : Int) (bs : List Nat) : ∀ x ∈ canM S j a bs, ∃ u, x = bs ++ u ∧ u.length ≤ j ∧ Bits u :=
  can_cases h (P := fun j a bs => ∀ x ∈ canM S j a bs, ∃ u, x = bs ++ u ∧ u.length ≤ j ∧ Bits u) j a bs
    (fun j a bs e x hx => by
      rw [canM_one (.inl e)] at hx
      exact ⟨[], by rw [List.mem_singleton.mp hx, List.append_nil], Nat.zero_le _, Bits.nil⟩)
    (fun j a bs e x hx => by
      rw [canM_one (.inr e)] at hx
      exact ⟨[], by rw [List.mem_singleton.mp hx, List.append_nil], Nat.zero_le _, Bits.nil⟩)
    (fun j a bs e1 e2 i1 i2 x hx => by
      rw [canM_part e1 e2] at hx
      rcases List.mem_append.mp hx with hx | hx
      · obtain ⟨u, rfl, hl, hb⟩ := i1 x hx
        exact ⟨48 :: u, by simp, Nat.succ_le_succ hl, (Bits.one (by decide)).app hb⟩
      · obtain ⟨u, rfl, hl, hb⟩ := i2 x hx
        exact ⟨49 :: u, by simp, Nat.succ_le_succ hl, (Bits.one (by decide)).app hb⟩)
theorem canM_apart {S : List (Int × Int)} (h : Rise S) (j : Nat) (a : Int) (bs : List Nat) : (canM S j a bs).Pairwise Apart :=
  can_cases h (P := fun j a bs => (canM S j a bs).Pairwise Apart) j a bs
    (fun j a bs e => by rw [canM_one (.inl e)]; exact List.pairwise_singleton _ _)
    (fun j a bs e => by rw [canM_one (.inr e)]; exact List.pairwise_singleton _ _)
    (fun j a bs e1 e2 i1 i2 => by
      rw [canM_part e1 e2]
      refine List.pairwise_append.mpr ⟨i1, i2, fun x hx y hy => ?_⟩
      obtain ⟨u, rfl, _⟩ := canM_pre h _ _ _ x hx
      obtain ⟨v, rfl, _⟩ := canM_pre h _ _ _ y hy
      exact ⟨bs, u, v, by simp, by simp⟩)
/-! ### spans one behind the other -/
def Tile : Int → List (Int × Int) → Int → Prop
  | a, [], e => a = e
  | a, s :: T, e => s.1 = a ∧ s.1 < s.2 ∧ Tile s.2 T e
theorem Tile.app : ∀ {T U : List (Int × Int)} {a m e : Int}, Tile a T m → Tile m U e → Tile a (T ++ U) e
  | [], _, _, _, _, h, k => by cases (show _ = _ from h); exact k
  | _ :: _, _, _, _, _, ⟨h1, h2, h3⟩, k => ⟨h1, h2, Tile.app h3 k⟩
theorem Tile.le : ∀ {T : List (Int × Int)} {a e : Int}, Tile a T e → a ≤ e
  | [], _, _, h => Int.le_of_eq h
  | _ :: _, _, _, ⟨h1, h2, h3⟩ => by have := h3.le; omega
theorem Tile.mem : ∀ {T : List (Int × Int)} {a e : Int}, Tile a T e → ∀ s ∈ T, a ≤ s.1 ∧ s.1 < s.2 ∧ s.2 ≤ e
  | s :: T, a, e, ⟨h1, h2, h3⟩, t, ht => by
    rcases List.mem_cons.mp ht with rfl | ht
    · exact ⟨by omega, h2, h3.le⟩
    · have := h3.mem t ht
      omega
theorem Tile.rise : ∀ {T : List (Int × Int)} {a e : Int}, Tile a T e → Rise T
  | [], _, _, _ => ⟨fun _ h => (List.not_mem_nil h).elim, List.Pairwise.nil⟩
  | s :: T, a, e, h@⟨h1, h2, h3⟩ => ⟨fun t ht => (h.mem t ht).2.1, List.pairwise_cons.mpr ⟨fun t ht => (h3.mem t ht).1, h3.rise.2⟩⟩
theorem Tile.ct : ∀ {T : List (Int × Int)} {a e : Int}, Tile a T e → ∀ x y, ct T x y = max 0 (min y e - max x a)
  | [], a, e, h, x, y => by cases (show _ = _ from h); rw [ct_nil]; omega
  | s :: T, a, e, ⟨h1, h2, h3⟩, x, y => by
    rw [ct_cons, h3.ct]
    have := h3.le
    unfold cn1
    omega
theorem Tile.sum : ∀ {T : List (Int × Int)} {a e : Int}, Tile a T e → (T.map fun s => s.2 - s.1).sum = e - a
  | [], a, e, h => by cases (show _ = _ from h); exact (Int.sub_self _).symm
  | s :: T, a, e, ⟨h1, h2, h3⟩ => by rw [List.map_cons, List.sum_cons, h3.sum]; omega
theorem canM_tile {S : List (Int × Int)} (h : Rise S) {w : Nat} (j : Nat) (a : Int) (bs : List Nat) : bs.length + j = w → a = beg bs j → Tile a ((canM S j a bs).map (spB w)) (a + H2 j) := by
  have one : ∀ (j : Nat) (a : Int) (bs : List Nat), bs.length + j = w → a = beg bs j → Tile a ([bs].map (spB w)) (a + H2 j) := fun j a bs hl ha => by
    rw [List.map_cons, spB_at hl, ← ha]
    exact ⟨rfl, by have := H2_pos j; show a < a + H2 j; omega, rfl⟩
  exact can_cases h (P := fun j a bs => bs.length + j = w → a = beg bs j → Tile a ((canM S j a bs).map (spB w)) (a + H2 j)) j a bs
    (fun j a bs e hl ha => by rw [canM_one (.inl e)]; exact one j a bs hl ha)
    (fun j a bs e hl ha => by rw [canM_one (.inr e)]; exact one j a bs hl ha)
    (fun j a bs e1 e2 i1 i2 hl ha => by
      have hs := H2_succ j
      rw [canM_part e1 e2, List.map_append]
      have k2 := i2 (by rw [List.length_append]; show _ + 1 + _ = _; omega) (by rw [beg1, ha])
      rw [show a + H2 j + H2 j = a + H2 (j + 1) by omega] at k2
      exact (i1 (by rw [List.length_append]; show _ + 1 + _ = _; omega) (by rw [beg0]; exact ha)).app k2)
end G
/-! Plain laws: what many laws' texts share. -/
namespace G
open PySem PySem.Spec PyProof.Rows L2 TL
def spanL (w : Nat) (bs : List Nat) : Nat × Nat := (wr bs * 2 ^ (w - bs.length), (wr bs + 1) * 2 ^ (w - bs.length))
theorem notF {α : Type} {a b : α} : (if (!false) = true then a else b) = a := rfl
theorem bin_wr {bs : List Nat} (h : Bits bs) : bin bs.length (wr bs) = bs :=
  wr_inj (bin_bits _ _) h (bin_len _ _) (by rw [wr_bin, Nat.mod_eq_of_lt (wr_lt bs)])
/-! ### the widest block from an address on -/
theorem shlI_w {w J : Nat} (h : J ≤ 60) : shlI (1 : Int) ((w : Int) - ((w : Int) - (J : Int))) = some (H2 J) := by
  rw [show (w : Int) - ((w : Int) - (J : Int)) = (J : Nat) by omega]
  exact shlI_one (by omega)
theorem mod_up {a : Int} {j k : Nat} (h : a % H2 k = 0) (hk : j ≤ k) : a % H2 j = 0 := by
  obtain ⟨d, rfl⟩ := Nat.exists_eq_add_of_le hk
  have : H2 (j + d) = H2 j * H2 d := by show ((2 ^ (j + d) : Nat) : Int) = _; rw [Nat.pow_add, Int.natCast_mul]
  rw [this] at h
  exact Int.emod_eq_zero_of_dvd (Int.dvd_trans (Int.dvd_mul_right _ _) (Int.dvd_of_emod_eq_zero h))
theorem H2_mono {j k : Nat} (h : j ≤ k) : H2 j ≤ H2 k := Int.ofNat_le.mpr (Nat.pow_le_pow_right (by decide) h)
theorem beg_mod (bs : List Nat) (j : Nat) : beg bs j % H2 j = 0 := by
  unfold beg
  rw [Int.natCast_mul]
  exact Int.mul_emod_left _ _
theorem appL_some {α : Type} {l : List α} {x : α} (h : l.length ≤ 1000000) : appL l x = some (l ++ [x]) := by unfold appL; rw [if_pos (by rw [sizeLine_eq]; omega)]
theorem setL_last {α : Type} (F : List α) (x y : α) : setL (F ++ [x]) (-1) y = some (F ++ [y]) := by
  unfold setL ixN
  rw [List.length_append]
  show Option.map _ (if (0 : Int) ≤ -1 then _ else if -((F.length + 1 : Nat) : Int) ≤ -1 then _ else none) = _
  rw [if_neg (by omega), if_pos (by omega)]
  show some ((F ++ [x]).set (-1 + ((F.length + 1 : Nat) : Int)).toNat y) = _
  rw [show (-1 + ((F.length + 1 : Nat) : Int)).toNat = F.length by omega, List.set_append_right _ _ (Nat.le_refl _), Nat.sub_self]
  rfl
theorem gaps_snoc {F : List (Int × Int)} {x : Int × Int} (h : Gaps F) (hx : x.1 < x.2) (hb : ∀ s ∈ F, s.2 < x.1) : Gaps (F ++ [x]) :=
  ⟨fun s hs => (List.mem_append.mp hs).elim (h.1 s) fun e => by rw [List.mem_singleton.mp e]; exact hx,
   List.pairwise_append.mpr ⟨h.2, List.pairwise_singleton _ _, fun s hs t ht => by rw [List.mem_singleton.mp ht]; exact hb s hs⟩⟩
/-! ### drawn stretches -/
theorem rangeL_succ (n : Int) (k : Nat) : rangeL n (k + 1) = n :: rangeL (n + 1) k := by
  unfold rangeL
  rw [List.range_succ_eq_map, List.map_cons, List.map_map]
  congr 1
  · omega
  · refine List.map_congr_left fun i _ => ?_
    show n + ((i + 1 : Nat) : Int) = n + 1 + (i : Nat)
    omega
theorem ins_len (k : Int) : ∀ l : List Int, (ins k l).length ≤ l.length + 1
  | [] => Nat.le_refl _
  | x :: l => by
    unfold ins
    split
    · exact Nat.le_refl _
    · split
      · exact Nat.le_succ _
      · exact Nat.succ_le_succ (ins_len k l)
theorem ssort_len : ∀ l : List Int, (ssort l).length ≤ l.length
  | [] => Nat.le_refl _
  | x :: l => Nat.le_trans (ins_len x (ssort l)) (Nat.succ_le_succ (ssort_len l))
theorem rangeL_add : ∀ (a : Nat) (n : Int) (c : Nat), rangeL n (a + c) = rangeL n a ++ rangeL (n + (a : Nat)) c
  | 0, n, c => by
    rw [Nat.zero_add, show n + ((0 : Nat) : Int) = n by omega]
    rfl
  | a + 1, n, c => by
    rw [show a + 1 + c = (a + c) + 1 by omega, rangeL_succ, rangeL_succ, rangeL_add a (n + 1) c, List.cons_append, show n + 1 + (a : Nat) = n + ((a + 1 : Nat) : Int) by omega]
theorem map_tl_inj : ∀ {xs ys : List Str}, xs.map tl = ys.map tl → xs = ys
  | [], [], _ => rfl
  | [], _ :: _, h => nomatch h
  | _ :: _, [], h => nomatch h
  | x :: xs, y :: ys, h => by
    obtain ⟨h1, h2⟩ := List.cons.inj h
    rw [tl_inj h1, map_tl_inj h2]
/-! ### spans of patterns, by their texts -/
def bsOf (x : Str) : List Nat := (tl x).takeWhile isB
theorem bsOf_pat {w : Nat} {bs : List Nat} {x : Str} (p : Pat w bs x) : bsOf x = bs := by
  unfold bsOf
  rw [p.eq, patL]
  have h : ∀ (l r : List Nat), Bits l → (∀ c, r.head? = some c → isB c = false) → (l ++ r).takeWhile isB = l := by
    intro l r hl hr
    induction l with
    | nil => exact tw0 r hr
    | cons c l ih =>
      show List.takeWhile isB (c :: (l ++ r)) = _
      rw [List.takeWhile_cons, if_pos (hl c (List.mem_cons_self ..)), ih fun d hd => hl d (List.mem_cons_of_mem _ hd)]
  refine h bs _ p.bits fun c hc => ?_
  split at hc
  · have : c = 42 := (Option.some.inj hc).symm
    subst this
    decide
  · cases hc
def spI (w : Nat) (x : Str) : Int × Int := (((spanL w (bsOf x)).1 : Int), ((spanL w (bsOf x)).2 : Int))
def IsPat (w : Nat) (x : Str) : Prop := ∃ bs, Pat w bs x
theorem spI_ok {w : Nat} {x : Str} (p : IsPat w x) : 0 ≤ (spI w x).1 ∧ (spI w x).1 < (spI w x).2 ∧ (spI w x).2 ≤ ((2 ^ w : Nat) : Int) := by
  obtain ⟨bs, p⟩ := p
  unfold spI
  rw [bsOf_pat p]
  have h1 := wr_lt bs
  have hle := p.le
  have h2 : 2 ^ bs.length * 2 ^ (w - bs.length) = 2 ^ w := by rw [← Nat.pow_add]; congr 1; omega
  have h3 : (wr bs + 1) * 2 ^ (w - bs.length) ≤ 2 ^ bs.length * 2 ^ (w - bs.length) := Nat.mul_le_mul_right _ h1
  have h4 : 0 < 2 ^ (w - bs.length) := Nat.two_pow_pos _
  refine ⟨Int.natCast_nonneg _, ?_, ?_⟩
  · show ((wr bs * 2 ^ (w - bs.length) : Nat) : Int) < (((wr bs + 1) * 2 ^ (w - bs.length) : Nat) : Int)
    rw [Nat.add_mul, Nat.one_mul]
    omega
  · show (((wr bs + 1) * 2 ^ (w - bs.length) : Nat) : Int) ≤ _
    omega
/-! ### edges -/
def flat2 (S : List (Int × Int)) : List Int := S.flatMap fun s => [s.1, s.2]
theorem mem_flat2 {S : List (Int × Int)} {k : Int} : k ∈ flat2 S ↔ ∃ s ∈ S, k = s.1 ∨ k = s.2 := by
  unfold flat2
  simp [List.mem_flatMap]
theorem flat2_len (S : List (Int × Int)) : (flat2 S).length = 2 * S.length := by
  induction S with
  | nil => rfl
  | cons s S ih =>
    show ([s.1, s.2] ++ flat2 S).length = _
    rw [List.length_append, ih]
    show 2 + 2 * S.length = 2 * (S.length + 1)
    omega
/-- neighbours -/
def prsL : List Int → List (Int × Int)
  | x :: y :: r => (x, y) :: prsL (y :: r)
  | _ => []
theorem zip_prs : ∀ l : List Int, List.zip l (l.drop 1) = prsL l
  | [] => rfl
  | [_] => rfl
  | x :: y :: r => by
    show (x, y) :: List.zip (y :: r) r = _
    have := zip_prs (y :: r)
    exact congrArg _ this
def edgesOf (w : Nat) (S : List (Int × Int)) : List Int := ssort ([0, ((2 ^ w : Nat) : Int)] ++ flat2 S)
/-! ### what stands in which -/
def hereL (S : List (Int × Int)) (f b : Int) : List Bool := S.map fun s => (decide (s.1 ≤ f)) && (decide (b ≤ s.2))
def apartL (S : List (Int × Int)) (f b : Int) : List Bool := S.map fun s => (decide (b ≤ s.1)) || (decide (s.2 ≤ f))
/-- no edge lies between -/
def Gap (S : List (Int × Int)) (f b : Int) : Prop := f < b ∧ ∀ s ∈ S, s.1 < s.2 ∧ (s.1 ≤ f ∨ b ≤ s.1) ∧ (s.2 ≤ f ∨ b ≤ s.2)
/-- at an edge what stands changes -/
theorem here_ne {S : List (Int × Int)} {p e b : Int} (g1 : Gap S p e) (g2 : Gap S e b) (he : ∃ s ∈ S, e = s.1 ∨ e = s.2) : hereL S e b ≠ hereL S p e := by
  obtain ⟨s, hs, h⟩ := he
  intro z
  have := List.map_eq_map_iff.mp z s hs
  rw [Bool.eq_iff_iff, Bool.and_eq_true, Bool.and_eq_true, decide_eq_true_iff, decide_eq_true_iff, decide_eq_true_iff, decide_eq_true_iff] at this
  obtain ⟨f1, k1⟩ := g1
  obtain ⟨f2, k2⟩ := g2
  obtain ⟨a1, a2, a3⟩ := k1 s hs
  obtain ⟨b1, b2, b3⟩ := k2 s hs
  omega
def El (S : List (Int × Int)) (e : Int) (o : Option (List Bool)) : Prop := o = none ∨ ∃ p, Gap S p e ∧ o = some (hereL S p e) ∧ ∃ s ∈ S, e = s.1 ∨ e = s.2
theorem El.ne {S : List (Int × Int)} {e b : Int} {o : Option (List Bool)} (h : El S e o) (g : Gap S e b) : some (hereL S e b) ≠ o := by
  rcases h with rfl | ⟨p, g1, rfl, hs⟩
  · exact fun z => nomatch z
  · exact fun z => here_ne g1 g hs (Option.some.inj z)
theorem rangeO_len {n : Nat} (h : n ≤ 16777216) : rangeO1 (n : Int) = some (rangeL 0 n) := by
  unfold rangeO1
  rw [if_pos ⟨by omega, by rw [sizeLine_eq]; omega⟩, Int.toNat_natCast]
theorem mem_rangeL {n : Nat} {k : Int} (h : k ∈ rangeL 0 n) : 0 ≤ k ∧ k < (n : Nat) := by
  unfold rangeL at h
  obtain ⟨i, hi, rfl⟩ := List.mem_map.mp h
  have := List.mem_range.mp hi
  omega
/-! ### the edges of a row of spans -/
structure SpOk (w : Nat) (S : List (Int × Int)) : Prop where
  ok : ∀ s ∈ S, 0 ≤ s.1 ∧ s.1 < s.2 ∧ s.2 ≤ ((2 ^ w : Nat) : Int)
theorem prs_adj : ∀ {l : List Int} {f b : Int}, l.Pairwise (· < ·) → (f, b) ∈ prsL l → f < b ∧ ∀ x ∈ l, x ≤ f ∨ b ≤ x
  | [], _, _, _, h => nomatch h
  | [_], _, _, _, h => nomatch h
  | x :: y :: r, f, b, hp, h => by
    obtain ⟨h1, h2⟩ := List.pairwise_cons.mp hp
    rcases List.mem_cons.mp (show (f, b) ∈ (x, y) :: prsL (y :: r) from h) with e | h
    · have e1 : f = x := congrArg Prod.fst e
      have e2 : b = y := congrArg Prod.snd e
      subst e1 e2
      refine ⟨h1 b (List.mem_cons_self ..), fun z hz => ?_⟩
      rcases List.mem_cons.mp hz with rfl | hz
      · exact .inl (Int.le_refl _)
      · rcases List.mem_cons.mp hz with rfl | hz
        · exact .inr (Int.le_refl _)
        · have := (List.pairwise_cons.mp h2).1 z hz
          exact .inr (by omega)
    · obtain ⟨k1, k2⟩ := prs_adj h2 h
      have hf : f ∈ y :: r := prs_mem h
      have hxf := h1 f hf
      refine ⟨k1, fun z hz => ?_⟩
      rcases List.mem_cons.mp hz with rfl | hz
      · exact .inl (by omega)
      · exact k2 z hz
where
  prs_mem : ∀ {l : List Int} {f b : Int}, (f, b) ∈ prsL l → f ∈ l
    | [], _, _, h => nomatch h
    | [_], _, _, h => nomatch h
    | x :: y :: r, f, b, h => by
      rcases List.mem_cons.mp (show (f, b) ∈ (x, y) :: prsL (y :: r) from h) with e | h
      · have e1 : f = x := congrArg Prod.fst e
        subst e1
        exact List.mem_cons_self ..
      · exact List.mem_cons_of_mem _ (prs_mem h)
theorem edges_facts {w : Nat} {S : List (Int × Int)} (h : SpOk w S) : ∃ l, edgesOf w S = 0 :: l ∧ (∀ q ∈ prsL (0 :: l), Gap S q.1 q.2) ∧ (∀ k ∈ l.dropLast, ∃ s ∈ S, k = s.1 ∨ k = s.2) ∧ (0 :: l).getLast? = some ((2 ^ w : Nat) : Int) ∧ l ≠ [] := by
  have hs := ssort_sorted ([0, ((2 ^ w : Nat) : Int)] ++ flat2 S)
  have hm : ∀ k, k ∈ edgesOf w S ↔ k = 0 ∨ k = ((2 ^ w : Nat) : Int) ∨ ∃ s ∈ S, k = s.1 ∨ k = s.2 := fun k => by
    unfold edgesOf
    rw [ssort_mem, List.mem_append, mem_flat2]
    simp only [List.mem_cons, List.not_mem_nil, or_false, or_assoc]
  have hW : (0 : Int) < ((2 ^ w : Nat) : Int) := by have := Nat.two_pow_pos w; omega
  have hlo : ∀ k ∈ edgesOf w S, 0 ≤ k ∧ k ≤ ((2 ^ w : Nat) : Int) := fun k hk => by
    rcases (hm k).mp hk with rfl | rfl | ⟨s, hs, rfl | rfl⟩
    · omega
    · omega
    · have := h.ok s hs; omega
    · have := h.ok s hs; omega
  change (edgesOf w S).Pairwise (· < ·) at hs
  have h0 := (hm 0).mpr (.inl rfl)
  have hWm := (hm ((2 ^ w : Nat) : Int)).mpr (.inr (.inl rfl))
  generalize edgesOf w S = E at hs hm hlo h0 hWm
  cases E with
  | nil => cases h0
  | cons x l =>
    obtain ⟨s1, s2⟩ := List.pairwise_cons.mp hs
    have ex : x = 0 := by
      rcases List.mem_cons.mp h0 with e | e
      · exact e.symm
      · have := s1 0 e
        have := hlo x (List.mem_cons_self ..)
        omega
    subst ex
    have hne : l ≠ [] := fun e => by
      subst e
      have := List.mem_singleton.mp hWm
      omega
    have hlast : (0 :: l).getLast? = some ((2 ^ w : Nat) : Int) := by
      obtain ⟨m, z, rfl⟩ : ∃ m z, l = m ++ [z] := ⟨l.dropLast, l.getLast hne, (List.dropLast_concat_getLast hne).symm⟩
      have hz : z = ((2 ^ w : Nat) : Int) := by
        rcases List.mem_cons.mp hWm with e | e
        · omega
        · rcases List.mem_append.mp e with e | e
          · have h3 := (List.pairwise_append.mp s2).2.2 _ e z (List.mem_singleton.mpr rfl)
            have := hlo z (List.mem_cons_of_mem _ (List.mem_append.mpr (.inr (List.mem_singleton.mpr rfl))))
            omega
          · exact (List.mem_singleton.mp e).symm
      subst hz
      rw [← List.cons_append]
      exact List.getLast?_concat
    refine ⟨l, rfl, fun q hq => ?_, fun k hk => ?_, hlast, hne⟩
    · obtain ⟨k1, k2⟩ := prs_adj hs hq
      exact ⟨k1, fun s hs2 => ⟨(h.ok s hs2).2.1, k2 s.1 ((hm s.1).mpr (.inr (.inr ⟨s, hs2, .inl rfl⟩))), k2 s.2 ((hm s.2).mpr (.inr (.inr ⟨s, hs2, .inr rfl⟩)))⟩⟩
    · rcases (hm k).mp (List.mem_cons_of_mem _ (List.dropLast_subset _ hk)) with rfl | rfl | e
      · have := s1 0 (List.dropLast_subset _ hk); omega
      · exfalso
        obtain ⟨m, z, rfl⟩ : ∃ m z, l = m ++ [z] := ⟨l.dropLast, l.getLast hne, (List.dropLast_concat_getLast hne).symm⟩
        rw [List.dropLast_concat] at hk
        have h3 := (List.pairwise_append.mp s2).2.2 _ hk z (List.mem_singleton.mpr rfl)
        have := hlo z (List.mem_cons_of_mem _ (List.mem_append.mpr (.inr (List.mem_singleton.mpr rfl))))
        omega
      · exact e
theorem spOk {w : Nat} {ps : List Str} (h : ∀ p ∈ ps, IsPat w p) : SpOk w (ps.map (spI w)) := ⟨fun s hs => by
  obtain ⟨p, hp, rfl⟩ := List.mem_map.mp hs
  exact spI_ok (h p hp)⟩
theorem prs_len : ∀ l : List Int, (prsL l).length ≤ l.length
  | [] => Nat.le_refl _
  | [_] => Nat.zero_le _
  | x :: y :: r => by
    show (prsL (y :: r)).length + 1 ≤ (y :: r).length + 1
    exact Nat.succ_le_succ (prs_len (y :: r))
end G
/-! Plain laws: patterns written out of signs; sorted texts; tiles and parts. -/
namespace G
open PySem PySem.Spec PyProof.Rows L2 TL
theorem conL_some {α : Type} {a b : List α} (h : a.length + b.length ≤ 1000000) : conL a b = some (a ++ b) := by unfold conL; rw [if_pos (by rw [sizeLine_eq]; omega)]
section
variable {α β γ R T : Type} {g : R → Option T}
theorem bL0_go {f : Option T} : bindL0 (some (.go ())) f g = f := rfl
theorem bL1_go {f : α → Option T} {a : α} : bindL1 (some (.go a)) f g = f a := rfl
theorem bL2_go {f : α → β → Option T} {a : α} {b : β} : bindL2 (some (.go (a, b))) f g = f a b := rfl
theorem bL3_go {f : α → β → γ → Option T} {a : α} {b : β} {c : γ} : bindL3 (some (.go (a, b, c))) f g = f a b c := rfl
end
theorem shlI_H {k : Nat} (h : k ≤ 1000000) : shlI 1 (k : Int) = some (H2 k) := shlI_one h
theorem rangeO_1 {n : Nat} (h : n ≤ 1000000) : rangeO (1 : Int) ((n : Nat) : Int) = some (rangeL 1 (n - 1)) := by
  unfold rangeO
  rw [if_pos ⟨by omega, by rw [sizeLine_eq]; omega⟩, show (((n : Nat) : Int) - 1).toNat = n - 1 by omega]
theorem mem_range1 {n : Nat} {k : Int} (h : k ∈ rangeL 1 (n - 1)) : ∃ i : Nat, k = ((i + 1 : Nat) : Int) ∧ i + 1 < n := by
  unfold rangeL at h
  obtain ⟨i, hi, rfl⟩ := List.mem_map.mp h
  have := List.mem_range.mp hi
  exact ⟨i, by omega, by omega⟩
/-- texts that write the patterns of some signs -/
structure Pats (w : Nat) (us : List (List Nat)) (ys : List Str) : Prop where
  eq : ys.map tl = us.map (patL w)
  ok : ∀ u ∈ us, Bits u ∧ u.length ≤ w
theorem Pats.app {w : Nat} {us vs : List (List Nat)} {ys zs : List Str} (h : Pats w us ys) (k : Pats w vs zs) : Pats w (us ++ vs) (ys ++ zs) :=
  ⟨by rw [List.map_append, List.map_append, h.eq, k.eq], fun u hu => (List.mem_append.mp hu).elim (h.ok u) (k.ok u)⟩
theorem Pats.len {w : Nat} {us : List (List Nat)} {ys : List Str} (h : Pats w us ys) : ys.length = us.length := by
  have := congrArg List.length h.eq
  rwa [List.length_map, List.length_map] at this
theorem Pats.tail {w : Nat} {u : List Nat} {us : List (List Nat)} {y : Str} {ys : List Str} (h : Pats w (u :: us) (y :: ys)) : Pat w u y ∧ Pats w us ys := by
  have e := h.eq
  rw [List.map_cons, List.map_cons] at e
  obtain ⟨e1, e2⟩ := List.cons.inj e
  have := h.ok u (List.mem_cons_self ..)
  exact ⟨⟨this.1, this.2, e1⟩, e2, fun v hv => h.ok v (List.mem_cons_of_mem _ hv)⟩
theorem Pats.rec_ {w : Nat} {P : List (List Nat) → List Str → Prop} (h0 : P [] []) (h1 : ∀ u us y ys, Pat w u y → Pats w us ys → P us ys → P (u :: us) (y :: ys)) : ∀ {us ys}, Pats w us ys → P us ys
  | [], [], _ => h0
  | [], _ :: _, h => nomatch h.len
  | _ :: _, [], h => nomatch h.len
  | u :: us, y :: ys, h => h1 u us y ys h.tail.1 h.tail.2 (Pats.rec_ h0 h1 h.tail.2)
theorem Pats.each {w : Nat} {us : List (List Nat)} {ys : List Str} (h : Pats w us ys) : ∀ y ∈ ys, IsPat w y :=
  Pats.rec_ (P := fun us ys => ∀ y ∈ ys, IsPat w y) (fun _ h => nomatch h) (fun u us y ys p _ ih z hz => by
    rcases List.mem_cons.mp hz with rfl | hz
    · exact ⟨u, p⟩
    · exact ih z hz) h
theorem spI_spB {w : Nat} {u : List Nat} {y : Str} (p : Pat w u y) : spI w y = spB w u := by
  unfold spI spB spanL
  rw [bsOf_pat p]
  refine Prod.ext rfl ?_
  show (((wr u + 1) * 2 ^ (w - u.length) : Nat) : Int) = ((wr u * 2 ^ (w - u.length) : Nat) : Int) + ((2 ^ (w - u.length) : Nat) : Int)
  rw [Nat.add_mul, Nat.one_mul, Int.natCast_add]
theorem Pats.spans {w : Nat} {us : List (List Nat)} {ys : List Str} (h : Pats w us ys) : ys.map (spI w) = us.map (spB w) :=
  Pats.rec_ (P := fun us ys => ys.map (spI w) = us.map (spB w)) rfl (fun u us y ys p _ ih => by rw [List.map_cons, List.map_cons, ih, spI_spB p]) h
theorem Pats.strip {w : Nat} {us : List (List Nat)} {ys : List Str} (h : Pats w us ys) : (ys.map fun y => Txt.stripChars y ("*" : Str)).map tl = us :=
  Pats.rec_ (P := fun us ys => (ys.map fun y => Txt.stripChars y ("*" : Str)).map tl = us) rfl (fun u us y ys p _ ih => by rw [List.map_cons, List.map_cons, ih, p.strip]) h
/-- the leaves of all addresses -/
theorem canB_root {S : List (Int × Int)} (h : Rise S) (w : Nat) : ∀ u ∈ canB S w 0 [], Bits u ∧ u.length ≤ w := fun u hu => by
  obtain ⟨v, rfl, h1, h2, _⟩ := canB_pre h w 0 [] u hu
  exact ⟨h2, h1⟩
theorem can_pats {S : List (Int × Int)} (h : Rise S) {w : Nat} {ys : List Str} (e : ys.map tl = can S w 0 []) : Pats w (canB S w 0 []) ys :=
  ⟨by rw [e, can_canB h w 0 [] (Nat.zero_add w)], canB_root h w⟩
theorem can_len0 {S : List (Int × Int)} (h : Rise S) (w : Nat) : (can S w 0 []).length ≤ 1 + w * (2 * S.length) := by
  have h1 := can_len h w 0 []
  exact Nat.le_trans h1 (Nat.add_le_add_left (Nat.mul_le_mul_left _ (ends_le _ _ _)) 1)
/-! ### sorted texts -/
theorem Apart.le {x y : List Nat} (h : Apart x y) : x ≤ y := by
  obtain ⟨c, u, v, rfl, rfl⟩ := h
  refine List.le_of_lt ?_
  induction c with
  | nil => exact List.Lex.rel (by decide)
  | cons a c ih => exact List.Lex.cons ih
theorem Apart.take {x y : List Nat} (h : Apart x y) : y.take x.length ≠ x := by
  obtain ⟨c, u, v, rfl, rfl⟩ := h
  intro e
  have h1 : (c ++ 49 :: v).take (c ++ 48 :: u).length = c ++ (49 :: v).take (u.length + 1) := by
    rw [List.length_append, List.take_length_add_append]
    rfl
  rw [h1] at e
  have := List.append_cancel_left e
  rw [List.take_succ_cons] at this
  exact absurd (List.cons.inj this).1 (by decide)
theorem sortT_map {L : List Str} {C : List (List Nat)} (hp : (L.map tl).Perm C) (hs : C.Pairwise fun a b => a ≤ b) : (sortT L).map tl = C := by
  have h1 : ((sortT L).map tl).Perm C := ((sortT_perm L).map tl).trans hp
  have h2 : ((sortT L).map tl).Pairwise fun a b => a ≤ b := List.pairwise_map.mpr ((sortT_sorted L).imp fun h => of_decide_eq_true h)
  exact h1.eq_of_pairwise (le := fun a b => a ≤ b) (fun a b _ _ h3 h4 => List.le_antisymm h3 h4) h2 hs
/-! ### tiles -/
theorem Tile.sortP {T U : List (Int × Int)} {a e : Int} (h : Tile a T e) (hp : T.Perm U) : sortP U = T :=
  sortP_uniq hp (h.rise.2.imp_of_mem fun {s t} hs ht k => decide_eq_true (.inl (by have := (h.mem s hs).2.1; omega)))
theorem Tile.prs : ∀ {T : List (Int × Int)} {a e : Int}, Tile a T e → prsL (a :: T.map (·.2)) = T
  | [], _, _, _ => rfl
  | [s], a, e, ⟨h1, h2, h3⟩ => by
    show [(a, s.2)] = [s]
    rw [← h1]
  | s :: t :: T, a, e, ⟨h1, h2, h3⟩ => by
    show (a, s.2) :: prsL (s.2 :: (t :: T).map (·.2)) = _
    rw [Tile.prs h3, ← h1]
theorem Tile.ends_mem : ∀ {T : List (Int × Int)} {a e k : Int}, Tile a T e → (k ∈ a :: T.map (·.2) ↔ k = a ∨ k = e ∨ ∃ s ∈ T, k = s.1 ∨ k = s.2)
  | [], a, e, k, h => by
    cases (show _ = _ from h)
    simp
  | s :: T, a, e, k, ⟨h1, h2, h3⟩ => by
    have ih := Tile.ends_mem (k := k) h3
    rw [List.map_cons]
    constructor
    · intro h
      rcases List.mem_cons.mp h with rfl | h
      · exact .inl rfl
      · rcases ih.mp h with rfl | rfl | ⟨t, ht, hk⟩
        · exact .inr (.inr ⟨s, List.mem_cons_self .., .inr rfl⟩)
        · exact .inr (.inl rfl)
        · exact .inr (.inr ⟨t, List.mem_cons_of_mem _ ht, hk⟩)
    · rintro (rfl | rfl | ⟨t, ht, hk⟩)
      · exact List.mem_cons_self ..
      · exact List.mem_cons_of_mem _ (ih.mpr (.inr (.inl rfl)))
      · rcases List.mem_cons.mp ht with rfl | ht
        · rcases hk with rfl | rfl
          · rw [h1]; exact List.mem_cons_self ..
          · exact List.mem_cons_of_mem _ (List.mem_cons_self ..)
        · exact List.mem_cons_of_mem _ (ih.mpr (.inr (.inr ⟨t, ht, hk⟩)))
theorem Tile.sorted : ∀ {T : List (Int × Int)} {a e : Int}, Tile a T e → (a :: T.map (·.2)).Pairwise (· < ·)
  | [], a, e, _ => List.pairwise_singleton _ _
  | s :: T, a, e, ⟨h1, h2, h3⟩ => by
    have ih := Tile.sorted h3
    refine List.pairwise_cons.mpr ⟨fun k hk => ?_, ih⟩
    rw [List.map_cons] at hk
    rcases List.mem_cons.mp hk with rfl | hk
    · omega
    · have := (List.pairwise_cons.mp ih).1 k hk
      omega
/-- the parts of tiles are the tiles -/
theorem Tile.parts {T U : List (Int × Int)} {w : Nat} (h : Tile 0 T (H2 w)) (hp : ∀ s, s ∈ U ↔ s ∈ T) : prsL (edgesOf w U) = T := by
  have e : edgesOf w U = 0 :: T.map (·.2) := by
    unfold edgesOf
    refine ssort_uniq h.sorted fun k => ?_
    rw [h.ends_mem, List.mem_append, mem_flat2]
    simp only [List.mem_cons, List.not_mem_nil, or_false, or_assoc, hp]
  rw [e, h.prs]
/-! ### the one leaf of all -/
theorem can_all {S : List (Int × Int)} {w : Nat} (h : ct S 0 (0 + H2 w) = H2 w) (hw : 1 ≤ w) : can S w 0 [] = [[42]] := by
  rw [can_full h]
  unfold leaf
  rw [if_neg (by omega)]
  rfl
theorem star_eq {ys : List Str} (h : ys.map tl = [[42]]) : ys = [("*" : Str)] := map_tl_inj (by rw [h, List.map_cons, tlStar]; rfl)
theorem Tile.all {T : List (Int × Int)} {w : Nat} (h : Tile 0 T (H2 w)) : G.ct T 0 (0 + H2 w) = H2 w := by
  rw [h.ct]
  have := H2_pos w
  omega
theorem prs_tile : ∀ {l : List Int} {a z : Int}, (a :: l).Pairwise (· < ·) → (a :: l).getLast? = some z → Tile a (prsL (a :: l)) z
  | [], a, z, _, hz => Option.some.inj hz
  | b :: l, a, z, hp, hz => by
    obtain ⟨h1, h2⟩ := List.pairwise_cons.mp hp
    refine ⟨rfl, h1 b (List.mem_cons_self ..), prs_tile h2 ?_⟩
    rw [List.getLast?_cons_cons] at hz
    exact hz
theorem parts_tile {w : Nat} {S : List (Int × Int)} (h : SpOk w S) : Tile 0 (prsL (edgesOf w S)) (H2 w) := by
  obtain ⟨l, e1, _, _, e4, _⟩ := edges_facts h
  have hs := ssort_sorted ([0, ((2 ^ w : Nat) : Int)] ++ flat2 S)
  change (edgesOf w S).Pairwise (· < ·) at hs
  rw [e1] at hs ⊢
  exact prs_tile hs e4
/-! ### an address in spans -/
theorem cn1_at (s : Int × Int) (n : Int) : cn1 s n (n + 1) = if ((decide (s.1 ≤ n)) && (decide (n < s.2))) = true then 1 else 0 := by
  unfold cn1
  by_cases h : s.1 ≤ n ∧ n < s.2
  · rw [decide_eq_true h.1, decide_eq_true h.2, if_pos (show (true && true) = true from rfl)]
    omega
  · rw [if_neg (by rw [Bool.and_eq_true, decide_eq_true_iff, decide_eq_true_iff]; exact h)]
    omega
end G
/-! Plain laws: how the signs of two patterns stand to one another. -/
namespace G
open PySem PySem.Spec PyProof.Rows L2 TL
theorem signs_cmp : ∀ (u v : List Nat), Bits u → Bits v → (∃ r, v = u ++ r) ∨ (∃ r, r ≠ [] ∧ u = v ++ r) ∨ Apart u v ∨ Apart v u
  | [], v, _, _ => .inl ⟨v, rfl⟩
  | a :: u, [], _, _ => .inr (.inl ⟨a :: u, by simp, rfl⟩)
  | a :: u, b :: v, hu, hv => by
    have ha := isB_iff.mp (hu a (List.mem_cons_self ..))
    have hb := isB_iff.mp (hv b (List.mem_cons_self ..))
    have diff : a ≠ b → (a = 48 ∧ b = 49) ∨ (b = 48 ∧ a = 49) := fun h => by omega
    by_cases h : a = b
    · subst h
      rcases signs_cmp u v (fun c hc => hu c (List.mem_cons_of_mem _ hc)) (fun c hc => hv c (List.mem_cons_of_mem _ hc)) with ⟨r, rfl⟩ | ⟨r, h1, rfl⟩ | ⟨c, p, q, rfl, rfl⟩ | ⟨c, p, q, rfl, rfl⟩
      · exact .inl ⟨r, rfl⟩
      · exact .inr (.inl ⟨r, h1, rfl⟩)
      · exact .inr (.inr (.inl ⟨a :: c, p, q, rfl, rfl⟩))
      · exact .inr (.inr (.inr ⟨a :: c, p, q, rfl, rfl⟩))
    · rcases diff h with ⟨rfl, rfl⟩ | ⟨rfl, rfl⟩
      · exact .inr (.inr (.inl ⟨[], u, v, rfl, rfl⟩))
      · exact .inr (.inr (.inr ⟨[], v, u, rfl, rfl⟩))
theorem spB_lt (w : Nat) (u : List Nat) : (spB w u).1 < (spB w u).2 := by
  unfold spB
  have := H2_pos (w - u.length)
  show beg u _ < beg u _ + H2 _
  omega
/-- what goes on from some signs lies within -/
theorem spB_nest {w : Nat} {u r : List Nat} (h : (u ++ r).length ≤ w) : (spB w u).1 ≤ (spB w (u ++ r)).1 ∧ (spB w (u ++ r)).2 ≤ (spB w u).2 := by
  rw [List.length_append] at h
  have hr := wr_lt r
  have e1 : beg (u ++ r) (w - (u ++ r).length) = ((wr u * 2 ^ (w - u.length) + wr r * 2 ^ (w - (u ++ r).length) : Nat) : Int) := by
    unfold beg
    rw [wr_app, List.length_append, Nat.add_mul, Nat.mul_assoc, ← Nat.pow_add, show r.length + (w - (u.length + r.length)) = w - u.length by omega]
  have e2 : 2 ^ r.length * 2 ^ (w - (u ++ r).length) = 2 ^ (w - u.length) := by
    rw [← Nat.pow_add, List.length_append, show r.length + (w - (u.length + r.length)) = w - u.length by omega]
  have e3 : (wr r + 1) * 2 ^ (w - (u ++ r).length) ≤ 2 ^ r.length * 2 ^ (w - (u ++ r).length) := Nat.mul_le_mul_right _ hr
  rw [e2, Nat.add_mul, Nat.one_mul] at e3
  unfold spB
  rw [e1]
  show ((wr u * 2 ^ (w - u.length) : Nat) : Int) ≤ _ ∧ _ + ((2 ^ (w - (u ++ r).length) : Nat) : Int) ≤ ((wr u * 2 ^ (w - u.length) : Nat) : Int) + ((2 ^ (w - u.length) : Nat) : Int)
  generalize 2 ^ (w - (u ++ r).length) = x at *
  generalize wr r * x = y at *
  generalize 2 ^ (w - u.length) = z at *
  generalize wr u * z = t at *
  omega
theorem spB_apart {w : Nat} {u v : List Nat} (h : Apart u v) (hu : u.length ≤ w) (hv : v.length ≤ w) : (spB w u).2 ≤ (spB w v).1 := by
  obtain ⟨c, p, q, rfl, rfl⟩ := h
  have e1 : c ++ 48 :: p = (c ++ [48]) ++ p := by simp
  have e2 : c ++ 49 :: q = (c ++ [49]) ++ q := by simp
  rw [e1] at hu ⊢
  rw [e2] at hv ⊢
  have h1 := (spB_nest (w := w) (u := c ++ [48]) (r := p) hu).2
  have h2 := (spB_nest (w := w) (u := c ++ [49]) (r := q) hv).1
  have hl : c.length + 1 ≤ w := by rw [List.length_append, List.length_append] at hu; have : [48].length = 1 := rfl; omega
  have k1 : (spB w (c ++ [48])).2 = (spB w (c ++ [49])).1 := by
    rw [spB_at (j := w - (c.length + 1)) (by rw [List.length_append]; show c.length + 1 + _ = _; omega), spB_at (j := w - (c.length + 1)) (by rw [List.length_append]; show c.length + 1 + _ = _; omega)]
    show beg (c ++ [48]) _ + H2 _ = beg (c ++ [49]) _
    rw [beg0, beg1]
  omega
/-- the second goes on from the first, or is greater at a sign -/
def Ord (u v : List Nat) : Prop := (∃ r, v = u ++ r) ∨ Apart u v
theorem lex_app {a b : Nat} (h : a < b) {x y : List Nat} : ∀ c : List Nat, c ++ a :: x < c ++ b :: y
  | [] => List.Lex.rel h
  | _ :: c => List.Lex.cons (lex_app h c)
theorem ord_of_le {w : Nat} {u v : List Nat} (hu : Bits u ∧ u.length ≤ w) (hv : Bits v ∧ v.length ≤ w) (hle : patL w u ≤ patL w v) : Ord u v := by
  rcases signs_cmp u v hu.1 hv.1 with ⟨r, rfl⟩ | ⟨r, h1, rfl⟩ | h | ⟨c, p, q, rfl, rfl⟩
  · exact .inl ⟨r, rfl⟩
  · exfalso
    cases r with
    | nil => exact h1 rfl
    | cons d r =>
      have hd := isB_iff.mp (hu.1 d (List.mem_append.mpr (.inr (List.mem_cons_self ..))))
      have hl := hu.2
      rw [List.length_append, List.length_cons] at hl
      refine List.not_le.mpr ?_ hle
      unfold patL
      rw [if_pos (show v.length < w by omega), List.append_assoc]
      exact lex_app (by omega) v
  · exact .inr h
  · exfalso
    refine List.not_le.mpr ?_ hle
    unfold patL
    rw [List.append_assoc, List.append_assoc]
    exact lex_app (by decide) c
theorem Ord.span {w : Nat} {u v : List Nat} (hu : u.length ≤ w) (hv : v.length ≤ w) (h : Ord u v) : ((spB w u).1 ≤ (spB w v).1 ∧ (spB w v).2 ≤ (spB w u).2) ∨ (spB w u).2 ≤ (spB w v).1 := by
  rcases h with ⟨r, rfl⟩ | h
  · exact .inl (spB_nest hv)
  · exact .inr (spB_apart h hu hv)
theorem any_span {w : Nat} {u v : List Nat} (hu : Bits u ∧ u.length ≤ w) (hv : Bits v ∧ v.length ≤ w) :
    ((spB w u).1 ≤ (spB w v).1 ∧ (spB w v).2 ≤ (spB w u).2) ∨ ((spB w v).1 ≤ (spB w u).1 ∧ (spB w u).2 ≤ (spB w v).2) ∨ (spB w u).2 ≤ (spB w v).1 ∨ (spB w v).2 ≤ (spB w u).1 := by
  rcases signs_cmp u v hu.1 hv.1 with ⟨r, rfl⟩ | ⟨r, _, rfl⟩ | h | h
  · exact .inl (spB_nest hv.2)
  · exact .inr (.inl (spB_nest hu.2))
  · exact .inr (.inr (.inl (spB_apart h hu.2 hv.2)))
  · exact .inr (.inr (.inr (spB_apart h hv.2 hu.2)))
/-! ### what a pattern's text is -/
def patB (cs : List Nat) (w : Int) : Bool :=
  let o : Bool := decide (cs.drop (cs.length - 1) = [42])
  let bits := cs.take (cs.length - (if o then 1 else 0))
  if bits.all isB then (if o then decide ((bits.length : Int) < w) else decide ((bits.length : Int) = w)) else false
theorem patB_pat {w : Nat} {u : List Nat} (hu : Bits u) (hl : u.length ≤ w) : patB (patL w u) (w : Int) = true := by
  have hall : u.all isB = true := List.all_eq_true.mpr hu
  unfold patL
  by_cases h : u.length < w
  · rw [if_pos h]
    have e1 : (u ++ [42]).drop ((u ++ [42]).length - 1) = [42] := by rw [List.length_append]; exact List.drop_left
    have e2 : (u ++ [42]).take ((u ++ [42]).length - 1) = u := by rw [List.length_append]; exact List.take_left
    have e3 : decide ((u ++ [42]).drop ((u ++ [42]).length - 1) = [42]) = true := decide_eq_true e1
    unfold patB
    simp only [e3, if_true, e2, hall]
    exact decide_eq_true (by omega)
  · rw [if_neg h, List.append_nil]
    have e1 : ¬ u.drop (u.length - 1) = [42] := fun z => hu.no42 (List.mem_of_mem_drop (show 42 ∈ u.drop (u.length - 1) by rw [z]; exact List.mem_singleton.mpr rfl))
    have e3 : decide (u.drop (u.length - 1) = [42]) = false := decide_eq_false e1
    have e2 : u.take (u.length - 0) = u := List.take_length
    unfold patB
    rw [e3]
    show (if (u.take (u.length - 0)).all isB = true then decide (((u.take (u.length - 0)).length : Int) = (w : Int)) else false) = true
    rw [e2, hall, if_pos rfl]
    exact decide_eq_true (by omega)
end G
/-! Plain laws: signs turned, signs put ahead and behind. -/
namespace G
open PySem PySem.Spec PyProof.Rows L2 TL
def flip (c : Nat) : Nat := 97 - c
def fl (u : List Nat) : List Nat := u.map flip
theorem fl_len (u : List Nat) : (fl u).length = u.length := List.length_map ..
theorem fl_bits {u : List Nat} (h : Bits u) : Bits (fl u) := fun c hc => by
  obtain ⟨d, hd, rfl⟩ := List.mem_map.mp hc
  have := isB_iff.mp (h d hd)
  exact isB_iff.mpr (by unfold flip; omega)
theorem fl_app (u v : List Nat) : fl (u ++ v) = fl u ++ fl v := List.map_append
theorem wr_fl : ∀ {u : List Nat}, Bits u → wr (fl u) + wr u + 1 = 2 ^ u.length
  | [], _ => rfl
  | c :: u, h => by
    have ih := wr_fl (u := u) fun d hd => h d (List.mem_cons_of_mem _ hd)
    have hc := isB_iff.mp (h c (List.mem_cons_self ..))
    show wr (flip c :: fl u) + _ + 1 = _
    rw [wr_cons, wr_cons, fl_len, List.length_cons, Nat.pow_succ]
    unfold flip
    rcases hc with rfl | rfl <;> simp <;> omega
/-- from the other end -/
def mir (W : Int) (s : Int × Int) : Int × Int := (W - s.2, W - s.1)
def shf (h : Int) (s : Int × Int) : Int × Int := (s.1 + h, s.2 + h)
def dbl (s : Int × Int) : Int × Int := (2 * s.1, 2 * s.2)
theorem spB_fl {w : Nat} {u : List Nat} (h : Bits u) (hl : u.length ≤ w) : spB w (fl u) = mir (H2 w) (spB w u) := by
  have e1 := wr_fl h
  have e2 : 2 ^ u.length * 2 ^ (w - u.length) = 2 ^ w := by rw [← Nat.pow_add]; congr 1; omega
  rw [← e1, Nat.add_mul, Nat.add_mul, Nat.one_mul] at e2
  unfold spB mir
  rw [fl_len]
  unfold beg H2
  generalize 2 ^ (w - u.length) = z at *
  generalize wr (fl u) * z = x at *
  generalize wr u * z = y at *
  refine Prod.ext ?_ ?_
  · show ((x : Nat) : Int) = ((2 ^ w : Nat) : Int) - (((y : Nat) : Int) + ((z : Nat) : Int))
    rw [← e2]; omega
  · show ((x : Nat) : Int) + ((z : Nat) : Int) = ((2 ^ w : Nat) : Int) - ((y : Nat) : Int)
    rw [← e2]; omega
theorem spB_0 {w : Nat} {u : List Nat} : spB (w + 1) (48 :: u) = spB w u := by
  unfold spB beg
  rw [wr_cons, if_neg (by decide), Nat.zero_mul, Nat.zero_add, List.length_cons, show w + 1 - (u.length + 1) = w - u.length by omega]
theorem spB_1 {w : Nat} {u : List Nat} (hl : u.length ≤ w) : spB (w + 1) (49 :: u) = shf (H2 w) (spB w u) := by
  have e2 : 2 ^ u.length * 2 ^ (w - u.length) = 2 ^ w := by rw [← Nat.pow_add]; congr 1; omega
  unfold spB beg shf H2
  rw [wr_cons, if_pos rfl, Nat.one_mul, List.length_cons, show w + 1 - (u.length + 1) = w - u.length by omega, Nat.add_mul, e2]
  refine Prod.ext ?_ ?_
  · show ((2 ^ w + wr u * 2 ^ (w - u.length) : Nat) : Int) = ((wr u * 2 ^ (w - u.length) : Nat) : Int) + ((2 ^ w : Nat) : Int)
    rw [Int.natCast_add]; omega
  · show ((2 ^ w + wr u * 2 ^ (w - u.length) : Nat) : Int) + ((2 ^ (w - u.length) : Nat) : Int) = ((wr u * 2 ^ (w - u.length) : Nat) : Int) + ((2 ^ (w - u.length) : Nat) : Int) + ((2 ^ w : Nat) : Int)
    rw [Int.natCast_add]; omega
theorem spB_dbl {w : Nat} {u : List Nat} (hl : u.length ≤ w) : spB (w + 1) u = dbl (spB w u) := by
  unfold spB beg dbl H2
  rw [show w + 1 - u.length = (w - u.length) + 1 by omega, Nat.pow_succ, ← Nat.mul_assoc]
  generalize wr u * 2 ^ (w - u.length) = x
  generalize 2 ^ (w - u.length) = z
  refine Prod.ext ?_ ?_
  · show ((x * 2 : Nat) : Int) = 2 * ((x : Nat) : Int)
    omega
  · show ((x * 2 : Nat) : Int) + ((z * 2 : Nat) : Int) = 2 * (((x : Nat) : Int) + ((z : Nat) : Int))
    omega
/-! ### ends -/
def EndOf (S : List (Int × Int)) (k : Int) : Prop := ∃ s ∈ S, k = s.1 ∨ k = s.2
theorem prs_snd : ∀ (l : List Int) (a : Int), (prsL (a :: l)).map (·.2) = l
  | [], _ => rfl
  | b :: l, a => by
    show b :: (prsL (b :: l)).map (·.2) = _
    rw [prs_snd l b]
theorem mem_edges {w : Nat} {S : List (Int × Int)} {k : Int} : k ∈ edgesOf w S ↔ k = 0 ∨ k = H2 w ∨ EndOf S k := by
  unfold edgesOf
  rw [ssort_mem, List.mem_append, mem_flat2]
  simp only [List.mem_cons, List.not_mem_nil, or_false, or_assoc]
  exact Iff.rfl
theorem parts_ends {w : Nat} {S : List (Int × Int)} (h : SpOk w S) (k : Int) : (k = 0 ∨ k = H2 w ∨ EndOf (prsL (edgesOf w S)) k) ↔ (k = 0 ∨ k = H2 w ∨ EndOf S k) := by
  have ht := parts_tile h
  obtain ⟨l, e1, _⟩ := edges_facts h
  have e2 := ht.ends_mem (k := k)
  refine Iff.trans ?_ mem_edges
  rw [e1] at e2 ⊢
  rw [prs_snd] at e2
  exact e2.symm
theorem parts_char {w : Nat} {T U : List (Int × Int)} (h : Tile 0 T (H2 w)) (hk : ∀ k, (k = 0 ∨ k = H2 w ∨ EndOf T k) ↔ (k = 0 ∨ k = H2 w ∨ EndOf U k)) : prsL (edgesOf w U) = T := by
  have e : edgesOf w U = 0 :: T.map (·.2) := by
    have hm : ∀ k, k ∈ 0 :: T.map (·.2) ↔ k ∈ edgesOf w U := fun k => by rw [h.ends_mem, mem_edges]; exact hk k
    unfold edgesOf at hm ⊢
    exact ssort_uniq h.sorted fun k => (hm k).trans ssort_mem
  rw [e, h.prs]
theorem Tile.mir : ∀ {T : List (Int × Int)} {a e W : Int}, Tile a T e → Tile (W - e) (T.map (G.mir W)).reverse (W - a)
  | [], a, e, W, h => by cases (show _ = _ from h); rfl
  | s :: T, a, e, W, ⟨h1, h2, h3⟩ => by
    rw [List.map_cons, List.reverse_cons]
    refine Tile.app (m := W - s.2) (Tile.mir h3) ⟨rfl, ?_, ?_⟩
    · show W - s.2 < W - s.1; omega
    · show W - s.1 = W - a; omega
theorem Tile.shf : ∀ {T : List (Int × Int)} {a e : Int} (h : Int), Tile a T e → Tile (a + h) (T.map (G.shf h)) (e + h)
  | [], a, e, h, k => by cases (show _ = _ from k); rfl
  | s :: T, a, e, h, ⟨h1, h2, h3⟩ => ⟨by show s.1 + h = a + h; omega, by show s.1 + h < s.2 + h; omega, Tile.shf h h3⟩
theorem Tile.dbl : ∀ {T : List (Int × Int)} {a e : Int}, Tile a T e → Tile (2 * a) (T.map G.dbl) (2 * e)
  | [], a, e, k => by cases (show _ = _ from k); rfl
  | s :: T, a, e, ⟨h1, h2, h3⟩ => ⟨by show 2 * s.1 = 2 * a; omega, by show 2 * s.1 < 2 * s.2; omega, Tile.dbl h3⟩
theorem Tile.last : ∀ {T : List (Int × Int)} {a e : Int}, Tile a T e → a < e → EndOf T e
  | [], a, e, h, hl => by cases (show _ = _ from h); omega
  | [s], a, e, ⟨h1, h2, h3⟩, _ => ⟨s, List.mem_cons_self .., .inr (show s.2 = e from h3).symm⟩
  | s :: t :: T, a, e, ⟨h1, h2, h3⟩, _ => by
    obtain ⟨r, hr, hk⟩ := Tile.last h3 (by have := h3.2.1; have := h3.1; have := h3.2.2.le; omega)
    exact ⟨r, List.mem_cons_of_mem _ hr, hk⟩
theorem end_mir {S : List (Int × Int)} {W k : Int} : EndOf (S.map (mir W)) k ↔ EndOf S (W - k) := by
  constructor
  · rintro ⟨t, ht, hk⟩
    obtain ⟨s, hs, rfl⟩ := List.mem_map.mp ht
    refine ⟨s, hs, ?_⟩
    have : k = W - s.2 ∨ k = W - s.1 := hk
    omega
  · rintro ⟨s, hs, hk⟩
    refine ⟨mir W s, List.mem_map.mpr ⟨s, hs, rfl⟩, ?_⟩
    show k = W - s.2 ∨ k = W - s.1
    omega
theorem end_rev {S : List (Int × Int)} {k : Int} : EndOf S.reverse k ↔ EndOf S k := by
  unfold EndOf
  simp only [List.mem_reverse]
theorem end_shf {S : List (Int × Int)} {h k : Int} : EndOf (S.map (shf h)) k ↔ EndOf S (k - h) := by
  constructor
  · rintro ⟨t, ht, hk⟩
    obtain ⟨s, hs, rfl⟩ := List.mem_map.mp ht
    refine ⟨s, hs, ?_⟩
    have : k = s.1 + h ∨ k = s.2 + h := hk
    omega
  · rintro ⟨s, hs, hk⟩
    refine ⟨shf h s, List.mem_map.mpr ⟨s, hs, rfl⟩, ?_⟩
    show k = s.1 + h ∨ k = s.2 + h
    omega
theorem end_app {S T : List (Int × Int)} {k : Int} : EndOf (S ++ T) k ↔ EndOf S k ∨ EndOf T k := by
  unfold EndOf
  constructor
  · rintro ⟨s, hs, hk⟩
    exact (List.mem_append.mp hs).elim (fun h => .inl ⟨s, h, hk⟩) fun h => .inr ⟨s, h, hk⟩
  · rintro (⟨s, hs, hk⟩ | ⟨s, hs, hk⟩)
    · exact ⟨s, List.mem_append.mpr (.inl hs), hk⟩
    · exact ⟨s, List.mem_append.mpr (.inr hs), hk⟩
theorem end_dbl {S : List (Int × Int)} {k : Int} : EndOf (S.map dbl) k ↔ ∃ j, k = 2 * j ∧ EndOf S j := by
  constructor
  · rintro ⟨t, ht, hk⟩
    obtain ⟨s, hs, rfl⟩ := List.mem_map.mp ht
    have : k = 2 * s.1 ∨ k = 2 * s.2 := hk
    rcases this with h | h
    · exact ⟨s.1, h, s, hs, .inl rfl⟩
    · exact ⟨s.2, h, s, hs, .inr rfl⟩
  · rintro ⟨j, rfl, s, hs, hk⟩
    refine ⟨dbl s, List.mem_map.mpr ⟨s, hs, rfl⟩, ?_⟩
    show 2 * j = 2 * s.1 ∨ 2 * j = 2 * s.2
    omega
theorem parts_mir {w : Nat} {S : List (Int × Int)} (h : SpOk w S) : prsL (edgesOf w (S.map (mir (H2 w)))) = ((prsL (edgesOf w S)).map (mir (H2 w))).reverse := by
  have ht := (parts_tile h).mir (W := H2 w)
  rw [Int.sub_self, Int.sub_zero] at ht
  refine parts_char ht fun k => ?_
  have := parts_ends h (H2 w - k)
  rw [end_rev, end_mir, end_mir]
  constructor
  · intro hk
    have := this.mp (by rcases hk with rfl | rfl | hk; exact .inr (.inl (by omega)); exact .inl (by omega); exact .inr (.inr hk))
    rcases this with h | h | h
    · exact .inr (.inl (by omega))
    · exact .inl (by omega)
    · exact .inr (.inr h)
  · intro hk
    have := this.mpr (by rcases hk with rfl | rfl | hk; exact .inr (.inl (by omega)); exact .inl (by omega); exact .inr (.inr hk))
    rcases this with h | h | h
    · exact .inr (.inl (by omega))
    · exact .inl (by omega)
    · exact .inr (.inr h)
theorem parts_ahead {w : Nat} {S : List (Int × Int)} (h : SpOk w S) : prsL (edgesOf (w + 1) (S ++ S.map (shf (H2 w)) ++ [(0, H2 w)])) = prsL (edgesOf w S) ++ (prsL (edgesOf w S)).map (shf (H2 w)) := by
  have hp := H2_pos w
  have h2 := H2_succ w
  have t := parts_tile h
  have ht := t.shf (H2 w)
  rw [Int.zero_add] at ht
  have hl := t.last hp
  refine parts_char (by rw [show H2 (w + 1) = H2 w + H2 w by omega]; exact t.app ht) fun k => ?_
  have a1 := parts_ends h k
  have a2 := parts_ends h (k - H2 w)
  rw [end_app, end_shf, end_app, end_app, end_shf]
  have hone : EndOf [((0 : Int), H2 w)] k ↔ k = 0 ∨ k = H2 w := by
    unfold EndOf
    simp
  rw [hone]
  constructor
  · rintro (hk | hk | hk | hk)
    · exact .inl hk
    · exact .inr (.inl hk)
    · rcases a1.mp (.inr (.inr hk)) with e | e | e
      · exact .inl e
      · exact .inr (.inr (.inr (.inr e)))
      · exact .inr (.inr (.inl (.inl e)))
    · rcases a2.mp (.inr (.inr hk)) with e | e | e
      · exact .inr (.inr (.inr (.inr (by omega))))
      · exact .inr (.inl (by omega))
      · exact .inr (.inr (.inl (.inr e)))
  · rintro (hk | hk | (hk | hk) | hk | hk)
    · exact .inl hk
    · exact .inr (.inl hk)
    · rcases a1.mpr (.inr (.inr hk)) with e | e | e
      · exact .inl e
      · exact .inr (.inr (.inl (e ▸ hl)))
      · exact .inr (.inr (.inl e))
    · rcases a2.mpr (.inr (.inr hk)) with e | e | e
      · exact .inr (.inr (.inl (by rw [show k = H2 w by omega]; exact hl)))
      · exact .inr (.inl (by omega))
      · exact .inr (.inr (.inr e))
    · exact .inl hk
    · exact .inr (.inr (.inl (hk ▸ hl)))
theorem parts_dbl {w : Nat} {S : List (Int × Int)} (h : SpOk w S) : prsL (edgesOf (w + 1) (S.map dbl)) = (prsL (edgesOf w S)).map dbl := by
  have h2 := H2_succ w
  have ht := (parts_tile h).dbl
  refine parts_char (by rw [h2]; exact ht) fun k => ?_
  rw [end_dbl, end_dbl]
  constructor
  · rintro (hk | hk | ⟨j, rfl, hk⟩)
    · exact .inl hk
    · exact .inr (.inl hk)
    · rcases (parts_ends h j).mp (.inr (.inr hk)) with e | e | e
      · exact .inl (by omega)
      · exact .inr (.inl (by omega))
      · exact .inr (.inr ⟨j, rfl, e⟩)
  · rintro (hk | hk | ⟨j, rfl, hk⟩)
    · exact .inl hk
    · exact .inr (.inl hk)
    · rcases (parts_ends h j).mpr (.inr (.inr hk)) with e | e | e
      · exact .inl (by omega)
      · exact .inr (.inl (by omega))
      · exact .inr (.inr ⟨j, rfl, e⟩)
/-! ### leaves -/
theorem ct_map {S : List (Int × Int)} {f : Int × Int → Int × Int} {x y x' y' c : Int} (h : ∀ s ∈ S, cn1 (f s) x y = c * cn1 s x' y') : ct (S.map f) x y = c * ct S x' y' := by
  induction S with
  | nil => rw [List.map_nil, ct_nil, ct_nil, Int.mul_zero]
  | cons s S ih => rw [List.map_cons, ct_cons, ct_cons, ih fun t ht => h t (List.mem_cons_of_mem _ ht), h s (List.mem_cons_self ..), Int.mul_add]
theorem ct_rever (S : List (Int × Int)) (x y : Int) : ct S.reverse x y = ct S x y := by
  induction S with
  | nil => rfl
  | cons s S ih => rw [List.reverse_cons, ct_app, ct_one, ct_cons, ih]; omega
theorem ct_mir (S : List (Int × Int)) (W x y : Int) : ct ((S.map (mir W)).reverse) x y = ct S (W - y) (W - x) := by
  rw [ct_rever, ct_map (c := 1) (x' := W - y) (y' := W - x) fun s _ => by unfold cn1 mir; show max 0 (min y (W - s.1) - max x (W - s.2)) = _; omega]
  omega
theorem ct_shf (S : List (Int × Int)) (h x y : Int) : ct (S.map (shf h)) x y = ct S (x - h) (y - h) := by
  rw [ct_map (c := 1) (x' := x - h) (y' := y - h) fun s _ => by unfold cn1 shf; show max 0 (min y (s.2 + h) - max x (s.1 + h)) = _; omega]
  omega
theorem ct_dbl (S : List (Int × Int)) (x y : Int) : ct (S.map dbl) (2 * x) (2 * y) = 2 * ct S x y :=
  ct_map (c := 2) fun s _ => by unfold cn1 dbl; show max 0 (min (2 * y) (2 * s.2) - max (2 * x) (2 * s.1)) = _; omega
theorem canB_mir {S : List (Int × Int)} (h : Rise S) (W : Int) (j : Nat) (a : Int) (bs : List Nat) : canB ((S.map (mir W)).reverse) j (W - (a + H2 j)) (fl bs) = ((canB S j a bs).map fl).reverse :=
  can_cases h (P := fun j a bs => canB ((S.map (mir W)).reverse) j (W - (a + H2 j)) (fl bs) = ((canB S j a bs).map fl).reverse) j a bs
    (fun j a bs e => by rw [canB_none e, canB_none (by rw [ct_mir, ← e]; congr 1 <;> omega)]; rfl)
    (fun j a bs e => by
      rw [canB_full e, canB_full (by rw [ct_mir]; rw [show W - (W - (a + H2 j) + H2 j) = a by omega, show W - (W - (a + H2 j)) = a + H2 j by omega]; exact e)]
      rfl)
    (fun j a bs e1 e2 i1 i2 => by
      have h2 := H2_succ j
      have e : ct ((S.map (mir W)).reverse) (W - (a + H2 (j + 1))) (W - (a + H2 (j + 1)) + H2 (j + 1)) = ct S a (a + H2 (j + 1)) := by
        rw [ct_mir, show W - (W - (a + H2 (j + 1)) + H2 (j + 1)) = a by omega, show W - (W - (a + H2 (j + 1))) = a + H2 (j + 1) by omega]
      rw [canB_part e1 e2, canB_part (by rw [e]; exact e1) (by rw [e]; exact e2), List.map_append, List.reverse_append, ← i1, ← i2, fl_app, fl_app,
        show W - (a + H2 (j + 1)) + H2 j = W - (a + H2 j) by omega, show a + H2 j + H2 j = a + H2 (j + 1) by omega]
      rfl)
theorem canB_shf {S : List (Int × Int)} (h : Rise S) (d : Int) (p : List Nat) (j : Nat) (a : Int) (bs : List Nat) : canB (S.map (shf d)) j (a + d) (p ++ bs) = (canB S j a bs).map (p ++ ·) :=
  can_cases h (P := fun j a bs => canB (S.map (shf d)) j (a + d) (p ++ bs) = (canB S j a bs).map (p ++ ·)) j a bs
    (fun j a bs e => by rw [canB_none e, canB_none (by rw [ct_shf, ← e]; congr 1 <;> omega)]; rfl)
    (fun j a bs e => by
      rw [canB_full e, canB_full (by rw [ct_shf, show a + d - d = a by omega, show a + d + H2 j - d = a + H2 j by omega]; exact e)]
      rfl)
    (fun j a bs e1 e2 i1 i2 => by
      have e : ct (S.map (shf d)) (a + d) (a + d + H2 (j + 1)) = ct S a (a + H2 (j + 1)) := by
        rw [ct_shf, show a + d - d = a by omega, show a + d + H2 (j + 1) - d = a + H2 (j + 1) by omega]
      rw [canB_part e1 e2, canB_part (by rw [e]; exact e1) (by rw [e]; exact e2), List.map_append, ← i1, ← i2, List.append_assoc, List.append_assoc, show a + d + H2 j = a + H2 j + d by omega])
theorem canB_dbl {S : List (Int × Int)} (h : Rise S) (j : Nat) (a : Int) (bs : List Nat) : canB (S.map dbl) (j + 1) (2 * a) bs = canB S j a bs :=
  can_cases h (P := fun j a bs => canB (S.map dbl) (j + 1) (2 * a) bs = canB S j a bs) j a bs
    (fun j a bs e => by
      have h2 := H2_succ j
      rw [canB_none e, canB_none (by rw [show 2 * a + H2 (j + 1) = 2 * (a + H2 j) by omega, ct_dbl, e]; rfl)])
    (fun j a bs e => by
      have h2 := H2_succ j
      rw [canB_full e, canB_full (by rw [show 2 * a + H2 (j + 1) = 2 * (a + H2 j) by omega, ct_dbl, e]; omega)])
    (fun j a bs e1 e2 i1 i2 => by
      have h2 := H2_succ j
      have h3 := H2_succ (j + 1)
      have e : ct (S.map dbl) (2 * a) (2 * a + H2 (j + 1 + 1)) = 2 * ct S a (a + H2 (j + 1)) := by rw [show 2 * a + H2 (j + 1 + 1) = 2 * (a + H2 (j + 1)) by omega, ct_dbl]
      rw [canB_part e1 e2, canB_part (by rw [e]; omega) (by rw [e]; omega), i1, show 2 * a + H2 (j + 1) = 2 * (a + H2 j) by omega, i2])
theorem canB_ahead {S : List (Int × Int)} (h : Rise S) {w : Nat} (hb : ∀ s ∈ S, 0 ≤ s.1 ∧ s.2 ≤ H2 w) : canB (S.map (shf (H2 w))) (w + 1) 0 [] = (canB S w 0 []).map ([49] ++ ·) := by
  have hp := H2_pos w
  have h2 := H2_succ w
  have neg : ∀ y, y ≤ H2 w → ct S (0 - H2 w) y = ct S 0 y := fun y _ => by
    have := ct_map (S := S) (f := id) (c := 1) (x := 0 - H2 w) (y := y) (x' := 0) (y' := y) fun s hs => by
      have := hb s hs
      unfold cn1
      show max 0 (min y s.2 - max (0 - H2 w) s.1) = _
      omega
    rw [List.map_id] at this
    omega
  have e0 : ct (S.map (shf (H2 w))) 0 (0 + H2 (w + 1)) = ct S 0 (0 + H2 w) := by rw [ct_shf, show 0 + H2 (w + 1) - H2 w = 0 + H2 w by omega, neg _ (by omega)]
  by_cases hz : ct S 0 (0 + H2 w) = 0
  · rw [canB_none hz, canB_none (by rw [e0]; exact hz)]
    rfl
  · have hl := ct_le h (a := 0) (e := 0 + H2 w) (by omega)
    have k1 : ct (S.map (shf (H2 w))) 0 (0 + H2 w) = 0 := by
      rw [ct_shf, show 0 + H2 w - H2 w = 0 by omega, neg 0 (by omega)]
      exact ct_rev (Int.le_refl _)
    rw [canB_part (by rw [e0]; exact hz) (by rw [e0]; omega), canB_none k1]
    have := canB_shf h (H2 w) [49] w 0 []
    rw [List.append_nil] at this
    exact this
theorem Pats.of {w : Nat} : ∀ {ps : List Str}, (∀ p ∈ ps, IsPat w p) → Pats w (ps.map bsOf) ps
  | [], _ => ⟨rfl, fun _ h => nomatch h⟩
  | p :: ps, h => by
    obtain ⟨u, pu⟩ := h p (List.mem_cons_self ..)
    have ih := Pats.of (ps := ps) fun q hq => h q (List.mem_cons_of_mem _ hq)
    rw [List.map_cons, bsOf_pat pu]
    refine ⟨by rw [List.map_cons, List.map_cons, pu.eq, ih.eq], fun v hv => ?_⟩
    rcases List.mem_cons.mp hv with rfl | hv
    · exact ⟨pu.bits, pu.le⟩
    · exact ih.ok v hv
theorem Pats.cons {w : Nat} {u : List Nat} {us : List (List Nat)} {y : Str} {ys : List Str} (p : Pat w u y) (h : Pats w us ys) : Pats w (u :: us) (y :: ys) :=
  ⟨by rw [List.map_cons, List.map_cons, p.eq, h.eq], fun v hv => by
    rcases List.mem_cons.mp hv with rfl | hv
    · exact ⟨p.bits, p.le⟩
    · exact h.ok v hv⟩
theorem Pats.nil {w : Nat} : Pats w [] [] := ⟨rfl, fun _ h => nomatch h⟩
theorem Pats.rev {w : Nat} {us : List (List Nat)} {ys : List Str} (h : Pats w us ys) : Pats w us.reverse ys.reverse :=
  ⟨by rw [List.map_reverse, List.map_reverse, h.eq], fun u hu => h.ok u (List.mem_reverse.mp hu)⟩
theorem Pats.uniq {w : Nat} {us : List (List Nat)} {ys zs : List Str} (h : Pats w us ys) (k : Pats w us zs) : ys = zs := G.map_tl_inj (by rw [h.eq, k.eq])
end G
/-! Plain laws: things of either type, membership, the bag of five. -/
namespace G
open PySem PySem.Spec PyProof.Rows L2 TL
instance {α : Type} [Enc α] [EqvD α] : EqvD (T1 α) := ⟨fun x y => by
  obtain ⟨a⟩ := x
  obtain ⟨c⟩ := y
  show (PyData.eqv (Enc.d a) (Enc.d c) && true) = true ↔ _
  rw [Bool.and_true, EqvD.iff, T1.mk.injEq]⟩
instance {α β γ δ ε : Type} [Enc α] [Enc β] [Enc γ] [Enc δ] [Enc ε] [EqvD α] [EqvD β] [EqvD γ] [EqvD δ] [EqvD ε] : EqvD (T5 α β γ δ ε) := ⟨fun x y => by
  obtain ⟨a, b, e, g, i⟩ := x
  obtain ⟨c, d, f, h, j⟩ := y
  show (PyData.eqv (Enc.d a) (Enc.d c) && (PyData.eqv (Enc.d b) (Enc.d d) && (PyData.eqv (Enc.d e) (Enc.d f) && (PyData.eqv (Enc.d g) (Enc.d h) && (PyData.eqv (Enc.d i) (Enc.d j) && true))))) = true ↔ _
  rw [Bool.and_true, Bool.and_eq_true, Bool.and_eq_true, Bool.and_eq_true, Bool.and_eq_true, EqvD.iff, EqvD.iff, EqvD.iff, EqvD.iff, EqvD.iff, T5.mk.injEq]⟩
theorem inD_dec {α : Type} [Enc α] [EqvD α] [DecidableEq α] {x : α} {xs : List α} : inD x xs = decide (x ∈ xs) := by
  rw [Bool.eq_iff_iff, decide_eq_true_iff]
  unfold inD
  rw [List.any_map, List.any_eq_true]
  constructor
  · rintro ⟨y, hy, e⟩
    have e' : PyData.eqv (Enc.d y) (Enc.d x) = true := e
    rw [← (EqvD.iff y x).mp e']
    exact hy
  · intro h
    exact ⟨x, h, (EqvD.iff x x).mpr rfl⟩
theorem inD_true {α : Type} [Enc α] [EqvD α] {x : α} {xs : List α} (h : x ∈ xs) : inD x xs = true := by
  unfold inD
  rw [List.any_map, List.any_eq_true]
  exact ⟨x, h, (EqvD.iff x x).mpr rfl⟩
theorem inD_false {α : Type} [Enc α] [EqvD α] {x : α} {xs : List α} (h : x ∉ xs) : inD x xs = false := by
  unfold inD
  rw [List.any_map, List.any_eq_false]
  intro y hy e
  have e' : PyData.eqv (Enc.d y) (Enc.d x) = true := e
  rw [← (EqvD.iff y x).mp e'] at h
  exact h hy
theorem rangeL_cons (lo : Int) (n : Nat) : rangeL lo (n + 1) = lo :: rangeL (lo + 1) n := rangeL_succ lo n
theorem bind3_some {α β γ δ : Type} {a : α} {b : β} {c : γ} {f : α → β → γ → Option δ} : bind3 (some (a, b, c)) f = f a b c := rfl
theorem bind4_some {α β γ δ ε : Type} {a : α} {b : β} {c : γ} {d : δ} {f : α → β → γ → δ → Option ε} : bind4 (some (a, b, c, d)) f = f a b c d := rfl
theorem erase_perm {α : Type} : ∀ {l : List α} {j : Nat} (h : j < l.length), (l[j] :: l.eraseIdx j).Perm l
  | x :: l, 0, _ => List.Perm.refl _
  | x :: l, j + 1, h => by
    have hj : j < l.length := by rw [List.length_cons] at h; omega
    have ih := erase_perm (l := l) (j := j) hj
    show (l[j] :: x :: l.eraseIdx j).Perm (x :: l)
    exact (List.Perm.swap _ _ _).trans (ih.cons x)
theorem popI_O {α : Type} {xs : List α} {i : Int} {P : α × List α → Prop} (h0 : 0 ≤ i) (h1 : i < xs.length) (h : ∀ j : Nat, ∀ hj : j < xs.length, i = (j : Nat) → P (xs[j], xs.eraseIdx j)) : O1 (popI xs i) P := by
  obtain ⟨n, rfl⟩ := Int.eq_ofNat_of_zero_le h0
  have hn : n < xs.length := by omega
  refine ⟨_, ?_, h n hn rfl⟩
  unfold popI ixN
  rw [if_pos (by omega), if_pos (by omega)]
  show Option.bind (some (Int.toNat (n : Int))) _ = _
  rw [Option.bind_some, Int.toNat_natCast, List.getElem?_eq_getElem hn]
  rfl
theorem mem_erase_idx {α : Type} {xs : List α} {j : Nat} {x : α} (h : x ∈ xs.eraseIdx j) : x ∈ xs := List.eraseIdx_subset h
theorem mem_cutL {α : Type} {xs : List α} {lo hi : Option Int} {x : α} (h : x ∈ cutL xs lo hi) : x ∈ xs := List.mem_of_mem_drop (List.mem_of_mem_take h)
theorem cutL_len {α : Type} (xs : List α) (lo hi : Option Int) : (cutL xs lo hi).length ≤ xs.length := by
  unfold cutL
  rw [List.length_take, List.length_drop]
  omega
theorem cutL_to {α : Type} (xs : List α) (n : Nat) : cutL xs none (some (n : Int)) = xs.take n := by
  unfold cutL
  rw [sIx_n, HT.sIx_nat, List.drop_zero, Nat.sub_zero]
  by_cases h : n ≤ xs.length
  · rw [Nat.min_eq_left h]
  · rw [Nat.min_eq_right (by omega), List.take_length, List.take_of_length_le (by omega)]
theorem cutL_from {α : Type} (xs : List α) (n : Nat) : cutL xs (some (n : Int)) none = xs.drop n := by
  unfold cutL
  rw [sIx_n, HT.sIx_nat]
  by_cases h : n ≤ xs.length
  · rw [Nat.min_eq_left h, List.take_of_length_le (by rw [List.length_drop]; omega)]
  · rw [Nat.min_eq_right (by omega), List.drop_length, List.take_nil, List.drop_of_length_le (by omega)]
theorem cutL_at {α : Type} (xs : List α) (n m : Nat) : cutL xs (some (n : Int)) (some (m : Int)) = (xs.drop n).take (m - n) := by
  unfold cutL
  rw [HT.sIx_nat, HT.sIx_nat]
  by_cases h : n ≤ xs.length
  · rw [Nat.min_eq_left h]
    by_cases h2 : m ≤ xs.length
    · rw [Nat.min_eq_left h2]
    · rw [Nat.min_eq_right (by omega), List.take_of_length_le (by rw [List.length_drop]; omega), List.take_of_length_le (by rw [List.length_drop]; omega)]
  · rw [show min n xs.length = xs.length from Nat.min_eq_right (by omega), List.drop_length, List.take_nil, List.drop_of_length_le (by omega), List.take_nil]
theorem undup_le {α : Type} [DecidableEq α] : ∀ l : List α, (undup l).length ≤ l.length
  | [] => Nat.le_refl _
  | x :: l => by
    have := undup_le l
    unfold undup
    split
    · rw [List.length_cons]; omega
    · rw [List.length_cons, List.length_cons]; omega
theorem undup_lt {α : Type} [DecidableEq α] : ∀ {l : List α}, (undup l).length < l.length ↔ ¬ l.Nodup
  | [] => by simp [undup]
  | x :: l => by
    have h1 := undup_le l
    have h2 := undup_lt (l := l)
    unfold undup
    rw [List.nodup_cons]
    by_cases h : x ∈ l
    · rw [if_pos h, List.length_cons]
      exact ⟨fun _ z => z.1 h, fun _ => by omega⟩
    · rw [if_neg h, List.length_cons, List.length_cons, Nat.add_lt_add_iff_right, h2]
      exact ⟨fun z w => z w.2, fun z w => z ⟨h, w⟩⟩
end G
/-! Plain: lists by length and then by signs; going through a net from near to far. -/
namespace G
/-- as long, and first by signs -/
def lx : List Int → List Int → Prop
  | x :: xs, y :: ys => x < y ∨ (x = y ∧ lx xs ys)
  | _, _ => False
def Lt2 (a b : List Int) : Prop := a.length < b.length ∨ (a.length = b.length ∧ lx a b)
def Le2 (a b : List Int) : Prop := a = b ∨ Lt2 a b
theorem lx_irrefl : ∀ a : List Int, ¬ lx a a
  | [], h => h
  | x :: a, h => by
    rcases h with h | ⟨_, h⟩
    · omega
    · exact lx_irrefl a h
theorem lx_trans : ∀ {a b c : List Int}, lx a b → lx b c → lx a c
  | [], _, _, h, _ => h.elim
  | _ :: _, [], _, h, _ => h.elim
  | _ :: _, _ :: _, [], _, h => h.elim
  | x :: a, y :: b, z :: c, h1, h2 => by
    rcases h1 with h1 | ⟨e1, h1⟩ <;> rcases h2 with h2 | ⟨e2, h2⟩
    · exact .inl (by omega)
    · exact .inl (by omega)
    · exact .inl (by omega)
    · exact .inr ⟨e1.trans e2, lx_trans h1 h2⟩
theorem lx_tri : ∀ {a b : List Int}, a.length = b.length → a = b ∨ lx a b ∨ lx b a
  | [], [], _ => .inl rfl
  | [], _ :: _, h => by cases h
  | _ :: _, [], h => by cases h
  | x :: a, y :: b, h => by
    have h' : a.length = b.length := by simpa using h
    rcases Int.lt_trichotomy x y with c | c | c
    · exact .inr (.inl (.inl c))
    · rcases lx_tri h' with e | e | e
      · exact .inl (by rw [c, e])
      · exact .inr (.inl (.inr ⟨c, e⟩))
      · exact .inr (.inr (.inr ⟨c.symm, e⟩))
    · exact .inr (.inr (.inl c))
theorem lx_app : ∀ {a b : List Int} (c d : List Int), a.length = b.length → lx a b → lx (a ++ c) (b ++ d)
  | [], _, _, _, _, h => h.elim
  | _ :: _, [], _, _, _, h => h.elim
  | x :: a, y :: b, c, d, hl, h => by
    rcases h with h | ⟨e, h⟩
    · exact .inl h
    · exact .inr ⟨e, lx_app c d (by simpa using hl) h⟩
theorem lx_same : ∀ (a : List Int) {c d : List Int}, lx c d → lx (a ++ c) (a ++ d)
  | [], _, _, h => h
  | _ :: a, _, _, h => .inr ⟨rfl, lx_same a h⟩
theorem Lt2.irrefl (a : List Int) : ¬ Lt2 a a := fun h => h.elim (Nat.lt_irrefl _) (fun h => lx_irrefl a h.2)
theorem Lt2.trans {a b c : List Int} (h1 : Lt2 a b) (h2 : Lt2 b c) : Lt2 a c := by
  rcases h1 with h1 | ⟨e1, h1⟩ <;> rcases h2 with h2 | ⟨e2, h2⟩
  · exact .inl (by omega)
  · exact .inl (by omega)
  · exact .inl (by omega)
  · exact .inr ⟨e1.trans e2, lx_trans h1 h2⟩
theorem Lt2.tri (a b : List Int) : a = b ∨ Lt2 a b ∨ Lt2 b a := by
  rcases Nat.lt_trichotomy a.length b.length with c | c | c
  · exact .inr (.inl (.inl c))
  · rcases lx_tri c with e | e | e
    · exact .inl e
    · exact .inr (.inl (.inr ⟨c, e⟩))
    · exact .inr (.inr (.inr ⟨c.symm, e⟩))
  · exact .inr (.inr (.inl c))
theorem Le2.refl (a : List Int) : Le2 a a := .inl rfl
theorem Le2.trans {a b c : List Int} (h1 : Le2 a b) (h2 : Le2 b c) : Le2 a c := by
  rcases h1 with rfl | h1
  · exact h2
  · rcases h2 with rfl | h2
    · exact .inr h1
    · exact .inr (h1.trans h2)
theorem Le2.anti {a b : List Int} (h1 : Le2 a b) (h2 : Le2 b a) : a = b := by
  rcases h1 with e | h1
  · exact e
  · rcases h2 with e | h2
    · exact e.symm
    · exact absurd (h1.trans h2) (Lt2.irrefl a)
theorem Le2.len {a b : List Int} (h : Le2 a b) : a.length ≤ b.length := by
  rcases h with rfl | h | h
  · exact Nat.le_refl _
  · exact Nat.le_of_lt h
  · exact Nat.le_of_eq h.1
theorem Lt2.snoc {a b : List Int} (x y : Int) (h : Lt2 a b) : Lt2 (a ++ [x]) (b ++ [y]) := by
  rcases h with h | ⟨e, h⟩
  · exact .inl (by simp; exact h)
  · exact .inr ⟨by simp; exact e, lx_app _ _ e h⟩
theorem Lt2.last (a : List Int) {x y : Int} (h : x < y) : Lt2 (a ++ [x]) (a ++ [y]) := .inr ⟨by simp, lx_same a (.inl h)⟩
theorem Le2.snoc {a b : List Int} (x : Int) (h : Le2 a b) : Le2 (a ++ [x]) (b ++ [x]) := by
  rcases h with rfl | h
  · exact .inl rfl
  · exact .inr (h.snoc x x)
/-- put together -/
theorem Le2.app {a b c d : List Int} (h1 : Le2 a b) (h2 : Le2 c d) : Le2 (a ++ c) (b ++ d) := by
  rcases h1 with rfl | h1
  · rcases h2 with rfl | h2
    · exact .inl rfl
    · refine .inr ?_
      rcases h2 with h2 | ⟨e, h2⟩
      · exact .inl (by simp; exact h2)
      · exact .inr ⟨by simp; exact e, lx_same a h2⟩
  · refine .inr ?_
    have l2 := h2.len
    rcases h1 with h1 | ⟨e, h1⟩
    · exact .inl (by simp; omega)
    · by_cases hl : c.length = d.length
      · exact .inr ⟨by simp; omega, lx_app _ _ e h1⟩
      · exact .inl (by simp; omega)

/-! ### from near to far -/
section
variable {S : Type} [DecidableEq S] (hs : S → Int) (out : S → List S) (ex : List Int → Prop) (b : S)
/-- a walk from b, by its signs -/
inductive Wk : S → List Int → Prop
  | one : Wk b [hs b]
  | step {u : S} {l : List Int} {o : S} : Wk u l → o ∈ out u → Wk o (l ++ [hs o])
structure BI (D P : List (S × List Int)) : Prop where
  nd : ((D ++ P).map (·.1)).Nodup
  srt : ((D ++ P).map (·.2)).Pairwise Lt2
  par : ∀ e ∈ D ++ P, e = (b, [hs b]) ∨ ∃ u ∈ D, ex u.2 ∧ e.1 ∈ out u.1 ∧ e.2 = u.2 ++ [hs e.1]
  cl : ∀ u ∈ D, ex u.2 → ∀ o ∈ out u.1, ∃ l, (o, l) ∈ D ++ P ∧ Le2 l (u.2 ++ [hs o])
  bg : (b, [hs b]) ∈ D ++ P
structure BJ (D : List (S × List Int)) (u : S × List Int) (P : List (S × List Int)) (dn os : List S) : Prop where
  sp : out u.1 = dn ++ os
  up : (out u.1).Pairwise fun x y => hs x < hs y
  eu : ex u.2
  nd : ((D ++ u :: P).map (·.1)).Nodup
  srt : ((D ++ u :: P).map (·.2)).Pairwise Lt2
  par : ∀ e ∈ D ++ u :: P, e = (b, [hs b]) ∨ (∃ v ∈ D, ex v.2 ∧ e.1 ∈ out v.1 ∧ e.2 = v.2 ++ [hs e.1]) ∨ (e.1 ∈ dn ∧ e.2 = u.2 ++ [hs e.1])
  cl : ∀ v ∈ D, ex v.2 → ∀ o ∈ out v.1, ∃ l, (o, l) ∈ D ++ u :: P ∧ Le2 l (v.2 ++ [hs o])
  cu : ∀ o ∈ dn, ∃ l, (o, l) ∈ D ++ u :: P ∧ Le2 l (u.2 ++ [hs o])
  bg : (b, [hs b]) ∈ D ++ u :: P
variable {hs out ex b}
theorem BI.start : BI hs out ex b [] [(b, [hs b])] :=
  ⟨by simp, by simp, fun e he => .inl (by simpa using he), (fun _ h => nomatch h), by simp⟩
theorem BI.open_ {D P : List (S × List Int)} {u : S × List Int} (h : BI hs out ex b D (u :: P)) (hu : ex u.2) (up : (out u.1).Pairwise fun x y => hs x < hs y) : BJ hs out ex b D u P [] (out u.1) :=
  ⟨rfl, up, hu, h.nd, h.srt, fun e he => (h.par e he).imp id .inl, h.cl, (fun _ h => nomatch h), h.bg⟩
theorem BI.pass {D P : List (S × List Int)} {u : S × List Int} (h : BI hs out ex b D (u :: P)) (hu : ¬ ex u.2) : BI hs out ex b (D ++ [u]) P := by
  have e : D ++ [u] ++ P = D ++ u :: P := by simp
  refine ⟨by rw [e]; exact h.nd, by rw [e]; exact h.srt, fun x hx => ?_, fun v hv hx o ho => ?_, by rw [e]; exact h.bg⟩
  · rcases h.par x (e ▸ hx) with z | ⟨v, hv, r⟩
    · exact .inl z
    · exact .inr ⟨v, List.mem_append_left _ hv, r⟩
  · rw [e]
    rcases List.mem_append.mp hv with hv | hv
    · exact h.cl v hv hx o ho
    · rw [List.mem_singleton.mp hv] at hx
      exact absurd hx hu
theorem BJ.done {D P : List (S × List Int)} {u : S × List Int} {dn : List S} (h : BJ hs out ex b D u P dn []) : BI hs out ex b (D ++ [u]) P := by
  have e : D ++ [u] ++ P = D ++ u :: P := by simp
  have sp : out u.1 = dn := by rw [h.sp, List.append_nil]
  refine ⟨by rw [e]; exact h.nd, by rw [e]; exact h.srt, fun x hx => ?_, fun v hv hx o ho => ?_, by rw [e]; exact h.bg⟩
  · rcases h.par x (e ▸ hx) with z | ⟨v, hv, r⟩ | ⟨h1, h2⟩
    · exact .inl z
    · exact .inr ⟨v, List.mem_append_left _ hv, r⟩
    · exact .inr ⟨u, by simp, h.eu, by rw [sp]; exact h1, h2⟩
  · rw [e]
    rcases List.mem_append.mp hv with hv | hv
    · exact h.cl v hv hx o ho
    · rw [List.mem_singleton.mp hv] at hx ho ⊢
      exact h.cu o (sp ▸ ho)
theorem BJ.ne {D P : List (S × List Int)} {u : S × List Int} {dn os : List S} (h : BJ hs out ex b D u P dn os) {e : S × List Int} (he : e ∈ D ++ u :: P) : 0 < e.2.length := by
  rcases h.par e he with z | ⟨v, _, _, _, z⟩ | ⟨_, z⟩
  · rw [z]; exact Nat.succ_pos _
  · rw [z, List.length_append]; exact Nat.succ_pos _
  · rw [z, List.length_append]; exact Nat.succ_pos _
/-- all that is there is ahead of what comes next -/
theorem BJ.less {D P : List (S × List Int)} {u : S × List Int} {dn os : List S} {o : S} (h : BJ hs out ex b D u P dn (o :: os)) {e : S × List Int} (he : e ∈ D ++ u :: P) : Lt2 e.2 (u.2 ++ [hs o]) := by
  have hu := h.ne (e := u) (by simp)
  rcases h.par e he with z | ⟨v, hv, _, _, z⟩ | ⟨h1, z⟩
  · rw [z]
    exact .inl (by simp; omega)
  · rw [z]
    refine Lt2.snoc _ _ ?_
    have := h.srt
    rw [List.map_append, List.map_cons, List.pairwise_append] at this
    exact this.2.2 v.2 (List.mem_map.mpr ⟨v, hv, rfl⟩) u.2 (List.mem_cons_self ..)
  · rw [z]
    refine Lt2.last _ ?_
    have := h.up
    rw [h.sp, List.pairwise_append] at this
    exact this.2.2 e.1 h1 o (List.mem_cons_self ..)
theorem BJ.skip {D P : List (S × List Int)} {u : S × List Int} {dn os : List S} {o : S} (h : BJ hs out ex b D u P dn (o :: os)) (hk : o ∈ (D ++ u :: P).map (·.1)) : BJ hs out ex b D u P (dn ++ [o]) os := by
  obtain ⟨e, he, rfl⟩ := List.mem_map.mp hk
  refine ⟨by rw [h.sp]; simp, h.up, h.eu, h.nd, h.srt, fun x hx => ?_, h.cl, fun x hx => ?_, h.bg⟩
  · rcases h.par x hx with z | z | ⟨h1, h2⟩
    · exact .inl z
    · exact .inr (.inl z)
    · exact .inr (.inr ⟨List.mem_append_left _ h1, h2⟩)
  · rcases List.mem_append.mp hx with hx | hx
    · exact h.cu x hx
    · rw [List.mem_singleton.mp hx]
      exact ⟨e.2, he, .inr (h.less he)⟩
theorem BJ.add {D P : List (S × List Int)} {u : S × List Int} {dn os : List S} {o : S} (h : BJ hs out ex b D u P dn (o :: os)) (hk : o ∉ (D ++ u :: P).map (·.1)) : BJ hs out ex b D u (P ++ [(o, u.2 ++ [hs o])]) (dn ++ [o]) os := by
  have e : D ++ u :: (P ++ [(o, u.2 ++ [hs o])]) = (D ++ u :: P) ++ [(o, u.2 ++ [hs o])] := by simp
  refine ⟨by rw [h.sp]; simp, h.up, h.eu, ?_, ?_, fun x hx => ?_, fun v hv hx z hz => ?_, fun x hx => ?_, by rw [e]; exact List.mem_append_left _ h.bg⟩
  · rw [e, List.map_append]
    refine List.nodup_append.mpr ⟨h.nd, by simp, fun x hx y hy => ?_⟩
    have hy' : y = o := by simpa using hy
    rw [hy']
    exact fun z => hk (z ▸ hx)
  · rw [e, List.map_append, List.pairwise_append]
    refine ⟨h.srt, by simp, fun x hx y hy => ?_⟩
    have hy' : y = u.2 ++ [hs o] := by simpa using hy
    rw [hy']
    obtain ⟨z, hz, rfl⟩ := List.mem_map.mp hx
    exact h.less hz
  · rw [e] at hx
    rcases List.mem_append.mp hx with hx | hx
    · rcases h.par x hx with z | z | ⟨h1, h2⟩
      · exact .inl z
      · exact .inr (.inl z)
      · exact .inr (.inr ⟨List.mem_append_left _ h1, h2⟩)
    · rw [List.mem_singleton.mp hx]
      exact .inr (.inr ⟨by simp, rfl⟩)
  · obtain ⟨l, h1, h2⟩ := h.cl v hv hx z hz
    exact ⟨l, by rw [e]; exact List.mem_append_left _ h1, h2⟩
  · rcases List.mem_append.mp hx with hx | hx
    · obtain ⟨l, h1, h2⟩ := h.cu x hx
      exact ⟨l, by rw [e]; exact List.mem_append_left _ h1, h2⟩
    · rw [List.mem_singleton.mp hx]
      exact ⟨u.2 ++ [hs o], by rw [e]; simp, .inl rfl⟩
/-- what stands there is a walk -/
theorem BI.walks {D : List (S × List Int)} (h : BI hs out ex b D []) : ∀ (n : Nat) (e : S × List Int), e ∈ D → e.2.length ≤ n → Wk hs out b e.1 e.2
  | 0, e, he, hn => by
    rcases h.par e (by simpa using he) with z | ⟨v, _, _, _, z⟩
    · rw [z] at hn; simp at hn
    · rw [z] at hn; simp at hn
  | n + 1, e, he, hn => by
    rcases h.par e (by simpa using he) with z | ⟨v, hv, _, ho, z⟩
    · rw [z]; exact .one
    · rw [z]
      refine .step (BI.walks h n v hv ?_) ho
      rw [z] at hn
      simp at hn
      exact hn
theorem Wk.ne {s : S} {l : List Int} (h : Wk hs out b s l) : 0 < l.length := by
  cases h with
  | one => exact Nat.succ_pos _
  | step _ _ => rw [List.length_append]; exact Nat.succ_pos _
/-- and none is ahead of it -/
theorem BI.best {D : List (S × List Int)} (h : BI hs out ex b D []) (exm : ∀ l l' : List Int, l.length ≤ l'.length → ex l' → ex l) {s : S} {w : List Int} (hw : Wk hs out b s w) : (w.length = 1 ∨ ex w.dropLast) → ∃ l, (s, l) ∈ D ∧ Le2 l w := by
  induction hw with
  | one => exact fun _ => ⟨_, by simpa using h.bg, .inl rfl⟩
  | @step u l o hw ho ih =>
    intro hx
    have hl := hw.ne
    have hx' : ex l := by
      rcases hx with z | z
      · rw [List.length_append, List.length_singleton] at z; omega
      · rwa [List.dropLast_concat] at z
    obtain ⟨l', h1, h2⟩ := ih (by
      by_cases hc : l.length = 1
      · exact .inl hc
      · exact .inr (exm _ _ (by rw [List.length_dropLast]; omega) hx'))
    obtain ⟨l2, h3, h4⟩ := h.cl (u, l') h1 (exm _ _ h2.len hx') o ho
    exact ⟨l2, by simpa using h3, h4.trans (h2.snoc _)⟩
/-- no more entries than there are stands -/
theorem BI.few {D P : List (S × List Int)} (h : BI hs out ex b D P) {U : List S} (hU : ∀ s, (∃ l, (s, l) ∈ D ++ P) → s ∈ U) : D.length + P.length ≤ U.length := by
  have := len_same.go h.nd (b := U) fun x hx => by
    obtain ⟨e, he, rfl⟩ := List.mem_map.mp hx
    exact hU e.1 ⟨e.2, he⟩
  rw [List.length_map, List.length_append] at this
  exact this
theorem BI.one {D : List (S × List Int)} (h : BI hs out ex b D []) {s : S} {l : List Int} (hl : (s, l) ∈ D) : dval D s = some l := by
  have nd := h.nd
  rw [List.append_nil] at nd
  clear h
  induction D with
  | nil => cases hl
  | cons e D ih =>
    rw [List.map_cons, List.nodup_cons] at nd
    rcases List.mem_cons.mp hl with rfl | hl
    · exact dval_pos rfl
    · rw [dval_neg (fun z => nd.1 (by rw [z]; exact List.mem_map.mpr ⟨_, hl, rfl⟩))]
      exact ih hl nd.2
theorem dval_mem {β : Type} {D : List (S × β)} {s : S} {l : β} (h : dval D s = some l) : (s, l) ∈ D := by
  induction D with
  | nil => cases h
  | cons e D ih =>
    by_cases hc : e.1 = s
    · rw [dval_pos hc] at h
      cases h
      rw [← hc]
      exact List.mem_cons_self ..
    · rw [dval_neg hc] at h
      exact List.mem_cons_of_mem _ (ih h)
theorem dval_isS {β : Type} {D : List (S × β)} {s : S} : (dval D s).isSome = true ↔ s ∈ D.map (·.1) := by
  induction D with
  | nil => simp [dval_nil]
  | cons e D ih =>
    rw [List.map_cons, List.mem_cons]
    by_cases hc : e.1 = s
    · rw [dval_pos hc]; simp [hc]
    · rw [dval_neg hc, ih]
      constructor
      · exact .inr
      · rintro (z | z)
        · exact absurd z.symm hc
        · exact z
theorem dput_new {β : Type} {D : List (S × β)} {s : S} {y : β} (h : s ∉ D.map (·.1)) : dput D s y = D ++ [(s, y)] := by
  unfold dput
  rw [if_neg (fun z => h (dval_isS.mp z))]
end
end G
/-! Plain laws: data that are shown in a text short enough. -/
namespace G
open PySem PySem.Spec PyProof.Rows L2 TL
def Fit (n : Nat) (d : PyData) : Prop := d.weight ≤ n ∧ d.leavesShort 40 = true ∧ d.showable = true
theorem Fit.mono {n m : Nat} {d : PyData} (h : Fit n d) (k : n ≤ m) : Fit m d := ⟨Nat.le_trans h.1 k, h.2⟩
theorem Fit.int {i : Int} (h : i.natAbs < 10 ^ 38) : Fit 128 (.int i) := by
  have h1 : i.natAbs < 2 ^ 127 := Nat.lt_trans h (by decide)
  have h2 : i.natAbs.log2 < 127 := by
    by_cases z : i.natAbs = 0
    · rw [z]; decide
    · exact (Nat.log2_lt z).mpr h1
  have h3 : (PyData.shown (.int i)).length ≤ 39 := by
    have e : PyData.shown (.int i) = Str.ofString (toString i) := rfl
    rw [e, ofString_len]
    exact int_text_length_le10 (by decide) h
  refine ⟨?_, ?_, ?_⟩
  · simp only [PyData.weight]
    split <;> omega
  · simp only [PyData.leavesShort]; exact decide_eq_true (by omega)
  · simp only [PyData.showable]; exact decide_eq_true (by omega)
theorem Fit.none_ : Fit 0 .none := ⟨Nat.le_refl _, rfl, rfl⟩
theorem Fit.bool_ {b : Bool} : Fit 0 (.bool b) := ⟨Nat.le_refl _, rfl, rfl⟩
theorem Fit.str {x : Str} {n : Nat} (h : (tl x).length ≤ n) (hc : ∀ c ∈ tl x, c < 16 ^ 8) : Fit n (.str x) := by
  refine ⟨?_, ?_, rfl⟩
  · simp only [PyData.weight]; rw [← Array.length_toList]; exact h
  · simp only [PyData.leavesShort, List.all_eq_true, decide_eq_true_eq]; exact hc
theorem Fit.opt {α : Type} [Enc α] {o : Option α} {n : Nat} (h : ∀ x, o = some x → Fit n (Enc.d x)) : Fit n (Enc.d o) := by
  cases o with
  | none => exact Fit.none_.mono (Nat.zero_le _)
  | some x => exact h x rfl
def FitA (n : Nat) (ds : List PyData) : Prop := PyData.weightAll ds ≤ n ∧ PyData.leavesShortAll 40 ds = true ∧ PyData.showableAll ds = true
theorem FitA.nil : FitA 0 [] := ⟨Nat.le_refl _, rfl, rfl⟩
theorem FitA.cons {n m : Nat} {d : PyData} {ds : List PyData} (h : Fit n d) (hs : FitA m ds) : FitA (n + 1 + m) (d :: ds) := by
  refine ⟨?_, ?_, ?_⟩
  · simp only [PyData.weightAll]; have := h.1; have := hs.1; omega
  · simp only [PyData.leavesShortAll, Bool.and_eq_true]; exact ⟨h.2.1, hs.2.1⟩
  · simp only [PyData.showableAll, Bool.and_eq_true]; exact ⟨h.2.2, hs.2.2⟩
theorem FitA.mono {n m : Nat} {ds : List PyData} (h : FitA n ds) (k : n ≤ m) : FitA m ds := ⟨Nat.le_trans h.1 k, h.2⟩
theorem FitA.all {n : Nat} : ∀ {ds : List PyData}, (∀ d ∈ ds, Fit n d) → FitA (ds.length * (n + 1)) ds
  | [], _ => FitA.nil.mono (Nat.zero_le _)
  | d :: ds, h => by
    refine (FitA.cons (h d (List.mem_cons_self ..)) (FitA.all fun x hx => h x (List.mem_cons_of_mem _ hx))).mono ?_
    rw [List.length_cons, Nat.add_mul, Nat.one_mul]
    omega
theorem Fit.list {n : Nat} {ds : List PyData} (h : FitA n ds) : Fit n (.list ds) := ⟨h.1, h.2⟩
theorem Fit.tuple {n : Nat} {ds : List PyData} (h : FitA n ds) : Fit n (.tuple ds) := ⟨h.1, h.2⟩
theorem Fit.L {α : Type} [Enc α] {xs : List α} {n m : Nat} (h : ∀ x ∈ xs, Fit n (Enc.d x)) (hm : xs.length ≤ m) : Fit (m * (n + 1)) (Enc.d xs) := by
  refine Fit.list ((FitA.all (n := n) (ds := xs.map Enc.d) fun d hd => ?_).mono ?_)
  · obtain ⟨x, hx, rfl⟩ := List.mem_map.mp hd
    exact h x hx
  · rw [List.length_map]; exact Nat.mul_le_mul_right _ hm
theorem Fit.VT {α : Type} [Enc α] {xs : VT α} {n m : Nat} (h : ∀ x ∈ xs.l, Fit n (Enc.d x)) (hm : xs.l.length ≤ m) : Fit (m * (n + 1)) (Enc.d xs) := by
  have := Fit.L h hm
  exact ⟨this.1, this.2⟩
theorem reprO_some {α : Type} [Enc α] {x : α} {n : Nat} (h : Fit n (Enc.d x)) (hn : n ≤ 399000) : reprO x = some (Enc.d x).shown := by
  have h1 := PyData.shown_le 40 (by decide) _ h.2.1
  have h2 := h.1
  unfold reprO
  rw [if_pos ⟨h.2.2, by rw [sizeLine_eq]; omega⟩]
theorem reprO_O {α : Type} [Enc α] {x : α} {n : Nat} {P : Str → Prop} (h : Fit n (Enc.d x)) (hn : n ≤ 399000) (p : P (Enc.d x).shown) : O1 (reprO x) P := ⟨_, reprO_some h hn, p⟩
theorem Fit.ints {xs : List Int} {m : Nat} (h : ∀ x ∈ xs, x.natAbs < 10 ^ 38) (hm : xs.length ≤ m) : Fit (m * 129) (Enc.d xs) := Fit.L (fun x hx => Fit.int (h x hx)) hm
theorem Fit.pair {x y : Int} (hx : x.natAbs < 10 ^ 38) (hy : y.natAbs < 10 ^ 38) : Fit 258 (Enc.d (x, y)) := Fit.tuple ((FitA.cons (Fit.int hx) (FitA.cons (Fit.int hy) FitA.nil)).mono (by omega))
/-! ### a loop of a law's own, that goes on -/
section
variable {α R S T : Type} {I : S → Prop}
def OL (I : S → Prop) (o : Option (Lp S R)) : Prop := ∃ b, o = some (.go b) ∧ I b
theorem OL.ret {b : S} (h : I b) : OL I (some (.go b) : Option (Lp S R)) := ⟨b, rfl, h⟩
theorem OL.bind {o : Option (α × T)} {J : T → Prop} {f : α → T → Option (Lp S R)} {P : α → Prop} (h : O2 J o P) (k : ∀ a b, J b → P a → OL I (f a b)) : OL I (bind2 o f) := by
  obtain ⟨a, b, rfl, i, p⟩ := h
  exact k a b i p
theorem OL.bind1 {o : Option α} {f : α → Option (Lp S R)} {P : α → Prop} (h : O1 o P) (k : ∀ a, P a → OL I (f a)) : OL I (Option.bind o f) := by
  obtain ⟨a, rfl, p⟩ := h
  exact k a p
theorem OL.ite {c : Bool} {x y : Option (Lp S R)} (h1 : c = true → OL I x) (h2 : c = false → OL I y) : OL I (if c = true then x else y) := by
  cases c with
  | true => exact h1 rfl
  | false => exact h2 rfl
theorem OL.bL1 {U V : Type} {o : Option (Lp S U)} {f : S → Option (Lp T R)} {g : U → Option (Lp T R)} {J : T → Prop} (h : OL I o) (k : ∀ b, I b → OL J (f b)) : OL J (bindL1 o f g) := by
  obtain ⟨b, rfl, i⟩ := h
  exact k b i
end
end G
namespace K42
open PySem PySem.Spec PyProof.Rows L2 TL G
def topS (i : Nat) : Stmt := PySem.Challenge.pw_wishnet_k42_rules_of_a_way.main.body.getD i (.Pass ⟨0, 0, 0, 0⟩)
abbrev s_done_behind : Stmt := topS 2
abbrev s_rules_of : Stmt := topS 3
abbrev s_l_bag : Stmt := topS 5
abbrev s_l_stirred : Stmt := topS 6
abbrev s_l_draw : Stmt := topS 7
abbrev s_l_mixed : Stmt := topS 8
abbrev s_l_alike : Stmt := topS 9
abbrev s_l_ties : Stmt := topS 10
abbrev s_l_web : Stmt := topS 11
abbrev s_l_torn : Stmt := topS 12
abbrev s_l_tie : Stmt := topS 13
abbrev s_l_gone : Stmt := topS 14
abbrev s_l_done : Stmt := topS 15
abbrev s_l_walked : Stmt := topS 16
abbrev s_l_unrolled : Stmt := topS 17
abbrev s_l_due : Stmt := topS 18
abbrev s_law : Stmt := topS 19
structure Txt (K : PySem.W.Frag) (mg : Str → Option Value) where
  a_done_behind : Addr
  d_done_behind : FuncData
  F_done_behind : FnP K "done_behind" s_done_behind a_done_behind d_done_behind
  g_done_behind : mg "done_behind" = some (.ref a_done_behind)
  a_rules_of : Addr
  d_rules_of : FuncData
  F_rules_of : FnP K "rules_of" s_rules_of a_rules_of d_rules_of
  g_rules_of : mg "rules_of" = some (.ref a_rules_of)
  a_l_bag : Addr
  d_l_bag : FuncData
  F_l_bag : FnP K "_law_bag" s_l_bag a_l_bag d_l_bag
  g_l_bag : mg "_law_bag" = some (.ref a_l_bag)
  a_l_stirred : Addr
  d_l_stirred : FuncData
  F_l_stirred : FnP K "_law_stirred" s_l_stirred a_l_stirred d_l_stirred
  g_l_stirred : mg "_law_stirred" = some (.ref a_l_stirred)
  a_l_draw : Addr
  d_l_draw : FuncData
  F_l_draw : FnP K "_law_draw" s_l_draw a_l_draw d_l_draw
  g_l_draw : mg "_law_draw" = some (.ref a_l_draw)
  a_l_mixed : Addr
  d_l_mixed : FuncData
  F_l_mixed : FnP K "_law_mixed" s_l_mixed a_l_mixed d_l_mixed
  g_l_mixed : mg "_law_mixed" = some (.ref a_l_mixed)
  a_l_alike : Addr
  d_l_alike : FuncData
  F_l_alike : FnP K "_law_alike" s_l_alike a_l_alike d_l_alike
  g_l_alike : mg "_law_alike" = some (.ref a_l_alike)
  a_l_ties : Addr
  d_l_ties : FuncData
  F_l_ties : FnP K "_law_ties" s_l_ties a_l_ties d_l_ties
  g_l_ties : mg "_law_ties" = some (.ref a_l_ties)
  a_l_web : Addr
  d_l_web : FuncData
  F_l_web : FnP K "_law_web" s_l_web a_l_web d_l_web
  g_l_web : mg "_law_web" = some (.ref a_l_web)
  a_l_torn : Addr
  d_l_torn : FuncData
  F_l_torn : FnP K "_law_torn" s_l_torn a_l_torn d_l_torn
  g_l_torn : mg "_law_torn" = some (.ref a_l_torn)
  a_l_tie : Addr
  d_l_tie : FuncData
  F_l_tie : FnP K "_law_tie" s_l_tie a_l_tie d_l_tie
  g_l_tie : mg "_law_tie" = some (.ref a_l_tie)
  a_l_gone : Addr
  d_l_gone : FuncData
  F_l_gone : FnP K "_law_gone" s_l_gone a_l_gone d_l_gone
  g_l_gone : mg "_law_gone" = some (.ref a_l_gone)
  a_l_done : Addr
  d_l_done : FuncData
  F_l_done : FnP K "_law_done" s_l_done a_l_done d_l_done
  g_l_done : mg "_law_done" = some (.ref a_l_done)
  a_l_walked : Addr
  d_l_walked : FuncData
  F_l_walked : FnP K "_law_walked" s_l_walked a_l_walked d_l_walked
  g_l_walked : mg "_law_walked" = some (.ref a_l_walked)
  a_l_unrolled : Addr
  d_l_unrolled : FuncData
  F_l_unrolled : FnP K "_law_unrolled" s_l_unrolled a_l_unrolled d_l_unrolled
  g_l_unrolled : mg "_law_unrolled" = some (.ref a_l_unrolled)
  a_l_due : Addr
  d_l_due : FuncData
  F_l_due : FnP K "_law_due" s_l_due a_l_due d_l_due
  g_l_due : mg "_law_due" = some (.ref a_l_due)
  a_law : Addr
  d_law : FuncData
  F_law : FnP K "law" s_law a_law d_law
  g_law : mg "law" = some (.ref a_law)
  n_abs : mg "abs" = none
  n_all : mg "all" = none
  n_bool : mg "bool" = none
  n_int : mg "int" = none
  n_isinstance : mg "isinstance" = none
  n_len : mg "len" = none
  n_list : mg "list" = none
  n_max : mg "max" = none
  n_min : mg "min" = none
  n_range : mg "range" = none
  n_repr : mg "repr" = none
  n_set : mg "set" = none
  n_sorted : mg "sorted" = none
  n_str : mg "str" = none
  n_tuple : mg "tuple" = none
  n_zip : mg "zip" = none
  t_OUT : Tok
  k_OUT : mg "OUT" = some (.int (-1) t_OUT)
section
variable {K : PySem.W.Frag} {mg : Str → Option Value}
abbrev s_l_mixed_2 : Stmt := s_l_mixed
abbrev Txt.a_l_mixed_2 (T : Txt K mg) : Addr := T.a_l_mixed
abbrev Txt.d_l_mixed_2 (T : Txt K mg) : FuncData := T.d_l_mixed
theorem Txt.F_l_mixed_2 (T : Txt K mg) : FnP K "_law_mixed" s_l_mixed_2 T.a_l_mixed_2 T.d_l_mixed_2 := T.F_l_mixed
theorem Txt.g_l_mixed_2 (T : Txt K mg) : mg "_law_mixed" = some (.ref T.a_l_mixed_2) := T.g_l_mixed
abbrev s_l_done_2 : Stmt := s_l_done
abbrev Txt.a_l_done_2 (T : Txt K mg) : Addr := T.a_l_done
abbrev Txt.d_l_done_2 (T : Txt K mg) : FuncData := T.d_l_done
theorem Txt.F_l_done_2 (T : Txt K mg) : FnP K "_law_done" s_l_done_2 T.a_l_done_2 T.d_l_done_2 := T.F_l_done
theorem Txt.g_l_done_2 (T : Txt K mg) : mg "_law_done" = some (.ref T.a_l_done_2) := T.g_l_done
end
/-! ### the bag, the draws -/
abbrev Bag := G.Bag2
abbrev BagAt := @G.BagAt2
structure BOk (b : Bag) : Prop where
  lo : 0 ≤ b.stir
  hi : b.stir < 2147483648
  len : b.cells.length ≤ 63
abbrev N_l_bag : List Str := ["_law_script", "_law_stir", "_law_cell"]
theorem sc_l_bag : FnScope N_l_bag ["_law_script"] (defScope s_l_bag) := ⟨rfl, rfl, rfl, by decide +kernel, rfl, by decide +kernel, by decide +kernel⟩
def sp_l_bag (K : PySem.W.Frag) : Sp := fun vs H Q _ => ∃ (a : Addr) (ns : List Int), vs = [.ref a] ∧ SqL K H a (ns.map V.int) ∧ ns.length ≤ 63 ∧ (∀ (B C : Addr) (b : Bag) (F H' : Hp), Same F H' → BagAt F H' B C b → BOk b → SqL K H' a (ns.map V.int) → (∀ o, H a = some o → ¬ Bc B C a) → Q (.ref B) H')
def nxt (s c : Int) : Int := (s ^ 3 + 69621 * s + 1031 * c + 1) % 2147483647
def stirN (z c : Int) : Nat → Int × Int × Int
  | 0 => (z, c, 0)
  | n + 1 => (nxt (stirN z c n).1 ((stirN z c n).2.1 + 1), (stirN z c n).2.1 + 1, (stirN z c n).2.2 * 134217728 + nxt (stirN z c n).1 ((stirN z c n).2.1 + 1) / 16)
def m_l_stirred (b : Bag) (n : Int) : Option (Int × Bag) :=
  if (0 < n ∧ Builtin.Int.intBits n < 9000) ∧ (0 ≤ b.stir ∧ b.stir < 2147483648) then
    some ((stirN b.stir b.cnt (1 + Builtin.Int.intBits n / 27)).2.2 % n, { b with stir := (stirN b.stir b.cnt (1 + Builtin.Int.intBits n / 27)).1, cnt := (stirN b.stir b.cnt (1 + Builtin.Int.intBits n / 27)).2.1 })
  else none
def m_l_draw (b : Bag) (n : Int) : Option (Int × Bag) :=
  if (0 < n ∧ n.natAbs.log2 < 9000) ∧ b.cells.length ≤ sizeLine then
    if b.left = 0 then
      match b.cells[b.at_]? with
      | some x => some (x % n, { b with at_ := b.at_ + 1, left := x / n })
      | none => m_l_stirred b n
    else some (b.left % n, { b with left := b.left / n })
  else none
abbrev N_l_stirred : List Str := ["_law_bag_here", "_law_many", "_law_found", "_law_k"]
theorem sc_l_stirred : FnScope N_l_stirred ["_law_bag_here", "_law_many"] (defScope s_l_stirred) := ⟨rfl, rfl, rfl, by decide +kernel, rfl, by decide +kernel, by decide +kernel⟩
def sp_l_stirred (K : PySem.W.Frag) : Sp := fun vs H Q _ => ∃ (F : Hp) (B C : Addr) (b : Bag) (y_many : Int) (r : Int) (b' : Bag), vs = [.ref B, .int y_many] ∧ Same F H ∧ BagAt F H B C b ∧ m_l_stirred b y_many = some (r, b') ∧ (∀ F' H', Gr (Bc B C) F H F' H' → BagAt F' H' B C b' → Q (.int r) H')
abbrev N_l_draw : List Str := ["_law_bag_here", "_law_many", "_law_found"]
theorem sc_l_draw : FnScope N_l_draw ["_law_bag_here", "_law_many"] (defScope s_l_draw) := ⟨rfl, rfl, rfl, by decide +kernel, rfl, by decide +kernel, by decide +kernel⟩
def sp_l_draw (K : PySem.W.Frag) : Sp := fun vs H Q _ => ∃ (F : Hp) (B C : Addr) (b : Bag) (y_many : Int) (r : Int) (b' : Bag), vs = [.ref B, .int y_many] ∧ Same F H ∧ BagAt F H B C b ∧ m_l_draw b y_many = some (r, b') ∧ (∀ F' H', Gr (Bc B C) F H F' H' → BagAt F' H' B C b' → Q (.int r) H')
theorem atI_map {xs : List Int} {k : Nat} {x : Int} (h : xs[k]? = some x) : atI (xs.map V.int) (k : Nat) = some (.int x) := atI_nat (by rw [List.getElem?_map, h]; rfl)
/-! ### alike -/
abbrev N_l_alike : List Str := ["_law_found", "_law_due_here", "_law_k"]
theorem sc_l_alike : FnScope N_l_alike ["_law_found", "_law_due_here"] (defScope s_l_alike) := ⟨rfl, rfl, rfl, by decide +kernel, rfl, by decide +kernel, by decide +kernel⟩

/-! ### done_behind -/
def m_done_behind (x_by : (VT Int)) (x_done : Int) (x_house : Int) : Option Int :=
  Option.bind (if (decide (x_done < ((((x_by).l).length : Nat) : Int))) then (Option.bind (atI (x_by).l x_done) fun t13 => some ((eqI t13 x_house))) else some false) fun c8 =>
  some (x_done + (toI c8))
abbrev N_done_behind : List Str := ["by", "done", "house"]
theorem sc_done_behind : FnScope N_done_behind ["by", "done", "house"] (defScope s_done_behind) := ⟨rfl, rfl, rfl, by decide +kernel, rfl, by decide +kernel, by decide +kernel⟩
def sp_done_behind (K : PySem.W.Frag) : Sp := fun vs H Q _ => ∃ (v_x_by : V) (x_by : (VT Int)) (x_done : Int) (x_house : Int) (r : Int), vs = [v_x_by, .int x_done, .int x_house] ∧ R K H v_x_by x_by ∧ m_done_behind x_by x_done x_house = some r ∧ (∀ F' H', Gr M0 H H F' H' → Q (.int r) H')
/-! ### rules_of -/
def m_rules_of_l1 (x_number : Int) (x_by : (VT Int)) : List (Int × Int) → Int → Int → (List (Int × (T4 Int Int Int Int))) → (Option (Int × Int × (List (Int × (T4 Int Int Int Int)))))
  | [], x_done, x_told, x_found => some (x_done, x_told, x_found)
  | e84 :: xs_, x_done, x_told, x_found =>
    Option.bind (m_done_behind x_by x_done e84.2) fun r106 =>
    Option.bind (appL x_found (e84.1, (T4.mk x_number x_told e84.2 r106))) fun t133 =>
    m_rules_of_l1 x_number x_by xs_ r106 r106 t133
def m_rules_of (x_net : (T4 Int Int (List (Int × Int)) (List Int))) (x_one : (T4 Int Int (T4 Int (VT Int) (VT Int) (Option Int)) (List Int))) : Option (List (Int × (T4 Int Int Int Int))) :=
  Option.bind (some ([] : List (Int × (T4 Int Int Int Int)))) fun x_found28 =>
  Option.bind (atI x_one.e (0 : Int)) fun t32 =>
  Option.bind (m_done_behind x_one.c.b (0 : Int) t32) fun r43 =>
  bind3 (m_rules_of_l1 x_one.a x_one.c.b (List.zip x_one.e (cutL x_one.e (some (1 : Int)) none)) r43 (0 : Int) x_found28) fun x_done58 x_told59 x_found60 =>
  Option.bind (atI x_one.e (-(1 : Int))) fun t157 =>
  Option.bind (appL x_found60 (t157, (T4.mk x_one.a x_told59 (-1 : Int) x_one.c.a))) fun t180 =>
  some t180
abbrev N_rules_of : List Str := ["net", "one", "number", "door", "order", "houses", "goal", "by", "past", "most", "found", "told", "done", "here", "there"]
theorem sc_rules_of : FnScope N_rules_of ["net", "one"] (defScope s_rules_of) := ⟨rfl, rfl, rfl, by decide +kernel, rfl, by decide +kernel, by decide +kernel⟩
def sp_rules_of (K : PySem.W.Frag) : Sp := fun vs H Q _ => ∃ (F : Hp) (v_x_net : V) (x_net : (T4 Int Int (List (Int × Int)) (List Int))) (v_x_one : V) (x_one : (T4 Int Int (T4 Int (VT Int) (VT Int) (Option Int)) (List Int))) (r : (List (Int × (T4 Int Int Int Int)))), vs = [v_x_net, v_x_one] ∧ Same F H ∧ R K F v_x_net x_net ∧ R K F v_x_one x_one ∧ m_rules_of x_net x_one = some r ∧ (∀ p ws F' H', Gr M0 F H F' H' → H p = none → H' p = some (.lst ws) → F' p = none → ws.length ≤ sizeLine → RL K F' ws r → Q (.ref p) H')
/-! ### l_mixed -/
def m_l_mixed_c1  : List Int → (List Int) → Bag → Option (List Int × (List Int) × Bag)
  | [], y_left, b => some ([], y_left, b)
  | e45 :: xs_, y_left, b =>
    bind2 (m_l_draw b (((y_left).length : Nat) : Int)) fun r47 b48 =>
    bind2 (popI y_left r47) fun t58 y_left59 =>
    bind3 (m_l_mixed_c1  xs_ y_left59 b48) fun rest74 y_left75 b76 => some (t58 :: rest74, y_left75, b76)
def m_l_mixed (b : Bag) (y_row : (List Int)) : Option ((List Int) × Bag) :=
  Option.bind (rangeO1 (((y_row).length : Nat) : Int)) fun l8 =>
  bind3 (m_l_mixed_c1  l8 y_row b) fun l19 y_left21 b20 =>
  some (l19, b20)
abbrev N_l_mixed : List Str := ["_law_bag_here", "_law_row", "_law_left", "_law_k"]
theorem sc_l_mixed : FnScope N_l_mixed ["_law_bag_here", "_law_row"] (defScope s_l_mixed) := ⟨rfl, rfl, rfl, by decide +kernel, rfl, by decide +kernel, by decide +kernel⟩
def sp_l_mixed (K : PySem.W.Frag) : Sp := fun vs H Q _ => ∃ (F : Hp) (B C : Addr) (b : Bag) (p_y_row : Addr) (ws_y_row : List V) (y_row : (List Int)) (r : (List Int)) (b' : Bag), vs = [.ref B, .ref p_y_row] ∧ Same F H ∧ BagAt F H B C b ∧ SqL K H p_y_row ws_y_row ∧ ws_y_row.length ≤ sizeLine ∧ RL K F ws_y_row y_row ∧ (∀ F' H', Gr (Bc B C) F H F' H' → SqL K H' p_y_row ws_y_row) ∧ m_l_mixed b y_row = some (r, b') ∧ (∀ p ws F' H', Gr (Bc B C) F H F' H' → BagAt F' H' B C b' → H p = none → H' p = some (.lst ws) → F' p = none → ws.length ≤ sizeLine → RL K F' ws r → Q (.ref p) H')
/-! ### l_mixed_2 -/
def m_l_mixed_2_c1  : List Int → (List (Int × Int)) → Bag → Option (List (Int × Int) × (List (Int × Int)) × Bag)
  | [], y_left, b => some ([], y_left, b)
  | e45 :: xs_, y_left, b =>
    bind2 (m_l_draw b (((y_left).length : Nat) : Int)) fun r47 b48 =>
    bind2 (popI y_left r47) fun t58 y_left59 =>
    bind3 (m_l_mixed_2_c1  xs_ y_left59 b48) fun rest74 y_left75 b76 => some (t58 :: rest74, y_left75, b76)
def m_l_mixed_2 (b : Bag) (y_row : (List (Int × Int))) : Option ((List (Int × Int)) × Bag) :=
  Option.bind (rangeO1 (((y_row).length : Nat) : Int)) fun l8 =>
  bind3 (m_l_mixed_2_c1  l8 y_row b) fun l19 y_left21 b20 =>
  some (l19, b20)
abbrev N_l_mixed_2 : List Str := ["_law_bag_here", "_law_row", "_law_left", "_law_k"]
theorem sc_l_mixed_2 : FnScope N_l_mixed_2 ["_law_bag_here", "_law_row"] (defScope s_l_mixed_2) := ⟨rfl, rfl, rfl, by decide +kernel, rfl, by decide +kernel, by decide +kernel⟩
def sp_l_mixed_2 (K : PySem.W.Frag) : Sp := fun vs H Q _ => ∃ (F : Hp) (B C : Addr) (b : Bag) (p_y_row : Addr) (ws_y_row : List V) (y_row : (List (Int × Int))) (r : (List (Int × Int))) (b' : Bag), vs = [.ref B, .ref p_y_row] ∧ Same F H ∧ BagAt F H B C b ∧ SqL K H p_y_row ws_y_row ∧ ws_y_row.length ≤ sizeLine ∧ RL K F ws_y_row y_row ∧ (∀ F' H', Gr (Bc B C) F H F' H' → SqL K H' p_y_row ws_y_row) ∧ m_l_mixed_2 b y_row = some (r, b') ∧ (∀ p ws F' H', Gr (Bc B C) F H F' H' → BagAt F' H' B C b' → H p = none → H' p = some (.lst ws) → F' p = none → ws.length ≤ sizeLine → RL K F' ws r → Q (.ref p) H')
/-! ### l_ties -/
def m_l_ties_l1 (y_turn : (List Int)) (y_shape : Int) : List Int → (List (Int × Int)) → Bag → (Option ((List (Int × Int)) × Bag))
  | [], y_found, b => some (y_found, b)
  | e87 :: xs_, y_found, b =>
    bind2 (m_l_draw b e87) fun r89 b90 =>
    bind2 (m_l_draw b90 e87) fun r100 b101 =>
    Option.bind (atI ([r89, (e87 - (1 : Int)), (0 : Int), r100] : List Int) y_shape) fun t122 =>
    Option.bind (atI y_turn t122) fun t127 =>
    bind2 (if (decide (y_shape < (3 : Int))) then some (true, b101) else (bind2 (m_l_draw b101 (5 : Int)) fun r137 b138 => some ((decide ((0 : Int) < r137)), b138))) fun c132 b134 =>
    if c132 then (Option.bind (atI y_turn e87) fun t158 =>
 Option.bind (atI y_turn e87) fun t163 =>
 Option.bind (appL y_found ((if t127 < t158 then t127 else t158), (if t127 > t163 then t127 else t163))) fun t181 =>
 m_l_ties_l1 y_turn y_shape xs_ t181 b134) else (m_l_ties_l1 y_turn y_shape xs_ y_found b134)
def m_l_ties_l2 (y_many : Int) : List Int → (List (Int × Int)) → Bag → (Option ((List (Int × Int)) × Bag))
  | [], y_found, b => some (y_found, b)
  | e270 :: xs_, y_found, b =>
    bind2 (m_l_draw b y_many) fun r272 b273 =>
    bind2 (m_l_draw b273 y_many) fun r282 b283 =>
    Option.bind (some (sortI ([r272, r282] : List Int))) fun y_ends317 =>
    Option.bind (atI y_ends317 (0 : Int)) fun t321 =>
    Option.bind (atI y_ends317 (1 : Int)) fun t326 =>
    Option.bind (if (neI t321 t326) then (Option.bind (atI y_ends317 (0 : Int)) fun t336 => Option.bind (atI y_ends317 (1 : Int)) fun t341 => some (((!inD (t336, t341) y_found) && (decide ((((y_found).length : Nat) : Int) < (20 : Int)))))) else some false) fun c331 =>
    if c331 then (Option.bind (atI y_ends317 (0 : Int)) fun t386 =>
 Option.bind (atI y_ends317 (1 : Int)) fun t391 =>
 Option.bind (appL y_found (t386, t391)) fun t409 =>
 m_l_ties_l2 y_many xs_ t409 b283) else (m_l_ties_l2 y_many xs_ y_found b283)
def m_l_ties (b : Bag) (y_many : Int) : Option ((List (Int × Int)) × Bag) :=
  Option.bind (rangeO1 y_many) fun l1 =>
  bind2 (m_l_mixed b l1) fun r17 b18 =>
  bind2 (m_l_draw b18 (4 : Int)) fun r37 b38 =>
  Option.bind (some ([] : List (Int × Int))) fun y_found59 =>
  Option.bind (rangeO (1 : Int) y_many) fun l63 =>
  bind2 (m_l_ties_l1 r17 r37 l63 y_found59 b38) fun y_found66 b67 =>
  bind2 (m_l_draw b67 (3 : Int)) fun r218 b219 =>
  Option.bind (atI ([(3 : Int), (10 : Int), (21 : Int)] : List Int) r218) fun t230 =>
  bind2 (m_l_draw b219 t230) fun r235 b236 =>
  Option.bind (rangeO1 r235) fun l247 =>
  bind2 (m_l_ties_l2 y_many l247 y_found66 b236) fun y_found250 b251 =>
  bind2 (m_l_mixed_2 b251 y_found250) fun r434 b435 =>
  some (r434, b435)
abbrev N_l_ties : List Str := ["_law_bag_here", "_law_many", "_law_turn", "_law_shape", "_law_found", "_law_k", "_law_other", "_law_ends"]
theorem sc_l_ties : FnScope N_l_ties ["_law_bag_here", "_law_many"] (defScope s_l_ties) := ⟨rfl, rfl, rfl, by decide +kernel, rfl, by decide +kernel, by decide +kernel⟩
def sp_l_ties (K : PySem.W.Frag) : Sp := fun vs H Q _ => ∃ (F : Hp) (B C : Addr) (b : Bag) (y_many : Int) (r : (List (Int × Int))) (b' : Bag), vs = [.ref B, .int y_many] ∧ Same F H ∧ BagAt F H B C b ∧ m_l_ties b y_many = some (r, b') ∧ (∀ p ws F' H', Gr (Bc B C) F H F' H' → BagAt F' H' B C b' → H p = none → H' p = some (.lst ws) → F' p = none → ws.length ≤ sizeLine → RL K F' ws r → Q (.ref p) H')
/-! ### l_web -/
def m_l_web_c1 (y_many : Int) : List Int → Bag → Option (List Int × Bag)
  | [], b => some ([], b)
  | e213 :: xs_, b =>
    bind2 (m_l_draw b y_many) fun r215 b216 =>
    bind2 (m_l_web_c1 y_many xs_ b216) fun rest230 b231 => some (r215 :: rest230, b231)
def m_l_web (b : Bag)  : Option ((T4 Int Int (List (Int × Int)) (List Int)) × Bag) :=
  bind2 (m_l_draw b (3 : Int)) fun r1 b2 =>
  bind2 (m_l_draw b2 (6 : Int)) fun r10 b11 =>
  bind2 (m_l_draw b11 (12 : Int)) fun r19 b20 =>
  bind2 (m_l_draw b20 (3 : Int)) fun r35 b36 =>
  Option.bind (atI ([((2 : Int) + r1), ((3 : Int) + r10), ((1 : Int) + r19)] : List Int) r35) fun t45 =>
  bind2 (m_l_draw b36 (3 : Int)) fun r50 b51 =>
  bind2 (m_l_draw b51 (4 : Int)) fun r60 b61 =>
  bind2 (m_l_draw b61 (30 : Int)) fun r70 b71 =>
  bind2 (m_l_draw b71 (4 : Int)) fun r89 b90 =>
  Option.bind (atI ([((1 : Int) + r50), ((2 : Int) + r60), (30 : Int), ((1 : Int) + r70)] : List Int) r89) fun t100 =>
  bind2 (m_l_draw b90 (2 : Int)) fun r116 b117 =>
  Option.bind (atI ([(3 : Int), (8 : Int)] : List Int) r116) fun t128 =>
  bind2 (m_l_draw b117 t128) fun r133 b134 =>
  Option.bind (some ((1 : Int) + r133)) fun y_gates145 =>
  bind2 (m_l_ties b134 t45) fun r148 b149 =>
  Option.bind (rangeO1 y_gates145) fun l172 =>
  bind2 (m_l_web_c1 t45 l172 b149) fun l189 b190 =>
  some ((T4.mk t100 t45 r148 l189), b190)
abbrev N_l_web : List Str := ["_law_bag_here", "_law_many", "_law_wide", "_law_gates", "_law_k"]
theorem sc_l_web : FnScope N_l_web ["_law_bag_here"] (defScope s_l_web) := ⟨rfl, rfl, rfl, by decide +kernel, rfl, by decide +kernel, by decide +kernel⟩
def sp_l_web (K : PySem.W.Frag) : Sp := fun vs H Q _ => ∃ (F : Hp) (B C : Addr) (b : Bag) (r : (T4 Int Int (List (Int × Int)) (List Int))) (b' : Bag), vs = [.ref B] ∧ Same F H ∧ BagAt F H B C b ∧ m_l_web b  = some (r, b') ∧ (∀ v F' H', Gr (Bc B C) F H F' H' → BagAt F' H' B C b' → R K F' v r → Q v H')
/-! ### l_torn -/
def m_l_torn_c1 (y_share : Int) : List Int → Bag → Option (List Int × Bag)
  | [], b => some ([], b)
  | e47 :: xs_, b =>
    bind2 (m_l_draw b y_share) fun r49 b50 =>
    if (eqI r49 (0 : Int)) then (bind2 (m_l_torn_c1 y_share xs_ b50) fun rest60 b61 => some (e47 :: rest60, b61)) else m_l_torn_c1 y_share xs_ b50
def m_l_torn (b : Bag) (y_web_here : (T4 Int Int (List (Int × Int)) (List Int))) (y_share : Int) : Option ((List Int) × Bag) :=
  Option.bind (rangeO1 (((y_web_here.c).length : Nat) : Int)) fun l18 =>
  bind2 (m_l_torn_c1 y_share l18 b) fun l27 b28 =>
  some (l27, b28)
abbrev N_l_torn : List Str := ["_law_bag_here", "_law_web_here", "_law_share", "_law_k"]
theorem sc_l_torn : FnScope N_l_torn ["_law_bag_here", "_law_web_here", "_law_share"] (defScope s_l_torn) := ⟨rfl, rfl, rfl, by decide +kernel, rfl, by decide +kernel, by decide +kernel⟩
def sp_l_torn (K : PySem.W.Frag) : Sp := fun vs H Q _ => ∃ (F : Hp) (B C : Addr) (b : Bag) (v_y_web_here : V) (y_web_here : (T4 Int Int (List (Int × Int)) (List Int))) (y_share : Int) (r : (List Int)) (b' : Bag), vs = [.ref B, v_y_web_here, .int y_share] ∧ Same F H ∧ BagAt F H B C b ∧ R K F v_y_web_here y_web_here ∧ m_l_torn b y_web_here y_share = some (r, b') ∧ (∀ p ws F' H', Gr (Bc B C) F H F' H' → BagAt F' H' B C b' → H p = none → H' p = some (.lst ws) → F' p = none → ws.length ≤ sizeLine → RL K F' ws r → Q (.ref p) H')
/-! ### l_tie -/
def m_l_tie (y_web_here : (T4 Int Int (List (Int × Int)) (List Int))) (y_here : Int) (y_there : Int) : Option (Option Int) :=
  Option.bind (some ((if y_there < y_here then y_there else y_here), (if y_there > y_here then y_there else y_here))) fun y_pair6 =>
  Option.bind (if (inD y_pair6 y_web_here.c) then (Option.bind (idxO y_web_here.c y_pair6) fun t36 => some ((some t36))) else ( some ((none : (Option Int))))) fun c23 =>
  some c23
abbrev N_l_tie : List Str := ["_law_web_here", "_law_here", "_law_there", "_law_pair"]
theorem sc_l_tie : FnScope N_l_tie ["_law_web_here", "_law_here", "_law_there"] (defScope s_l_tie) := ⟨rfl, rfl, rfl, by decide +kernel, rfl, by decide +kernel, by decide +kernel⟩
def sp_l_tie (K : PySem.W.Frag) : Sp := fun vs H Q _ => ∃ (F : Hp) (v_y_web_here : V) (y_web_here : (T4 Int Int (List (Int × Int)) (List Int))) (y_here : Int) (y_there : Int) (r : (Option Int)), vs = [v_y_web_here, .int y_here, .int y_there] ∧ Same F H ∧ R K F v_y_web_here y_web_here ∧ m_l_tie y_web_here y_here y_there = some r ∧ (∀ v F' H', Gr M0 F H F' H' → R K F' v r → Q v H')
/-! ### l_gone -/
def m_l_gone_c2 (y_digit : Int) (y_so_far : Int) : List (T4 Int Int Int Int) → List (T4 Int Int Int Int)
  | [] => []
  | e137 :: xs_ => if ((eqI e137.a y_digit) && (eqI e137.b y_so_far)) then e137 :: m_l_gone_c2 y_digit y_so_far xs_ else m_l_gone_c2 y_digit y_so_far xs_
def m_l_gone_l1 (y_web_here : (T4 Int Int (List (Int × Int)) (List Int))) (y_torn_here : (List Int)) (y_rules : (List (List (T4 Int Int Int Int)))) (y_digit : Int) : Nat → (List Int) → (List (Int × Int)) → (Option (Lp ((List Int) × (List (Int × Int))) ((((Str × Int) ⊕ (T1 Str)) × (List Int)))))
  | 0, _, _ => none
  | n_ + 1, y_line, y_been =>
     if true then (Option.bind (atI y_been (-(1 : Int))) fun t79 =>
    Option.bind (atI y_rules t79.1) fun t91 =>
    Option.bind (some (m_l_gone_c2 y_digit t79.2 t91)) fun y_some183 =>
    if (eqD y_some183 ([] : (List (T4 Int Int Int Int)))) then (some (.ret ((((Sum.inl) (("stray" : Str), t79.1)) : ((Str × Int) ⊕ (T1 Str))), y_line))) else (Option.bind (atI y_some183 (0 : Int)) fun t231 =>
 Option.bind (if (eqI (t231.c, t231.e).1 (-(1 : Int))) then (Option.bind (if (decide ((0 : Int) ≤ (t231.c, t231.e).2)) then (Option.bind (if (decide ((t231.c, t231.e).2 < (((y_web_here.e).length : Nat) : Int))) then (Option.bind (atI y_web_here.e (t231.c, t231.e).2) fun t280 => some ((eqI t280 t79.1))) else some false) fun c275 => some (c275)) else some false) fun c270 => some (c270)) else some false) fun c265 =>
 if c265 then (some (.ret ((((Sum.inl) (("out" : Str), (t231.c, t231.e).2)) : ((Str × Int) ⊕ (T1 Str))), y_line))) else (Option.bind (if (eqI (t231.c, t231.e).1 (-(1 : Int))) then ( some ((none : (Option Int)))) else (Option.bind (m_l_tie y_web_here t79.1 (t231.c, t231.e).1) fun r353 => some (r353))) fun c346 =>
 if (c346).isNone then (some (.ret ((((Sum.inl) (("stray" : Str), t79.1)) : ((Str × Int) ⊕ (T1 Str))), y_line))) else (Option.bind (c346) fun t408 =>
 if (decide (t408 ∈ y_torn_here)) then (Option.bind (c346) fun t411 =>
 some (.ret ((((Sum.inl) (("lost" : Str), t411)) : ((Str × Int) ⊕ (T1 Str))), y_line))) else (Option.bind (appL y_line (t231.c, t231.e).1) fun t445 =>
 if (inD ((t231.c, t231.e).1, (t231.c, t231.e).2) y_been) then (some (.ret ((((Sum.inr) (T1.mk ("ring" : Str))) : ((Str × Int) ⊕ (T1 Str))), t445))) else (Option.bind (appL y_been ((t231.c, t231.e).1, (t231.c, t231.e).2)) fun t514 =>
 m_l_gone_l1 y_web_here y_torn_here y_rules y_digit n_ t445 t514)))))) else some (.go (y_line, y_been))
def m_l_gone (y_web_here : (T4 Int Int (List (Int × Int)) (List Int))) (y_torn_here : (List Int)) (y_rules : (List (List (T4 Int Int Int Int)))) (y_digit : Int) (y_gate : Int) : Option (((Str × Int) ⊕ (T1 Str)) × (List Int)) :=
  Option.bind (atI y_web_here.e y_gate) fun t12 =>
  Option.bind (some ([(t12, (0 : Int))] : List (Int × Int))) fun y_been33 =>
  Option.bind (atI y_web_here.e y_gate) fun t37 =>
  Option.bind (some ([t37] : List Int)) fun y_line49 =>
  bindL2 (m_l_gone_l1 y_web_here y_torn_here y_rules y_digit 100000 y_line49 y_been33) (fun y_line53 y_been54 => none) (fun r_ => some r_)
abbrev N_l_gone : List Str := ["_law_web_here", "_law_torn_here", "_law_rules", "_law_digit", "_law_gate", "_law_been", "_law_line", "_law_house", "_law_so_far", "_law_some", "_law_goal", "_law_then", "_law_k", "_law_rule"]
theorem sc_l_gone : FnScope N_l_gone ["_law_web_here", "_law_torn_here", "_law_rules", "_law_digit", "_law_gate"] (defScope s_l_gone) := ⟨rfl, rfl, rfl, by decide +kernel, rfl, by decide +kernel, by decide +kernel⟩
def sp_l_gone (K : PySem.W.Frag) : Sp := fun vs H Q _ => ∃ (F : Hp) (v_y_web_here : V) (y_web_here : (T4 Int Int (List (Int × Int)) (List Int))) (p_y_torn_here : Addr) (ws_y_torn_here : List V) (y_torn_here : (List Int)) (p_y_rules : Addr) (ws_y_rules : List V) (y_rules : (List (List (T4 Int Int Int Int)))) (y_digit : Int) (y_gate : Int) (r : (((Str × Int) ⊕ (T1 Str)) × (List Int))), vs = [v_y_web_here, .ref p_y_torn_here, .ref p_y_rules, .int y_digit, .int y_gate] ∧ Same F H ∧ R K F v_y_web_here y_web_here ∧ SqL K H p_y_torn_here ws_y_torn_here ∧ ws_y_torn_here.length ≤ sizeLine ∧ RL K F ws_y_torn_here y_torn_here ∧ ¬ M0 p_y_torn_here ∧ SqL K H p_y_rules ws_y_rules ∧ ws_y_rules.length ≤ sizeLine ∧ RL K F ws_y_rules y_rules ∧ ¬ M0 p_y_rules ∧ m_l_gone y_web_here y_torn_here y_rules y_digit y_gate = some r ∧ (∀ v F' H', Gr M0 F H F' H' → R K F' v r → Q v H')
/-! ### l_done -/
def m_l_done (y_by : (VT Int)) (y_so_far : Int) (y_house : Int) : Option Int :=
  Option.bind (if (decide (y_so_far < ((((y_by).l).length : Nat) : Int))) then (Option.bind (atI (y_by).l y_so_far) fun t13 => some ((eqI t13 y_house))) else some false) fun c8 =>
  some (y_so_far + (toI c8))
abbrev N_l_done : List Str := ["_law_by", "_law_so_far", "_law_house"]
theorem sc_l_done : FnScope N_l_done ["_law_by", "_law_so_far", "_law_house"] (defScope s_l_done) := ⟨rfl, rfl, rfl, by decide +kernel, rfl, by decide +kernel, by decide +kernel⟩
def sp_l_done (K : PySem.W.Frag) : Sp := fun vs H Q _ => ∃ (v_y_by : V) (y_by : (VT Int)) (y_so_far : Int) (y_house : Int) (r : Int), vs = [v_y_by, .int y_so_far, .int y_house] ∧ R K H v_y_by y_by ∧ m_l_done y_by y_so_far y_house = some r ∧ (∀ F' H', Gr M0 H H F' H' → Q (.int r) H')
/-! ### l_done_2 -/
def m_l_done_2 (y_by : (List Int)) (y_so_far : Int) (y_house : Int) : Option Int :=
  Option.bind (if (decide (y_so_far < (((y_by).length : Nat) : Int))) then (Option.bind (atI y_by y_so_far) fun t6 => some ((eqI t6 y_house))) else some false) fun c1 =>
  some (y_so_far + (toI c1))
abbrev N_l_done_2 : List Str := ["_law_by", "_law_so_far", "_law_house"]
theorem sc_l_done_2 : FnScope N_l_done_2 ["_law_by", "_law_so_far", "_law_house"] (defScope s_l_done_2) := ⟨rfl, rfl, rfl, by decide +kernel, rfl, by decide +kernel, by decide +kernel⟩
def sp_l_done_2 (K : PySem.W.Frag) : Sp := fun vs H Q _ => ∃ (p_y_by : Addr) (ws_y_by : List V) (y_by : (List Int)) (y_so_far : Int) (y_house : Int) (r : Int), vs = [.ref p_y_by, .int y_so_far, .int y_house] ∧ SqL K H p_y_by ws_y_by ∧ ws_y_by.length ≤ sizeLine ∧ RL K H ws_y_by y_by ∧ ¬ M0 p_y_by ∧ m_l_done_2 y_by y_so_far y_house = some r ∧ (∀ F' H', Gr M0 H H F' H' → Q (.int r) H')
/-! ### l_walked -/
def m_l_walked_c2 (y_line : (List Int)) : List (Int × Int) → Option (List Int)
  | [] => some []
  | e139 :: xs_ =>
    Option.bind (atI y_line (-(1 : Int))) fun t149 =>
    if (decide (t149 ∈ ((VT.mk [(e139.1, e139.2).1, (e139.1, e139.2).2] : (VT Int))).l)) then (Option.bind (atI y_line (-(1 : Int))) fun t180 => Option.bind (m_l_walked_c2 y_line xs_) fun rest186 => some (((e139.1 + e139.2) - t180) :: rest186)) else m_l_walked_c2 y_line xs_
def m_l_walked_l1 (y_web_here : (T4 Int Int (List (Int × Int)) (List Int))) : List Int → (List Int) → Bag → (Option ((List Int) × Bag))
  | [], y_line, b => some (y_line, b)
  | e91 :: xs_, y_line, b =>
    Option.bind (m_l_walked_c2 y_line y_web_here.c) fun l107 =>
    bind2 (if (!eqD l107 ([] : (List Int))) then (bind2 (m_l_draw b (((l107).length : Nat) : Int)) fun r226 b227 => Option.bind (atI l107 r226) fun t239 => some (([t239] : List Int), b227)) else ( some (([] : (List Int)), b))) fun c221 b222 =>
    Option.bind (conL y_line c221) fun t306 =>
    m_l_walked_l1 y_web_here xs_ t306 b222
def m_l_walked_c4 (y_line : (List Int)) : List Int → Bag → Option (List Int × Bag)
  | [], b => some ([], b)
  | e386 :: xs_, b =>
    bind2 (m_l_draw b (((y_line).length : Nat) : Int)) fun r388 b389 =>
    bind2 (m_l_walked_c4 y_line xs_ b389) fun rest401 b402 => some (r388 :: rest401, b402)
def m_l_walked_l3 (y_line : (List Int)) : List Int → (List Int) → (Option ((List Int)))
  | [], y_by => some y_by
  | e466 :: xs_, y_by =>
    Option.bind (atI y_line e466) fun t469 =>
    Option.bind (atI y_line e466) fun t502 =>
    Option.bind (repL ([t469] : List Int) (toI (!eqD (cutL y_by (some (-(1 : Int))) none) ([t502] : List Int)))) fun t526 =>
    Option.bind (conL y_by t526) fun t549 =>
    m_l_walked_l3 y_line xs_ t549
def m_l_walked_l5 (y_by : (List Int)) : List Int → (List (Int × Int)) → (Option ((List (Int × Int))))
  | [], y_been => some y_been
  | e617 :: xs_, y_been =>
    Option.bind (conL y_been ([((0 : Int), (0 : Int))] : List (Int × Int))) fun t646 =>
    Option.bind (atI t646 (if ((((y_been).length : Nat) : Int) - (1 : Int)) > (0 : Int) then ((((y_been).length : Nat) : Int) - (1 : Int)) else (0 : Int))) fun t666 =>
    Option.bind (m_l_done_2 y_by t666.1 e617) fun r678 =>
    if (inD (r678, e617) y_been) then (some y_been) else (Option.bind (appL y_been (r678, e617)) fun t710 =>
 m_l_walked_l5 y_by xs_ t710)
def m_l_walked (b : Bag) (y_web_here : (T4 Int Int (List (Int × Int)) (List Int))) : Option (((VT Int) × (List Int)) × Bag) :=
  bind2 (m_l_draw b y_web_here.b) fun r12 b13 =>
  Option.bind (some ([r12] : List Int)) fun y_line28 =>
  bind2 (m_l_draw b13 (3 : Int)) fun r41 b42 =>
  Option.bind (atI ([(2 : Int), (8 : Int), (25 : Int)] : List Int) r41) fun t52 =>
  bind2 (m_l_draw b42 t52) fun r57 b58 =>
  Option.bind (rangeO1 r57) fun l68 =>
  bind2 (m_l_walked_l1 y_web_here l68 y_line28 b58) fun y_line71 b72 =>
  bind2 (m_l_draw b72 (4 : Int)) fun r340 b341 =>
  Option.bind (rangeO1 r340) fun l351 =>
  bind2 (m_l_walked_c4 y_line71 l351 b341) fun l364 b365 =>
  Option.bind (ssetO l364) fun t426 =>
  Option.bind (m_l_walked_l3 y_line71 t426 ([] : List Int)) fun y_by447 =>
  Option.bind (some ([] : List (Int × Int))) fun y_been591 =>
  Option.bind (m_l_walked_l5 y_by447 y_line71 y_been591) fun y_been596 =>
  Option.bind (atI y_been596 (-(1 : Int))) fun t754 =>
  some (((VT.mk (cutL y_by447 none (some t754.1))), (cutL y_line71 none (some (((y_been596).length : Nat) : Int)))), b365)
abbrev N_l_walked : List Str := ["_law_bag_here", "_law_web_here", "_law_line", "_law_k", "_law_near", "_law_by", "_law_been", "_law_house", "_law_stand", "_law_a", "_law_b", "_law_j"]
theorem sc_l_walked : FnScope N_l_walked ["_law_bag_here", "_law_web_here"] (defScope s_l_walked) := ⟨rfl, rfl, rfl, by decide +kernel, rfl, by decide +kernel, by decide +kernel⟩
def sp_l_walked (K : PySem.W.Frag) : Sp := fun vs H Q _ => ∃ (F : Hp) (B C : Addr) (b : Bag) (v_y_web_here : V) (y_web_here : (T4 Int Int (List (Int × Int)) (List Int))) (r : ((VT Int) × (List Int))) (b' : Bag), vs = [.ref B, v_y_web_here] ∧ Same F H ∧ BagAt F H B C b ∧ R K F v_y_web_here y_web_here ∧ m_l_walked b y_web_here = some (r, b') ∧ (∀ v F' H', Gr (Bc B C) F H F' H' → BagAt F' H' B C b' → R K F' v r → Q v H')
/-! ### l_unrolled -/
def m_l_unrolled_l1  : List (Int × (T4 Int Int Int Int)) → (List (List (T4 Int Int Int Int))) → (Option ((List (List (T4 Int Int Int Int)))))
  | [], y_rules => some y_rules
  | e61 :: xs_, y_rules =>
    Option.bind (appN y_rules e61.1 e61.2) fun y_rules71 =>
    m_l_unrolled_l1  xs_ y_rules71
def m_l_unrolled_c3  : List (T4 Int Int Int Int) → List (Int × Int)
  | [] => []
  | e159 :: xs_ => (e159.a, e159.b) :: m_l_unrolled_c3  xs_
def m_l_unrolled_l2  : List (List (T4 Int Int Int Int)) → (Option (Lp (Unit) (Bool)))
  | [] => some (.go ())
  | e119 :: xs_ =>
    Option.bind (lsetT (m_l_unrolled_c3  e119)) fun t199 =>
    if (neI t199 (((e119).length : Nat) : Int)) then (some (.ret false)) else (m_l_unrolled_l2  xs_ )
def m_l_unrolled (y_web_here : (T4 Int Int (List (Int × Int)) (List Int))) (y_item : (T4 Int Int (T4 Int (VT Int) (VT Int) (Option Int)) (List Int))) (y_told : (List (Int × (T4 Int Int Int Int)))) : Option Bool :=
  Option.bind (rangeO1 y_web_here.b) fun l12 =>
  Option.bind (some ((l12).map fun _ => ([] : List (T4 Int Int Int Int)))) fun y_rules40 =>
  Option.bind (m_l_unrolled_l1  y_told y_rules40) fun y_rules44 =>
  bindL0 (m_l_unrolled_l2  y_rules44 ) (Option.bind (m_l_gone y_web_here ([] : List Int) y_rules44 y_item.a y_item.b) fun r228 =>
 some (eqD r228 ((((Sum.inl) (("out" : Str), y_item.c.a)) : ((Str × Int) ⊕ (T1 Str))), y_item.e))) (fun r_ => some r_)
abbrev N_l_unrolled : List Str := ["_law_web_here", "_law_item", "_law_told", "_law_rules", "_law_house", "_law_rule", "_law_row"]
theorem sc_l_unrolled : FnScope N_l_unrolled ["_law_web_here", "_law_item", "_law_told"] (defScope s_l_unrolled) := ⟨rfl, rfl, rfl, by decide +kernel, rfl, by decide +kernel, by decide +kernel⟩
def sp_l_unrolled (K : PySem.W.Frag) : Sp := fun vs H Q _ => ∃ (v_y_web_here : V) (y_web_here : (T4 Int Int (List (Int × Int)) (List Int))) (v_y_item : V) (y_item : (T4 Int Int (T4 Int (VT Int) (VT Int) (Option Int)) (List Int))) (p_y_told : Addr) (ws_y_told : List V) (y_told : (List (Int × (T4 Int Int Int Int)))) (r : Bool), vs = [v_y_web_here, v_y_item, .ref p_y_told] ∧ R K H v_y_web_here y_web_here ∧ R K H v_y_item y_item ∧ SqL K H p_y_told ws_y_told ∧ ws_y_told.length ≤ sizeLine ∧ RL K H ws_y_told y_told ∧ ¬ M0 p_y_told ∧ m_l_unrolled y_web_here y_item y_told = some r ∧ (∀ F' H', Gr M0 H H F' H' → Q (.bl r) H')
/-! ### l_due -/
def m_l_due_l1 (y_digit : Int) (y_meant : (T4 Int (VT Int) (VT Int) (Option Int))) (y_line : (List Int)) : List Int → Int → Int → (List (Int × (T4 Int Int Int Int))) → (Option (Int × Int × (List (Int × (T4 Int Int Int Int)))))
  | [], y_so_far, y_mark, y_found => some (y_so_far, y_mark, y_found)
  | e73 :: xs_, y_so_far, y_mark, y_found =>
    Option.bind (atI y_line e73) fun t75 =>
    Option.bind (m_l_done y_meant.b y_so_far t75) fun r80 =>
    Option.bind (atI y_line (e73 - (1 : Int))) fun t88 =>
    Option.bind (atI y_line e73) fun t93 =>
    Option.bind (appL y_found (t88, (T4.mk y_digit y_mark t93 r80))) fun t112 =>
    m_l_due_l1 y_digit y_meant y_line xs_ r80 r80 t112
def m_l_due (y_item : (T4 Int Int (T4 Int (VT Int) (VT Int) (Option Int)) (List Int))) : Option (List (Int × (T4 Int Int Int Int))) :=
  Option.bind (atI y_item.e (0 : Int)) fun t23 =>
  Option.bind (m_l_done y_item.c.b (0 : Int) t23) fun r34 =>
  Option.bind (some ([] : List (Int × (T4 Int Int Int Int)))) fun y_found46 =>
  Option.bind (rangeO (1 : Int) (((y_item.e).length : Nat) : Int)) fun l50 =>
  bind3 (m_l_due_l1 y_item.a y_item.c y_item.e l50 r34 (0 : Int) y_found46) fun y_so_far53 y_mark54 y_found55 =>
  Option.bind (atI y_item.e (-(1 : Int))) fun t133 =>
  Option.bind (conL y_found55 ([(t133, (T4.mk y_item.a y_mark54 (-(1 : Int)) y_item.c.a))] : List (Int × (T4 Int Int Int Int)))) fun t159 =>
  some t159
abbrev N_l_due : List Str := ["_law_item", "_law_digit", "_law_gate", "_law_meant", "_law_line", "_law_so_far", "_law_mark", "_law_found", "_law_k"]
theorem sc_l_due : FnScope N_l_due ["_law_item"] (defScope s_l_due) := ⟨rfl, rfl, rfl, by decide +kernel, rfl, by decide +kernel, by decide +kernel⟩
def sp_l_due (K : PySem.W.Frag) : Sp := fun vs H Q _ => ∃ (F : Hp) (v_y_item : V) (y_item : (T4 Int Int (T4 Int (VT Int) (VT Int) (Option Int)) (List Int))) (r : (List (Int × (T4 Int Int Int Int)))), vs = [v_y_item] ∧ Same F H ∧ R K F v_y_item y_item ∧ m_l_due y_item = some r ∧ (∀ p ws F' H', Gr M0 F H F' H' → H p = none → H' p = some (.lst ws) → F' p = none → ws.length ≤ sizeLine → RL K F' ws r → Q (.ref p) H')
/-! ### law -/
def m_law_c2 (y_line : (List Int)) : List Int → List Int
  | [] => []
  | e186 :: xs_ => if (!decide (e186 ∈ y_line)) then e186 :: m_law_c2 y_line xs_ else m_law_c2 y_line xs_
def m_law_l1  : List Int → Bag → (Option (Lp (Bag) (Bool × Bag)))
  | [], b => some (.go b)
  | e27 :: xs_, b =>
    bind2 (m_l_web b ) fun r29 b30 =>
    bind2 (m_l_walked b30 r29) fun r39 b40 =>
    Option.bind (atI r39.2 (0 : Int)) fun t80 =>
    Option.bind (atI r39.2 (-(1 : Int))) fun t91 =>
    Option.bind (conL (cutL r29.e none (some (6 : Int))) ([t80, t91] : List Int)) fun t105 =>
    Option.bind (some (T4.mk r29.a r29.b r29.c t105)) fun y_web_here141 =>
    Option.bind (rangeO1 y_web_here141.b) fun l156 =>
    Option.bind (some (m_law_c2 r39.2 l156)) fun y_rest209 =>
    bind2 (m_l_mixed b40 y_rest209) fun r213 b214 =>
    bind2 (m_l_draw b214 (4 : Int)) fun r237 b238 =>
    Option.bind (some (sortI (cutL r213 none (some r237)))) fun y_past287 =>
    bind2 (m_l_draw b238 (40 : Int)) fun r291 b292 =>
    bind2 (m_l_draw b292 (4 : Int)) fun r325 b326 =>
    Option.bind (atI ([(none : (Option Int)), (some ((((r39.2).length : Nat) : Int) - (1 : Int))), (some ((((r39.2).length : Nat) : Int) + r291)), (some (((10 : Int) ^ (9 : Int).toNat) - (1 : Int)))] : List (Option Int)) r325) fun t341 =>
    bind2 (m_l_draw b326 ((10 : Int) ^ (19 : Int).toNat)) fun r346 b347 =>
    Option.bind (some (((10 : Int) ^ (19 : Int).toNat) + r346)) fun y_great362 =>
    bind2 (m_l_draw b347 (5 : Int)) fun r365 b366 =>
    bind2 (m_l_draw b366 ((10 : Int) ^ (9 : Int).toNat)) fun r381 b382 =>
    bind2 (m_l_draw b382 (4 : Int)) fun r418 b419 =>
    Option.bind (atI ([r365, y_great362, (-(1 : Int)), ((0 : Int) - r381)] : List Int) r418) fun t435 =>
    Option.bind (some (T4.mk t435 ((((t105).length : Nat) : Int) - (2 : Int)) (T4.mk ((((t105).length : Nat) : Int) - (1 : Int)) r39.1 (VT.mk y_past287) t341) r39.2)) fun y_item516 =>
    Option.bind (reprO (([(((Sum.inl) y_web_here141) : ((T4 Int Int (List (Int × Int)) (List Int)) ⊕ (T4 Int Int (T4 Int (VT Int) (VT Int) (Option Int)) (List Int)))), (((Sum.inr) y_item516) : ((T4 Int Int (List (Int × Int)) (List Int)) ⊕ (T4 Int Int (T4 Int (VT Int) (VT Int) (Option Int)) (List Int))))] : List ((T4 Int Int (List (Int × Int)) (List Int)) ⊕ (T4 Int Int (T4 Int (VT Int) (VT Int) (Option Int)) (List Int)))) : (List ((T4 Int Int (List (Int × Int)) (List Int)) ⊕ (T4 Int Int (T4 Int (VT Int) (VT Int) (Option Int)) (List Int)))))) fun t545 =>
    Option.bind (m_rules_of y_web_here141 y_item516) fun r548 =>
    Option.bind (m_l_due y_item516) fun r583 =>
    Option.bind (m_l_alike r548 r583) fun r622 =>
    Option.bind (if (!r622) then some true else (Option.bind (m_l_unrolled y_web_here141 y_item516 r548) fun r646 => some ((!r646)))) fun c641 =>
    if c641 then (some (.ret (false, b419))) else (Option.bind (appL r548 ((0 : Int), (T4.mk (0 : Int) (0 : Int) (-(1 : Int)) (0 : Int)))) fun t742 =>
 Option.bind (setL ((t742).map some : List (Option (Int × (T4 Int Int Int Int)))) (0 : Int) (none : (Option (Int × (T4 Int Int Int Int))))) fun t761 =>
 Option.bind (m_rules_of y_web_here141 y_item516) fun r780 =>
 Option.bind (m_l_due y_item516) fun r819 =>
 Option.bind (m_l_alike r780 r819) fun r862 =>
 Option.bind (if (!r862) then some true else (Option.bind (reprO (([(((Sum.inl) y_web_here141) : ((T4 Int Int (List (Int × Int)) (List Int)) ⊕ (T4 Int Int (T4 Int (VT Int) (VT Int) (Option Int)) (List Int)))), (((Sum.inr) y_item516) : ((T4 Int Int (List (Int × Int)) (List Int)) ⊕ (T4 Int Int (T4 Int (VT Int) (VT Int) (Option Int)) (List Int))))] : List ((T4 Int Int (List (Int × Int)) (List Int)) ⊕ (T4 Int Int (T4 Int (VT Int) (VT Int) (Option Int)) (List Int)))) : (List ((T4 Int Int (List (Int × Int)) (List Int)) ⊕ (T4 Int Int (T4 Int (VT Int) (VT Int) (Option Int)) (List Int)))))) fun t924 => some ((neS t924 t545)))) fun c883 =>
 if c883 then (some (.ret (false, b419))) else (m_law_l1  xs_ b419))
def m_law (b : Bag)  : Option (Bool × Bag) :=
  bindL1 (m_law_l1  (rangeL (0 : Int) 6) b) (fun b1 => some (true, b1)) (fun r_ => some r_)
abbrev N_law : List Str := ["_law_script", "_law_bag_here", "_law_turn", "_law_web_here", "_law_by", "_law_line", "_law_doors", "_law_rest", "_law_past", "_law_most", "_law_great", "_law_digit", "_law_item", "_law_kept", "_law_told", "_law_house"]
theorem sc_law : FnScope N_law ["_law_script"] (defScope s_law) := ⟨rfl, rfl, rfl, by decide +kernel, rfl, by decide +kernel, by decide +kernel⟩
def sp_law (K : PySem.W.Frag) : Sp := fun vs H Q _ => ∃ (a : Addr) (ns : List Int), vs = [.ref a] ∧ SqL K H a (ns.map V.int) ∧ ns.length ≤ 63 ∧ (∀ H', Q (.bl true) H')
def kb_rules_of_0_g {α : Type} : List α → List α → List α
  | [], [w0, w1] => [w1, w0]
  | _, _ => []
theorem kb_rules_of_0 {K : PySem.W.Frag} {f : Addr} {fd : FuncData} (F : FnP K "rules_of" s_rules_of f fd) : KBinds K fd ["net", "one"] ["one", "net"] kb_rules_of_0_g kb_rules_of_0_g := by
  obtain ⟨kV, doc, pm, an, cdv, ct, rfl⟩ := fd_plain F
  refine ⟨fun s us ws _ hl => ?_, fun {vs us zs ws} h1 h2 => ?_⟩
  · unfold kb_rules_of_0_g at hl ⊢
    split at hl
    · exact BindsTo.of_eq rfl
    · cases hl
  · rcases h1 with _ | ⟨_, _⟩ <;> rcases h2 with _ | ⟨r_w0, _ | ⟨r_w1, _ | ⟨_, _⟩⟩⟩ <;> first | exact (.cons r_w1 (.cons r_w0 .nil)) | exact .nil
end K42
namespace K42
open PySem PySem.Spec PyProof.Rows L2 TL G
theorem ok_done_behind {P : Program} {w : World} {K : PySem.W.Frag} {mg : Str → Option Value} {base : Heap} (T : Txt K mg) : FnOk P w K mg base CX0 1 T.a_done_behind T.d_done_behind ["by", "done", "house"] (sp_done_behind K) := by
  refine fd_ok T.F_done_behind sc_done_behind (fun vs H Q E h => ?_) (fun cdv A outer s H0 vs Q E hr h => ?_)
  · obtain ⟨_, _, _, _, _, rfl, _⟩ := h
    rfl
  · obtain ⟨v_x_by, x_by, x_done, x_house, r, rfl, r_x_by, hm, hQ⟩ := h
    refine ⟨_, (pss_one (ps_ret (pe_op op_add (pv 1) (pe_callTy call_toI (by rfl) T.n_int (by decide +kernel) (pa_cons (pe_and (pe_cmpR op_lt (pv 1) (pe_callB (call_lenLK (K := K)) (by rfl) T.n_len (by decide +kernel) (pa_cons (pv 0) pa_nil)) (nomark _)) (pe_one (pe_cmpR op_eq (pe_ix (ix_tupK (K := K)) (pv 0) (pv 1) (fun _ _ => rfl)) (pv 2) (nomark _)))) pa_nil))))), ?_⟩
    have g0 : Gr M0 H0 H0 H0 H0 := Gr.refl (Same.refl _)
    unfold m_done_behind at hm
    refine p_ret ?_
    refine ⟨(V.int x_done), rfl, ?_⟩
    obtain ⟨p1, ws2, ev3, hs7, hl5, hA6⟩ := R.vt_s r_x_by
    have hS4 : SqT K _ p1 ws2 := .inl (.inl hs7)
    refine ⟨(V.int x_done), rfl, v_x_by, rfl, p1, ws2, _, (by rw [ev3]), (.inr (SqT_mono g0.fh hS4)), (RL.len hA6), _, _, rfl, rfl, _, rfl, ?_⟩
    obtain ⟨c8, hc9, hm⟩ := bnd hm
    refine andJV (M := M0) (F := H0) (c := c8) (P := fun _ _ => True) (fun ha => ?_) (fun ha => ⟨(sjoin (ifF ha hc9)).symm, trivial⟩) g0.fh ?_
    · intro Q11 q12
      have hc9 := ifT ha hc9
      obtain ⟨t13, hb14, hc9⟩ := bnd hc9
      obtain ⟨v15, ha16, r17⟩ := RL.at hA6 hb14
      obtain rfl := R.int_v r17
      obtain rfl := sjoin hc9
      refine ⟨v_x_by, rfl, (V.int x_done), rfl, p1, ws2, _, (V.int t13), ev3, rfl, (SqT_mono g0.fh hS4), ha16, (V.int x_house), rfl, rfl, (q12 _ _ (Gr.refl (M := M0) g0.fh) trivial)⟩
    intro F18 H19 g20 hB21
    have g22 := Gr.trans g0 g20
    obtain rfl := sjoin hm
    refine ⟨_, rfl, _, _, rfl, rfl, (hQ _ _ g22)⟩
end K42
namespace K42
open PySem PySem.Spec PyProof.Rows L2 TL G
theorem ok_rules_of {P : Program} {w : World} {K : PySem.W.Frag} {mg : Str → Option Value} {base : Heap} (T : Txt K mg) : FnOk P w K mg base CX0 2 T.a_rules_of T.d_rules_of ["net", "one"] (sp_rules_of K) := by
  have G_done_behind : FnOk P w K mg base CX0 1 T.a_done_behind T.d_done_behind ["by", "done", "house"] (sp_done_behind K) := ok_done_behind T
  have b_done_behind := T.F_done_behind.bindsN (ps := ["by", "done", "house"]) fun _ _ _ _ _ _ us hl => match us, hl with | [_, _, _], _ => rfl
  refine fd_ok T.F_rules_of sc_rules_of (fun vs H Q E h => ?_) (fun cdv A outer s H0 vs Q E hr h => ?_)
  · obtain ⟨_, _, _, _, _, _, rfl, _⟩ := h
    rfl
  · obtain ⟨F0, v_x_net, x_net, v_x_one, x_one, r, rfl, hS0, r_x_net, r_x_one, hm, hQ⟩ := h
    refine ⟨_, (pss_cons (ps_asg (pv 1) (pg_tupK (K := K) 4 rfl (pgs_cons (pg_name (i := 2) sc_rules_of.nd rfl (Or.inl rfl)) (pgs_cons (pg_name (i := 3) sc_rules_of.nd rfl (Or.inl rfl)) (pgs_cons (pg_name (i := 4) sc_rules_of.nd rfl (Or.inl rfl)) (pgs_cons (pg_name (i := 5) sc_rules_of.nd rfl (Or.inl rfl)) pgs_nil)))))) (pss_cons (ps_asg (pv 4) (pg_tupK (K := K) 4 rfl (pgs_cons (pg_name (i := 6) sc_rules_of.nd rfl (Or.inl rfl)) (pgs_cons (pg_name (i := 7) sc_rules_of.nd rfl (Or.inl rfl)) (pgs_cons (pg_name (i := 8) sc_rules_of.nd rfl (Or.inl rfl)) (pgs_cons (pg_name (i := 9) sc_rules_of.nd rfl (Or.inl rfl)) pgs_nil)))))) (pss_cons (ps_set (i := 10) sc_rules_of.nd rfl (.inl rfl) (pe_lst pa_nil)) (pss_cons (ps_set (i := 11) sc_rules_of.nd rfl (.inl rfl) pe_int) (pss_cons (ps_set (i := 12) sc_rules_of.nd rfl (.inl rfl) (pe_call G_done_behind (hr.mono (by decide)) (by rfl) T.g_done_behind T.F_done_behind.kp b_done_behind .nil pass0 (pa_cons (pv 7) (pa_cons pe_int (pa_cons (pe_ix (ix_listK (K := K)) (pv 5) pe_int (fun _ _ => rfl)) pa_nil))))) (pss_cons (ps_for PassesOwn.never rfl (pi_zipK (by rfl) T.n_zip (pa_cons (pv 5) (pa_cons (pe_slice (sl_listK (K := K)) (pv 5) (po_some pe_int) po_none) pa_nil))) (pg_tupK (K := K) 2 rfl (pgs_cons (pg_name (i := 13) sc_rules_of.nd rfl (Or.inl rfl)) (pgs_cons (pg_name (i := 14) sc_rules_of.nd rfl (Or.inl rfl)) pgs_nil))) (pss_cons (ps_set (i := 12) sc_rules_of.nd rfl (.inl rfl) (pe_call G_done_behind (hr.mono (by decide)) (by rfl) T.g_done_behind T.F_done_behind.kp b_done_behind .nil pass0 (pa_cons (pv 7) (pa_cons (pv 12) (pa_cons (pv 14) pa_nil))))) (pss_cons (ps_expr (pe_bmK (K := K) PySem.F.plainAttrs_list PySem.F.slot_list_append PySem.F.type_list_append mt_append (pv 10) (pa_cons (pe_tup (pa_cons (pv 13) (pa_cons (pe_tup (pa_cons (pv 2) (pa_cons (pv 11) (pa_cons (pv 14) (pa_cons (pv 12) pa_nil))))) pa_nil))) pa_nil))) (pss_one (ps_set (i := 11) sc_rules_of.nd rfl (.inl rfl) (pv 12)))))) (pss_cons (ps_expr (pe_bmK (K := K) PySem.F.plainAttrs_list PySem.F.slot_list_append PySem.F.type_list_append mt_append (pv 10) (pa_cons (pe_tup (pa_cons (pe_ix (ix_listK (K := K)) (pv 5) (pe_un un_neg pe_int) (fun _ _ => rfl)) (pa_cons (pe_tup (pa_cons (pv 2) (pa_cons (pv 11) (pa_cons (pe_glob (v := (V.int (-1 : Int))) rfl T.k_OUT ⟨_, rfl⟩) (pa_cons (pv 6) pa_nil))))) pa_nil))) pa_nil))) (pss_one (ps_ret (pv 10)))))))))), ?_⟩
    have g0 : Gr M0 F0 H0 F0 H0 := Gr.refl hS0
    unfold m_rules_of at hm
    refine p_seq ?_
    refine p_asg ?_
    refine ⟨v_x_one, rfl, ?_⟩
    obtain ⟨p1, v4, v5, v6, v7, ev2, hS3, r8, r9, r10, r11⟩ := R.p4_v r_x_one
    obtain rfl := R.int_v r8
    obtain rfl := R.int_v r9
    refine ⟨p1, [(V.int x_one.a), (V.int x_one.b), v6, v7], ev2, (SqT_mono g0.fh hS3), rfl, (V.int x_one.a), [(V.int x_one.b), v6, v7], rfl, (V.int x_one.b), [v6, v7], rfl, v6, [v7], rfl, v7, [], rfl, rfl, ?_⟩
    refine p_nx ?_
    refine p_seq ?_
    refine p_asg ?_
    refine ⟨v6, rfl, ?_⟩
    obtain ⟨p12, v15, v16, v17, v18, ev13, hS14, r19, r20, r21, r22⟩ := R.p4_v r10
    obtain rfl := R.int_v r19
    refine ⟨p12, [(V.int x_one.c.a), v16, v17, v18], ev13, (SqT_mono g0.fh hS14), rfl, (V.int x_one.c.a), [v16, v17, v18], rfl, v16, [v17, v18], rfl, v17, [v18], rfl, v18, [], rfl, rfl, ?_⟩
    refine p_nx ?_
    refine p_seq ?_
    refine p_asg ?_
    refine ⟨(by show 0 ≤ sizeLine; decide), fun p23 np24 => ?_⟩
    have g25 := g0.own (o := (.lst [])) np24
    have ow26 : Ow H0 F0 (upd H0 p23 (.lst [])) p23 [] := Ow.new g0 np24
    have hA27 : RL K F0 [] ([] : List (Int × (T4 Int Int Int Int))) := RpA.nil
    obtain ⟨x_found28, hb29, hm⟩ := bnd hm
    have hx30 : ([] : List (Int × (T4 Int Int Int Int))) = x_found28 := sjoin hb29
    have hA31 : RL K F0 [] x_found28 := RL.re hx30 hA27
    refine p_name ?_
    refine p_nx ?_
    refine p_seq ?_
    refine p_asg ?_
    refine p_name ?_
    refine p_nx ?_
    refine p_seq ?_
    refine p_asg ?_
    obtain ⟨t32, hb33, hm⟩ := bnd hm
    obtain ⟨p34, ws35, ev36, hS37, hl38, hA39⟩ := R.lst_v r11
    obtain ⟨v40, ha41, r42⟩ := RL.at hA39 hb33
    obtain rfl := R.int_v r42
    obtain ⟨r43, hb44, hm⟩ := bnd hm
    refine ⟨v16, rfl, v7, rfl, p34, ws35, _, (V.int t32), ev36, rfl, (Same.seq g25.fh hS37), ha41, v16, x_one.c.b, (0 : Int), t32, r43, rfl, (Rp.up r20 g25.fh), hb44, fun F45 H46 g47 => ?_⟩
    have g49 := Gr.apart g25 g47
    have ow50 := ow26.apart g47
    refine p_name ?_
    refine p_nx ?_
    refine p_seq ?_
    refine p_for ?_
    refine ⟨v7, rfl, v7, rfl, _, rfl, p34, ws35, ev36, (Same.seq g49.fh hS37), fun p51 np52 => ?_⟩
    have hA53 : RL K F0 (cutV ws35 (some (1 : Int)) none) (cutL x_one.e (some (1 : Int)) none) := RL.cut (some (1 : Int)) none hA39
    have ne54 := ow50.ne np52
    have g55 := g49.own (o := (.lst (cutV ws35 (some (1 : Int)) none))) np52
    have ow56 := ow50.own (o := (.lst (cutV ws35 (some (1 : Int)) none))) np52
    have ow57 : Ow H0 F0 (upd H46 p51 (.lst (cutV ws35 (some (1 : Int)) none))) p51 (cutV ws35 (some (1 : Int)) none) := Ow.new g49 np52
    refine ⟨p34, p51, ws35, (cutV ws35 (some (1 : Int)) none), (by rw [ev36]), (Same.seq g55.fh hS37), ow57.sq, ?_⟩
    obtain ⟨x_done58, x_told59, x_found60, ht61, hm⟩ := bnd3 hm
    refine for_zip (K := K) (a := p34) (b := p51) (xs := ws35) (ys := (cutV ws35 (some (1 : Int)) none)) (fun i σ' H' => ∃ (F' : Hp) (x_done : Int) (x_told : Int) (o_x_there : Option V) (o_x_here : Option V) (x_found : (List (Int × (T4 Int Int Int Int)))) (ws_x_found : List V), σ' = [(some v_x_net), (some v_x_one), (some (V.int x_one.a)), (some (V.int x_one.b)), (some v6), (some v7), (some (V.int x_one.c.a)), (some v16), (some v17), (some v18), (some (V.ref p23)), (some (V.int x_told)), (some (V.int x_done)), o_x_here, o_x_there] ∧ Gr M0 F0 H0 F' H' ∧ Same F0 F' ∧ Ow H0 F' H' p23 ws_x_found ∧ ws_x_found.length ≤ sizeLine ∧ RL K F' ws_x_found x_found ∧ Ow H0 F' H' p51 (cutV ws35 (some (1 : Int)) none) ∧ m_rules_of_l1 x_one.a x_one.c.b ((List.zip x_one.e (cutL x_one.e (some (1 : Int)) none)).drop i) x_done x_told x_found = some (x_done58, x_told59, x_found60)) ?_ ?_ ?_ ?_
    · exact ⟨F0, r43, (0 : Int), none, none, x_found28, [], rfl, g55, (Same.refl _), ow56, (by show 0 ≤ sizeLine; decide), hA31, ow57, ht61⟩
    · intro i σ' H' _ hP
      obtain ⟨F', x_done, x_told, o_x_there, o_x_here, x_found, ws_x_found, rfl, g_, sm_, ow_x_found, hl_x_found, hA_x_found, owk0_, hm_⟩ := hP
      exact ⟨(Same.seq g_.fh (Same.seq sm_ hS37)), owk0_.sq⟩
    · intro i62 xv65 xw66 T67 σ' H64 hx63 hw68 nT69 hP
      obtain ⟨F70, x_done71, x_told72, o_x_there73, o_x_here74, x_found75, ws_x_found76, rfl, g77, sm78, ow_x_found79, hl_x_found80, hA_x_found81, owk082, hm83⟩ := hP
      obtain ⟨e85, he86, r87⟩ := RL.get (hA39.up sm78) hx63
      obtain rfl := R.int_v r87
      obtain ⟨e88, he89, r90⟩ := RL.get (hA53.up sm78) hw68
      obtain rfl := R.int_v r90
      have he91 : (List.zip x_one.e (cutL x_one.e (some (1 : Int)) none))[i62]? = some (e85, e88) := gzip_get he86 he89
      have ne92 := ow_x_found79.ne nT69
      have ne93 := owk082.ne nT69
      have sm94 := same_new (o := (.tup [(V.int e85), (V.int e88)])) (g77.noneF nT69)
      have g95 := g77.frz (o := (.tup [(V.int e85), (V.int e88)])) nT69
      have ow96 := ow_x_found79.frz (o := (.tup [(V.int e85), (V.int e88)])) nT69
      have ow97 := owk082.frz (o := (.tup [(V.int e85), (V.int e88)])) nT69
      have r98 : R K (upd F70 T67 (.tup [(V.int e85), (V.int e88)])) (.ref T67) ((e85, e88) : (Int × Int)) := R.mk2 fzT (Rp.int e85) (Rp.int e88)
      rw [drop_at he91, m_rules_of_l1.eq_2] at hm83
      obtain ⟨p99, v102, v103, ev100, hS101, r104, r105⟩ := R.p2_v r98
      obtain rfl := R.int_v r104
      obtain rfl := R.int_v r105
      refine ⟨p99, [(V.int (e85, e88).1), (V.int (e85, e88).2)], ev100, (SqT_mono g95.fh hS101), rfl, (V.int (e85, e88).1), [(V.int (e85, e88).2)], rfl, (V.int (e85, e88).2), [], rfl, rfl, ?_⟩
      refine p_seq ?_
      refine p_asg ?_
      obtain ⟨r106, hb107, hm83⟩ := bnd hm83
      refine ⟨v16, rfl, (V.int x_done71), rfl, (V.int (e85, e88).2), rfl, v16, x_one.c.b, x_done71, (e85, e88).2, r106, rfl, (Rp.up (r20.up (Same.trans sm78 sm94)) g95.fh), hb107, fun F108 H109 g110 => ?_⟩
      have g112 := Gr.apart g95 g110
      have ow113 := ow96.apart g110
      have ow114 := ow97.apart g110
      refine p_name ?_
      refine p_nx ?_
      refine p_seq ?_
      refine p_drop ?_
      refine ⟨(V.ref p23), rfl, (.inl ⟨rfl, _, ow113.sq⟩), (V.int (e85, e88).1), rfl, (V.int x_one.a), rfl, (V.int x_told72), rfl, (V.int (e85, e88).2), rfl, (V.int r106), rfl, (by show 4 ≤ sizeLine; decide), fun p115 np116 => ?_⟩
      have ne117 := ow113.ne np116
      have ne118 := ow114.ne np116
      have sm119 := same_new (o := (.tup [(V.int x_one.a), (V.int x_told72), (V.int (e85, e88).2), (V.int r106)])) (g112.noneF np116)
      have g120 := g112.frz (o := (.tup [(V.int x_one.a), (V.int x_told72), (V.int (e85, e88).2), (V.int r106)])) np116
      have ow121 := ow113.frz (o := (.tup [(V.int x_one.a), (V.int x_told72), (V.int (e85, e88).2), (V.int r106)])) np116
      have ow122 := ow114.frz (o := (.tup [(V.int x_one.a), (V.int x_told72), (V.int (e85, e88).2), (V.int r106)])) np116
      have r123 : R K (upd (upd F70 T67 (.tup [(V.int e85), (V.int e88)])) p115 (.tup [(V.int x_one.a), (V.int x_told72), (V.int (e85, e88).2), (V.int r106)])) (.ref p115) ((T4.mk x_one.a x_told72 (e85, e88).2 r106) : (T4 Int Int Int Int)) := R.mk4 fzT (Rp.int x_one.a) (Rp.int x_told72) (Rp.int (e85, e88).2) (Rp.int r106)
      refine ⟨(by show 2 ≤ sizeLine; decide), fun p124 np125 => ?_⟩
      have ne126 := ow121.ne np125
      have ne127 := ow122.ne np125
      have sm128 := same_new (o := (.tup [(V.int (e85, e88).1), (V.ref p115)])) (g120.noneF np125)
      have g129 := g120.frz (o := (.tup [(V.int (e85, e88).1), (V.ref p115)])) np125
      have ow130 := ow121.frz (o := (.tup [(V.int (e85, e88).1), (V.ref p115)])) np125
      have ow131 := ow122.frz (o := (.tup [(V.int (e85, e88).1), (V.ref p115)])) np125
      have r132 : R K (upd (upd (upd F70 T67 (.tup [(V.int e85), (V.int e88)])) p115 (.tup [(V.int x_one.a), (V.int x_told72), (V.int (e85, e88).2), (V.int r106)])) p124 (.tup [(V.int (e85, e88).1), (V.ref p115)])) (.ref p124) (((e85, e88).1, (T4.mk x_one.a x_told72 (e85, e88).2 r106)) : (Int × (T4 Int Int Int Int))) := R.mk2 fzT (Rp.int (e85, e88).1) (r123.up sm128)
      obtain ⟨t133, hb134, hm83⟩ := bnd hm83
      obtain ⟨hk135, rfl⟩ := appL_ok hb134
      refine ⟨p23, ws_x_found76, (V.ref p124), rfl, rfl, ow130.h, (by rw [RL.len (hA_x_found81.up (Same.trans sm94 (Same.trans sm119 sm128)))]; exact hk135), ?_⟩
      have hA136 : RL K (upd (upd (upd F70 T67 (.tup [(V.int e85), (V.int e88)])) p115 (.tup [(V.int x_one.a), (V.int x_told72), (V.int (e85, e88).2), (V.int r106)])) p124 (.tup [(V.int (e85, e88).1), (V.ref p115)])) (ws_x_found76 ++ [(V.ref p124)]) (x_found75 ++ [(((e85, e88).1, (T4.mk x_one.a x_told72 (e85, e88).2 r106)) : (Int × (T4 Int Int Int Int)))]) := RL.snoc (hA_x_found81.up (Same.trans sm94 (Same.trans sm119 sm128))) r132
      have hl137 : (ws_x_found76 ++ [(V.ref p124)]).length ≤ sizeLine := by rw [List.length_append, RL.len (hA_x_found81.up (Same.trans sm94 (Same.trans sm119 sm128)))]; exact hk135
      have g138 := g129.put (o := (.lst (ws_x_found76 ++ [(V.ref p124)]))) ow130
      have ow139 := ow131.other (o := (.lst (ws_x_found76 ++ [(V.ref p124)]))) (Ne.symm ne54)
      have ow140 := ow130.put (us := (ws_x_found76 ++ [(V.ref p124)]))
      refine p_nx ?_
      refine p_asg ?_
      refine ⟨(V.int r106), rfl, ?_⟩
      refine p_name ?_
      exact ⟨(upd (upd (upd F70 T67 (.tup [(V.int e85), (V.int e88)])) p115 (.tup [(V.int x_one.a), (V.int x_told72), (V.int (e85, e88).2), (V.int r106)])) p124 (.tup [(V.int (e85, e88).1), (V.ref p115)])), r106, r106, (some (V.int (e85, e88).2)), (some (V.int (e85, e88).1)), (x_found75 ++ [((e85, e88).1, (T4.mk x_one.a x_told72 (e85, e88).2 r106))]), (ws_x_found76 ++ [(V.ref p124)]), rfl, g138, (Same.trans sm78 (Same.trans sm94 (Same.trans sm119 sm128))), ow140, hl137, hA136, ow139, hm83⟩
    intro σ141 H142 hP
    obtain ⟨F143, x_done144, x_told145, o_x_there146, o_x_here147, x_found148, ws_x_found149, rfl, g150, sm151, ow_x_found152, hl_x_found153, hA_x_found154, owk0155, hm156⟩ := hP
    rw [drop_end (show (min ws35.length (cutV ws35 (some (1 : Int)) none).length) = ((List.zip x_one.e (cutL x_one.e (some (1 : Int)) none))).length from zip_lenV (RL.len (hA39.up sm151)) (RL.len (hA53.up sm151))), m_rules_of_l1.eq_1] at hm156
    obtain ⟨rfl, rfl, rfl⟩ := pjoin3 hm156
    refine p_nx ?_
    refine p_seq ?_
    refine p_drop ?_
    obtain ⟨t157, hb158, hm⟩ := bnd hm
    obtain ⟨v159, ha160, r161⟩ := RL.at (hA39.up sm151) hb158
    obtain rfl := R.int_v r161
    refine ⟨(V.ref p23), rfl, (.inl ⟨rfl, _, ow_x_found152.sq⟩), v7, rfl, _, rfl, p34, ws35, _, (V.int t157), ev36, rfl, (Same.seq g150.fh (Same.seq sm151 hS37)), ha160, (V.int x_one.a), rfl, (V.int x_told145), rfl, (V.int x_one.c.a), rfl, (by show 4 ≤ sizeLine; decide), fun p162 np163 => ?_⟩
    have ne164 := ow_x_found152.ne np163
    have ne165 := owk0155.ne np163
    have sm166 := same_new (o := (.tup [(V.int x_one.a), (V.int x_told145), (V.int (-1 : Int)), (V.int x_one.c.a)])) (g150.noneF np163)
    have g167 := g150.frz (o := (.tup [(V.int x_one.a), (V.int x_told145), (V.int (-1 : Int)), (V.int x_one.c.a)])) np163
    have ow168 := ow_x_found152.frz (o := (.tup [(V.int x_one.a), (V.int x_told145), (V.int (-1 : Int)), (V.int x_one.c.a)])) np163
    have ow169 := owk0155.frz (o := (.tup [(V.int x_one.a), (V.int x_told145), (V.int (-1 : Int)), (V.int x_one.c.a)])) np163
    have r170 : R K (upd F143 p162 (.tup [(V.int x_one.a), (V.int x_told145), (V.int (-1 : Int)), (V.int x_one.c.a)])) (.ref p162) ((T4.mk x_one.a x_told145 (-1 : Int) x_one.c.a) : (T4 Int Int Int Int)) := R.mk4 fzT (Rp.int x_one.a) (Rp.int x_told145) (Rp.int (-1 : Int)) (Rp.int x_one.c.a)
    refine ⟨(by show 2 ≤ sizeLine; decide), fun p171 np172 => ?_⟩
    have ne173 := ow168.ne np172
    have ne174 := ow169.ne np172
    have sm175 := same_new (o := (.tup [(V.int t157), (V.ref p162)])) (g167.noneF np172)
    have g176 := g167.frz (o := (.tup [(V.int t157), (V.ref p162)])) np172
    have ow177 := ow168.frz (o := (.tup [(V.int t157), (V.ref p162)])) np172
    have ow178 := ow169.frz (o := (.tup [(V.int t157), (V.ref p162)])) np172
    have r179 : R K (upd (upd F143 p162 (.tup [(V.int x_one.a), (V.int x_told145), (V.int (-1 : Int)), (V.int x_one.c.a)])) p171 (.tup [(V.int t157), (V.ref p162)])) (.ref p171) ((t157, (T4.mk x_one.a x_told145 (-1 : Int) x_one.c.a)) : (Int × (T4 Int Int Int Int))) := R.mk2 fzT (Rp.int t157) (r170.up sm175)
    obtain ⟨t180, hb181, hm⟩ := bnd hm
    obtain ⟨hk182, rfl⟩ := appL_ok hb181
    refine ⟨p23, ws_x_found149, (V.ref p171), rfl, rfl, ow177.h, (by rw [RL.len (hA_x_found154.up (Same.trans sm166 sm175))]; exact hk182), ?_⟩
    have hA183 : RL K (upd (upd F143 p162 (.tup [(V.int x_one.a), (V.int x_told145), (V.int (-1 : Int)), (V.int x_one.c.a)])) p171 (.tup [(V.int t157), (V.ref p162)])) (ws_x_found149 ++ [(V.ref p171)]) (x_found148 ++ [((t157, (T4.mk x_one.a x_told145 (-1 : Int) x_one.c.a)) : (Int × (T4 Int Int Int Int)))]) := RL.snoc (hA_x_found154.up (Same.trans sm166 sm175)) r179
    have hl184 : (ws_x_found149 ++ [(V.ref p171)]).length ≤ sizeLine := by rw [List.length_append, RL.len (hA_x_found154.up (Same.trans sm166 sm175))]; exact hk182
    have g185 := g176.put (o := (.lst (ws_x_found149 ++ [(V.ref p171)]))) ow177
    have ow186 := ow178.other (o := (.lst (ws_x_found149 ++ [(V.ref p171)]))) (Ne.symm ne54)
    have ow187 := ow177.put (us := (ws_x_found149 ++ [(V.ref p171)]))
    refine p_nx ?_
    refine p_ret ?_
    obtain rfl := sjoin hm
    refine ⟨(V.ref p23), rfl, (hQ _ _ _ _ g185 ow187.n0 ow187.h ow187.nF hl184 hA183)⟩
end K42
namespace K42
open PySem PySem.Spec PyProof.Rows L2 TL G
theorem ok_l_bag {P : Program} {w : World} {K : PySem.W.Frag} {mg : Str → Option Value} {base : Heap} (T : Txt K mg) : FnOk P w K mg base CX0 1 T.a_l_bag T.d_l_bag ["_law_script"] (sp_l_bag K) := by
  refine fd_ok T.F_l_bag sc_l_bag (fun vs H Q E h => ?_) (fun cdv A outer s H0 vs Q E hr h => ?_)
  · obtain ⟨_, _, rfl, _⟩ := h
    rfl
  · obtain ⟨a, ns, rfl, hS, hl, hQ⟩ := h
    refine ⟨_, (pss_cons (ps_set (i := 1) sc_l_bag.nd rfl (.inl rfl) pe_int)
      (pss_cons (ps_for PassesOwn.never rfl (pi_list (pe_slice sl_list (pv 0) po_none (po_some pe_int))) (pg_name (i := 2) sc_l_bag.nd rfl (Or.inl rfl))
          (pss_one (ps_set (i := 1) sc_l_bag.nd rfl (.inl rfl) (pe_op op_mod (pe_op op_add (pe_op op_add (pe_op op_mul (pv 1) pe_int) (pe_op op_mod (pv 2) pe_int)) pe_int) pe_int))))
      (pss_one (ps_ret (pe_lst (pa_cons (pe_lc (own := [("_law_cell", 2)]) rfl sc_l_bag.nd (pi_list (pe_slice sl_list (pv 0) po_none (po_some pe_int)))
          (blkOk_by (own := [("_law_cell", 2)]) (N := N_l_bag) (sc := defScope s_l_bag) (by decide +kernel)) (fun _ _ _ _ _ => pg_name (i := 2) sc_l_bag.nd rfl (Or.inl rfl)) (fun _ _ _ _ _ => pts_nil)
          (fun _ _ _ _ _ => pe_op op_mod (pe_callB call_abs (by rfl) T.n_abs (by decide +kernel) (pa_cons (pv 2) pa_nil)) (pe_op op_powW (pe_op op_pow pe_int pe_int) pe_int)))
        (pa_cons pe_int (pa_cons pe_int (pa_cons (pv 1) (pa_cons pe_int pa_nil)))))))))), ?_⟩
    have g0 : Gr M0 (fun _ => none) H0 (fun _ => none) H0 := Gr.refl (fun _ _ h => nomatch h)
    have hcut : ∀ (lo hi : Option Int), cutV (ns.map V.int) lo hi = (cutL ns lo hi).map V.int := fun lo hi => by
      unfold cutV cutL
      rw [List.length_map, List.map_take, List.map_drop]
    have hcl : ∀ (lo hi : Option Int), (cutL ns lo hi).length ≤ 63 := fun lo hi => by
      unfold cutL
      rw [List.length_take, List.length_drop]
      omega
    refine p_seq ?_
    refine p_asg ?_
    refine p_name ?_
    refine p_nx ?_
    refine p_seq ?_
    refine p_for ?_
    refine ⟨.ref a, rfl, 63, rfl, a, ns.map V.int, rfl, hS, fun p np => ?_⟩
    rw [hcut]
    generalize hcs : cutL ns none (some 63) = cs
    have hc1 : cs.length ≤ 63 := by rw [← hcs]; exact hcl _ _
    have hc2 : (cs.map V.int).length = cs.length := List.length_map ..
    have g1 := g0.own (o := .lst (cs.map V.int)) np
    have ow1 : Ow H0 (fun _ => none) _ p (cs.map V.int) := Ow.new g0 np
    generalize hH1 : upd H0 p (.lst (cs.map V.int)) = H1 at g1 ow1 ⊢
    refine ⟨p, rfl, ⟨_, ow1.sq⟩, ?_⟩
    refine for_list (xs := cs.map V.int) (fun i σ' H' => ∃ (z : Int) (c : Option V), σ' = [some (.ref a), some (.int z), c] ∧ 0 ≤ z ∧ z < 2147483648 ∧ H' = H1) ⟨_, none, rfl, by decide, by decide, rfl⟩ (fun i σ' H' _ hP => ?_) (fun i x σ' H' hx hP => ?_) (fun σ' H' hP => ?_)
    · obtain ⟨z, c, _, _, _, rfl⟩ := hP
      exact ow1.sq
    · obtain ⟨z, c, rfl, h1, h2, rfl⟩ := hP
      obtain ⟨x, rfl⟩ : ∃ x', x = V.int x' := by
        rw [List.getElem?_map] at hx
        obtain ⟨y, _, e⟩ := Option.map_eq_some_iff.mp hx
        exact ⟨y, e.symm⟩
      refine p_asg ?_
      refine ⟨.int z, rfl, _, _, rfl, rfl, (.inr ⟨by decide, by decide⟩), .int x, rfl, _, _, rfl, rfl, (show (0 : Int) < 2147483629 by decide), _, _, rfl, rfl, _, _, rfl, rfl, _, _, rfl, rfl, (show (0 : Int) < 2147483647 by decide), ?_⟩
      refine ⟨_, _, rfl, Int.emod_nonneg _ (by decide), ?_, rfl⟩
      exact Int.lt_trans (Int.emod_lt_of_pos _ (by decide)) (by decide)
    · obtain ⟨z, c, rfl, h1, h2, rfl⟩ := hP
      refine p_nx ?_
      refine p_ret ?_
      have hS1 : SqL K H' a (ns.map V.int) := g1.seq id hS
      refine ⟨.ref a, rfl, 63, rfl, a, ns.map V.int, rfl, hS1, fun p2 np2 => ?_⟩
      rw [hcut, hcs]
      have g2 := g1.own (o := .lst (cs.map V.int)) np2
      have ow2 : Ow H0 (fun _ => none) _ p2 (cs.map V.int) := Ow.new g1 np2
      generalize hH2 : upd H' p2 (.lst (cs.map V.int)) = H2 at g2 ow2 ⊢
      refine ⟨p2, rfl, ⟨_, ow2.sq⟩, fun D nD => ?_⟩
      refine lc_list (xs := cs.map V.int) (fun i H' => ∃ ds : List Int, ds.length = i ∧ H' = upd H2 D (.lst (ds.map V.int))) ⟨[], rfl, rfl⟩ (fun i H' _ hP => ?_) (fun i x H' hx hP => ?_) (fun H' hP => ?_)
      · obtain ⟨ds, _, rfl⟩ := hP
        exact (ow2.own nD).sq
      · obtain ⟨ds, hds, rfl⟩ := hP
        have hi : i < cs.length := by rw [← hc2]; exact (List.getElem?_eq_some_iff.mp hx).1
        obtain ⟨x, rfl⟩ : ∃ x', x = V.int x' := by
          rw [List.getElem?_map] at hx
          obtain ⟨y, _, e⟩ := Option.map_eq_some_iff.mp hx
          exact ⟨y, e.symm⟩
        refine ⟨rfl, p_yes ?_⟩
        refine ⟨.int x, rfl, x, rfl, _, _, rfl, rfl, ⟨by decide, by decide, by decide⟩, _, _, rfl, rfl, ⟨by decide, by decide +kernel⟩, _, _, rfl, rfl, (show (0 : Int) < ((10 : Int) ^ (60 : Int).toNat) ^ (10 : Int).toNat by decide +kernel), ?_⟩
        refine ⟨_, upd_same, ?_, ds ++ [(if x < 0 then -x else x) % ((10 : Int) ^ (60 : Int).toNat) ^ (10 : Int).toNat], ?_, ?_⟩
        · rw [List.length_map, sizeLine_eq]; omega
        · rw [List.length_append, hds]; rfl
        · rw [upd_upd, List.map_append]; rfl
      · obtain ⟨ds, hds, rfl⟩ := hP
        rw [hc2] at hds
        refine ⟨.int z, rfl, (by show 5 ≤ sizeLine; decide), fun B nB => ?_⟩
        have hne : D ≠ B := fun e => by rw [← e, upd_same] at nB; cases nB
        exact hQ B D ⟨ds, 0, 0, z, 0⟩ (fun _ => none) _ (fun _ _ h => nomatch h) ⟨upd_same, by rw [upd_ne hne, upd_same], hne.symm, rfl, rfl⟩ ⟨h1, h2, by show ds.length ≤ 63; omega⟩ (((g2.own nD).own nB).seq id hS) (fun o ho z => by
          have m2 := g2.keep a o id ho
          rcases z with rfl | rfl
          · rw [upd_ne (fun e => by rw [e] at m2; rw [m2] at nD; cases nD)] at nB
            rw [m2] at nB
            cases nB
          · rw [m2] at nD
            cases nD)

end K42
namespace K42
open PySem PySem.Spec PyProof.Rows L2 TL G
theorem ok_l_stirred {P : Program} {w : World} {K : PySem.W.Frag} {mg : Str → Option Value} {base : Heap} (T : Txt K mg) : FnOk P w K mg base CX0 1 T.a_l_stirred T.d_l_stirred ["_law_bag_here", "_law_many"] (sp_l_stirred K) := by
  refine fd_ok T.F_l_stirred sc_l_stirred (fun vs H Q E h => ?_) (fun cdv A outer s H0 vs Q E hr h => ?_)
  · obtain ⟨_, _, _, _, _, _, _, rfl, _⟩ := h
    rfl
  · obtain ⟨F0, B, C, b, n, r, b', rfl, hS0, hB, hm, hQ⟩ := h
    refine ⟨_, (pss_cons (ps_set (i := 2) sc_l_stirred.nd rfl (.inl rfl) pe_int)
      (pss_cons (ps_for PassesOwn.never rfl (pi_range1 (by rfl) T.n_range (pa_cons (pe_op op_add pe_int (pe_op op_fdiv (pe_bits (pv 1)) pe_int)) pa_nil)) (pg_name (i := 3) sc_l_stirred.nd rfl (Or.inl rfl))
          (pss_cons (ps_asg (pe_op op_add (pe_ix ix_list (pv 0) pe_int (fun _ _ => rfl)) pe_int) (pg_sub (pv 0) pe_int set_list))
          (pss_cons (ps_asg (pe_op op_mod (pe_op op_add (pe_op op_add (pe_op op_add (pe_op op_pow (pe_ix ix_list (pv 0) pe_int (fun _ _ => rfl)) pe_int) (pe_op op_mul pe_int (pe_ix ix_list (pv 0) pe_int (fun _ _ => rfl)))) (pe_op op_mul pe_int (pe_ix ix_list (pv 0) pe_int (fun _ _ => rfl)))) pe_int) pe_int) (pg_sub (pv 0) pe_int set_list))
          (pss_one (ps_set (i := 2) sc_l_stirred.nd rfl (.inl rfl) (pe_op op_add (pe_op op_mul (pv 2) pe_int) (pe_op op_fdiv (pe_ix ix_list (pv 0) pe_int (fun _ _ => rfl)) pe_int)))))))
      (pss_one (ps_ret (pe_op op_mod (pv 2) (pv 1)))))), ?_⟩
    have g0 : Gr (Bc B C) F0 H0 F0 H0 := Gr.refl hS0
    unfold m_l_stirred at hm
    have hc : (0 < n ∧ Builtin.Int.intBits n < 9000) ∧ (0 ≤ b.stir ∧ b.stir < 2147483648) := by
      by_cases hc : (0 < n ∧ Builtin.Int.intBits n < 9000) ∧ (0 ≤ b.stir ∧ b.stir < 2147483648)
      · exact hc
      · rw [if_neg hc] at hm; cases hm
    rw [if_pos hc] at hm
    obtain ⟨⟨hn, hn2⟩, hs0, hs1⟩ := hc
    obtain ⟨cs, a0, lf, sd, ct⟩ := b
    simp only at hm hs0 hs1
    obtain ⟨rfl, rfl⟩ := pjoin hm
    have lB : ∀ {H : Hp} {a : Nat} {l z c : Int}, BagAt F0 H B C ⟨cs, a, l, z, c⟩ → SqL K H B [V.ref C, .int (a : Nat), .int l, .int z, .int c] := fun h => .inl (.inl h.hB)
    refine p_seq ?_
    refine p_asg ?_
    refine p_name ?_
    refine p_nx ?_
    refine p_seq ?_
    refine p_for ?_
    generalize hbn : Builtin.Int.intBits n = bn at hn2 ⊢
    have htn : ((1 : Int) + ((bn : Nat) : Int) / 27).toNat = 1 + bn / 27 := by omega
    refine ⟨.int n, rfl, n, rfl, _, _, rfl, rfl, ⟨by decide, by decide⟩, _, _, rfl, rfl, (1 : Int) + ((bn : Nat) : Int) / 27, by rw [← hbn], by omega, by omega, ?_⟩
    rw [htn]
    refine for_range (lo := 0) (n := 1 + bn / 27) (fun i σ' H' => ∃ (o : Option V), σ' = [some (.ref B), some (.int n), some (.int (stirN sd ct i).2.2), o] ∧ Gr (Bc B C) F0 H0 F0 H' ∧ BagAt F0 H' B C ⟨cs, a0, lf, (stirN sd ct i).1, (stirN sd ct i).2.1⟩ ∧ 0 ≤ (stirN sd ct i).1 ∧ (stirN sd ct i).1 < 2147483648) ⟨none, rfl, g0, hB, hs0, hs1⟩ (fun i σ' H' hi hP => ?_) (fun σ' H' hP => ?_)
    · obtain ⟨o, rfl, g, hB, h0, h1⟩ := hP
      generalize hS : stirN sd ct i = S at hB h0 h1 ⊢
      obtain ⟨z, c, f⟩ := S
      have hS' : stirN sd ct (i + 1) = (nxt z (c + 1), c + 1, f * 134217728 + nxt z (c + 1) / 16) := by
        show (nxt (stirN sd ct i).1 ((stirN sd ct i).2.1 + 1), (stirN sd ct i).2.1 + 1, (stirN sd ct i).2.2 * 134217728 + nxt (stirN sd ct i).1 ((stirN sd ct i).2.1 + 1) / 16) = _
        rw [hS]
      simp only at hB h0 h1 ⊢
      have hpow : CPow z 3 := ⟨by decide, by decide, by omega⟩
      refine p_seq ?_
      refine p_asg ?_
      refine ⟨_, rfl, _, _, 4, .int c, rfl, rfl, lB hB, rfl, _, _, rfl, rfl, _, rfl, B, _, 4, 4, rfl, rfl, hB.hB, rfl, ?_⟩
      have hB2 := G.BagAt2.put (b' := ⟨cs, a0, lf, z, c + 1⟩) hB rfl
      have g2 := g.mut (o := .lst [.ref C, .int (a0 : Nat), .int lf, .int z, .int (c + 1)]) hB.fB (.inr (.inl rfl))
      refine p_nx ?_
      refine p_seq ?_
      refine p_asg ?_
      refine ⟨_, rfl, _, _, 3, .int z, rfl, rfl, lB hB2, rfl, _, _, rfl, rfl, hpow, _, rfl, _, _, 3, .int z, rfl, rfl, lB hB2, rfl, _, _, rfl, rfl, (.inl ⟨by decide, by decide⟩), _, _, rfl, rfl, _, rfl, _, _, 4, .int (c + 1), rfl, rfl, lB hB2, rfl, _, _, rfl, rfl, (.inl ⟨by decide, by decide⟩), _, _, rfl, rfl, _, _, rfl, rfl, _, _, rfl, rfl, (show (0 : Int) < 2147483647 by decide), _, rfl, B, _, 3, 3, rfl, rfl, hB2.hB, rfl, ?_⟩
      have hB3 := G.BagAt2.put (b' := ⟨cs, a0, lf, nxt z (c + 1), c + 1⟩) hB2 rfl
      have g3 := g2.mut (o := .lst [.ref C, .int (a0 : Nat), .int lf, .int (nxt z (c + 1)), .int (c + 1)]) hB2.fB (.inr (.inl rfl))
      refine p_nx ?_
      refine p_asg ?_
      refine ⟨.int f, rfl, _, _, rfl, rfl, (.inr ⟨by decide, by decide⟩), _, rfl, _, _, 3, .int (nxt z (c + 1)), rfl, rfl, lB hB3, rfl, _, _, rfl, rfl, ⟨by decide, by decide⟩, _, _, rfl, rfl, ?_⟩
      refine p_name ?_
      refine ⟨_, by rw [hS'] <;> rfl, g3, by rw [hS']; exact hB3, ?_, ?_⟩
      · rw [hS']; exact Int.emod_nonneg _ (by decide)
      · rw [hS']
        have : nxt z (c + 1) < 2147483647 := Int.emod_lt_of_pos _ (by decide)
        show nxt z (c + 1) < 2147483648
        omega
    · obtain ⟨o, rfl, g, hB, h0, h1⟩ := hP
      refine p_nx ?_
      refine p_ret ?_
      refine ⟨_, rfl, .int n, rfl, _, _, rfl, rfl, hn, ?_⟩
      subst hbn
      exact hQ _ _ g hB
theorem ok_l_draw {P : Program} {w : World} {K : PySem.W.Frag} {mg : Str → Option Value} {base : Heap} (T : Txt K mg) : FnOk P w K mg base CX0 2 T.a_l_draw T.d_l_draw ["_law_bag_here", "_law_many"] (sp_l_draw K) := by
  have G_l_stirred : FnOk P w K mg base CX0 1 T.a_l_stirred T.d_l_stirred ["_law_bag_here", "_law_many"] (sp_l_stirred K) := ok_l_stirred T
  have b_l_stirred := T.F_l_stirred.bindsN (ps := ["_law_bag_here", "_law_many"]) fun _ _ _ _ _ _ us hl => match us, hl with | [_, _], _ => rfl
  refine fd_ok T.F_l_draw sc_l_draw (fun vs H Q E h => ?_) (fun cdv A outer s H0 vs Q E hr h => ?_)
  · obtain ⟨_, _, _, _, _, _, _, rfl, _⟩ := h
    rfl
  · obtain ⟨F0, B, C, b, n, r, b', rfl, hS0, hB, hm, hQ⟩ := h
    refine ⟨_, (pss_cons (ps_if (PW.pt (pw_and (pt_cmpR op_eq (pe_ix ix_list (pv 0) pe_int (fun _ _ => rfl)) pe_int (nomark _)) (pw_and1 (pt_cmpR op_lt (pe_ix ix_list (pv 0) pe_int (fun _ _ => rfl)) (pe_callB call_lenL (by rfl) T.n_len (by decide +kernel) (pa_cons (pe_ix ix_list (pv 0) pe_int (fun _ _ => rfl)) pa_nil)) (nomark _)))))
          (pss_cons (ps_asg (pe_ix ix_list (pe_ix ix_list (pv 0) pe_int (fun _ _ => rfl)) (pe_ix ix_list (pv 0) pe_int (fun _ _ => rfl)) (fun _ _ => rfl)) (pg_sub (pv 0) pe_int set_list))
          (pss_one (ps_asg (pe_op op_add (pe_ix ix_list (pv 0) pe_int (fun _ _ => rfl)) pe_int) (pg_sub (pv 0) pe_int set_list))))
          (pss_one (ps_if (pt_cmpR op_eq (pe_ix ix_list (pv 0) pe_int (fun _ _ => rfl)) pe_int (nomark _)) (pss_one (ps_ret (pe_call G_l_stirred (hr.mono (by decide)) (by rfl) T.g_l_stirred T.F_l_stirred.kp b_l_stirred .nil pass0 (pa_cons (pv 0) (pa_cons (pv 1) pa_nil))))) pss_nil)))
      (pss_cons (ps_set (i := 2) sc_l_draw.nd rfl (.inl rfl) (pe_op op_mod (pe_ix ix_list (pv 0) pe_int (fun _ _ => rfl)) (pv 1)))
      (pss_cons (ps_asg (pe_op op_fdivW (pe_ix ix_list (pv 0) pe_int (fun _ _ => rfl)) (pv 1)) (pg_sub (pv 0) pe_int set_list))
      (pss_one (ps_ret (pv 2)))))), ?_⟩
    have g0 : Gr (Bc B C) F0 H0 F0 H0 := Gr.refl hS0
    unfold m_l_draw at hm
    have hc : (0 < n ∧ n.natAbs.log2 < 9000) ∧ b.cells.length ≤ sizeLine := by
      by_cases hc : (0 < n ∧ n.natAbs.log2 < 9000) ∧ b.cells.length ≤ sizeLine
      · exact hc
      · rw [if_neg hc] at hm; cases hm
    rw [if_pos hc] at hm
    obtain ⟨⟨hn, hn2⟩, hsz⟩ := hc
    obtain ⟨cs, a, lf, sd, ct⟩ := b
    simp only at hm hsz
    have lB : ∀ {H : Hp} {a : Nat} {l z c : Int}, BagAt F0 H B C ⟨cs, a, l, z, c⟩ → SqL K H B [V.ref C, .int (a : Nat), .int l, .int z, .int c] := fun h => .inl (.inl h.hB)
    have lC : ∀ {H : Hp} {b1 : Bag}, BagAt F0 H B C b1 → SqL K H C (b1.cells.map V.int) := fun h => .inl (.inl h.hC)
    have hz : (cs.map V.int).length = cs.length := List.length_map ..
    refine p_seq ?_
    refine p_if ?_
    refine ⟨_, rfl, _, _, 2, .int lf, rfl, rfl, lB hB, rfl, rfl, _, rfl, ?_⟩
    by_cases h0 : lf = 0
    · subst h0
      rw [if_pos rfl] at hm
      refine ifTr (decide_eq_true rfl) ?_
      refine ⟨_, rfl, _, _, 1, .int (a : Nat), rfl, rfl, lB hB, rfl, _, rfl, _, _, 0, .ref C, rfl, rfl, lB hB, rfl, C, _, _, rfl, .inl (lC hB), hz, _, _, rfl, rfl, _, rfl, ?_⟩
      by_cases hl : a < cs.length
      · obtain ⟨x, hx⟩ : ∃ x, cs[a]? = some x := ⟨_, List.getElem?_eq_getElem hl⟩
        rw [hx] at hm
        obtain ⟨rfl, rfl⟩ := pjoin hm
        refine ifTr (decide_eq_true (Int.ofNat_lt.mpr hl)) ?_
        refine p_seq ?_
        refine p_asg ?_
        refine ⟨_, rfl, _, _, 0, .ref C, rfl, rfl, lB hB, rfl, _, rfl, _, _, 1, .int (a : Nat), rfl, rfl, lB hB, rfl, _, _, (a : Nat), .int x, rfl, rfl, lC hB, atI_map hx, _, rfl, B, _, 2, 2, rfl, rfl, hB.hB, rfl, ?_⟩
        have hB2 := G.BagAt2.put (b' := ⟨cs, a, x, sd, ct⟩) hB rfl
        have g2 := g0.mut (o := .lst [.ref C, .int (a : Nat), .int x, .int sd, .int ct]) hB.fB (.inr (.inl rfl))
        refine p_nx ?_
        refine p_asg ?_
        refine ⟨_, rfl, _, _, 1, .int (a : Nat), rfl, rfl, lB hB2, rfl, _, _, rfl, rfl, _, rfl, B, _, 1, 1, rfl, rfl, hB2.hB, rfl, ?_⟩
        have hB3 := G.BagAt2.put (b' := ⟨cs, a + 1, x, sd, ct⟩) hB2 rfl
        have g3 := g2.mut (o := .lst [.ref C, .int ((a + 1 : Nat) : Int), .int x, .int sd, .int ct]) hB2.fB (.inr (.inl rfl))
        refine p_nx ?_
        refine p_seq ?_
        refine p_asg ?_
        refine ⟨_, rfl, _, _, 2, .int x, rfl, rfl, lB hB3, rfl, .int n, rfl, _, _, rfl, rfl, hn, ?_⟩
        refine p_name ?_
        refine p_nx ?_
        refine p_seq ?_
        refine p_asg ?_
        refine ⟨_, rfl, _, _, 2, .int x, rfl, rfl, lB hB3, rfl, .int n, rfl, x, n, rfl, rfl, ⟨hn, hn2⟩, _, rfl, B, _, 2, 2, rfl, rfl, hB3.hB, rfl, ?_⟩
        refine p_nx ?_
        refine p_ret ?_
        refine ⟨_, rfl, ?_⟩
        exact hQ _ _ (g3.mut hB3.fB (.inr (.inl rfl))) (G.BagAt2.put (b' := ⟨cs, a + 1, x / n, sd, ct⟩) hB3 rfl)
      · rw [List.getElem?_eq_none (by omega)] at hm
        refine ifFr (decide_eq_false fun e => hl (Int.ofNat_lt.mp e)) ?_
        refine p_if ?_
        refine ⟨_, rfl, _, _, 2, .int 0, rfl, rfl, lB hB, rfl, rfl, _, rfl, ?_⟩
        refine ifTr (decide_eq_true rfl) ?_
        refine p_ret ?_
        refine ⟨.ref B, rfl, .int n, rfl, F0, B, C, _, n, r, b', rfl, g0.fh, hB, hm, fun F' H' g hB' => ?_⟩
        exact hQ _ _ (g0.trans g) hB'
    · rw [if_neg h0] at hm
      obtain ⟨rfl, rfl⟩ := pjoin hm
      refine ifFr (decide_eq_false fun e => h0 (V.int.inj e)) ?_
      refine ifFr rfl ?_
      refine p_if ?_
      refine ⟨_, rfl, _, _, 2, .int lf, rfl, rfl, lB hB, rfl, rfl, _, rfl, ?_⟩
      refine ifFr (decide_eq_false fun e => h0 (V.int.inj e)) ?_
      refine p_next ?_
      refine p_nx ?_
      refine p_seq ?_
      refine p_asg ?_
      refine ⟨_, rfl, _, _, 2, .int lf, rfl, rfl, lB hB, rfl, .int n, rfl, _, _, rfl, rfl, hn, ?_⟩
      refine p_name ?_
      refine p_nx ?_
      refine p_seq ?_
      refine p_asg ?_
      refine ⟨_, rfl, _, _, 2, .int lf, rfl, rfl, lB hB, rfl, .int n, rfl, lf, n, rfl, rfl, ⟨hn, hn2⟩, _, rfl, B, _, 2, 2, rfl, rfl, hB.hB, rfl, ?_⟩
      refine p_nx ?_
      refine p_ret ?_
      refine ⟨_, rfl, ?_⟩
      exact hQ _ _ (g0.mut hB.fB (.inr (.inl rfl))) (G.BagAt2.put (b' := ⟨cs, a, lf / n, sd, ct⟩) hB rfl)

end K42
namespace K42
open PySem PySem.Spec PyProof.Rows L2 TL G
theorem ok_l_mixed {P : Program} {w : World} {K : PySem.W.Frag} {mg : Str → Option Value} {base : Heap} (T : Txt K mg) : FnOk P w K mg base CX0 3 T.a_l_mixed T.d_l_mixed ["_law_bag_here", "_law_row"] (sp_l_mixed K) := by
  have G_l_draw : FnOk P w K mg base CX0 2 T.a_l_draw T.d_l_draw ["_law_bag_here", "_law_many"] (sp_l_draw K) := ok_l_draw T
  have b_l_draw := T.F_l_draw.bindsN (ps := ["_law_bag_here", "_law_many"]) fun _ _ _ _ _ _ us hl => match us, hl with | [_, _], _ => rfl
  refine fd_ok T.F_l_mixed sc_l_mixed (fun vs H Q E h => ?_) (fun cdv A outer s H0 vs Q E hr h => ?_)
  · obtain ⟨_, _, _, _, _, _, _, _, _, rfl, _⟩ := h
    rfl
  · obtain ⟨F0, B, C, b, p_y_row, ws_y_row, y_row, r, b', rfl, hS0, hB, hS_y_row, hl_y_row, hA_y_row, nm_y_row, hm, hQ⟩ := h
    refine ⟨_, (pss_cons (ps_set (i := 2) sc_l_mixed.nd rfl (.inr rfl) (pe_callTy (call_list_of_ (K := K)) (by rfl) T.n_list (by decide +kernel) (pa_cons (pv 1) pa_nil))) (pss_one (ps_ret (pe_lc (own := [("_law_k", 3)]) rfl sc_l_mixed.nd (pi_range1 (by rfl) T.n_range (pa_cons (pe_callB (call_lenLK (K := K)) (by rfl) T.n_len (by decide +kernel) (pa_cons (pv 1) pa_nil)) pa_nil)) (blkOk_by (own := [("_law_k", 3)]) (N := N_l_mixed) (sc := defScope s_l_mixed) (by decide +kernel)) (fun _ _ _ _ _ => (pg_name (i := 3) sc_l_mixed.nd rfl (Or.inl rfl) (.inr rfl))) (fun _ _ _ _ _ => pts_nil) (fun _ _ _ _ _ => (pe_bmK (K := K) PySem.F.plainAttrs_list PySem.F.slot_list_pop PySem.F.type_list_pop mt_popAt (pv 2) (pa_cons (pe_call G_l_draw (hr.mono (by decide)) (by rfl) T.g_l_draw T.F_l_draw.kp b_l_draw .nil pass0 (pa_cons (pv 0) (pa_cons (pe_callB (call_lenLK (K := K)) (by rfl) T.n_len (by decide +kernel) (pa_cons (pv 2) pa_nil)) pa_nil))) pa_nil))))))), ?_⟩
    have g0 : Gr (Bc B C) F0 H0 F0 H0 := Gr.refl hS0
    unfold m_l_mixed at hm
    refine p_seq ?_
    refine p_asg ?_
    refine ⟨(V.ref p_y_row), rfl, p_y_row, ws_y_row, rfl, (.inl (nm_y_row _ _ g0)), fun p1 np2 => ?_⟩
    have hA3 := hA_y_row
    have nb4 := hB.nb np2
    have g5 := g0.own (o := (.lst ws_y_row)) np2
    have hB6 := hB.own (o := (.lst ws_y_row)) np2
    have ow7 : Ow H0 F0 (upd H0 p1 (.lst ws_y_row)) p1 ws_y_row := Ow.new g0 np2
    refine p_name ?_
    refine p_nx ?_
    refine p_ret ?_
    obtain ⟨l8, hb10, hm⟩ := bnd hm
    obtain ⟨hk9, rfl⟩ := rangeO1_ok hb10
    refine ⟨(V.ref p_y_row), rfl, p_y_row, ws_y_row, _, rfl, (.inl (nm_y_row _ _ g5)), (RL.len hA_y_row), _, rfl, hk9.1.1, hk9.1.2, fun D11 nD12 => ?_⟩
    have ne13 := ow7.ne nD12
    have nb14 := hB6.nb nD12
    have g15 := g5.own (o := (.lst [])) nD12
    have ow16 := ow7.own (o := (.lst [])) nD12
    have hB17 := hB6.own (o := (.lst [])) nD12
    have ow18 : Ow H0 F0 (upd (upd H0 p1 (.lst ws_y_row)) D11 (.lst [])) D11 [] := Ow.new g5 nD12
    obtain ⟨l19, y_left21, b20, hb22, hm⟩ := bnd3 hm
    refine lc_range (lo := (0 : Int)) (n := ((((y_row).length : Nat) : Int)).toNat) (fun i H' => ∃ (F' : Hp) (acc : List V) (ds : List Int) (rest : List Int) (z_y_left : (List Int)) (wz_y_left : List V) (b : Bag), Gr (Bc B C) F0 H0 F' H' ∧ Same F0 F' ∧ Ow H0 F' H' D11 acc ∧ RL K F' acc ds ∧ acc.length ≤ i ∧ Ow H0 F' H' p1 wz_y_left ∧ wz_y_left.length ≤ sizeLine ∧ RL K F' wz_y_left z_y_left ∧ BagAt F' H' B C b ∧ m_l_mixed_c1  ((rangeL (0 : Int) ((((y_row).length : Nat) : Int)).toNat).drop i) z_y_left b = some (rest, y_left21, b20) ∧ ds ++ rest = l19) ?_ ?_ ?_
    · exact ⟨F0, [], [], l19, y_row, ws_y_row, b, g15, Same.refl _, ow18, RpA.nil, Nat.le_refl _, ow16, hl_y_row, hA3, hB17, hb22, rfl⟩
    · intro i24 H26 hx25 hP
      obtain ⟨F27, acc28, ds29, rest30, z_y_left31, wz_y_left32, b33, g034, sm35, owD36, hA37, hi38, owz_y_left39, hlz_y_left40, hAz_y_left41, hB42, hm43, hr44⟩ := hP
      have he46 := rangeL_at (lo := (0 : Int)) hx25
      rw [drop_at he46, m_l_mixed_c1.eq_2] at hm43
      refine ⟨rfl, (p_yes ?_)⟩
      obtain ⟨r47, b48, hb49, hm43⟩ := bnd2 hm43
      refine ⟨(V.ref p1), rfl, (.inl ⟨rfl, _, owz_y_left39.sq⟩), (V.ref B), rfl, (V.ref p1), rfl, p1, wz_y_left32, _, rfl, (.inl owz_y_left39.sq), (RL.len hAz_y_left41), F27, B, C, b33, (((z_y_left31).length : Nat) : Int), r47, b48, rfl, g034.fh, hB42, hb49, fun F50 H51 g52 hB53 => ?_⟩
      have g55 := Gr.trans g034 g52
      have ow56 := owz_y_left39.gr g52 nb4
      have ow57 := owD36.gr g52 nb14
      obtain ⟨t58, y_left59, hb60, hm43⟩ := bnd2 hm43
      obtain ⟨j61, hj62, hx63, rfl⟩ := popI_ok hb60
      obtain ⟨v64, hv65, r66⟩ := RL.back (hAz_y_left41.up g52.ff) hx63
      have hi67 := popI_at (n := wz_y_left32.length) (by rw [RL.len (hAz_y_left41.up g52.ff)]; exact hj62) hlz_y_left40
      obtain rfl := R.int_v r66
      refine ⟨p1, wz_y_left32, _, j61, (V.int t58), rfl, rfl, ow56.h, hi67.1.1, hi67.1.2, hi67.2, hv65, ?_⟩
      have hA68 := RL.erase j61 (hAz_y_left41.up g52.ff)
      have g69 := g55.put (o := (.lst (wz_y_left32.eraseIdx j61))) ow56
      have ow70 := ow57.other (o := (.lst (wz_y_left32.eraseIdx j61))) (Ne.symm ne13)
      have hB71 := hB53.other (o := (.lst (wz_y_left32.eraseIdx j61))) nb4
      have ow72 := ow56.put (us := (wz_y_left32.eraseIdx j61))
      have hA73 : RL K F50 (acc28 ++ [(V.int t58)]) (ds29 ++ [(t58 : Int)]) := RL.snoc (hA37.up g52.ff) (Rp.int t58)
      obtain ⟨rest74, y_left75, b76, h77, h78⟩ := bnd3 hm43
      obtain ⟨rfl, rfl, rfl⟩ := pjoin3 h78
      refine ⟨acc28, ow70.h, (lt_line hi38 hx25 hk9.2), ?_⟩
      have g79 := g69.put (o := (.lst (acc28 ++ [(V.int t58)]))) ow70
      have ow80 := ow72.other (o := (.lst (acc28 ++ [(V.int t58)]))) ne13
      have hB81 := hB71.other (o := (.lst (acc28 ++ [(V.int t58)]))) nb14
      have ow82 := ow70.put (us := (acc28 ++ [(V.int t58)]))
      exact ⟨F50, (acc28 ++ [(V.int t58)]), (ds29 ++ [t58]), rest74, (z_y_left31.eraseIdx j61), (wz_y_left32.eraseIdx j61), b48, g79, (Same.trans sm35 g52.ff), ow82, hA73, (by rw [List.length_append]; exact Nat.succ_le_succ hi38), ow80, (erase_le hlz_y_left40), hA68, hB81, h77, (snoc_rest hr44)⟩
    intro H83 hP
    obtain ⟨F84, acc85, ds86, _rest, z_y_left88, wz_y_left89, b87, g090, sm91, owD92, hA93, hi94, owz_y_left95, hlz_y_left96, hAz_y_left97, hB98, hm99, hr100⟩ := hP
    rw [drop_end (rangeL_len _ _).symm] at hm99
    rw [m_l_mixed_c1.eq_1] at hm99
    obtain ⟨rfl, rfl, rfl⟩ := pjoin3 hm99
    rw [List.append_nil] at hr100
    obtain rfl := hr100
    have hl101 : acc85.length ≤ sizeLine := Nat.le_trans hi94 hk9.2
    obtain ⟨rfl, rfl⟩ := pjoin hm
    exact (hQ _ _ _ _ g090 hB98 owD92.n0 owD92.h owD92.nF hl101 hA93)
end K42
namespace K42
open PySem PySem.Spec PyProof.Rows L2 TL G
theorem ok_l_mixed_2 {P : Program} {w : World} {K : PySem.W.Frag} {mg : Str → Option Value} {base : Heap} (T : Txt K mg) : FnOk P w K mg base CX0 3 T.a_l_mixed_2 T.d_l_mixed_2 ["_law_bag_here", "_law_row"] (sp_l_mixed_2 K) := by
  have G_l_draw : FnOk P w K mg base CX0 2 T.a_l_draw T.d_l_draw ["_law_bag_here", "_law_many"] (sp_l_draw K) := ok_l_draw T
  have b_l_draw := T.F_l_draw.bindsN (ps := ["_law_bag_here", "_law_many"]) fun _ _ _ _ _ _ us hl => match us, hl with | [_, _], _ => rfl
  refine fd_ok T.F_l_mixed_2 sc_l_mixed_2 (fun vs H Q E h => ?_) (fun cdv A outer s H0 vs Q E hr h => ?_)
  · obtain ⟨_, _, _, _, _, _, _, _, _, rfl, _⟩ := h
    rfl
  · obtain ⟨F0, B, C, b, p_y_row, ws_y_row, y_row, r, b', rfl, hS0, hB, hS_y_row, hl_y_row, hA_y_row, nm_y_row, hm, hQ⟩ := h
    refine ⟨_, (pss_cons (ps_set (i := 2) sc_l_mixed_2.nd rfl (.inr rfl) (pe_callTy (call_list_of_ (K := K)) (by rfl) T.n_list (by decide +kernel) (pa_cons (pv 1) pa_nil))) (pss_one (ps_ret (pe_lc (own := [("_law_k", 3)]) rfl sc_l_mixed_2.nd (pi_range1 (by rfl) T.n_range (pa_cons (pe_callB (call_lenLK (K := K)) (by rfl) T.n_len (by decide +kernel) (pa_cons (pv 1) pa_nil)) pa_nil)) (blkOk_by (own := [("_law_k", 3)]) (N := N_l_mixed_2) (sc := defScope s_l_mixed_2) (by decide +kernel)) (fun _ _ _ _ _ => (pg_name (i := 3) sc_l_mixed_2.nd rfl (Or.inl rfl) (.inr rfl))) (fun _ _ _ _ _ => pts_nil) (fun _ _ _ _ _ => (pe_bmK (K := K) PySem.F.plainAttrs_list PySem.F.slot_list_pop PySem.F.type_list_pop mt_popAt (pv 2) (pa_cons (pe_call G_l_draw (hr.mono (by decide)) (by rfl) T.g_l_draw T.F_l_draw.kp b_l_draw .nil pass0 (pa_cons (pv 0) (pa_cons (pe_callB (call_lenLK (K := K)) (by rfl) T.n_len (by decide +kernel) (pa_cons (pv 2) pa_nil)) pa_nil))) pa_nil))))))), ?_⟩
    have g0 : Gr (Bc B C) F0 H0 F0 H0 := Gr.refl hS0
    unfold m_l_mixed_2 at hm
    refine p_seq ?_
    refine p_asg ?_
    refine ⟨(V.ref p_y_row), rfl, p_y_row, ws_y_row, rfl, (.inl (nm_y_row _ _ g0)), fun p1 np2 => ?_⟩
    have hA3 := hA_y_row
    have nb4 := hB.nb np2
    have g5 := g0.own (o := (.lst ws_y_row)) np2
    have hB6 := hB.own (o := (.lst ws_y_row)) np2
    have ow7 : Ow H0 F0 (upd H0 p1 (.lst ws_y_row)) p1 ws_y_row := Ow.new g0 np2
    refine p_name ?_
    refine p_nx ?_
    refine p_ret ?_
    obtain ⟨l8, hb10, hm⟩ := bnd hm
    obtain ⟨hk9, rfl⟩ := rangeO1_ok hb10
    refine ⟨(V.ref p_y_row), rfl, p_y_row, ws_y_row, _, rfl, (.inl (nm_y_row _ _ g5)), (RL.len hA_y_row), _, rfl, hk9.1.1, hk9.1.2, fun D11 nD12 => ?_⟩
    have ne13 := ow7.ne nD12
    have nb14 := hB6.nb nD12
    have g15 := g5.own (o := (.lst [])) nD12
    have ow16 := ow7.own (o := (.lst [])) nD12
    have hB17 := hB6.own (o := (.lst [])) nD12
    have ow18 : Ow H0 F0 (upd (upd H0 p1 (.lst ws_y_row)) D11 (.lst [])) D11 [] := Ow.new g5 nD12
    obtain ⟨l19, y_left21, b20, hb22, hm⟩ := bnd3 hm
    refine lc_range (lo := (0 : Int)) (n := ((((y_row).length : Nat) : Int)).toNat) (fun i H' => ∃ (F' : Hp) (acc : List V) (ds : List (Int × Int)) (rest : List (Int × Int)) (z_y_left : (List (Int × Int))) (wz_y_left : List V) (b : Bag), Gr (Bc B C) F0 H0 F' H' ∧ Same F0 F' ∧ Ow H0 F' H' D11 acc ∧ RL K F' acc ds ∧ acc.length ≤ i ∧ Ow H0 F' H' p1 wz_y_left ∧ wz_y_left.length ≤ sizeLine ∧ RL K F' wz_y_left z_y_left ∧ BagAt F' H' B C b ∧ m_l_mixed_2_c1  ((rangeL (0 : Int) ((((y_row).length : Nat) : Int)).toNat).drop i) z_y_left b = some (rest, y_left21, b20) ∧ ds ++ rest = l19) ?_ ?_ ?_
    · exact ⟨F0, [], [], l19, y_row, ws_y_row, b, g15, Same.refl _, ow18, RpA.nil, Nat.le_refl _, ow16, hl_y_row, hA3, hB17, hb22, rfl⟩
    · intro i24 H26 hx25 hP
      obtain ⟨F27, acc28, ds29, rest30, z_y_left31, wz_y_left32, b33, g034, sm35, owD36, hA37, hi38, owz_y_left39, hlz_y_left40, hAz_y_left41, hB42, hm43, hr44⟩ := hP
      have he46 := rangeL_at (lo := (0 : Int)) hx25
      rw [drop_at he46, m_l_mixed_2_c1.eq_2] at hm43
      refine ⟨rfl, (p_yes ?_)⟩
      obtain ⟨r47, b48, hb49, hm43⟩ := bnd2 hm43
      refine ⟨(V.ref p1), rfl, (.inl ⟨rfl, _, owz_y_left39.sq⟩), (V.ref B), rfl, (V.ref p1), rfl, p1, wz_y_left32, _, rfl, (.inl owz_y_left39.sq), (RL.len hAz_y_left41), F27, B, C, b33, (((z_y_left31).length : Nat) : Int), r47, b48, rfl, g034.fh, hB42, hb49, fun F50 H51 g52 hB53 => ?_⟩
      have g55 := Gr.trans g034 g52
      have ow56 := owz_y_left39.gr g52 nb4
      have ow57 := owD36.gr g52 nb14
      obtain ⟨t58, y_left59, hb60, hm43⟩ := bnd2 hm43
      obtain ⟨j61, hj62, hx63, rfl⟩ := popI_ok hb60
      obtain ⟨v64, hv65, r66⟩ := RL.back (hAz_y_left41.up g52.ff) hx63
      have hi67 := popI_at (n := wz_y_left32.length) (by rw [RL.len (hAz_y_left41.up g52.ff)]; exact hj62) hlz_y_left40
      refine ⟨p1, wz_y_left32, _, j61, v64, rfl, rfl, ow56.h, hi67.1.1, hi67.1.2, hi67.2, hv65, ?_⟩
      have hA68 := RL.erase j61 (hAz_y_left41.up g52.ff)
      have g69 := g55.put (o := (.lst (wz_y_left32.eraseIdx j61))) ow56
      have ow70 := ow57.other (o := (.lst (wz_y_left32.eraseIdx j61))) (Ne.symm ne13)
      have hB71 := hB53.other (o := (.lst (wz_y_left32.eraseIdx j61))) nb4
      have ow72 := ow56.put (us := (wz_y_left32.eraseIdx j61))
      have hA73 : RL K F50 (acc28 ++ [v64]) (ds29 ++ [(t58 : (Int × Int))]) := RL.snoc (hA37.up g52.ff) r66
      obtain ⟨rest74, y_left75, b76, h77, h78⟩ := bnd3 hm43
      obtain ⟨rfl, rfl, rfl⟩ := pjoin3 h78
      refine ⟨acc28, ow70.h, (lt_line hi38 hx25 hk9.2), ?_⟩
      have g79 := g69.put (o := (.lst (acc28 ++ [v64]))) ow70
      have ow80 := ow72.other (o := (.lst (acc28 ++ [v64]))) ne13
      have hB81 := hB71.other (o := (.lst (acc28 ++ [v64]))) nb14
      have ow82 := ow70.put (us := (acc28 ++ [v64]))
      exact ⟨F50, (acc28 ++ [v64]), (ds29 ++ [t58]), rest74, (z_y_left31.eraseIdx j61), (wz_y_left32.eraseIdx j61), b48, g79, (Same.trans sm35 g52.ff), ow82, hA73, (by rw [List.length_append]; exact Nat.succ_le_succ hi38), ow80, (erase_le hlz_y_left40), hA68, hB81, h77, (snoc_rest hr44)⟩
    intro H83 hP
    obtain ⟨F84, acc85, ds86, _rest, z_y_left88, wz_y_left89, b87, g090, sm91, owD92, hA93, hi94, owz_y_left95, hlz_y_left96, hAz_y_left97, hB98, hm99, hr100⟩ := hP
    rw [drop_end (rangeL_len _ _).symm] at hm99
    rw [m_l_mixed_2_c1.eq_1] at hm99
    obtain ⟨rfl, rfl, rfl⟩ := pjoin3 hm99
    rw [List.append_nil] at hr100
    obtain rfl := hr100
    have hl101 : acc85.length ≤ sizeLine := Nat.le_trans hi94 hk9.2
    obtain ⟨rfl, rfl⟩ := pjoin hm
    exact (hQ _ _ _ _ g090 hB98 owD92.n0 owD92.h owD92.nF hl101 hA93)
end K42
namespace K42
open PySem PySem.Spec PyProof.Rows L2 TL G
theorem ok_al1 {P : Program} {w : World} {K : PySem.W.Frag} {mg : Str → Option Value} {base : Heap} (T : Txt K mg) (n : Nat) (ih : FnOk P w K mg base CX0 n T.a_l_alike T.d_l_alike ["_law_found", "_law_due_here"] (spA n K)) : FnOk P w K mg base CX0 (n + 1) T.a_l_alike T.d_l_alike ["_law_found", "_law_due_here"] (sp_alike n K) := by
  have b_l_alike := T.F_l_alike.bindsN (ps := ["_law_found", "_law_due_here"]) fun _ _ _ _ _ _ us hl => match us, hl with | [_, _], _ => rfl
  refine fd_ok T.F_l_alike sc_l_alike (fun vs H Q E h => ?_) (fun cdv A outer s H0 vs Q E hr h => ?_)
  · obtain ⟨_, _, _, rfl, _⟩ := h
    rfl
  · obtain ⟨v1, v2, d, rfl, r1, r2, hd, hQ⟩ := h
    refine ⟨_, (pss_cons (ps_if (pt_val (pe_callB call_isiT (by rfl) T.n_isinstance (by decide +kernel) (pa_cons (pv 1) (pa_cons (pe_tup (pa_cons (pe_bltn (v := .ty "list") (by rfl) T.n_list (by decide +kernel) rfl) (pa_cons (pe_bltn (v := .ty "tuple") (by rfl) T.n_tuple (by decide +kernel) rfl) pa_nil))) pa_nil))))
        (pss_cons (ps_if (PW.pt (pw_or (pt_not (pt_val (pe_callB call_isiT (by rfl) T.n_isinstance (by decide +kernel) (pa_cons (pv 0) (pa_cons (pe_tup (pa_cons (pe_bltn (v := .ty "list") (by rfl) T.n_list (by decide +kernel) rfl) (pa_cons (pe_bltn (v := .ty "tuple") (by rfl) T.n_tuple (by decide +kernel) rfl) pa_nil))) pa_nil)))))
            (pw_or1 (pt_cmpR op_ne (pe_callB call_isi (by rfl) T.n_isinstance (by decide +kernel) (pa_cons (pv 0) (pa_cons (pe_bltn (v := .ty "list") (by rfl) T.n_list (by decide +kernel) rfl) pa_nil))) (pe_callB call_isi (by rfl) T.n_isinstance (by decide +kernel) (pa_cons (pv 1) (pa_cons (pe_bltn (v := .ty "list") (by rfl) T.n_list (by decide +kernel) rfl) pa_nil))) (nomark _))))) (pss_one (ps_ret pe_bl)) pss_nil)
          (pss_cons (ps_if (pt_cmpR op_ne (pe_callB call_lenL (by rfl) T.n_len (by decide +kernel) (pa_cons (pv 0) pa_nil)) (pe_callB call_lenL (by rfl) T.n_len (by decide +kernel) (pa_cons (pv 1) pa_nil)) (nomark _)) (pss_one (ps_ret pe_bl)) pss_nil)
          (pss_one (ps_ret (pe_callB (cr_all rfl) (by rfl) T.n_all (by decide +kernel) (pa_cons (pe_lc (own := [("_law_k", 2)]) rfl sc_l_alike.nd (pi_range1 (by rfl) T.n_range (pa_cons (pe_callB call_lenL (by rfl) T.n_len (by decide +kernel) (pa_cons (pv 1) pa_nil)) pa_nil))
              (blkOk_by (own := [("_law_k", 2)]) (N := N_l_alike) (sc := defScope s_l_alike) (by decide +kernel)) (fun _ _ _ _ _ => pg_name (i := 2) sc_l_alike.nd rfl (Or.inl rfl)) (fun _ _ _ _ _ => pts_nil)
              (fun _ _ _ _ _ => pe_call ih hr (by rfl) T.g_l_alike T.F_l_alike.kp b_l_alike .nil pass0 (pa_cons (pe_ix (r := rIx K) ix_seq (pv 0) (pv 2) (fun _ _ => rfl)) (pa_cons (pe_ix (r := rIx K) ix_seq (pv 1) (pv 2) (fun _ _ => rfl)) pa_nil)))) pa_nil)))))) pss_nil)
      (pss_cons (ps_if (PW.pt (pw_or (pt_cmpR op_ne (pe_callB call_isi (by rfl) T.n_isinstance (by decide +kernel) (pa_cons (pv 0) (pa_cons (pe_bltn (v := .ty "bool") (by rfl) T.n_bool (by decide +kernel) rfl) pa_nil))) (pe_callB call_isi (by rfl) T.n_isinstance (by decide +kernel) (pa_cons (pv 1) (pa_cons (pe_bltn (v := .ty "bool") (by rfl) T.n_bool (by decide +kernel) rfl) pa_nil))) (nomark _)) (pw_or1 (pt_cmpR op_ne (pe_callB call_isi (by rfl) T.n_isinstance (by decide +kernel) (pa_cons (pv 0) (pa_cons (pe_bltn (v := .ty "int") (by rfl) T.n_int (by decide +kernel) rfl) pa_nil))) (pe_callB call_isi (by rfl) T.n_isinstance (by decide +kernel) (pa_cons (pv 1) (pa_cons (pe_bltn (v := .ty "int") (by rfl) T.n_int (by decide +kernel) rfl) pa_nil))) (nomark _))))) (pss_one (ps_ret pe_bl)) pss_nil)
        (pss_one (ps_ret (pe_and (pe_cmpR op_eq (pe_callB call_isi (by rfl) T.n_isinstance (by decide +kernel) (pa_cons (pv 0) (pa_cons (pe_bltn (v := .ty "str") (by rfl) T.n_str (by decide +kernel) rfl) pa_nil))) (pe_callB call_isi (by rfl) T.n_isinstance (by decide +kernel) (pa_cons (pv 1) (pa_cons (pe_bltn (v := .ty "str") (by rfl) T.n_str (by decide +kernel) rfl) pa_nil))) (nomark _)) (pe_one (pe_cmpR op_eq (pv 0) (pv 1) (nomark _)))))))), ?_⟩
    have g0 : Gr M0 H0 H0 H0 H0 := Gr.refl (Same.refl _)
    refine p_seq ?_
    refine p_if ?_
    refine ⟨v2, rfl, (by show 2 ≤ sizeLine; decide), fun p1 np1 => ?_⟩
    refine ⟨v2, p1, [.ty "list", .ty "tuple"], _, [.type "list", .type "tuple"], _, rfl, upd_same, .cons (.ty _) (.cons (.ty _) .nil), (r2.up (same_new np1)).ty, kit_lt r2.knd, _, rfl, ?_⟩
    have g1 := g0.frz (o := .tup [.ty "list", .ty "tuple"]) np1
    have q1 := r1.up (same_new (o := .tup [.ty "list", .ty "tuple"]) np1)
    have q2 := r2.up (same_new (o := .tup [.ty "list", .ty "tuple"]) np1)
    generalize upd H0 p1 (.tup [.ty "list", .ty "tuple"]) = H1 at g1 q1 q2 ⊢
    refine iteB (fun hc => ?_) (fun hc => ?_)
    · refine p_seq ?_
      refine p_if ?_
      refine ⟨v1, rfl, (by show 2 ≤ sizeLine; decide), fun p2 np2 => ?_⟩
      refine ⟨v1, p2, [.ty "list", .ty "tuple"], _, [.type "list", .type "tuple"], _, rfl, upd_same, .cons (.ty _) (.cons (.ty _) .nil), (q1.up (same_new np2)).ty, kit_lt q1.knd, _, rfl, ?_⟩
      have g2 := g1.frz (o := .tup [.ty "list", .ty "tuple"]) np2
      have t1 := q1.up (same_new (o := .tup [.ty "list", .ty "tuple"]) np2)
      have t2 := q2.up (same_new (o := .tup [.ty "list", .ty "tuple"]) np2)
      generalize upd H1 p2 (.tup [.ty "list", .ty "tuple"]) = H2 at g2 t1 t2 ⊢
      refine ifFr (by rw [hc]; rfl) ?_
      refine ⟨v1, rfl, v1, .ty "list", _, .type "list", _, rfl, .ty _, t1.ty, kit_one t1.knd "list" (.inl rfl), v2, rfl, v2, .ty "list", _, .type "list", _, rfl, .ty _, t2.ty, kit_one t2.knd "list" (.inl rfl), rfl, _, rfl, ?_⟩
      refine ifFr (by simp) ?_
      refine p_next ?_
      refine p_nx ?_
      obtain ⟨a1, ws1, a2, ws2, ds, m, rfl, rfl, s1, s2, l1, l2, e1, e2, hn, hdp⟩ := al_sq t1 t2 hc hd
      subst hn
      refine p_seq ?_
      refine p_if ?_
      refine ⟨_, rfl, a1, ws1, _, rfl, s1, rfl, _, rfl, a2, ws2, _, rfl, s2, rfl, rfl, _, rfl, ?_⟩
      refine ifFr (by rw [e1.length, e2.length]; simp) ?_
      refine p_next ?_
      refine p_nx ?_
      refine p_ret ?_
      have hl2 : (ws2.length : Int) < 2 ^ 62 := by
        have := l2
        rw [sizeLine_eq] at this
        omega
      refine ⟨_, rfl, a2, ws2, _, rfl, s2, rfl, _, rfl, (by omega), hl2, fun D nD => ?_⟩
      refine lc_range (lo := 0) (n := ((ws2.length : Nat) : Int).toNat) (fun i H' => Gr M0 H0 H0 H2 H' ∧ Ow H0 H2 H' D (List.replicate i (.bl true))) ⟨g2.own nD, Ow.new g2 nD⟩ (fun i H' hi hP => ?_) (fun H' hP => ?_)
      · obtain ⟨g, ow⟩ := hP
        refine ⟨rfl, p_yes ?_⟩
        have hi2 : i < ws2.length := by simpa using hi
        obtain ⟨u2, hu2⟩ : ∃ u, ws2[i]? = some u := ⟨_, List.getElem?_eq_getElem hi2⟩
        obtain ⟨di, hdi, ru2⟩ := e2.get hu2
        obtain ⟨u1, hu1, ru1⟩ := e1.back hdi
        refine ⟨_, rfl, _, rfl, ix_go (sq_up s1 g.fh) hu1 ⟨_, rfl, _, rfl, ix_go (sq_up s2 g.fh) hu2 ?_⟩⟩
        refine ⟨u1, u2, di, rfl, ru1.up g.fh, ru2.up g.fh, hdp di (List.mem_of_getElem? hdi), fun F1 H3 g3 => ?_⟩
        have g4 := Gr.apart g g3
        have ow4 := ow.apart g3
        refine ⟨_, ow4.h, ?_, ?_⟩
        · rw [List.length_replicate]; omega
        · have e : List.replicate i (V.bl true) ++ [V.bl true] = List.replicate (i + 1) (V.bl true) := List.replicate_succ'.symm
          rw [e]
          exact ⟨g4.put ow4, ow4.put⟩
      · obtain ⟨g, ow⟩ := hP
        refine ⟨D, List.replicate (((ws2.length : Nat) : Int).toNat) true, rfl, ?_, ?_⟩
        · rw [List.map_replicate]; exact ow.sq
        · rw [show (List.replicate (((ws2.length : Nat) : Int).toNat) true).all id = true by simp]
          exact hQ _ _ g
    · refine p_next ?_
      refine p_nx ?_
      have hv : v1 = v2 ∧ scal v1 v2 = true := al_sc q1 q2 hc
      refine p_seq ?_
      refine p_if ?_
      refine ⟨v1, rfl, v1, .ty _, _, .type _, _, rfl, .ty _, q1.ty, kit_one q1.knd _ (.inr (.inl rfl)), v2, rfl, v2, .ty _, _, .type _, _, rfl, .ty _, q2.ty, kit_one q2.knd _ (.inr (.inl rfl)), rfl, _, rfl, ?_⟩
      refine ifFr (by simp) ?_
      refine ⟨v1, rfl, v1, .ty _, _, .type _, _, rfl, .ty _, q1.ty, kit_int q1.knd, v2, rfl, v2, .ty _, _, .type _, _, rfl, .ty _, q2.ty, kit_int q2.knd, rfl, _, rfl, ?_⟩
      refine ifFr (by simp) ?_
      refine p_next ?_
      refine p_nx ?_
      refine p_ret ?_
      refine ⟨v1, rfl, v1, .ty _, _, .type _, _, rfl, .ty _, q1.ty, kit_one q1.knd _ (.inr (.inr rfl)), v2, rfl, v2, .ty _, _, .type _, _, rfl, .ty _, q2.ty, kit_one q2.knd _ (.inr (.inr rfl)), rfl, ?_⟩
      refine ⟨_, rfl, ifTr (decide_eq_true rfl) ?_⟩
      refine ⟨v1, rfl, v2, rfl, hv.2, ?_⟩
      rw [decide_eq_true hv.1]
      exact hQ _ _ g1
theorem ok_l_alike {P : Program} {w : World} {K : PySem.W.Frag} {mg : Str → Option Value} {base : Heap} (T : Txt K mg) : ∀ n : Nat, FnOk P w K mg base CX0 n T.a_l_alike T.d_l_alike ["_law_found", "_law_due_here"] (spA n K)
  | 0 => ⟨fun _ _ _ _ h => h.elim, fun _ _ _ _ _ _ _ _ _ _ _ _ _ h => h.elim⟩
  | n + 1 => ok_al1 T n (ok_l_alike T n)

end K42
namespace K42
open PySem PySem.Spec PyProof.Rows L2 TL G
theorem ok_l_ties {P : Program} {w : World} {K : PySem.W.Frag} {mg : Str → Option Value} {base : Heap} (T : Txt K mg) : FnOk P w K mg base CX0 4 T.a_l_ties T.d_l_ties ["_law_bag_here", "_law_many"] (sp_l_ties K) := by
  have G_l_mixed : FnOk P w K mg base CX0 3 T.a_l_mixed T.d_l_mixed ["_law_bag_here", "_law_row"] (sp_l_mixed K) := ok_l_mixed T
  have b_l_mixed := T.F_l_mixed.bindsN (ps := ["_law_bag_here", "_law_row"]) fun _ _ _ _ _ _ us hl => match us, hl with | [_, _], _ => rfl
  have G_l_draw : FnOk P w K mg base CX0 2 T.a_l_draw T.d_l_draw ["_law_bag_here", "_law_many"] (sp_l_draw K) := ok_l_draw T
  have b_l_draw := T.F_l_draw.bindsN (ps := ["_law_bag_here", "_law_many"]) fun _ _ _ _ _ _ us hl => match us, hl with | [_, _], _ => rfl
  have G_l_mixed_2 : FnOk P w K mg base CX0 3 T.a_l_mixed_2 T.d_l_mixed_2 ["_law_bag_here", "_law_row"] (sp_l_mixed_2 K) := ok_l_mixed_2 T
  have b_l_mixed_2 := T.F_l_mixed_2.bindsN (ps := ["_law_bag_here", "_law_row"]) fun _ _ _ _ _ _ us hl => match us, hl with | [_, _], _ => rfl
  refine fd_ok T.F_l_ties sc_l_ties (fun vs H Q E h => ?_) (fun cdv A outer s H0 vs Q E hr h => ?_)
  · obtain ⟨_, _, _, _, _, _, _, rfl, _⟩ := h
    rfl
  · obtain ⟨F0, B, C, b, y_many, r, b', rfl, hS0, hB, hm, hQ⟩ := h
    refine ⟨_, (pss_cons (ps_set (i := 2) sc_l_ties.nd rfl (.inl rfl) (pe_call G_l_mixed (hr.mono (by decide)) (by rfl) T.g_l_mixed T.F_l_mixed.kp b_l_mixed .nil pass0 (pa_cons (pv 0) (pa_cons (pe_callTy (cr_listRng rfl) (by rfl) T.n_list (by decide +kernel) (pa_cons (pe_callTy cr_range1 (by rfl) T.n_range (by decide +kernel) (pa_cons (pv 1) pa_nil)) pa_nil)) pa_nil)))) (pss_cons (ps_set (i := 3) sc_l_ties.nd rfl (.inl rfl) (pe_call G_l_draw (hr.mono (by decide)) (by rfl) T.g_l_draw T.F_l_draw.kp b_l_draw .nil pass0 (pa_cons (pv 0) (pa_cons pe_int pa_nil)))) (pss_cons (ps_set (i := 4) sc_l_ties.nd rfl (.inl rfl) (pe_lst pa_nil)) (pss_cons (ps_for PassesOwn.never rfl (pi_range2 (by rfl) T.n_range (pa_cons pe_int (pa_cons (pv 1) pa_nil))) (pg_name (i := 5) sc_l_ties.nd rfl (Or.inl rfl)) (pss_cons (ps_set (i := 6) sc_l_ties.nd rfl (.inl rfl) (pe_ix (ix_listK (K := K)) (pv 2) (pe_ix (ix_listK (K := K)) (pe_lst (pa_cons (pe_call G_l_draw (hr.mono (by decide)) (by rfl) T.g_l_draw T.F_l_draw.kp b_l_draw .nil pass0 (pa_cons (pv 0) (pa_cons (pv 5) pa_nil))) (pa_cons (pe_op op_sub (pv 5) pe_int) (pa_cons pe_int (pa_cons (pe_call G_l_draw (hr.mono (by decide)) (by rfl) T.g_l_draw T.F_l_draw.kp b_l_draw .nil pass0 (pa_cons (pv 0) (pa_cons (pv 5) pa_nil))) pa_nil))))) (pv 3) (fun _ _ => rfl)) (fun _ _ => rfl))) (pss_one (ps_if (PW.pt (pw_or (pt_cmpR op_lt (pv 3) pe_int (nomark _)) (pw_or1 (pt_cmpR op_gt (pe_call G_l_draw (hr.mono (by decide)) (by rfl) T.g_l_draw T.F_l_draw.kp b_l_draw .nil pass0 (pa_cons (pv 0) (pa_cons pe_int pa_nil))) pe_int (nomark _))))) (pss_one (ps_expr (pe_bmK (K := K) PySem.F.plainAttrs_list PySem.F.slot_list_append PySem.F.type_list_append mt_append (pv 4) (pa_cons (pe_tup (pa_cons (pe_callB (call_min2 rfl) (by rfl) T.n_min (by decide +kernel) (pa_cons (pe_ix (ix_listK (K := K)) (pv 2) (pv 5) (fun _ _ => rfl)) (pa_cons (pv 6) pa_nil))) (pa_cons (pe_callB (call_max2 rfl) (by rfl) T.n_max (by decide +kernel) (pa_cons (pe_ix (ix_listK (K := K)) (pv 2) (pv 5) (fun _ _ => rfl)) (pa_cons (pv 6) pa_nil))) pa_nil))) pa_nil)))) pss_nil)))) (pss_cons (ps_for PassesOwn.never rfl (pi_range1 (by rfl) T.n_range (pa_cons (pe_call G_l_draw (hr.mono (by decide)) (by rfl) T.g_l_draw T.F_l_draw.kp b_l_draw .nil pass0 (pa_cons (pv 0) (pa_cons (pe_ix (ix_listK (K := K)) (pe_lst (pa_cons pe_int (pa_cons pe_int (pa_cons pe_int pa_nil)))) (pe_call G_l_draw (hr.mono (by decide)) (by rfl) T.g_l_draw T.F_l_draw.kp b_l_draw .nil pass0 (pa_cons (pv 0) (pa_cons pe_int pa_nil))) (fun _ _ => rfl)) pa_nil))) pa_nil)) (pg_name (i := 5) sc_l_ties.nd rfl (Or.inl rfl)) (pss_cons (ps_set (i := 7) sc_l_ties.nd rfl (.inl rfl) (pe_callB (cr_sortedI_ (K := K)) (by rfl) T.n_sorted (by decide +kernel) (pa_cons (pe_lst (pa_cons (pe_call G_l_draw (hr.mono (by decide)) (by rfl) T.g_l_draw T.F_l_draw.kp b_l_draw .nil pass0 (pa_cons (pv 0) (pa_cons (pv 1) pa_nil))) (pa_cons (pe_call G_l_draw (hr.mono (by decide)) (by rfl) T.g_l_draw T.F_l_draw.kp b_l_draw .nil pass0 (pa_cons (pv 0) (pa_cons (pv 1) pa_nil))) pa_nil))) pa_nil))) (pss_one (ps_if (PW.pt (pw_and (pt_cmpR op_ne (pe_ix (ix_listK (K := K)) (pv 7) pe_int (fun _ _ => rfl)) (pe_ix (ix_listK (K := K)) (pv 7) pe_int (fun _ _ => rfl)) (nomark _)) (pw_and (pt_cmpR (op_notInDK (K := K) (units65 hr)) (pe_tup (pa_cons (pe_ix (ix_listK (K := K)) (pv 7) pe_int (fun _ _ => rfl)) (pa_cons (pe_ix (ix_listK (K := K)) (pv 7) pe_int (fun _ _ => rfl)) pa_nil))) (pv 4) rfl) (pw_and1 (pt_cmpR op_lt (pe_callB (call_lenLK (K := K)) (by rfl) T.n_len (by decide +kernel) (pa_cons (pv 4) pa_nil)) pe_int (nomark _)))))) (pss_one (ps_expr (pe_bmK (K := K) PySem.F.plainAttrs_list PySem.F.slot_list_append PySem.F.type_list_append mt_append (pv 4) (pa_cons (pe_tup (pa_cons (pe_ix (ix_listK (K := K)) (pv 7) pe_int (fun _ _ => rfl)) (pa_cons (pe_ix (ix_listK (K := K)) (pv 7) pe_int (fun _ _ => rfl)) pa_nil))) pa_nil)))) pss_nil)))) (pss_one (ps_ret (pe_call G_l_mixed_2 (hr.mono (by decide)) (by rfl) T.g_l_mixed_2 T.F_l_mixed_2.kp b_l_mixed_2 .nil pass0 (pa_cons (pv 0) (pa_cons (pv 4) pa_nil)))))))))), ?_⟩
    have g0 : Gr (Bc B C) F0 H0 F0 H0 := Gr.refl hS0
    unfold m_l_ties at hm
    refine p_seq ?_
    refine p_asg ?_
    obtain ⟨l1, hb3, hm⟩ := bnd hm
    obtain ⟨hk2, rfl⟩ := rangeO1_ok hb3
    refine ⟨(V.ref B), rfl, (V.int y_many), rfl, _, rfl, fun p4 np5 => ?_⟩
    have nb6 := hB.nb np5
    have g7 := g0.own (o := (.rng 0 y_many)) np5
    have hB8 := hB.own (o := (.rng 0 y_many)) np5
    refine ⟨p4, 0, y_many, rfl, upd_same, ⟨by decide, by decide, hk2.1.1, hk2.1.2⟩, (by rw [Int.sub_zero]; exact hk2.2), fun q9 nq10 => ?_⟩
    rw [Int.sub_zero]
    have hl11 : ((rangeL 0 (y_many).toNat).map V.int).length ≤ sizeLine := by rw [List.length_map, rangeL_len]; exact hk2.2
    have hA12 : RL K F0 ((rangeL 0 (y_many).toNat).map V.int) (rangeL 0 (y_many).toNat) := RL.ofInts _
    have nb13 := hB8.nb nq10
    have g14 := g7.own (o := (.lst ((rangeL 0 (y_many).toNat).map V.int))) nq10
    have hB15 := hB8.own (o := (.lst ((rangeL 0 (y_many).toNat).map V.int))) nq10
    have ow16 : Ow H0 F0 (upd (upd H0 p4 (.rng 0 y_many)) q9 (.lst ((rangeL 0 (y_many).toNat).map V.int))) q9 ((rangeL 0 (y_many).toNat).map V.int) := Ow.new g7 nq10
    obtain ⟨r17, b18, hb19, hm⟩ := bnd2 hm
    refine ⟨F0, B, C, b, q9, ((rangeL 0 (y_many).toNat).map V.int), (rangeL 0 (y_many).toNat), r17, b18, rfl, g14.fh, hB15, ow16.sq, hl11, hA12, (fun _ _ g_ => g_.seq nb13 ow16.sq), hb19, fun p24 ws25 F20 H21 g22 hB23 np26 h27 nF28 hl29 hA30 => ?_⟩
    have ne31 := ow16.ne np26
    have nb32 := hB15.nb np26
    have n033 := g14.none0 np26
    have g34 := Gr.trans g14 g22
    have ow35 := ow16.gr g22 nb13
    have ow36 : Ow H0 F20 H21 p24 ws25 := ⟨h27, nF28, n033⟩
    refine p_name ?_
    refine p_nx ?_
    refine p_seq ?_
    refine p_asg ?_
    obtain ⟨r37, b38, hb39, hm⟩ := bnd2 hm
    refine ⟨(V.ref B), rfl, F20, B, C, b18, (4 : Int), r37, b38, rfl, g34.fh, hB23, hb39, fun F40 H41 g42 hB43 => ?_⟩
    have g45 := Gr.trans g34 g42
    have ow46 := ow35.gr g42 nb13
    have ow47 := ow36.gr g42 nb32
    refine p_name ?_
    refine p_nx ?_
    refine p_seq ?_
    refine p_asg ?_
    refine ⟨(by show 0 ≤ sizeLine; decide), fun p48 np49 => ?_⟩
    have ne50 := ow46.ne np49
    have ne51 := ow47.ne np49
    have nb52 := hB43.nb np49
    have g53 := g45.own (o := (.lst [])) np49
    have ow54 := ow46.own (o := (.lst [])) np49
    have ow55 := ow47.own (o := (.lst [])) np49
    have hB56 := hB43.own (o := (.lst [])) np49
    have ow57 : Ow H0 F40 (upd H41 p48 (.lst [])) p48 [] := Ow.new g45 np49
    have hA58 : RL K F40 [] ([] : List (Int × Int)) := RpA.nil
    obtain ⟨y_found59, hb60, hm⟩ := bnd hm
    have hx61 : ([] : List (Int × Int)) = y_found59 := sjoin hb60
    have hA62 : RL K F40 [] y_found59 := RL.re hx61 hA58
    refine p_name ?_
    refine p_nx ?_
    refine p_seq ?_
    refine p_for ?_
    obtain ⟨l63, hb65, hm⟩ := bnd hm
    obtain ⟨hk64, rfl⟩ := rangeO_ok hb65
    refine ⟨(V.int y_many), rfl, _, _, rfl, hk64.1, ?_⟩
    obtain ⟨y_found66, b67, ht68, hm⟩ := bnd2 hm
    refine for_range (lo := (1 : Int)) (n := (y_many - (1 : Int)).toNat) (fun i σ' H' => ∃ (F' : Hp) (o_y_k : Option V) (o_y_other : Option V) (y_found : (List (Int × Int))) (ws_y_found : List V) (b : Bag), σ' = [(some (V.ref B)), (some (V.int y_many)), (some (V.ref p24)), (some (V.int r37)), (some (V.ref p48)), o_y_k, o_y_other, none] ∧ Gr (Bc B C) F0 H0 F' H' ∧ Same F40 F' ∧ Ow H0 F' H' p48 ws_y_found ∧ ws_y_found.length ≤ sizeLine ∧ RL K F' ws_y_found y_found ∧ Ow H0 F' H' p24 ws25 ∧ BagAt F' H' B C b ∧ m_l_ties_l1 r17 r37 ((rangeL (1 : Int) (y_many - (1 : Int)).toNat).drop i) y_found b = some (y_found66, b67)) ?_ ?_ ?_
    · exact ⟨F40, none, none, y_found59, [], b38, rfl, g53, (Same.refl _), ow57, (by show 0 ≤ sizeLine; decide), hA62, ow55, hB56, ht68⟩
    · intro i69 σ' H71 hx70 hP
      obtain ⟨F73, o_y_k74, o_y_other75, y_found76, ws_y_found77, b78, rfl, g79, sm80, ow_y_found81, hl_y_found82, hA_y_found83, owk084, hB85, hm86⟩ := hP
      have he88 := rangeL_at (lo := (1 : Int)) hx70
      rw [drop_at he88, m_l_ties_l1.eq_2] at hm86
      refine p_name ?_
      refine p_seq ?_
      refine p_asg ?_
      obtain ⟨r89, b90, hb91, hm86⟩ := bnd2 hm86
      refine ⟨(V.ref p24), rfl, (V.ref B), rfl, (V.int ((1 : Int) + ((i69 : Nat) : Int))), rfl, F73, B, C, b78, ((1 : Int) + ((i69 : Nat) : Int)), r89, b90, rfl, g79.fh, hB85, hb91, fun F92 H93 g94 hB95 => ?_⟩
      have g97 := Gr.trans g79 g94
      have ow98 := owk084.gr g94 nb32
      have ow99 := ow_y_found81.gr g94 nb52
      obtain ⟨r100, b101, hb102, hm86⟩ := bnd2 hm86
      refine ⟨(V.int ((1 : Int) + ((i69 : Nat) : Int))), rfl, _, _, rfl, rfl, (V.ref B), rfl, (V.int ((1 : Int) + ((i69 : Nat) : Int))), rfl, F92, B, C, b90, ((1 : Int) + ((i69 : Nat) : Int)), r100, b101, rfl, g97.fh, hB95, hb102, fun F103 H104 g105 hB106 => ?_⟩
      have g108 := Gr.trans g97 g105
      have ow109 := ow98.gr g105 nb32
      have ow110 := ow99.gr g105 nb52
      refine ⟨(by show 4 ≤ sizeLine; decide), fun p111 np112 => ?_⟩
      have ne113 := ow109.ne np112
      have ne114 := ow110.ne np112
      have nb115 := hB106.nb np112
      have g116 := g108.own (o := (.lst [(V.int r89), (V.int (((1 : Int) + ((i69 : Nat) : Int)) - (1 : Int))), (V.int (0 : Int)), (V.int r100)])) np112
      have ow117 := ow109.own (o := (.lst [(V.int r89), (V.int (((1 : Int) + ((i69 : Nat) : Int)) - (1 : Int))), (V.int (0 : Int)), (V.int r100)])) np112
      have ow118 := ow110.own (o := (.lst [(V.int r89), (V.int (((1 : Int) + ((i69 : Nat) : Int)) - (1 : Int))), (V.int (0 : Int)), (V.int r100)])) np112
      have hB119 := hB106.own (o := (.lst [(V.int r89), (V.int (((1 : Int) + ((i69 : Nat) : Int)) - (1 : Int))), (V.int (0 : Int)), (V.int r100)])) np112
      have ow120 : Ow H0 F103 (upd H104 p111 (.lst [(V.int r89), (V.int (((1 : Int) + ((i69 : Nat) : Int)) - (1 : Int))), (V.int (0 : Int)), (V.int r100)])) p111 [(V.int r89), (V.int (((1 : Int) + ((i69 : Nat) : Int)) - (1 : Int))), (V.int (0 : Int)), (V.int r100)] := Ow.new g108 np112
      have hA121 : RL K F103 [(V.int r89), (V.int (((1 : Int) + ((i69 : Nat) : Int)) - (1 : Int))), (V.int (0 : Int)), (V.int r100)] ([r89, (((1 : Int) + ((i69 : Nat) : Int)) - (1 : Int)), (0 : Int), r100] : List Int) := (RpA.cons (Rp.int r89) (RpA.cons (Rp.int (((1 : Int) + ((i69 : Nat) : Int)) - (1 : Int))) (RpA.cons (Rp.int (0 : Int)) (RpA.cons (Rp.int r100) RpA.nil))))
      obtain ⟨t122, hb123, hm86⟩ := bnd hm86
      obtain ⟨v124, ha125, r126⟩ := RL.at hA121 hb123
      obtain rfl := R.int_v r126
      obtain ⟨t127, hb128, hm86⟩ := bnd hm86
      obtain ⟨v129, ha130, r131⟩ := RL.at (hA30.up (Same.trans g42.ff (Same.trans sm80 (Same.trans g94.ff g105.ff)))) hb128
      obtain rfl := R.int_v r131
      refine ⟨(V.int r37), rfl, p111, [(V.int r89), (V.int (((1 : Int) + ((i69 : Nat) : Int)) - (1 : Int))), (V.int (0 : Int)), (V.int r100)], _, (V.int t122), rfl, rfl, ow120.sq, ha125, p24, ws25, _, (V.int t127), rfl, rfl, ow117.sq, ha130, ?_⟩
      refine p_name ?_
      refine p_nx ?_
      refine p_if ?_
      refine ⟨(V.int r37), rfl, _, _, rfl, rfl, _, rfl, ?_⟩
      obtain ⟨c132, b134, hc133, hm86⟩ := bnd2 hm86
      refine orJT (M := (Bc B C)) (F := F103) (c := c132) (P := fun F' H' => BagAt F' H' B C b134) (fun ha => ?_) (fun ha => ?_) g116.fh ?_
      · intro Q135 q136
        have hc133 := ifF ha hc133
        obtain ⟨r137, b138, hb139, hc133⟩ := bnd2 hc133
        refine ⟨(V.ref B), rfl, F103, B, C, b101, (5 : Int), r137, b138, rfl, g116.fh, hB119, hb139, fun F140 H141 g142 hB143 => ?_⟩
        have g145 := Gr.trans g116 g142
        have g146 := Gr.trans (Gr.refl (M := (Bc B C)) g116.fh) g142
        have ow147 := ow117.gr g142 nb32
        have ow148 := ow118.gr g142 nb52
        have ow149 := ow120.gr g142 nb115
        obtain ⟨rfl, rfl⟩ := pjoin hc133
        refine ⟨_, _, rfl, rfl, _, rfl, (q136 _ _ g146 hB143)⟩
      · have hc133 := ifT ha hc133
        obtain ⟨rfl, rfl⟩ := pjoin hc133
        exact ⟨rfl, hB119⟩
      intro F150 H151 g152 hB153
      have g154 := Gr.trans g116 g152
      have ow155 := ow117.gr g152 nb32
      have ow156 := ow118.gr g152 nb52
      have ow157 := ow120.gr g152 nb115
      refine (iteB (fun hc => ?_) (fun hc => ?_))
      · have hm86 := ifT hc hm86
        refine p_drop ?_
        obtain ⟨t158, hb159, hm86⟩ := bnd hm86
        obtain ⟨v160, ha161, r162⟩ := RL.at (hA30.up (Same.trans g42.ff (Same.trans sm80 (Same.trans g94.ff (Same.trans g105.ff g152.ff))))) hb159
        obtain rfl := R.int_v r162
        obtain ⟨t163, hb164, hm86⟩ := bnd hm86
        obtain ⟨v165, ha166, r167⟩ := RL.at (hA30.up (Same.trans g42.ff (Same.trans sm80 (Same.trans g94.ff (Same.trans g105.ff g152.ff))))) hb164
        obtain rfl := R.int_v r167
        refine ⟨(V.ref p48), rfl, (.inl ⟨rfl, _, ow156.sq⟩), (V.ref p24), rfl, (V.int ((1 : Int) + ((i69 : Nat) : Int))), rfl, p24, ws25, _, (V.int t158), rfl, rfl, ow155.sq, ha161, (V.int t127), rfl, _, _, rfl, (V.ref p24), rfl, (V.int ((1 : Int) + ((i69 : Nat) : Int))), rfl, p24, ws25, _, (V.int t163), rfl, rfl, ow155.sq, ha166, (V.int t127), rfl, _, _, rfl, (by show 2 ≤ sizeLine; decide), fun p168 np169 => ?_⟩
        have ne170 := ow155.ne np169
        have ne171 := ow156.ne np169
        have ne172 := ow157.ne np169
        have nb173 := hB153.nb np169
        have sm174 := same_new (o := (.tup [(V.int (if t127 < t158 then t127 else t158)), (V.int (if t127 > t163 then t127 else t163))])) (g154.noneF np169)
        have g175 := g154.frz (o := (.tup [(V.int (if t127 < t158 then t127 else t158)), (V.int (if t127 > t163 then t127 else t163))])) np169
        have ow176 := ow155.frz (o := (.tup [(V.int (if t127 < t158 then t127 else t158)), (V.int (if t127 > t163 then t127 else t163))])) np169
        have ow177 := ow156.frz (o := (.tup [(V.int (if t127 < t158 then t127 else t158)), (V.int (if t127 > t163 then t127 else t163))])) np169
        have ow178 := ow157.frz (o := (.tup [(V.int (if t127 < t158 then t127 else t158)), (V.int (if t127 > t163 then t127 else t163))])) np169
        have hB179 := hB153.frz (o := (.tup [(V.int (if t127 < t158 then t127 else t158)), (V.int (if t127 > t163 then t127 else t163))])) np169
        have r180 : R K (upd F150 p168 (.tup [(V.int (if t127 < t158 then t127 else t158)), (V.int (if t127 > t163 then t127 else t163))])) (.ref p168) (((if t127 < t158 then t127 else t158), (if t127 > t163 then t127 else t163)) : (Int × Int)) := R.mk2 fzT (Rp.int (if t127 < t158 then t127 else t158)) (Rp.int (if t127 > t163 then t127 else t163))
        obtain ⟨t181, hb182, hm86⟩ := bnd hm86
        obtain ⟨hk183, rfl⟩ := appL_ok hb182
        refine ⟨p48, ws_y_found77, (V.ref p168), rfl, rfl, ow177.h, (by rw [RL.len (hA_y_found83.up (Same.trans g94.ff (Same.trans g105.ff (Same.trans g152.ff sm174))))]; exact hk183), ?_⟩
        have hA184 : RL K (upd F150 p168 (.tup [(V.int (if t127 < t158 then t127 else t158)), (V.int (if t127 > t163 then t127 else t163))])) (ws_y_found77 ++ [(V.ref p168)]) (y_found76 ++ [(((if t127 < t158 then t127 else t158), (if t127 > t163 then t127 else t163)) : (Int × Int))]) := RL.snoc (hA_y_found83.up (Same.trans g94.ff (Same.trans g105.ff (Same.trans g152.ff sm174)))) r180
        have hl185 : (ws_y_found77 ++ [(V.ref p168)]).length ≤ sizeLine := by rw [List.length_append, RL.len (hA_y_found83.up (Same.trans g94.ff (Same.trans g105.ff (Same.trans g152.ff sm174))))]; exact hk183
        have g186 := g175.put (o := (.lst (ws_y_found77 ++ [(V.ref p168)]))) ow177
        have ow187 := ow176.other (o := (.lst (ws_y_found77 ++ [(V.ref p168)]))) ne51
        have ow188 := ow178.other (o := (.lst (ws_y_found77 ++ [(V.ref p168)]))) (Ne.symm ne114)
        have hB189 := hB179.other (o := (.lst (ws_y_found77 ++ [(V.ref p168)]))) nb52
        have ow190 := ow177.put (us := (ws_y_found77 ++ [(V.ref p168)]))
        exact ⟨(upd F150 p168 (.tup [(V.int (if t127 < t158 then t127 else t158)), (V.int (if t127 > t163 then t127 else t163))])), (some (V.int ((1 : Int) + ((i69 : Nat) : Int)))), (some (V.int t127)), (y_found76 ++ [((if t127 < t158 then t127 else t158), (if t127 > t163 then t127 else t163))]), (ws_y_found77 ++ [(V.ref p168)]), b134, rfl, g186, (Same.trans sm80 (Same.trans g94.ff (Same.trans g105.ff (Same.trans g152.ff sm174)))), ow190, hl185, hA184, ow187, hB189, hm86⟩
      · have hm86 := ifF hc hm86
        refine p_next ?_
        exact ⟨F150, (some (V.int ((1 : Int) + ((i69 : Nat) : Int)))), (some (V.int t127)), y_found76, ws_y_found77, b134, rfl, g154, (Same.trans sm80 (Same.trans g94.ff (Same.trans g105.ff g152.ff))), ow156, hl_y_found82, (hA_y_found83.up (Same.trans g94.ff (Same.trans g105.ff g152.ff))), ow155, hB153, hm86⟩
    intro σ191 H192 hP
    obtain ⟨F193, o_y_k194, o_y_other195, y_found196, ws_y_found197, b198, rfl, g199, sm200, ow_y_found201, hl_y_found202, hA_y_found203, owk0204, hB205, hm206⟩ := hP
    rw [drop_end (rangeL_len _ _).symm, m_l_ties_l1.eq_1] at hm206
    obtain ⟨rfl, rfl⟩ := pjoin hm206
    refine p_nx ?_
    refine p_seq ?_
    refine p_for ?_
    refine ⟨(V.ref B), rfl, (by show 3 ≤ sizeLine; decide), fun p207 np208 => ?_⟩
    have ne209 := owk0204.ne np208
    have ne210 := ow_y_found201.ne np208
    have nb211 := hB205.nb np208
    have g212 := g199.own (o := (.lst [(V.int (3 : Int)), (V.int (10 : Int)), (V.int (21 : Int))])) np208
    have ow213 := owk0204.own (o := (.lst [(V.int (3 : Int)), (V.int (10 : Int)), (V.int (21 : Int))])) np208
    have ow214 := ow_y_found201.own (o := (.lst [(V.int (3 : Int)), (V.int (10 : Int)), (V.int (21 : Int))])) np208
    have hB215 := hB205.own (o := (.lst [(V.int (3 : Int)), (V.int (10 : Int)), (V.int (21 : Int))])) np208
    have ow216 : Ow H0 F193 (upd H192 p207 (.lst [(V.int (3 : Int)), (V.int (10 : Int)), (V.int (21 : Int))])) p207 [(V.int (3 : Int)), (V.int (10 : Int)), (V.int (21 : Int))] := Ow.new g199 np208
    have hA217 : RL K F193 [(V.int (3 : Int)), (V.int (10 : Int)), (V.int (21 : Int))] ([(3 : Int), (10 : Int), (21 : Int)] : List Int) := (RpA.cons (Rp.int (3 : Int)) (RpA.cons (Rp.int (10 : Int)) (RpA.cons (Rp.int (21 : Int)) RpA.nil)))
    obtain ⟨r218, b219, hb220, hm⟩ := bnd2 hm
    refine ⟨(V.ref B), rfl, F193, B, C, b198, (3 : Int), r218, b219, rfl, g212.fh, hB215, hb220, fun F221 H222 g223 hB224 => ?_⟩
    have g226 := Gr.trans g212 g223
    have ow227 := ow213.gr g223 nb32
    have ow228 := ow214.gr g223 nb52
    have ow229 := ow216.gr g223 nb211
    obtain ⟨t230, hb231, hm⟩ := bnd hm
    obtain ⟨v232, ha233, r234⟩ := RL.at (hA217.up g223.ff) hb231
    obtain rfl := R.int_v r234
    obtain ⟨r235, b236, hb237, hm⟩ := bnd2 hm
    refine ⟨p207, [(V.int (3 : Int)), (V.int (10 : Int)), (V.int (21 : Int))], _, (V.int t230), rfl, rfl, ow229.sq, ha233, F221, B, C, b219, t230, r235, b236, rfl, g226.fh, hB224, hb237, fun F238 H239 g240 hB241 => ?_⟩
    have g243 := Gr.trans g226 g240
    have ow244 := ow227.gr g240 nb32
    have ow245 := ow228.gr g240 nb52
    have ow246 := ow229.gr g240 nb211
    obtain ⟨l247, hb249, hm⟩ := bnd hm
    obtain ⟨hk248, rfl⟩ := rangeO1_ok hb249
    refine ⟨_, rfl, hk248.1.1, hk248.1.2, ?_⟩
    obtain ⟨y_found250, b251, ht252, hm⟩ := bnd2 hm
    refine for_range (lo := (0 : Int)) (n := (r235).toNat) (fun i σ' H' => ∃ (F' : Hp) (o_y_k : Option V) (o_y_ends : Option V) (y_found : (List (Int × Int))) (ws_y_found : List V) (b : Bag), σ' = [(some (V.ref B)), (some (V.int y_many)), (some (V.ref p24)), (some (V.int r37)), (some (V.ref p48)), o_y_k, o_y_other195, o_y_ends] ∧ Gr (Bc B C) F0 H0 F' H' ∧ Same F238 F' ∧ Ow H0 F' H' p48 ws_y_found ∧ ws_y_found.length ≤ sizeLine ∧ RL K F' ws_y_found y_found ∧ BagAt F' H' B C b ∧ m_l_ties_l2 y_many ((rangeL (0 : Int) (r235).toNat).drop i) y_found b = some (y_found250, b251)) ?_ ?_ ?_
    · exact ⟨F238, o_y_k194, none, y_found196, ws_y_found197, b236, rfl, g243, (Same.refl _), ow245, hl_y_found202, (hA_y_found203.up (Same.trans g223.ff g240.ff)), hB241, ht252⟩
    · intro i253 σ' H255 hx254 hP
      obtain ⟨F257, o_y_k258, o_y_ends259, y_found260, ws_y_found261, b262, rfl, g263, sm264, ow_y_found265, hl_y_found266, hA_y_found267, hB268, hm269⟩ := hP
      have he271 := rangeL_at (lo := (0 : Int)) hx254
      rw [drop_at he271, m_l_ties_l2.eq_2] at hm269
      refine p_name ?_
      refine p_seq ?_
      refine p_asg ?_
      obtain ⟨r272, b273, hb274, hm269⟩ := bnd2 hm269
      refine ⟨(V.ref B), rfl, (V.int y_many), rfl, F257, B, C, b262, y_many, r272, b273, rfl, g263.fh, hB268, hb274, fun F275 H276 g277 hB278 => ?_⟩
      have g280 := Gr.trans g263 g277
      have ow281 := ow_y_found265.gr g277 nb52
      obtain ⟨r282, b283, hb284, hm269⟩ := bnd2 hm269
      refine ⟨(V.ref B), rfl, (V.int y_many), rfl, F275, B, C, b273, y_many, r282, b283, rfl, g280.fh, hB278, hb284, fun F285 H286 g287 hB288 => ?_⟩
      have g290 := Gr.trans g280 g287
      have ow291 := ow281.gr g287 nb52
      refine ⟨(by show 2 ≤ sizeLine; decide), fun p292 np293 => ?_⟩
      have ne294 := ow291.ne np293
      have nb295 := hB288.nb np293
      have g296 := g290.own (o := (.lst [(V.int r272), (V.int r282)])) np293
      have ow297 := ow291.own (o := (.lst [(V.int r272), (V.int r282)])) np293
      have hB298 := hB288.own (o := (.lst [(V.int r272), (V.int r282)])) np293
      have ow299 : Ow H0 F285 (upd H286 p292 (.lst [(V.int r272), (V.int r282)])) p292 [(V.int r272), (V.int r282)] := Ow.new g290 np293
      have hA300 : RL K F285 [(V.int r272), (V.int r282)] ([r272, r282] : List Int) := (RpA.cons (Rp.int r272) (RpA.cons (Rp.int r282) RpA.nil))
      have ln306 := RL.len hA300
      refine ⟨p292, ([r272, r282] : List Int), rfl, (by rw [← RL.ints hA300]; exact ow299.sq), fun ns301 p304 pm302 so303 np305 => ?_⟩
      obtain rfl := sortI_uniq pm302 so303
      have hl307 : ((sortI ([r272, r282] : List Int)).map V.int).length ≤ sizeLine := by rw [List.length_map, sortI_len, ← ln306]; exact (by show 2 ≤ sizeLine; decide)
      have hA308 : RL K F285 ((sortI ([r272, r282] : List Int)).map V.int) (sortI ([r272, r282] : List Int)) := RL.ofInts _
      have ne309 := ow297.ne np305
      have ne310 := ow299.ne np305
      have nb311 := hB298.nb np305
      have g312 := g296.own (o := (.lst ((sortI ([r272, r282] : List Int)).map V.int))) np305
      have ow313 := ow297.own (o := (.lst ((sortI ([r272, r282] : List Int)).map V.int))) np305
      have ow314 := ow299.own (o := (.lst ((sortI ([r272, r282] : List Int)).map V.int))) np305
      have hB315 := hB298.own (o := (.lst ((sortI ([r272, r282] : List Int)).map V.int))) np305
      have ow316 : Ow H0 F285 (upd (upd H286 p292 (.lst [(V.int r272), (V.int r282)])) p304 (.lst ((sortI ([r272, r282] : List Int)).map V.int))) p304 ((sortI ([r272, r282] : List Int)).map V.int) := Ow.new g296 np305
      obtain ⟨y_ends317, hb318, hm269⟩ := bnd hm269
      have hx319 : (sortI ([r272, r282] : List Int)) = y_ends317 := sjoin hb318
      have hA320 : RL K F285 ((sortI ([r272, r282] : List Int)).map V.int) y_ends317 := RL.re hx319 hA308
      refine p_name ?_
      refine p_nx ?_
      refine p_if ?_
      obtain ⟨t321, hb322, hm269⟩ := bnd hm269
      obtain ⟨v323, ha324, r325⟩ := RL.at hA320 hb322
      obtain rfl := R.int_v r325
      obtain ⟨t326, hb327, hm269⟩ := bnd hm269
      obtain ⟨v328, ha329, r330⟩ := RL.at hA320 hb327
      obtain rfl := R.int_v r330
      refine ⟨(V.ref p304), rfl, p304, ((sortI ([r272, r282] : List Int)).map V.int), _, (V.int t321), rfl, rfl, ow316.sq, ha324, (V.ref p304), rfl, p304, ((sortI ([r272, r282] : List Int)).map V.int), _, (V.int t326), rfl, rfl, ow316.sq, ha329, rfl, _, rfl, ?_⟩
      obtain ⟨c331, hc332, hm269⟩ := bnd hm269
      refine andJT (M := M0) (F := F285) (c := c331) (P := fun _ _ => True) (fun ha => ?_) (fun ha => ⟨(sjoin (ifF ha hc332)).symm, trivial⟩) g312.fh ?_
      · intro Q334 q335
        have hc332 := ifT ha hc332
        obtain ⟨t336, hb337, hc332⟩ := bnd hc332
        obtain ⟨v338, ha339, r340⟩ := RL.at hA320 hb337
        obtain rfl := R.int_v r340
        obtain ⟨t341, hb342, hc332⟩ := bnd hc332
        obtain ⟨v343, ha344, r345⟩ := RL.at hA320 hb342
        obtain rfl := R.int_v r345
        refine ⟨(V.ref p304), rfl, p304, ((sortI ([r272, r282] : List Int)).map V.int), _, (V.int t336), rfl, rfl, ow316.sq, ha339, (V.ref p304), rfl, p304, ((sortI ([r272, r282] : List Int)).map V.int), _, (V.int t341), rfl, rfl, ow316.sq, ha344, (by show 2 ≤ sizeLine; decide), fun p346 np347 => ?_⟩
        have ne348 := ow313.ne np347
        have ne349 := ow314.ne np347
        have ne350 := ow316.ne np347
        have nb351 := hB315.nb np347
        have sm352 := same_new (o := (.tup [(V.int t336), (V.int t341)])) (g312.noneF np347)
        have g353 := g312.frz (o := (.tup [(V.int t336), (V.int t341)])) np347
        have g354 := (Gr.refl (M := M0) g312.fh).frz (o := (.tup [(V.int t336), (V.int t341)])) np347
        have ow355 := ow313.frz (o := (.tup [(V.int t336), (V.int t341)])) np347
        have ow356 := ow314.frz (o := (.tup [(V.int t336), (V.int t341)])) np347
        have ow357 := ow316.frz (o := (.tup [(V.int t336), (V.int t341)])) np347
        have hB358 := hB315.frz (o := (.tup [(V.int t336), (V.int t341)])) np347
        have r359 : R K (upd F285 p346 (.tup [(V.int t336), (V.int t341)])) (.ref p346) ((t336, t341) : (Int × Int)) := R.mk2 fzT (Rp.int t336) (Rp.int t341)
        have rH360 : R K (upd (upd (upd H286 p292 (.lst [(V.int r272), (V.int r282)])) p304 (.lst ((sortI ([r272, r282] : List Int)).map V.int))) p346 (.tup [(V.int t336), (V.int t341)])) (V.ref p346) (t336, t341) := (Rp.up r359 g353.fh)
        have rH361 : R K (upd (upd (upd H286 p292 (.lst [(V.int r272), (V.int r282)])) p304 (.lst ((sortI ([r272, r282] : List Int)).map V.int))) p346 (.tup [(V.int t336), (V.int t341)])) (V.ref p48) y_found260 := (R.mkl ow355.sq hl_y_found266 (RpA.up (hA_y_found267.up (Same.trans g277.ff (Same.trans g287.ff sm352))) g353.fh))
        refine ⟨(V.ref p48), rfl, _, _, (Rp.dp _ _ rH360), (Rp.dp _ _ rH361), (R.shaped rH360), (R.shaped rH361), _, rfl, ?_⟩
        refine andJT (M := M0) (F := (upd F285 p346 (.tup [(V.int t336), (V.int t341)]))) (c := ((!inD (t336, t341) y_found260) && (decide ((((y_found260).length : Nat) : Int) < (20 : Int))))) (P := fun _ _ => True) (fun ha => ?_) (fun ha => ⟨(anF ha), trivial⟩) g353.fh ?_
        · intro Q365 q366
          refine ⟨(V.ref p48), rfl, p48, ws_y_found261, _, rfl, (.inl ow355.sq), (RL.len (hA_y_found267.up (Same.trans g277.ff (Same.trans g287.ff sm352)))), _, _, rfl, rfl, _, rfl, (qTb ha (q366 _ _ (Gr.refl (M := M0) g353.fh) trivial))⟩
        intro F367 H368 g369 hB370
        have g371 := Gr.trans g353 (Gr.of0 g369)
        have g372 := Gr.trans g354 g369
        have ow373 := ow355.gr0 g369
        have ow374 := ow356.gr0 g369
        have ow375 := ow357.gr0 g369
        have hB376 := hB358.gr0 g369
        obtain rfl := sjoin hc332
        exact (q335 _ _ g372 trivial)
      intro F377 H378 g379 hB380
      have g381 := Gr.trans g312 (Gr.of0 g379)
      have ow382 := ow313.gr0 g379
      have ow383 := ow314.gr0 g379
      have ow384 := ow316.gr0 g379
      have hB385 := hB315.gr0 g379
      refine (iteB (fun hc => ?_) (fun hc => ?_))
      · have hm269 := ifT hc hm269
        refine p_drop ?_
        obtain ⟨t386, hb387, hm269⟩ := bnd hm269
        obtain ⟨v388, ha389, r390⟩ := RL.at (hA320.up g379.ff) hb387
        obtain rfl := R.int_v r390
        obtain ⟨t391, hb392, hm269⟩ := bnd hm269
        obtain ⟨v393, ha394, r395⟩ := RL.at (hA320.up g379.ff) hb392
        obtain rfl := R.int_v r395
        refine ⟨(V.ref p48), rfl, (.inl ⟨rfl, _, ow382.sq⟩), (V.ref p304), rfl, p304, ((sortI ([r272, r282] : List Int)).map V.int), _, (V.int t386), rfl, rfl, ow384.sq, ha389, (V.ref p304), rfl, p304, ((sortI ([r272, r282] : List Int)).map V.int), _, (V.int t391), rfl, rfl, ow384.sq, ha394, (by show 2 ≤ sizeLine; decide), fun p396 np397 => ?_⟩
        have ne398 := ow382.ne np397
        have ne399 := ow383.ne np397
        have ne400 := ow384.ne np397
        have nb401 := hB385.nb np397
        have sm402 := same_new (o := (.tup [(V.int t386), (V.int t391)])) (g381.noneF np397)
        have g403 := g381.frz (o := (.tup [(V.int t386), (V.int t391)])) np397
        have ow404 := ow382.frz (o := (.tup [(V.int t386), (V.int t391)])) np397
        have ow405 := ow383.frz (o := (.tup [(V.int t386), (V.int t391)])) np397
        have ow406 := ow384.frz (o := (.tup [(V.int t386), (V.int t391)])) np397
        have hB407 := hB385.frz (o := (.tup [(V.int t386), (V.int t391)])) np397
        have r408 : R K (upd F377 p396 (.tup [(V.int t386), (V.int t391)])) (.ref p396) ((t386, t391) : (Int × Int)) := R.mk2 fzT (Rp.int t386) (Rp.int t391)
        obtain ⟨t409, hb410, hm269⟩ := bnd hm269
        obtain ⟨hk411, rfl⟩ := appL_ok hb410
        refine ⟨p48, ws_y_found261, (V.ref p396), rfl, rfl, ow404.h, (by rw [RL.len (hA_y_found267.up (Same.trans g277.ff (Same.trans g287.ff (Same.trans g379.ff sm402))))]; exact hk411), ?_⟩
        have hA412 : RL K (upd F377 p396 (.tup [(V.int t386), (V.int t391)])) (ws_y_found261 ++ [(V.ref p396)]) (y_found260 ++ [((t386, t391) : (Int × Int))]) := RL.snoc (hA_y_found267.up (Same.trans g277.ff (Same.trans g287.ff (Same.trans g379.ff sm402)))) r408
        have hl413 : (ws_y_found261 ++ [(V.ref p396)]).length ≤ sizeLine := by rw [List.length_append, RL.len (hA_y_found267.up (Same.trans g277.ff (Same.trans g287.ff (Same.trans g379.ff sm402))))]; exact hk411
        have g414 := g403.put (o := (.lst (ws_y_found261 ++ [(V.ref p396)]))) ow404
        have ow415 := ow405.other (o := (.lst (ws_y_found261 ++ [(V.ref p396)]))) (Ne.symm ne294)
        have ow416 := ow406.other (o := (.lst (ws_y_found261 ++ [(V.ref p396)]))) (Ne.symm ne309)
        have hB417 := hB407.other (o := (.lst (ws_y_found261 ++ [(V.ref p396)]))) nb52
        have ow418 := ow404.put (us := (ws_y_found261 ++ [(V.ref p396)]))
        exact ⟨(upd F377 p396 (.tup [(V.int t386), (V.int t391)])), (some (V.int ((0 : Int) + ((i253 : Nat) : Int)))), (some (V.ref p304)), (y_found260 ++ [(t386, t391)]), (ws_y_found261 ++ [(V.ref p396)]), b283, rfl, g414, (Same.trans sm264 (Same.trans g277.ff (Same.trans g287.ff (Same.trans g379.ff sm402)))), ow418, hl413, hA412, hB417, hm269⟩
      · have hm269 := ifF hc hm269
        refine p_next ?_
        exact ⟨F377, (some (V.int ((0 : Int) + ((i253 : Nat) : Int)))), (some (V.ref p304)), y_found260, ws_y_found261, b283, rfl, g381, (Same.trans sm264 (Same.trans g277.ff (Same.trans g287.ff g379.ff))), ow382, hl_y_found266, (hA_y_found267.up (Same.trans g277.ff (Same.trans g287.ff g379.ff))), hB385, hm269⟩
    intro σ419 H420 hP
    obtain ⟨F421, o_y_k422, o_y_ends423, y_found424, ws_y_found425, b426, rfl, g427, sm428, ow_y_found429, hl_y_found430, hA_y_found431, hB432, hm433⟩ := hP
    rw [drop_end (rangeL_len _ _).symm, m_l_ties_l2.eq_1] at hm433
    obtain ⟨rfl, rfl⟩ := pjoin hm433
    refine p_nx ?_
    refine p_ret ?_
    obtain ⟨r434, b435, hb436, hm⟩ := bnd2 hm
    refine ⟨(V.ref B), rfl, (V.ref p48), rfl, F421, B, C, b426, p48, ws_y_found425, y_found424, r434, b435, rfl, g427.fh, hB432, ow_y_found429.sq, hl_y_found430, hA_y_found431, (fun _ _ g_ => g_.seq nb52 ow_y_found429.sq), hb436, fun p441 ws442 F437 H438 g439 hB440 np443 h444 nF445 hl446 hA447 => ?_⟩
    have ne448 := ow_y_found429.ne np443
    have nb449 := hB432.nb np443
    have n0450 := g427.none0 np443
    have g451 := Gr.trans g427 g439
    have ow452 := ow_y_found429.gr g439 nb52
    have ow453 : Ow H0 F437 H438 p441 ws442 := ⟨h444, nF445, n0450⟩
    obtain ⟨rfl, rfl⟩ := pjoin hm
    exact (hQ _ _ _ _ g451 hB440 ow453.n0 ow453.h ow453.nF hl446 hA447)
end K42
namespace K42
open PySem PySem.Spec PyProof.Rows L2 TL G
theorem ok_l_web {P : Program} {w : World} {K : PySem.W.Frag} {mg : Str → Option Value} {base : Heap} (T : Txt K mg) : FnOk P w K mg base CX0 5 T.a_l_web T.d_l_web ["_law_bag_here"] (sp_l_web K) := by
  have G_l_draw : FnOk P w K mg base CX0 2 T.a_l_draw T.d_l_draw ["_law_bag_here", "_law_many"] (sp_l_draw K) := ok_l_draw T
  have b_l_draw := T.F_l_draw.bindsN (ps := ["_law_bag_here", "_law_many"]) fun _ _ _ _ _ _ us hl => match us, hl with | [_, _], _ => rfl
  have G_l_ties : FnOk P w K mg base CX0 4 T.a_l_ties T.d_l_ties ["_law_bag_here", "_law_many"] (sp_l_ties K) := ok_l_ties T
  have b_l_ties := T.F_l_ties.bindsN (ps := ["_law_bag_here", "_law_many"]) fun _ _ _ _ _ _ us hl => match us, hl with | [_, _], _ => rfl
  refine fd_ok T.F_l_web sc_l_web (fun vs H Q E h => ?_) (fun cdv A outer s H0 vs Q E hr h => ?_)
  · obtain ⟨_, _, _, _, _, _, rfl, _⟩ := h
    rfl
  · obtain ⟨F0, B, C, b, r, b', rfl, hS0, hB, hm, hQ⟩ := h
    refine ⟨_, (pss_cons (ps_set (i := 1) sc_l_web.nd rfl (.inr rfl) (pe_ix (ix_listK (K := K)) (pe_lst (pa_cons (pe_op op_add pe_int (pe_call G_l_draw (hr.mono (by decide)) (by rfl) T.g_l_draw T.F_l_draw.kp b_l_draw .nil pass0 (pa_cons (pv 0) (pa_cons pe_int pa_nil)))) (pa_cons (pe_op op_add pe_int (pe_call G_l_draw (hr.mono (by decide)) (by rfl) T.g_l_draw T.F_l_draw.kp b_l_draw .nil pass0 (pa_cons (pv 0) (pa_cons pe_int pa_nil)))) (pa_cons (pe_op op_add pe_int (pe_call G_l_draw (hr.mono (by decide)) (by rfl) T.g_l_draw T.F_l_draw.kp b_l_draw .nil pass0 (pa_cons (pv 0) (pa_cons pe_int pa_nil)))) pa_nil)))) (pe_call G_l_draw (hr.mono (by decide)) (by rfl) T.g_l_draw T.F_l_draw.kp b_l_draw .nil pass0 (pa_cons (pv 0) (pa_cons pe_int pa_nil))) (fun _ _ => rfl))) (pss_cons (ps_set (i := 2) sc_l_web.nd rfl (.inl rfl) (pe_ix (ix_listK (K := K)) (pe_lst (pa_cons (pe_op op_add pe_int (pe_call G_l_draw (hr.mono (by decide)) (by rfl) T.g_l_draw T.F_l_draw.kp b_l_draw .nil pass0 (pa_cons (pv 0) (pa_cons pe_int pa_nil)))) (pa_cons (pe_op op_add pe_int (pe_call G_l_draw (hr.mono (by decide)) (by rfl) T.g_l_draw T.F_l_draw.kp b_l_draw .nil pass0 (pa_cons (pv 0) (pa_cons pe_int pa_nil)))) (pa_cons pe_int (pa_cons (pe_op op_add pe_int (pe_call G_l_draw (hr.mono (by decide)) (by rfl) T.g_l_draw T.F_l_draw.kp b_l_draw .nil pass0 (pa_cons (pv 0) (pa_cons pe_int pa_nil)))) pa_nil))))) (pe_call G_l_draw (hr.mono (by decide)) (by rfl) T.g_l_draw T.F_l_draw.kp b_l_draw .nil pass0 (pa_cons (pv 0) (pa_cons pe_int pa_nil))) (fun _ _ => rfl))) (pss_cons (ps_set (i := 3) sc_l_web.nd rfl (.inl rfl) (pe_op op_add pe_int (pe_call G_l_draw (hr.mono (by decide)) (by rfl) T.g_l_draw T.F_l_draw.kp b_l_draw .nil pass0 (pa_cons (pv 0) (pa_cons (pe_ix (ix_listK (K := K)) (pe_lst (pa_cons pe_int (pa_cons pe_int pa_nil))) (pe_call G_l_draw (hr.mono (by decide)) (by rfl) T.g_l_draw T.F_l_draw.kp b_l_draw .nil pass0 (pa_cons (pv 0) (pa_cons pe_int pa_nil))) (fun _ _ => rfl)) pa_nil))))) (pss_one (ps_ret (pe_tup (pa_cons (pv 2) (pa_cons (pv 1) (pa_cons (pe_call G_l_ties (hr.mono (by decide)) (by rfl) T.g_l_ties T.F_l_ties.kp b_l_ties .nil pass0 (pa_cons (pv 0) (pa_cons (pv 1) pa_nil))) (pa_cons (pe_lc (own := [("_law_k", 4)]) rfl sc_l_web.nd (pi_range1 (by rfl) T.n_range (pa_cons (pv 3) pa_nil)) (blkOk_by (own := [("_law_k", 4)]) (N := N_l_web) (sc := defScope s_l_web) (by decide +kernel)) (fun _ _ _ _ _ => (pg_name (i := 4) sc_l_web.nd rfl (Or.inl rfl) (.inr rfl))) (fun _ _ _ _ _ => pts_nil) (fun _ _ _ _ _ => (pe_call G_l_draw (hr.mono (by decide)) (by rfl) T.g_l_draw T.F_l_draw.kp b_l_draw .nil pass0 (pa_cons (pv 0) (pa_cons (pv 1) pa_nil))))) pa_nil)))))))))), ?_⟩
    have g0 : Gr (Bc B C) F0 H0 F0 H0 := Gr.refl hS0
    unfold m_l_web at hm
    refine p_seq ?_
    refine p_asg ?_
    obtain ⟨r1, b2, hb3, hm⟩ := bnd2 hm
    refine ⟨(V.ref B), rfl, F0, B, C, b, (3 : Int), r1, b2, rfl, g0.fh, hB, hb3, fun F4 H5 g6 hB7 => ?_⟩
    have g9 := Gr.trans g0 g6
    obtain ⟨r10, b11, hb12, hm⟩ := bnd2 hm
    refine ⟨_, _, rfl, rfl, (V.ref B), rfl, F4, B, C, b2, (6 : Int), r10, b11, rfl, g9.fh, hB7, hb12, fun F13 H14 g15 hB16 => ?_⟩
    have g18 := Gr.trans g9 g15
    obtain ⟨r19, b20, hb21, hm⟩ := bnd2 hm
    refine ⟨_, _, rfl, rfl, (V.ref B), rfl, F13, B, C, b11, (12 : Int), r19, b20, rfl, g18.fh, hB16, hb21, fun F22 H23 g24 hB25 => ?_⟩
    have g27 := Gr.trans g18 g24
    refine ⟨_, _, rfl, rfl, (by show 3 ≤ sizeLine; decide), fun p28 np29 => ?_⟩
    have nb30 := hB25.nb np29
    have g31 := g27.own (o := (.lst [(V.int ((2 : Int) + r1)), (V.int ((3 : Int) + r10)), (V.int ((1 : Int) + r19))])) np29
    have hB32 := hB25.own (o := (.lst [(V.int ((2 : Int) + r1)), (V.int ((3 : Int) + r10)), (V.int ((1 : Int) + r19))])) np29
    have ow33 : Ow H0 F22 (upd H23 p28 (.lst [(V.int ((2 : Int) + r1)), (V.int ((3 : Int) + r10)), (V.int ((1 : Int) + r19))])) p28 [(V.int ((2 : Int) + r1)), (V.int ((3 : Int) + r10)), (V.int ((1 : Int) + r19))] := Ow.new g27 np29
    have hA34 : RL K F22 [(V.int ((2 : Int) + r1)), (V.int ((3 : Int) + r10)), (V.int ((1 : Int) + r19))] ([((2 : Int) + r1), ((3 : Int) + r10), ((1 : Int) + r19)] : List Int) := (RpA.cons (Rp.int ((2 : Int) + r1)) (RpA.cons (Rp.int ((3 : Int) + r10)) (RpA.cons (Rp.int ((1 : Int) + r19)) RpA.nil)))
    obtain ⟨r35, b36, hb37, hm⟩ := bnd2 hm
    refine ⟨(V.ref B), rfl, F22, B, C, b20, (3 : Int), r35, b36, rfl, g31.fh, hB32, hb37, fun F38 H39 g40 hB41 => ?_⟩
    have g43 := Gr.trans g31 g40
    have ow44 := ow33.gr g40 nb30
    obtain ⟨t45, hb46, hm⟩ := bnd hm
    obtain ⟨v47, ha48, r49⟩ := RL.at (hA34.up g40.ff) hb46
    obtain rfl := R.int_v r49
    refine ⟨p28, [(V.int ((2 : Int) + r1)), (V.int ((3 : Int) + r10)), (V.int ((1 : Int) + r19))], _, (V.int t45), rfl, rfl, ow44.sq, ha48, ?_⟩
    refine p_name ?_
    refine p_nx ?_
    refine p_seq ?_
    refine p_asg ?_
    obtain ⟨r50, b51, hb52, hm⟩ := bnd2 hm
    refine ⟨(V.ref B), rfl, F38, B, C, b36, (3 : Int), r50, b51, rfl, g43.fh, hB41, hb52, fun F53 H54 g55 hB56 => ?_⟩
    have g58 := Gr.trans g43 g55
    have ow59 := ow44.gr g55 nb30
    obtain ⟨r60, b61, hb62, hm⟩ := bnd2 hm
    refine ⟨_, _, rfl, rfl, (V.ref B), rfl, F53, B, C, b51, (4 : Int), r60, b61, rfl, g58.fh, hB56, hb62, fun F63 H64 g65 hB66 => ?_⟩
    have g68 := Gr.trans g58 g65
    have ow69 := ow59.gr g65 nb30
    obtain ⟨r70, b71, hb72, hm⟩ := bnd2 hm
    refine ⟨_, _, rfl, rfl, (V.ref B), rfl, F63, B, C, b61, (30 : Int), r70, b71, rfl, g68.fh, hB66, hb72, fun F73 H74 g75 hB76 => ?_⟩
    have g78 := Gr.trans g68 g75
    have ow79 := ow69.gr g75 nb30
    refine ⟨_, _, rfl, rfl, (by show 4 ≤ sizeLine; decide), fun p80 np81 => ?_⟩
    have ne82 := ow79.ne np81
    have nb83 := hB76.nb np81
    have g84 := g78.own (o := (.lst [(V.int ((1 : Int) + r50)), (V.int ((2 : Int) + r60)), (V.int (30 : Int)), (V.int ((1 : Int) + r70))])) np81
    have ow85 := ow79.own (o := (.lst [(V.int ((1 : Int) + r50)), (V.int ((2 : Int) + r60)), (V.int (30 : Int)), (V.int ((1 : Int) + r70))])) np81
    have hB86 := hB76.own (o := (.lst [(V.int ((1 : Int) + r50)), (V.int ((2 : Int) + r60)), (V.int (30 : Int)), (V.int ((1 : Int) + r70))])) np81
    have ow87 : Ow H0 F73 (upd H74 p80 (.lst [(V.int ((1 : Int) + r50)), (V.int ((2 : Int) + r60)), (V.int (30 : Int)), (V.int ((1 : Int) + r70))])) p80 [(V.int ((1 : Int) + r50)), (V.int ((2 : Int) + r60)), (V.int (30 : Int)), (V.int ((1 : Int) + r70))] := Ow.new g78 np81
    have hA88 : RL K F73 [(V.int ((1 : Int) + r50)), (V.int ((2 : Int) + r60)), (V.int (30 : Int)), (V.int ((1 : Int) + r70))] ([((1 : Int) + r50), ((2 : Int) + r60), (30 : Int), ((1 : Int) + r70)] : List Int) := (RpA.cons (Rp.int ((1 : Int) + r50)) (RpA.cons (Rp.int ((2 : Int) + r60)) (RpA.cons (Rp.int (30 : Int)) (RpA.cons (Rp.int ((1 : Int) + r70)) RpA.nil))))
    obtain ⟨r89, b90, hb91, hm⟩ := bnd2 hm
    refine ⟨(V.ref B), rfl, F73, B, C, b71, (4 : Int), r89, b90, rfl, g84.fh, hB86, hb91, fun F92 H93 g94 hB95 => ?_⟩
    have g97 := Gr.trans g84 g94
    have ow98 := ow85.gr g94 nb30
    have ow99 := ow87.gr g94 nb83
    obtain ⟨t100, hb101, hm⟩ := bnd hm
    obtain ⟨v102, ha103, r104⟩ := RL.at (hA88.up g94.ff) hb101
    obtain rfl := R.int_v r104
    refine ⟨p80, [(V.int ((1 : Int) + r50)), (V.int ((2 : Int) + r60)), (V.int (30 : Int)), (V.int ((1 : Int) + r70))], _, (V.int t100), rfl, rfl, ow99.sq, ha103, ?_⟩
    refine p_name ?_
    refine p_nx ?_
    refine p_seq ?_
    refine p_asg ?_
    refine ⟨(V.ref B), rfl, (by show 2 ≤ sizeLine; decide), fun p105 np106 => ?_⟩
    have ne107 := ow98.ne np106
    have ne108 := ow99.ne np106
    have nb109 := hB95.nb np106
    have g110 := g97.own (o := (.lst [(V.int (3 : Int)), (V.int (8 : Int))])) np106
    have ow111 := ow98.own (o := (.lst [(V.int (3 : Int)), (V.int (8 : Int))])) np106
    have ow112 := ow99.own (o := (.lst [(V.int (3 : Int)), (V.int (8 : Int))])) np106
    have hB113 := hB95.own (o := (.lst [(V.int (3 : Int)), (V.int (8 : Int))])) np106
    have ow114 : Ow H0 F92 (upd H93 p105 (.lst [(V.int (3 : Int)), (V.int (8 : Int))])) p105 [(V.int (3 : Int)), (V.int (8 : Int))] := Ow.new g97 np106
    have hA115 : RL K F92 [(V.int (3 : Int)), (V.int (8 : Int))] ([(3 : Int), (8 : Int)] : List Int) := (RpA.cons (Rp.int (3 : Int)) (RpA.cons (Rp.int (8 : Int)) RpA.nil))
    obtain ⟨r116, b117, hb118, hm⟩ := bnd2 hm
    refine ⟨(V.ref B), rfl, F92, B, C, b90, (2 : Int), r116, b117, rfl, g110.fh, hB113, hb118, fun F119 H120 g121 hB122 => ?_⟩
    have g124 := Gr.trans g110 g121
    have ow125 := ow111.gr g121 nb30
    have ow126 := ow112.gr g121 nb83
    have ow127 := ow114.gr g121 nb109
    obtain ⟨t128, hb129, hm⟩ := bnd hm
    obtain ⟨v130, ha131, r132⟩ := RL.at (hA115.up g121.ff) hb129
    obtain rfl := R.int_v r132
    obtain ⟨r133, b134, hb135, hm⟩ := bnd2 hm
    refine ⟨p105, [(V.int (3 : Int)), (V.int (8 : Int))], _, (V.int t128), rfl, rfl, ow127.sq, ha131, F119, B, C, b117, t128, r133, b134, rfl, g124.fh, hB122, hb135, fun F136 H137 g138 hB139 => ?_⟩
    have g141 := Gr.trans g124 g138
    have ow142 := ow125.gr g138 nb30
    have ow143 := ow126.gr g138 nb83
    have ow144 := ow127.gr g138 nb109
    refine ⟨_, _, rfl, rfl, ?_⟩
    obtain ⟨y_gates145, hb146, hm⟩ := bnd hm
    have hx147 : ((1 : Int) + r133) = y_gates145 := sjoin hb146
    refine p_nm (v' := (V.int y_gates145)) (congrArg V.int hx147) ?_
    refine p_nx ?_
    refine p_ret ?_
    obtain ⟨r148, b149, hb150, hm⟩ := bnd2 hm
    refine ⟨(V.int t100), rfl, (V.int t45), rfl, (V.ref B), rfl, (V.int t45), rfl, F136, B, C, b134, t45, r148, b149, rfl, g141.fh, hB139, hb150, fun p155 ws156 F151 H152 g153 hB154 np157 h158 nF159 hl160 hA161 => ?_⟩
    have ne162 := ow142.ne np157
    have ne163 := ow143.ne np157
    have ne164 := ow144.ne np157
    have nb165 := hB139.nb np157
    have n0166 := g141.none0 np157
    have g167 := Gr.trans g141 g153
    have ow168 := ow142.gr g153 nb30
    have ow169 := ow143.gr g153 nb83
    have ow170 := ow144.gr g153 nb109
    have ow171 : Ow H0 F151 H152 p155 ws156 := ⟨h158, nF159, n0166⟩
    obtain ⟨l172, hb174, hm⟩ := bnd hm
    obtain ⟨hk173, rfl⟩ := rangeO1_ok hb174
    refine ⟨(V.int y_gates145), rfl, _, rfl, hk173.1.1, hk173.1.2, fun D175 nD176 => ?_⟩
    have ne177 := ow168.ne nD176
    have ne178 := ow169.ne nD176
    have ne179 := ow170.ne nD176
    have ne180 := ow171.ne nD176
    have nb181 := hB154.nb nD176
    have g182 := g167.own (o := (.lst [])) nD176
    have ow183 := ow168.own (o := (.lst [])) nD176
    have ow184 := ow169.own (o := (.lst [])) nD176
    have ow185 := ow170.own (o := (.lst [])) nD176
    have ow186 := ow171.own (o := (.lst [])) nD176
    have hB187 := hB154.own (o := (.lst [])) nD176
    have ow188 : Ow H0 F151 (upd H152 D175 (.lst [])) D175 [] := Ow.new g167 nD176
    obtain ⟨l189, b190, hb191, hm⟩ := bnd2 hm
    refine lc_range (lo := (0 : Int)) (n := (y_gates145).toNat) (fun i H' => ∃ (F' : Hp) (acc : List V) (ds : List Int) (rest : List Int) (b : Bag), Gr (Bc B C) F0 H0 F' H' ∧ Same F151 F' ∧ Ow H0 F' H' D175 acc ∧ RL K F' acc ds ∧ acc.length ≤ i ∧ Ow H0 F' H' p28 [(V.int ((2 : Int) + r1)), (V.int ((3 : Int) + r10)), (V.int ((1 : Int) + r19))] ∧ Ow H0 F' H' p80 [(V.int ((1 : Int) + r50)), (V.int ((2 : Int) + r60)), (V.int (30 : Int)), (V.int ((1 : Int) + r70))] ∧ Ow H0 F' H' p105 [(V.int (3 : Int)), (V.int (8 : Int))] ∧ Ow H0 F' H' p155 ws156 ∧ BagAt F' H' B C b ∧ m_l_web_c1 t45 ((rangeL (0 : Int) (y_gates145).toNat).drop i) b = some (rest, b190) ∧ ds ++ rest = l189) ?_ ?_ ?_
    · exact ⟨F151, [], [], l189, b149, g182, Same.refl _, ow188, RpA.nil, Nat.le_refl _, ow183, ow184, ow185, ow186, hB187, hb191, rfl⟩
    · intro i193 H195 hx194 hP
      obtain ⟨F196, acc197, ds198, rest199, b200, g0201, sm202, owD203, hA204, hi205, ow0206, ow1207, ow2208, ow3209, hB210, hm211, hr212⟩ := hP
      have he214 := rangeL_at (lo := (0 : Int)) hx194
      rw [drop_at he214, m_l_web_c1.eq_2] at hm211
      refine ⟨rfl, (p_yes ?_)⟩
      obtain ⟨r215, b216, hb217, hm211⟩ := bnd2 hm211
      refine ⟨(V.ref B), rfl, (V.int t45), rfl, F196, B, C, b200, t45, r215, b216, rfl, g0201.fh, hB210, hb217, fun F218 H219 g220 hB221 => ?_⟩
      have g223 := Gr.trans g0201 g220
      have ow224 := ow0206.gr g220 nb30
      have ow225 := ow1207.gr g220 nb83
      have ow226 := ow2208.gr g220 nb109
      have ow227 := ow3209.gr g220 nb165
      have ow228 := owD203.gr g220 nb181
      have hA229 : RL K F218 (acc197 ++ [(V.int r215)]) (ds198 ++ [(r215 : Int)]) := RL.snoc (hA204.up g220.ff) (Rp.int r215)
      obtain ⟨rest230, b231, h232, h233⟩ := bnd2 hm211
      obtain ⟨rfl, rfl⟩ := pjoin h233
      refine ⟨acc197, ow228.h, (lt_line hi205 hx194 hk173.2), ?_⟩
      have g234 := g223.put (o := (.lst (acc197 ++ [(V.int r215)]))) ow228
      have ow235 := ow224.other (o := (.lst (acc197 ++ [(V.int r215)]))) ne177
      have ow236 := ow225.other (o := (.lst (acc197 ++ [(V.int r215)]))) ne178
      have ow237 := ow226.other (o := (.lst (acc197 ++ [(V.int r215)]))) ne179
      have ow238 := ow227.other (o := (.lst (acc197 ++ [(V.int r215)]))) ne180
      have hB239 := hB221.other (o := (.lst (acc197 ++ [(V.int r215)]))) nb181
      have ow240 := ow228.put (us := (acc197 ++ [(V.int r215)]))
      exact ⟨F218, (acc197 ++ [(V.int r215)]), (ds198 ++ [r215]), rest230, b216, g234, (Same.trans sm202 g220.ff), ow240, hA229, (by rw [List.length_append]; exact Nat.succ_le_succ hi205), ow235, ow236, ow237, ow238, hB239, h232, (snoc_rest hr212)⟩
    intro H241 hP
    obtain ⟨F242, acc243, ds244, _rest, b245, g0246, sm247, owD248, hA249, hi250, ow0251, ow1252, ow2253, ow3254, hB255, hm256, hr257⟩ := hP
    rw [drop_end (rangeL_len _ _).symm] at hm256
    rw [m_l_web_c1.eq_1] at hm256
    obtain ⟨rfl, rfl⟩ := pjoin hm256
    rw [List.append_nil] at hr257
    obtain rfl := hr257
    have hl258 : acc243.length ≤ sizeLine := Nat.le_trans hi250 hk173.2
    have sm259 := ow3254.sf
    have g260 := g0246.fz ow3254
    have ow261 : Ow H0 (upd F242 p155 (.lst ws156)) H241 p28 [(V.int ((2 : Int) + r1)), (V.int ((3 : Int) + r10)), (V.int ((1 : Int) + r19))] := ow0251.fz ne162
    have ow262 : Ow H0 (upd F242 p155 (.lst ws156)) H241 p80 [(V.int ((1 : Int) + r50)), (V.int ((2 : Int) + r60)), (V.int (30 : Int)), (V.int ((1 : Int) + r70))] := ow1252.fz ne163
    have ow263 : Ow H0 (upd F242 p155 (.lst ws156)) H241 p105 [(V.int (3 : Int)), (V.int (8 : Int))] := ow2253.fz ne164
    have ow264 : Ow H0 (upd F242 p155 (.lst ws156)) H241 D175 acc243 := owD248.fz (Ne.symm ne180)
    have hB265 : BagAt (upd F242 p155 (.lst ws156)) H241 B C b245 := hB255.fz nb165
    have r266 : R K (upd F242 p155 (.lst ws156)) (.ref p155) r148 := R.mkl fzS hl160 (RpA.up (hA161.up sm247) sm259)
    have sm267 := ow264.sf
    have g268 := g260.fz ow264
    have ow269 : Ow H0 (upd (upd F242 p155 (.lst ws156)) D175 (.lst acc243)) H241 p28 [(V.int ((2 : Int) + r1)), (V.int ((3 : Int) + r10)), (V.int ((1 : Int) + r19))] := ow261.fz ne177
    have ow270 : Ow H0 (upd (upd F242 p155 (.lst ws156)) D175 (.lst acc243)) H241 p80 [(V.int ((1 : Int) + r50)), (V.int ((2 : Int) + r60)), (V.int (30 : Int)), (V.int ((1 : Int) + r70))] := ow262.fz ne178
    have ow271 : Ow H0 (upd (upd F242 p155 (.lst ws156)) D175 (.lst acc243)) H241 p105 [(V.int (3 : Int)), (V.int (8 : Int))] := ow263.fz ne179
    have hB272 : BagAt (upd (upd F242 p155 (.lst ws156)) D175 (.lst acc243)) H241 B C b245 := hB265.fz nb181
    have r273 : R K (upd (upd F242 p155 (.lst ws156)) D175 (.lst acc243)) (.ref D175) ds244 := R.mkl fzS hl258 (RpA.up (hA249.up sm259) sm267)
    refine ⟨(by show 4 ≤ sizeLine; decide), fun p274 np275 => ?_⟩
    have ne276 := ow269.ne np275
    have ne277 := ow270.ne np275
    have ne278 := ow271.ne np275
    have nb279 := hB272.nb np275
    have sm280 := same_new (o := (.tup [(V.int t100), (V.int t45), (V.ref p155), (V.ref D175)])) (g268.noneF np275)
    have g281 := g268.frz (o := (.tup [(V.int t100), (V.int t45), (V.ref p155), (V.ref D175)])) np275
    have ow282 := ow269.frz (o := (.tup [(V.int t100), (V.int t45), (V.ref p155), (V.ref D175)])) np275
    have ow283 := ow270.frz (o := (.tup [(V.int t100), (V.int t45), (V.ref p155), (V.ref D175)])) np275
    have ow284 := ow271.frz (o := (.tup [(V.int t100), (V.int t45), (V.ref p155), (V.ref D175)])) np275
    have hB285 := hB272.frz (o := (.tup [(V.int t100), (V.int t45), (V.ref p155), (V.ref D175)])) np275
    have r286 : R K (upd (upd (upd F242 p155 (.lst ws156)) D175 (.lst acc243)) p274 (.tup [(V.int t100), (V.int t45), (V.ref p155), (V.ref D175)])) (.ref p274) ((T4.mk t100 t45 r148 ds244) : (T4 Int Int (List (Int × Int)) (List Int))) := R.mk4 fzT (Rp.int t100) (Rp.int t45) (r266.up (Same.trans sm267 sm280)) (r273.up sm280)
    obtain ⟨rfl, rfl⟩ := pjoin hm
    exact (hQ _ _ _ g281 hB285 r286)
end K42
namespace K42
open PySem PySem.Spec PyProof.Rows L2 TL G
theorem ok_l_torn {P : Program} {w : World} {K : PySem.W.Frag} {mg : Str → Option Value} {base : Heap} (T : Txt K mg) : FnOk P w K mg base CX0 3 T.a_l_torn T.d_l_torn ["_law_bag_here", "_law_web_here", "_law_share"] (sp_l_torn K) := by
  have G_l_draw : FnOk P w K mg base CX0 2 T.a_l_draw T.d_l_draw ["_law_bag_here", "_law_many"] (sp_l_draw K) := ok_l_draw T
  have b_l_draw := T.F_l_draw.bindsN (ps := ["_law_bag_here", "_law_many"]) fun _ _ _ _ _ _ us hl => match us, hl with | [_, _], _ => rfl
  refine fd_ok T.F_l_torn sc_l_torn (fun vs H Q E h => ?_) (fun cdv A outer s H0 vs Q E hr h => ?_)
  · obtain ⟨_, _, _, _, _, _, _, _, _, rfl, _⟩ := h
    rfl
  · obtain ⟨F0, B, C, b, v_y_web_here, y_web_here, y_share, r, b', rfl, hS0, hB, r_y_web_here, hm, hQ⟩ := h
    refine ⟨_, (pss_one (ps_ret (pe_lc (own := [("_law_k", 3)]) rfl sc_l_torn.nd (pi_range1 (by rfl) T.n_range (pa_cons (pe_callB (call_lenLK (K := K)) (by rfl) T.n_len (by decide +kernel) (pa_cons (pe_ix (ix_tupK (K := K)) (pv 1) pe_int (fun _ _ => rfl)) pa_nil)) pa_nil)) (blkOk_by (own := [("_law_k", 3)]) (N := N_l_torn) (sc := defScope s_l_torn) (by decide +kernel)) (fun _ _ _ _ _ => (pg_name (i := 3) sc_l_torn.nd rfl (Or.inl rfl) (.inr rfl))) (fun _ _ _ _ _ => (pts_one (pt_cmpR op_eq (pe_call G_l_draw (hr.mono (by decide)) (by rfl) T.g_l_draw T.F_l_draw.kp b_l_draw .nil pass0 (pa_cons (pv 0) (pa_cons (pv 2) pa_nil))) pe_int (nomark _)))) (fun _ _ _ _ _ => (pv 3))))), ?_⟩
    have g0 : Gr (Bc B C) F0 H0 F0 H0 := Gr.refl hS0
    unfold m_l_torn at hm
    refine p_ret ?_
    obtain ⟨p1, v4, v5, v6, v7, ev2, hS3, r8, r9, r10, r11⟩ := R.p4_v r_y_web_here
    obtain rfl := R.int_v r8
    obtain rfl := R.int_v r9
    obtain ⟨p12, ws13, ev14, hS15, hl16, hA17⟩ := R.lst_v r10
    obtain ⟨l18, hb20, hm⟩ := bnd hm
    obtain ⟨hk19, rfl⟩ := rangeO1_ok hb20
    refine ⟨v_y_web_here, rfl, p1, _, _, v6, ev2, rfl, (SqT_mono g0.fh hS3), rfl, p12, ws13, _, (by rw [ev14]), (.inl (Same.seq g0.fh hS15)), (RL.len hA17), _, rfl, hk19.1.1, hk19.1.2, fun D21 nD22 => ?_⟩
    have nb23 := hB.nb nD22
    have g24 := g0.own (o := (.lst [])) nD22
    have hB25 := hB.own (o := (.lst [])) nD22
    have ow26 : Ow H0 F0 (upd H0 D21 (.lst [])) D21 [] := Ow.new g0 nD22
    obtain ⟨l27, b28, hb29, hm⟩ := bnd2 hm
    refine lc_range (lo := (0 : Int)) (n := ((((y_web_here.c).length : Nat) : Int)).toNat) (fun i H' => ∃ (F' : Hp) (acc : List V) (ds : List Int) (rest : List Int) (b : Bag), Gr (Bc B C) F0 H0 F' H' ∧ Same F0 F' ∧ Ow H0 F' H' D21 acc ∧ RL K F' acc ds ∧ acc.length ≤ i ∧ BagAt F' H' B C b ∧ m_l_torn_c1 y_share ((rangeL (0 : Int) ((((y_web_here.c).length : Nat) : Int)).toNat).drop i) b = some (rest, b28) ∧ ds ++ rest = l27) ?_ ?_ ?_
    · exact ⟨F0, [], [], l27, b, g24, Same.refl _, ow26, RpA.nil, Nat.le_refl _, hB25, hb29, rfl⟩
    · intro i31 H33 hx32 hP
      obtain ⟨F34, acc35, ds36, rest37, b38, g039, sm40, owD41, hA42, hi43, hB44, hm45, hr46⟩ := hP
      have he48 := rangeL_at (lo := (0 : Int)) hx32
      rw [drop_at he48, m_l_torn_c1.eq_2] at hm45
      obtain ⟨r49, b50, hb51, hm45⟩ := bnd2 hm45
      refine ⟨rfl, (V.ref B), rfl, (V.int y_share), rfl, F34, B, C, b38, y_share, r49, b50, rfl, g039.fh, hB44, hb51, fun F52 H53 g54 hB55 => ?_⟩
      have g57 := Gr.trans g039 g54
      have ow58 := owD41.gr g54 nb23
      refine ⟨rfl, _, rfl, (iteB (fun hc => ?_) (fun hc => ?_))⟩
      · have hc : (eqI r49 (0 : Int)) = true := hc
        have hm45 := ifT hc hm45
        have hA59 : RL K F52 (acc35 ++ [(V.int ((0 : Int) + ((i31 : Nat) : Int)))]) (ds36 ++ [(((0 : Int) + ((i31 : Nat) : Int)) : Int)]) := RL.snoc (hA42.up g54.ff) (Rp.int ((0 : Int) + ((i31 : Nat) : Int)))
        obtain ⟨rest60, b61, h62, h63⟩ := bnd2 hm45
        obtain ⟨rfl, rfl⟩ := pjoin h63
        refine ⟨(V.int ((0 : Int) + ((i31 : Nat) : Int))), rfl, acc35, ow58.h, (lt_line hi43 hx32 hk19.2), ?_⟩
        have g64 := g57.put (o := (.lst (acc35 ++ [(V.int ((0 : Int) + ((i31 : Nat) : Int)))]))) ow58
        have hB65 := hB55.other (o := (.lst (acc35 ++ [(V.int ((0 : Int) + ((i31 : Nat) : Int)))]))) nb23
        have ow66 := ow58.put (us := (acc35 ++ [(V.int ((0 : Int) + ((i31 : Nat) : Int)))]))
        exact ⟨F52, (acc35 ++ [(V.int ((0 : Int) + ((i31 : Nat) : Int)))]), (ds36 ++ [((0 : Int) + ((i31 : Nat) : Int))]), rest60, b50, g64, (Same.trans sm40 g54.ff), ow66, hA59, (by rw [List.length_append]; exact Nat.succ_le_succ hi43), hB65, h62, (snoc_rest hr46)⟩
      · have hc : (eqI r49 (0 : Int)) = false := hc
        have hm45 := ifF hc hm45
        exact ⟨F52, acc35, ds36, rest37, b50, g57, (Same.trans sm40 g54.ff), ow58, (hA42.up g54.ff), (Nat.le_succ_of_le hi43), hB55, hm45, hr46⟩
    intro H67 hP
    obtain ⟨F68, acc69, ds70, _rest, b71, g072, sm73, owD74, hA75, hi76, hB77, hm78, hr79⟩ := hP
    rw [drop_end (rangeL_len _ _).symm] at hm78
    rw [m_l_torn_c1.eq_1] at hm78
    obtain ⟨rfl, rfl⟩ := pjoin hm78
    rw [List.append_nil] at hr79
    obtain rfl := hr79
    have hl80 : acc69.length ≤ sizeLine := Nat.le_trans hi76 hk19.2
    obtain ⟨rfl, rfl⟩ := pjoin hm
    exact (hQ _ _ _ _ g072 hB77 owD74.n0 owD74.h owD74.nF hl80 hA75)
end K42
namespace K42
open PySem PySem.Spec PyProof.Rows L2 TL G
theorem ok_l_tie {P : Program} {w : World} {K : PySem.W.Frag} {mg : Str → Option Value} {base : Heap} (T : Txt K mg) : FnOk P w K mg base CX0 1 T.a_l_tie T.d_l_tie ["_law_web_here", "_law_here", "_law_there"] (sp_l_tie K) := by
  refine fd_ok T.F_l_tie sc_l_tie (fun vs H Q E h => ?_) (fun cdv A outer s H0 vs Q E hr h => ?_)
  · obtain ⟨_, _, _, _, _, _, rfl, _⟩ := h
    rfl
  · obtain ⟨F0, v_y_web_here, y_web_here, y_here, y_there, r, rfl, hS0, r_y_web_here, hm, hQ⟩ := h
    refine ⟨_, (pss_cons (ps_set (i := 3) sc_l_tie.nd rfl (.inl rfl) (pe_tup (pa_cons (pe_callB (call_min2 rfl) (by rfl) T.n_min (by decide +kernel) (pa_cons (pv 1) (pa_cons (pv 2) pa_nil))) (pa_cons (pe_callB (call_max2 rfl) (by rfl) T.n_max (by decide +kernel) (pa_cons (pv 1) (pa_cons (pv 2) pa_nil))) pa_nil)))) (pss_one (ps_ret (pe_ifExp (pt_cmpR (op_inDK (K := K) (units65 hr)) (pv 3) (pe_ix (ix_tupK (K := K)) (pv 0) pe_int (fun _ _ => rfl)) rfl) (pe_bmK (K := K) PySem.F.plainAttrs_list PySem.F.slot_list_index PySem.F.type_list_index (mt_idxK (α := (Int × Int)) (K := K) (units65 hr)) (pe_ix (ix_tupK (K := K)) (pv 0) pe_int (fun _ _ => rfl)) (pa_cons (pv 3) pa_nil)) pe_non)))), ?_⟩
    have g0 : Gr M0 F0 H0 F0 H0 := Gr.refl hS0
    unfold m_l_tie at hm
    refine p_seq ?_
    refine p_asg ?_
    refine ⟨(V.int y_here), rfl, (V.int y_there), rfl, _, _, rfl, (V.int y_here), rfl, (V.int y_there), rfl, _, _, rfl, (by show 2 ≤ sizeLine; decide), fun p1 np2 => ?_⟩
    have sm3 := same_new (o := (.tup [(V.int (if y_there < y_here then y_there else y_here)), (V.int (if y_there > y_here then y_there else y_here))])) (g0.noneF np2)
    have g4 := g0.frz (o := (.tup [(V.int (if y_there < y_here then y_there else y_here)), (V.int (if y_there > y_here then y_there else y_here))])) np2
    have r5 : R K (upd F0 p1 (.tup [(V.int (if y_there < y_here then y_there else y_here)), (V.int (if y_there > y_here then y_there else y_here))])) (.ref p1) (((if y_there < y_here then y_there else y_here), (if y_there > y_here then y_there else y_here)) : (Int × Int)) := R.mk2 fzT (Rp.int (if y_there < y_here then y_there else y_here)) (Rp.int (if y_there > y_here then y_there else y_here))
    obtain ⟨y_pair6, hb7, hm⟩ := bnd hm
    have hx8 : ((if y_there < y_here then y_there else y_here), (if y_there > y_here then y_there else y_here)) = y_pair6 := sjoin hb7
    have r9 : R K _ (V.ref p1) y_pair6 := hx8 ▸ (r5 : R K _ (V.ref p1) ((if y_there < y_here then y_there else y_here), (if y_there > y_here then y_there else y_here)))
    refine p_name ?_
    refine p_nx ?_
    refine p_ret ?_
    obtain ⟨p10, v13, v14, v15, v16, ev11, hS12, r17, r18, r19, r20⟩ := R.p4_v r_y_web_here
    obtain rfl := R.int_v r17
    obtain rfl := R.int_v r18
    have rH21 : R K (upd H0 p1 (.tup [(V.int (if y_there < y_here then y_there else y_here)), (V.int (if y_there > y_here then y_there else y_here))])) (V.ref p1) y_pair6 := (Rp.up r9 g4.fh)
    have rH22 : R K (upd H0 p1 (.tup [(V.int (if y_there < y_here then y_there else y_here)), (V.int (if y_there > y_here then y_there else y_here))])) v15 y_web_here.c := (Rp.up (r19.up sm3) g4.fh)
    refine ⟨(V.ref p1), rfl, v_y_web_here, rfl, p10, _, _, v15, ev11, rfl, (SqT_mono g4.fh (SqT_mono sm3 hS12)), rfl, _, _, (Rp.dp _ _ rH21), (Rp.dp _ _ rH22), (R.shaped rH21), (R.shaped rH22), _, rfl, ?_⟩
    obtain ⟨c23, hc25, hm⟩ := bnd hm
    refine ifJ (M := M0) (F := (upd F0 p1 (.tup [(V.int (if y_there < y_here then y_there else y_here)), (V.int (if y_there > y_here then y_there else y_here))]))) (P := fun v' F' H' => R K F' v' (c23 : (Option Int))) (fun ha => ?_) (fun ha => ?_) ?_
    · intro Q26 q27
      have ha : (inD y_pair6 y_web_here.c) = true := ha
      have hc25 := ifT ha hc25
      obtain ⟨p28, ws29, ev30, hS31, hl32, hA33⟩ := R.lst_v r19
      have rH34 : R K (upd H0 p1 (.tup [(V.int (if y_there < y_here then y_there else y_here)), (V.int (if y_there > y_here then y_there else y_here))])) v15 y_web_here.c := (Rp.up (r19.up sm3) g4.fh)
      have rH35 : R K (upd H0 p1 (.tup [(V.int (if y_there < y_here then y_there else y_here)), (V.int (if y_there > y_here then y_there else y_here))])) (V.ref p1) y_pair6 := (Rp.up r9 g4.fh)
      obtain ⟨t36, hb37, hc25⟩ := bnd hc25
      obtain ⟨j38, hj39, rfl⟩ := idxO_ok hb37
      obtain rfl := sjoin hc25
      refine ⟨v_y_web_here, rfl, p10, _, _, v15, ev11, rfl, (SqT_mono g4.fh (SqT_mono sm3 hS12)), rfl, (by rw [ev30]; exact .inl ⟨rfl, _, (Same.seq g4.fh (Same.seq sm3 hS31))⟩), (V.ref p1), rfl, _, y_web_here.c, y_pair6, j38, rfl, rH34, rH35, hj39, (q27 _ _ _ (Gr.refl (M := M0) g4.fh) (Rp.int ((j38 : Nat) : Int)))⟩
    · intro Q40 q41
      have ha : (inD y_pair6 y_web_here.c) = false := ha
      have hc25 := ifF ha hc25
      obtain rfl := sjoin hc25
      exact (q41 _ _ _ (Gr.refl (M := M0) g4.fh) Rp.non)
    intro v45 F42 H43 g44 hp46
    have g48 := Gr.trans g4 g44
    obtain rfl := sjoin hm
    exact (hQ _ _ _ g48 hp46)
end K42
namespace K42
open PySem PySem.Spec PyProof.Rows L2 TL G
theorem ok_l_gone {P : Program} {w : World} {K : PySem.W.Frag} {mg : Str → Option Value} {base : Heap} (T : Txt K mg) : FnOk P w K mg base CX0 2 T.a_l_gone T.d_l_gone ["_law_web_here", "_law_torn_here", "_law_rules", "_law_digit", "_law_gate"] (sp_l_gone K) := by
  have G_l_tie : FnOk P w K mg base CX0 1 T.a_l_tie T.d_l_tie ["_law_web_here", "_law_here", "_law_there"] (sp_l_tie K) := ok_l_tie T
  have b_l_tie := T.F_l_tie.bindsN (ps := ["_law_web_here", "_law_here", "_law_there"]) fun _ _ _ _ _ _ us hl => match us, hl with | [_, _, _], _ => rfl
  refine fd_ok T.F_l_gone sc_l_gone (fun vs H Q E h => ?_) (fun cdv A outer s H0 vs Q E hr h => ?_)
  · obtain ⟨_, _, _, _, _, _, _, _, _, _, _, _, rfl, _⟩ := h
    rfl
  · obtain ⟨F0, v_y_web_here, y_web_here, p_y_torn_here, ws_y_torn_here, y_torn_here, p_y_rules, ws_y_rules, y_rules, y_digit, y_gate, r, rfl, hS0, r_y_web_here, hS_y_torn_here, hl_y_torn_here, hA_y_torn_here, nm_y_torn_here, hS_y_rules, hl_y_rules, hA_y_rules, nm_y_rules, hm, hQ⟩ := h
    refine ⟨_, (pss_cons (ps_set (i := 5) sc_l_gone.nd rfl (.inl rfl) (pe_lst (pa_cons (pe_tup (pa_cons (pe_ix (ix_listK (K := K)) (pe_ix (ix_tupK (K := K)) (pv 0) pe_int (fun _ _ => rfl)) (pv 4) (fun _ _ => rfl)) (pa_cons pe_int pa_nil))) pa_nil))) (pss_cons (ps_set (i := 6) sc_l_gone.nd rfl (.inl rfl) (pe_lst (pa_cons (pe_ix (ix_listK (K := K)) (pe_ix (ix_tupK (K := K)) (pv 0) pe_int (fun _ _ => rfl)) (pv 4) (fun _ _ => rfl)) pa_nil))) (pss_one (ps_while PassesOwn.never (pt_val pe_bl) (pss_cons (ps_asg (pe_ix (ix_listK (K := K)) (pv 5) (pe_un un_neg pe_int) (fun _ _ => rfl)) (pg_tupK (K := K) 2 rfl (pgs_cons (pg_name (i := 7) sc_l_gone.nd rfl (Or.inl rfl)) (pgs_cons (pg_name (i := 8) sc_l_gone.nd rfl (Or.inr rfl)) pgs_nil)))) (pss_cons (ps_setLc (i := 9) (own := [("_law_rule", 13)]) rfl sc_l_gone.nd rfl rfl (sw_true rfl rfl rfl (by decide +kernel)) (pi_listK (K := K) (pe_ix (ix_listK (K := K)) (pv 2) (pv 7) (fun _ _ => rfl))) (blkOk_by (own := [("_law_rule", 13)]) (N := N_l_gone) (sc := defScope s_l_gone) (by decide +kernel)) (fun _ _ _ _ _ => (pg_name (i := 13) sc_l_gone.nd rfl (Or.inl rfl) (.inr rfl))) (fun _ _ _ _ _ => (pts_one (PW.pt (pw_and (pt_cmpR op_eq (pe_ix (ix_tupK (K := K)) (pv 13) pe_int (fun _ _ => rfl)) (pv 3) (nomark _)) (pw_and1 (pt_cmpR op_eq (pe_ix (ix_tupK (K := K)) (pv 13) pe_int (fun _ _ => rfl)) (pv 8) (nomark _))))))) (fun _ _ _ _ _ => (pv 13))) (pss_cons (ps_if (pt_cmpR (op_eqDK (K := K) hr.units) (pv 9) (pe_lst pa_nil) (nomark _)) (pss_one (ps_ret (pe_tup (pa_cons (pe_tup (pa_cons pe_str (pa_cons (pv 7) pa_nil))) (pa_cons (pv 6) pa_nil))))) pss_nil) (pss_cons (ps_asg (pe_slice (sl_tupF (K := K)) (pe_ix (ix_listK (K := K)) (pv 9) pe_int (fun _ _ => rfl)) (po_some pe_int) po_none) (pg_tupK (K := K) 2 rfl (pgs_cons (pg_name (i := 10) sc_l_gone.nd rfl (Or.inl rfl)) (pgs_cons (pg_name (i := 11) sc_l_gone.nd rfl (Or.inl rfl)) pgs_nil)))) (pss_cons (ps_if (PW.pt (pw_and (pt_cmpR op_eq (pv 10) (pe_un un_neg pe_int) (nomark _)) (pw_and (pt_cmpR op_le pe_int (pv 11) (nomark _)) (pw_and (pt_cmpR op_lt (pv 11) (pe_callB (call_lenLK (K := K)) (by rfl) T.n_len (by decide +kernel) (pa_cons (pe_ix (ix_tupK (K := K)) (pv 0) pe_int (fun _ _ => rfl)) pa_nil)) (nomark _)) (pw_and1 (pt_cmpR op_eq (pe_ix (ix_listK (K := K)) (pe_ix (ix_tupK (K := K)) (pv 0) pe_int (fun _ _ => rfl)) (pv 11) (fun _ _ => rfl)) (pv 7) (nomark _))))))) (pss_one (ps_ret (pe_tup (pa_cons (pe_tup (pa_cons pe_str (pa_cons (pv 11) pa_nil))) (pa_cons (pv 6) pa_nil))))) pss_nil) (pss_cons (ps_set (i := 12) sc_l_gone.nd rfl (.inl rfl) (pe_ifExp (pt_cmpR op_eq (pv 10) (pe_un un_neg pe_int) (nomark _)) pe_non (pe_call G_l_tie (hr.mono (by decide)) (by rfl) T.g_l_tie T.F_l_tie.kp b_l_tie .nil pass0 (pa_cons (pv 0) (pa_cons (pv 7) (pa_cons (pv 10) pa_nil)))))) (pss_cons (ps_if (pt_cmpR op_isO (pv 12) pe_non (nomark _)) (pss_one (ps_ret (pe_tup (pa_cons (pe_tup (pa_cons pe_str (pa_cons (pv 7) pa_nil))) (pa_cons (pv 6) pa_nil))))) pss_nil) (pss_cons (ps_if (pt_cmpR (op_inI (K := K)) (pv 12) (pv 1) rfl) (pss_one (ps_ret (pe_tup (pa_cons (pe_tup (pa_cons pe_str (pa_cons (pv 12) pa_nil))) (pa_cons (pv 6) pa_nil))))) pss_nil) (pss_cons (ps_expr (pe_bmK (K := K) PySem.F.plainAttrs_list PySem.F.slot_list_append PySem.F.type_list_append mt_append (pv 6) (pa_cons (pv 10) pa_nil))) (pss_cons (ps_if (pt_cmpR (op_inDK (K := K) (units65 hr)) (pe_tup (pa_cons (pv 10) (pa_cons (pv 11) pa_nil))) (pv 5) rfl) (pss_one (ps_ret (pe_tup (pa_cons (pe_tup (pa_cons pe_str pa_nil)) (pa_cons (pv 6) pa_nil))))) pss_nil) (pss_one (ps_expr (pe_bmK (K := K) PySem.F.plainAttrs_list PySem.F.slot_list_append PySem.F.type_list_append mt_append (pv 5) (pa_cons (pe_tup (pa_cons (pv 10) (pa_cons (pv 11) pa_nil))) pa_nil)))))))))))))))))), ?_⟩
    have g0 : Gr M0 F0 H0 F0 H0 := Gr.refl hS0
    unfold m_l_gone at hm
    refine p_seq ?_
    refine p_asg ?_
    obtain ⟨p1, v4, v5, v6, v7, ev2, hS3, r8, r9, r10, r11⟩ := R.p4_v r_y_web_here
    obtain rfl := R.int_v r8
    obtain rfl := R.int_v r9
    obtain ⟨t12, hb13, hm⟩ := bnd hm
    obtain ⟨p14, ws15, ev16, hS17, hl18, hA19⟩ := R.lst_v r11
    obtain ⟨v20, ha21, r22⟩ := RL.at hA19 hb13
    obtain rfl := R.int_v r22
    refine ⟨v_y_web_here, rfl, p1, _, _, v7, ev2, rfl, (SqT_mono g0.fh hS3), rfl, (V.int y_gate), rfl, p14, ws15, _, (V.int t12), ev16, rfl, (Same.seq g0.fh hS17), ha21, (by show 2 ≤ sizeLine; decide), fun p23 np24 => ?_⟩
    have sm25 := same_new (o := (.tup [(V.int t12), (V.int (0 : Int))])) (g0.noneF np24)
    have g26 := g0.frz (o := (.tup [(V.int t12), (V.int (0 : Int))])) np24
    have r27 : R K (upd F0 p23 (.tup [(V.int t12), (V.int (0 : Int))])) (.ref p23) ((t12, (0 : Int)) : (Int × Int)) := R.mk2 fzT (Rp.int t12) (Rp.int (0 : Int))
    refine ⟨(by show 1 ≤ sizeLine; decide), fun p28 np29 => ?_⟩
    have g30 := g26.own (o := (.lst [(V.ref p23)])) np29
    have ow31 : Ow H0 (upd F0 p23 (.tup [(V.int t12), (V.int (0 : Int))])) (upd (upd H0 p23 (.tup [(V.int t12), (V.int (0 : Int))])) p28 (.lst [(V.ref p23)])) p28 [(V.ref p23)] := Ow.new g26 np29
    have hA32 : RL K (upd F0 p23 (.tup [(V.int t12), (V.int (0 : Int))])) [(V.ref p23)] ([(t12, (0 : Int))] : List (Int × Int)) := (RpA.cons r27 RpA.nil)
    obtain ⟨y_been33, hb34, hm⟩ := bnd hm
    have hx35 : ([(t12, (0 : Int))] : List (Int × Int)) = y_been33 := sjoin hb34
    have hA36 : RL K (upd F0 p23 (.tup [(V.int t12), (V.int (0 : Int))])) [(V.ref p23)] y_been33 := RL.re hx35 hA32
    refine p_name ?_
    refine p_nx ?_
    refine p_seq ?_
    refine p_asg ?_
    obtain ⟨t37, hb38, hm⟩ := bnd hm
    obtain ⟨v39, ha40, r41⟩ := RL.at (hA19.up sm25) hb38
    obtain rfl := R.int_v r41
    refine ⟨v_y_web_here, rfl, p1, _, _, v7, ev2, rfl, (SqT_mono g30.fh (SqT_mono sm25 hS3)), rfl, (V.int y_gate), rfl, p14, ws15, _, (V.int t37), ev16, rfl, (Same.seq g30.fh (Same.seq sm25 hS17)), ha40, (by show 1 ≤ sizeLine; decide), fun p42 np43 => ?_⟩
    have ne44 := ow31.ne np43
    have g45 := g30.own (o := (.lst [(V.int t37)])) np43
    have ow46 := ow31.own (o := (.lst [(V.int t37)])) np43
    have ow47 : Ow H0 (upd F0 p23 (.tup [(V.int t12), (V.int (0 : Int))])) (upd (upd (upd H0 p23 (.tup [(V.int t12), (V.int (0 : Int))])) p28 (.lst [(V.ref p23)])) p42 (.lst [(V.int t37)])) p42 [(V.int t37)] := Ow.new g30 np43
    have hA48 : RL K (upd F0 p23 (.tup [(V.int t12), (V.int (0 : Int))])) [(V.int t37)] ([t37] : List Int) := (RpA.cons (Rp.int t37) RpA.nil)
    obtain ⟨y_line49, hb50, hm⟩ := bnd hm
    have hx51 : ([t37] : List Int) = y_line49 := sjoin hb50
    have hA52 : RL K (upd F0 p23 (.tup [(V.int t12), (V.int (0 : Int))])) [(V.int t37)] y_line49 := RL.re hx51 hA48
    refine p_name ?_
    refine p_nx ?_
    obtain ⟨l55, ht56, hm⟩ := bndL2 hm
    refine ⟨fun i σ' H' => ∃ (F' : Hp) (o_y_house : Option V) (o_y_so_far : Option V) (o_y_some : Option V) (o_y_goal : Option V) (o_y_then : Option V) (o_y_k : Option V) (y_line : (List Int)) (ws_y_line : List V) (y_been : (List (Int × Int))) (ws_y_been : List V), σ' = [(some v_y_web_here), (some (V.ref p_y_torn_here)), (some (V.ref p_y_rules)), (some (V.int y_digit)), (some (V.int y_gate)), (some (V.ref p28)), (some (V.ref p42)), o_y_house, o_y_so_far, o_y_some, o_y_goal, o_y_then, o_y_k, none] ∧ Gr M0 F0 H0 F' H' ∧ Same (upd F0 p23 (.tup [(V.int t12), (V.int (0 : Int))])) F' ∧ Ow H0 F' H' p42 ws_y_line ∧ ws_y_line.length ≤ sizeLine ∧ RL K F' ws_y_line y_line ∧ Ow H0 F' H' p28 ws_y_been ∧ ws_y_been.length ≤ sizeLine ∧ RL K F' ws_y_been y_been ∧ m_l_gone_l1 y_web_here y_torn_here y_rules y_digit i y_line y_been = some l55, ⟨100000, ⟨(upd F0 p23 (.tup [(V.int t12), (V.int (0 : Int))])), none, none, none, none, none, none, y_line49, [(V.int t37)], y_been33, [(V.ref p23)], rfl, g45, (Same.refl _), ow47, (by show 1 ≤ sizeLine; decide), hA52, ow46, (by show 1 ≤ sizeLine; decide), hA36, ht56⟩⟩, ?_⟩
    intro i σ57 H58 hP
    obtain ⟨F59, o_y_house60, o_y_so_far61, o_y_some62, o_y_goal63, o_y_then64, o_y_k65, y_line66, ws_y_line67, y_been68, ws_y_been69, rfl, g70, sm71, ow_y_line72, hl_y_line73, hA_y_line74, ow_y_been75, hl_y_been76, hA_y_been77, hm78⟩ := hP
    cases i with | zero => exact absurd hm78 (by rw [m_l_gone_l1.eq_1]; exact nofun) | succ i => ?_
    rw [m_l_gone_l1.eq_2] at hm78
    refine ⟨_, rfl, (iteB (fun hc => ?_) (fun hc => ?_))⟩
    · have hm78 := ifT hc hm78
      refine ⟨fun σ' H' => ∃ (F' : Hp) (o_y_house : Option V) (o_y_so_far : Option V) (o_y_some : Option V) (o_y_goal : Option V) (o_y_then : Option V) (o_y_k : Option V) (y_line : (List Int)) (ws_y_line : List V) (y_been : (List (Int × Int))) (ws_y_been : List V), σ' = [(some v_y_web_here), (some (V.ref p_y_torn_here)), (some (V.ref p_y_rules)), (some (V.int y_digit)), (some (V.int y_gate)), (some (V.ref p28)), (some (V.ref p42)), o_y_house, o_y_so_far, o_y_some, o_y_goal, o_y_then, o_y_k, none] ∧ Gr M0 F0 H0 F' H' ∧ Same (upd F0 p23 (.tup [(V.int t12), (V.int (0 : Int))])) F' ∧ Ow H0 F' H' p42 ws_y_line ∧ ws_y_line.length ≤ sizeLine ∧ RL K F' ws_y_line y_line ∧ Ow H0 F' H' p28 ws_y_been ∧ ws_y_been.length ≤ sizeLine ∧ RL K F' ws_y_been y_been ∧ m_l_gone_l1 y_web_here y_torn_here y_rules y_digit i y_line y_been = some l55, fun _ _ n => ⟨i, Nat.lt_succ_self i, n⟩, ?_⟩
      refine p_id ?_
      refine p_seq ?_
      refine p_asg ?_
      obtain ⟨t79, hb80, hm78⟩ := bnd hm78
      obtain ⟨v81, ha82, r83⟩ := RL.at hA_y_been77 hb80
      refine ⟨(V.ref p28), rfl, _, rfl, p28, ws_y_been69, _, v81, rfl, rfl, ow_y_been75.sq, ha82, ?_⟩
      obtain ⟨p84, v87, v88, ev85, hS86, r89, r90⟩ := R.p2_v r83
      obtain rfl := R.int_v r89
      obtain rfl := R.int_v r90
      refine ⟨p84, [(V.int t79.1), (V.int t79.2)], ev85, (SqT_mono g70.fh hS86), rfl, (V.int t79.1), [(V.int t79.2)], rfl, (V.int t79.2), [], rfl, rfl, ?_⟩
      refine p_nx ?_
      refine p_seq ?_
      refine p_asg ?_
      obtain ⟨t91, hb92, hm78⟩ := bnd hm78
      obtain ⟨v93, ha94, r95⟩ := RL.at (hA_y_rules.up (Same.trans sm25 sm71)) hb92
      obtain ⟨p96, ws97, ev98, hS99, hl100, hA101⟩ := R.lst_v r95
      refine ⟨(V.ref p_y_rules), rfl, (V.int t79.1), rfl, p_y_rules, ws_y_rules, _, v93, rfl, rfl, (g70.seq nm_y_rules hS_y_rules), ha94, p96, ev98, ⟨_, (Same.seq g70.fh hS99)⟩, fun D102 nD103 => ?_⟩
      have ne104 := ow_y_been75.ne nD103
      have ne105 := ow_y_line72.ne nD103
      have g106 := g70.own (o := (.lst [])) nD103
      have ow107 := ow_y_been75.own (o := (.lst [])) nD103
      have ow108 := ow_y_line72.own (o := (.lst [])) nD103
      have ow109 : Ow H0 F59 (upd H58 D102 (.lst [])) D102 [] := Ow.new g70 nD103
      refine lc_list (K := K) (a := p96) (xs := ws97) (fun i H' => ∃ (F' : Hp) (acc : List V) (ds : List (T4 Int Int Int Int)), Gr M0 F0 H0 F' H' ∧ Same F59 F' ∧ Ow H0 F' H' D102 acc ∧ RL K F' acc ds ∧ acc.length ≤ i ∧ Ow H0 F' H' p28 ws_y_been69 ∧ Ow H0 F' H' p42 ws_y_line67 ∧ ds ++ m_l_gone_c2 y_digit t79.2 (t91.drop i) = (m_l_gone_c2 y_digit t79.2 t91)) ?_ ?_ ?_ ?_
      · exact ⟨F59, [], [], g106, Same.refl _, ow109, RpA.nil, Nat.le_refl _, ow107, ow108, rfl⟩
      · intro i H' _ hP
        obtain ⟨F111, acc112, ds113, g0114, sm115, owD116, hA117, hi118, ow0119, ow1120, hr121⟩ := hP
        exact (Same.seq g0114.fh (Same.seq sm115 hS99))
      · intro i123 xv122 H125 hx124 hP
        obtain ⟨F126, acc127, ds128, g0129, sm130, owD131, hA132, hi133, ow0134, ow1135, hr136⟩ := hP
        obtain ⟨e137, he138, r139⟩ := RL.get (hA101.up sm130) hx124
        rw [drop_at he138, m_l_gone_c2.eq_2] at hr136
        refine ⟨rfl, ?_⟩
        obtain ⟨p140, v143, v144, v145, v146, ev141, hS142, r147, r148, r149, r150⟩ := R.p4_v r139
        obtain rfl := R.int_v r147
        obtain rfl := R.int_v r148
        obtain rfl := R.int_v r149
        obtain rfl := R.int_v r150
        refine ⟨xv122, rfl, p140, _, _, (V.int e137.a), ev141, rfl, (SqT_mono g0129.fh hS142), rfl, (V.int y_digit), rfl, rfl, _, rfl, ?_⟩
        refine andJT (M := M0) (F := F126) (c := ((eqI e137.a y_digit) && (eqI e137.b t79.2))) (P := fun _ _ => True) (fun ha => ?_) (fun ha => ⟨(anF ha), trivial⟩) g0129.fh ?_
        · intro Q154 q155
          refine ⟨xv122, rfl, p140, _, _, (V.int e137.b), ev141, rfl, (SqT_mono g0129.fh hS142), rfl, (V.int t79.2), rfl, rfl, _, rfl, (qTb ha (q155 _ _ (Gr.refl (M := M0) g0129.fh) trivial))⟩
        intro F156 H157 g158 hB159
        have g160 := Gr.trans g0129 g158
        have ow161 := ow0134.gr0 g158
        have ow162 := ow1135.gr0 g158
        have ow163 := owD131.gr0 g158
        refine (iteB (fun hc => ?_) (fun hc => ?_))
        · have hc : ((eqI e137.a y_digit) && (eqI e137.b t79.2)) = true := hc
          rw [if_pos hc] at hr136
          have hA164 : RL K F156 (acc127 ++ [xv122]) (ds128 ++ [(e137 : (T4 Int Int Int Int))]) := RL.snoc (hA132.up g158.ff) (r139.up g158.ff)
          refine ⟨xv122, rfl, acc127, ow163.h, (lt_line hi133 (List.getElem?_eq_some_iff.mp hx124).1 hl100), ?_⟩
          have g165 := g160.put (o := (.lst (acc127 ++ [xv122]))) ow163
          have ow166 := ow161.other (o := (.lst (acc127 ++ [xv122]))) ne104
          have ow167 := ow162.other (o := (.lst (acc127 ++ [xv122]))) ne105
          have ow168 := ow163.put (us := (acc127 ++ [xv122]))
          exact ⟨F156, (acc127 ++ [xv122]), (ds128 ++ [e137]), g165, (Same.trans sm130 g158.ff), ow168, hA164, (by rw [List.length_append]; exact Nat.succ_le_succ hi133), ow166, ow167, (snoc_rest hr136)⟩
        · have hc : ((eqI e137.a y_digit) && (eqI e137.b t79.2)) = false := hc
          rw [if_neg (ne_true_of_eq_false hc)] at hr136
          exact ⟨F156, acc127, ds128, g160, (Same.trans sm130 g158.ff), ow163, (hA132.up g158.ff), (Nat.le_succ_of_le hi133), ow161, ow162, hr136⟩
      intro H169 hP
      obtain ⟨F170, acc171, ds172, g0174, sm175, owD176, hA177, hi178, ow0179, ow1180, hr181⟩ := hP
      rw [drop_end (RL.len hA101)] at hr181
      rw [m_l_gone_c2.eq_1, List.append_nil] at hr181
      obtain rfl := hr181
      have hl182 : acc171.length ≤ sizeLine := Nat.le_trans hi178 hl100
      obtain ⟨y_some183, hb184, hm78⟩ := bnd hm78
      have hx185 : (m_l_gone_c2 y_digit t79.2 t91) = y_some183 := sjoin hb184
      have hA186 : RL K F170 acc171 y_some183 := RL.re hx185 hA177
      refine p_name ?_
      refine p_nx ?_
      refine p_seq ?_
      refine p_if ?_
      refine ⟨(V.ref D102), rfl, (by show 0 ≤ sizeLine; decide), fun p187 np188 => ?_⟩
      have ne189 := ow0179.ne np188
      have ne190 := ow1180.ne np188
      have ne191 := owD176.ne np188
      have g192 := g0174.own (o := (.lst [])) np188
      have ow193 := ow0179.own (o := (.lst [])) np188
      have ow194 := ow1180.own (o := (.lst [])) np188
      have ow195 := owD176.own (o := (.lst [])) np188
      have ow196 : Ow H0 F170 (upd H169 p187 (.lst [])) p187 [] := Ow.new g0174 np188
      have rH198 : R K (upd H169 p187 (.lst [])) (V.ref D102) y_some183 := (R.mkl ow195.sq hl182 (RpA.up hA186 g192.fh))
      have rH199 : R K (upd H169 p187 (.lst [])) (V.ref p187) ([] : (List (T4 Int Int Int Int))) := (R.mkl ow196.sq (by show 0 ≤ sizeLine; decide) (RpA.up RpA.nil g192.fh))
      refine ⟨_, _, (Rp.dp _ _ rH198), (Rp.dp _ _ rH199), (R.shaped rH198), (R.shaped rH199), _, rfl, (iteB (fun hc => ?_) (fun hc => ?_))⟩
      · have hm78 := ifT hc hm78
        refine p_ret ?_
        refine ⟨(V.int t79.1), rfl, (by show 2 ≤ sizeLine; decide), fun p200 np201 => ?_⟩
        have ne202 := ow193.ne np201
        have ne203 := ow194.ne np201
        have ne204 := ow195.ne np201
        have ne205 := ow196.ne np201
        have sm206 := same_new (o := (.tup [(V.str ("stray" : Str)), (V.int t79.1)])) (g192.noneF np201)
        have g207 := g192.frz (o := (.tup [(V.str ("stray" : Str)), (V.int t79.1)])) np201
        have ow208 := ow193.frz (o := (.tup [(V.str ("stray" : Str)), (V.int t79.1)])) np201
        have ow209 := ow194.frz (o := (.tup [(V.str ("stray" : Str)), (V.int t79.1)])) np201
        have ow210 := ow195.frz (o := (.tup [(V.str ("stray" : Str)), (V.int t79.1)])) np201
        have ow211 := ow196.frz (o := (.tup [(V.str ("stray" : Str)), (V.int t79.1)])) np201
        have r212 : R K (upd F170 p200 (.tup [(V.str ("stray" : Str)), (V.int t79.1)])) (.ref p200) ((("stray" : Str), t79.1) : (Str × Int)) := R.mk2 fzT (Rp.str ("stray" : Str) ⟨by decide +kernel, by decide +kernel⟩) (Rp.int t79.1)
        have r213 : R K (upd F170 p200 (.tup [(V.str ("stray" : Str)), (V.int t79.1)])) (V.ref p200) (((Sum.inl) (("stray" : Str), t79.1)) : ((Str × Int) ⊕ (T1 Str))) := r212
        have sm214 := ow209.sf
        have g215 := g207.fz ow209
        have ow216 : Ow H0 (upd (upd F170 p200 (.tup [(V.str ("stray" : Str)), (V.int t79.1)])) p42 (.lst ws_y_line67)) (upd (upd H169 p187 (.lst [])) p200 (.tup [(V.str ("stray" : Str)), (V.int t79.1)])) p28 ws_y_been69 := ow208.fz ne44
        have ow217 : Ow H0 (upd (upd F170 p200 (.tup [(V.str ("stray" : Str)), (V.int t79.1)])) p42 (.lst ws_y_line67)) (upd (upd H169 p187 (.lst [])) p200 (.tup [(V.str ("stray" : Str)), (V.int t79.1)])) D102 acc171 := ow210.fz (Ne.symm ne105)
        have ow218 : Ow H0 (upd (upd F170 p200 (.tup [(V.str ("stray" : Str)), (V.int t79.1)])) p42 (.lst ws_y_line67)) (upd (upd H169 p187 (.lst [])) p200 (.tup [(V.str ("stray" : Str)), (V.int t79.1)])) p187 [] := ow211.fz (Ne.symm ne190)
        have r219 : R K (upd (upd F170 p200 (.tup [(V.str ("stray" : Str)), (V.int t79.1)])) p42 (.lst ws_y_line67)) (.ref p42) y_line66 := R.mkl fzS hl_y_line73 (RpA.up (hA_y_line74.up (Same.trans sm175 sm206)) sm214)
        refine ⟨(V.ref p42), rfl, (by show 2 ≤ sizeLine; decide), fun p220 np221 => ?_⟩
        have ne222 := ow216.ne np221
        have ne223 := ow217.ne np221
        have ne224 := ow218.ne np221
        have sm225 := same_new (o := (.tup [(V.ref p200), (V.ref p42)])) (g215.noneF np221)
        have g226 := g215.frz (o := (.tup [(V.ref p200), (V.ref p42)])) np221
        have ow227 := ow216.frz (o := (.tup [(V.ref p200), (V.ref p42)])) np221
        have ow228 := ow217.frz (o := (.tup [(V.ref p200), (V.ref p42)])) np221
        have ow229 := ow218.frz (o := (.tup [(V.ref p200), (V.ref p42)])) np221
        have r230 : R K (upd (upd (upd F170 p200 (.tup [(V.str ("stray" : Str)), (V.int t79.1)])) p42 (.lst ws_y_line67)) p220 (.tup [(V.ref p200), (V.ref p42)])) (.ref p220) (((((Sum.inl) (("stray" : Str), t79.1)) : ((Str × Int) ⊕ (T1 Str))), y_line66) : (((Str × Int) ⊕ (T1 Str)) × (List Int))) := R.mk2 fzT (r213.up (Same.trans sm214 sm225)) (r219.up sm225)
        obtain rfl := sjoin hm78
        have hm := bret hm
        obtain rfl := sjoin hm
        exact (hQ _ _ _ g226 r230)
      · have hm78 := ifF hc hm78
        refine p_next ?_
        refine p_nx ?_
        refine p_seq ?_
        refine p_asg ?_
        obtain ⟨t231, hb232, hm78⟩ := bnd hm78
        obtain ⟨v233, ha234, r235⟩ := RL.at hA186 hb232
        obtain ⟨p236, v239, v240, v241, v242, ev237, hs238, r243, r244, r245, r246⟩ := R.p4_s r235
        obtain rfl := R.int_v r243
        obtain rfl := R.int_v r244
        obtain rfl := R.int_v r245
        obtain rfl := R.int_v r246
        refine ⟨(V.ref D102), rfl, D102, acc171, _, v233, rfl, rfl, ow195.sq, ha234, _, rfl, F170, p236, _, ev237, hs238, g192.fh, fun q247 F248 H249 g250 hs251 => ?_⟩
        have g252 := Gr.trans g192 g250
        have ow253 := ow193.gr0 g250
        have ow254 := ow194.gr0 g250
        have ow255 := ow195.gr0 g250
        have ow256 := ow196.gr0 g250
        have r257 : R K F248 (.ref q247) ((t231.c, t231.e) : (Int × Int)) := R.mk2 hs251 (Rp.int t231.c) (Rp.int t231.e)
        obtain ⟨p258, v261, v262, ev259, hS260, r263, r264⟩ := R.p2_v r257
        obtain rfl := R.int_v r263
        obtain rfl := R.int_v r264
        refine ⟨p258, [(V.int (t231.c, t231.e).1), (V.int (t231.c, t231.e).2)], ev259, (SqT_mono g252.fh hS260), rfl, (V.int (t231.c, t231.e).1), [(V.int (t231.c, t231.e).2)], rfl, (V.int (t231.c, t231.e).2), [], rfl, rfl, ?_⟩
        refine p_nx ?_
        refine p_seq ?_
        refine p_if ?_
        refine ⟨(V.int (t231.c, t231.e).1), rfl, _, rfl, rfl, _, rfl, ?_⟩
        obtain ⟨c265, hc266, hm78⟩ := bnd hm78
        refine andJT (M := M0) (F := F248) (c := c265) (P := fun _ _ => True) (fun ha => ?_) (fun ha => ⟨(sjoin (ifF ha hc266)).symm, trivial⟩) g252.fh ?_
        · intro Q268 q269
          have hc266 := ifT ha hc266
          refine ⟨(V.int (t231.c, t231.e).2), rfl, _, _, rfl, rfl, _, rfl, ?_⟩
          obtain ⟨c270, hc271, hc266⟩ := bnd hc266
          refine andJT (M := M0) (F := F248) (c := c270) (P := fun _ _ => True) (fun ha => ?_) (fun ha => ⟨(sjoin (ifF ha hc271)).symm, trivial⟩) g252.fh ?_
          · intro Q273 q274
            have hc271 := ifT ha hc271
            refine ⟨(V.int (t231.c, t231.e).2), rfl, v_y_web_here, rfl, p1, _, _, v7, ev2, rfl, (SqT_mono g252.fh (SqT_mono (Same.trans sm25 (Same.trans sm71 (Same.trans sm175 g250.ff))) hS3)), rfl, p14, ws15, _, (by rw [ev16]), (.inl (Same.seq g252.fh (Same.seq (Same.trans sm25 (Same.trans sm71 (Same.trans sm175 g250.ff))) hS17))), (RL.len (hA19.up (Same.trans sm25 (Same.trans sm71 (Same.trans sm175 g250.ff))))), _, _, rfl, rfl, _, rfl, ?_⟩
            obtain ⟨c275, hc276, hc271⟩ := bnd hc271
            refine andJT (M := M0) (F := F248) (c := c275) (P := fun _ _ => True) (fun ha => ?_) (fun ha => ⟨(sjoin (ifF ha hc276)).symm, trivial⟩) g252.fh ?_
            · intro Q278 q279
              have hc276 := ifT ha hc276
              obtain ⟨t280, hb281, hc276⟩ := bnd hc276
              obtain ⟨v282, ha283, r284⟩ := RL.at (hA19.up (Same.trans sm25 (Same.trans sm71 (Same.trans sm175 g250.ff)))) hb281
              obtain rfl := R.int_v r284
              obtain rfl := sjoin hc276
              refine ⟨v_y_web_here, rfl, p1, _, _, v7, ev2, rfl, (SqT_mono g252.fh (SqT_mono (Same.trans sm25 (Same.trans sm71 (Same.trans sm175 g250.ff))) hS3)), rfl, (V.int (t231.c, t231.e).2), rfl, p14, ws15, _, (V.int t280), ev16, rfl, (Same.seq g252.fh (Same.seq (Same.trans sm25 (Same.trans sm71 (Same.trans sm175 g250.ff))) hS17)), ha283, (V.int t79.1), rfl, rfl, _, rfl, (q279 _ _ (Gr.refl (M := M0) g252.fh) trivial)⟩
            intro F285 H286 g287 hB288
            have g289 := Gr.trans g252 g287
            have g290 := Gr.trans (Gr.refl (M := M0) g252.fh) g287
            have g291 := Gr.trans (Gr.refl (M := M0) g252.fh) g287
            have ow292 := ow253.gr0 g287
            have ow293 := ow254.gr0 g287
            have ow294 := ow255.gr0 g287
            have ow295 := ow256.gr0 g287
            obtain rfl := sjoin hc271
            exact (q274 _ _ g291 trivial)
          intro F296 H297 g298 hB299
          have g300 := Gr.trans g252 g298
          have g301 := Gr.trans (Gr.refl (M := M0) g252.fh) g298
          have ow302 := ow253.gr0 g298
          have ow303 := ow254.gr0 g298
          have ow304 := ow255.gr0 g298
          have ow305 := ow256.gr0 g298
          obtain rfl := sjoin hc266
          exact (q269 _ _ g301 trivial)
        intro F306 H307 g308 hB309
        have g310 := Gr.trans g252 g308
        have ow311 := ow253.gr0 g308
        have ow312 := ow254.gr0 g308
        have ow313 := ow255.gr0 g308
        have ow314 := ow256.gr0 g308
        refine (iteB (fun hc => ?_) (fun hc => ?_))
        · have hm78 := ifT hc hm78
          refine p_ret ?_
          refine ⟨(V.int (t231.c, t231.e).2), rfl, (by show 2 ≤ sizeLine; decide), fun p315 np316 => ?_⟩
          have ne317 := ow311.ne np316
          have ne318 := ow312.ne np316
          have ne319 := ow313.ne np316
          have ne320 := ow314.ne np316
          have sm321 := same_new (o := (.tup [(V.str ("out" : Str)), (V.int (t231.c, t231.e).2)])) (g310.noneF np316)
          have g322 := g310.frz (o := (.tup [(V.str ("out" : Str)), (V.int (t231.c, t231.e).2)])) np316
          have ow323 := ow311.frz (o := (.tup [(V.str ("out" : Str)), (V.int (t231.c, t231.e).2)])) np316
          have ow324 := ow312.frz (o := (.tup [(V.str ("out" : Str)), (V.int (t231.c, t231.e).2)])) np316
          have ow325 := ow313.frz (o := (.tup [(V.str ("out" : Str)), (V.int (t231.c, t231.e).2)])) np316
          have ow326 := ow314.frz (o := (.tup [(V.str ("out" : Str)), (V.int (t231.c, t231.e).2)])) np316
          have r327 : R K (upd F306 p315 (.tup [(V.str ("out" : Str)), (V.int (t231.c, t231.e).2)])) (.ref p315) ((("out" : Str), (t231.c, t231.e).2) : (Str × Int)) := R.mk2 fzT (Rp.str ("out" : Str) ⟨by decide +kernel, by decide +kernel⟩) (Rp.int (t231.c, t231.e).2)
          have r328 : R K (upd F306 p315 (.tup [(V.str ("out" : Str)), (V.int (t231.c, t231.e).2)])) (V.ref p315) (((Sum.inl) (("out" : Str), (t231.c, t231.e).2)) : ((Str × Int) ⊕ (T1 Str))) := r327
          have sm329 := ow324.sf
          have g330 := g322.fz ow324
          have ow331 : Ow H0 (upd (upd F306 p315 (.tup [(V.str ("out" : Str)), (V.int (t231.c, t231.e).2)])) p42 (.lst ws_y_line67)) (upd H307 p315 (.tup [(V.str ("out" : Str)), (V.int (t231.c, t231.e).2)])) p28 ws_y_been69 := ow323.fz ne44
          have ow332 : Ow H0 (upd (upd F306 p315 (.tup [(V.str ("out" : Str)), (V.int (t231.c, t231.e).2)])) p42 (.lst ws_y_line67)) (upd H307 p315 (.tup [(V.str ("out" : Str)), (V.int (t231.c, t231.e).2)])) D102 acc171 := ow325.fz (Ne.symm ne105)
          have ow333 : Ow H0 (upd (upd F306 p315 (.tup [(V.str ("out" : Str)), (V.int (t231.c, t231.e).2)])) p42 (.lst ws_y_line67)) (upd H307 p315 (.tup [(V.str ("out" : Str)), (V.int (t231.c, t231.e).2)])) p187 [] := ow326.fz (Ne.symm ne190)
          have r334 : R K (upd (upd F306 p315 (.tup [(V.str ("out" : Str)), (V.int (t231.c, t231.e).2)])) p42 (.lst ws_y_line67)) (.ref p42) y_line66 := R.mkl fzS hl_y_line73 (RpA.up (hA_y_line74.up (Same.trans sm175 (Same.trans g250.ff (Same.trans g308.ff sm321)))) sm329)
          refine ⟨(V.ref p42), rfl, (by show 2 ≤ sizeLine; decide), fun p335 np336 => ?_⟩
          have ne337 := ow331.ne np336
          have ne338 := ow332.ne np336
          have ne339 := ow333.ne np336
          have sm340 := same_new (o := (.tup [(V.ref p315), (V.ref p42)])) (g330.noneF np336)
          have g341 := g330.frz (o := (.tup [(V.ref p315), (V.ref p42)])) np336
          have ow342 := ow331.frz (o := (.tup [(V.ref p315), (V.ref p42)])) np336
          have ow343 := ow332.frz (o := (.tup [(V.ref p315), (V.ref p42)])) np336
          have ow344 := ow333.frz (o := (.tup [(V.ref p315), (V.ref p42)])) np336
          have r345 : R K (upd (upd (upd F306 p315 (.tup [(V.str ("out" : Str)), (V.int (t231.c, t231.e).2)])) p42 (.lst ws_y_line67)) p335 (.tup [(V.ref p315), (V.ref p42)])) (.ref p335) (((((Sum.inl) (("out" : Str), (t231.c, t231.e).2)) : ((Str × Int) ⊕ (T1 Str))), y_line66) : (((Str × Int) ⊕ (T1 Str)) × (List Int))) := R.mk2 fzT (r328.up (Same.trans sm329 sm340)) (r334.up sm340)
          obtain rfl := sjoin hm78
          have hm := bret hm
          obtain rfl := sjoin hm
          exact (hQ _ _ _ g341 r345)
        · have hm78 := ifF hc hm78
          refine p_next ?_
          refine p_nx ?_
          refine p_seq ?_
          refine p_asg ?_
          refine ⟨(V.int (t231.c, t231.e).1), rfl, _, rfl, rfl, _, rfl, ?_⟩
          obtain ⟨c346, hc348, hm78⟩ := bnd hm78
          refine ifJ (M := M0) (F := F306) (P := fun v' F' H' => R K F' v' (c346 : (Option Int))) (fun ha => ?_) (fun ha => ?_) ?_
          · intro Q349 q350
            have ha : (eqI (t231.c, t231.e).1 (-(1 : Int))) = true := ha
            have hc348 := ifT ha hc348
            obtain rfl := sjoin hc348
            exact (q350 _ _ _ (Gr.refl (M := M0) g310.fh) Rp.non)
          · intro Q351 q352
            have ha : (eqI (t231.c, t231.e).1 (-(1 : Int))) = false := ha
            have hc348 := ifF ha hc348
            obtain ⟨r353, hb354, hc348⟩ := bnd hc348
            refine ⟨v_y_web_here, rfl, (V.int t79.1), rfl, (V.int (t231.c, t231.e).1), rfl, F306, v_y_web_here, y_web_here, t79.1, (t231.c, t231.e).1, r353, rfl, g310.fh, (r_y_web_here.up (Same.trans sm25 (Same.trans sm71 (Same.trans sm175 (Same.trans g250.ff g308.ff))))), hb354, fun v358 F355 H356 g357 r359 => ?_⟩
            have g360 := Gr.trans g310 g357
            have g361 := Gr.trans (Gr.refl (M := M0) g310.fh) g357
            have ow362 := ow311.gr0 g357
            have ow363 := ow312.gr0 g357
            have ow364 := ow313.gr0 g357
            have ow365 := ow314.gr0 g357
            obtain rfl := sjoin hc348
            exact (q352 _ _ _ g361 r359)
          intro v369 F366 H367 g368 hp370
          have g372 := Gr.trans g310 g368
          have ow373 := ow311.gr0 g368
          have ow374 := ow312.gr0 g368
          have ow375 := ow313.gr0 g368
          have ow376 := ow314.gr0 g368
          refine p_name ?_
          refine p_nx ?_
          refine p_seq ?_
          refine p_if ?_
          refine ⟨v369, rfl, _, rfl, (isN_eq hp370), _, rfl, (iteB (fun hc => ?_) (fun hc => ?_))⟩
          · have hm78 := ifT hc hm78
            refine p_ret ?_
            refine ⟨(V.int t79.1), rfl, (by show 2 ≤ sizeLine; decide), fun p377 np378 => ?_⟩
            have ne379 := ow373.ne np378
            have ne380 := ow374.ne np378
            have ne381 := ow375.ne np378
            have ne382 := ow376.ne np378
            have sm383 := same_new (o := (.tup [(V.str ("stray" : Str)), (V.int t79.1)])) (g372.noneF np378)
            have g384 := g372.frz (o := (.tup [(V.str ("stray" : Str)), (V.int t79.1)])) np378
            have ow385 := ow373.frz (o := (.tup [(V.str ("stray" : Str)), (V.int t79.1)])) np378
            have ow386 := ow374.frz (o := (.tup [(V.str ("stray" : Str)), (V.int t79.1)])) np378
            have ow387 := ow375.frz (o := (.tup [(V.str ("stray" : Str)), (V.int t79.1)])) np378
            have ow388 := ow376.frz (o := (.tup [(V.str ("stray" : Str)), (V.int t79.1)])) np378
            have r389 : R K (upd F366 p377 (.tup [(V.str ("stray" : Str)), (V.int t79.1)])) (.ref p377) ((("stray" : Str), t79.1) : (Str × Int)) := R.mk2 fzT (Rp.str ("stray" : Str) ⟨by decide +kernel, by decide +kernel⟩) (Rp.int t79.1)
            have r390 : R K (upd F366 p377 (.tup [(V.str ("stray" : Str)), (V.int t79.1)])) (V.ref p377) (((Sum.inl) (("stray" : Str), t79.1)) : ((Str × Int) ⊕ (T1 Str))) := r389
            have sm391 := ow386.sf
            have g392 := g384.fz ow386
            have ow393 : Ow H0 (upd (upd F366 p377 (.tup [(V.str ("stray" : Str)), (V.int t79.1)])) p42 (.lst ws_y_line67)) (upd H367 p377 (.tup [(V.str ("stray" : Str)), (V.int t79.1)])) p28 ws_y_been69 := ow385.fz ne44
            have ow394 : Ow H0 (upd (upd F366 p377 (.tup [(V.str ("stray" : Str)), (V.int t79.1)])) p42 (.lst ws_y_line67)) (upd H367 p377 (.tup [(V.str ("stray" : Str)), (V.int t79.1)])) D102 acc171 := ow387.fz (Ne.symm ne105)
            have ow395 : Ow H0 (upd (upd F366 p377 (.tup [(V.str ("stray" : Str)), (V.int t79.1)])) p42 (.lst ws_y_line67)) (upd H367 p377 (.tup [(V.str ("stray" : Str)), (V.int t79.1)])) p187 [] := ow388.fz (Ne.symm ne190)
            have r396 : R K (upd (upd F366 p377 (.tup [(V.str ("stray" : Str)), (V.int t79.1)])) p42 (.lst ws_y_line67)) (.ref p42) y_line66 := R.mkl fzS hl_y_line73 (RpA.up (hA_y_line74.up (Same.trans sm175 (Same.trans g250.ff (Same.trans g308.ff (Same.trans g368.ff sm383))))) sm391)
            refine ⟨(V.ref p42), rfl, (by show 2 ≤ sizeLine; decide), fun p397 np398 => ?_⟩
            have ne399 := ow393.ne np398
            have ne400 := ow394.ne np398
            have ne401 := ow395.ne np398
            have sm402 := same_new (o := (.tup [(V.ref p377), (V.ref p42)])) (g392.noneF np398)
            have g403 := g392.frz (o := (.tup [(V.ref p377), (V.ref p42)])) np398
            have ow404 := ow393.frz (o := (.tup [(V.ref p377), (V.ref p42)])) np398
            have ow405 := ow394.frz (o := (.tup [(V.ref p377), (V.ref p42)])) np398
            have ow406 := ow395.frz (o := (.tup [(V.ref p377), (V.ref p42)])) np398
            have r407 : R K (upd (upd (upd F366 p377 (.tup [(V.str ("stray" : Str)), (V.int t79.1)])) p42 (.lst ws_y_line67)) p397 (.tup [(V.ref p377), (V.ref p42)])) (.ref p397) (((((Sum.inl) (("stray" : Str), t79.1)) : ((Str × Int) ⊕ (T1 Str))), y_line66) : (((Str × Int) ⊕ (T1 Str)) × (List Int))) := R.mk2 fzT (r390.up (Same.trans sm391 sm402)) (r396.up sm402)
            obtain rfl := sjoin hm78
            have hm := bret hm
            obtain rfl := sjoin hm
            exact (hQ _ _ _ g403 r407)
          · have hm78 := ifF hc hm78
            refine p_next ?_
            refine p_nx ?_
            refine p_seq ?_
            refine p_if ?_
            obtain ⟨t408, hb409, hm78⟩ := bnd hm78
            have eq410 : v369 = V.int t408 := R.int_v (getO_ok (x := t408) hb409 hp370)
            refine ⟨v369, rfl, (V.ref p_y_torn_here), rfl, _, p_y_torn_here, _, eq410, rfl, (.inl (by rw [← RL.ints (hA_y_torn_here.up (Same.trans sm25 (Same.trans sm71 (Same.trans sm175 (Same.trans g250.ff (Same.trans g308.ff g368.ff))))))]; exact (g372.seq nm_y_torn_here hS_y_torn_here))), _, rfl, (iteB (fun hc => ?_) (fun hc => ?_))⟩
            · have hm78 := ifT hc hm78
              refine p_ret ?_
              obtain ⟨t411, hb412, hm78⟩ := bnd hm78
              have eq413 : v369 = V.int t411 := R.int_v (getO_ok (x := t411) hb412 hp370)
              refine ⟨v369, rfl, (by show 2 ≤ sizeLine; decide), fun p414 np415 => ?_⟩
              have ne416 := ow373.ne np415
              have ne417 := ow374.ne np415
              have ne418 := ow375.ne np415
              have ne419 := ow376.ne np415
              have sm420 := same_new (o := (.tup [(V.str ("lost" : Str)), v369])) (g372.noneF np415)
              have g421 := g372.frz (o := (.tup [(V.str ("lost" : Str)), v369])) np415
              have ow422 := ow373.frz (o := (.tup [(V.str ("lost" : Str)), v369])) np415
              have ow423 := ow374.frz (o := (.tup [(V.str ("lost" : Str)), v369])) np415
              have ow424 := ow375.frz (o := (.tup [(V.str ("lost" : Str)), v369])) np415
              have ow425 := ow376.frz (o := (.tup [(V.str ("lost" : Str)), v369])) np415
              have r426 : R K (upd F366 p414 (.tup [(V.str ("lost" : Str)), v369])) (.ref p414) ((("lost" : Str), t411) : (Str × Int)) := R.mk2 fzT (Rp.str ("lost" : Str) ⟨by decide +kernel, by decide +kernel⟩) (by rw [eq413]; exact Rp.int t411)
              have r427 : R K (upd F366 p414 (.tup [(V.str ("lost" : Str)), v369])) (V.ref p414) (((Sum.inl) (("lost" : Str), t411)) : ((Str × Int) ⊕ (T1 Str))) := r426
              have sm428 := ow423.sf
              have g429 := g421.fz ow423
              have ow430 : Ow H0 (upd (upd F366 p414 (.tup [(V.str ("lost" : Str)), v369])) p42 (.lst ws_y_line67)) (upd H367 p414 (.tup [(V.str ("lost" : Str)), v369])) p28 ws_y_been69 := ow422.fz ne44
              have ow431 : Ow H0 (upd (upd F366 p414 (.tup [(V.str ("lost" : Str)), v369])) p42 (.lst ws_y_line67)) (upd H367 p414 (.tup [(V.str ("lost" : Str)), v369])) D102 acc171 := ow424.fz (Ne.symm ne105)
              have ow432 : Ow H0 (upd (upd F366 p414 (.tup [(V.str ("lost" : Str)), v369])) p42 (.lst ws_y_line67)) (upd H367 p414 (.tup [(V.str ("lost" : Str)), v369])) p187 [] := ow425.fz (Ne.symm ne190)
              have r433 : R K (upd (upd F366 p414 (.tup [(V.str ("lost" : Str)), v369])) p42 (.lst ws_y_line67)) (.ref p42) y_line66 := R.mkl fzS hl_y_line73 (RpA.up (hA_y_line74.up (Same.trans sm175 (Same.trans g250.ff (Same.trans g308.ff (Same.trans g368.ff sm420))))) sm428)
              refine ⟨(V.ref p42), rfl, (by show 2 ≤ sizeLine; decide), fun p434 np435 => ?_⟩
              have ne436 := ow430.ne np435
              have ne437 := ow431.ne np435
              have ne438 := ow432.ne np435
              have sm439 := same_new (o := (.tup [(V.ref p414), (V.ref p42)])) (g429.noneF np435)
              have g440 := g429.frz (o := (.tup [(V.ref p414), (V.ref p42)])) np435
              have ow441 := ow430.frz (o := (.tup [(V.ref p414), (V.ref p42)])) np435
              have ow442 := ow431.frz (o := (.tup [(V.ref p414), (V.ref p42)])) np435
              have ow443 := ow432.frz (o := (.tup [(V.ref p414), (V.ref p42)])) np435
              have r444 : R K (upd (upd (upd F366 p414 (.tup [(V.str ("lost" : Str)), v369])) p42 (.lst ws_y_line67)) p434 (.tup [(V.ref p414), (V.ref p42)])) (.ref p434) (((((Sum.inl) (("lost" : Str), t411)) : ((Str × Int) ⊕ (T1 Str))), y_line66) : (((Str × Int) ⊕ (T1 Str)) × (List Int))) := R.mk2 fzT (r427.up (Same.trans sm428 sm439)) (r433.up sm439)
              obtain rfl := sjoin hm78
              have hm := bret hm
              obtain rfl := sjoin hm
              exact (hQ _ _ _ g440 r444)
            · have hm78 := ifF hc hm78
              refine p_next ?_
              refine p_nx ?_
              refine p_seq ?_
              refine p_drop ?_
              obtain ⟨t445, hb446, hm78⟩ := bnd hm78
              obtain ⟨hk447, rfl⟩ := appL_ok hb446
              refine ⟨(V.ref p42), rfl, (.inl ⟨rfl, _, ow374.sq⟩), (V.int (t231.c, t231.e).1), rfl, p42, ws_y_line67, (V.int (t231.c, t231.e).1), rfl, rfl, ow374.h, (by rw [RL.len (hA_y_line74.up (Same.trans sm175 (Same.trans g250.ff (Same.trans g308.ff g368.ff))))]; exact hk447), ?_⟩
              have hA448 : RL K F366 (ws_y_line67 ++ [(V.int (t231.c, t231.e).1)]) (y_line66 ++ [((t231.c, t231.e).1 : Int)]) := RL.snoc (hA_y_line74.up (Same.trans sm175 (Same.trans g250.ff (Same.trans g308.ff g368.ff)))) (Rp.int (t231.c, t231.e).1)
              have hl449 : (ws_y_line67 ++ [(V.int (t231.c, t231.e).1)]).length ≤ sizeLine := by rw [List.length_append, RL.len (hA_y_line74.up (Same.trans sm175 (Same.trans g250.ff (Same.trans g308.ff g368.ff))))]; exact hk447
              have g450 := g372.put (o := (.lst (ws_y_line67 ++ [(V.int (t231.c, t231.e).1)]))) ow374
              have ow451 := ow373.other (o := (.lst (ws_y_line67 ++ [(V.int (t231.c, t231.e).1)]))) ne44
              have ow452 := ow375.other (o := (.lst (ws_y_line67 ++ [(V.int (t231.c, t231.e).1)]))) (Ne.symm ne105)
              have ow453 := ow376.other (o := (.lst (ws_y_line67 ++ [(V.int (t231.c, t231.e).1)]))) (Ne.symm ne190)
              have ow454 := ow374.put (us := (ws_y_line67 ++ [(V.int (t231.c, t231.e).1)]))
              refine p_nx ?_
              refine p_seq ?_
              refine p_if ?_
              refine ⟨(V.int (t231.c, t231.e).1), rfl, (V.int (t231.c, t231.e).2), rfl, (by show 2 ≤ sizeLine; decide), fun p455 np456 => ?_⟩
              have ne457 := ow451.ne np456
              have ne458 := ow454.ne np456
              have ne459 := ow452.ne np456
              have ne460 := ow453.ne np456
              have sm461 := same_new (o := (.tup [(V.int (t231.c, t231.e).1), (V.int (t231.c, t231.e).2)])) (g450.noneF np456)
              have g462 := g450.frz (o := (.tup [(V.int (t231.c, t231.e).1), (V.int (t231.c, t231.e).2)])) np456
              have ow463 := ow451.frz (o := (.tup [(V.int (t231.c, t231.e).1), (V.int (t231.c, t231.e).2)])) np456
              have ow464 := ow454.frz (o := (.tup [(V.int (t231.c, t231.e).1), (V.int (t231.c, t231.e).2)])) np456
              have ow465 := ow452.frz (o := (.tup [(V.int (t231.c, t231.e).1), (V.int (t231.c, t231.e).2)])) np456
              have ow466 := ow453.frz (o := (.tup [(V.int (t231.c, t231.e).1), (V.int (t231.c, t231.e).2)])) np456
              have r467 : R K (upd F366 p455 (.tup [(V.int (t231.c, t231.e).1), (V.int (t231.c, t231.e).2)])) (.ref p455) (((t231.c, t231.e).1, (t231.c, t231.e).2) : (Int × Int)) := R.mk2 fzT (Rp.int (t231.c, t231.e).1) (Rp.int (t231.c, t231.e).2)
              have rH468 : R K (upd (upd H367 p42 (.lst (ws_y_line67 ++ [(V.int (t231.c, t231.e).1)]))) p455 (.tup [(V.int (t231.c, t231.e).1), (V.int (t231.c, t231.e).2)])) (V.ref p455) ((t231.c, t231.e).1, (t231.c, t231.e).2) := (Rp.up r467 g462.fh)
              have rH469 : R K (upd (upd H367 p42 (.lst (ws_y_line67 ++ [(V.int (t231.c, t231.e).1)]))) p455 (.tup [(V.int (t231.c, t231.e).1), (V.int (t231.c, t231.e).2)])) (V.ref p28) y_been68 := (R.mkl ow463.sq hl_y_been76 (RpA.up (hA_y_been77.up (Same.trans sm175 (Same.trans g250.ff (Same.trans g308.ff (Same.trans g368.ff sm461))))) g462.fh))
              refine ⟨(V.ref p28), rfl, _, _, (Rp.dp _ _ rH468), (Rp.dp _ _ rH469), (R.shaped rH468), (R.shaped rH469), _, rfl, (iteB (fun hc => ?_) (fun hc => ?_))⟩
              · have hm78 := ifT hc hm78
                refine p_ret ?_
                refine ⟨(by show 1 ≤ sizeLine; decide), fun p470 np471 => ?_⟩
                have ne472 := ow463.ne np471
                have ne473 := ow464.ne np471
                have ne474 := ow465.ne np471
                have ne475 := ow466.ne np471
                have sm476 := same_new (o := (.tup [(V.str ("ring" : Str))])) (g462.noneF np471)
                have g477 := g462.frz (o := (.tup [(V.str ("ring" : Str))])) np471
                have ow478 := ow463.frz (o := (.tup [(V.str ("ring" : Str))])) np471
                have ow479 := ow464.frz (o := (.tup [(V.str ("ring" : Str))])) np471
                have ow480 := ow465.frz (o := (.tup [(V.str ("ring" : Str))])) np471
                have ow481 := ow466.frz (o := (.tup [(V.str ("ring" : Str))])) np471
                have r482 : R K (upd (upd F366 p455 (.tup [(V.int (t231.c, t231.e).1), (V.int (t231.c, t231.e).2)])) p470 (.tup [(V.str ("ring" : Str))])) (.ref p470) ((T1.mk ("ring" : Str)) : (T1 Str)) := R.mk1 fzT (Rp.str ("ring" : Str) ⟨by decide +kernel, by decide +kernel⟩)
                have r483 : R K (upd (upd F366 p455 (.tup [(V.int (t231.c, t231.e).1), (V.int (t231.c, t231.e).2)])) p470 (.tup [(V.str ("ring" : Str))])) (V.ref p470) (((Sum.inr) (T1.mk ("ring" : Str))) : ((Str × Int) ⊕ (T1 Str))) := r482
                have sm484 := ow479.sf
                have g485 := g477.fz ow479
                have ow486 : Ow H0 (upd (upd (upd F366 p455 (.tup [(V.int (t231.c, t231.e).1), (V.int (t231.c, t231.e).2)])) p470 (.tup [(V.str ("ring" : Str))])) p42 (.lst (ws_y_line67 ++ [(V.int (t231.c, t231.e).1)]))) (upd (upd (upd H367 p42 (.lst (ws_y_line67 ++ [(V.int (t231.c, t231.e).1)]))) p455 (.tup [(V.int (t231.c, t231.e).1), (V.int (t231.c, t231.e).2)])) p470 (.tup [(V.str ("ring" : Str))])) p28 ws_y_been69 := ow478.fz ne44
                have ow487 : Ow H0 (upd (upd (upd F366 p455 (.tup [(V.int (t231.c, t231.e).1), (V.int (t231.c, t231.e).2)])) p470 (.tup [(V.str ("ring" : Str))])) p42 (.lst (ws_y_line67 ++ [(V.int (t231.c, t231.e).1)]))) (upd (upd (upd H367 p42 (.lst (ws_y_line67 ++ [(V.int (t231.c, t231.e).1)]))) p455 (.tup [(V.int (t231.c, t231.e).1), (V.int (t231.c, t231.e).2)])) p470 (.tup [(V.str ("ring" : Str))])) D102 acc171 := ow480.fz (Ne.symm ne105)
                have ow488 : Ow H0 (upd (upd (upd F366 p455 (.tup [(V.int (t231.c, t231.e).1), (V.int (t231.c, t231.e).2)])) p470 (.tup [(V.str ("ring" : Str))])) p42 (.lst (ws_y_line67 ++ [(V.int (t231.c, t231.e).1)]))) (upd (upd (upd H367 p42 (.lst (ws_y_line67 ++ [(V.int (t231.c, t231.e).1)]))) p455 (.tup [(V.int (t231.c, t231.e).1), (V.int (t231.c, t231.e).2)])) p470 (.tup [(V.str ("ring" : Str))])) p187 [] := ow481.fz (Ne.symm ne190)
                have r489 : R K (upd (upd (upd F366 p455 (.tup [(V.int (t231.c, t231.e).1), (V.int (t231.c, t231.e).2)])) p470 (.tup [(V.str ("ring" : Str))])) p42 (.lst (ws_y_line67 ++ [(V.int (t231.c, t231.e).1)]))) (.ref p42) (y_line66 ++ [(t231.c, t231.e).1]) := R.mkl fzS hl449 (RpA.up (hA448.up (Same.trans sm461 sm476)) sm484)
                refine ⟨(V.ref p42), rfl, (by show 2 ≤ sizeLine; decide), fun p490 np491 => ?_⟩
                have ne492 := ow486.ne np491
                have ne493 := ow487.ne np491
                have ne494 := ow488.ne np491
                have sm495 := same_new (o := (.tup [(V.ref p470), (V.ref p42)])) (g485.noneF np491)
                have g496 := g485.frz (o := (.tup [(V.ref p470), (V.ref p42)])) np491
                have ow497 := ow486.frz (o := (.tup [(V.ref p470), (V.ref p42)])) np491
                have ow498 := ow487.frz (o := (.tup [(V.ref p470), (V.ref p42)])) np491
                have ow499 := ow488.frz (o := (.tup [(V.ref p470), (V.ref p42)])) np491
                have r500 : R K (upd (upd (upd (upd F366 p455 (.tup [(V.int (t231.c, t231.e).1), (V.int (t231.c, t231.e).2)])) p470 (.tup [(V.str ("ring" : Str))])) p42 (.lst (ws_y_line67 ++ [(V.int (t231.c, t231.e).1)]))) p490 (.tup [(V.ref p470), (V.ref p42)])) (.ref p490) (((((Sum.inr) (T1.mk ("ring" : Str))) : ((Str × Int) ⊕ (T1 Str))), (y_line66 ++ [(t231.c, t231.e).1])) : (((Str × Int) ⊕ (T1 Str)) × (List Int))) := R.mk2 fzT (r483.up (Same.trans sm484 sm495)) (r489.up sm495)
                obtain rfl := sjoin hm78
                have hm := bret hm
                obtain rfl := sjoin hm
                exact (hQ _ _ _ g496 r500)
              · have hm78 := ifF hc hm78
                refine p_next ?_
                refine p_nx ?_
                refine p_drop ?_
                refine ⟨(V.ref p28), rfl, (.inl ⟨rfl, _, ow463.sq⟩), (V.int (t231.c, t231.e).1), rfl, (V.int (t231.c, t231.e).2), rfl, (by show 2 ≤ sizeLine; decide), fun p501 np502 => ?_⟩
                have ne503 := ow463.ne np502
                have ne504 := ow464.ne np502
                have ne505 := ow465.ne np502
                have ne506 := ow466.ne np502
                have sm507 := same_new (o := (.tup [(V.int (t231.c, t231.e).1), (V.int (t231.c, t231.e).2)])) (g462.noneF np502)
                have g508 := g462.frz (o := (.tup [(V.int (t231.c, t231.e).1), (V.int (t231.c, t231.e).2)])) np502
                have ow509 := ow463.frz (o := (.tup [(V.int (t231.c, t231.e).1), (V.int (t231.c, t231.e).2)])) np502
                have ow510 := ow464.frz (o := (.tup [(V.int (t231.c, t231.e).1), (V.int (t231.c, t231.e).2)])) np502
                have ow511 := ow465.frz (o := (.tup [(V.int (t231.c, t231.e).1), (V.int (t231.c, t231.e).2)])) np502
                have ow512 := ow466.frz (o := (.tup [(V.int (t231.c, t231.e).1), (V.int (t231.c, t231.e).2)])) np502
                have r513 : R K (upd (upd F366 p455 (.tup [(V.int (t231.c, t231.e).1), (V.int (t231.c, t231.e).2)])) p501 (.tup [(V.int (t231.c, t231.e).1), (V.int (t231.c, t231.e).2)])) (.ref p501) (((t231.c, t231.e).1, (t231.c, t231.e).2) : (Int × Int)) := R.mk2 fzT (Rp.int (t231.c, t231.e).1) (Rp.int (t231.c, t231.e).2)
                obtain ⟨t514, hb515, hm78⟩ := bnd hm78
                obtain ⟨hk516, rfl⟩ := appL_ok hb515
                refine ⟨p28, ws_y_been69, (V.ref p501), rfl, rfl, ow509.h, (by rw [RL.len (hA_y_been77.up (Same.trans sm175 (Same.trans g250.ff (Same.trans g308.ff (Same.trans g368.ff (Same.trans sm461 sm507))))))]; exact hk516), ?_⟩
                have hA517 : RL K (upd (upd F366 p455 (.tup [(V.int (t231.c, t231.e).1), (V.int (t231.c, t231.e).2)])) p501 (.tup [(V.int (t231.c, t231.e).1), (V.int (t231.c, t231.e).2)])) (ws_y_been69 ++ [(V.ref p501)]) (y_been68 ++ [(((t231.c, t231.e).1, (t231.c, t231.e).2) : (Int × Int))]) := RL.snoc (hA_y_been77.up (Same.trans sm175 (Same.trans g250.ff (Same.trans g308.ff (Same.trans g368.ff (Same.trans sm461 sm507)))))) r513
                have hl518 : (ws_y_been69 ++ [(V.ref p501)]).length ≤ sizeLine := by rw [List.length_append, RL.len (hA_y_been77.up (Same.trans sm175 (Same.trans g250.ff (Same.trans g308.ff (Same.trans g368.ff (Same.trans sm461 sm507))))))]; exact hk516
                have g519 := g508.put (o := (.lst (ws_y_been69 ++ [(V.ref p501)]))) ow509
                have ow520 := ow510.other (o := (.lst (ws_y_been69 ++ [(V.ref p501)]))) (Ne.symm ne44)
                have ow521 := ow511.other (o := (.lst (ws_y_been69 ++ [(V.ref p501)]))) (Ne.symm ne104)
                have ow522 := ow512.other (o := (.lst (ws_y_been69 ++ [(V.ref p501)]))) (Ne.symm ne189)
                have ow523 := ow509.put (us := (ws_y_been69 ++ [(V.ref p501)]))
                exact ⟨(upd (upd F366 p455 (.tup [(V.int (t231.c, t231.e).1), (V.int (t231.c, t231.e).2)])) p501 (.tup [(V.int (t231.c, t231.e).1), (V.int (t231.c, t231.e).2)])), (some (V.int t79.1)), (some (V.int t79.2)), (some (V.ref D102)), (some (V.int (t231.c, t231.e).1)), (some (V.int (t231.c, t231.e).2)), (some v369), (y_line66 ++ [(t231.c, t231.e).1]), (ws_y_line67 ++ [(V.int (t231.c, t231.e).1)]), (y_been68 ++ [((t231.c, t231.e).1, (t231.c, t231.e).2)]), (ws_y_been69 ++ [(V.ref p501)]), rfl, g519, (Same.trans sm71 (Same.trans sm175 (Same.trans g250.ff (Same.trans g308.ff (Same.trans g368.ff (Same.trans sm461 sm507)))))), ow520, hl449, (hA448.up (Same.trans sm461 sm507)), ow523, hl518, hA517, hm78⟩
    cases hc
end K42
namespace K42
open PySem PySem.Spec PyProof.Rows L2 TL G
theorem ok_l_done {P : Program} {w : World} {K : PySem.W.Frag} {mg : Str → Option Value} {base : Heap} (T : Txt K mg) : FnOk P w K mg base CX0 1 T.a_l_done T.d_l_done ["_law_by", "_law_so_far", "_law_house"] (sp_l_done K) := by
  refine fd_ok T.F_l_done sc_l_done (fun vs H Q E h => ?_) (fun cdv A outer s H0 vs Q E hr h => ?_)
  · obtain ⟨_, _, _, _, _, rfl, _⟩ := h
    rfl
  · obtain ⟨v_y_by, y_by, y_so_far, y_house, r, rfl, r_y_by, hm, hQ⟩ := h
    refine ⟨_, (pss_one (ps_ret (pe_op op_add (pv 1) (pe_callTy call_toI (by rfl) T.n_int (by decide +kernel) (pa_cons (pe_and (pe_cmpR op_lt (pv 1) (pe_callB (call_lenLK (K := K)) (by rfl) T.n_len (by decide +kernel) (pa_cons (pv 0) pa_nil)) (nomark _)) (pe_one (pe_cmpR op_eq (pe_ix (ix_tupK (K := K)) (pv 0) (pv 1) (fun _ _ => rfl)) (pv 2) (nomark _)))) pa_nil))))), ?_⟩
    have g0 : Gr M0 H0 H0 H0 H0 := Gr.refl (Same.refl _)
    unfold m_l_done at hm
    refine p_ret ?_
    refine ⟨(V.int y_so_far), rfl, ?_⟩
    obtain ⟨p1, ws2, ev3, hs7, hl5, hA6⟩ := R.vt_s r_y_by
    have hS4 : SqT K _ p1 ws2 := .inl (.inl hs7)
    refine ⟨(V.int y_so_far), rfl, v_y_by, rfl, p1, ws2, _, (by rw [ev3]), (.inr (SqT_mono g0.fh hS4)), (RL.len hA6), _, _, rfl, rfl, _, rfl, ?_⟩
    obtain ⟨c8, hc9, hm⟩ := bnd hm
    refine andJV (M := M0) (F := H0) (c := c8) (P := fun _ _ => True) (fun ha => ?_) (fun ha => ⟨(sjoin (ifF ha hc9)).symm, trivial⟩) g0.fh ?_
    · intro Q11 q12
      have hc9 := ifT ha hc9
      obtain ⟨t13, hb14, hc9⟩ := bnd hc9
      obtain ⟨v15, ha16, r17⟩ := RL.at hA6 hb14
      obtain rfl := R.int_v r17
      obtain rfl := sjoin hc9
      refine ⟨v_y_by, rfl, (V.int y_so_far), rfl, p1, ws2, _, (V.int t13), ev3, rfl, (SqT_mono g0.fh hS4), ha16, (V.int y_house), rfl, rfl, (q12 _ _ (Gr.refl (M := M0) g0.fh) trivial)⟩
    intro F18 H19 g20 hB21
    have g22 := Gr.trans g0 g20
    obtain rfl := sjoin hm
    refine ⟨_, rfl, _, _, rfl, rfl, (hQ _ _ g22)⟩
end K42
namespace K42
open PySem PySem.Spec PyProof.Rows L2 TL G
theorem ok_l_done_2 {P : Program} {w : World} {K : PySem.W.Frag} {mg : Str → Option Value} {base : Heap} (T : Txt K mg) : FnOk P w K mg base CX0 1 T.a_l_done_2 T.d_l_done_2 ["_law_by", "_law_so_far", "_law_house"] (sp_l_done_2 K) := by
  refine fd_ok T.F_l_done_2 sc_l_done_2 (fun vs H Q E h => ?_) (fun cdv A outer s H0 vs Q E hr h => ?_)
  · obtain ⟨_, _, _, _, _, _, rfl, _⟩ := h
    rfl
  · obtain ⟨p_y_by, ws_y_by, y_by, y_so_far, y_house, r, rfl, hS_y_by, hl_y_by, hA_y_by, nm_y_by, hm, hQ⟩ := h
    refine ⟨_, (pss_one (ps_ret (pe_op op_add (pv 1) (pe_callTy call_toI (by rfl) T.n_int (by decide +kernel) (pa_cons (pe_and (pe_cmpR op_lt (pv 1) (pe_callB (call_lenLK (K := K)) (by rfl) T.n_len (by decide +kernel) (pa_cons (pv 0) pa_nil)) (nomark _)) (pe_one (pe_cmpR op_eq (pe_ix (ix_listK (K := K)) (pv 0) (pv 1) (fun _ _ => rfl)) (pv 2) (nomark _)))) pa_nil))))), ?_⟩
    have g0 : Gr M0 H0 H0 H0 H0 := Gr.refl (Same.refl _)
    unfold m_l_done_2 at hm
    refine p_ret ?_
    refine ⟨(V.int y_so_far), rfl, ?_⟩
    refine ⟨(V.int y_so_far), rfl, (V.ref p_y_by), rfl, p_y_by, ws_y_by, _, rfl, (.inl (g0.seq nm_y_by hS_y_by)), (RL.len hA_y_by), _, _, rfl, rfl, _, rfl, ?_⟩
    obtain ⟨c1, hc2, hm⟩ := bnd hm
    refine andJV (M := M0) (F := H0) (c := c1) (P := fun _ _ => True) (fun ha => ?_) (fun ha => ⟨(sjoin (ifF ha hc2)).symm, trivial⟩) g0.fh ?_
    · intro Q4 q5
      have hc2 := ifT ha hc2
      obtain ⟨t6, hb7, hc2⟩ := bnd hc2
      obtain ⟨v8, ha9, r10⟩ := RL.at hA_y_by hb7
      obtain rfl := R.int_v r10
      obtain rfl := sjoin hc2
      refine ⟨(V.ref p_y_by), rfl, (V.int y_so_far), rfl, p_y_by, ws_y_by, _, (V.int t6), rfl, rfl, (g0.seq nm_y_by hS_y_by), ha9, (V.int y_house), rfl, rfl, (q5 _ _ (Gr.refl (M := M0) g0.fh) trivial)⟩
    intro F11 H12 g13 hB14
    have g15 := Gr.trans g0 g13
    obtain rfl := sjoin hm
    refine ⟨_, rfl, _, _, rfl, rfl, (hQ _ _ g15)⟩
end K42
namespace K42
open PySem PySem.Spec PyProof.Rows L2 TL G
theorem ok_l_walked {P : Program} {w : World} {K : PySem.W.Frag} {mg : Str → Option Value} {base : Heap} (T : Txt K mg) : FnOk P w K mg base CX0 3 T.a_l_walked T.d_l_walked ["_law_bag_here", "_law_web_here"] (sp_l_walked K) := by
  have G_l_draw : FnOk P w K mg base CX0 2 T.a_l_draw T.d_l_draw ["_law_bag_here", "_law_many"] (sp_l_draw K) := ok_l_draw T
  have b_l_draw := T.F_l_draw.bindsN (ps := ["_law_bag_here", "_law_many"]) fun _ _ _ _ _ _ us hl => match us, hl with | [_, _], _ => rfl
  have G_l_done_2 : FnOk P w K mg base CX0 1 T.a_l_done_2 T.d_l_done_2 ["_law_by", "_law_so_far", "_law_house"] (sp_l_done_2 K) := ok_l_done_2 T
  have b_l_done_2 := T.F_l_done_2.bindsN (ps := ["_law_by", "_law_so_far", "_law_house"]) fun _ _ _ _ _ _ us hl => match us, hl with | [_, _, _], _ => rfl
  refine fd_ok T.F_l_walked sc_l_walked (fun vs H Q E h => ?_) (fun cdv A outer s H0 vs Q E hr h => ?_)
  · obtain ⟨_, _, _, _, _, _, _, _, rfl, _⟩ := h
    rfl
  · obtain ⟨F0, B, C, b, v_y_web_here, y_web_here, r, b', rfl, hS0, hB, r_y_web_here, hm, hQ⟩ := h
    refine ⟨_, (pss_cons (ps_set (i := 2) sc_l_walked.nd rfl (.inr rfl) (pe_lst (pa_cons (pe_call G_l_draw (hr.mono (by decide)) (by rfl) T.g_l_draw T.F_l_draw.kp b_l_draw .nil pass0 (pa_cons (pv 0) (pa_cons (pe_ix (ix_tupK (K := K)) (pv 1) pe_int (fun _ _ => rfl)) pa_nil))) pa_nil))) (pss_cons (ps_for PassesOwn.never rfl (pi_range1 (by rfl) T.n_range (pa_cons (pe_call G_l_draw (hr.mono (by decide)) (by rfl) T.g_l_draw T.F_l_draw.kp b_l_draw .nil pass0 (pa_cons (pv 0) (pa_cons (pe_ix (ix_listK (K := K)) (pe_lst (pa_cons pe_int (pa_cons pe_int (pa_cons pe_int pa_nil)))) (pe_call G_l_draw (hr.mono (by decide)) (by rfl) T.g_l_draw T.F_l_draw.kp b_l_draw .nil pass0 (pa_cons (pv 0) (pa_cons pe_int pa_nil))) (fun _ _ => rfl)) pa_nil))) pa_nil)) (pg_name (i := 3) sc_l_walked.nd rfl (Or.inl rfl)) (pss_cons (ps_setLc (i := 4) (own := [("_law_a", 9), ("_law_b", 10)]) rfl sc_l_walked.nd rfl rfl (sw_true rfl rfl rfl (by decide +kernel)) (pi_listK (K := K) (pe_ix (ix_tupK (K := K)) (pv 1) pe_int (fun _ _ => rfl))) (blkOk_by (own := [("_law_a", 9), ("_law_b", 10)]) (N := N_l_walked) (sc := defScope s_l_walked) (by decide +kernel)) (fun _ _ _ _ _ => (pg_tupK (K := K) 2 rfl (pgs_cons (pg_name (i := 9) sc_l_walked.nd rfl (Or.inl rfl) (.inr rfl)) (pgs_cons (pg_name (i := 10) sc_l_walked.nd rfl (Or.inl rfl) (.inr rfl)) pgs_nil)))) (fun _ _ _ _ _ => (pts_one (pt_cmpR (op_inI (K := K)) (pe_ix (ix_listK (K := K)) (pv 2) (pe_un un_neg pe_int) (fun _ _ => rfl)) (pe_tup (pa_cons (pv 9) (pa_cons (pv 10) pa_nil))) rfl))) (fun _ _ _ _ _ => (pe_op op_sub (pe_op op_add (pv 9) (pv 10)) (pe_ix (ix_listK (K := K)) (pv 2) (pe_un un_neg pe_int) (fun _ _ => rfl))))) (pss_one (ps_expr (pe_bmK (K := K) PySem.F.plainAttrs_list PySem.F.slot_list_extend PySem.F.type_list_extend (mt_extLK (K := K)) (pv 2) (pa_cons (pe_ifExp (pt_cmpR (op_neDK (K := K) hr.units) (pv 4) (pe_lst pa_nil) (nomark _)) (pe_lst (pa_cons (pe_ix (ix_listK (K := K)) (pv 4) (pe_call G_l_draw (hr.mono (by decide)) (by rfl) T.g_l_draw T.F_l_draw.kp b_l_draw .nil pass0 (pa_cons (pv 0) (pa_cons (pe_callB (call_lenLK (K := K)) (by rfl) T.n_len (by decide +kernel) (pa_cons (pv 4) pa_nil)) pa_nil))) (fun _ _ => rfl)) pa_nil)) (pe_lst pa_nil)) pa_nil)))))) (pss_cons (ps_set (i := 5) sc_l_walked.nd rfl (.inl rfl) (pe_lst pa_nil)) (pss_cons (ps_for PassesOwn.never rfl (pi_listK (K := K) (pe_ssetK (K := K) rfl (by rfl) T.n_sorted (by rfl) T.n_set (pe_lc (own := [("_law_j", 11)]) rfl sc_l_walked.nd (pi_range1 (by rfl) T.n_range (pa_cons (pe_call G_l_draw (hr.mono (by decide)) (by rfl) T.g_l_draw T.F_l_draw.kp b_l_draw .nil pass0 (pa_cons (pv 0) (pa_cons pe_int pa_nil))) pa_nil)) (blkOk_by (own := [("_law_j", 11)]) (N := N_l_walked) (sc := defScope s_l_walked) (by decide +kernel)) (fun _ _ _ _ _ => (pg_name (i := 11) sc_l_walked.nd rfl (Or.inl rfl) (.inr rfl))) (fun _ _ _ _ _ => pts_nil) (fun _ _ _ _ _ => (pe_call G_l_draw (hr.mono (by decide)) (by rfl) T.g_l_draw T.F_l_draw.kp b_l_draw .nil pass0 (pa_cons (pv 0) (pa_cons (pe_callB (call_lenLK (K := K)) (by rfl) T.n_len (by decide +kernel) (pa_cons (pv 2) pa_nil)) pa_nil))))))) (pg_name (i := 3) sc_l_walked.nd rfl (Or.inl rfl)) (pss_one (ps_expr (pe_bmK (K := K) PySem.F.plainAttrs_list PySem.F.slot_list_extend PySem.F.type_list_extend mt_extend (pv 5) (pa_cons (pe_op op_rep (pe_lst (pa_cons (pe_ix (ix_listK (K := K)) (pv 2) (pv 3) (fun _ _ => rfl)) pa_nil)) (pe_callTy call_toI (by rfl) T.n_int (by decide +kernel) (pa_cons (pe_cmpR (op_neDK (K := K) hr.units) (pe_slice (sl_listK (K := K)) (pv 5) (po_some (pe_un un_neg pe_int)) po_none) (pe_lst (pa_cons (pe_ix (ix_listK (K := K)) (pv 2) (pv 3) (fun _ _ => rfl)) pa_nil)) (nomark _)) pa_nil))) pa_nil))))) (pss_cons (ps_set (i := 6) sc_l_walked.nd rfl (.inl rfl) (pe_lst pa_nil)) (pss_cons (ps_for PassesOwn.never rfl (pi_listK (K := K) (pv 2)) (pg_name (i := 7) sc_l_walked.nd rfl (Or.inl rfl)) (pss_cons (ps_set (i := 8) sc_l_walked.nd rfl (.inl rfl) (pe_tup (pa_cons (pe_call G_l_done_2 (hr.mono (by decide)) (by rfl) T.g_l_done_2 T.F_l_done_2.kp b_l_done_2 .nil pass0 (pa_cons (pv 5) (pa_cons (pe_ix (ix_tupK (K := K)) (pe_ix (ix_listK (K := K)) (pe_op (op_catLK (K := K)) (pv 6) (pe_lst (pa_cons (pe_tup (pa_cons pe_int (pa_cons pe_int pa_nil))) pa_nil))) (pe_callB (call_max2 rfl) (by rfl) T.n_max (by decide +kernel) (pa_cons pe_int (pa_cons (pe_op op_sub (pe_callB (call_lenLK (K := K)) (by rfl) T.n_len (by decide +kernel) (pa_cons (pv 6) pa_nil)) pe_int) pa_nil))) (fun _ _ => rfl)) pe_int (fun _ _ => rfl)) (pa_cons (pv 7) pa_nil)))) (pa_cons (pv 7) pa_nil)))) (pss_cons (ps_if (pt_cmpR (op_inDK (K := K) (units65 hr)) (pv 8) (pv 6) rfl) (pss_one ps_break) pss_nil) (pss_one (ps_expr (pe_bmK (K := K) PySem.F.plainAttrs_list PySem.F.slot_list_append PySem.F.type_list_append mt_append (pv 6) (pa_cons (pv 8) pa_nil))))))) (pss_one (ps_ret (pe_tup (pa_cons (pe_tupleOfK (K := K) (by rfl) T.n_tuple (pe_slice (sl_listK (K := K)) (pv 5) po_none (po_some (pe_ix (ix_tupK (K := K)) (pe_ix (ix_listK (K := K)) (pv 6) (pe_un un_neg pe_int) (fun _ _ => rfl)) pe_int (fun _ _ => rfl))))) (pa_cons (pe_slice (sl_listK (K := K)) (pv 2) po_none (po_some (pe_callB (call_lenLK (K := K)) (by rfl) T.n_len (by decide +kernel) (pa_cons (pv 6) pa_nil)))) pa_nil))))))))))), ?_⟩
    have g0 : Gr (Bc B C) F0 H0 F0 H0 := Gr.refl hS0
    unfold m_l_walked at hm
    refine p_seq ?_
    refine p_asg ?_
    obtain ⟨p1, v4, v5, v6, v7, ev2, hS3, r8, r9, r10, r11⟩ := R.p4_v r_y_web_here
    obtain rfl := R.int_v r8
    obtain rfl := R.int_v r9
    obtain ⟨r12, b13, hb14, hm⟩ := bnd2 hm
    refine ⟨(V.ref B), rfl, v_y_web_here, rfl, p1, _, _, (V.int y_web_here.b), ev2, rfl, (SqT_mono g0.fh hS3), rfl, F0, B, C, b, y_web_here.b, r12, b13, rfl, g0.fh, hB, hb14, fun F15 H16 g17 hB18 => ?_⟩
    have g20 := Gr.trans g0 g17
    refine ⟨(by show 1 ≤ sizeLine; decide), fun p21 np22 => ?_⟩
    have nb23 := hB18.nb np22
    have g24 := g20.own (o := (.lst [(V.int r12)])) np22
    have hB25 := hB18.own (o := (.lst [(V.int r12)])) np22
    have ow26 : Ow H0 F15 (upd H16 p21 (.lst [(V.int r12)])) p21 [(V.int r12)] := Ow.new g20 np22
    have hA27 : RL K F15 [(V.int r12)] ([r12] : List Int) := (RpA.cons (Rp.int r12) RpA.nil)
    obtain ⟨y_line28, hb29, hm⟩ := bnd hm
    have hx30 : ([r12] : List Int) = y_line28 := sjoin hb29
    have hA31 : RL K F15 [(V.int r12)] y_line28 := RL.re hx30 hA27
    refine p_name ?_
    refine p_nx ?_
    refine p_seq ?_
    refine p_for ?_
    refine ⟨(V.ref B), rfl, (by show 3 ≤ sizeLine; decide), fun p32 np33 => ?_⟩
    have ne34 := ow26.ne np33
    have nb35 := hB25.nb np33
    have g36 := g24.own (o := (.lst [(V.int (2 : Int)), (V.int (8 : Int)), (V.int (25 : Int))])) np33
    have ow37 := ow26.own (o := (.lst [(V.int (2 : Int)), (V.int (8 : Int)), (V.int (25 : Int))])) np33
    have hB38 := hB25.own (o := (.lst [(V.int (2 : Int)), (V.int (8 : Int)), (V.int (25 : Int))])) np33
    have ow39 : Ow H0 F15 (upd (upd H16 p21 (.lst [(V.int r12)])) p32 (.lst [(V.int (2 : Int)), (V.int (8 : Int)), (V.int (25 : Int))])) p32 [(V.int (2 : Int)), (V.int (8 : Int)), (V.int (25 : Int))] := Ow.new g24 np33
    have hA40 : RL K F15 [(V.int (2 : Int)), (V.int (8 : Int)), (V.int (25 : Int))] ([(2 : Int), (8 : Int), (25 : Int)] : List Int) := (RpA.cons (Rp.int (2 : Int)) (RpA.cons (Rp.int (8 : Int)) (RpA.cons (Rp.int (25 : Int)) RpA.nil)))
    obtain ⟨r41, b42, hb43, hm⟩ := bnd2 hm
    refine ⟨(V.ref B), rfl, F15, B, C, b13, (3 : Int), r41, b42, rfl, g36.fh, hB38, hb43, fun F44 H45 g46 hB47 => ?_⟩
    have g49 := Gr.trans g36 g46
    have ow50 := ow37.gr g46 nb23
    have ow51 := ow39.gr g46 nb35
    obtain ⟨t52, hb53, hm⟩ := bnd hm
    obtain ⟨v54, ha55, r56⟩ := RL.at (hA40.up g46.ff) hb53
    obtain rfl := R.int_v r56
    obtain ⟨r57, b58, hb59, hm⟩ := bnd2 hm
    refine ⟨p32, [(V.int (2 : Int)), (V.int (8 : Int)), (V.int (25 : Int))], _, (V.int t52), rfl, rfl, ow51.sq, ha55, F44, B, C, b42, t52, r57, b58, rfl, g49.fh, hB47, hb59, fun F60 H61 g62 hB63 => ?_⟩
    have g65 := Gr.trans g49 g62
    have ow66 := ow50.gr g62 nb23
    have ow67 := ow51.gr g62 nb35
    obtain ⟨l68, hb70, hm⟩ := bnd hm
    obtain ⟨hk69, rfl⟩ := rangeO1_ok hb70
    refine ⟨_, rfl, hk69.1.1, hk69.1.2, ?_⟩
    obtain ⟨y_line71, b72, ht73, hm⟩ := bnd2 hm
    refine for_range (lo := (0 : Int)) (n := (r57).toNat) (fun i σ' H' => ∃ (F' : Hp) (o_y_k : Option V) (o_y_near : Option V) (y_line : (List Int)) (ws_y_line : List V) (b : Bag), σ' = [(some (V.ref B)), (some v_y_web_here), (some (V.ref p21)), o_y_k, o_y_near, none, none, none, none, none, none, none] ∧ Gr (Bc B C) F0 H0 F' H' ∧ Same F60 F' ∧ Ow H0 F' H' p21 ws_y_line ∧ ws_y_line.length ≤ sizeLine ∧ RL K F' ws_y_line y_line ∧ BagAt F' H' B C b ∧ m_l_walked_l1 y_web_here ((rangeL (0 : Int) (r57).toNat).drop i) y_line b = some (y_line71, b72)) ?_ ?_ ?_
    · exact ⟨F60, none, none, y_line28, [(V.int r12)], b58, rfl, g65, (Same.refl _), ow66, (by show 1 ≤ sizeLine; decide), (hA31.up (Same.trans g46.ff g62.ff)), hB63, ht73⟩
    · intro i74 σ' H76 hx75 hP
      obtain ⟨F78, o_y_k79, o_y_near80, y_line81, ws_y_line82, b83, rfl, g84, sm85, ow_y_line86, hl_y_line87, hA_y_line88, hB89, hm90⟩ := hP
      have he92 := rangeL_at (lo := (0 : Int)) hx75
      rw [drop_at he92, m_l_walked_l1.eq_2] at hm90
      refine p_name ?_
      refine p_seq ?_
      refine p_asg ?_
      obtain ⟨p93, ws94, ev95, hS96, hl97, hA98⟩ := R.lst_v r10
      refine ⟨v_y_web_here, rfl, p1, _, _, v6, ev2, rfl, (SqT_mono g84.fh (SqT_mono (Same.trans g17.ff (Same.trans g46.ff (Same.trans g62.ff sm85))) hS3)), rfl, p93, ev95, ⟨_, (Same.seq g84.fh (Same.seq (Same.trans g17.ff (Same.trans g46.ff (Same.trans g62.ff sm85))) hS96))⟩, fun D99 nD100 => ?_⟩
      have ne101 := ow_y_line86.ne nD100
      have nb102 := hB89.nb nD100
      have g103 := g84.own (o := (.lst [])) nD100
      have ow104 := ow_y_line86.own (o := (.lst [])) nD100
      have hB105 := hB89.own (o := (.lst [])) nD100
      have ow106 : Ow H0 F78 (upd H76 D99 (.lst [])) D99 [] := Ow.new g84 nD100
      obtain ⟨l107, hb108, hm90⟩ := bnd hm90
      refine lc_list (K := K) (a := p93) (xs := ws94) (fun i H' => ∃ (F' : Hp) (acc : List V) (ds : List Int) (rest : List Int), Gr (Bc B C) F0 H0 F' H' ∧ Same F78 F' ∧ Ow H0 F' H' D99 acc ∧ RL K F' acc ds ∧ acc.length ≤ i ∧ Ow H0 F' H' p21 ws_y_line82 ∧ BagAt F' H' B C b83 ∧ m_l_walked_c2 y_line81 (y_web_here.c.drop i) = some rest ∧ ds ++ rest = l107) ?_ ?_ ?_ ?_
      · exact ⟨F78, [], [], l107, g103, Same.refl _, ow106, RpA.nil, Nat.le_refl _, ow104, hB105, hb108, rfl⟩
      · intro i H' _ hP
        obtain ⟨F109, acc110, ds111, rest112, g0113, sm114, owD115, hA116, hi117, ow0118, hB119, hm120, hr121⟩ := hP
        exact (Same.seq g0113.fh (Same.seq (Same.trans g17.ff (Same.trans g46.ff (Same.trans g62.ff (Same.trans sm85 sm114)))) hS96))
      · intro i123 xv122 H125 hx124 hP
        obtain ⟨F126, acc127, ds128, rest129, g0130, sm131, owD132, hA133, hi134, ow0135, hB136, hm137, hr138⟩ := hP
        obtain ⟨e139, he140, r141⟩ := RL.get (hA98.up (Same.trans g17.ff (Same.trans g46.ff (Same.trans g62.ff (Same.trans sm85 sm131))))) hx124
        rw [drop_at he140, m_l_walked_c2.eq_2] at hm137
        obtain ⟨p142, v145, v146, ev143, hS144, r147, r148⟩ := R.p2_v r141
        obtain rfl := R.int_v r147
        obtain rfl := R.int_v r148
        obtain ⟨t149, hb150, hm137⟩ := bnd hm137
        obtain ⟨v151, ha152, r153⟩ := RL.at (hA_y_line88.up sm131) hb150
        obtain rfl := R.int_v r153
        refine ⟨p142, [(V.int e139.1), (V.int e139.2)], ev143, (SqT_mono g0130.fh hS144), rfl, (V.int e139.1), [(V.int e139.2)], rfl, (V.int e139.2), [], rfl, rfl, rfl, (V.ref p21), rfl, _, rfl, p21, ws_y_line82, _, (V.int t149), rfl, rfl, ow0135.sq, ha152, (V.int e139.1), rfl, (V.int e139.2), rfl, (by show 2 ≤ sizeLine; decide), fun p154 np155 => ?_⟩
        have ne156 := ow0135.ne np155
        have ne157 := owD132.ne np155
        have nb158 := hB136.nb np155
        have sm159 := same_new (o := (.tup [(V.int e139.1), (V.int e139.2)])) (g0130.noneF np155)
        have g160 := g0130.frz (o := (.tup [(V.int e139.1), (V.int e139.2)])) np155
        have ow161 := ow0135.frz (o := (.tup [(V.int e139.1), (V.int e139.2)])) np155
        have ow162 := owD132.frz (o := (.tup [(V.int e139.1), (V.int e139.2)])) np155
        have hB163 := hB136.frz (o := (.tup [(V.int e139.1), (V.int e139.2)])) np155
        have r164 : R K (upd F126 p154 (.tup [(V.int e139.1), (V.int e139.2)])) (.ref p154) ((e139.1, e139.2) : (Int × Int)) := R.mk2 fzT (Rp.int e139.1) (Rp.int e139.2)
        obtain ⟨p165, v168, v169, ev166, hS167, r170, r171⟩ := R.p2_v r164
        obtain rfl := R.int_v r170
        obtain rfl := R.int_v r171
        have r172 : R K (upd F126 p154 (.tup [(V.int e139.1), (V.int e139.2)])) (V.ref p154) (VT.mk [(e139.1, e139.2).1, (e139.1, e139.2).2] : (VT Int)) := r164
        obtain ⟨p173, ws174, ev175, hs179, hl177, hA178⟩ := R.vt_s r172
        have hS176 : SqT K _ p173 ws174 := .inl (.inl hs179)
        refine ⟨_, p173, _, rfl, (by rw [ev175]), (.inr (by rw [← RL.ints hA178]; exact (SqT_mono g160.fh hS176))), _, rfl, (iteB (fun hc => ?_) (fun hc => ?_))⟩
        · have hc : (decide (t149 ∈ ((VT.mk [(e139.1, e139.2).1, (e139.1, e139.2).2] : (VT Int))).l)) = true := hc
          have hm137 := ifT hc hm137
          obtain ⟨t180, hb181, hm137⟩ := bnd hm137
          obtain ⟨v182, ha183, r184⟩ := RL.at (hA_y_line88.up (Same.trans sm131 sm159)) hb181
          obtain rfl := R.int_v r184
          have hA185 : RL K (upd F126 p154 (.tup [(V.int e139.1), (V.int e139.2)])) (acc127 ++ [(V.int ((e139.1 + e139.2) - t180))]) (ds128 ++ [(((e139.1 + e139.2) - t180) : Int)]) := RL.snoc (hA133.up sm159) (Rp.int ((e139.1 + e139.2) - t180))
          obtain ⟨rest186, h187, h188⟩ := bnd hm137
          obtain rfl := sjoin h188
          refine ⟨(V.int e139.1), rfl, (V.int e139.2), rfl, _, _, rfl, rfl, (V.ref p21), rfl, _, rfl, p21, ws_y_line82, _, (V.int t180), rfl, rfl, ow161.sq, ha183, _, _, rfl, rfl, acc127, ow162.h, (lt_line hi134 (List.getElem?_eq_some_iff.mp hx124).1 hl97), ?_⟩
          have g189 := g160.put (o := (.lst (acc127 ++ [(V.int ((e139.1 + e139.2) - t180))]))) ow162
          have ow190 := ow161.other (o := (.lst (acc127 ++ [(V.int ((e139.1 + e139.2) - t180))]))) ne101
          have hB191 := hB163.other (o := (.lst (acc127 ++ [(V.int ((e139.1 + e139.2) - t180))]))) nb102
          have ow192 := ow162.put (us := (acc127 ++ [(V.int ((e139.1 + e139.2) - t180))]))
          exact ⟨(upd F126 p154 (.tup [(V.int e139.1), (V.int e139.2)])), (acc127 ++ [(V.int ((e139.1 + e139.2) - t180))]), (ds128 ++ [((e139.1 + e139.2) - t180)]), rest186, g189, (Same.trans sm131 sm159), ow192, hA185, (by rw [List.length_append]; exact Nat.succ_le_succ hi134), ow190, hB191, h187, (snoc_rest hr138)⟩
        · have hc : (decide (t149 ∈ ((VT.mk [(e139.1, e139.2).1, (e139.1, e139.2).2] : (VT Int))).l)) = false := hc
          have hm137 := ifF hc hm137
          exact ⟨(upd F126 p154 (.tup [(V.int e139.1), (V.int e139.2)])), acc127, ds128, rest129, g160, (Same.trans sm131 sm159), ow162, (hA133.up sm159), (Nat.le_succ_of_le hi134), ow161, hB163, hm137, hr138⟩
      intro H193 hP
      obtain ⟨F194, acc195, ds196, _rest, g0198, sm199, owD200, hA201, hi202, ow0203, hB204, hm205, hr206⟩ := hP
      rw [drop_end (RL.len (hA98.up (Same.trans g17.ff (Same.trans g46.ff (Same.trans g62.ff sm85)))))] at hm205
      rw [m_l_walked_c2.eq_1] at hm205
      obtain rfl := sjoin hm205
      rw [List.append_nil] at hr206
      obtain rfl := hr206
      have hl207 : acc195.length ≤ sizeLine := Nat.le_trans hi202 hl97
      refine p_name ?_
      refine p_nx ?_
      refine p_drop ?_
      refine ⟨(V.ref p21), rfl, (.inl ⟨rfl, _, ow0203.sq⟩), ?_⟩
      refine ⟨(V.ref D99), rfl, (by show 0 ≤ sizeLine; decide), fun p208 np209 => ?_⟩
      have ne210 := ow0203.ne np209
      have ne211 := owD200.ne np209
      have nb212 := hB204.nb np209
      have g213 := g0198.own (o := (.lst [])) np209
      have ow214 := ow0203.own (o := (.lst [])) np209
      have ow215 := owD200.own (o := (.lst [])) np209
      have hB216 := hB204.own (o := (.lst [])) np209
      have ow217 : Ow H0 F194 (upd H193 p208 (.lst [])) p208 [] := Ow.new g0198 np209
      have rH219 : R K (upd H193 p208 (.lst [])) (V.ref D99) ds196 := (R.mkl ow215.sq hl207 (RpA.up hA201 g213.fh))
      have rH220 : R K (upd H193 p208 (.lst [])) (V.ref p208) ([] : (List Int)) := (R.mkl ow217.sq (by show 0 ≤ sizeLine; decide) (RpA.up RpA.nil g213.fh))
      refine ⟨_, _, (Rp.dp _ _ rH219), (Rp.dp _ _ rH220), (R.shaped rH219), (R.shaped rH220), _, rfl, ?_⟩
      obtain ⟨c221, b222, hc223, hm90⟩ := bnd2 hm90
      refine ifJ (M := (Bc B C)) (F := F194) (P := fun v' F' H' => R K F' v' (c221 : (List Int)) ∧ BagAt F' H' B C b222) (fun ha => ?_) (fun ha => ?_) ?_
      · intro Q224 q225
        have ha : (!eqD ds196 ([] : (List Int))) = true := ha
        have hc223 := ifT ha hc223
        obtain ⟨r226, b227, hb228, hc223⟩ := bnd2 hc223
        refine ⟨(V.ref D99), rfl, (V.ref B), rfl, (V.ref D99), rfl, D99, acc195, _, rfl, (.inl ow215.sq), (RL.len hA201), F194, B, C, b83, (((ds196).length : Nat) : Int), r226, b227, rfl, g213.fh, hB216, hb228, fun F229 H230 g231 hB232 => ?_⟩
        have g234 := Gr.trans g213 g231
        have g235 := Gr.trans (Gr.refl (M := (Bc B C)) g213.fh) g231
        have ow236 := ow214.gr g231 nb23
        have ow237 := ow215.gr g231 nb102
        have ow238 := ow217.gr g231 nb212
        obtain ⟨t239, hb240, hc223⟩ := bnd hc223
        obtain ⟨v241, ha242, r243⟩ := RL.at (hA201.up g231.ff) hb240
        obtain rfl := R.int_v r243
        refine ⟨D99, acc195, _, (V.int t239), rfl, rfl, ow237.sq, ha242, (by show 1 ≤ sizeLine; decide), fun p244 np245 => ?_⟩
        have ne246 := ow236.ne np245
        have ne247 := ow237.ne np245
        have ne248 := ow238.ne np245
        have nb249 := hB232.nb np245
        have g250 := g234.own (o := (.lst [(V.int t239)])) np245
        have g251 := g235.own (o := (.lst [(V.int t239)])) np245
        have ow252 := ow236.own (o := (.lst [(V.int t239)])) np245
        have ow253 := ow237.own (o := (.lst [(V.int t239)])) np245
        have ow254 := ow238.own (o := (.lst [(V.int t239)])) np245
        have hB255 := hB232.own (o := (.lst [(V.int t239)])) np245
        have ow256 : Ow H0 F229 (upd H230 p244 (.lst [(V.int t239)])) p244 [(V.int t239)] := Ow.new g234 np245
        have hA257 : RL K F229 [(V.int t239)] ([t239] : List Int) := (RpA.cons (Rp.int t239) RpA.nil)
        have sm258 := ow256.sf
        have g259 := g250.fz ow256
        have g260 := Gr.freeze g251 ow256.h (Gr.none0 g235 np245)
        have ow261 : Ow H0 (upd F229 p244 (.lst [(V.int t239)])) (upd H230 p244 (.lst [(V.int t239)])) p21 ws_y_line82 := ow252.fz ne246
        have ow262 : Ow H0 (upd F229 p244 (.lst [(V.int t239)])) (upd H230 p244 (.lst [(V.int t239)])) D99 acc195 := ow253.fz ne247
        have ow263 : Ow H0 (upd F229 p244 (.lst [(V.int t239)])) (upd H230 p244 (.lst [(V.int t239)])) p208 [] := ow254.fz ne248
        have hB264 : BagAt (upd F229 p244 (.lst [(V.int t239)])) (upd H230 p244 (.lst [(V.int t239)])) B C b227 := hB255.fz nb249
        have r265 : R K (upd F229 p244 (.lst [(V.int t239)])) (.ref p244) ([t239] : List Int) := R.mkl fzS (by show 1 ≤ sizeLine; decide) (RpA.up hA257 sm258)
        obtain ⟨rfl, rfl⟩ := pjoin hc223
        exact (q225 _ _ _ g260 ⟨r265, hB264⟩)
      · intro Q266 q267
        have ha : (!eqD ds196 ([] : (List Int))) = false := ha
        have hc223 := ifF ha hc223
        refine ⟨(by show 0 ≤ sizeLine; decide), fun p268 np269 => ?_⟩
        have ne270 := ow214.ne np269
        have ne271 := ow215.ne np269
        have ne272 := ow217.ne np269
        have nb273 := hB216.nb np269
        have g274 := g213.own (o := (.lst [])) np269
        have g275 := (Gr.refl (M := (Bc B C)) g213.fh).own (o := (.lst [])) np269
        have ow276 := ow214.own (o := (.lst [])) np269
        have ow277 := ow215.own (o := (.lst [])) np269
        have ow278 := ow217.own (o := (.lst [])) np269
        have hB279 := hB216.own (o := (.lst [])) np269
        have ow280 : Ow H0 F194 (upd (upd H193 p208 (.lst [])) p268 (.lst [])) p268 [] := Ow.new g213 np269
        have sm282 := ow280.sf
        have g283 := g274.fz ow280
        have g284 := Gr.freeze g275 ow280.h (Gr.none0 (Gr.refl (M := (Bc B C)) g213.fh) np269)
        have ow285 : Ow H0 (upd F194 p268 (.lst [])) (upd (upd H193 p208 (.lst [])) p268 (.lst [])) p21 ws_y_line82 := ow276.fz ne270
        have ow286 : Ow H0 (upd F194 p268 (.lst [])) (upd (upd H193 p208 (.lst [])) p268 (.lst [])) D99 acc195 := ow277.fz ne271
        have ow287 : Ow H0 (upd F194 p268 (.lst [])) (upd (upd H193 p208 (.lst [])) p268 (.lst [])) p208 [] := ow278.fz ne272
        have hB288 : BagAt (upd F194 p268 (.lst [])) (upd (upd H193 p208 (.lst [])) p268 (.lst [])) B C b83 := hB279.fz nb273
        have r289 : R K (upd F194 p268 (.lst [])) (.ref p268) ([] : (List Int)) := R.mkl fzS (by show 0 ≤ sizeLine; decide) (RpA.up RpA.nil sm282)
        obtain ⟨rfl, rfl⟩ := pjoin hc223
        exact (q267 _ _ _ g284 ⟨r289, hB288⟩)
      intro v293 F290 H291 g292 hp294
      obtain ⟨hp294, hB295⟩ := hp294
      have g296 := Gr.trans g213 g292
      have ow297 := ow214.gr g292 nb23
      have ow298 := ow215.gr g292 nb102
      have ow299 := ow217.gr g292 nb212
      obtain ⟨p300, ws301, ev302, hS303, hl304, hA305⟩ := R.lst_v hp294
      obtain ⟨t306, hb307, hm90⟩ := bnd hm90
      obtain ⟨hk308, rfl⟩ := conL_ok hb307
      refine ⟨p21, p300, ws_y_line82, ws301, rfl, (by rw [ev302]), ow297.h, (Same.seq g296.fh hS303), (by rw [RL.len (hA_y_line88.up (Same.trans sm199 g292.ff)), RL.len hA305]; exact hk308), ?_⟩
      have hA309 := RL.app (hA_y_line88.up (Same.trans sm199 g292.ff)) hA305
      have hl310 : (ws_y_line82 ++ ws301).length ≤ sizeLine := by rw [List.length_append, RL.len (hA_y_line88.up (Same.trans sm199 g292.ff)), RL.len hA305]; exact hk308
      have g311 := g296.put (o := (.lst (ws_y_line82 ++ ws301))) ow297
      have ow312 := ow298.other (o := (.lst (ws_y_line82 ++ ws301))) (Ne.symm ne101)
      have ow313 := ow299.other (o := (.lst (ws_y_line82 ++ ws301))) (Ne.symm ne210)
      have hB314 := hB295.other (o := (.lst (ws_y_line82 ++ ws301))) nb23
      have ow315 := ow297.put (us := (ws_y_line82 ++ ws301))
      exact ⟨F290, (some (V.int ((0 : Int) + ((i74 : Nat) : Int)))), (some (V.ref D99)), (y_line81 ++ c221), (ws_y_line82 ++ ws301), b222, rfl, g311, (Same.trans sm85 (Same.trans sm199 g292.ff)), ow315, hl310, hA309, hB314, hm90⟩
    intro σ316 H317 hP
    obtain ⟨F318, o_y_k319, o_y_near320, y_line321, ws_y_line322, b323, rfl, g324, sm325, ow_y_line326, hl_y_line327, hA_y_line328, hB329, hm330⟩ := hP
    rw [drop_end (rangeL_len _ _).symm, m_l_walked_l1.eq_1] at hm330
    obtain ⟨rfl, rfl⟩ := pjoin hm330
    refine p_nx ?_
    refine p_seq ?_
    refine p_asg ?_
    refine ⟨(by show 0 ≤ sizeLine; decide), fun p331 np332 => ?_⟩
    have ne333 := ow_y_line326.ne np332
    have nb334 := hB329.nb np332
    have g335 := g324.own (o := (.lst [])) np332
    have ow336 := ow_y_line326.own (o := (.lst [])) np332
    have hB337 := hB329.own (o := (.lst [])) np332
    have ow338 : Ow H0 F318 (upd H317 p331 (.lst [])) p331 [] := Ow.new g324 np332
    have hA339 : RL K F318 [] ([] : List Int) := RpA.nil
    refine p_name ?_
    refine p_nx ?_
    refine p_seq ?_
    refine p_for ?_
    obtain ⟨r340, b341, hb342, hm⟩ := bnd2 hm
    refine ⟨(V.ref B), rfl, F318, B, C, b323, (4 : Int), r340, b341, rfl, g335.fh, hB337, hb342, fun F343 H344 g345 hB346 => ?_⟩
    have g348 := Gr.trans g335 g345
    have ow349 := ow336.gr g345 nb23
    have ow350 := ow338.gr g345 nb334
    obtain ⟨l351, hb353, hm⟩ := bnd hm
    obtain ⟨hk352, rfl⟩ := rangeO1_ok hb353
    refine ⟨_, rfl, hk352.1.1, hk352.1.2, fun D354 nD355 => ?_⟩
    have ne356 := ow349.ne nD355
    have ne357 := ow350.ne nD355
    have nb358 := hB346.nb nD355
    have g359 := g348.own (o := (.lst [])) nD355
    have ow360 := ow349.own (o := (.lst [])) nD355
    have ow361 := ow350.own (o := (.lst [])) nD355
    have hB362 := hB346.own (o := (.lst [])) nD355
    have ow363 : Ow H0 F343 (upd H344 D354 (.lst [])) D354 [] := Ow.new g348 nD355
    obtain ⟨l364, b365, hb366, hm⟩ := bnd2 hm
    refine lc_range (lo := (0 : Int)) (n := (r340).toNat) (fun i H' => ∃ (F' : Hp) (acc : List V) (ds : List Int) (rest : List Int) (b : Bag), Gr (Bc B C) F0 H0 F' H' ∧ Same F343 F' ∧ Ow H0 F' H' D354 acc ∧ RL K F' acc ds ∧ acc.length ≤ i ∧ Ow H0 F' H' p21 ws_y_line322 ∧ Ow H0 F' H' p331 [] ∧ BagAt F' H' B C b ∧ m_l_walked_c4 y_line321 ((rangeL (0 : Int) (r340).toNat).drop i) b = some (rest, b365) ∧ ds ++ rest = l364) ?_ ?_ ?_
    · exact ⟨F343, [], [], l364, b341, g359, Same.refl _, ow363, RpA.nil, Nat.le_refl _, ow360, ow361, hB362, hb366, rfl⟩
    · intro i368 H370 hx369 hP
      obtain ⟨F371, acc372, ds373, rest374, b375, g0376, sm377, owD378, hA379, hi380, ow0381, ow1382, hB383, hm384, hr385⟩ := hP
      have he387 := rangeL_at (lo := (0 : Int)) hx369
      rw [drop_at he387, m_l_walked_c4.eq_2] at hm384
      refine ⟨rfl, (p_yes ?_)⟩
      obtain ⟨r388, b389, hb390, hm384⟩ := bnd2 hm384
      refine ⟨(V.ref B), rfl, (V.ref p21), rfl, p21, ws_y_line322, _, rfl, (.inl ow0381.sq), (RL.len (hA_y_line328.up (Same.trans g345.ff sm377))), F371, B, C, b375, (((y_line321).length : Nat) : Int), r388, b389, rfl, g0376.fh, hB383, hb390, fun F391 H392 g393 hB394 => ?_⟩
      have g396 := Gr.trans g0376 g393
      have ow397 := ow0381.gr g393 nb23
      have ow398 := ow1382.gr g393 nb334
      have ow399 := owD378.gr g393 nb358
      have hA400 : RL K F391 (acc372 ++ [(V.int r388)]) (ds373 ++ [(r388 : Int)]) := RL.snoc (hA379.up g393.ff) (Rp.int r388)
      obtain ⟨rest401, b402, h403, h404⟩ := bnd2 hm384
      obtain ⟨rfl, rfl⟩ := pjoin h404
      refine ⟨acc372, ow399.h, (lt_line hi380 hx369 hk352.2), ?_⟩
      have g405 := g396.put (o := (.lst (acc372 ++ [(V.int r388)]))) ow399
      have ow406 := ow397.other (o := (.lst (acc372 ++ [(V.int r388)]))) ne356
      have ow407 := ow398.other (o := (.lst (acc372 ++ [(V.int r388)]))) ne357
      have hB408 := hB394.other (o := (.lst (acc372 ++ [(V.int r388)]))) nb358
      have ow409 := ow399.put (us := (acc372 ++ [(V.int r388)]))
      exact ⟨F391, (acc372 ++ [(V.int r388)]), (ds373 ++ [r388]), rest401, b389, g405, (Same.trans sm377 g393.ff), ow409, hA400, (by rw [List.length_append]; exact Nat.succ_le_succ hi380), ow406, ow407, hB408, h403, (snoc_rest hr385)⟩
    intro H410 hP
    obtain ⟨F411, acc412, ds413, _rest, b414, g0415, sm416, owD417, hA418, hi419, ow0420, ow1421, hB422, hm423, hr424⟩ := hP
    rw [drop_end (rangeL_len _ _).symm] at hm423
    rw [m_l_walked_c4.eq_1] at hm423
    obtain ⟨rfl, rfl⟩ := pjoin hm423
    rw [List.append_nil] at hr424
    obtain rfl := hr424
    have hl425 : acc412.length ≤ sizeLine := Nat.le_trans hi419 hk352.2
    obtain ⟨t426, hb427, hm⟩ := bnd hm
    obtain ⟨hk428, hss_⟩ := ssetO_ok hb427
    subst hss_
    refine ⟨D354, ds413, rfl, (by rw [← RL.ints hA418]; exact owD417.sq), hk428, fun ns429 p433 so430 mm431 ln432 np434 => ?_⟩
    obtain rfl := ssort_uniq so430 mm431
    have hl435 : ((ssort ds413).map V.int).length ≤ sizeLine := by rw [List.length_map, sizeLine_eq]; omega
    have hA436 : RL K F411 ((ssort ds413).map V.int) (ssort ds413) := RL.ofInts _
    have ne437 := ow0420.ne np434
    have ne438 := ow1421.ne np434
    have ne439 := owD417.ne np434
    have nb440 := hB422.nb np434
    have g441 := g0415.own (o := (.lst ((ssort ds413).map V.int))) np434
    have ow442 := ow0420.own (o := (.lst ((ssort ds413).map V.int))) np434
    have ow443 := ow1421.own (o := (.lst ((ssort ds413).map V.int))) np434
    have ow444 := owD417.own (o := (.lst ((ssort ds413).map V.int))) np434
    have hB445 := hB422.own (o := (.lst ((ssort ds413).map V.int))) np434
    have ow446 : Ow H0 F411 (upd H410 p433 (.lst ((ssort ds413).map V.int))) p433 ((ssort ds413).map V.int) := Ow.new g0415 np434
    refine ⟨p433, rfl, ⟨_, ow446.sq⟩, ?_⟩
    obtain ⟨y_by447, ht448, hm⟩ := bnd hm
    refine for_list (K := K) (a := p433) (xs := ((ssort ds413).map V.int)) (fun i σ' H' => ∃ (F' : Hp) (o_y_k : Option V) (y_by : (List Int)) (ws_y_by : List V), σ' = [(some (V.ref B)), (some v_y_web_here), (some (V.ref p21)), o_y_k, o_y_near320, (some (V.ref p331)), none, none, none, none, none, none] ∧ Gr (Bc B C) F0 H0 F' H' ∧ Same F411 F' ∧ Ow H0 F' H' p331 ws_y_by ∧ ws_y_by.length ≤ sizeLine ∧ RL K F' ws_y_by y_by ∧ Ow H0 F' H' p21 ws_y_line322 ∧ Ow H0 F' H' p433 ((ssort ds413).map V.int) ∧ BagAt F' H' B C b414 ∧ m_l_walked_l3 y_line321 ((ssort ds413).drop i) y_by = some y_by447) ?_ ?_ ?_ ?_
    · exact ⟨F411, o_y_k319, ([] : List Int), [], rfl, g441, (Same.refl _), ow443, (by show 0 ≤ sizeLine; decide), (hA339.up (Same.trans g345.ff sm416)), ow442, ow446, hB445, ht448⟩
    · intro i σ' H' _ hP
      obtain ⟨F', o_y_k, y_by, ws_y_by, rfl, g_, sm_, ow_y_by, hl_y_by, hA_y_by, owk0_, owk1_, hB_, hm_⟩ := hP
      exact owk1_.sq
    · intro i449 xv452 σ' H451 hx450 hP
      obtain ⟨F453, o_y_k454, y_by455, ws_y_by456, rfl, g457, sm458, ow_y_by459, hl_y_by460, hA_y_by461, owk0462, owk1463, hB464, hm465⟩ := hP
      obtain ⟨e466, he467, r468⟩ := RL.get (hA436.up sm458) hx450
      obtain rfl := R.int_v r468
      rw [drop_at he467, m_l_walked_l3.eq_2] at hm465
      refine p_name ?_
      refine p_drop ?_
      obtain ⟨t469, hb470, hm465⟩ := bnd hm465
      obtain ⟨v471, ha472, r473⟩ := RL.at (hA_y_line328.up (Same.trans g345.ff (Same.trans sm416 sm458))) hb470
      obtain rfl := R.int_v r473
      refine ⟨(V.ref p331), rfl, (.inl ⟨rfl, _, ow_y_by459.sq⟩), (V.ref p21), rfl, (V.int e466), rfl, p21, ws_y_line322, _, (V.int t469), rfl, rfl, owk0462.sq, ha472, (by show 1 ≤ sizeLine; decide), fun p474 np475 => ?_⟩
      have ne476 := owk0462.ne np475
      have ne477 := ow_y_by459.ne np475
      have ne478 := owk1463.ne np475
      have nb479 := hB464.nb np475
      have g480 := g457.own (o := (.lst [(V.int t469)])) np475
      have ow481 := owk0462.own (o := (.lst [(V.int t469)])) np475
      have ow482 := ow_y_by459.own (o := (.lst [(V.int t469)])) np475
      have ow483 := owk1463.own (o := (.lst [(V.int t469)])) np475
      have hB484 := hB464.own (o := (.lst [(V.int t469)])) np475
      have ow485 : Ow H0 F453 (upd H451 p474 (.lst [(V.int t469)])) p474 [(V.int t469)] := Ow.new g457 np475
      have hA486 : RL K F453 [(V.int t469)] ([t469] : List Int) := (RpA.cons (Rp.int t469) RpA.nil)
      refine ⟨(V.ref p331), rfl, _, rfl, _, rfl, p331, ws_y_by456, rfl, ow482.sq, fun p487 np488 => ?_⟩
      have hA489 : RL K F453 (cutV ws_y_by456 (some (-(1 : Int))) none) (cutL y_by455 (some (-(1 : Int))) none) := RL.cut (some (-(1 : Int))) none hA_y_by461
      have ne490 := ow481.ne np488
      have ne491 := ow482.ne np488
      have ne492 := ow483.ne np488
      have ne493 := ow485.ne np488
      have nb494 := hB484.nb np488
      have g495 := g480.own (o := (.lst (cutV ws_y_by456 (some (-(1 : Int))) none))) np488
      have ow496 := ow481.own (o := (.lst (cutV ws_y_by456 (some (-(1 : Int))) none))) np488
      have ow497 := ow482.own (o := (.lst (cutV ws_y_by456 (some (-(1 : Int))) none))) np488
      have ow498 := ow483.own (o := (.lst (cutV ws_y_by456 (some (-(1 : Int))) none))) np488
      have ow499 := ow485.own (o := (.lst (cutV ws_y_by456 (some (-(1 : Int))) none))) np488
      have hB500 := hB484.own (o := (.lst (cutV ws_y_by456 (some (-(1 : Int))) none))) np488
      have ow501 : Ow H0 F453 (upd (upd H451 p474 (.lst [(V.int t469)])) p487 (.lst (cutV ws_y_by456 (some (-(1 : Int))) none))) p487 (cutV ws_y_by456 (some (-(1 : Int))) none) := Ow.new g480 np488
      obtain ⟨t502, hb503, hm465⟩ := bnd hm465
      obtain ⟨v504, ha505, r506⟩ := RL.at (hA_y_line328.up (Same.trans g345.ff (Same.trans sm416 sm458))) hb503
      obtain rfl := R.int_v r506
      refine ⟨(V.ref p21), rfl, (V.int e466), rfl, p21, ws_y_line322, _, (V.int t502), rfl, rfl, ow496.sq, ha505, (by show 1 ≤ sizeLine; decide), fun p507 np508 => ?_⟩
      have ne509 := ow496.ne np508
      have ne510 := ow497.ne np508
      have ne511 := ow498.ne np508
      have ne512 := ow499.ne np508
      have ne513 := ow501.ne np508
      have nb514 := hB500.nb np508
      have g515 := g495.own (o := (.lst [(V.int t502)])) np508
      have ow516 := ow496.own (o := (.lst [(V.int t502)])) np508
      have ow517 := ow497.own (o := (.lst [(V.int t502)])) np508
      have ow518 := ow498.own (o := (.lst [(V.int t502)])) np508
      have ow519 := ow499.own (o := (.lst [(V.int t502)])) np508
      have ow520 := ow501.own (o := (.lst [(V.int t502)])) np508
      have hB521 := hB500.own (o := (.lst [(V.int t502)])) np508
      have ow522 : Ow H0 F453 (upd (upd (upd H451 p474 (.lst [(V.int t469)])) p487 (.lst (cutV ws_y_by456 (some (-(1 : Int))) none))) p507 (.lst [(V.int t502)])) p507 [(V.int t502)] := Ow.new g495 np508
      have hA523 : RL K F453 [(V.int t502)] ([t502] : List Int) := (RpA.cons (Rp.int t502) RpA.nil)
      have rH524 : R K (upd (upd (upd H451 p474 (.lst [(V.int t469)])) p487 (.lst (cutV ws_y_by456 (some (-(1 : Int))) none))) p507 (.lst [(V.int t502)])) (V.ref p487) (cutL y_by455 (some (-(1 : Int))) none) := (R.mkl ow520.sq (Nat.le_trans (cutV_length _ _ _) hl_y_by460) (RpA.up hA489 g515.fh))
      have rH525 : R K (upd (upd (upd H451 p474 (.lst [(V.int t469)])) p487 (.lst (cutV ws_y_by456 (some (-(1 : Int))) none))) p507 (.lst [(V.int t502)])) (V.ref p507) ([t502] : List Int) := (R.mkl ow522.sq (by show 1 ≤ sizeLine; decide) (RpA.up hA523 g515.fh))
      obtain ⟨t526, hb527, hm465⟩ := bnd hm465
      obtain ⟨hk528, rfl⟩ := repL_ok hb527
      have hz531 : [(V.int t469)].length * ((toI (!eqD (cutL y_by455 (some (-(1 : Int))) none) ([t502] : List Int)))).toNat ≤ sizeLine := by rw [RL.len hA486]; exact hk528.2.2
      refine ⟨_, _, (Rp.dp _ _ rH524), (Rp.dp _ _ rH525), (R.shaped rH524), (R.shaped rH525), _, rfl, p474, _, [(V.int t469)], rfl, rfl, ow519.h, hk528.1, hk528.2.1, hz531, fun p529 np530 => ?_⟩
      have hA532 := RL.rep hA486 ((toI (!eqD (cutL y_by455 (some (-(1 : Int))) none) ([t502] : List Int)))).toNat
      have ne533 := ow516.ne np530
      have ne534 := ow517.ne np530
      have ne535 := ow518.ne np530
      have ne536 := ow519.ne np530
      have ne537 := ow520.ne np530
      have ne538 := ow522.ne np530
      have nb539 := hB521.nb np530
      have g540 := g515.own (o := (.lst (List.replicate ((toI (!eqD (cutL y_by455 (some (-(1 : Int))) none) ([t502] : List Int)))).toNat [(V.int t469)]).flatten)) np530
      have ow541 := ow516.own (o := (.lst (List.replicate ((toI (!eqD (cutL y_by455 (some (-(1 : Int))) none) ([t502] : List Int)))).toNat [(V.int t469)]).flatten)) np530
      have ow542 := ow517.own (o := (.lst (List.replicate ((toI (!eqD (cutL y_by455 (some (-(1 : Int))) none) ([t502] : List Int)))).toNat [(V.int t469)]).flatten)) np530
      have ow543 := ow518.own (o := (.lst (List.replicate ((toI (!eqD (cutL y_by455 (some (-(1 : Int))) none) ([t502] : List Int)))).toNat [(V.int t469)]).flatten)) np530
      have ow544 := ow519.own (o := (.lst (List.replicate ((toI (!eqD (cutL y_by455 (some (-(1 : Int))) none) ([t502] : List Int)))).toNat [(V.int t469)]).flatten)) np530
      have ow545 := ow520.own (o := (.lst (List.replicate ((toI (!eqD (cutL y_by455 (some (-(1 : Int))) none) ([t502] : List Int)))).toNat [(V.int t469)]).flatten)) np530
      have ow546 := ow522.own (o := (.lst (List.replicate ((toI (!eqD (cutL y_by455 (some (-(1 : Int))) none) ([t502] : List Int)))).toNat [(V.int t469)]).flatten)) np530
      have hB547 := hB521.own (o := (.lst (List.replicate ((toI (!eqD (cutL y_by455 (some (-(1 : Int))) none) ([t502] : List Int)))).toNat [(V.int t469)]).flatten)) np530
      have ow548 : Ow H0 F453 (upd (upd (upd (upd H451 p474 (.lst [(V.int t469)])) p487 (.lst (cutV ws_y_by456 (some (-(1 : Int))) none))) p507 (.lst [(V.int t502)])) p529 (.lst (List.replicate ((toI (!eqD (cutL y_by455 (some (-(1 : Int))) none) ([t502] : List Int)))).toNat [(V.int t469)]).flatten)) p529 (List.replicate ((toI (!eqD (cutL y_by455 (some (-(1 : Int))) none) ([t502] : List Int)))).toNat [(V.int t469)]).flatten := Ow.new g515 np530
      obtain ⟨t549, hb550, hm465⟩ := bnd hm465
      obtain ⟨hk551, rfl⟩ := conL_ok hb550
      refine ⟨p331, p529, ws_y_by456, (List.replicate ((toI (!eqD (cutL y_by455 (some (-(1 : Int))) none) ([t502] : List Int)))).toNat [(V.int t469)]).flatten, rfl, rfl, ow542.h, ow548.h, (by rw [RL.len hA_y_by461, RL.len hA532]; exact hk551), ?_⟩
      have hA552 := RL.app hA_y_by461 hA532
      have hl553 : (ws_y_by456 ++ (List.replicate ((toI (!eqD (cutL y_by455 (some (-(1 : Int))) none) ([t502] : List Int)))).toNat [(V.int t469)]).flatten).length ≤ sizeLine := by rw [List.length_append, RL.len hA_y_by461, RL.len hA532]; exact hk551
      have g554 := g540.put (o := (.lst (ws_y_by456 ++ (List.replicate ((toI (!eqD (cutL y_by455 (some (-(1 : Int))) none) ([t502] : List Int)))).toNat [(V.int t469)]).flatten))) ow542
      have ow555 := ow541.other (o := (.lst (ws_y_by456 ++ (List.replicate ((toI (!eqD (cutL y_by455 (some (-(1 : Int))) none) ([t502] : List Int)))).toNat [(V.int t469)]).flatten))) ne333
      have ow556 := ow543.other (o := (.lst (ws_y_by456 ++ (List.replicate ((toI (!eqD (cutL y_by455 (some (-(1 : Int))) none) ([t502] : List Int)))).toNat [(V.int t469)]).flatten))) (Ne.symm ne438)
      have ow557 := ow544.other (o := (.lst (ws_y_by456 ++ (List.replicate ((toI (!eqD (cutL y_by455 (some (-(1 : Int))) none) ([t502] : List Int)))).toNat [(V.int t469)]).flatten))) (Ne.symm ne477)
      have ow558 := ow545.other (o := (.lst (ws_y_by456 ++ (List.replicate ((toI (!eqD (cutL y_by455 (some (-(1 : Int))) none) ([t502] : List Int)))).toNat [(V.int t469)]).flatten))) (Ne.symm ne491)
      have ow559 := ow546.other (o := (.lst (ws_y_by456 ++ (List.replicate ((toI (!eqD (cutL y_by455 (some (-(1 : Int))) none) ([t502] : List Int)))).toNat [(V.int t469)]).flatten))) (Ne.symm ne510)
      have ow560 := ow548.other (o := (.lst (ws_y_by456 ++ (List.replicate ((toI (!eqD (cutL y_by455 (some (-(1 : Int))) none) ([t502] : List Int)))).toNat [(V.int t469)]).flatten))) (Ne.symm ne534)
      have hB561 := hB547.other (o := (.lst (ws_y_by456 ++ (List.replicate ((toI (!eqD (cutL y_by455 (some (-(1 : Int))) none) ([t502] : List Int)))).toNat [(V.int t469)]).flatten))) nb334
      have ow562 := ow542.put (us := (ws_y_by456 ++ (List.replicate ((toI (!eqD (cutL y_by455 (some (-(1 : Int))) none) ([t502] : List Int)))).toNat [(V.int t469)]).flatten))
      exact ⟨F453, (some (V.int e466)), (y_by455 ++ (List.replicate ((toI (!eqD (cutL y_by455 (some (-(1 : Int))) none) ([t502] : List Int)))).toNat ([t469] : List Int)).flatten), (ws_y_by456 ++ (List.replicate ((toI (!eqD (cutL y_by455 (some (-(1 : Int))) none) ([t502] : List Int)))).toNat [(V.int t469)]).flatten), rfl, g554, sm458, ow562, hl553, hA552, ow555, ow556, hB561, hm465⟩
    intro σ563 H564 hP
    obtain ⟨F565, o_y_k566, y_by567, ws_y_by568, rfl, g569, sm570, ow_y_by571, hl_y_by572, hA_y_by573, owk0574, owk1575, hB576, hm577⟩ := hP
    rw [drop_end (RL.len (hA436.up sm570)), m_l_walked_l3.eq_1] at hm577
    obtain rfl := sjoin hm577
    refine p_nx ?_
    refine p_seq ?_
    refine p_asg ?_
    refine ⟨(by show 0 ≤ sizeLine; decide), fun p578 np579 => ?_⟩
    have ne580 := owk0574.ne np579
    have ne581 := ow_y_by571.ne np579
    have ne582 := owk1575.ne np579
    have nb583 := hB576.nb np579
    have g584 := g569.own (o := (.lst [])) np579
    have ow585 := owk0574.own (o := (.lst [])) np579
    have ow586 := ow_y_by571.own (o := (.lst [])) np579
    have ow587 := owk1575.own (o := (.lst [])) np579
    have hB588 := hB576.own (o := (.lst [])) np579
    have ow589 : Ow H0 F565 (upd H564 p578 (.lst [])) p578 [] := Ow.new g569 np579
    have hA590 : RL K F565 [] ([] : List (Int × Int)) := RpA.nil
    obtain ⟨y_been591, hb592, hm⟩ := bnd hm
    have hx593 : ([] : List (Int × Int)) = y_been591 := sjoin hb592
    have hA594 : RL K F565 [] y_been591 := RL.re hx593 hA590
    refine p_name ?_
    refine p_nx ?_
    refine p_seq ?_
    refine p_forB (fun nx595 hnx595 => ?_)
    refine ⟨(V.ref p21), rfl, p21, rfl, ⟨_, ow585.sq⟩, ?_⟩
    obtain ⟨y_been596, ht597, hm⟩ := bnd hm
    refine p_postL (nx_ := nx595) (fun σ' H' => ∃ (F' : Hp) (o_y_house : Option V) (o_y_stand : Option V) (y_been : (List (Int × Int))) (ws_y_been : List V), σ' = [(some (V.ref B)), (some v_y_web_here), (some (V.ref p21)), o_y_k566, o_y_near320, (some (V.ref p331)), (some (V.ref p578)), o_y_house, o_y_stand, none, none, none] ∧ Gr (Bc B C) F0 H0 F' H' ∧ Same F565 F' ∧ Ow H0 F' H' p578 ws_y_been ∧ ws_y_been.length ≤ sizeLine ∧ RL K F' ws_y_been y_been ∧ Ow H0 F' H' p21 ws_y_line322 ∧ Ow H0 F' H' p331 ws_y_by568 ∧ BagAt F' H' B C b414 ∧ some y_been = some y_been596) (fun hpost598 => ?_) ?_
    · skip
      refine for_list (K := K) (a := p21) (xs := ws_y_line322) (fun i σ' H' => ∃ (F' : Hp) (o_y_house : Option V) (o_y_stand : Option V) (y_been : (List (Int × Int))) (ws_y_been : List V), σ' = [(some (V.ref B)), (some v_y_web_here), (some (V.ref p21)), o_y_k566, o_y_near320, (some (V.ref p331)), (some (V.ref p578)), o_y_house, o_y_stand, none, none, none] ∧ Gr (Bc B C) F0 H0 F' H' ∧ Same F565 F' ∧ Ow H0 F' H' p578 ws_y_been ∧ ws_y_been.length ≤ sizeLine ∧ RL K F' ws_y_been y_been ∧ Ow H0 F' H' p21 ws_y_line322 ∧ Ow H0 F' H' p331 ws_y_by568 ∧ BagAt F' H' B C b414 ∧ m_l_walked_l5 y_by567 (y_line321.drop i) y_been = some y_been596) ?_ ?_ ?_ ?_
      · exact ⟨F565, none, none, y_been591, [], rfl, g584, (Same.refl _), ow589, (by show 0 ≤ sizeLine; decide), hA594, ow585, ow586, hB588, ht597⟩
      · intro i σ' H' _ hP
        obtain ⟨F', o_y_house, o_y_stand, y_been, ws_y_been, rfl, g_, sm_, ow_y_been, hl_y_been, hA_y_been, owk0_, owk1_, hB_, hm_⟩ := hP
        exact owk0_.sq
      · intro i599 xv602 σ' H601 hx600 hP
        obtain ⟨F603, o_y_house604, o_y_stand605, y_been606, ws_y_been607, rfl, g608, sm609, ow_y_been610, hl_y_been611, hA_y_been612, owk0613, owk1614, hB615, hm616⟩ := hP
        obtain ⟨e617, he618, r619⟩ := RL.get (hA_y_line328.up (Same.trans g345.ff (Same.trans sm416 (Same.trans sm570 sm609)))) hx600
        obtain rfl := R.int_v r619
        rw [drop_at he618, m_l_walked_l5.eq_2] at hm616
        refine p_name ?_
        refine p_seq ?_
        refine p_asg ?_
        refine ⟨(V.ref p331), rfl, (V.ref p578), rfl, (by show 2 ≤ sizeLine; decide), fun p620 np621 => ?_⟩
        have ne622 := owk0613.ne np621
        have ne623 := owk1614.ne np621
        have ne624 := ow_y_been610.ne np621
        have nb625 := hB615.nb np621
        have sm626 := same_new (o := (.tup [(V.int (0 : Int)), (V.int (0 : Int))])) (g608.noneF np621)
        have g627 := g608.frz (o := (.tup [(V.int (0 : Int)), (V.int (0 : Int))])) np621
        have ow628 := owk0613.frz (o := (.tup [(V.int (0 : Int)), (V.int (0 : Int))])) np621
        have ow629 := owk1614.frz (o := (.tup [(V.int (0 : Int)), (V.int (0 : Int))])) np621
        have ow630 := ow_y_been610.frz (o := (.tup [(V.int (0 : Int)), (V.int (0 : Int))])) np621
        have hB631 := hB615.frz (o := (.tup [(V.int (0 : Int)), (V.int (0 : Int))])) np621
        have r632 : R K (upd F603 p620 (.tup [(V.int (0 : Int)), (V.int (0 : Int))])) (.ref p620) (((0 : Int), (0 : Int)) : (Int × Int)) := R.mk2 fzT (Rp.int (0 : Int)) (Rp.int (0 : Int))
        refine ⟨(by show 1 ≤ sizeLine; decide), fun p633 np634 => ?_⟩
        have ne635 := ow628.ne np634
        have ne636 := ow629.ne np634
        have ne637 := ow630.ne np634
        have nb638 := hB631.nb np634
        have g639 := g627.own (o := (.lst [(V.ref p620)])) np634
        have ow640 := ow628.own (o := (.lst [(V.ref p620)])) np634
        have ow641 := ow629.own (o := (.lst [(V.ref p620)])) np634
        have ow642 := ow630.own (o := (.lst [(V.ref p620)])) np634
        have hB643 := hB631.own (o := (.lst [(V.ref p620)])) np634
        have ow644 : Ow H0 (upd F603 p620 (.tup [(V.int (0 : Int)), (V.int (0 : Int))])) (upd (upd H601 p620 (.tup [(V.int (0 : Int)), (V.int (0 : Int))])) p633 (.lst [(V.ref p620)])) p633 [(V.ref p620)] := Ow.new g627 np634
        have hA645 : RL K (upd F603 p620 (.tup [(V.int (0 : Int)), (V.int (0 : Int))])) [(V.ref p620)] ([((0 : Int), (0 : Int))] : List (Int × Int)) := (RpA.cons r632 RpA.nil)
        obtain ⟨t646, hb647, hm616⟩ := bnd hm616
        obtain ⟨hk648, rfl⟩ := conL_ok hb647
        have hz651 : (ws_y_been607 ++ [(V.ref p620)]).length ≤ sizeLine := by rw [List.length_append, RL.len (hA_y_been612.up sm626), RL.len hA645]; exact hk648
        refine ⟨p578, p633, ws_y_been607, [(V.ref p620)], rfl, rfl, ow642.sq, ow644.sq, (by rw [RL.len (hA_y_been612.up sm626), RL.len hA645]; exact hk648), fun p649 np650 => ?_⟩
        have hA652 := RL.app (hA_y_been612.up sm626) hA645
        have ne654 := ow640.ne np650
        have ne655 := ow641.ne np650
        have ne656 := ow642.ne np650
        have ne657 := ow644.ne np650
        have nb658 := hB643.nb np650
        have g659 := g639.own (o := (.lst (ws_y_been607 ++ [(V.ref p620)]))) np650
        have ow660 := ow640.own (o := (.lst (ws_y_been607 ++ [(V.ref p620)]))) np650
        have ow661 := ow641.own (o := (.lst (ws_y_been607 ++ [(V.ref p620)]))) np650
        have ow662 := ow642.own (o := (.lst (ws_y_been607 ++ [(V.ref p620)]))) np650
        have ow663 := ow644.own (o := (.lst (ws_y_been607 ++ [(V.ref p620)]))) np650
        have hB664 := hB643.own (o := (.lst (ws_y_been607 ++ [(V.ref p620)]))) np650
        have ow665 : Ow H0 (upd F603 p620 (.tup [(V.int (0 : Int)), (V.int (0 : Int))])) (upd (upd (upd H601 p620 (.tup [(V.int (0 : Int)), (V.int (0 : Int))])) p633 (.lst [(V.ref p620)])) p649 (.lst (ws_y_been607 ++ [(V.ref p620)]))) p649 (ws_y_been607 ++ [(V.ref p620)]) := Ow.new g639 np650
        obtain ⟨t666, hb667, hm616⟩ := bnd hm616
        obtain ⟨v668, ha669, r670⟩ := RL.at hA652 hb667
        obtain ⟨p671, v674, v675, ev672, hS673, r676, r677⟩ := R.p2_v r670
        obtain rfl := R.int_v r676
        obtain rfl := R.int_v r677
        obtain ⟨r678, hb679, hm616⟩ := bnd hm616
        refine ⟨(V.ref p578), rfl, p578, ws_y_been607, _, rfl, (.inl ow662.sq), (RL.len (hA_y_been612.up sm626)), _, _, rfl, rfl, _, _, rfl, p649, (ws_y_been607 ++ [(V.ref p620)]), _, v668, rfl, rfl, ow665.sq, ha669, p671, _, _, (V.int t666.1), ev672, rfl, (SqT_mono g659.fh hS673), rfl, (V.int e617), rfl, p331, ws_y_by568, y_by567, t666.1, e617, r678, rfl, ow661.sq, hl_y_by572, (RpA.up (hA_y_by573.up (Same.trans sm609 sm626)) g659.fh), id, hb679, fun F680 H681 g682 => ?_⟩
        have g684 := Gr.apart g659 g682
        have ow685 := ow660.apart g682
        have ow686 := ow661.apart g682
        have ow687 := ow662.apart g682
        have ow688 := ow663.apart g682
        have ow689 := ow665.apart g682
        have hB690 := hB664.apart g682
        refine ⟨(V.int e617), rfl, (by show 2 ≤ sizeLine; decide), fun p691 np692 => ?_⟩
        have ne693 := ow685.ne np692
        have ne694 := ow686.ne np692
        have ne695 := ow687.ne np692
        have ne696 := ow688.ne np692
        have ne697 := ow689.ne np692
        have nb698 := hB690.nb np692
        have sm699 := same_new (o := (.tup [(V.int r678), (V.int e617)])) (g684.noneF np692)
        have g700 := g684.frz (o := (.tup [(V.int r678), (V.int e617)])) np692
        have ow701 := ow685.frz (o := (.tup [(V.int r678), (V.int e617)])) np692
        have ow702 := ow686.frz (o := (.tup [(V.int r678), (V.int e617)])) np692
        have ow703 := ow687.frz (o := (.tup [(V.int r678), (V.int e617)])) np692
        have ow704 := ow688.frz (o := (.tup [(V.int r678), (V.int e617)])) np692
        have ow705 := ow689.frz (o := (.tup [(V.int r678), (V.int e617)])) np692
        have hB706 := hB690.frz (o := (.tup [(V.int r678), (V.int e617)])) np692
        have r707 : R K (upd (upd F603 p620 (.tup [(V.int (0 : Int)), (V.int (0 : Int))])) p691 (.tup [(V.int r678), (V.int e617)])) (.ref p691) ((r678, e617) : (Int × Int)) := R.mk2 fzT (Rp.int r678) (Rp.int e617)
        refine p_name ?_
        refine p_nx ?_
        refine p_seq ?_
        refine p_if ?_
        have rH708 : R K (upd H681 p691 (.tup [(V.int r678), (V.int e617)])) (V.ref p691) (r678, e617) := (Rp.up r707 g700.fh)
        have rH709 : R K (upd H681 p691 (.tup [(V.int r678), (V.int e617)])) (V.ref p578) y_been606 := (R.mkl ow703.sq hl_y_been611 (RpA.up (hA_y_been612.up (Same.trans sm626 sm699)) g700.fh))
        refine ⟨(V.ref p691), rfl, (V.ref p578), rfl, _, _, (Rp.dp _ _ rH708), (Rp.dp _ _ rH709), (R.shaped rH708), (R.shaped rH709), _, rfl, (iteB (fun hc => ?_) (fun hc => ?_))⟩
        · have hm616 := ifT hc hm616
          refine p_brk ?_
          exact hpost598 _ _ ⟨(upd (upd F603 p620 (.tup [(V.int (0 : Int)), (V.int (0 : Int))])) p691 (.tup [(V.int r678), (V.int e617)])), (some (V.int e617)), (some (V.ref p691)), y_been606, ws_y_been607, rfl, g700, (Same.trans sm609 (Same.trans sm626 sm699)), ow703, hl_y_been611, (hA_y_been612.up (Same.trans sm626 sm699)), ow701, ow702, hB706, hm616⟩
        · have hm616 := ifF hc hm616
          refine p_next ?_
          refine p_nx ?_
          refine p_drop ?_
          obtain ⟨t710, hb711, hm616⟩ := bnd hm616
          obtain ⟨hk712, rfl⟩ := appL_ok hb711
          refine ⟨(V.ref p578), rfl, (.inl ⟨rfl, _, ow703.sq⟩), (V.ref p691), rfl, p578, ws_y_been607, (V.ref p691), rfl, rfl, ow703.h, (by rw [RL.len (hA_y_been612.up (Same.trans sm626 sm699))]; exact hk712), ?_⟩
          have hA713 : RL K (upd (upd F603 p620 (.tup [(V.int (0 : Int)), (V.int (0 : Int))])) p691 (.tup [(V.int r678), (V.int e617)])) (ws_y_been607 ++ [(V.ref p691)]) (y_been606 ++ [((r678, e617) : (Int × Int))]) := RL.snoc (hA_y_been612.up (Same.trans sm626 sm699)) r707
          have hl714 : (ws_y_been607 ++ [(V.ref p691)]).length ≤ sizeLine := by rw [List.length_append, RL.len (hA_y_been612.up (Same.trans sm626 sm699))]; exact hk712
          have g715 := g700.put (o := (.lst (ws_y_been607 ++ [(V.ref p691)]))) ow703
          have ow716 := ow701.other (o := (.lst (ws_y_been607 ++ [(V.ref p691)]))) ne580
          have ow717 := ow702.other (o := (.lst (ws_y_been607 ++ [(V.ref p691)]))) ne581
          have ow718 := ow704.other (o := (.lst (ws_y_been607 ++ [(V.ref p691)]))) (Ne.symm ne637)
          have ow719 := ow705.other (o := (.lst (ws_y_been607 ++ [(V.ref p691)]))) (Ne.symm ne656)
          have hB720 := hB706.other (o := (.lst (ws_y_been607 ++ [(V.ref p691)]))) nb583
          have ow721 := ow703.put (us := (ws_y_been607 ++ [(V.ref p691)]))
          exact ⟨(upd (upd F603 p620 (.tup [(V.int (0 : Int)), (V.int (0 : Int))])) p691 (.tup [(V.int r678), (V.int e617)])), (some (V.int e617)), (some (V.ref p691)), (y_been606 ++ [(r678, e617)]), (ws_y_been607 ++ [(V.ref p691)]), rfl, g715, (Same.trans sm609 (Same.trans sm626 sm699)), ow721, hl714, hA713, ow716, ow717, hB720, hm616⟩
      intro σ722 H723 hP
      obtain ⟨F724, o_y_house725, o_y_stand726, y_been727, ws_y_been728, rfl, g729, sm730, ow_y_been731, hl_y_been732, hA_y_been733, owk0734, owk1735, hB736, hm737⟩ := hP
      rw [drop_end (RL.len (hA_y_line328.up (Same.trans g345.ff (Same.trans sm416 (Same.trans sm570 sm730))))), m_l_walked_l5.eq_1] at hm737
      exact hpost598 _ _ ⟨F724, o_y_house725, o_y_stand726, y_been727, ws_y_been728, rfl, g729, sm730, ow_y_been731, hl_y_been732, hA_y_been733, owk0734, owk1735, hB736, hm737⟩
    intro σ738 H739 hP
    refine hnx595 _ _ ?_
    obtain ⟨F740, o_y_house741, o_y_stand742, y_been743, ws_y_been744, rfl, g745, sm746, ow_y_been747, hl_y_been748, hA_y_been749, owk0750, owk1751, hB752, hm753⟩ := hP
    obtain rfl := sjoin hm753
    refine p_nx ?_
    refine p_ret ?_
    obtain ⟨t754, hb755, hm⟩ := bnd hm
    obtain ⟨v756, ha757, r758⟩ := RL.at hA_y_been749 hb755
    obtain ⟨p759, v762, v763, ev760, hS761, r764, r765⟩ := R.p2_v r758
    obtain rfl := R.int_v r764
    obtain rfl := R.int_v r765
    refine ⟨(V.ref p331), rfl, (V.ref p578), rfl, _, rfl, p578, ws_y_been744, _, v756, rfl, rfl, ow_y_been747.sq, ha757, p759, _, _, (V.int t754.1), ev760, rfl, (SqT_mono g745.fh hS761), rfl, _, rfl, p331, ws_y_by568, rfl, owk1751.sq, fun p766 np767 => ?_⟩
    have hA768 : RL K F740 (cutV ws_y_by568 none (some t754.1)) (cutL y_by567 none (some t754.1)) := RL.cut none (some t754.1) (hA_y_by573.up sm746)
    have ne769 := owk0750.ne np767
    have ne770 := owk1751.ne np767
    have ne771 := ow_y_been747.ne np767
    have nb772 := hB752.nb np767
    have g773 := g745.own (o := (.lst (cutV ws_y_by568 none (some t754.1)))) np767
    have ow774 := owk0750.own (o := (.lst (cutV ws_y_by568 none (some t754.1)))) np767
    have ow775 := owk1751.own (o := (.lst (cutV ws_y_by568 none (some t754.1)))) np767
    have ow776 := ow_y_been747.own (o := (.lst (cutV ws_y_by568 none (some t754.1)))) np767
    have hB777 := hB752.own (o := (.lst (cutV ws_y_by568 none (some t754.1)))) np767
    have ow778 : Ow H0 F740 (upd H739 p766 (.lst (cutV ws_y_by568 none (some t754.1)))) p766 (cutV ws_y_by568 none (some t754.1)) := Ow.new g745 np767
    have hA781 := hA768
    refine (.inl ⟨p766, (cutV ws_y_by568 none (some t754.1)), rfl, ow778.sq, fun q779 nq780 => ?_⟩)
    have ne782 := ow774.ne nq780
    have ne783 := ow775.ne nq780
    have ne784 := ow776.ne nq780
    have ne785 := ow778.ne nq780
    have nb786 := hB777.nb nq780
    have sm787 := same_new (o := (.tup (cutV ws_y_by568 none (some t754.1)))) (g773.noneF nq780)
    have g788 := g773.frz (o := (.tup (cutV ws_y_by568 none (some t754.1)))) nq780
    have ow789 := ow774.frz (o := (.tup (cutV ws_y_by568 none (some t754.1)))) nq780
    have ow790 := ow775.frz (o := (.tup (cutV ws_y_by568 none (some t754.1)))) nq780
    have ow791 := ow776.frz (o := (.tup (cutV ws_y_by568 none (some t754.1)))) nq780
    have ow792 := ow778.frz (o := (.tup (cutV ws_y_by568 none (some t754.1)))) nq780
    have hB793 := hB777.frz (o := (.tup (cutV ws_y_by568 none (some t754.1)))) nq780
    have r794 : R K (upd F740 q779 (.tup (cutV ws_y_by568 none (some t754.1)))) (.ref q779) ((VT.mk (cutL y_by567 none (some t754.1))) : (VT Int)) := R.mkvt fzT (Nat.le_trans (cutV_length _ _ _) hl_y_by572) (hA781.up sm787)
    refine ⟨(V.ref p21), rfl, (V.ref p578), rfl, p578, ws_y_been744, _, rfl, (.inl ow791.sq), (RL.len (hA_y_been749.up sm787)), _, rfl, p21, ws_y_line322, rfl, ow789.sq, fun p795 np796 => ?_⟩
    have hA797 : RL K (upd F740 q779 (.tup (cutV ws_y_by568 none (some t754.1)))) (cutV ws_y_line322 none (some (((y_been743).length : Nat) : Int))) (cutL y_line321 none (some (((y_been743).length : Nat) : Int))) := RL.cut none (some (((y_been743).length : Nat) : Int)) (hA_y_line328.up (Same.trans g345.ff (Same.trans sm416 (Same.trans sm570 (Same.trans sm746 sm787)))))
    have ne798 := ow789.ne np796
    have ne799 := ow790.ne np796
    have ne800 := ow791.ne np796
    have ne801 := ow792.ne np796
    have nb802 := hB793.nb np796
    have g803 := g788.own (o := (.lst (cutV ws_y_line322 none (some (((y_been743).length : Nat) : Int))))) np796
    have ow804 := ow789.own (o := (.lst (cutV ws_y_line322 none (some (((y_been743).length : Nat) : Int))))) np796
    have ow805 := ow790.own (o := (.lst (cutV ws_y_line322 none (some (((y_been743).length : Nat) : Int))))) np796
    have ow806 := ow791.own (o := (.lst (cutV ws_y_line322 none (some (((y_been743).length : Nat) : Int))))) np796
    have ow807 := ow792.own (o := (.lst (cutV ws_y_line322 none (some (((y_been743).length : Nat) : Int))))) np796
    have hB808 := hB793.own (o := (.lst (cutV ws_y_line322 none (some (((y_been743).length : Nat) : Int))))) np796
    have ow809 : Ow H0 (upd F740 q779 (.tup (cutV ws_y_by568 none (some t754.1)))) (upd (upd (upd H739 p766 (.lst (cutV ws_y_by568 none (some t754.1)))) q779 (.tup (cutV ws_y_by568 none (some t754.1)))) p795 (.lst (cutV ws_y_line322 none (some (((y_been743).length : Nat) : Int))))) p795 (cutV ws_y_line322 none (some (((y_been743).length : Nat) : Int))) := Ow.new g788 np796
    have sm810 := ow809.sf
    have g811 := g803.fz ow809
    have ow812 : Ow H0 (upd (upd F740 q779 (.tup (cutV ws_y_by568 none (some t754.1)))) p795 (.lst (cutV ws_y_line322 none (some (((y_been743).length : Nat) : Int))))) (upd (upd (upd H739 p766 (.lst (cutV ws_y_by568 none (some t754.1)))) q779 (.tup (cutV ws_y_by568 none (some t754.1)))) p795 (.lst (cutV ws_y_line322 none (some (((y_been743).length : Nat) : Int))))) p21 ws_y_line322 := ow804.fz ne798
    have ow813 : Ow H0 (upd (upd F740 q779 (.tup (cutV ws_y_by568 none (some t754.1)))) p795 (.lst (cutV ws_y_line322 none (some (((y_been743).length : Nat) : Int))))) (upd (upd (upd H739 p766 (.lst (cutV ws_y_by568 none (some t754.1)))) q779 (.tup (cutV ws_y_by568 none (some t754.1)))) p795 (.lst (cutV ws_y_line322 none (some (((y_been743).length : Nat) : Int))))) p331 ws_y_by568 := ow805.fz ne799
    have ow814 : Ow H0 (upd (upd F740 q779 (.tup (cutV ws_y_by568 none (some t754.1)))) p795 (.lst (cutV ws_y_line322 none (some (((y_been743).length : Nat) : Int))))) (upd (upd (upd H739 p766 (.lst (cutV ws_y_by568 none (some t754.1)))) q779 (.tup (cutV ws_y_by568 none (some t754.1)))) p795 (.lst (cutV ws_y_line322 none (some (((y_been743).length : Nat) : Int))))) p578 ws_y_been744 := ow806.fz ne800
    have ow815 : Ow H0 (upd (upd F740 q779 (.tup (cutV ws_y_by568 none (some t754.1)))) p795 (.lst (cutV ws_y_line322 none (some (((y_been743).length : Nat) : Int))))) (upd (upd (upd H739 p766 (.lst (cutV ws_y_by568 none (some t754.1)))) q779 (.tup (cutV ws_y_by568 none (some t754.1)))) p795 (.lst (cutV ws_y_line322 none (some (((y_been743).length : Nat) : Int))))) p766 (cutV ws_y_by568 none (some t754.1)) := ow807.fz ne801
    have hB816 : BagAt (upd (upd F740 q779 (.tup (cutV ws_y_by568 none (some t754.1)))) p795 (.lst (cutV ws_y_line322 none (some (((y_been743).length : Nat) : Int))))) (upd (upd (upd H739 p766 (.lst (cutV ws_y_by568 none (some t754.1)))) q779 (.tup (cutV ws_y_by568 none (some t754.1)))) p795 (.lst (cutV ws_y_line322 none (some (((y_been743).length : Nat) : Int))))) B C b414 := hB808.fz nb802
    have r817 : R K (upd (upd F740 q779 (.tup (cutV ws_y_by568 none (some t754.1)))) p795 (.lst (cutV ws_y_line322 none (some (((y_been743).length : Nat) : Int))))) (.ref p795) (cutL y_line321 none (some (((y_been743).length : Nat) : Int))) := R.mkl fzS (Nat.le_trans (cutV_length _ _ _) hl_y_line327) (RpA.up hA797 sm810)
    refine ⟨(by show 2 ≤ sizeLine; decide), fun p818 np819 => ?_⟩
    have ne820 := ow812.ne np819
    have ne821 := ow813.ne np819
    have ne822 := ow814.ne np819
    have ne823 := ow815.ne np819
    have nb824 := hB816.nb np819
    have sm825 := same_new (o := (.tup [(V.ref q779), (V.ref p795)])) (g811.noneF np819)
    have g826 := g811.frz (o := (.tup [(V.ref q779), (V.ref p795)])) np819
    have ow827 := ow812.frz (o := (.tup [(V.ref q779), (V.ref p795)])) np819
    have ow828 := ow813.frz (o := (.tup [(V.ref q779), (V.ref p795)])) np819
    have ow829 := ow814.frz (o := (.tup [(V.ref q779), (V.ref p795)])) np819
    have ow830 := ow815.frz (o := (.tup [(V.ref q779), (V.ref p795)])) np819
    have hB831 := hB816.frz (o := (.tup [(V.ref q779), (V.ref p795)])) np819
    have r832 : R K (upd (upd (upd F740 q779 (.tup (cutV ws_y_by568 none (some t754.1)))) p795 (.lst (cutV ws_y_line322 none (some (((y_been743).length : Nat) : Int))))) p818 (.tup [(V.ref q779), (V.ref p795)])) (.ref p818) (((VT.mk (cutL y_by567 none (some t754.1))), (cutL y_line321 none (some (((y_been743).length : Nat) : Int)))) : ((VT Int) × (List Int))) := R.mk2 fzT (r794.up (Same.trans sm810 sm825)) (r817.up sm825)
    obtain ⟨rfl, rfl⟩ := pjoin hm
    exact (hQ _ _ _ g826 hB831 r832)
end K42
namespace K42
open PySem PySem.Spec PyProof.Rows L2 TL G
theorem ok_l_unrolled {P : Program} {w : World} {K : PySem.W.Frag} {mg : Str → Option Value} {base : Heap} (T : Txt K mg) : FnOk P w K mg base CX0 3 T.a_l_unrolled T.d_l_unrolled ["_law_web_here", "_law_item", "_law_told"] (sp_l_unrolled K) := by
  have G_l_gone : FnOk P w K mg base CX0 2 T.a_l_gone T.d_l_gone ["_law_web_here", "_law_torn_here", "_law_rules", "_law_digit", "_law_gate"] (sp_l_gone K) := ok_l_gone T
  have b_l_gone := T.F_l_gone.bindsN (ps := ["_law_web_here", "_law_torn_here", "_law_rules", "_law_digit", "_law_gate"]) fun _ _ _ _ _ _ us hl => match us, hl with | [_, _, _, _, _], _ => rfl
  refine fd_ok T.F_l_unrolled sc_l_unrolled (fun vs H Q E h => ?_) (fun cdv A outer s H0 vs Q E hr h => ?_)
  · obtain ⟨_, _, _, _, _, _, _, _, rfl, _⟩ := h
    rfl
  · obtain ⟨v_y_web_here, y_web_here, v_y_item, y_item, p_y_told, ws_y_told, y_told, r, rfl, r_y_web_here, r_y_item, hS_y_told, hl_y_told, hA_y_told, nm_y_told, hm, hQ⟩ := h
    refine ⟨_, (pss_cons (ps_setLc (i := 3) (own := [("_law_house", 4)]) rfl sc_l_unrolled.nd rfl rfl (sw_true rfl rfl rfl (by decide +kernel)) (pi_range1 (by rfl) T.n_range (pa_cons (pe_ix (ix_tupK (K := K)) (pv 0) pe_int (fun _ _ => rfl)) pa_nil)) (blkOk_by (own := [("_law_house", 4)]) (N := N_l_unrolled) (sc := defScope s_l_unrolled) (by decide +kernel)) (fun _ _ _ _ _ => (pg_name (i := 4) sc_l_unrolled.nd rfl (Or.inl rfl) (.inr rfl))) (fun _ _ _ _ _ => pts_nil) (fun _ _ _ _ _ => (pe_lst pa_nil))) (pss_cons (ps_for PassesOwn.never rfl (pi_listK (K := K) (pv 2)) (pg_tupK (K := K) 2 rfl (pgs_cons (pg_name (i := 4) sc_l_unrolled.nd rfl (Or.inl rfl)) (pgs_cons (pg_name (i := 5) sc_l_unrolled.nd rfl (Or.inl rfl)) pgs_nil))) (pss_one (ps_expr (pe_bmK (K := K) PySem.F.plainAttrs_list PySem.F.slot_list_append PySem.F.type_list_append mt_append (pe_ix (ix_listK (K := K)) (pv 3) (pv 4) (fun _ _ => rfl)) (pa_cons (pv 5) pa_nil))))) (pss_cons (ps_for PassesOwn.never rfl (pi_listK (K := K) (pv 3)) (pg_name (i := 6) sc_l_unrolled.nd rfl (Or.inl rfl)) (pss_one (ps_if (pt_cmpR op_ne (pe_lenSetT (K := K) (α := (Int × Int)) rfl hr.units (by rfl) T.n_len (by rfl) T.n_set (pe_lc (own := [("_law_rule", 5)]) rfl sc_l_unrolled.nd (pi_listK (K := K) (pv 6)) (blkOk_by (own := [("_law_rule", 5)]) (N := N_l_unrolled) (sc := defScope s_l_unrolled) (by decide +kernel)) (fun _ _ _ _ _ => (pg_name (i := 5) sc_l_unrolled.nd rfl (Or.inl rfl) (.inr rfl))) (fun _ _ _ _ _ => pts_nil) (fun _ _ _ _ _ => (pe_slice (sl_tupF (K := K)) (pv 5) po_none (po_some pe_int))))) (pe_callB (call_lenLK (K := K)) (by rfl) T.n_len (by decide +kernel) (pa_cons (pv 6) pa_nil)) (nomark _)) (pss_one (ps_ret pe_bl)) pss_nil))) (pss_one (ps_ret (pe_cmpR (op_eqDK (K := K) hr.units) (pe_call G_l_gone (hr.mono (by decide)) (by rfl) T.g_l_gone T.F_l_gone.kp b_l_gone .nil pass0 (pa_cons (pv 0) (pa_cons (pe_lst pa_nil) (pa_cons (pv 3) (pa_cons (pe_ix (ix_tupK (K := K)) (pv 1) pe_int (fun _ _ => rfl)) (pa_cons (pe_ix (ix_tupK (K := K)) (pv 1) pe_int (fun _ _ => rfl)) pa_nil)))))) (pe_tup (pa_cons (pe_tup (pa_cons pe_str (pa_cons (pe_ix (ix_tupK (K := K)) (pe_ix (ix_tupK (K := K)) (pv 1) pe_int (fun _ _ => rfl)) pe_int (fun _ _ => rfl)) pa_nil))) (pa_cons (pe_ix (ix_tupK (K := K)) (pv 1) pe_int (fun _ _ => rfl)) pa_nil))) (nomark _))))))), ?_⟩
    have g0 : Gr M0 H0 H0 H0 H0 := Gr.refl (Same.refl _)
    unfold m_l_unrolled at hm
    refine p_seq ?_
    refine p_asg ?_
    obtain ⟨p1, v4, v5, v6, v7, ev2, hS3, r8, r9, r10, r11⟩ := R.p4_v r_y_web_here
    obtain rfl := R.int_v r8
    obtain rfl := R.int_v r9
    obtain ⟨l12, hb14, hm⟩ := bnd hm
    obtain ⟨hk13, rfl⟩ := rangeO1_ok hb14
    refine ⟨v_y_web_here, rfl, p1, _, _, (V.int y_web_here.b), ev2, rfl, (SqT_mono g0.fh hS3), rfl, _, rfl, hk13.1.1, hk13.1.2, fun D15 nD16 => ?_⟩
    have g17 := g0.own (o := (.lst [])) nD16
    have ow18 : Nest H0 H0 (upd H0 D15 (.lst [])) D15 [] := Nest.nil g0 nD16
    refine lc_range (lo := (0 : Int)) (n := (y_web_here.b).toNat) (fun i H' => ∃ (rows : List (Addr × List V)), Gr M0 H0 H0 H0 H' ∧ Nest H0 H0 H' D15 rows ∧ rows.length = i ∧ (∀ r ∈ rows, r.2 = [])) ?_ ?_ ?_
    · exact ⟨[], g17, ow18, rfl, (fun _ h => nomatch h)⟩
    · intro i19 H21 hx20 hP
      obtain ⟨rows22, g023, owD24, hi25, he26⟩ := hP
      have he28 := rangeL_at (lo := (0 : Int)) hx20
      refine ⟨rfl, (p_yes ?_)⟩
      refine ⟨(by show 0 ≤ sizeLine; decide), fun p29 np30 => ?_⟩
      have g31 := Gr.mut (o := (.lst (refsN rows22 ++ [.ref p29]))) (g023.own (o := .lst []) np30) owD24.nF (.inl owD24.n0)
      exact ⟨refsN rows22, (owD24.own np30).h, (lt_line (by rw [List.length_map]; exact Nat.le_of_eq hi25) hx20 hk13.2), rows22 ++ [(p29, [])], g31, (Nest.grow owD24 g023 np30), (by rw [List.length_append, hi25]; rfl), (fun r hr => (List.mem_append.mp hr).elim (he26 r) (fun z => by rw [List.mem_singleton.mp z]))⟩
    intro H32 hP
    obtain ⟨rows33, g034, owD35, hi36, he37⟩ := hP
    have hl38 : rows33.length ≤ sizeLine := by rw [hi36]; exact hk13.2
    have hA39 : RN (α := (T4 Int Int Int Int)) K H0 rows33 (((rangeL (0 : Int) (y_web_here.b).toNat)).map fun _ => ([] : List (T4 Int Int Int Int))) := RN.empty (hi36.trans (rangeL_len _ _).symm) he37
    obtain ⟨y_rules40, hb41, hm⟩ := bnd hm
    have hx42 : (((rangeL (0 : Int) (y_web_here.b).toNat)).map fun _ => ([] : List (T4 Int Int Int Int))) = y_rules40 := sjoin hb41
    have hA43 : RN (α := (T4 Int Int Int Int)) K H0 rows33 y_rules40 := RN.re hx42 hA39
    refine p_name ?_
    refine p_nx ?_
    refine p_seq ?_
    refine p_for ?_
    refine ⟨(V.ref p_y_told), rfl, p_y_told, rfl, ⟨_, (g034.seq nm_y_told hS_y_told)⟩, ?_⟩
    obtain ⟨y_rules44, ht45, hm⟩ := bnd hm
    refine for_list (K := K) (a := p_y_told) (xs := ws_y_told) (fun i σ' H' => ∃ (F' : Hp) (o_y_rule : Option V) (o_y_house : Option V) (y_rules : (List (List (T4 Int Int Int Int)))) (ws_y_rules : (List (Addr × List V))), σ' = [(some v_y_web_here), (some v_y_item), (some (V.ref p_y_told)), (some (V.ref D15)), o_y_house, o_y_rule, none] ∧ Gr M0 H0 H0 F' H' ∧ Same H0 F' ∧ Nest H0 F' H' D15 ws_y_rules ∧ ws_y_rules.length ≤ sizeLine ∧ RN (α := (T4 Int Int Int Int)) K F' ws_y_rules y_rules ∧ m_l_unrolled_l1  (y_told.drop i) y_rules = some y_rules44) ?_ ?_ ?_ ?_
    · exact ⟨H0, none, none, y_rules40, rows33, rfl, g034, (Same.refl _), owD35, hl38, hA43, ht45⟩
    · intro i σ' H' _ hP
      obtain ⟨F', o_y_rule, o_y_house, y_rules, ws_y_rules, rfl, g_, sm_, ow_y_rules, hl_y_rules, hA_y_rules, hm_⟩ := hP
      exact (g_.seq nm_y_told hS_y_told)
    · intro i46 xv49 σ' H48 hx47 hP
      obtain ⟨F50, o_y_rule51, o_y_house52, y_rules53, ws_y_rules54, rfl, g55, sm56, ow_y_rules57, hl_y_rules58, hA_y_rules59, hm60⟩ := hP
      obtain ⟨e61, he62, r63⟩ := RL.get (hA_y_told.up sm56) hx47
      rw [drop_at he62, m_l_unrolled_l1.eq_2] at hm60
      obtain ⟨p64, v67, v68, ev65, hS66, r69, r70⟩ := R.p2_v r63
      obtain rfl := R.int_v r69
      refine ⟨p64, [(V.int e61.1), v68], ev65, (SqT_mono g55.fh hS66), rfl, (V.int e61.1), [v68], rfl, v68, [], rfl, rfl, ?_⟩
      refine p_drop ?_
      obtain ⟨y_rules71, hb72, hm60⟩ := bnd hm60
      obtain ⟨j73, r74, e75, e76, e77, rfl⟩ := appN_ok hb72
      obtain ⟨q78, hq79, hA80, hl81⟩ := RN.row hA_y_rules59 e76
      have hm82 := List.mem_of_getElem? hq79
      refine ⟨(V.ref D15), rfl, (V.int e61.1), rfl, D15, (refsN ws_y_rules54), _, (V.ref q78.1), rfl, rfl, (.inl (.inl ow_y_rules57.h)), (RN.at_ hA_y_rules59 e75 hq79), (.inl ⟨rfl, _, (.inl (.inl (ow_y_rules57.rh _ hm82)))⟩), v68, rfl, q78.1, q78.2, v68, rfl, rfl, (ow_y_rules57.rh _ hm82), (by rw [RL.len hA80]; exact e77), ?_⟩
      have hA83 : RL K F50 (q78.2 ++ [v68]) (r74 ++ [(e61.2 : (T4 Int Int Int Int))]) := RL.snoc hA80 r70
      have hl84 : (q78.2 ++ [v68]).length ≤ sizeLine := by rw [List.length_append, RL.len hA80]; exact e77
      have hA85 := RN.put hA_y_rules59 hq79 hA83 hl84
      have g86 := Gr.mut (o := (.lst (q78.2 ++ [v68]))) g55 (ow_y_rules57.rF _ hm82) (.inl (ow_y_rules57.r0 _ hm82))
      have ow87 := ow_y_rules57.put (us := (q78.2 ++ [v68])) hq79
      exact ⟨F50, (some v68), (some (V.int e61.1)), (y_rules53.set j73 (r74 ++ [e61.2])), (ws_y_rules54.set j73 (q78.1, (q78.2 ++ [v68]))), rfl, g86, sm56, ow87, (by rw [List.length_set]; exact hl_y_rules58), hA85, hm60⟩
    intro σ88 H89 hP
    obtain ⟨F90, o_y_rule91, o_y_house92, y_rules93, ws_y_rules94, rfl, g95, sm96, ow_y_rules97, hl_y_rules98, hA_y_rules99, hm100⟩ := hP
    rw [drop_end (RL.len (hA_y_told.up sm96)), m_l_unrolled_l1.eq_1] at hm100
    obtain rfl := sjoin hm100
    refine p_nx ?_
    refine p_seq ?_
    refine p_for ?_
    obtain ⟨F101, g102, sm103, ow104, hA105, off106⟩ := Nest.settle ow_y_rules97 hA_y_rules99 g95
    refine ⟨(V.ref D15), rfl, D15, rfl, ⟨_, ow104.sq⟩, ?_⟩
    obtain ⟨l107, ht108, hm⟩ := bndL0 hm
    refine for_list (K := K) (a := D15) (xs := (refsN ws_y_rules94)) (fun i σ' H' => ∃ (F' : Hp) (o_y_row : Option V), σ' = [(some v_y_web_here), (some v_y_item), (some (V.ref p_y_told)), (some (V.ref D15)), o_y_house92, o_y_rule91, o_y_row] ∧ Gr M0 H0 H0 F' H' ∧ Same F101 F' ∧ Ow H0 F' H' D15 (refsN ws_y_rules94) ∧ m_l_unrolled_l2  (y_rules93.drop i)  = some l107) ?_ ?_ ?_ ?_
    · exact ⟨F101, none, rfl, g102, (Same.refl _), ow104, ht108⟩
    · intro i σ' H' _ hP
      obtain ⟨F', o_y_row, rfl, g_, sm_, owk0_, hm_⟩ := hP
      exact owk0_.sq
    · intro i109 xv112 σ' H111 hx110 hP
      obtain ⟨F113, o_y_row114, rfl, g115, sm116, owk0117, hm118⟩ := hP
      obtain ⟨e119, he120, r121⟩ := RL.get (hA105.up sm116) hx110
      rw [drop_at he120, m_l_unrolled_l2.eq_2] at hm118
      refine p_name ?_
      refine p_if ?_
      obtain ⟨p122, ws123, ev124, hS125, hl126, hA127⟩ := R.lst_v r121
      refine ⟨xv112, rfl, p122, ev124, ⟨_, (Same.seq g115.fh hS125)⟩, fun D128 nD129 => ?_⟩
      have ne130 := owk0117.ne nD129
      have g131 := g115.own (o := (.lst [])) nD129
      have ow132 := owk0117.own (o := (.lst [])) nD129
      have ow133 : Ow H0 F113 (upd H111 D128 (.lst [])) D128 [] := Ow.new g115 nD129
      refine lc_list (K := K) (a := p122) (xs := ws123) (fun i H' => ∃ (F' : Hp) (acc : List V) (ds : List (Int × Int)), Gr M0 H0 H0 F' H' ∧ Same F113 F' ∧ Ow H0 F' H' D128 acc ∧ RL K F' acc ds ∧ acc.length ≤ i ∧ Ow H0 F' H' D15 (refsN ws_y_rules94) ∧ ds ++ m_l_unrolled_c3  (e119.drop i) = (m_l_unrolled_c3  e119)) ?_ ?_ ?_ ?_
      · exact ⟨F113, [], [], g131, Same.refl _, ow133, RpA.nil, Nat.le_refl _, ow132, rfl⟩
      · intro i H' _ hP
        obtain ⟨F135, acc136, ds137, g0138, sm139, owD140, hA141, hi142, ow0143, hr144⟩ := hP
        exact (Same.seq g0138.fh (Same.seq sm139 hS125))
      · intro i146 xv145 H148 hx147 hP
        obtain ⟨F149, acc150, ds151, g0152, sm153, owD154, hA155, hi156, ow0157, hr158⟩ := hP
        obtain ⟨e159, he160, r161⟩ := RL.get (hA127.up sm153) hx147
        rw [drop_at he160, m_l_unrolled_c3.eq_2] at hr158
        refine ⟨rfl, (p_yes ?_)⟩
        obtain ⟨p162, v165, v166, v167, v168, ev163, hs164, r169, r170, r171, r172⟩ := R.p4_s r161
        obtain rfl := R.int_v r169
        obtain rfl := R.int_v r170
        obtain rfl := R.int_v r171
        obtain rfl := R.int_v r172
        refine ⟨xv145, rfl, _, rfl, F149, p162, _, ev163, hs164, g0152.fh, fun q173 F174 H175 g176 hs177 => ?_⟩
        have g178 := Gr.trans g0152 g176
        have ow179 := ow0157.gr0 g176
        have ow180 := owD154.gr0 g176
        have r181 : R K F174 (.ref q173) ((e159.a, e159.b) : (Int × Int)) := R.mk2 hs177 (Rp.int e159.a) (Rp.int e159.b)
        have hA182 : RL K F174 (acc150 ++ [(V.ref q173)]) (ds151 ++ [((e159.a, e159.b) : (Int × Int))]) := RL.snoc (hA155.up g176.ff) r181
        refine ⟨acc150, ow180.h, (lt_line hi156 (List.getElem?_eq_some_iff.mp hx147).1 hl126), ?_⟩
        have g183 := g178.put (o := (.lst (acc150 ++ [(V.ref q173)]))) ow180
        have ow184 := ow179.other (o := (.lst (acc150 ++ [(V.ref q173)]))) ne130
        have ow185 := ow180.put (us := (acc150 ++ [(V.ref q173)]))
        exact ⟨F174, (acc150 ++ [(V.ref q173)]), (ds151 ++ [(e159.a, e159.b)]), g183, (Same.trans sm153 g176.ff), ow185, hA182, (by rw [List.length_append]; exact Nat.succ_le_succ hi156), ow184, (snoc_rest hr158)⟩
      intro H186 hP
      obtain ⟨F187, acc188, ds189, g0191, sm192, owD193, hA194, hi195, ow0196, hr197⟩ := hP
      rw [drop_end (RL.len hA127)] at hr197
      rw [m_l_unrolled_c3.eq_1, List.append_nil] at hr197
      obtain rfl := hr197
      have hl198 : acc188.length ≤ sizeLine := Nat.le_trans hi195 hl126
      obtain ⟨t199, hb200, hm118⟩ := bnd hm118
      obtain ⟨hk201, hls_⟩ := lsetT_ok hb200
      subst hls_
      refine ⟨D128, acc188, (m_l_unrolled_c3  e119), rfl, owD193.sq, (RpA.up hA194 g0191.fh), hk201, xv112, rfl, p122, ws123, _, (by rw [ev124]), (.inl (Same.seq g0191.fh (Same.seq sm192 hS125))), (RL.len (hA127.up sm192)), rfl, _, rfl, (iteB (fun hc => ?_) (fun hc => ?_))⟩
      · have hm118 := ifT hc hm118
        refine p_ret ?_
        obtain rfl := sjoin hm118
        have hm := bret hm
        obtain rfl := sjoin hm
        exact (hQ _ _ g0191)
      · have hm118 := ifF hc hm118
        refine p_next ?_
        exact ⟨F187, (some xv112), rfl, g0191, (Same.trans sm116 sm192), ow0196, hm118⟩
    intro σ202 H203 hP
    obtain ⟨F204, o_y_row205, rfl, g206, sm207, owk0208, hm209⟩ := hP
    rw [drop_end (RL.len (hA105.up sm207)), m_l_unrolled_l2.eq_1] at hm209
    obtain rfl := sjoin hm209
    have hm := bgo0 hm
    refine p_nx ?_
    refine p_ret ?_
    refine ⟨v_y_web_here, rfl, (by show 0 ≤ sizeLine; decide), fun p210 np211 => ?_⟩
    have ne212 := owk0208.ne np211
    have g213 := g206.own (o := (.lst [])) np211
    have ow214 := owk0208.own (o := (.lst [])) np211
    have ow215 : Ow H0 F204 (upd H203 p210 (.lst [])) p210 [] := Ow.new g206 np211
    have hA216 : RL K F204 [] ([] : List Int) := RpA.nil
    obtain ⟨p217, v220, v221, v222, v223, ev218, hS219, r224, r225, r226, r227⟩ := R.p4_v r_y_item
    obtain rfl := R.int_v r224
    obtain rfl := R.int_v r225
    obtain ⟨r228, hb229, hm⟩ := bnd hm
    refine ⟨(V.ref D15), rfl, v_y_item, rfl, p217, _, _, (V.int y_item.a), ev218, rfl, (SqT_mono g213.fh (SqT_mono (Same.trans sm96 (Same.trans sm103 sm207)) hS219)), rfl, v_y_item, rfl, p217, _, _, (V.int y_item.b), ev218, rfl, (SqT_mono g213.fh (SqT_mono (Same.trans sm96 (Same.trans sm103 sm207)) hS219)), rfl, F204, v_y_web_here, y_web_here, p210, [], ([] : List Int), D15, (refsN ws_y_rules94), y_rules93, y_item.a, y_item.b, r228, rfl, g213.fh, (r_y_web_here.up (Same.trans sm96 (Same.trans sm103 sm207))), ow215.sq, (by show 0 ≤ sizeLine; decide), hA216, id, ow214.sq, (by rw [List.length_map]; exact hl_y_rules98), (hA105.up sm207), id, hb229, fun v233 F230 H231 g232 r234 => ?_⟩
    have g235 := Gr.trans g213 g232
    have ow236 := ow214.gr0 g232
    have ow237 := ow215.gr0 g232
    obtain ⟨p238, v241, v242, v243, v244, ev239, hS240, r245, r246, r247, r248⟩ := R.p4_v r226
    obtain rfl := R.int_v r245
    refine ⟨v_y_item, rfl, p217, _, _, v222, ev218, rfl, (SqT_mono g235.fh (SqT_mono (Same.trans sm96 (Same.trans sm103 (Same.trans sm207 g232.ff))) hS219)), rfl, p238, _, _, (V.int y_item.c.a), ev239, rfl, (SqT_mono g235.fh (SqT_mono (Same.trans sm96 (Same.trans sm103 (Same.trans sm207 g232.ff))) hS240)), rfl, (by show 2 ≤ sizeLine; decide), fun p249 np250 => ?_⟩
    have ne251 := ow236.ne np250
    have ne252 := ow237.ne np250
    have sm253 := same_new (o := (.tup [(V.str ("out" : Str)), (V.int y_item.c.a)])) (g235.noneF np250)
    have g254 := g235.frz (o := (.tup [(V.str ("out" : Str)), (V.int y_item.c.a)])) np250
    have ow255 := ow236.frz (o := (.tup [(V.str ("out" : Str)), (V.int y_item.c.a)])) np250
    have ow256 := ow237.frz (o := (.tup [(V.str ("out" : Str)), (V.int y_item.c.a)])) np250
    have r257 : R K (upd F230 p249 (.tup [(V.str ("out" : Str)), (V.int y_item.c.a)])) (.ref p249) ((("out" : Str), y_item.c.a) : (Str × Int)) := R.mk2 fzT (Rp.str ("out" : Str) ⟨by decide +kernel, by decide +kernel⟩) (Rp.int y_item.c.a)
    have r258 : R K (upd F230 p249 (.tup [(V.str ("out" : Str)), (V.int y_item.c.a)])) (V.ref p249) (((Sum.inl) (("out" : Str), y_item.c.a)) : ((Str × Int) ⊕ (T1 Str))) := r257
    refine ⟨v_y_item, rfl, p217, _, _, v223, ev218, rfl, (SqT_mono g254.fh (SqT_mono (Same.trans sm96 (Same.trans sm103 (Same.trans sm207 (Same.trans g232.ff sm253)))) hS219)), rfl, (by show 2 ≤ sizeLine; decide), fun p259 np260 => ?_⟩
    have ne261 := ow255.ne np260
    have ne262 := ow256.ne np260
    have sm263 := same_new (o := (.tup [(V.ref p249), v223])) (g254.noneF np260)
    have g264 := g254.frz (o := (.tup [(V.ref p249), v223])) np260
    have ow265 := ow255.frz (o := (.tup [(V.ref p249), v223])) np260
    have ow266 := ow256.frz (o := (.tup [(V.ref p249), v223])) np260
    have r267 : R K (upd (upd F230 p249 (.tup [(V.str ("out" : Str)), (V.int y_item.c.a)])) p259 (.tup [(V.ref p249), v223])) (.ref p259) (((((Sum.inl) (("out" : Str), y_item.c.a)) : ((Str × Int) ⊕ (T1 Str))), y_item.e) : (((Str × Int) ⊕ (T1 Str)) × (List Int))) := R.mk2 fzT (r258.up sm263) (r227.up (Same.trans sm96 (Same.trans sm103 (Same.trans sm207 (Same.trans g232.ff (Same.trans sm253 sm263))))))
    have rH268 : R K (upd (upd H231 p249 (.tup [(V.str ("out" : Str)), (V.int y_item.c.a)])) p259 (.tup [(V.ref p249), v223])) v233 r228 := (Rp.up (r234.up (Same.trans sm253 sm263)) g264.fh)
    have rH269 : R K (upd (upd H231 p249 (.tup [(V.str ("out" : Str)), (V.int y_item.c.a)])) p259 (.tup [(V.ref p249), v223])) (V.ref p259) ((((Sum.inl) (("out" : Str), y_item.c.a)) : ((Str × Int) ⊕ (T1 Str))), y_item.e) := (Rp.up r267 g264.fh)
    obtain rfl := sjoin hm
    refine ⟨_, _, (Rp.dp _ _ rH268), (Rp.dp _ _ rH269), (R.shaped rH268), (R.shaped rH269), (hQ _ _ g264)⟩
end K42
namespace K42
open PySem PySem.Spec PyProof.Rows L2 TL G
theorem ok_l_due {P : Program} {w : World} {K : PySem.W.Frag} {mg : Str → Option Value} {base : Heap} (T : Txt K mg) : FnOk P w K mg base CX0 2 T.a_l_due T.d_l_due ["_law_item"] (sp_l_due K) := by
  have G_l_done : FnOk P w K mg base CX0 1 T.a_l_done T.d_l_done ["_law_by", "_law_so_far", "_law_house"] (sp_l_done K) := ok_l_done T
  have b_l_done := T.F_l_done.bindsN (ps := ["_law_by", "_law_so_far", "_law_house"]) fun _ _ _ _ _ _ us hl => match us, hl with | [_, _, _], _ => rfl
  refine fd_ok T.F_l_due sc_l_due (fun vs H Q E h => ?_) (fun cdv A outer s H0 vs Q E hr h => ?_)
  · obtain ⟨_, _, _, _, rfl, _⟩ := h
    rfl
  · obtain ⟨F0, v_y_item, y_item, r, rfl, hS0, r_y_item, hm, hQ⟩ := h
    refine ⟨_, (pss_cons (ps_asg (pv 0) (pg_tupK (K := K) 4 rfl (pgs_cons (pg_name (i := 1) sc_l_due.nd rfl (Or.inl rfl)) (pgs_cons (pg_name (i := 2) sc_l_due.nd rfl (Or.inl rfl)) (pgs_cons (pg_name (i := 3) sc_l_due.nd rfl (Or.inl rfl)) (pgs_cons (pg_name (i := 4) sc_l_due.nd rfl (Or.inl rfl)) pgs_nil)))))) (pss_cons (ps_set (i := 5) sc_l_due.nd rfl (.inl rfl) (pe_call G_l_done (hr.mono (by decide)) (by rfl) T.g_l_done T.F_l_done.kp b_l_done .nil pass0 (pa_cons (pe_ix (ix_tupK (K := K)) (pv 3) pe_int (fun _ _ => rfl)) (pa_cons pe_int (pa_cons (pe_ix (ix_listK (K := K)) (pv 4) pe_int (fun _ _ => rfl)) pa_nil))))) (pss_cons (ps_set (i := 6) sc_l_due.nd rfl (.inl rfl) pe_int) (pss_cons (ps_set (i := 7) sc_l_due.nd rfl (.inl rfl) (pe_lst pa_nil)) (pss_cons (ps_for PassesOwn.never rfl (pi_range2 (by rfl) T.n_range (pa_cons pe_int (pa_cons (pe_callB (call_lenLK (K := K)) (by rfl) T.n_len (by decide +kernel) (pa_cons (pv 4) pa_nil)) pa_nil))) (pg_name (i := 8) sc_l_due.nd rfl (Or.inl rfl)) (pss_cons (ps_set (i := 5) sc_l_due.nd rfl (.inl rfl) (pe_call G_l_done (hr.mono (by decide)) (by rfl) T.g_l_done T.F_l_done.kp b_l_done .nil pass0 (pa_cons (pe_ix (ix_tupK (K := K)) (pv 3) pe_int (fun _ _ => rfl)) (pa_cons (pv 5) (pa_cons (pe_ix (ix_listK (K := K)) (pv 4) (pv 8) (fun _ _ => rfl)) pa_nil))))) (pss_cons (ps_expr (pe_bmK (K := K) PySem.F.plainAttrs_list PySem.F.slot_list_append PySem.F.type_list_append mt_append (pv 7) (pa_cons (pe_tup (pa_cons (pe_ix (ix_listK (K := K)) (pv 4) (pe_op op_sub (pv 8) pe_int) (fun _ _ => rfl)) (pa_cons (pe_tup (pa_cons (pv 1) (pa_cons (pv 6) (pa_cons (pe_ix (ix_listK (K := K)) (pv 4) (pv 8) (fun _ _ => rfl)) (pa_cons (pv 5) pa_nil))))) pa_nil))) pa_nil))) (pss_one (ps_set (i := 6) sc_l_due.nd rfl (.inl rfl) (pv 5)))))) (pss_one (ps_ret (pe_op (op_catLK (K := K)) (pv 7) (pe_lst (pa_cons (pe_tup (pa_cons (pe_ix (ix_listK (K := K)) (pv 4) (pe_un un_neg pe_int) (fun _ _ => rfl)) (pa_cons (pe_tup (pa_cons (pv 1) (pa_cons (pv 6) (pa_cons (pe_un un_neg pe_int) (pa_cons (pe_ix (ix_tupK (K := K)) (pv 3) pe_int (fun _ _ => rfl)) pa_nil))))) pa_nil))) pa_nil)))))))))), ?_⟩
    have g0 : Gr M0 F0 H0 F0 H0 := Gr.refl hS0
    unfold m_l_due at hm
    refine p_seq ?_
    refine p_asg ?_
    refine ⟨v_y_item, rfl, ?_⟩
    obtain ⟨p1, v4, v5, v6, v7, ev2, hS3, r8, r9, r10, r11⟩ := R.p4_v r_y_item
    obtain rfl := R.int_v r8
    obtain rfl := R.int_v r9
    refine ⟨p1, [(V.int y_item.a), (V.int y_item.b), v6, v7], ev2, (SqT_mono g0.fh hS3), rfl, (V.int y_item.a), [(V.int y_item.b), v6, v7], rfl, (V.int y_item.b), [v6, v7], rfl, v6, [v7], rfl, v7, [], rfl, rfl, ?_⟩
    refine p_nx ?_
    refine p_seq ?_
    refine p_asg ?_
    obtain ⟨p12, v15, v16, v17, v18, ev13, hS14, r19, r20, r21, r22⟩ := R.p4_v r10
    obtain rfl := R.int_v r19
    obtain ⟨t23, hb24, hm⟩ := bnd hm
    obtain ⟨p25, ws26, ev27, hS28, hl29, hA30⟩ := R.lst_v r11
    obtain ⟨v31, ha32, r33⟩ := RL.at hA30 hb24
    obtain rfl := R.int_v r33
    obtain ⟨r34, hb35, hm⟩ := bnd hm
    refine ⟨v6, rfl, p12, _, _, v16, ev13, rfl, (SqT_mono g0.fh hS14), rfl, v7, rfl, p25, ws26, _, (V.int t23), ev27, rfl, (Same.seq g0.fh hS28), ha32, v16, y_item.c.b, (0 : Int), t23, r34, rfl, (Rp.up r20 g0.fh), hb35, fun F36 H37 g38 => ?_⟩
    have g40 := Gr.apart g0 g38
    refine p_name ?_
    refine p_nx ?_
    refine p_seq ?_
    refine p_asg ?_
    refine p_name ?_
    refine p_nx ?_
    refine p_seq ?_
    refine p_asg ?_
    refine ⟨(by show 0 ≤ sizeLine; decide), fun p41 np42 => ?_⟩
    have g43 := g40.own (o := (.lst [])) np42
    have ow44 : Ow H0 F0 (upd H37 p41 (.lst [])) p41 [] := Ow.new g40 np42
    have hA45 : RL K F0 [] ([] : List (Int × (T4 Int Int Int Int))) := RpA.nil
    obtain ⟨y_found46, hb47, hm⟩ := bnd hm
    have hx48 : ([] : List (Int × (T4 Int Int Int Int))) = y_found46 := sjoin hb47
    have hA49 : RL K F0 [] y_found46 := RL.re hx48 hA45
    refine p_name ?_
    refine p_nx ?_
    refine p_seq ?_
    refine p_for ?_
    obtain ⟨l50, hb52, hm⟩ := bnd hm
    obtain ⟨hk51, rfl⟩ := rangeO_ok hb52
    refine ⟨v7, rfl, p25, ws26, _, (by rw [ev27]), (.inl (Same.seq g43.fh hS28)), (RL.len hA30), _, _, rfl, hk51.1, ?_⟩
    obtain ⟨y_so_far53, y_mark54, y_found55, ht56, hm⟩ := bnd3 hm
    refine for_range (lo := (1 : Int)) (n := ((((y_item.e).length : Nat) : Int) - (1 : Int)).toNat) (fun i σ' H' => ∃ (F' : Hp) (y_so_far : Int) (y_mark : Int) (o_y_k : Option V) (y_found : (List (Int × (T4 Int Int Int Int)))) (ws_y_found : List V), σ' = [(some v_y_item), (some (V.int y_item.a)), (some (V.int y_item.b)), (some v6), (some v7), (some (V.int y_so_far)), (some (V.int y_mark)), (some (V.ref p41)), o_y_k] ∧ Gr M0 F0 H0 F' H' ∧ Same F0 F' ∧ Ow H0 F' H' p41 ws_y_found ∧ ws_y_found.length ≤ sizeLine ∧ RL K F' ws_y_found y_found ∧ m_l_due_l1 y_item.a y_item.c y_item.e ((rangeL (1 : Int) ((((y_item.e).length : Nat) : Int) - (1 : Int)).toNat).drop i) y_so_far y_mark y_found = some (y_so_far53, y_mark54, y_found55)) ?_ ?_ ?_
    · exact ⟨F0, r34, (0 : Int), none, y_found46, [], rfl, g43, (Same.refl _), ow44, (by show 0 ≤ sizeLine; decide), hA49, ht56⟩
    · intro i57 σ' H59 hx58 hP
      obtain ⟨F61, y_so_far62, y_mark63, o_y_k64, y_found65, ws_y_found66, rfl, g67, sm68, ow_y_found69, hl_y_found70, hA_y_found71, hm72⟩ := hP
      have he74 := rangeL_at (lo := (1 : Int)) hx58
      rw [drop_at he74, m_l_due_l1.eq_2] at hm72
      refine p_name ?_
      refine p_seq ?_
      refine p_asg ?_
      obtain ⟨t75, hb76, hm72⟩ := bnd hm72
      obtain ⟨v77, ha78, r79⟩ := RL.at (hA30.up sm68) hb76
      obtain rfl := R.int_v r79
      obtain ⟨r80, hb81, hm72⟩ := bnd hm72
      refine ⟨v6, rfl, p12, _, _, v16, ev13, rfl, (SqT_mono g67.fh (SqT_mono sm68 hS14)), rfl, (V.int y_so_far62), rfl, v7, rfl, (V.int ((1 : Int) + ((i57 : Nat) : Int))), rfl, p25, ws26, _, (V.int t75), ev27, rfl, (Same.seq g67.fh (Same.seq sm68 hS28)), ha78, v16, y_item.c.b, y_so_far62, t75, r80, rfl, (Rp.up (r20.up sm68) g67.fh), hb81, fun F82 H83 g84 => ?_⟩
      have g86 := Gr.apart g67 g84
      have ow87 := ow_y_found69.apart g84
      refine p_name ?_
      refine p_nx ?_
      refine p_seq ?_
      refine p_drop ?_
      obtain ⟨t88, hb89, hm72⟩ := bnd hm72
      obtain ⟨v90, ha91, r92⟩ := RL.at (hA30.up sm68) hb89
      obtain rfl := R.int_v r92
      obtain ⟨t93, hb94, hm72⟩ := bnd hm72
      obtain ⟨v95, ha96, r97⟩ := RL.at (hA30.up sm68) hb94
      obtain rfl := R.int_v r97
      refine ⟨(V.ref p41), rfl, (.inl ⟨rfl, _, ow87.sq⟩), v7, rfl, (V.int ((1 : Int) + ((i57 : Nat) : Int))), rfl, _, _, rfl, rfl, p25, ws26, _, (V.int t88), ev27, rfl, (Same.seq g86.fh (Same.seq sm68 hS28)), ha91, (V.int y_item.a), rfl, (V.int y_mark63), rfl, v7, rfl, (V.int ((1 : Int) + ((i57 : Nat) : Int))), rfl, p25, ws26, _, (V.int t93), ev27, rfl, (Same.seq g86.fh (Same.seq sm68 hS28)), ha96, (V.int r80), rfl, (by show 4 ≤ sizeLine; decide), fun p98 np99 => ?_⟩
      have ne100 := ow87.ne np99
      have sm101 := same_new (o := (.tup [(V.int y_item.a), (V.int y_mark63), (V.int t93), (V.int r80)])) (g86.noneF np99)
      have g102 := g86.frz (o := (.tup [(V.int y_item.a), (V.int y_mark63), (V.int t93), (V.int r80)])) np99
      have ow103 := ow87.frz (o := (.tup [(V.int y_item.a), (V.int y_mark63), (V.int t93), (V.int r80)])) np99
      have r104 : R K (upd F61 p98 (.tup [(V.int y_item.a), (V.int y_mark63), (V.int t93), (V.int r80)])) (.ref p98) ((T4.mk y_item.a y_mark63 t93 r80) : (T4 Int Int Int Int)) := R.mk4 fzT (Rp.int y_item.a) (Rp.int y_mark63) (Rp.int t93) (Rp.int r80)
      refine ⟨(by show 2 ≤ sizeLine; decide), fun p105 np106 => ?_⟩
      have ne107 := ow103.ne np106
      have sm108 := same_new (o := (.tup [(V.int t88), (V.ref p98)])) (g102.noneF np106)
      have g109 := g102.frz (o := (.tup [(V.int t88), (V.ref p98)])) np106
      have ow110 := ow103.frz (o := (.tup [(V.int t88), (V.ref p98)])) np106
      have r111 : R K (upd (upd F61 p98 (.tup [(V.int y_item.a), (V.int y_mark63), (V.int t93), (V.int r80)])) p105 (.tup [(V.int t88), (V.ref p98)])) (.ref p105) ((t88, (T4.mk y_item.a y_mark63 t93 r80)) : (Int × (T4 Int Int Int Int))) := R.mk2 fzT (Rp.int t88) (r104.up sm108)
      obtain ⟨t112, hb113, hm72⟩ := bnd hm72
      obtain ⟨hk114, rfl⟩ := appL_ok hb113
      refine ⟨p41, ws_y_found66, (V.ref p105), rfl, rfl, ow110.h, (by rw [RL.len (hA_y_found71.up (Same.trans sm101 sm108))]; exact hk114), ?_⟩
      have hA115 : RL K (upd (upd F61 p98 (.tup [(V.int y_item.a), (V.int y_mark63), (V.int t93), (V.int r80)])) p105 (.tup [(V.int t88), (V.ref p98)])) (ws_y_found66 ++ [(V.ref p105)]) (y_found65 ++ [((t88, (T4.mk y_item.a y_mark63 t93 r80)) : (Int × (T4 Int Int Int Int)))]) := RL.snoc (hA_y_found71.up (Same.trans sm101 sm108)) r111
      have hl116 : (ws_y_found66 ++ [(V.ref p105)]).length ≤ sizeLine := by rw [List.length_append, RL.len (hA_y_found71.up (Same.trans sm101 sm108))]; exact hk114
      have g117 := g109.put (o := (.lst (ws_y_found66 ++ [(V.ref p105)]))) ow110
      have ow118 := ow110.put (us := (ws_y_found66 ++ [(V.ref p105)]))
      refine p_nx ?_
      refine p_asg ?_
      refine ⟨(V.int r80), rfl, ?_⟩
      refine p_name ?_
      exact ⟨(upd (upd F61 p98 (.tup [(V.int y_item.a), (V.int y_mark63), (V.int t93), (V.int r80)])) p105 (.tup [(V.int t88), (V.ref p98)])), r80, r80, (some (V.int ((1 : Int) + ((i57 : Nat) : Int)))), (y_found65 ++ [(t88, (T4.mk y_item.a y_mark63 t93 r80))]), (ws_y_found66 ++ [(V.ref p105)]), rfl, g117, (Same.trans sm68 (Same.trans sm101 sm108)), ow118, hl116, hA115, hm72⟩
    intro σ119 H120 hP
    obtain ⟨F121, y_so_far122, y_mark123, o_y_k124, y_found125, ws_y_found126, rfl, g127, sm128, ow_y_found129, hl_y_found130, hA_y_found131, hm132⟩ := hP
    rw [drop_end (rangeL_len _ _).symm, m_l_due_l1.eq_1] at hm132
    obtain ⟨rfl, rfl, rfl⟩ := pjoin3 hm132
    refine p_nx ?_
    refine p_ret ?_
    obtain ⟨t133, hb134, hm⟩ := bnd hm
    obtain ⟨v135, ha136, r137⟩ := RL.at (hA30.up sm128) hb134
    obtain rfl := R.int_v r137
    refine ⟨(V.ref p41), rfl, v7, rfl, _, rfl, p25, ws26, _, (V.int t133), ev27, rfl, (Same.seq g127.fh (Same.seq sm128 hS28)), ha136, (V.int y_item.a), rfl, (V.int y_mark123), rfl, _, rfl, v6, rfl, p12, _, _, (V.int y_item.c.a), ev13, rfl, (SqT_mono g127.fh (SqT_mono sm128 hS14)), rfl, (by show 4 ≤ sizeLine; decide), fun p138 np139 => ?_⟩
    have ne140 := ow_y_found129.ne np139
    have sm141 := same_new (o := (.tup [(V.int y_item.a), (V.int y_mark123), (V.int (-(1 : Int))), (V.int y_item.c.a)])) (g127.noneF np139)
    have g142 := g127.frz (o := (.tup [(V.int y_item.a), (V.int y_mark123), (V.int (-(1 : Int))), (V.int y_item.c.a)])) np139
    have ow143 := ow_y_found129.frz (o := (.tup [(V.int y_item.a), (V.int y_mark123), (V.int (-(1 : Int))), (V.int y_item.c.a)])) np139
    have r144 : R K (upd F121 p138 (.tup [(V.int y_item.a), (V.int y_mark123), (V.int (-(1 : Int))), (V.int y_item.c.a)])) (.ref p138) ((T4.mk y_item.a y_mark123 (-(1 : Int)) y_item.c.a) : (T4 Int Int Int Int)) := R.mk4 fzT (Rp.int y_item.a) (Rp.int y_mark123) (Rp.int (-(1 : Int))) (Rp.int y_item.c.a)
    refine ⟨(by show 2 ≤ sizeLine; decide), fun p145 np146 => ?_⟩
    have ne147 := ow143.ne np146
    have sm148 := same_new (o := (.tup [(V.int t133), (V.ref p138)])) (g142.noneF np146)
    have g149 := g142.frz (o := (.tup [(V.int t133), (V.ref p138)])) np146
    have ow150 := ow143.frz (o := (.tup [(V.int t133), (V.ref p138)])) np146
    have r151 : R K (upd (upd F121 p138 (.tup [(V.int y_item.a), (V.int y_mark123), (V.int (-(1 : Int))), (V.int y_item.c.a)])) p145 (.tup [(V.int t133), (V.ref p138)])) (.ref p145) ((t133, (T4.mk y_item.a y_mark123 (-(1 : Int)) y_item.c.a)) : (Int × (T4 Int Int Int Int))) := R.mk2 fzT (Rp.int t133) (r144.up sm148)
    refine ⟨(by show 1 ≤ sizeLine; decide), fun p152 np153 => ?_⟩
    have ne154 := ow150.ne np153
    have g155 := g149.own (o := (.lst [(V.ref p145)])) np153
    have ow156 := ow150.own (o := (.lst [(V.ref p145)])) np153
    have ow157 : Ow H0 (upd (upd F121 p138 (.tup [(V.int y_item.a), (V.int y_mark123), (V.int (-(1 : Int))), (V.int y_item.c.a)])) p145 (.tup [(V.int t133), (V.ref p138)])) (upd (upd (upd H120 p138 (.tup [(V.int y_item.a), (V.int y_mark123), (V.int (-(1 : Int))), (V.int y_item.c.a)])) p145 (.tup [(V.int t133), (V.ref p138)])) p152 (.lst [(V.ref p145)])) p152 [(V.ref p145)] := Ow.new g149 np153
    have hA158 : RL K (upd (upd F121 p138 (.tup [(V.int y_item.a), (V.int y_mark123), (V.int (-(1 : Int))), (V.int y_item.c.a)])) p145 (.tup [(V.int t133), (V.ref p138)])) [(V.ref p145)] ([(t133, (T4.mk y_item.a y_mark123 (-(1 : Int)) y_item.c.a))] : List (Int × (T4 Int Int Int Int))) := (RpA.cons r151 RpA.nil)
    obtain ⟨t159, hb160, hm⟩ := bnd hm
    obtain ⟨hk161, rfl⟩ := conL_ok hb160
    have hz164 : (ws_y_found126 ++ [(V.ref p145)]).length ≤ sizeLine := by rw [List.length_append, RL.len (hA_y_found131.up (Same.trans sm141 sm148)), RL.len hA158]; exact hk161
    refine ⟨p41, p152, ws_y_found126, [(V.ref p145)], rfl, rfl, ow156.sq, ow157.sq, (by rw [RL.len (hA_y_found131.up (Same.trans sm141 sm148)), RL.len hA158]; exact hk161), fun p162 np163 => ?_⟩
    have hA165 := RL.app (hA_y_found131.up (Same.trans sm141 sm148)) hA158
    have ne167 := ow156.ne np163
    have ne168 := ow157.ne np163
    have g169 := g155.own (o := (.lst (ws_y_found126 ++ [(V.ref p145)]))) np163
    have ow170 := ow156.own (o := (.lst (ws_y_found126 ++ [(V.ref p145)]))) np163
    have ow171 := ow157.own (o := (.lst (ws_y_found126 ++ [(V.ref p145)]))) np163
    have ow172 : Ow H0 (upd (upd F121 p138 (.tup [(V.int y_item.a), (V.int y_mark123), (V.int (-(1 : Int))), (V.int y_item.c.a)])) p145 (.tup [(V.int t133), (V.ref p138)])) (upd (upd (upd (upd H120 p138 (.tup [(V.int y_item.a), (V.int y_mark123), (V.int (-(1 : Int))), (V.int y_item.c.a)])) p145 (.tup [(V.int t133), (V.ref p138)])) p152 (.lst [(V.ref p145)])) p162 (.lst (ws_y_found126 ++ [(V.ref p145)]))) p162 (ws_y_found126 ++ [(V.ref p145)]) := Ow.new g155 np163
    obtain rfl := sjoin hm
    exact (hQ _ _ _ _ g169 ow172.n0 ow172.h ow172.nF hz164 hA165)
end K42
namespace K42
open PySem PySem.Spec PyProof.Rows L2 TL G
theorem ok_law {P : Program} {w : World} {K : PySem.W.Frag} {mg : Str → Option Value} {base : Heap} (T : Txt K mg) (hlaw : ∀ b : Bag, BOk b → ∃ b', m_law b = some (true, b')) : GnOk P w K mg base CX0 10 T.a_law T.d_law ["_law_script"] (sp_law K) := by
  have G_l_bag : FnOk P w K mg base CX0 1 T.a_l_bag T.d_l_bag ["_law_script"] (sp_l_bag K) := ok_l_bag T
  have b_l_bag := T.F_l_bag.bindsN (ps := ["_law_script"]) fun _ _ _ _ _ _ us hl => match us, hl with | [_], _ => rfl
  have G_l_web : FnOk P w K mg base CX0 5 T.a_l_web T.d_l_web ["_law_bag_here"] (sp_l_web K) := ok_l_web T
  have b_l_web := T.F_l_web.bindsN (ps := ["_law_bag_here"]) fun _ _ _ _ _ _ us hl => match us, hl with | [_], _ => rfl
  have G_l_walked : FnOk P w K mg base CX0 3 T.a_l_walked T.d_l_walked ["_law_bag_here", "_law_web_here"] (sp_l_walked K) := ok_l_walked T
  have b_l_walked := T.F_l_walked.bindsN (ps := ["_law_bag_here", "_law_web_here"]) fun _ _ _ _ _ _ us hl => match us, hl with | [_, _], _ => rfl
  have G_l_mixed : FnOk P w K mg base CX0 3 T.a_l_mixed T.d_l_mixed ["_law_bag_here", "_law_row"] (sp_l_mixed K) := ok_l_mixed T
  have b_l_mixed := T.F_l_mixed.bindsN (ps := ["_law_bag_here", "_law_row"]) fun _ _ _ _ _ _ us hl => match us, hl with | [_, _], _ => rfl
  have G_l_draw : FnOk P w K mg base CX0 2 T.a_l_draw T.d_l_draw ["_law_bag_here", "_law_many"] (sp_l_draw K) := ok_l_draw T
  have b_l_draw := T.F_l_draw.bindsN (ps := ["_law_bag_here", "_law_many"]) fun _ _ _ _ _ _ us hl => match us, hl with | [_, _], _ => rfl
  have G_rules_of : FnOk P w K mg base CX0 2 T.a_rules_of T.d_rules_of ["net", "one"] (sp_rules_of K) := ok_rules_of T
  have b_rules_of := T.F_rules_of.bindsN (ps := ["net", "one"]) fun _ _ _ _ _ _ us hl => match us, hl with | [_, _], _ => rfl
  have G_l_alike : FnOk P w K mg base CX0 9 T.a_l_alike T.d_l_alike ["_law_found", "_law_due_here"] (sp_alike 8 K) := ok_l_alike T 9
  have b_l_alike := T.F_l_alike.bindsN (ps := ["_law_found", "_law_due_here"]) fun _ _ _ _ _ _ us hl => match us, hl with | [_, _], _ => rfl
  have G_l_due : FnOk P w K mg base CX0 2 T.a_l_due T.d_l_due ["_law_item"] (sp_l_due K) := ok_l_due T
  have b_l_due := T.F_l_due.bindsN (ps := ["_law_item"]) fun _ _ _ _ _ _ us hl => match us, hl with | [_], _ => rfl
  have G_l_unrolled : FnOk P w K mg base CX0 3 T.a_l_unrolled T.d_l_unrolled ["_law_web_here", "_law_item", "_law_told"] (sp_l_unrolled K) := ok_l_unrolled T
  have b_l_unrolled := T.F_l_unrolled.bindsN (ps := ["_law_web_here", "_law_item", "_law_told"]) fun _ _ _ _ _ _ us hl => match us, hl with | [_, _, _], _ => rfl
  refine fd_okG T.F_law sc_law (fun vs H Q E h => ?_) (fun cdv A outer s H0 vs Q E hr hgd h => ?_)
  · obtain ⟨_, _, rfl, _⟩ := h
    rfl
  · obtain ⟨a_, ns_, rfl, hS_, hl_, hQ_⟩ := h
    refine ⟨_, (pss_cons (ps_set (i := 1) sc_law.nd rfl (.inl rfl) (pe_call G_l_bag (hr.mono (by decide)) (by rfl) T.g_l_bag T.F_l_bag.kp b_l_bag .nil pass0 (pa_cons (pv 0) pa_nil))) (pss_cons (ps_for PassesOwn.never rfl (pi_range1 (by rfl) T.n_range (pa_cons pe_int pa_nil)) (pg_name (i := 2) sc_law.nd rfl (Or.inl rfl)) (pss_cons (ps_set (i := 3) sc_law.nd rfl (.inl rfl) (pe_call G_l_web (hr.mono (by decide)) (by rfl) T.g_l_web T.F_l_web.kp b_l_web .nil pass0 (pa_cons (pv 1) pa_nil))) (pss_cons (ps_asg (pe_call G_l_walked (hr.mono (by decide)) (by rfl) T.g_l_walked T.F_l_walked.kp b_l_walked .nil pass0 (pa_cons (pv 1) (pa_cons (pv 3) pa_nil))) (pg_tupK (K := K) 2 rfl (pgs_cons (pg_name (i := 4) sc_law.nd rfl (Or.inl rfl)) (pgs_cons (pg_name (i := 5) sc_law.nd rfl (Or.inr rfl)) pgs_nil)))) (pss_cons (ps_set (i := 6) sc_law.nd rfl (.inl rfl) (pe_op (op_catLK (K := K)) (pe_slice (sl_listK (K := K)) (pe_ix (ix_tupK (K := K)) (pv 3) pe_int (fun _ _ => rfl)) po_none (po_some pe_int)) (pe_lst (pa_cons (pe_ix (ix_listK (K := K)) (pv 5) pe_int (fun _ _ => rfl)) (pa_cons (pe_ix (ix_listK (K := K)) (pv 5) (pe_un un_neg pe_int) (fun _ _ => rfl)) pa_nil))))) (pss_cons (ps_set (i := 3) sc_law.nd rfl (.inl rfl) (pe_tup (pa_cons (pe_ix (ix_tupK (K := K)) (pv 3) pe_int (fun _ _ => rfl)) (pa_cons (pe_ix (ix_tupK (K := K)) (pv 3) pe_int (fun _ _ => rfl)) (pa_cons (pe_ix (ix_tupK (K := K)) (pv 3) pe_int (fun _ _ => rfl)) (pa_cons (pv 6) pa_nil)))))) (pss_cons (ps_setLc (i := 7) (own := [("_law_house", 15)]) rfl sc_law.nd rfl rfl (sw_true rfl rfl rfl (by decide +kernel)) (pi_range1 (by rfl) T.n_range (pa_cons (pe_ix (ix_tupK (K := K)) (pv 3) pe_int (fun _ _ => rfl)) pa_nil)) (blkOk_by (own := [("_law_house", 15)]) (N := N_law) (sc := defScope s_law) (by decide +kernel)) (fun _ _ _ _ _ => (pg_name (i := 15) sc_law.nd rfl (Or.inl rfl) (.inr rfl))) (fun _ _ _ _ _ => (pts_one (pt_cmpR (op_notInI (K := K)) (pv 15) (pv 5) rfl))) (fun _ _ _ _ _ => (pv 15))) (pss_cons (ps_set (i := 8) sc_law.nd rfl (.inl rfl) (pe_callB (cr_sortedI_ (K := K)) (by rfl) T.n_sorted (by decide +kernel) (pa_cons (pe_slice (sl_listK (K := K)) (pe_call G_l_mixed (hr.mono (by decide)) (by rfl) T.g_l_mixed T.F_l_mixed.kp b_l_mixed .nil pass0 (pa_cons (pv 1) (pa_cons (pv 7) pa_nil))) po_none (po_some (pe_call G_l_draw (hr.mono (by decide)) (by rfl) T.g_l_draw T.F_l_draw.kp b_l_draw .nil pass0 (pa_cons (pv 1) (pa_cons pe_int pa_nil))))) pa_nil))) (pss_cons (ps_set (i := 9) sc_law.nd rfl (.inl rfl) (pe_ix (ix_listK (K := K)) (pe_lst (pa_cons pe_non (pa_cons (pe_op op_sub (pe_callB (call_lenLK (K := K)) (by rfl) T.n_len (by decide +kernel) (pa_cons (pv 5) pa_nil)) pe_int) (pa_cons (pe_op op_add (pe_callB (call_lenLK (K := K)) (by rfl) T.n_len (by decide +kernel) (pa_cons (pv 5) pa_nil)) (pe_call G_l_draw (hr.mono (by decide)) (by rfl) T.g_l_draw T.F_l_draw.kp b_l_draw .nil pass0 (pa_cons (pv 1) (pa_cons pe_int pa_nil)))) (pa_cons (pe_op op_sub (pe_op op_pow pe_int pe_int) pe_int) pa_nil))))) (pe_call G_l_draw (hr.mono (by decide)) (by rfl) T.g_l_draw T.F_l_draw.kp b_l_draw .nil pass0 (pa_cons (pv 1) (pa_cons pe_int pa_nil))) (fun _ _ => rfl))) (pss_cons (ps_set (i := 10) sc_law.nd rfl (.inl rfl) (pe_op op_add (pe_op op_pow pe_int pe_int) (pe_call G_l_draw (hr.mono (by decide)) (by rfl) T.g_l_draw T.F_l_draw.kp b_l_draw .nil pass0 (pa_cons (pv 1) (pa_cons (pe_op op_pow pe_int pe_int) pa_nil))))) (pss_cons (ps_set (i := 11) sc_law.nd rfl (.inl rfl) (pe_ix (ix_listK (K := K)) (pe_lst (pa_cons (pe_call G_l_draw (hr.mono (by decide)) (by rfl) T.g_l_draw T.F_l_draw.kp b_l_draw .nil pass0 (pa_cons (pv 1) (pa_cons pe_int pa_nil))) (pa_cons (pv 10) (pa_cons (pe_un un_neg pe_int) (pa_cons (pe_op op_sub pe_int (pe_call G_l_draw (hr.mono (by decide)) (by rfl) T.g_l_draw T.F_l_draw.kp b_l_draw .nil pass0 (pa_cons (pv 1) (pa_cons (pe_op op_pow pe_int pe_int) pa_nil)))) pa_nil))))) (pe_call G_l_draw (hr.mono (by decide)) (by rfl) T.g_l_draw T.F_l_draw.kp b_l_draw .nil pass0 (pa_cons (pv 1) (pa_cons pe_int pa_nil))) (fun _ _ => rfl))) (pss_cons (ps_set (i := 12) sc_law.nd rfl (.inl rfl) (pe_tup (pa_cons (pv 11) (pa_cons (pe_op op_sub (pe_callB (call_lenLK (K := K)) (by rfl) T.n_len (by decide +kernel) (pa_cons (pv 6) pa_nil)) pe_int) (pa_cons (pe_tup (pa_cons (pe_op op_sub (pe_callB (call_lenLK (K := K)) (by rfl) T.n_len (by decide +kernel) (pa_cons (pv 6) pa_nil)) pe_int) (pa_cons (pv 4) (pa_cons (pe_tupleOfK (K := K) (by rfl) T.n_tuple (pv 8)) (pa_cons (pv 9) pa_nil))))) (pa_cons (pv 5) pa_nil)))))) (pss_cons (ps_set (i := 13) sc_law.nd rfl (.inl rfl) (pe_callB (call_reprOK (α := (List ((T4 Int Int (List (Int × Int)) (List Int)) ⊕ (T4 Int Int (T4 Int (VT Int) (VT Int) (Option Int)) (List Int))))) (K := K) hgd hr) (by rfl) T.n_repr (by decide +kernel) (pa_cons (pe_lst (pa_cons (pv 3) (pa_cons (pv 12) pa_nil))) pa_nil))) (pss_cons (ps_set (i := 14) sc_law.nd rfl (.inl rfl) (pe_call G_rules_of (hr.mono (by decide)) (by rfl) T.g_rules_of T.F_rules_of.kp b_rules_of .nil pass0 (pa_cons (pv 3) (pa_cons (pv 12) pa_nil)))) (pss_cons (ps_if (PW.pt (pw_or (pt_not (pt_val (pe_call G_l_alike (hr.mono (by decide)) (by rfl) T.g_l_alike T.F_l_alike.kp b_l_alike .nil pass0 (pa_cons (pv 14) (pa_cons (pe_call G_l_due (hr.mono (by decide)) (by rfl) T.g_l_due T.F_l_due.kp b_l_due .nil pass0 (pa_cons (pv 12) pa_nil)) pa_nil))))) (pw_or1 (pt_not (pt_val (pe_call G_l_unrolled (hr.mono (by decide)) (by rfl) T.g_l_unrolled T.F_l_unrolled.kp b_l_unrolled .nil pass0 (pa_cons (pv 3) (pa_cons (pv 12) (pa_cons (pv 14) pa_nil))))))))) (pss_one (ps_ret pe_bl)) pss_nil) (pss_cons (ps_expr (pe_bmK (K := K) PySem.F.plainAttrs_list PySem.F.slot_list_append PySem.F.type_list_append mt_append (pv 14) (pa_cons (pe_tup (pa_cons pe_int (pa_cons (pe_tup (pa_cons pe_int (pa_cons pe_int (pa_cons (pe_un un_neg pe_int) (pa_cons pe_int pa_nil))))) pa_nil))) pa_nil))) (pss_cons (ps_asg pe_non (pg_sub (pv 14) pe_int set_list)) (pss_one (ps_if (PW.pt (pw_or (pt_not (pt_val (pe_call G_l_alike (hr.mono (by decide)) (by rfl) T.g_l_alike T.F_l_alike.kp b_l_alike .nil pass0 (pa_cons (pe_callK0 G_rules_of (hr.mono (by decide)) (by rfl) T.g_rules_of T.F_rules_of.kp (kb_rules_of_0 T.F_rules_of) pass0 (pk_cons (pv 12) (pk_cons (pv 3) pk_nil))) (pa_cons (pe_call G_l_due (hr.mono (by decide)) (by rfl) T.g_l_due T.F_l_due.kp b_l_due .nil pass0 (pa_cons (pv 12) pa_nil)) pa_nil))))) (pw_or1 (pt_cmpR op_ne (pe_callB (call_reprOK (α := (List ((T4 Int Int (List (Int × Int)) (List Int)) ⊕ (T4 Int Int (T4 Int (VT Int) (VT Int) (Option Int)) (List Int))))) (K := K) hgd hr) (by rfl) T.n_repr (by decide +kernel) (pa_cons (pe_lst (pa_cons (pv 3) (pa_cons (pv 12) pa_nil))) pa_nil)) (pv 13) (nomark _))))) (pss_one (ps_ret pe_bl)) pss_nil)))))))))))))))))) (pss_one (ps_ret pe_bl)))), ?_⟩
    refine p_seq ?_
    refine p_asg ?_
    refine ⟨_, rfl, a_, ns_, rfl, hS_, hl_, fun B C b F0 H0 hS0 hB hb_ hScr_ hNm_ => ?_⟩
    refine p_name ?_
    refine p_nx ?_
    obtain ⟨b_, hm⟩ := hlaw b hb_
    have hQ : ∀ F' H', Gr (Bc B C) F0 H0 F' H' → BagAt F' H' B C b_ → Q (.bl true) H' := fun _ H' _ _ => hQ_ H'
    have g0 : Gr (Bc B C) F0 H0 F0 H0 := Gr.refl hS0
    unfold m_law at hm
    refine p_seq ?_
    refine p_for ?_
    refine ⟨_, rfl, (by decide), (by decide), ?_⟩
    obtain ⟨l2, ht3, hm⟩ := bndL1 hm
    refine for_range (lo := (0 : Int)) (n := (6 : Nat)) (fun i σ' H' => ∃ (F' : Hp) (o_y_turn : Option V) (o_y_web_here : Option V) (o_y_by : Option V) (o_y_line : Option V) (o_y_doors : Option V) (o_y_rest : Option V) (o_y_past : Option V) (o_y_most : Option V) (o_y_great : Option V) (o_y_digit : Option V) (o_y_item : Option V) (o_y_kept : Option V) (o_y_told : Option V) (b : Bag), σ' = [(some (V.ref a_)), (some (V.ref B)), o_y_turn, o_y_web_here, o_y_by, o_y_line, o_y_doors, o_y_rest, o_y_past, o_y_most, o_y_great, o_y_digit, o_y_item, o_y_kept, o_y_told, none] ∧ Gr (Bc B C) F0 H0 F' H' ∧ Same F0 F' ∧ BagAt F' H' B C b ∧ m_law_l1  ((rangeL (0 : Int) 6).drop i) b = some l2) ?_ ?_ ?_
    · exact ⟨F0, none, none, none, none, none, none, none, none, none, none, none, none, none, b, rfl, g0, (Same.refl _), hB, ht3⟩
    · intro i4 σ' H6 hx5 hP
      obtain ⟨F8, o_y_turn9, o_y_web_here10, o_y_by11, o_y_line12, o_y_doors13, o_y_rest14, o_y_past15, o_y_most16, o_y_great17, o_y_digit18, o_y_item19, o_y_kept20, o_y_told21, b22, rfl, g23, sm24, hB25, hm26⟩ := hP
      have he28 := rangeL_at (lo := (0 : Int)) hx5
      rw [drop_at he28, m_law_l1.eq_2] at hm26
      refine p_name ?_
      refine p_seq ?_
      refine p_asg ?_
      obtain ⟨r29, b30, hb31, hm26⟩ := bnd2 hm26
      refine ⟨(V.ref B), rfl, F8, B, C, b22, r29, b30, rfl, g23.fh, hB25, hb31, fun v36 F32 H33 g34 hB35 r37 => ?_⟩
      have g38 := Gr.trans g23 g34
      refine p_name ?_
      refine p_nx ?_
      refine p_seq ?_
      refine p_asg ?_
      obtain ⟨r39, b40, hb41, hm26⟩ := bnd2 hm26
      refine ⟨(V.ref B), rfl, v36, rfl, F32, B, C, b30, v36, r29, r39, b40, rfl, g38.fh, hB35, r37, hb41, fun v46 F42 H43 g44 hB45 r47 => ?_⟩
      have g48 := Gr.trans g38 g44
      obtain ⟨p49, v52, v53, ev50, hS51, r54, r55⟩ := R.p2_v r47
      refine ⟨p49, [v52, v53], ev50, (SqT_mono g48.fh hS51), rfl, v52, [v53], rfl, v53, [], rfl, rfl, ?_⟩
      refine p_nx ?_
      refine p_seq ?_
      refine p_asg ?_
      obtain ⟨p56, v59, v60, v61, v62, ev57, hS58, r63, r64, r65, r66⟩ := R.p4_v r37
      obtain rfl := R.int_v r63
      obtain rfl := R.int_v r64
      obtain ⟨p67, ws68, ev69, hS70, hl71, hA72⟩ := R.lst_v r66
      refine ⟨v36, rfl, p56, _, _, v62, ev57, rfl, (SqT_mono g48.fh (SqT_mono g44.ff hS58)), rfl, _, rfl, p67, ws68, ev69, (Same.seq g48.fh (Same.seq g44.ff hS70)), fun p73 np74 => ?_⟩
      have hA75 : RL K F42 (cutV ws68 none (some (6 : Int))) (cutL r29.e none (some (6 : Int))) := RL.cut none (some (6 : Int)) (hA72.up g44.ff)
      have nb76 := hB45.nb np74
      have g77 := g48.own (o := (.lst (cutV ws68 none (some (6 : Int))))) np74
      have hB78 := hB45.own (o := (.lst (cutV ws68 none (some (6 : Int))))) np74
      have ow79 : Ow H0 F42 (upd H43 p73 (.lst (cutV ws68 none (some (6 : Int))))) p73 (cutV ws68 none (some (6 : Int))) := Ow.new g48 np74
      obtain ⟨t80, hb81, hm26⟩ := bnd hm26
      obtain ⟨p82, ws83, ev84, hS85, hl86, hA87⟩ := R.lst_v r55
      obtain ⟨v88, ha89, r90⟩ := RL.at hA87 hb81
      obtain rfl := R.int_v r90
      obtain ⟨t91, hb92, hm26⟩ := bnd hm26
      obtain ⟨v93, ha94, r95⟩ := RL.at hA87 hb92
      obtain rfl := R.int_v r95
      refine ⟨v53, rfl, p82, ws83, _, (V.int t80), ev84, rfl, (Same.seq g77.fh hS85), ha89, v53, rfl, _, rfl, p82, ws83, _, (V.int t91), ev84, rfl, (Same.seq g77.fh hS85), ha94, (by show 2 ≤ sizeLine; decide), fun p96 np97 => ?_⟩
      have ne98 := ow79.ne np97
      have nb99 := hB78.nb np97
      have g100 := g77.own (o := (.lst [(V.int t80), (V.int t91)])) np97
      have ow101 := ow79.own (o := (.lst [(V.int t80), (V.int t91)])) np97
      have hB102 := hB78.own (o := (.lst [(V.int t80), (V.int t91)])) np97
      have ow103 : Ow H0 F42 (upd (upd H43 p73 (.lst (cutV ws68 none (some (6 : Int))))) p96 (.lst [(V.int t80), (V.int t91)])) p96 [(V.int t80), (V.int t91)] := Ow.new g77 np97
      have hA104 : RL K F42 [(V.int t80), (V.int t91)] ([t80, t91] : List Int) := (RpA.cons (Rp.int t80) (RpA.cons (Rp.int t91) RpA.nil))
      obtain ⟨t105, hb106, hm26⟩ := bnd hm26
      obtain ⟨hk107, rfl⟩ := conL_ok hb106
      have hz110 : ((cutV ws68 none (some (6 : Int))) ++ [(V.int t80), (V.int t91)]).length ≤ sizeLine := by rw [List.length_append, RL.len hA75, RL.len hA104]; exact hk107
      refine ⟨p73, p96, (cutV ws68 none (some (6 : Int))), [(V.int t80), (V.int t91)], rfl, rfl, ow101.sq, ow103.sq, (by rw [RL.len hA75, RL.len hA104]; exact hk107), fun p108 np109 => ?_⟩
      have hA111 := RL.app hA75 hA104
      have ne113 := ow101.ne np109
      have ne114 := ow103.ne np109
      have nb115 := hB102.nb np109
      have g116 := g100.own (o := (.lst ((cutV ws68 none (some (6 : Int))) ++ [(V.int t80), (V.int t91)]))) np109
      have ow117 := ow101.own (o := (.lst ((cutV ws68 none (some (6 : Int))) ++ [(V.int t80), (V.int t91)]))) np109
      have ow118 := ow103.own (o := (.lst ((cutV ws68 none (some (6 : Int))) ++ [(V.int t80), (V.int t91)]))) np109
      have hB119 := hB102.own (o := (.lst ((cutV ws68 none (some (6 : Int))) ++ [(V.int t80), (V.int t91)]))) np109
      have ow120 : Ow H0 F42 (upd (upd (upd H43 p73 (.lst (cutV ws68 none (some (6 : Int))))) p96 (.lst [(V.int t80), (V.int t91)])) p108 (.lst ((cutV ws68 none (some (6 : Int))) ++ [(V.int t80), (V.int t91)]))) p108 ((cutV ws68 none (some (6 : Int))) ++ [(V.int t80), (V.int t91)]) := Ow.new g100 np109
      obtain ⟨y_doors121, hx122⟩ : ∃ z_, ((cutL r29.e none (some (6 : Int))) ++ ([t80, t91] : List Int)) = z_ := ⟨_, rfl⟩
      try rw [hx122] at hm26
      have hA123 : RL K F42 ((cutV ws68 none (some (6 : Int))) ++ [(V.int t80), (V.int t91)]) y_doors121 := RL.re hx122 hA111
      refine p_name ?_
      refine p_nx ?_
      refine p_seq ?_
      refine p_asg ?_
      have sm124 := ow120.sf
      have g125 := g116.fz ow120
      have ow126 : Ow H0 (upd F42 p108 (.lst ((cutV ws68 none (some (6 : Int))) ++ [(V.int t80), (V.int t91)]))) (upd (upd (upd H43 p73 (.lst (cutV ws68 none (some (6 : Int))))) p96 (.lst [(V.int t80), (V.int t91)])) p108 (.lst ((cutV ws68 none (some (6 : Int))) ++ [(V.int t80), (V.int t91)]))) p73 (cutV ws68 none (some (6 : Int))) := ow117.fz ne113
      have ow127 : Ow H0 (upd F42 p108 (.lst ((cutV ws68 none (some (6 : Int))) ++ [(V.int t80), (V.int t91)]))) (upd (upd (upd H43 p73 (.lst (cutV ws68 none (some (6 : Int))))) p96 (.lst [(V.int t80), (V.int t91)])) p108 (.lst ((cutV ws68 none (some (6 : Int))) ++ [(V.int t80), (V.int t91)]))) p96 [(V.int t80), (V.int t91)] := ow118.fz ne114
      have hB128 : BagAt (upd F42 p108 (.lst ((cutV ws68 none (some (6 : Int))) ++ [(V.int t80), (V.int t91)]))) (upd (upd (upd H43 p73 (.lst (cutV ws68 none (some (6 : Int))))) p96 (.lst [(V.int t80), (V.int t91)])) p108 (.lst ((cutV ws68 none (some (6 : Int))) ++ [(V.int t80), (V.int t91)]))) B C b40 := hB119.fz nb115
      have r129 : R K (upd F42 p108 (.lst ((cutV ws68 none (some (6 : Int))) ++ [(V.int t80), (V.int t91)]))) (.ref p108) y_doors121 := R.mkl fzS hz110 (RpA.up hA123 sm124)
      refine ⟨v36, rfl, p56, _, _, (V.int r29.a), ev57, rfl, (SqT_mono g116.fh (SqT_mono g44.ff hS58)), rfl, v36, rfl, p56, _, _, (V.int r29.b), ev57, rfl, (SqT_mono g116.fh (SqT_mono g44.ff hS58)), rfl, v36, rfl, p56, _, _, v61, ev57, rfl, (SqT_mono g116.fh (SqT_mono g44.ff hS58)), rfl, (V.ref p108), rfl, (by show 4 ≤ sizeLine; decide), fun p130 np131 => ?_⟩
      have ne132 := ow126.ne np131
      have ne133 := ow127.ne np131
      have nb134 := hB128.nb np131
      have sm135 := same_new (o := (.tup [(V.int r29.a), (V.int r29.b), v61, (V.ref p108)])) (g125.noneF np131)
      have g136 := g125.frz (o := (.tup [(V.int r29.a), (V.int r29.b), v61, (V.ref p108)])) np131
      have ow137 := ow126.frz (o := (.tup [(V.int r29.a), (V.int r29.b), v61, (V.ref p108)])) np131
      have ow138 := ow127.frz (o := (.tup [(V.int r29.a), (V.int r29.b), v61, (V.ref p108)])) np131
      have hB139 := hB128.frz (o := (.tup [(V.int r29.a), (V.int r29.b), v61, (V.ref p108)])) np131
      have r140 : R K (upd (upd F42 p108 (.lst ((cutV ws68 none (some (6 : Int))) ++ [(V.int t80), (V.int t91)]))) p130 (.tup [(V.int r29.a), (V.int r29.b), v61, (V.ref p108)])) (.ref p130) ((T4.mk r29.a r29.b r29.c y_doors121) : (T4 Int Int (List (Int × Int)) (List Int))) := R.mk4 fzT (Rp.int r29.a) (Rp.int r29.b) (r65.up (Same.trans g44.ff (Same.trans sm124 sm135))) (r129.up sm135)
      obtain ⟨y_web_here141, hb142, hm26⟩ := bnd hm26
      have hx143 : (T4.mk r29.a r29.b r29.c y_doors121) = y_web_here141 := sjoin hb142
      have r144 : R K _ (V.ref p130) y_web_here141 := hx143 ▸ (r140 : R K _ (V.ref p130) (T4.mk r29.a r29.b r29.c y_doors121))
      refine p_name ?_
      refine p_nx ?_
      refine p_seq ?_
      refine p_asg ?_
      obtain ⟨p145, v148, v149, v150, v151, ev146, hS147, r152, r153, r154, r155⟩ := R.p4_v r144
      obtain rfl := R.int_v r152
      obtain rfl := R.int_v r153
      obtain ⟨l156, hb158, hm26⟩ := bnd hm26
      obtain ⟨hk157, rfl⟩ := rangeO1_ok hb158
      refine ⟨(V.ref p130), rfl, p145, _, _, (V.int y_web_here141.b), ev146, rfl, (SqT_mono g136.fh hS147), rfl, _, rfl, hk157.1.1, hk157.1.2, fun D159 nD160 => ?_⟩
      have ne161 := ow137.ne nD160
      have ne162 := ow138.ne nD160
      have nb163 := hB139.nb nD160
      have g164 := g136.own (o := (.lst [])) nD160
      have ow165 := ow137.own (o := (.lst [])) nD160
      have ow166 := ow138.own (o := (.lst [])) nD160
      have hB167 := hB139.own (o := (.lst [])) nD160
      have ow168 : Ow H0 (upd (upd F42 p108 (.lst ((cutV ws68 none (some (6 : Int))) ++ [(V.int t80), (V.int t91)]))) p130 (.tup [(V.int r29.a), (V.int r29.b), v61, (V.ref p108)])) (upd (upd (upd (upd (upd H43 p73 (.lst (cutV ws68 none (some (6 : Int))))) p96 (.lst [(V.int t80), (V.int t91)])) p108 (.lst ((cutV ws68 none (some (6 : Int))) ++ [(V.int t80), (V.int t91)]))) p130 (.tup [(V.int r29.a), (V.int r29.b), v61, (V.ref p108)])) D159 (.lst [])) D159 [] := Ow.new g136 nD160
      refine lc_range (lo := (0 : Int)) (n := (y_web_here141.b).toNat) (fun i H' => ∃ (F' : Hp) (acc : List V) (ds : List Int), Gr (Bc B C) F0 H0 F' H' ∧ Same (upd (upd F42 p108 (.lst ((cutV ws68 none (some (6 : Int))) ++ [(V.int t80), (V.int t91)]))) p130 (.tup [(V.int r29.a), (V.int r29.b), v61, (V.ref p108)])) F' ∧ Ow H0 F' H' D159 acc ∧ RL K F' acc ds ∧ acc.length ≤ i ∧ Ow H0 F' H' p73 (cutV ws68 none (some (6 : Int))) ∧ Ow H0 F' H' p96 [(V.int t80), (V.int t91)] ∧ BagAt F' H' B C b40 ∧ ds ++ m_law_c2 r39.2 ((rangeL (0 : Int) (y_web_here141.b).toNat).drop i) = (m_law_c2 r39.2 (rangeL (0 : Int) (y_web_here141.b).toNat))) ?_ ?_ ?_
      · exact ⟨(upd (upd F42 p108 (.lst ((cutV ws68 none (some (6 : Int))) ++ [(V.int t80), (V.int t91)]))) p130 (.tup [(V.int r29.a), (V.int r29.b), v61, (V.ref p108)])), [], [], g164, Same.refl _, ow168, RpA.nil, Nat.le_refl _, ow165, ow166, hB167, rfl⟩
      · intro i171 H173 hx172 hP
        obtain ⟨F174, acc175, ds176, g0177, sm178, owD179, hA180, hi181, ow0182, ow1183, hB184, hr185⟩ := hP
        have he187 := rangeL_at (lo := (0 : Int)) hx172
        rw [drop_at he187, m_law_c2.eq_2] at hr185
        refine ⟨rfl, (V.int ((0 : Int) + ((i171 : Nat) : Int))), rfl, v53, rfl, _, p82, _, rfl, (by rw [ev84]), (.inl (by rw [← RL.ints (hA87.up (Same.trans sm124 (Same.trans sm135 sm178)))]; exact (Same.seq g0177.fh (Same.seq (Same.trans sm124 (Same.trans sm135 sm178)) hS85)))), _, rfl, (iteB (fun hc => ?_) (fun hc => ?_))⟩
        · have hc : (!decide (((0 : Int) + ((i171 : Nat) : Int)) ∈ r39.2)) = true := hc
          rw [if_pos hc] at hr185
          have hA188 : RL K F174 (acc175 ++ [(V.int ((0 : Int) + ((i171 : Nat) : Int)))]) (ds176 ++ [(((0 : Int) + ((i171 : Nat) : Int)) : Int)]) := RL.snoc hA180 (Rp.int ((0 : Int) + ((i171 : Nat) : Int)))
          refine ⟨(V.int ((0 : Int) + ((i171 : Nat) : Int))), rfl, acc175, owD179.h, (lt_line hi181 hx172 hk157.2), ?_⟩
          have g189 := g0177.put (o := (.lst (acc175 ++ [(V.int ((0 : Int) + ((i171 : Nat) : Int)))]))) owD179
          have ow190 := ow0182.other (o := (.lst (acc175 ++ [(V.int ((0 : Int) + ((i171 : Nat) : Int)))]))) ne161
          have ow191 := ow1183.other (o := (.lst (acc175 ++ [(V.int ((0 : Int) + ((i171 : Nat) : Int)))]))) ne162
          have hB192 := hB184.other (o := (.lst (acc175 ++ [(V.int ((0 : Int) + ((i171 : Nat) : Int)))]))) nb163
          have ow193 := owD179.put (us := (acc175 ++ [(V.int ((0 : Int) + ((i171 : Nat) : Int)))]))
          exact ⟨F174, (acc175 ++ [(V.int ((0 : Int) + ((i171 : Nat) : Int)))]), (ds176 ++ [((0 : Int) + ((i171 : Nat) : Int))]), g189, sm178, ow193, hA188, (by rw [List.length_append]; exact Nat.succ_le_succ hi181), ow190, ow191, hB192, (snoc_rest hr185)⟩
        · have hc : (!decide (((0 : Int) + ((i171 : Nat) : Int)) ∈ r39.2)) = false := hc
          rw [if_neg (ne_true_of_eq_false hc)] at hr185
          exact ⟨F174, acc175, ds176, g0177, sm178, owD179, hA180, (Nat.le_succ_of_le hi181), ow0182, ow1183, hB184, hr185⟩
      intro H194 hP
      obtain ⟨F195, acc196, ds197, g0199, sm200, owD201, hA202, hi203, ow0204, ow1205, hB206, hr207⟩ := hP
      rw [drop_end (rangeL_len _ _).symm] at hr207
      rw [m_law_c2.eq_1, List.append_nil] at hr207
      obtain rfl := hr207
      have hl208 : acc196.length ≤ sizeLine := Nat.le_trans hi203 hk157.2
      obtain ⟨y_rest209, hb210, hm26⟩ := bnd hm26
      have hx211 : (m_law_c2 r39.2 (rangeL (0 : Int) (y_web_here141.b).toNat)) = y_rest209 := sjoin hb210
      have hA212 : RL K F195 acc196 y_rest209 := RL.re hx211 hA202
      refine p_name ?_
      refine p_nx ?_
      refine p_seq ?_
      refine p_asg ?_
      obtain ⟨r213, b214, hb215, hm26⟩ := bnd2 hm26
      refine ⟨(V.ref B), rfl, (V.ref D159), rfl, F195, B, C, b40, D159, acc196, y_rest209, r213, b214, rfl, g0199.fh, hB206, owD201.sq, hl208, hA212, (fun _ _ g_ => g_.seq nb163 owD201.sq), hb215, fun p220 ws221 F216 H217 g218 hB219 np222 h223 nF224 hl225 hA226 => ?_⟩
      have ne227 := ow0204.ne np222
      have ne228 := ow1205.ne np222
      have ne229 := owD201.ne np222
      have nb230 := hB206.nb np222
      have n0231 := g0199.none0 np222
      have g232 := Gr.trans g0199 g218
      have ow233 := ow0204.gr g218 nb76
      have ow234 := ow1205.gr g218 nb99
      have ow235 := owD201.gr g218 nb163
      have ow236 : Ow H0 F216 H217 p220 ws221 := ⟨h223, nF224, n0231⟩
      obtain ⟨r237, b238, hb239, hm26⟩ := bnd2 hm26
      refine ⟨(V.ref B), rfl, F216, B, C, b214, (4 : Int), r237, b238, rfl, g232.fh, hB219, hb239, fun F240 H241 g242 hB243 => ?_⟩
      have g245 := Gr.trans g232 g242
      have ow246 := ow233.gr g242 nb76
      have ow247 := ow234.gr g242 nb99
      have ow248 := ow235.gr g242 nb163
      have ow249 := ow236.gr g242 nb230
      refine ⟨_, rfl, p220, ws221, rfl, ow249.sq, fun p250 np251 => ?_⟩
      have hA252 : RL K F240 (cutV ws221 none (some r237)) (cutL r213 none (some r237)) := RL.cut none (some r237) (hA226.up g242.ff)
      have ne253 := ow246.ne np251
      have ne254 := ow247.ne np251
      have ne255 := ow248.ne np251
      have ne256 := ow249.ne np251
      have nb257 := hB243.nb np251
      have g258 := g245.own (o := (.lst (cutV ws221 none (some r237)))) np251
      have ow259 := ow246.own (o := (.lst (cutV ws221 none (some r237)))) np251
      have ow260 := ow247.own (o := (.lst (cutV ws221 none (some r237)))) np251
      have ow261 := ow248.own (o := (.lst (cutV ws221 none (some r237)))) np251
      have ow262 := ow249.own (o := (.lst (cutV ws221 none (some r237)))) np251
      have hB263 := hB243.own (o := (.lst (cutV ws221 none (some r237)))) np251
      have ow264 : Ow H0 F240 (upd H241 p250 (.lst (cutV ws221 none (some r237)))) p250 (cutV ws221 none (some r237)) := Ow.new g245 np251
      have ln270 := RL.len hA252
      refine ⟨p250, (cutL r213 none (some r237)), rfl, (by rw [← RL.ints hA252]; exact ow264.sq), fun ns265 p268 pm266 so267 np269 => ?_⟩
      obtain rfl := sortI_uniq pm266 so267
      have hl271 : ((sortI (cutL r213 none (some r237))).map V.int).length ≤ sizeLine := by rw [List.length_map, sortI_len, ← ln270]; exact (Nat.le_trans (cutV_length _ _ _) hl225)
      have hA272 : RL K F240 ((sortI (cutL r213 none (some r237))).map V.int) (sortI (cutL r213 none (some r237))) := RL.ofInts _
      have ne273 := ow259.ne np269
      have ne274 := ow260.ne np269
      have ne275 := ow261.ne np269
      have ne276 := ow262.ne np269
      have ne277 := ow264.ne np269
      have nb278 := hB263.nb np269
      have g279 := g258.own (o := (.lst ((sortI (cutL r213 none (some r237))).map V.int))) np269
      have ow280 := ow259.own (o := (.lst ((sortI (cutL r213 none (some r237))).map V.int))) np269
      have ow281 := ow260.own (o := (.lst ((sortI (cutL r213 none (some r237))).map V.int))) np269
      have ow282 := ow261.own (o := (.lst ((sortI (cutL r213 none (some r237))).map V.int))) np269
      have ow283 := ow262.own (o := (.lst ((sortI (cutL r213 none (some r237))).map V.int))) np269
      have ow284 := ow264.own (o := (.lst ((sortI (cutL r213 none (some r237))).map V.int))) np269
      have hB285 := hB263.own (o := (.lst ((sortI (cutL r213 none (some r237))).map V.int))) np269
      have ow286 : Ow H0 F240 (upd (upd H241 p250 (.lst (cutV ws221 none (some r237)))) p268 (.lst ((sortI (cutL r213 none (some r237))).map V.int))) p268 ((sortI (cutL r213 none (some r237))).map V.int) := Ow.new g258 np269
      obtain ⟨y_past287, hb288, hm26⟩ := bnd hm26
      have hx289 : (sortI (cutL r213 none (some r237))) = y_past287 := sjoin hb288
      have hA290 : RL K F240 ((sortI (cutL r213 none (some r237))).map V.int) y_past287 := RL.re hx289 hA272
      refine p_name ?_
      refine p_nx ?_
      refine p_seq ?_
      refine p_asg ?_
      obtain ⟨r291, b292, hb293, hm26⟩ := bnd2 hm26
      refine ⟨v53, rfl, p82, ws83, _, (by rw [ev84]), (.inl (Same.seq g279.fh (Same.seq (Same.trans sm124 (Same.trans sm135 (Same.trans sm200 (Same.trans g218.ff g242.ff)))) hS85))), (RL.len (hA87.up (Same.trans sm124 (Same.trans sm135 (Same.trans sm200 (Same.trans g218.ff g242.ff)))))), _, _, rfl, rfl, v53, rfl, p82, ws83, _, (by rw [ev84]), (.inl (Same.seq g279.fh (Same.seq (Same.trans sm124 (Same.trans sm135 (Same.trans sm200 (Same.trans g218.ff g242.ff)))) hS85))), (RL.len (hA87.up (Same.trans sm124 (Same.trans sm135 (Same.trans sm200 (Same.trans g218.ff g242.ff)))))), (V.ref B), rfl, F240, B, C, b238, (40 : Int), r291, b292, rfl, g279.fh, hB285, hb293, fun F294 H295 g296 hB297 => ?_⟩
      have g299 := Gr.trans g279 g296
      have ow300 := ow280.gr g296 nb76
      have ow301 := ow281.gr g296 nb99
      have ow302 := ow282.gr g296 nb163
      have ow303 := ow283.gr g296 nb230
      have ow304 := ow284.gr g296 nb257
      have ow305 := ow286.gr g296 nb278
      refine ⟨_, _, rfl, rfl, _, _, rfl, rfl, ⟨by decide, by decide, by decide⟩, _, _, rfl, rfl, (by show 4 ≤ sizeLine; decide), fun p306 np307 => ?_⟩
      have ne308 := ow300.ne np307
      have ne309 := ow301.ne np307
      have ne310 := ow302.ne np307
      have ne311 := ow303.ne np307
      have ne312 := ow304.ne np307
      have ne313 := ow305.ne np307
      have nb314 := hB297.nb np307
      have g315 := g299.own (o := (.lst [V.non, (V.int ((((r39.2).length : Nat) : Int) - (1 : Int))), (V.int ((((r39.2).length : Nat) : Int) + r291)), (V.int (((10 : Int) ^ (9 : Int).toNat) - (1 : Int)))])) np307
      have ow316 := ow300.own (o := (.lst [V.non, (V.int ((((r39.2).length : Nat) : Int) - (1 : Int))), (V.int ((((r39.2).length : Nat) : Int) + r291)), (V.int (((10 : Int) ^ (9 : Int).toNat) - (1 : Int)))])) np307
      have ow317 := ow301.own (o := (.lst [V.non, (V.int ((((r39.2).length : Nat) : Int) - (1 : Int))), (V.int ((((r39.2).length : Nat) : Int) + r291)), (V.int (((10 : Int) ^ (9 : Int).toNat) - (1 : Int)))])) np307
      have ow318 := ow302.own (o := (.lst [V.non, (V.int ((((r39.2).length : Nat) : Int) - (1 : Int))), (V.int ((((r39.2).length : Nat) : Int) + r291)), (V.int (((10 : Int) ^ (9 : Int).toNat) - (1 : Int)))])) np307
      have ow319 := ow303.own (o := (.lst [V.non, (V.int ((((r39.2).length : Nat) : Int) - (1 : Int))), (V.int ((((r39.2).length : Nat) : Int) + r291)), (V.int (((10 : Int) ^ (9 : Int).toNat) - (1 : Int)))])) np307
      have ow320 := ow304.own (o := (.lst [V.non, (V.int ((((r39.2).length : Nat) : Int) - (1 : Int))), (V.int ((((r39.2).length : Nat) : Int) + r291)), (V.int (((10 : Int) ^ (9 : Int).toNat) - (1 : Int)))])) np307
      have ow321 := ow305.own (o := (.lst [V.non, (V.int ((((r39.2).length : Nat) : Int) - (1 : Int))), (V.int ((((r39.2).length : Nat) : Int) + r291)), (V.int (((10 : Int) ^ (9 : Int).toNat) - (1 : Int)))])) np307
      have hB322 := hB297.own (o := (.lst [V.non, (V.int ((((r39.2).length : Nat) : Int) - (1 : Int))), (V.int ((((r39.2).length : Nat) : Int) + r291)), (V.int (((10 : Int) ^ (9 : Int).toNat) - (1 : Int)))])) np307
      have ow323 : Ow H0 F294 (upd H295 p306 (.lst [V.non, (V.int ((((r39.2).length : Nat) : Int) - (1 : Int))), (V.int ((((r39.2).length : Nat) : Int) + r291)), (V.int (((10 : Int) ^ (9 : Int).toNat) - (1 : Int)))])) p306 [V.non, (V.int ((((r39.2).length : Nat) : Int) - (1 : Int))), (V.int ((((r39.2).length : Nat) : Int) + r291)), (V.int (((10 : Int) ^ (9 : Int).toNat) - (1 : Int)))] := Ow.new g299 np307
      have hA324 : RL K F294 [V.non, (V.int ((((r39.2).length : Nat) : Int) - (1 : Int))), (V.int ((((r39.2).length : Nat) : Int) + r291)), (V.int (((10 : Int) ^ (9 : Int).toNat) - (1 : Int)))] ([(none : (Option Int)), (some ((((r39.2).length : Nat) : Int) - (1 : Int))), (some ((((r39.2).length : Nat) : Int) + r291)), (some (((10 : Int) ^ (9 : Int).toNat) - (1 : Int)))] : List (Option Int)) := (RpA.cons Rp.non (RpA.cons (Rp.int ((((r39.2).length : Nat) : Int) - (1 : Int))) (RpA.cons (Rp.int ((((r39.2).length : Nat) : Int) + r291)) (RpA.cons (Rp.int (((10 : Int) ^ (9 : Int).toNat) - (1 : Int))) RpA.nil))))
      obtain ⟨r325, b326, hb327, hm26⟩ := bnd2 hm26
      refine ⟨(V.ref B), rfl, F294, B, C, b292, (4 : Int), r325, b326, rfl, g315.fh, hB322, hb327, fun F328 H329 g330 hB331 => ?_⟩
      have g333 := Gr.trans g315 g330
      have ow334 := ow316.gr g330 nb76
      have ow335 := ow317.gr g330 nb99
      have ow336 := ow318.gr g330 nb163
      have ow337 := ow319.gr g330 nb230
      have ow338 := ow320.gr g330 nb257
      have ow339 := ow321.gr g330 nb278
      have ow340 := ow323.gr g330 nb314
      obtain ⟨t341, hb342, hm26⟩ := bnd hm26
      obtain ⟨v343, ha344, r345⟩ := RL.at (hA324.up g330.ff) hb342
      refine ⟨p306, [V.non, (V.int ((((r39.2).length : Nat) : Int) - (1 : Int))), (V.int ((((r39.2).length : Nat) : Int) + r291)), (V.int (((10 : Int) ^ (9 : Int).toNat) - (1 : Int)))], _, v343, rfl, rfl, ow340.sq, ha344, ?_⟩
      refine p_name ?_
      refine p_nx ?_
      refine p_seq ?_
      refine p_asg ?_
      obtain ⟨r346, b347, hb348, hm26⟩ := bnd2 hm26
      refine ⟨_, _, rfl, rfl, ⟨by decide, by decide, by decide⟩, (V.ref B), rfl, _, _, rfl, rfl, ⟨by decide, by decide, by decide⟩, F328, B, C, b326, ((10 : Int) ^ (19 : Int).toNat), r346, b347, rfl, g333.fh, hB331, hb348, fun F349 H350 g351 hB352 => ?_⟩
      have g354 := Gr.trans g333 g351
      have ow355 := ow334.gr g351 nb76
      have ow356 := ow335.gr g351 nb99
      have ow357 := ow336.gr g351 nb163
      have ow358 := ow337.gr g351 nb230
      have ow359 := ow338.gr g351 nb257
      have ow360 := ow339.gr g351 nb278
      have ow361 := ow340.gr g351 nb314
      refine ⟨_, _, rfl, rfl, ?_⟩
      obtain ⟨y_great362, hb363, hm26⟩ := bnd hm26
      have hx364 : (((10 : Int) ^ (19 : Int).toNat) + r346) = y_great362 := sjoin hb363
      refine p_nm (v' := (V.int y_great362)) (congrArg V.int hx364) ?_
      refine p_nx ?_
      refine p_seq ?_
      refine p_asg ?_
      obtain ⟨r365, b366, hb367, hm26⟩ := bnd2 hm26
      refine ⟨(V.ref B), rfl, F349, B, C, b347, (5 : Int), r365, b366, rfl, g354.fh, hB352, hb367, fun F368 H369 g370 hB371 => ?_⟩
      have g373 := Gr.trans g354 g370
      have ow374 := ow355.gr g370 nb76
      have ow375 := ow356.gr g370 nb99
      have ow376 := ow357.gr g370 nb163
      have ow377 := ow358.gr g370 nb230
      have ow378 := ow359.gr g370 nb257
      have ow379 := ow360.gr g370 nb278
      have ow380 := ow361.gr g370 nb314
      obtain ⟨r381, b382, hb383, hm26⟩ := bnd2 hm26
      refine ⟨(V.int y_great362), rfl, _, rfl, (V.ref B), rfl, _, _, rfl, rfl, ⟨by decide, by decide, by decide⟩, F368, B, C, b366, ((10 : Int) ^ (9 : Int).toNat), r381, b382, rfl, g373.fh, hB371, hb383, fun F384 H385 g386 hB387 => ?_⟩
      have g389 := Gr.trans g373 g386
      have ow390 := ow374.gr g386 nb76
      have ow391 := ow375.gr g386 nb99
      have ow392 := ow376.gr g386 nb163
      have ow393 := ow377.gr g386 nb230
      have ow394 := ow378.gr g386 nb257
      have ow395 := ow379.gr g386 nb278
      have ow396 := ow380.gr g386 nb314
      refine ⟨_, _, rfl, rfl, (by show 4 ≤ sizeLine; decide), fun p397 np398 => ?_⟩
      have ne399 := ow390.ne np398
      have ne400 := ow391.ne np398
      have ne401 := ow392.ne np398
      have ne402 := ow393.ne np398
      have ne403 := ow394.ne np398
      have ne404 := ow395.ne np398
      have ne405 := ow396.ne np398
      have nb406 := hB387.nb np398
      have g407 := g389.own (o := (.lst [(V.int r365), (V.int y_great362), (V.int (-(1 : Int))), (V.int ((0 : Int) - r381))])) np398
      have ow408 := ow390.own (o := (.lst [(V.int r365), (V.int y_great362), (V.int (-(1 : Int))), (V.int ((0 : Int) - r381))])) np398
      have ow409 := ow391.own (o := (.lst [(V.int r365), (V.int y_great362), (V.int (-(1 : Int))), (V.int ((0 : Int) - r381))])) np398
      have ow410 := ow392.own (o := (.lst [(V.int r365), (V.int y_great362), (V.int (-(1 : Int))), (V.int ((0 : Int) - r381))])) np398
      have ow411 := ow393.own (o := (.lst [(V.int r365), (V.int y_great362), (V.int (-(1 : Int))), (V.int ((0 : Int) - r381))])) np398
      have ow412 := ow394.own (o := (.lst [(V.int r365), (V.int y_great362), (V.int (-(1 : Int))), (V.int ((0 : Int) - r381))])) np398
      have ow413 := ow395.own (o := (.lst [(V.int r365), (V.int y_great362), (V.int (-(1 : Int))), (V.int ((0 : Int) - r381))])) np398
      have ow414 := ow396.own (o := (.lst [(V.int r365), (V.int y_great362), (V.int (-(1 : Int))), (V.int ((0 : Int) - r381))])) np398
      have hB415 := hB387.own (o := (.lst [(V.int r365), (V.int y_great362), (V.int (-(1 : Int))), (V.int ((0 : Int) - r381))])) np398
      have ow416 : Ow H0 F384 (upd H385 p397 (.lst [(V.int r365), (V.int y_great362), (V.int (-(1 : Int))), (V.int ((0 : Int) - r381))])) p397 [(V.int r365), (V.int y_great362), (V.int (-(1 : Int))), (V.int ((0 : Int) - r381))] := Ow.new g389 np398
      have hA417 : RL K F384 [(V.int r365), (V.int y_great362), (V.int (-(1 : Int))), (V.int ((0 : Int) - r381))] ([r365, y_great362, (-(1 : Int)), ((0 : Int) - r381)] : List Int) := (RpA.cons (Rp.int r365) (RpA.cons (Rp.int y_great362) (RpA.cons (Rp.int (-(1 : Int))) (RpA.cons (Rp.int ((0 : Int) - r381)) RpA.nil))))
      obtain ⟨r418, b419, hb420, hm26⟩ := bnd2 hm26
      refine ⟨(V.ref B), rfl, F384, B, C, b382, (4 : Int), r418, b419, rfl, g407.fh, hB415, hb420, fun F421 H422 g423 hB424 => ?_⟩
      have g426 := Gr.trans g407 g423
      have ow427 := ow408.gr g423 nb76
      have ow428 := ow409.gr g423 nb99
      have ow429 := ow410.gr g423 nb163
      have ow430 := ow411.gr g423 nb230
      have ow431 := ow412.gr g423 nb257
      have ow432 := ow413.gr g423 nb278
      have ow433 := ow414.gr g423 nb314
      have ow434 := ow416.gr g423 nb406
      obtain ⟨t435, hb436, hm26⟩ := bnd hm26
      obtain ⟨v437, ha438, r439⟩ := RL.at (hA417.up g423.ff) hb436
      obtain rfl := R.int_v r439
      refine ⟨p397, [(V.int r365), (V.int y_great362), (V.int (-(1 : Int))), (V.int ((0 : Int) - r381))], _, (V.int t435), rfl, rfl, ow434.sq, ha438, ?_⟩
      refine p_name ?_
      refine p_nx ?_
      refine p_seq ?_
      refine p_asg ?_
      obtain ⟨p440, ws441, ev442, hS443, hl444, hA445⟩ := R.lst_v r129
      have hA448 := (hA290.up (Same.trans g296.ff (Same.trans g330.ff (Same.trans g351.ff (Same.trans g370.ff (Same.trans g386.ff g423.ff))))))
      refine ⟨(V.int t435), rfl, (V.ref p108), rfl, p440, ws441, _, (by rw [ev442]), (.inl (Same.seq g426.fh (Same.seq (Same.trans sm135 (Same.trans sm200 (Same.trans g218.ff (Same.trans g242.ff (Same.trans g296.ff (Same.trans g330.ff (Same.trans g351.ff (Same.trans g370.ff (Same.trans g386.ff g423.ff))))))))) hS443))), (RL.len (hA445.up (Same.trans sm135 (Same.trans sm200 (Same.trans g218.ff (Same.trans g242.ff (Same.trans g296.ff (Same.trans g330.ff (Same.trans g351.ff (Same.trans g370.ff (Same.trans g386.ff g423.ff))))))))))), _, _, rfl, rfl, (V.ref p108), rfl, p440, ws441, _, (by rw [ev442]), (.inl (Same.seq g426.fh (Same.seq (Same.trans sm135 (Same.trans sm200 (Same.trans g218.ff (Same.trans g242.ff (Same.trans g296.ff (Same.trans g330.ff (Same.trans g351.ff (Same.trans g370.ff (Same.trans g386.ff g423.ff))))))))) hS443))), (RL.len (hA445.up (Same.trans sm135 (Same.trans sm200 (Same.trans g218.ff (Same.trans g242.ff (Same.trans g296.ff (Same.trans g330.ff (Same.trans g351.ff (Same.trans g370.ff (Same.trans g386.ff g423.ff))))))))))), _, _, rfl, rfl, v52, rfl, (V.ref p268), rfl, (.inl ⟨p268, ((sortI (cutL r213 none (some r237))).map V.int), rfl, ow432.sq, fun q446 nq447 => ?_⟩)⟩
      have ne449 := ow427.ne nq447
      have ne450 := ow428.ne nq447
      have ne451 := ow429.ne nq447
      have ne452 := ow430.ne nq447
      have ne453 := ow431.ne nq447
      have ne454 := ow432.ne nq447
      have ne455 := ow433.ne nq447
      have ne456 := ow434.ne nq447
      have nb457 := hB424.nb nq447
      have sm458 := same_new (o := (.tup ((sortI (cutL r213 none (some r237))).map V.int))) (g426.noneF nq447)
      have g459 := g426.frz (o := (.tup ((sortI (cutL r213 none (some r237))).map V.int))) nq447
      have ow460 := ow427.frz (o := (.tup ((sortI (cutL r213 none (some r237))).map V.int))) nq447
      have ow461 := ow428.frz (o := (.tup ((sortI (cutL r213 none (some r237))).map V.int))) nq447
      have ow462 := ow429.frz (o := (.tup ((sortI (cutL r213 none (some r237))).map V.int))) nq447
      have ow463 := ow430.frz (o := (.tup ((sortI (cutL r213 none (some r237))).map V.int))) nq447
      have ow464 := ow431.frz (o := (.tup ((sortI (cutL r213 none (some r237))).map V.int))) nq447
      have ow465 := ow432.frz (o := (.tup ((sortI (cutL r213 none (some r237))).map V.int))) nq447
      have ow466 := ow433.frz (o := (.tup ((sortI (cutL r213 none (some r237))).map V.int))) nq447
      have ow467 := ow434.frz (o := (.tup ((sortI (cutL r213 none (some r237))).map V.int))) nq447
      have hB468 := hB424.frz (o := (.tup ((sortI (cutL r213 none (some r237))).map V.int))) nq447
      have r469 : R K (upd F421 q446 (.tup ((sortI (cutL r213 none (some r237))).map V.int))) (.ref q446) ((VT.mk y_past287) : (VT Int)) := R.mkvt fzT hl271 (hA448.up sm458)
      refine ⟨v343, rfl, (by show 4 ≤ sizeLine; decide), fun p470 np471 => ?_⟩
      have ne472 := ow460.ne np471
      have ne473 := ow461.ne np471
      have ne474 := ow462.ne np471
      have ne475 := ow463.ne np471
      have ne476 := ow464.ne np471
      have ne477 := ow465.ne np471
      have ne478 := ow466.ne np471
      have ne479 := ow467.ne np471
      have nb480 := hB468.nb np471
      have sm481 := same_new (o := (.tup [(V.int ((((y_doors121).length : Nat) : Int) - (1 : Int))), v52, (V.ref q446), v343])) (g459.noneF np471)
      have g482 := g459.frz (o := (.tup [(V.int ((((y_doors121).length : Nat) : Int) - (1 : Int))), v52, (V.ref q446), v343])) np471
      have ow483 := ow460.frz (o := (.tup [(V.int ((((y_doors121).length : Nat) : Int) - (1 : Int))), v52, (V.ref q446), v343])) np471
      have ow484 := ow461.frz (o := (.tup [(V.int ((((y_doors121).length : Nat) : Int) - (1 : Int))), v52, (V.ref q446), v343])) np471
      have ow485 := ow462.frz (o := (.tup [(V.int ((((y_doors121).length : Nat) : Int) - (1 : Int))), v52, (V.ref q446), v343])) np471
      have ow486 := ow463.frz (o := (.tup [(V.int ((((y_doors121).length : Nat) : Int) - (1 : Int))), v52, (V.ref q446), v343])) np471
      have ow487 := ow464.frz (o := (.tup [(V.int ((((y_doors121).length : Nat) : Int) - (1 : Int))), v52, (V.ref q446), v343])) np471
      have ow488 := ow465.frz (o := (.tup [(V.int ((((y_doors121).length : Nat) : Int) - (1 : Int))), v52, (V.ref q446), v343])) np471
      have ow489 := ow466.frz (o := (.tup [(V.int ((((y_doors121).length : Nat) : Int) - (1 : Int))), v52, (V.ref q446), v343])) np471
      have ow490 := ow467.frz (o := (.tup [(V.int ((((y_doors121).length : Nat) : Int) - (1 : Int))), v52, (V.ref q446), v343])) np471
      have hB491 := hB468.frz (o := (.tup [(V.int ((((y_doors121).length : Nat) : Int) - (1 : Int))), v52, (V.ref q446), v343])) np471
      have r492 : R K (upd (upd F421 q446 (.tup ((sortI (cutL r213 none (some r237))).map V.int))) p470 (.tup [(V.int ((((y_doors121).length : Nat) : Int) - (1 : Int))), v52, (V.ref q446), v343])) (.ref p470) ((T4.mk ((((y_doors121).length : Nat) : Int) - (1 : Int)) r39.1 (VT.mk y_past287) t341) : (T4 Int (VT Int) (VT Int) (Option Int))) := R.mk4 fzT (Rp.int ((((y_doors121).length : Nat) : Int) - (1 : Int))) (r54.up (Same.trans sm124 (Same.trans sm135 (Same.trans sm200 (Same.trans g218.ff (Same.trans g242.ff (Same.trans g296.ff (Same.trans g330.ff (Same.trans g351.ff (Same.trans g370.ff (Same.trans g386.ff (Same.trans g423.ff (Same.trans sm458 sm481))))))))))))) (r469.up sm481) (r345.up (Same.trans g351.ff (Same.trans g370.ff (Same.trans g386.ff (Same.trans g423.ff (Same.trans sm458 sm481))))))
      refine ⟨v53, rfl, (by show 4 ≤ sizeLine; decide), fun p493 np494 => ?_⟩
      have ne495 := ow483.ne np494
      have ne496 := ow484.ne np494
      have ne497 := ow485.ne np494
      have ne498 := ow486.ne np494
      have ne499 := ow487.ne np494
      have ne500 := ow488.ne np494
      have ne501 := ow489.ne np494
      have ne502 := ow490.ne np494
      have nb503 := hB491.nb np494
      have sm504 := same_new (o := (.tup [(V.int t435), (V.int ((((y_doors121).length : Nat) : Int) - (2 : Int))), (V.ref p470), v53])) (g482.noneF np494)
      have g505 := g482.frz (o := (.tup [(V.int t435), (V.int ((((y_doors121).length : Nat) : Int) - (2 : Int))), (V.ref p470), v53])) np494
      have ow506 := ow483.frz (o := (.tup [(V.int t435), (V.int ((((y_doors121).length : Nat) : Int) - (2 : Int))), (V.ref p470), v53])) np494
      have ow507 := ow484.frz (o := (.tup [(V.int t435), (V.int ((((y_doors121).length : Nat) : Int) - (2 : Int))), (V.ref p470), v53])) np494
      have ow508 := ow485.frz (o := (.tup [(V.int t435), (V.int ((((y_doors121).length : Nat) : Int) - (2 : Int))), (V.ref p470), v53])) np494
      have ow509 := ow486.frz (o := (.tup [(V.int t435), (V.int ((((y_doors121).length : Nat) : Int) - (2 : Int))), (V.ref p470), v53])) np494
      have ow510 := ow487.frz (o := (.tup [(V.int t435), (V.int ((((y_doors121).length : Nat) : Int) - (2 : Int))), (V.ref p470), v53])) np494
      have ow511 := ow488.frz (o := (.tup [(V.int t435), (V.int ((((y_doors121).length : Nat) : Int) - (2 : Int))), (V.ref p470), v53])) np494
      have ow512 := ow489.frz (o := (.tup [(V.int t435), (V.int ((((y_doors121).length : Nat) : Int) - (2 : Int))), (V.ref p470), v53])) np494
      have ow513 := ow490.frz (o := (.tup [(V.int t435), (V.int ((((y_doors121).length : Nat) : Int) - (2 : Int))), (V.ref p470), v53])) np494
      have hB514 := hB491.frz (o := (.tup [(V.int t435), (V.int ((((y_doors121).length : Nat) : Int) - (2 : Int))), (V.ref p470), v53])) np494
      have r515 : R K (upd (upd (upd F421 q446 (.tup ((sortI (cutL r213 none (some r237))).map V.int))) p470 (.tup [(V.int ((((y_doors121).length : Nat) : Int) - (1 : Int))), v52, (V.ref q446), v343])) p493 (.tup [(V.int t435), (V.int ((((y_doors121).length : Nat) : Int) - (2 : Int))), (V.ref p470), v53])) (.ref p493) ((T4.mk t435 ((((y_doors121).length : Nat) : Int) - (2 : Int)) (T4.mk ((((y_doors121).length : Nat) : Int) - (1 : Int)) r39.1 (VT.mk y_past287) t341) r39.2) : (T4 Int Int (T4 Int (VT Int) (VT Int) (Option Int)) (List Int))) := R.mk4 fzT (Rp.int t435) (Rp.int ((((y_doors121).length : Nat) : Int) - (2 : Int))) (r492.up sm504) (r55.up (Same.trans sm124 (Same.trans sm135 (Same.trans sm200 (Same.trans g218.ff (Same.trans g242.ff (Same.trans g296.ff (Same.trans g330.ff (Same.trans g351.ff (Same.trans g370.ff (Same.trans g386.ff (Same.trans g423.ff (Same.trans sm458 (Same.trans sm481 sm504))))))))))))))
      obtain ⟨y_item516, hb517, hm26⟩ := bnd hm26
      have hx518 : (T4.mk t435 ((((y_doors121).length : Nat) : Int) - (2 : Int)) (T4.mk ((((y_doors121).length : Nat) : Int) - (1 : Int)) r39.1 (VT.mk y_past287) t341) r39.2) = y_item516 := sjoin hb517
      have r519 : R K _ (V.ref p493) y_item516 := hx518 ▸ (r515 : R K _ (V.ref p493) (T4.mk t435 ((((y_doors121).length : Nat) : Int) - (2 : Int)) (T4.mk ((((y_doors121).length : Nat) : Int) - (1 : Int)) r39.1 (VT.mk y_past287) t341) r39.2))
      refine p_name ?_
      refine p_nx ?_
      refine p_seq ?_
      refine p_asg ?_
      have r520 : R K (upd (upd (upd F421 q446 (.tup ((sortI (cutL r213 none (some r237))).map V.int))) p470 (.tup [(V.int ((((y_doors121).length : Nat) : Int) - (1 : Int))), v52, (V.ref q446), v343])) p493 (.tup [(V.int t435), (V.int ((((y_doors121).length : Nat) : Int) - (2 : Int))), (V.ref p470), v53])) (V.ref p130) (((Sum.inl) y_web_here141) : ((T4 Int Int (List (Int × Int)) (List Int)) ⊕ (T4 Int Int (T4 Int (VT Int) (VT Int) (Option Int)) (List Int)))) := (r144.up (Same.trans sm200 (Same.trans g218.ff (Same.trans g242.ff (Same.trans g296.ff (Same.trans g330.ff (Same.trans g351.ff (Same.trans g370.ff (Same.trans g386.ff (Same.trans g423.ff (Same.trans sm458 (Same.trans sm481 sm504))))))))))))
      have r521 : R K (upd (upd (upd F421 q446 (.tup ((sortI (cutL r213 none (some r237))).map V.int))) p470 (.tup [(V.int ((((y_doors121).length : Nat) : Int) - (1 : Int))), v52, (V.ref q446), v343])) p493 (.tup [(V.int t435), (V.int ((((y_doors121).length : Nat) : Int) - (2 : Int))), (V.ref p470), v53])) (V.ref p493) (((Sum.inr) y_item516) : ((T4 Int Int (List (Int × Int)) (List Int)) ⊕ (T4 Int Int (T4 Int (VT Int) (VT Int) (Option Int)) (List Int)))) := r519
      refine ⟨(V.ref p130), rfl, (V.ref p493), rfl, (by show 2 ≤ sizeLine; decide), fun p522 np523 => ?_⟩
      have ne524 := ow506.ne np523
      have ne525 := ow507.ne np523
      have ne526 := ow508.ne np523
      have ne527 := ow509.ne np523
      have ne528 := ow510.ne np523
      have ne529 := ow511.ne np523
      have ne530 := ow512.ne np523
      have ne531 := ow513.ne np523
      have nb532 := hB514.nb np523
      have g533 := g505.own (o := (.lst [(V.ref p130), (V.ref p493)])) np523
      have ow534 := ow506.own (o := (.lst [(V.ref p130), (V.ref p493)])) np523
      have ow535 := ow507.own (o := (.lst [(V.ref p130), (V.ref p493)])) np523
      have ow536 := ow508.own (o := (.lst [(V.ref p130), (V.ref p493)])) np523
      have ow537 := ow509.own (o := (.lst [(V.ref p130), (V.ref p493)])) np523
      have ow538 := ow510.own (o := (.lst [(V.ref p130), (V.ref p493)])) np523
      have ow539 := ow511.own (o := (.lst [(V.ref p130), (V.ref p493)])) np523
      have ow540 := ow512.own (o := (.lst [(V.ref p130), (V.ref p493)])) np523
      have ow541 := ow513.own (o := (.lst [(V.ref p130), (V.ref p493)])) np523
      have hB542 := hB514.own (o := (.lst [(V.ref p130), (V.ref p493)])) np523
      have ow543 : Ow H0 (upd (upd (upd F421 q446 (.tup ((sortI (cutL r213 none (some r237))).map V.int))) p470 (.tup [(V.int ((((y_doors121).length : Nat) : Int) - (1 : Int))), v52, (V.ref q446), v343])) p493 (.tup [(V.int t435), (V.int ((((y_doors121).length : Nat) : Int) - (2 : Int))), (V.ref p470), v53])) (upd (upd (upd (upd H422 q446 (.tup ((sortI (cutL r213 none (some r237))).map V.int))) p470 (.tup [(V.int ((((y_doors121).length : Nat) : Int) - (1 : Int))), v52, (V.ref q446), v343])) p493 (.tup [(V.int t435), (V.int ((((y_doors121).length : Nat) : Int) - (2 : Int))), (V.ref p470), v53])) p522 (.lst [(V.ref p130), (V.ref p493)])) p522 [(V.ref p130), (V.ref p493)] := Ow.new g505 np523
      have hA544 : RL K (upd (upd (upd F421 q446 (.tup ((sortI (cutL r213 none (some r237))).map V.int))) p470 (.tup [(V.int ((((y_doors121).length : Nat) : Int) - (1 : Int))), v52, (V.ref q446), v343])) p493 (.tup [(V.int t435), (V.int ((((y_doors121).length : Nat) : Int) - (2 : Int))), (V.ref p470), v53])) [(V.ref p130), (V.ref p493)] ([(((Sum.inl) y_web_here141) : ((T4 Int Int (List (Int × Int)) (List Int)) ⊕ (T4 Int Int (T4 Int (VT Int) (VT Int) (Option Int)) (List Int)))), (((Sum.inr) y_item516) : ((T4 Int Int (List (Int × Int)) (List Int)) ⊕ (T4 Int Int (T4 Int (VT Int) (VT Int) (Option Int)) (List Int))))] : List ((T4 Int Int (List (Int × Int)) (List Int)) ⊕ (T4 Int Int (T4 Int (VT Int) (VT Int) (Option Int)) (List Int)))) := (RpA.cons r520 (RpA.cons r521 RpA.nil))
      obtain ⟨t545, hb546, hm26⟩ := bnd hm26
      have rr547 : R K (upd (upd (upd (upd H422 q446 (.tup ((sortI (cutL r213 none (some r237))).map V.int))) p470 (.tup [(V.int ((((y_doors121).length : Nat) : Int) - (1 : Int))), v52, (V.ref q446), v343])) p493 (.tup [(V.int t435), (V.int ((((y_doors121).length : Nat) : Int) - (2 : Int))), (V.ref p470), v53])) p522 (.lst [(V.ref p130), (V.ref p493)])) (.ref p522) (([(((Sum.inl) y_web_here141) : ((T4 Int Int (List (Int × Int)) (List Int)) ⊕ (T4 Int Int (T4 Int (VT Int) (VT Int) (Option Int)) (List Int)))), (((Sum.inr) y_item516) : ((T4 Int Int (List (Int × Int)) (List Int)) ⊕ (T4 Int Int (T4 Int (VT Int) (VT Int) (Option Int)) (List Int))))] : List ((T4 Int Int (List (Int × Int)) (List Int)) ⊕ (T4 Int Int (T4 Int (VT Int) (VT Int) (Option Int)) (List Int)))) : (List ((T4 Int Int (List (Int × Int)) (List Int)) ⊕ (T4 Int Int (T4 Int (VT Int) (VT Int) (Option Int)) (List Int))))) := (R.mkl ow543.sq (by show 2 ≤ sizeLine; decide) (RpA.up hA544 g533.fh))
      refine ⟨p522, ([(((Sum.inl) y_web_here141) : ((T4 Int Int (List (Int × Int)) (List Int)) ⊕ (T4 Int Int (T4 Int (VT Int) (VT Int) (Option Int)) (List Int)))), (((Sum.inr) y_item516) : ((T4 Int Int (List (Int × Int)) (List Int)) ⊕ (T4 Int Int (T4 Int (VT Int) (VT Int) (Option Int)) (List Int))))] : List ((T4 Int Int (List (Int × Int)) (List Int)) ⊕ (T4 Int Int (T4 Int (VT Int) (VT Int) (Option Int)) (List Int)))), t545, rfl, rr547, hb546, ?_⟩
      refine p_name ?_
      refine p_nx ?_
      refine p_seq ?_
      refine p_asg ?_
      obtain ⟨r548, hb549, hm26⟩ := bnd hm26
      refine ⟨(V.ref p130), rfl, (V.ref p493), rfl, (upd (upd (upd F421 q446 (.tup ((sortI (cutL r213 none (some r237))).map V.int))) p470 (.tup [(V.int ((((y_doors121).length : Nat) : Int) - (1 : Int))), v52, (V.ref q446), v343])) p493 (.tup [(V.int t435), (V.int ((((y_doors121).length : Nat) : Int) - (2 : Int))), (V.ref p470), v53])), (V.ref p130), y_web_here141, (V.ref p493), y_item516, r548, rfl, g533.fh, (r144.up (Same.trans sm200 (Same.trans g218.ff (Same.trans g242.ff (Same.trans g296.ff (Same.trans g330.ff (Same.trans g351.ff (Same.trans g370.ff (Same.trans g386.ff (Same.trans g423.ff (Same.trans sm458 (Same.trans sm481 sm504)))))))))))), r519, hb549, fun p553 ws554 F550 H551 g552 np555 h556 nF557 hl558 hA559 => ?_⟩
      have ne560 := ow534.ne np555
      have ne561 := ow535.ne np555
      have ne562 := ow536.ne np555
      have ne563 := ow537.ne np555
      have ne564 := ow538.ne np555
      have ne565 := ow539.ne np555
      have ne566 := ow540.ne np555
      have ne567 := ow541.ne np555
      have ne568 := ow543.ne np555
      have nb569 := hB542.nb np555
      have n0570 := g533.none0 np555
      have g571 := Gr.trans g533 (Gr.of0 g552)
      have ow572 := ow534.gr0 g552
      have ow573 := ow535.gr0 g552
      have ow574 := ow536.gr0 g552
      have ow575 := ow537.gr0 g552
      have ow576 := ow538.gr0 g552
      have ow577 := ow539.gr0 g552
      have ow578 := ow540.gr0 g552
      have ow579 := ow541.gr0 g552
      have ow580 := ow543.gr0 g552
      have hB581 := hB542.gr0 g552
      have ow582 : Ow H0 F550 H551 p553 ws554 := ⟨h556, nF557, n0570⟩
      refine p_name ?_
      refine p_nx ?_
      refine p_seq ?_
      refine p_if ?_
      obtain ⟨r583, hb584, hm26⟩ := bnd hm26
      refine ⟨(V.ref p553), rfl, (V.ref p493), rfl, F550, (V.ref p493), y_item516, r583, rfl, g571.fh, (r519.up g552.ff), hb584, fun p588 ws589 F585 H586 g587 np590 h591 nF592 hl593 hA594 => ?_⟩
      have ne595 := ow572.ne np590
      have ne596 := ow573.ne np590
      have ne597 := ow574.ne np590
      have ne598 := ow575.ne np590
      have ne599 := ow576.ne np590
      have ne600 := ow577.ne np590
      have ne601 := ow578.ne np590
      have ne602 := ow579.ne np590
      have ne603 := ow580.ne np590
      have ne604 := ow582.ne np590
      have nb605 := hB581.nb np590
      have n0606 := g571.none0 np590
      have g607 := Gr.trans g571 (Gr.of0 g587)
      have ow608 := ow572.gr0 g587
      have ow609 := ow573.gr0 g587
      have ow610 := ow574.gr0 g587
      have ow611 := ow575.gr0 g587
      have ow612 := ow576.gr0 g587
      have ow613 := ow577.gr0 g587
      have ow614 := ow578.gr0 g587
      have ow615 := ow579.gr0 g587
      have ow616 := ow580.gr0 g587
      have ow617 := ow582.gr0 g587
      have hB618 := hB581.gr0 g587
      have ow619 : Ow H0 F585 H586 p588 ws589 := ⟨h591, nF592, n0606⟩
      have rH620 : R K H586 (V.ref p553) r548 := (R.mkl ow617.sq hl558 (RpA.up (hA559.up g587.ff) g607.fh))
      have rH621 : R K H586 (V.ref p588) r583 := (R.mkl ow619.sq hl593 (RpA.up hA594 g607.fh))
      obtain ⟨r622, hb624, hm26⟩ := bnd hm26
      obtain ⟨hxy623, rfl⟩ := alike_ok hb624
      refine ⟨(V.ref p553), (V.ref p588), _, rfl, rH620, (R.of_eq hxy623 rH621), (Nat.le_trans (Dep.le (r548 : (List (Int × (T4 Int Int Int Int))))) (by decide)), fun F625 H626 g627 => ?_⟩
      have g628 := Gr.apart g607 g627
      have ow629 := ow608.apart g627
      have ow630 := ow609.apart g627
      have ow631 := ow610.apart g627
      have ow632 := ow611.apart g627
      have ow633 := ow612.apart g627
      have ow634 := ow613.apart g627
      have ow635 := ow614.apart g627
      have ow636 := ow615.apart g627
      have ow637 := ow616.apart g627
      have ow638 := ow617.apart g627
      have ow639 := ow619.apart g627
      have hB640 := hB618.apart g627
      refine ⟨_, rfl, ?_⟩
      obtain ⟨c641, hc642, hm26⟩ := bnd hm26
      refine orJT (M := M0) (F := F585) (c := c641) (P := fun _ _ => True) (fun ha => ?_) (fun ha => ⟨(sjoin (ifT ha hc642)).symm, trivial⟩) g628.fh ?_
      · intro Q644 q645
        have hc642 := ifF ha hc642
        obtain ⟨r646, hb647, hc642⟩ := bnd hc642
        refine ⟨(V.ref p130), rfl, (V.ref p493), rfl, (V.ref p553), rfl, (V.ref p130), y_web_here141, (V.ref p493), y_item516, p553, ws554, r548, r646, rfl, (Rp.up (r144.up (Same.trans sm200 (Same.trans g218.ff (Same.trans g242.ff (Same.trans g296.ff (Same.trans g330.ff (Same.trans g351.ff (Same.trans g370.ff (Same.trans g386.ff (Same.trans g423.ff (Same.trans sm458 (Same.trans sm481 (Same.trans sm504 (Same.trans g552.ff g587.ff)))))))))))))) g628.fh), (Rp.up (r519.up (Same.trans g552.ff g587.ff)) g628.fh), ow638.sq, hl558, (RpA.up (hA559.up g587.ff) g628.fh), id, hb647, fun F648 H649 g650 => ?_⟩
        have g652 := Gr.apart g628 g650
        have g653 := Gr.apart (Gr.refl (M := M0) g628.fh) g650
        have ow654 := ow629.apart g650
        have ow655 := ow630.apart g650
        have ow656 := ow631.apart g650
        have ow657 := ow632.apart g650
        have ow658 := ow633.apart g650
        have ow659 := ow634.apart g650
        have ow660 := ow635.apart g650
        have ow661 := ow636.apart g650
        have ow662 := ow637.apart g650
        have ow663 := ow638.apart g650
        have ow664 := ow639.apart g650
        have hB665 := hB640.apart g650
        obtain rfl := sjoin hc642
        refine ⟨_, rfl, (q645 _ _ g653 trivial)⟩
      intro F666 H667 g668 hB669
      have g670 := Gr.trans g628 (Gr.of0 g668)
      have ow671 := ow629.gr0 g668
      have ow672 := ow630.gr0 g668
      have ow673 := ow631.gr0 g668
      have ow674 := ow632.gr0 g668
      have ow675 := ow633.gr0 g668
      have ow676 := ow634.gr0 g668
      have ow677 := ow635.gr0 g668
      have ow678 := ow636.gr0 g668
      have ow679 := ow637.gr0 g668
      have ow680 := ow638.gr0 g668
      have ow681 := ow639.gr0 g668
      have hB682 := hB640.gr0 g668
      refine (iteB (fun hc => ?_) (fun hc => ?_))
      · have hm26 := ifT hc hm26
        refine p_ret ?_
        obtain rfl := sjoin hm26
        have hm := bret hm
        obtain ⟨he683, rfl⟩ := pjoin hm
        exact absurd he683 (by decide)
      · have hm26 := ifF hc hm26
        refine p_next ?_
        refine p_nx ?_
        refine p_seq ?_
        refine p_drop ?_
        refine ⟨(V.ref p553), rfl, (.inl ⟨rfl, _, ow680.sq⟩), _, rfl, (by show 4 ≤ sizeLine; decide), fun p684 np685 => ?_⟩
        have ne686 := ow671.ne np685
        have ne687 := ow672.ne np685
        have ne688 := ow673.ne np685
        have ne689 := ow674.ne np685
        have ne690 := ow675.ne np685
        have ne691 := ow676.ne np685
        have ne692 := ow677.ne np685
        have ne693 := ow678.ne np685
        have ne694 := ow679.ne np685
        have ne695 := ow680.ne np685
        have ne696 := ow681.ne np685
        have nb697 := hB682.nb np685
        have sm698 := same_new (o := (.tup [(V.int (0 : Int)), (V.int (0 : Int)), (V.int (-(1 : Int))), (V.int (0 : Int))])) (g670.noneF np685)
        have g699 := g670.frz (o := (.tup [(V.int (0 : Int)), (V.int (0 : Int)), (V.int (-(1 : Int))), (V.int (0 : Int))])) np685
        have ow700 := ow671.frz (o := (.tup [(V.int (0 : Int)), (V.int (0 : Int)), (V.int (-(1 : Int))), (V.int (0 : Int))])) np685
        have ow701 := ow672.frz (o := (.tup [(V.int (0 : Int)), (V.int (0 : Int)), (V.int (-(1 : Int))), (V.int (0 : Int))])) np685
        have ow702 := ow673.frz (o := (.tup [(V.int (0 : Int)), (V.int (0 : Int)), (V.int (-(1 : Int))), (V.int (0 : Int))])) np685
        have ow703 := ow674.frz (o := (.tup [(V.int (0 : Int)), (V.int (0 : Int)), (V.int (-(1 : Int))), (V.int (0 : Int))])) np685
        have ow704 := ow675.frz (o := (.tup [(V.int (0 : Int)), (V.int (0 : Int)), (V.int (-(1 : Int))), (V.int (0 : Int))])) np685
        have ow705 := ow676.frz (o := (.tup [(V.int (0 : Int)), (V.int (0 : Int)), (V.int (-(1 : Int))), (V.int (0 : Int))])) np685
        have ow706 := ow677.frz (o := (.tup [(V.int (0 : Int)), (V.int (0 : Int)), (V.int (-(1 : Int))), (V.int (0 : Int))])) np685
        have ow707 := ow678.frz (o := (.tup [(V.int (0 : Int)), (V.int (0 : Int)), (V.int (-(1 : Int))), (V.int (0 : Int))])) np685
        have ow708 := ow679.frz (o := (.tup [(V.int (0 : Int)), (V.int (0 : Int)), (V.int (-(1 : Int))), (V.int (0 : Int))])) np685
        have ow709 := ow680.frz (o := (.tup [(V.int (0 : Int)), (V.int (0 : Int)), (V.int (-(1 : Int))), (V.int (0 : Int))])) np685
        have ow710 := ow681.frz (o := (.tup [(V.int (0 : Int)), (V.int (0 : Int)), (V.int (-(1 : Int))), (V.int (0 : Int))])) np685
        have hB711 := hB682.frz (o := (.tup [(V.int (0 : Int)), (V.int (0 : Int)), (V.int (-(1 : Int))), (V.int (0 : Int))])) np685
        have r712 : R K (upd F666 p684 (.tup [(V.int (0 : Int)), (V.int (0 : Int)), (V.int (-(1 : Int))), (V.int (0 : Int))])) (.ref p684) ((T4.mk (0 : Int) (0 : Int) (-(1 : Int)) (0 : Int)) : (T4 Int Int Int Int)) := R.mk4 fzT (Rp.int (0 : Int)) (Rp.int (0 : Int)) (Rp.int (-(1 : Int))) (Rp.int (0 : Int))
        refine ⟨(by show 2 ≤ sizeLine; decide), fun p713 np714 => ?_⟩
        have ne715 := ow700.ne np714
        have ne716 := ow701.ne np714
        have ne717 := ow702.ne np714
        have ne718 := ow703.ne np714
        have ne719 := ow704.ne np714
        have ne720 := ow705.ne np714
        have ne721 := ow706.ne np714
        have ne722 := ow707.ne np714
        have ne723 := ow708.ne np714
        have ne724 := ow709.ne np714
        have ne725 := ow710.ne np714
        have nb726 := hB711.nb np714
        have sm727 := same_new (o := (.tup [(V.int (0 : Int)), (V.ref p684)])) (g699.noneF np714)
        have g728 := g699.frz (o := (.tup [(V.int (0 : Int)), (V.ref p684)])) np714
        have ow729 := ow700.frz (o := (.tup [(V.int (0 : Int)), (V.ref p684)])) np714
        have ow730 := ow701.frz (o := (.tup [(V.int (0 : Int)), (V.ref p684)])) np714
        have ow731 := ow702.frz (o := (.tup [(V.int (0 : Int)), (V.ref p684)])) np714
        have ow732 := ow703.frz (o := (.tup [(V.int (0 : Int)), (V.ref p684)])) np714
        have ow733 := ow704.frz (o := (.tup [(V.int (0 : Int)), (V.ref p684)])) np714
        have ow734 := ow705.frz (o := (.tup [(V.int (0 : Int)), (V.ref p684)])) np714
        have ow735 := ow706.frz (o := (.tup [(V.int (0 : Int)), (V.ref p684)])) np714
        have ow736 := ow707.frz (o := (.tup [(V.int (0 : Int)), (V.ref p684)])) np714
        have ow737 := ow708.frz (o := (.tup [(V.int (0 : Int)), (V.ref p684)])) np714
        have ow738 := ow709.frz (o := (.tup [(V.int (0 : Int)), (V.ref p684)])) np714
        have ow739 := ow710.frz (o := (.tup [(V.int (0 : Int)), (V.ref p684)])) np714
        have hB740 := hB711.frz (o := (.tup [(V.int (0 : Int)), (V.ref p684)])) np714
        have r741 : R K (upd (upd F666 p684 (.tup [(V.int (0 : Int)), (V.int (0 : Int)), (V.int (-(1 : Int))), (V.int (0 : Int))])) p713 (.tup [(V.int (0 : Int)), (V.ref p684)])) (.ref p713) (((0 : Int), (T4.mk (0 : Int) (0 : Int) (-(1 : Int)) (0 : Int))) : (Int × (T4 Int Int Int Int))) := R.mk2 fzT (Rp.int (0 : Int)) (r712.up sm727)
        obtain ⟨t742, hb743, hm26⟩ := bnd hm26
        obtain ⟨hk744, rfl⟩ := appL_ok hb743
        refine ⟨p553, ws554, (V.ref p713), rfl, rfl, ow738.h, (by rw [RL.len (hA559.up (Same.trans g587.ff (Same.trans g668.ff (Same.trans sm698 sm727))))]; exact hk744), ?_⟩
        have hA745 : RL K (upd (upd F666 p684 (.tup [(V.int (0 : Int)), (V.int (0 : Int)), (V.int (-(1 : Int))), (V.int (0 : Int))])) p713 (.tup [(V.int (0 : Int)), (V.ref p684)])) (ws554 ++ [(V.ref p713)]) (r548 ++ [(((0 : Int), (T4.mk (0 : Int) (0 : Int) (-(1 : Int)) (0 : Int))) : (Int × (T4 Int Int Int Int)))]) := RL.snoc (hA559.up (Same.trans g587.ff (Same.trans g668.ff (Same.trans sm698 sm727)))) r741
        have hl746 : (ws554 ++ [(V.ref p713)]).length ≤ sizeLine := by rw [List.length_append, RL.len (hA559.up (Same.trans g587.ff (Same.trans g668.ff (Same.trans sm698 sm727))))]; exact hk744
        have g747 := g728.put (o := (.lst (ws554 ++ [(V.ref p713)]))) ow738
        have ow748 := ow729.other (o := (.lst (ws554 ++ [(V.ref p713)]))) ne560
        have ow749 := ow730.other (o := (.lst (ws554 ++ [(V.ref p713)]))) ne561
        have ow750 := ow731.other (o := (.lst (ws554 ++ [(V.ref p713)]))) ne562
        have ow751 := ow732.other (o := (.lst (ws554 ++ [(V.ref p713)]))) ne563
        have ow752 := ow733.other (o := (.lst (ws554 ++ [(V.ref p713)]))) ne564
        have ow753 := ow734.other (o := (.lst (ws554 ++ [(V.ref p713)]))) ne565
        have ow754 := ow735.other (o := (.lst (ws554 ++ [(V.ref p713)]))) ne566
        have ow755 := ow736.other (o := (.lst (ws554 ++ [(V.ref p713)]))) ne567
        have ow756 := ow737.other (o := (.lst (ws554 ++ [(V.ref p713)]))) ne568
        have ow757 := ow739.other (o := (.lst (ws554 ++ [(V.ref p713)]))) (Ne.symm ne604)
        have hB758 := hB740.other (o := (.lst (ws554 ++ [(V.ref p713)]))) nb569
        have ow759 := ow738.put (us := (ws554 ++ [(V.ref p713)]))
        refine p_nx ?_
        refine p_seq ?_
        refine p_asg ?_
        have hA760 : RL K (upd (upd F666 p684 (.tup [(V.int (0 : Int)), (V.int (0 : Int)), (V.int (-(1 : Int))), (V.int (0 : Int))])) p713 (.tup [(V.int (0 : Int)), (V.ref p684)])) (ws554 ++ [(V.ref p713)]) (((r548 ++ [((0 : Int), (T4.mk (0 : Int) (0 : Int) (-(1 : Int)) (0 : Int)))])).map some : List (Option (Int × (T4 Int Int Int Int)))) := RL.some hA745
        obtain ⟨t761, hb762, hm26⟩ := bnd hm26
        obtain ⟨j763, hj764, rfl⟩ := setL_ok hb762
        refine ⟨(V.ref p553), rfl, p553, _, _, j763, rfl, rfl, ow759.h, (by rw [RL.len hA760]; exact hj764), ?_⟩
        have hA766 := RL.set (x := ((none : (Option (Int × (T4 Int Int Int Int)))) : (Option (Int × (T4 Int Int Int Int))))) j763 Rp.non hA760
        have g767 := g747.put (o := (.lst ((ws554 ++ [(V.ref p713)]).set j763 V.non))) ow759
        have ow768 := ow748.other (o := (.lst ((ws554 ++ [(V.ref p713)]).set j763 V.non))) ne560
        have ow769 := ow749.other (o := (.lst ((ws554 ++ [(V.ref p713)]).set j763 V.non))) ne561
        have ow770 := ow750.other (o := (.lst ((ws554 ++ [(V.ref p713)]).set j763 V.non))) ne562
        have ow771 := ow751.other (o := (.lst ((ws554 ++ [(V.ref p713)]).set j763 V.non))) ne563
        have ow772 := ow752.other (o := (.lst ((ws554 ++ [(V.ref p713)]).set j763 V.non))) ne564
        have ow773 := ow753.other (o := (.lst ((ws554 ++ [(V.ref p713)]).set j763 V.non))) ne565
        have ow774 := ow754.other (o := (.lst ((ws554 ++ [(V.ref p713)]).set j763 V.non))) ne566
        have ow775 := ow755.other (o := (.lst ((ws554 ++ [(V.ref p713)]).set j763 V.non))) ne567
        have ow776 := ow756.other (o := (.lst ((ws554 ++ [(V.ref p713)]).set j763 V.non))) ne568
        have ow777 := ow757.other (o := (.lst ((ws554 ++ [(V.ref p713)]).set j763 V.non))) (Ne.symm ne604)
        have hB778 := hB758.other (o := (.lst ((ws554 ++ [(V.ref p713)]).set j763 V.non))) nb569
        have ow779 := ow759.put (us := ((ws554 ++ [(V.ref p713)]).set j763 V.non))
        refine p_nx ?_
        refine p_if ?_
        obtain ⟨r780, hb781, hm26⟩ := bnd hm26
        refine ⟨(V.ref p493), rfl, (V.ref p130), rfl, (upd (upd F666 p684 (.tup [(V.int (0 : Int)), (V.int (0 : Int)), (V.int (-(1 : Int))), (V.int (0 : Int))])) p713 (.tup [(V.int (0 : Int)), (V.ref p684)])), (V.ref p130), y_web_here141, (V.ref p493), y_item516, r780, rfl, g767.fh, (r144.up (Same.trans sm200 (Same.trans g218.ff (Same.trans g242.ff (Same.trans g296.ff (Same.trans g330.ff (Same.trans g351.ff (Same.trans g370.ff (Same.trans g386.ff (Same.trans g423.ff (Same.trans sm458 (Same.trans sm481 (Same.trans sm504 (Same.trans g552.ff (Same.trans g587.ff (Same.trans g668.ff (Same.trans sm698 sm727))))))))))))))))), (r519.up (Same.trans g552.ff (Same.trans g587.ff (Same.trans g668.ff (Same.trans sm698 sm727))))), hb781, fun p785 ws786 F782 H783 g784 np787 h788 nF789 hl790 hA791 => ?_⟩
        have ne792 := ow768.ne np787
        have ne793 := ow769.ne np787
        have ne794 := ow770.ne np787
        have ne795 := ow771.ne np787
        have ne796 := ow772.ne np787
        have ne797 := ow773.ne np787
        have ne798 := ow774.ne np787
        have ne799 := ow775.ne np787
        have ne800 := ow776.ne np787
        have ne801 := ow779.ne np787
        have ne802 := ow777.ne np787
        have nb803 := hB778.nb np787
        have n0804 := g767.none0 np787
        have g805 := Gr.trans g767 (Gr.of0 g784)
        have ow806 := ow768.gr0 g784
        have ow807 := ow769.gr0 g784
        have ow808 := ow770.gr0 g784
        have ow809 := ow771.gr0 g784
        have ow810 := ow772.gr0 g784
        have ow811 := ow773.gr0 g784
        have ow812 := ow774.gr0 g784
        have ow813 := ow775.gr0 g784
        have ow814 := ow776.gr0 g784
        have ow815 := ow779.gr0 g784
        have ow816 := ow777.gr0 g784
        have hB817 := hB778.gr0 g784
        have ow818 : Ow H0 F782 H783 p785 ws786 := ⟨h788, nF789, n0804⟩
        obtain ⟨r819, hb820, hm26⟩ := bnd hm26
        refine ⟨(V.ref p493), rfl, F782, (V.ref p493), y_item516, r819, rfl, g805.fh, (r519.up (Same.trans g552.ff (Same.trans g587.ff (Same.trans g668.ff (Same.trans sm698 (Same.trans sm727 g784.ff)))))), hb820, fun p824 ws825 F821 H822 g823 np826 h827 nF828 hl829 hA830 => ?_⟩
        have ne831 := ow806.ne np826
        have ne832 := ow807.ne np826
        have ne833 := ow808.ne np826
        have ne834 := ow809.ne np826
        have ne835 := ow810.ne np826
        have ne836 := ow811.ne np826
        have ne837 := ow812.ne np826
        have ne838 := ow813.ne np826
        have ne839 := ow814.ne np826
        have ne840 := ow815.ne np826
        have ne841 := ow816.ne np826
        have ne842 := ow818.ne np826
        have nb843 := hB817.nb np826
        have n0844 := g805.none0 np826
        have g845 := Gr.trans g805 (Gr.of0 g823)
        have ow846 := ow806.gr0 g823
        have ow847 := ow807.gr0 g823
        have ow848 := ow808.gr0 g823
        have ow849 := ow809.gr0 g823
        have ow850 := ow810.gr0 g823
        have ow851 := ow811.gr0 g823
        have ow852 := ow812.gr0 g823
        have ow853 := ow813.gr0 g823
        have ow854 := ow814.gr0 g823
        have ow855 := ow815.gr0 g823
        have ow856 := ow816.gr0 g823
        have ow857 := ow818.gr0 g823
        have hB858 := hB817.gr0 g823
        have ow859 : Ow H0 F821 H822 p824 ws825 := ⟨h827, nF828, n0844⟩
        have rH860 : R K H822 (V.ref p785) r780 := (R.mkl ow857.sq hl790 (RpA.up (hA791.up g823.ff) g845.fh))
        have rH861 : R K H822 (V.ref p824) r819 := (R.mkl ow859.sq hl829 (RpA.up hA830 g845.fh))
        obtain ⟨r862, hb864, hm26⟩ := bnd hm26
        obtain ⟨hxy863, rfl⟩ := alike_ok hb864
        refine ⟨(V.ref p785), (V.ref p824), _, rfl, rH860, (R.of_eq hxy863 rH861), (Nat.le_trans (Dep.le (r780 : (List (Int × (T4 Int Int Int Int))))) (by decide)), fun F865 H866 g867 => ?_⟩
        have g868 := Gr.apart g845 g867
        have ow869 := ow846.apart g867
        have ow870 := ow847.apart g867
        have ow871 := ow848.apart g867
        have ow872 := ow849.apart g867
        have ow873 := ow850.apart g867
        have ow874 := ow851.apart g867
        have ow875 := ow852.apart g867
        have ow876 := ow853.apart g867
        have ow877 := ow854.apart g867
        have ow878 := ow855.apart g867
        have ow879 := ow856.apart g867
        have ow880 := ow857.apart g867
        have ow881 := ow859.apart g867
        have hB882 := hB858.apart g867
        refine ⟨_, rfl, ?_⟩
        obtain ⟨c883, hc884, hm26⟩ := bnd hm26
        refine orJT (M := M0) (F := F821) (c := c883) (P := fun _ _ => True) (fun ha => ?_) (fun ha => ⟨(sjoin (ifT ha hc884)).symm, trivial⟩) g868.fh ?_
        · intro Q886 q887
          have hc884 := ifF ha hc884
          have r888 : R K F821 (V.ref p130) (((Sum.inl) y_web_here141) : ((T4 Int Int (List (Int × Int)) (List Int)) ⊕ (T4 Int Int (T4 Int (VT Int) (VT Int) (Option Int)) (List Int)))) := (r144.up (Same.trans sm200 (Same.trans g218.ff (Same.trans g242.ff (Same.trans g296.ff (Same.trans g330.ff (Same.trans g351.ff (Same.trans g370.ff (Same.trans g386.ff (Same.trans g423.ff (Same.trans sm458 (Same.trans sm481 (Same.trans sm504 (Same.trans g552.ff (Same.trans g587.ff (Same.trans g668.ff (Same.trans sm698 (Same.trans sm727 (Same.trans g784.ff g823.ff)))))))))))))))))))
          have r889 : R K F821 (V.ref p493) (((Sum.inr) y_item516) : ((T4 Int Int (List (Int × Int)) (List Int)) ⊕ (T4 Int Int (T4 Int (VT Int) (VT Int) (Option Int)) (List Int)))) := (r519.up (Same.trans g552.ff (Same.trans g587.ff (Same.trans g668.ff (Same.trans sm698 (Same.trans sm727 (Same.trans g784.ff g823.ff)))))))
          refine ⟨(V.ref p130), rfl, (V.ref p493), rfl, (by show 2 ≤ sizeLine; decide), fun p890 np891 => ?_⟩
          have ne892 := ow869.ne np891
          have ne893 := ow870.ne np891
          have ne894 := ow871.ne np891
          have ne895 := ow872.ne np891
          have ne896 := ow873.ne np891
          have ne897 := ow874.ne np891
          have ne898 := ow875.ne np891
          have ne899 := ow876.ne np891
          have ne900 := ow877.ne np891
          have ne901 := ow878.ne np891
          have ne902 := ow879.ne np891
          have ne903 := ow880.ne np891
          have ne904 := ow881.ne np891
          have nb905 := hB882.nb np891
          have g906 := g868.own (o := (.lst [(V.ref p130), (V.ref p493)])) np891
          have g907 := (Gr.refl (M := M0) g868.fh).own (o := (.lst [(V.ref p130), (V.ref p493)])) np891
          have ow908 := ow869.own (o := (.lst [(V.ref p130), (V.ref p493)])) np891
          have ow909 := ow870.own (o := (.lst [(V.ref p130), (V.ref p493)])) np891
          have ow910 := ow871.own (o := (.lst [(V.ref p130), (V.ref p493)])) np891
          have ow911 := ow872.own (o := (.lst [(V.ref p130), (V.ref p493)])) np891
          have ow912 := ow873.own (o := (.lst [(V.ref p130), (V.ref p493)])) np891
          have ow913 := ow874.own (o := (.lst [(V.ref p130), (V.ref p493)])) np891
          have ow914 := ow875.own (o := (.lst [(V.ref p130), (V.ref p493)])) np891
          have ow915 := ow876.own (o := (.lst [(V.ref p130), (V.ref p493)])) np891
          have ow916 := ow877.own (o := (.lst [(V.ref p130), (V.ref p493)])) np891
          have ow917 := ow878.own (o := (.lst [(V.ref p130), (V.ref p493)])) np891
          have ow918 := ow879.own (o := (.lst [(V.ref p130), (V.ref p493)])) np891
          have ow919 := ow880.own (o := (.lst [(V.ref p130), (V.ref p493)])) np891
          have ow920 := ow881.own (o := (.lst [(V.ref p130), (V.ref p493)])) np891
          have hB921 := hB882.own (o := (.lst [(V.ref p130), (V.ref p493)])) np891
          have ow922 : Ow H0 F821 (upd H866 p890 (.lst [(V.ref p130), (V.ref p493)])) p890 [(V.ref p130), (V.ref p493)] := Ow.new g868 np891
          have hA923 : RL K F821 [(V.ref p130), (V.ref p493)] ([(((Sum.inl) y_web_here141) : ((T4 Int Int (List (Int × Int)) (List Int)) ⊕ (T4 Int Int (T4 Int (VT Int) (VT Int) (Option Int)) (List Int)))), (((Sum.inr) y_item516) : ((T4 Int Int (List (Int × Int)) (List Int)) ⊕ (T4 Int Int (T4 Int (VT Int) (VT Int) (Option Int)) (List Int))))] : List ((T4 Int Int (List (Int × Int)) (List Int)) ⊕ (T4 Int Int (T4 Int (VT Int) (VT Int) (Option Int)) (List Int)))) := (RpA.cons r888 (RpA.cons r889 RpA.nil))
          obtain ⟨t924, hb925, hc884⟩ := bnd hc884
          have rr926 : R K (upd H866 p890 (.lst [(V.ref p130), (V.ref p493)])) (.ref p890) (([(((Sum.inl) y_web_here141) : ((T4 Int Int (List (Int × Int)) (List Int)) ⊕ (T4 Int Int (T4 Int (VT Int) (VT Int) (Option Int)) (List Int)))), (((Sum.inr) y_item516) : ((T4 Int Int (List (Int × Int)) (List Int)) ⊕ (T4 Int Int (T4 Int (VT Int) (VT Int) (Option Int)) (List Int))))] : List ((T4 Int Int (List (Int × Int)) (List Int)) ⊕ (T4 Int Int (T4 Int (VT Int) (VT Int) (Option Int)) (List Int)))) : (List ((T4 Int Int (List (Int × Int)) (List Int)) ⊕ (T4 Int Int (T4 Int (VT Int) (VT Int) (Option Int)) (List Int))))) := (R.mkl ow922.sq (by show 2 ≤ sizeLine; decide) (RpA.up hA923 g906.fh))
          obtain rfl := sjoin hc884
          refine ⟨p890, ([(((Sum.inl) y_web_here141) : ((T4 Int Int (List (Int × Int)) (List Int)) ⊕ (T4 Int Int (T4 Int (VT Int) (VT Int) (Option Int)) (List Int)))), (((Sum.inr) y_item516) : ((T4 Int Int (List (Int × Int)) (List Int)) ⊕ (T4 Int Int (T4 Int (VT Int) (VT Int) (Option Int)) (List Int))))] : List ((T4 Int Int (List (Int × Int)) (List Int)) ⊕ (T4 Int Int (T4 Int (VT Int) (VT Int) (Option Int)) (List Int)))), t924, rfl, rr926, hb925, (V.str t545), rfl, rfl, _, rfl, (q887 _ _ g907 trivial)⟩
        intro F927 H928 g929 hB930
        have g931 := Gr.trans g868 (Gr.of0 g929)
        have ow932 := ow869.gr0 g929
        have ow933 := ow870.gr0 g929
        have ow934 := ow871.gr0 g929
        have ow935 := ow872.gr0 g929
        have ow936 := ow873.gr0 g929
        have ow937 := ow874.gr0 g929
        have ow938 := ow875.gr0 g929
        have ow939 := ow876.gr0 g929
        have ow940 := ow877.gr0 g929
        have ow941 := ow878.gr0 g929
        have ow942 := ow879.gr0 g929
        have ow943 := ow880.gr0 g929
        have ow944 := ow881.gr0 g929
        have hB945 := hB882.gr0 g929
        refine (iteB (fun hc => ?_) (fun hc => ?_))
        · have hm26 := ifT hc hm26
          refine p_ret ?_
          obtain rfl := sjoin hm26
          have hm := bret hm
          obtain ⟨he946, rfl⟩ := pjoin hm
          exact absurd he946 (by decide)
        · have hm26 := ifF hc hm26
          refine p_next ?_
          exact ⟨F927, (some (V.int ((0 : Int) + ((i4 : Nat) : Int)))), (some (V.ref p130)), (some v52), (some v53), (some (V.ref p108)), (some (V.ref D159)), (some (V.ref p268)), (some v343), (some (V.int y_great362)), (some (V.int t435)), (some (V.ref p493)), (some (V.str t545)), (some (V.ref p553)), b419, rfl, g931, (Same.trans sm24 (Same.trans g34.ff (Same.trans g44.ff (Same.trans sm124 (Same.trans sm135 (Same.trans sm200 (Same.trans g218.ff (Same.trans g242.ff (Same.trans g296.ff (Same.trans g330.ff (Same.trans g351.ff (Same.trans g370.ff (Same.trans g386.ff (Same.trans g423.ff (Same.trans sm458 (Same.trans sm481 (Same.trans sm504 (Same.trans g552.ff (Same.trans g587.ff (Same.trans g668.ff (Same.trans sm698 (Same.trans sm727 (Same.trans g784.ff (Same.trans g823.ff g929.ff)))))))))))))))))))))))), hB945, hm26⟩
    intro σ947 H948 hP
    obtain ⟨F949, o_y_turn950, o_y_web_here951, o_y_by952, o_y_line953, o_y_doors954, o_y_rest955, o_y_past956, o_y_most957, o_y_great958, o_y_digit959, o_y_item960, o_y_kept961, o_y_told962, b963, rfl, g964, sm965, hB966, hm967⟩ := hP
    rw [drop_end (rangeL_len _ _).symm, m_law_l1.eq_1] at hm967
    obtain rfl := sjoin hm967
    have hm := bgo1 hm
    refine p_nx ?_
    refine p_ret ?_
    obtain ⟨he968, rfl⟩ := pjoin hm
    exact (retQ (e := true) he968 (hQ _ _ g964 hB966))
end K42
namespace K42
open PySem PySem.Spec PyProof.Rows L2 TL G
theorem bits_log {n : Int} (h0 : 0 < n) (h1 : n < 18446744073709551616) : Builtin.Int.intBits n < 9000 := by
  have h2 : n.natAbs < 2 ^ 64 := by omega
  have h3 : n.natAbs ≠ 0 := by omega
  have h4 := (Nat.log2_lt h3).mpr h2
  unfold Builtin.Int.intBits
  first | (split <;> omega) | omega | (simp; omega)
theorem stir_in {z c : Int} (h0 : 0 ≤ z) (h1 : z < 2147483648) : ∀ n, 0 ≤ (stirN z c n).1 ∧ (stirN z c n).1 < 2147483648
  | 0 => ⟨h0, h1⟩
  | n + 1 => ⟨Int.emod_nonneg _ (by decide), Int.lt_trans (Int.emod_lt_of_pos _ (by decide)) (by decide)⟩
theorem stirred_O {b : Bag} {n : Int} (hb : BOk b) (h0 : 0 < n) (h1 : n < 18446744073709551616) : O2 BOk (m_l_stirred b n) (fun r => 0 ≤ r ∧ r < n) := by
  unfold m_l_stirred
  rw [if_pos ⟨⟨h0, bits_log h0 h1⟩, hb.lo, hb.hi⟩]
  have hs := stir_in (c := b.cnt) hb.lo hb.hi (1 + Builtin.Int.intBits n / 27)
  exact O2.ret ⟨hs.1, hs.2, hb.len⟩ ⟨Int.emod_nonneg _ (by omega), Int.emod_lt_of_pos _ h0⟩
theorem draw_O {b : Bag} {n : Int} (hb : BOk b) (h0 : 0 < n) (h1 : n < 18446744073709551616) : O2 BOk (m_l_draw b n) (fun r => 0 ≤ r ∧ r < n) := by
  have hlog : n.natAbs.log2 < 9000 := by
    have hn : n.natAbs < 2 ^ 64 := by omega
    have hz : n.natAbs ≠ 0 := by omega
    have := (Nat.log2_lt hz).mpr hn
    omega
  have h63 := hb.len
  have hm : 0 ≤ b.left % n ∧ b.left % n < n := ⟨Int.emod_nonneg _ (by omega), Int.emod_lt_of_pos _ h0⟩
  unfold m_l_draw
  rw [if_pos ⟨⟨h0, hlog⟩, by rw [sizeLine_eq]; omega⟩]
  by_cases hz : b.left = 0
  · rw [if_pos hz]
    cases e : b.cells[b.at_]? with
    | some x => exact O2.ret ⟨hb.lo, hb.hi, hb.len⟩ ⟨Int.emod_nonneg _ (by omega), Int.emod_lt_of_pos _ h0⟩
    | none => exact stirred_O hb h0 h1
  · rw [if_neg hz]
    exact O2.ret ⟨hb.lo, hb.hi, hb.len⟩ hm
end K42
namespace K42
open PySem PySem.Spec PyProof.Rows L2 TL G
/-! ### a web: mixed rows, ties, doors -/
structure TownOk (t : T4 Int Int (List (Int × Int)) (List Int)) : Prop where
  w : 1 ≤ t.a ∧ t.a ≤ 30
  n : 1 ≤ t.b ∧ t.b ≤ 12
  ties : ∀ p ∈ t.c, 0 ≤ p.1 ∧ p.1 < p.2 ∧ p.2 < t.b
  few : t.c.length ≤ 20
  nd : t.c.Nodup
  doors : ∀ d ∈ t.e, 0 ≤ d ∧ d < t.b
  some_ : 1 ≤ t.e.length ∧ t.e.length ≤ 8
theorem mixed_c1_ : ∀ (l s : List Int) (b : Bag), BOk b → l.length = s.length → s.length ≤ 1000 → ∃ r s' b', m_l_mixed_c1 l s b = some (r, s', b') ∧ BOk b' ∧ r.Perm s
  | [], s, b, hb, hl, _ => ⟨[], s, b, rfl, hb, by rw [List.eq_nil_of_length_eq_zero hl.symm]⟩
  | k :: l, s, b, hb, hl, hn => by
    rw [List.length_cons] at hl
    obtain ⟨r, b1, e1, hb1, hr⟩ := draw_O (n := ((s.length : Nat) : Int)) hb (by omega) (by omega)
    obtain ⟨⟨x, s2⟩, e2, j, hj, hx, rfl⟩ := popI_O (xs := s) (i := r) (P := fun q => ∃ j : Nat, ∃ hj : j < s.length, q.1 = s[j] ∧ q.2 = s.eraseIdx j) hr.1 hr.2 fun j hj _ => ⟨j, hj, rfl, rfl⟩
    have hlen : (s.eraseIdx j).length = s.length - 1 := List.length_eraseIdx_of_lt hj
    obtain ⟨rest, s', b', e3, hb', hp⟩ := mixed_c1_ l (s.eraseIdx j) b1 hb1 (by omega) (by omega)
    refine ⟨x :: rest, s', b', ?_, hb', ?_⟩
    · unfold m_l_mixed_c1
      rw [e1, bind2_some, e2, bind2_some, e3]
      rfl
    · have hx' : x = s[j] := hx
      rw [hx']
      exact (hp.cons _).trans (erase_perm hj)
theorem mixed_O {b : Bag} {s : List Int} (hb : BOk b) (hs : s.length ≤ 1000) : O2 BOk (m_l_mixed b s) (fun r => r.Perm s) := by
  unfold m_l_mixed
  refine O2.bind1 (rangeO1_O (P := fun l => l.length = s.length) (by omega) (by omega) (by rw [rangeL_length]; omega)) fun l hl => ?_
  obtain ⟨r, s', b', e, hb', hp⟩ := mixed_c1_ l s b hb hl hs
  rw [e, bind3_some]
  exact O2.ret hb' hp
theorem mixed2_c1_ : ∀ (l : List Int) (s : List (Int × Int)) (b : Bag), BOk b → l.length = s.length → s.length ≤ 1000 → ∃ r s' b', m_l_mixed_2_c1 l s b = some (r, s', b') ∧ BOk b' ∧ r.Perm s
  | [], s, b, hb, hl, _ => ⟨[], s, b, rfl, hb, by rw [List.eq_nil_of_length_eq_zero hl.symm]⟩
  | k :: l, s, b, hb, hl, hn => by
    rw [List.length_cons] at hl
    obtain ⟨r, b1, e1, hb1, hr⟩ := draw_O (n := ((s.length : Nat) : Int)) hb (by omega) (by omega)
    obtain ⟨⟨x, s2⟩, e2, j, hj, hx, rfl⟩ := popI_O (xs := s) (i := r) (P := fun q => ∃ j : Nat, ∃ hj : j < s.length, q.1 = s[j] ∧ q.2 = s.eraseIdx j) hr.1 hr.2 fun j hj _ => ⟨j, hj, rfl, rfl⟩
    have hlen : (s.eraseIdx j).length = s.length - 1 := List.length_eraseIdx_of_lt hj
    obtain ⟨rest, s', b', e3, hb', hp⟩ := mixed2_c1_ l (s.eraseIdx j) b1 hb1 (by omega) (by omega)
    refine ⟨x :: rest, s', b', ?_, hb', ?_⟩
    · unfold m_l_mixed_2_c1
      rw [e1, bind2_some, e2, bind2_some, e3]
      rfl
    · have hx' : x = s[j] := hx
      rw [hx']
      exact (hp.cons _).trans (erase_perm hj)
theorem mixed2_O {b : Bag} {s : List (Int × Int)} (hb : BOk b) (hs : s.length ≤ 1000) : O2 BOk (m_l_mixed_2 b s) (fun r => r.Perm s) := by
  unfold m_l_mixed_2
  refine O2.bind1 (rangeO1_O (P := fun l => l.length = s.length) (by omega) (by omega) (by rw [rangeL_length]; omega)) fun l hl => ?_
  obtain ⟨r, s', b', e, hb', hp⟩ := mixed2_c1_ l s b hb hl hs
  rw [e, bind3_some]
  exact O2.ret hb' hp
theorem range_nodup (lo : Int) (n : Nat) : (rangeL lo n).Nodup := by
  unfold rangeL
  refine List.pairwise_map.mpr (List.nodup_range.imp fun {a b} h e => h (by omega))
/-- the ties found by the first e houses of t -/
structure TJ (t : List Int) (n : Nat) (e : Nat) (f : List (Int × Int)) : Prop where
  ends : ∀ p ∈ f, (0 ≤ p.1 ∧ p.1 < p.2 ∧ p.2 < (n : Int)) ∧ p.1 ∈ t.take e ∧ p.2 ∈ t.take e
  nd : f.Nodup
  len : f.length + 1 ≤ e
theorem atI_take {t : List Int} {i : Int} {e : Nat} (h0 : 0 ≤ i) (h1 : i < (e : Nat)) (he : e ≤ t.length) : O1 (atI t i) (fun x => x ∈ t.take e) := by
  obtain ⟨j, rfl⟩ := Int.eq_ofNat_of_zero_le h0
  have hj : j < t.length := by omega
  refine ⟨t[j], atI_nat (List.getElem?_eq_getElem hj), ?_⟩
  exact List.mem_take_iff_getElem.mpr ⟨j, by omega, rfl⟩
theorem TJ.up {t : List Int} {n e : Nat} {f : List (Int × Int)} (h : TJ t n e f) : TJ t n (e + 1) f :=
  ⟨fun p hp => ⟨(h.ends p hp).1, (List.take_prefix_take_left (Nat.le_succ e)).subset (h.ends p hp).2.1, (List.take_prefix_take_left (Nat.le_succ e)).subset (h.ends p hp).2.2⟩, h.nd, by have := h.len; omega⟩
theorem TJ.add {t : List Int} {n e : Nat} {f : List (Int × Int)} (h : TJ t n e f) (hnd : t.Nodup) (hb : ∀ x ∈ t, 0 ≤ x ∧ x < (n : Int)) (he : e < t.length) {x : Int} (hx : x ∈ t.take e) :
    TJ t n (e + 1) (f ++ [((if x < t[e] then x else t[e]), (if x > t[e] then x else t[e]))]) := by
  have hxt : x ∈ t := List.mem_of_mem_take hx
  have hy : t[e] ∈ t := List.getElem_mem he
  have hye : t[e] ∉ t.take e := fun z => by
    obtain ⟨i, hi, e1⟩ := List.mem_take_iff_getElem.mp z
    have := (List.getElem_inj hnd).mp e1
    omega
  have hne : x ≠ t[e] := fun z => hye (z ▸ hx)
  have hx' : x ∈ t.take (e + 1) := (List.take_prefix_take_left (Nat.le_succ e)).subset hx
  have hy' : t[e] ∈ t.take (e + 1) := List.mem_take_iff_getElem.mpr ⟨e, by omega, rfl⟩
  have b1 := hb x hxt
  have b2 := hb _ hy
  generalize t[e] = y at *
  refine ⟨fun p hp => ?_, ?_, by rw [List.length_append, List.length_singleton]; have := h.len; omega⟩
  · rcases List.mem_append.mp hp with hp | hp
    · exact (h.up).ends p hp
    · rw [List.mem_singleton.mp hp]
      refine ⟨?_, ?_, ?_⟩
      · show 0 ≤ (if x < y then x else y) ∧ (if x < y then x else y) < (if x > y then x else y) ∧ (if x > y then x else y) < (n : Int)
        split <;> split <;> omega
      · show (if x < y then x else y) ∈ _
        split <;> assumption
      · show (if x > y then x else y) ∈ _
        split <;> assumption
  · refine List.nodup_append.mpr ⟨h.nd, by simp, fun p hp q hq e1 => ?_⟩
    rw [List.mem_singleton.mp hq] at e1
    have h2 := (h.ends p hp).2
    rw [e1] at h2
    have h3 : (if x < y then x else y) ∈ t.take e ∧ (if x > y then x else y) ∈ t.take e := h2
    by_cases c : x < y
    · rw [if_neg (by omega : ¬ x > y)] at h3; exact hye h3.2
    · rw [if_neg c] at h3; exact hye h3.1
theorem ties_l1 {t : List Int} {n : Nat} (hn : n ≤ 12) (ht : t.length = n) (hnd : t.Nodup) (hbt : ∀ x ∈ t, 0 ≤ x ∧ x < (n : Int)) {s : Int} (hs : 0 ≤ s ∧ s < 4) :
    ∀ (k e : Nat) (f : List (Int × Int)) (b : Bag), BOk b → 1 ≤ e → e + k = n → TJ t n e f → O2 BOk (m_l_ties_l1 t s (rangeL (e : Int) k) f b) (TJ t n n)
  | 0, e, f, b, hb, _, he, h => by
    have : e = n := by omega
    subst this
    exact O2.ret hb h
  | k + 1, e, f, b, hb, h1, he, h => by
    rw [rangeL_succ]
    unfold m_l_ties_l1
    refine O2.bind (draw_O hb (by omega) (by omega)) fun r1 b hb hr1 => ?_
    refine O2.bind (draw_O hb (by omega) (by omega)) fun r2 b hb hr2 => ?_
    refine O2.bind1 (P := fun i => 0 ≤ i ∧ i < (e : Int)) (atI_O hs.1 hs.2 fun x hx => ?_) fun i hi => ?_
    · simp only [List.mem_cons, List.not_mem_nil, or_false] at hx
      omega
    refine O2.bind1 (atI_take hi.1 hi.2 (by omega)) fun x hx => ?_
    have hee : e < t.length := by omega
    have ey : atI t (e : Int) = some t[e] := atI_nat (List.getElem?_eq_getElem hee)
    refine O2.bind (P := fun _ => True) ?_ fun c b hb _ => ?_
    · refine O2.ite (fun _ => O2.ret hb trivial) (fun _ => ?_)
      refine O2.bind (draw_O hb (by decide) (by decide)) fun r b hb _ => O2.ret hb trivial
    refine O2.ite (fun _ => ?_) (fun _ => ?_)
    · rw [ey, Option.bind_some, Option.bind_some, appL_some (by have := h.len; omega), Option.bind_some]
      exact ties_l1 hn ht hnd hbt hs k (e + 1) _ b hb (by omega) (by omega) (h.add hnd hbt hee hx)
    · exact ties_l1 hn ht hnd hbt hs k (e + 1) _ b hb (by omega) (by omega) h.up
structure TF (n : Int) (f : List (Int × Int)) : Prop where
  ends : ∀ p ∈ f, 0 ≤ p.1 ∧ p.1 < p.2 ∧ p.2 < n
  nd : f.Nodup
  len : f.length ≤ 20
theorem sort2 (x y : Int) : ∃ u v, sortI [x, y] = [u, v] ∧ u ≤ v ∧ (u = x ∧ v = y ∨ u = y ∧ v = x) := by
  have hp := sortI_perm [x, y]
  have hs := sortI_sorted [x, y]
  have hl := hp.length_eq
  match e : sortI [x, y], hl with
  | [u, v], _ =>
    rw [e] at hp hs
    have h1 := (List.pairwise_cons.mp hs).1 v (List.mem_singleton.mpr rfl)
    have hu : u ∈ [x, y] := hp.mem_iff.mp (List.mem_cons_self ..)
    refine ⟨u, v, rfl, h1, ?_⟩
    simp only [List.mem_cons, List.not_mem_nil, or_false] at hu
    rcases hu with rfl | rfl
    · have := (List.perm_cons _).mp hp
      exact .inl ⟨rfl, List.singleton_perm_singleton.mp this⟩
    · have h2 : [u, v].Perm [u, x] := hp.trans (List.Perm.swap _ _ _)
      have := (List.perm_cons _).mp h2
      exact .inr ⟨rfl, List.singleton_perm_singleton.mp this⟩
theorem ties_l2 {n : Int} (hn : 1 ≤ n ∧ n ≤ 12) : ∀ (l : List Int) (f : List (Int × Int)) (b : Bag), BOk b → TF n f → O2 BOk (m_l_ties_l2 n l f b) (TF n)
  | [], f, b, hb, h => O2.ret hb h
  | k :: l, f, b, hb, h => by
    unfold m_l_ties_l2
    refine O2.bind (draw_O hb (by omega) (by omega)) fun r1 b hb hr1 => ?_
    refine O2.bind (draw_O hb (by omega) (by omega)) fun r2 b hb hr2 => ?_
    obtain ⟨u, v, e, huv, hor⟩ := sort2 r1 r2
    have a0 : atI [u, v] (0 : Int) = some u := rfl
    have a1 : atI [u, v] (1 : Int) = some v := rfl
    rw [e, Option.bind_some, a0, Option.bind_some, a1, Option.bind_some]
    refine O2.bind1 (P := fun c => c = true → u ≠ v ∧ (u, v) ∉ f ∧ f.length < 20) ?_ fun c hc => ?_
    · refine O1.ite (fun c1 => ?_) (fun _ => ⟨_, rfl, fun z => nomatch z⟩)
      rw [Option.bind_some, Option.bind_some]
      refine ⟨_, rfl, fun z => ?_⟩
      rw [Bool.and_eq_true] at z
      have z2 := of_decide_eq_true z.2
      refine ⟨fun e => ?_, fun m => ?_, by omega⟩
      · rw [e] at c1
        unfold neI at c1
        simp at c1
      · rw [inD_true m] at z
        exact absurd z.1 (by decide)
    refine O2.ite (fun c1 => ?_) (fun _ => ties_l2 hn l f b hb h)
    obtain ⟨h1, h2, h3⟩ := hc c1
    rw [Option.bind_some, Option.bind_some, appL_some (by omega), Option.bind_some]
    refine ties_l2 hn l _ b hb ⟨fun p hp => ?_, ?_, by rw [List.length_append, List.length_singleton]; omega⟩
    · rcases List.mem_append.mp hp with hp | hp
      · exact h.ends p hp
      · rw [List.mem_singleton.mp hp]
        show 0 ≤ u ∧ u < v ∧ v < n
        omega
    · exact List.nodup_append.mpr ⟨h.nd, by simp, fun p hp q hq e1 => h2 (by rw [List.mem_singleton.mp hq] at e1; exact e1 ▸ hp)⟩
theorem ties_O {b : Bag} {n : Int} (hb : BOk b) (hn : 1 ≤ n ∧ n ≤ 12) : O2 BOk (m_l_ties b n) (TF n) := by
  unfold m_l_ties
  obtain ⟨m, rfl⟩ := Int.eq_ofNat_of_zero_le (show 0 ≤ n by omega)
  refine O2.bind1 (rangeO1_O (P := fun l => l = rangeL 0 m) (by omega) (by omega) (by rw [Int.toNat_natCast])) fun l hl => ?_
  subst hl
  refine O2.bind (mixed_O hb (by rw [rangeL_length]; omega)) fun t b hb ht => ?_
  refine O2.bind (draw_O hb (by decide) (by decide)) fun s b hb hs => ?_
  rw [Option.bind_some, rangeO_1 (by omega), Option.bind_some]
  have hl : t.length = m := by rw [ht.length_eq, rangeL_length]
  refine O2.bind (ties_l1 (by omega) hl (ht.nodup_iff.mpr (range_nodup _ _)) (fun x hx => mem_rangeL (ht.mem_iff.mp hx)) hs (m - 1) 1 [] b hb (Nat.le_refl _) (by omega) ⟨fun _ h => (List.not_mem_nil h).elim, List.nodup_nil, Nat.le_refl _⟩) fun f b hb hf => ?_
  have hF : TF (m : Int) f := ⟨fun p hp => (hf.ends p hp).1, hf.nd, by have := hf.len; omega⟩
  refine O2.bind (draw_O hb (by decide) (by decide)) fun r1 b hb h1 => ?_
  refine O2.bind1 (P := fun i => 0 < i ∧ i ≤ (21 : Int)) (atI_O h1.1 h1.2 fun x hx => ?_) fun i hi => ?_
  · simp only [List.mem_cons, List.not_mem_nil, or_false] at hx
    omega
  refine O2.bind (draw_O hb hi.1 (by omega)) fun r2 b hb h2 => ?_
  refine O2.bind1 (rangeO1_O (P := fun _ => True) (by omega) (by omega) trivial) fun l2 _ => ?_
  refine O2.bind (ties_l2 hn l2 f b hb hF) fun f2 b hb hf2 => ?_
  refine O2.bind (mixed2_O hb (by have := hf2.len; omega)) fun f3 b hb hp => ?_
  exact O2.ret hb ⟨fun p h => hf2.ends p (hp.mem_iff.mp h), hp.nodup_iff.mpr hf2.nd, by rw [hp.length_eq]; exact hf2.len⟩
theorem web_c1_ {n : Int} (h0 : 0 < n) (h1 : n ≤ 12) : ∀ (l : List Int) (b : Bag), BOk b → O2 BOk (m_l_web_c1 n l b) (fun r => r.length = l.length ∧ ∀ d ∈ r, 0 ≤ d ∧ d < n)
  | [], b, hb => O2.ret hb ⟨rfl, fun _ h => (List.not_mem_nil h).elim⟩
  | k :: l, b, hb => by
    unfold m_l_web_c1
    refine O2.bind (draw_O hb h0 (by omega)) fun r b hb hr => ?_
    refine O2.bind (web_c1_ h0 h1 l b hb) fun rest b hb h => ?_
    refine O2.ret hb ⟨congrArg Nat.succ h.1, fun d hd => ?_⟩
    rcases List.mem_cons.mp hd with rfl | hd
    · exact hr
    · exact h.2 d hd
theorem web_O {b : Bag} (hb : BOk b) : O2 BOk (m_l_web b) TownOk := by
  unfold m_l_web
  refine O2.bind (draw_O hb (by decide) (by decide)) fun r1 b hb h1 => ?_
  refine O2.bind (draw_O hb (by decide) (by decide)) fun r2 b hb h2 => ?_
  refine O2.bind (draw_O hb (by decide) (by decide)) fun r3 b hb h3 => ?_
  refine O2.bind (draw_O hb (by decide) (by decide)) fun r4 b hb h4 => ?_
  refine O2.bind1 (P := fun n => 1 ≤ n ∧ n ≤ 12) (atI_O h4.1 h4.2 fun x hx => ?_) fun n hn => ?_
  · simp only [List.mem_cons, List.not_mem_nil, or_false] at hx
    omega
  refine O2.bind (draw_O hb (by decide) (by decide)) fun r5 b hb h5 => ?_
  refine O2.bind (draw_O hb (by decide) (by decide)) fun r6 b hb h6 => ?_
  refine O2.bind (draw_O hb (by decide) (by decide)) fun r7 b hb h7 => ?_
  refine O2.bind (draw_O hb (by decide) (by decide)) fun r8 b hb h8 => ?_
  refine O2.bind1 (P := fun n => 1 ≤ n ∧ n ≤ 30) (atI_O h8.1 h8.2 fun x hx => ?_) fun wd hw => ?_
  · simp only [List.mem_cons, List.not_mem_nil, or_false] at hx
    omega
  refine O2.bind (draw_O hb (by decide) (by decide)) fun r9 b hb h9 => ?_
  refine O2.bind1 (P := fun n => 1 ≤ n ∧ n ≤ 8) (atI_O h9.1 h9.2 fun x hx => ?_) fun g hg => ?_
  · simp only [List.mem_cons, List.not_mem_nil, or_false] at hx
    omega
  refine O2.bind (draw_O hb (by omega) (by omega)) fun r10 b hb h10 => ?_
  rw [Option.bind_some]
  refine O2.bind (ties_O hb hn) fun ts b hb ht => ?_
  refine O2.bind1 (rangeO1_O (P := fun l => 1 ≤ l.length ∧ l.length ≤ 8) (by omega) (by omega) (by rw [rangeL_length]; omega)) fun l hl => ?_
  refine O2.bind (web_c1_ (by omega) hn.2 l b hb) fun ds b hb hd => ?_
  exact O2.ret hb ⟨hw, hn, ht.ends, ht.len, ht.nd, hd.2, by show 1 ≤ ds.length ∧ ds.length ≤ 8; rw [hd.1]; exact hl⟩
end K42
namespace K42
open PySem PySem.Spec PyProof.Rows L2 TL G
/-! ### done, stands, the rules of a way -/
abbrev Rule := T4 Int Int Int Int
abbrev HR := Int × Rule
abbrev Item := T4 Int Int (T4 Int (VT Int) (VT Int) (Option Int)) (List Int)
def doneN (by_ : List Int) (d : Nat) (h : Int) : Nat := if by_[d]? = some h then d + 1 else d
theorem done_O (by_ : List Int) (d : Nat) (h : Int) : (Option.bind (if (decide ((d : Int) < (((by_).length : Nat) : Int))) = true then (Option.bind (atI by_ (d : Int)) fun t13 => some ((eqI t13 h))) else some false) fun c8 => some ((d : Int) + (toI c8))) = some ((doneN by_ d h : Nat) : Int) := by
  unfold doneN
  by_cases c : d < by_.length
  · have e : by_[d]? = some by_[d] := List.getElem?_eq_getElem c
    rw [if_pos (decide_eq_true (by omega)), atI_nat e, Option.bind_some, Option.bind_some, e]
    unfold eqI
    by_cases z : by_[d] = h
    · rw [if_pos (by rw [z]), z]
      simp [toI]
    · rw [if_neg (by intro y; exact z (Option.some.inj y))]
      simp [toI, z]
  · rw [if_neg (by simpa using c), Option.bind_some, List.getElem?_eq_none (by omega), if_neg (by simp)]
    simp [toI]
theorem l_done_O (by_ : VT Int) (d : Nat) (h : Int) : m_l_done by_ (d : Int) h = some ((doneN by_.l d h : Nat) : Int) := done_O _ _ _
theorem l_done2_O (by_ : List Int) (d : Nat) (h : Int) : m_l_done_2 by_ (d : Int) h = some ((doneN by_ d h : Nat) : Int) := done_O _ _ _
theorem done_behind_O (by_ : VT Int) (d : Nat) (h : Int) : m_done_behind by_ (d : Int) h = some ((doneN by_.l d h : Nat) : Int) := done_O _ _ _
theorem doneN_le (by_ : List Int) (d : Nat) (h : Int) : d ≤ doneN by_ d h := by unfold doneN; split <;> omega
/-- how many are done behind a walk -/
def dn (by_ : List Int) : Nat → List Int → Nat
  | d, [] => d
  | d, h :: t => dn by_ (doneN by_ d h) t
theorem dn_le (by_ : List Int) : ∀ (l : List Int) (d : Nat), d ≤ dn by_ d l
  | [], d => Nat.le_refl _
  | h :: t, d => Nat.le_trans (doneN_le by_ d h) (dn_le by_ t _)
/-- the stands of a walk -/
def stL (by_ : List Int) : Nat → List Int → List (Int × Int)
  | _, [] => []
  | d, h :: t => (((doneN by_ d h : Nat) : Int), h) :: stL by_ (doneN by_ d h) t
theorem stL_len (by_ : List Int) : ∀ (l : List Int) (d : Nat), (stL by_ d l).length = l.length
  | [], _ => rfl
  | h :: t, d => congrArg Nat.succ (stL_len by_ t _)
theorem doneN_take {by_ : List Int} {d D : Nat} {h : Int} (hd : doneN by_ d h ≤ D) : doneN (by_.take D) d h = doneN by_ d h := by
  unfold doneN at *
  by_cases c : by_[d]? = some h
  · rw [if_pos c] at hd ⊢
    rw [if_pos (by rw [List.getElem?_take_of_lt (by omega)]; exact c)]
  · rw [if_neg c] at hd ⊢
    rw [if_neg]
    intro z
    by_cases y : d < D
    · rw [List.getElem?_take_of_lt y] at z; exact c z
    · rw [List.getElem?_take_eq_none (by omega)] at z; cases z
theorem stL_take {by_ : List Int} {D : Nat} : ∀ (l : List Int) (d : Nat), dn by_ d l ≤ D → stL (by_.take D) d l = stL by_ d l
  | [], _, _ => rfl
  | h :: t, d, hd => by
    have h1 : doneN by_ d h ≤ D := Nat.le_trans (dn_le by_ t _) hd
    show (((doneN (by_.take D) d h : Nat) : Int), h) :: stL (by_.take D) (doneN (by_.take D) d h) t = _
    rw [doneN_take h1, stL_take t _ hd]
    rfl
theorem stL_last (by_ : List Int) : ∀ (l : List Int) (d : Nat), l ≠ [] → ∃ h, (stL by_ d l).getLast? = some (((dn by_ d l : Nat) : Int), h)
  | [], _, h => absurd rfl h
  | [h], d, _ => ⟨h, rfl⟩
  | h :: g :: t, d, _ => by
    obtain ⟨x, e⟩ := stL_last by_ (g :: t) (doneN by_ d h) (by simp)
    refine ⟨x, ?_⟩
    show (_ :: stL by_ (doneN by_ d h) (g :: t)).getLast? = _
    rw [List.getLast?_cons, e]
    rfl
/-- the rules but the last one, and its mark -/
def pre (num : Int) (by_ : List Int) : Int → Nat → Int → List Int → List HR
  | _, _, _, [] => []
  | m, d, h, g :: t => (h, T4.mk num m g ((doneN by_ d g : Nat) : Int)) :: pre num by_ ((doneN by_ d g : Nat) : Int) (doneN by_ d g) g t
def mkL (by_ : List Int) : Int → Nat → List Int → Int
  | m, _, [] => m
  | _, d, g :: t => mkL by_ ((doneN by_ d g : Nat) : Int) (doneN by_ d g) t
theorem pre_len (num : Int) (by_ : List Int) : ∀ (t : List Int) (m : Int) (d : Nat) (h : Int), (pre num by_ m d h t).length = t.length
  | [], _, _, _ => rfl
  | g :: t, _, d, _ => congrArg Nat.succ (pre_len num by_ t _ _ _)
theorem rules_l1 (num : Int) (by_ : VT Int) : ∀ (t : List Int) (h : Int) (d : Nat) (m : Int) (f : List HR), f.length + t.length ≤ 1000 →
    m_rules_of_l1 num by_ (List.zip (h :: t) t) (d : Int) m f = some (((dn by_.l d t : Nat) : Int), mkL by_.l m d t, f ++ pre num by_.l m d h t)
  | [], h, d, m, f, _ => by
    show some (((d : Nat) : Int), m, f) = some (((d : Nat) : Int), m, f ++ [])
    rw [List.append_nil]
  | g :: t, h, d, m, f, hl => by
    rw [List.length_cons] at hl
    rw [List.zip_cons_cons]
    unfold m_rules_of_l1
    rw [done_behind_O, Option.bind_some, appL_some (by omega), Option.bind_some, rules_l1 num by_ t g _ _ _ (by rw [List.length_append, List.length_singleton]; omega), List.append_assoc]
    rfl
theorem due_l1 (num : Int) (want : T4 Int (VT Int) (VT Int) (Option Int)) (line : List Int) (hline : line.length ≤ 1000) : ∀ (t u : List Int) (h : Int) (d : Nat) (m : Int) (f : List HR), line = u ++ h :: t → f.length + t.length ≤ 1000 →
    m_l_due_l1 num want line (rangeL ((u.length + 1 : Nat) : Int) t.length) (d : Int) m f = some (((dn want.b.l d t : Nat) : Int), mkL want.b.l m d t, f ++ pre num want.b.l m d h t)
  | [], u, h, d, m, f, e, _ => by
    show some (((d : Nat) : Int), m, f) = some (((d : Nat) : Int), m, f ++ [])
    rw [List.append_nil]
  | g :: t, u, h, d, m, f, e, hl => by
    rw [List.length_cons] at hl
    rw [List.length_cons, rangeL_succ]
    have e1 : line[u.length + 1]? = some g := by rw [e, List.getElem?_append_right (by omega), show u.length + 1 - u.length = 1 by omega]; rfl
    have e0 : line[u.length]? = some h := by rw [e, List.getElem?_append_right (Nat.le_refl _), Nat.sub_self]; rfl
    unfold m_l_due_l1
    have z : (((u.length + 1 : Nat) : Int) - 1) = ((u.length : Nat) : Int) := by omega
    rw [z, atI_nat e1, atI_nat e0, Option.bind_some, l_done_O, Option.bind_some, Option.bind_some, Option.bind_some, appL_some (by omega), Option.bind_some]
    have hu : (u ++ [h]).length = u.length + 1 := by rw [List.length_append, List.length_singleton]
    have := due_l1 num want line hline t (u ++ [h]) g (doneN want.b.l d g) ((doneN want.b.l d g : Nat) : Int) (f ++ [(h, T4.mk num m g ((doneN want.b.l d g : Nat) : Int))]) (by rw [e, List.append_assoc]; rfl) (by rw [List.length_append, List.length_singleton]; omega)
    rw [hu] at this
    have z2 : (((u.length + 1 : Nat) : Int) + 1) = ((u.length + 1 + 1 : Nat) : Int) := by omega
    rw [z2]
    refine this.trans ?_
    rw [List.append_assoc]
    rfl
/-- all rules of an item -/
def rulesA (num : Int) (by_ : List Int) (goal : Int) (h : Int) (t : List Int) : List HR :=
  pre num by_ 0 (doneN by_ 0 h) h t ++ [((h :: t).getLast (by simp), T4.mk num (mkL by_ 0 (doneN by_ 0 h) t) (-1) goal)]
theorem atI_lastL {α : Type} (h : α) (t : List α) : atI (h :: t) (-(1 : Int)) = some ((h :: t).getLast (by simp)) := by
  have e := List.dropLast_concat_getLast (l := h :: t) (by simp)
  conv => lhs; rw [← e]
  rw [atI_last]
theorem rules_of_O {web : T4 Int Int (List (Int × Int)) (List Int)} {it : Item} {h : Int} {t : List Int} (e : it.e = h :: t) (hl : t.length ≤ 900) : m_rules_of web it = some (rulesA it.a it.c.b.l it.c.a h t) := by
  unfold m_rules_of
  have a0 : atI (h :: t) (0 : Int) = some h := atI_nat (j := 0) rfl
  have z : ((0 : Int)) = ((0 : Nat) : Int) := rfl
  have c1 : cutL (h :: t) (some (1 : Int)) none = t := cutL_from (h :: t) 1
  rw [e, Option.bind_some, a0, Option.bind_some]
  have d0 : m_done_behind it.c.b (0 : Int) h = some ((doneN it.c.b.l 0 h : Nat) : Int) := done_behind_O it.c.b 0 h
  rw [d0, Option.bind_some, c1, rules_l1 _ _ t h _ _ [] (by simp; omega), bind3_some, atI_lastL, Option.bind_some, appL_some (by rw [List.length_append, pre_len]; simp; omega), Option.bind_some, List.nil_append]
  rfl
theorem due_O {it : Item} {h : Int} {t : List Int} (e : it.e = h :: t) (hl : t.length ≤ 900) : m_l_due it = some (rulesA it.a it.c.b.l it.c.a h t) := by
  unfold m_l_due
  have a0 : atI (h :: t) (0 : Int) = some h := atI_nat (j := 0) rfl
  rw [e, a0, Option.bind_some]
  have d0 : m_l_done it.c.b (0 : Int) h = some ((doneN it.c.b.l 0 h : Nat) : Int) := l_done_O it.c.b 0 h
  rw [d0, Option.bind_some, Option.bind_some, rangeO_1 (by rw [List.length_cons]; omega), Option.bind_some]
  have := due_l1 it.a it.c (h :: t) (by rw [List.length_cons]; omega) t [] h (doneN it.c.b.l 0 h) 0 [] rfl (by simp; omega)
  have z : (h :: t).length - 1 = t.length := by rw [List.length_cons]; omega
  rw [z]
  have z2 : ((([] : List Int).length + 1 : Nat) : Int) = 1 := rfl
  rw [z2] at this
  rw [this, bind3_some, atI_lastL, Option.bind_some, conL_some (by rw [List.length_append, pre_len]; simp; omega), Option.bind_some, List.nil_append]
  rfl
end K42
namespace K42
open PySem PySem.Spec PyProof.Rows L2 TL G
/-! ### the tables of rules, unrolled -/
def keyOf (p : HR) : Int × Int := (p.1, p.2.b)
/-- the stands of the rules: house and mark -/
def keysR (by_ : List Int) : Int → Nat → Int → List Int → List (Int × Int)
  | m, _, h, [] => [(h, m)]
  | m, d, h, g :: t => (h, m) :: keysR by_ ((doneN by_ d g : Nat) : Int) (doneN by_ d g) g t
def rulesK (num : Int) (by_ : List Int) (goal : Int) : Int → Nat → Int → List Int → List HR
  | m, _, h, [] => [(h, T4.mk num m (-1) goal)]
  | m, d, h, g :: t => (h, T4.mk num m g ((doneN by_ d g : Nat) : Int)) :: rulesK num by_ goal ((doneN by_ d g : Nat) : Int) (doneN by_ d g) g t
theorem rulesK_eq (num : Int) (by_ : List Int) (goal : Int) : ∀ (t : List Int) (m : Int) (d : Nat) (h : Int), rulesK num by_ goal m d h t = pre num by_ m d h t ++ [((h :: t).getLast (by simp), T4.mk num (mkL by_ m d t) (-1) goal)]
  | [], _, _, _ => rfl
  | g :: t, m, d, h => by
    show _ :: rulesK num by_ goal _ _ g t = _ :: pre num by_ _ _ g t ++ _
    rw [rulesK_eq num by_ goal t]
    simp only [List.cons_append, List.getLast_cons_cons]
    rfl
theorem rulesK_keys (num : Int) (by_ : List Int) (goal : Int) : ∀ (t : List Int) (m : Int) (d : Nat) (h : Int), (rulesK num by_ goal m d h t).map keyOf = keysR by_ m d h t
  | [], _, _, _ => rfl
  | g :: t, m, d, h => congrArg (_ :: ·) (rulesK_keys num by_ goal t _ _ g)
theorem rulesK_house (num : Int) (by_ : List Int) (goal : Int) : ∀ (t : List Int) (m : Int) (d : Nat) (h : Int), ∀ p ∈ rulesK num by_ goal m d h t, p.1 ∈ h :: t ∧ p.2.a = num
  | [], _, _, _, p, hp => by rw [List.mem_singleton.mp hp]; exact ⟨List.mem_cons_self .., rfl⟩
  | g :: t, m, d, h, p, hp => by
    rcases List.mem_cons.mp hp with rfl | hp
    · exact ⟨List.mem_cons_self .., rfl⟩
    · have := rulesK_house num by_ goal t _ _ g p hp
      exact ⟨List.mem_cons_of_mem _ this.1, this.2⟩
theorem rulesK_len (num : Int) (by_ : List Int) (goal : Int) : ∀ (t : List Int) (m : Int) (d : Nat) (h : Int), (rulesK num by_ goal m d h t).length = t.length + 1
  | [], _, _, _ => rfl
  | g :: t, _, _, _ => congrArg Nat.succ (rulesK_len num by_ goal t _ _ g)
def grp (L : List HR) (i : Int) : List Rule := (L.filter fun p => decide (p.1 = i)).map (·.2)
theorem grp_cons (p : HR) (L : List HR) (i : Int) : grp (p :: L) i = if p.1 = i then p.2 :: grp L i else grp L i := by
  unfold grp
  rw [List.filter_cons]
  by_cases c : p.1 = i
  · rw [if_pos (decide_eq_true c), if_pos c]; rfl
  · rw [if_neg (by rw [decide_eq_true_iff]; exact c), if_neg c]
theorem appN_some {α : Type} {T : List (List α)} {i : Nat} {row : List α} {y : α} (h : T[i]? = some row) (hl : row.length ≤ 1000000) : appN T (i : Int) y = some (T.set i (row ++ [y])) := by
  have hi := (List.getElem?_eq_some_iff.mp h).1
  have e : ixN T.length (i : Int) = some i := by
    unfold ixN
    simp
    omega
  unfold appN
  rw [e, Option.bind_some, h, Option.bind_some, if_pos (by rw [sizeLine_eq]; omega)]
theorem table_O : ∀ (L : List HR) (T : List (List Rule)), (∀ p ∈ L, 0 ≤ p.1 ∧ p.1 < (T.length : Nat)) → (∀ row ∈ T, row.length + L.length ≤ 1000) →
    ∃ T', m_l_unrolled_l1 L T = some T' ∧ T'.length = T.length ∧ ∀ (i : Nat) (row : List Rule), T[i]? = some row → T'[i]? = some (row ++ grp L (i : Nat))
  | [], T, _, _ => ⟨T, rfl, rfl, fun i row h => by rw [h]; unfold grp; simp⟩
  | p :: L, T, hp, hr => by
    obtain ⟨h0, h1⟩ := hp p (List.mem_cons_self ..)
    obtain ⟨j, hj⟩ := Int.eq_ofNat_of_zero_le h0
    have hjl : j < T.length := by omega
    have ej : T[j]? = some T[j] := List.getElem?_eq_getElem hjl
    have hrj := hr _ (List.getElem_mem hjl)
    rw [List.length_cons] at hrj
    have hset : ∀ row ∈ T.set j (T[j] ++ [p.2]), row.length + L.length ≤ 1000 := fun row hm => by
      rcases List.mem_or_eq_of_mem_set hm with h | h
      · have := hr row h; rw [List.length_cons] at this; omega
      · rw [h, List.length_append, List.length_singleton]; omega
    obtain ⟨T', e, hl, hT⟩ := table_O L (T.set j (T[j] ++ [p.2])) (fun q hq => by rw [List.length_set]; exact hp q (List.mem_cons_of_mem _ hq)) hset
    refine ⟨T', ?_, by rw [hl, List.length_set], fun i row hi => ?_⟩
    · unfold m_l_unrolled_l1
      rw [hj, appN_some ej (by omega), Option.bind_some]
      exact e
    · rw [grp_cons]
      by_cases c : j = i
      · subst c
        rw [if_pos hj, ]
        have e2 : row = T[j] := Option.some.inj (hi.symm.trans ej)
        rw [hT j (T[j] ++ [p.2]) (by rw [List.getElem?_set, if_pos rfl, if_pos hjl]), e2, List.append_assoc]
        rfl
      · rw [if_neg (by omega)]
        exact hT i row (by rw [List.getElem?_set, if_neg c]; exact hi)
theorem c3_map : ∀ l : List Rule, m_l_unrolled_c3 l = l.map fun r => (r.a, r.b)
  | [] => rfl
  | r :: l => congrArg (_ :: ·) (c3_map l)
theorem lsetT_nd {α : Type} [DecidableEq α] {l : List α} (h : l.Nodup) (hl : l.length < 64) : lsetT l = some ((l.length : Nat) : Int) := by
  have h1 := undup_le l
  have h2 : ¬ (undup l).length < l.length := fun z => undup_lt.mp z h
  unfold lsetT
  rw [if_pos hl, show (undup l).length = l.length by omega]
theorem grp_nodup {L : List HR} (h : (L.map keyOf).Nodup) (i : Int) : ((grp L i).map fun r => (r.a, r.b)).Nodup := by
  unfold grp
  rw [List.map_map]
  have h1 : L.Pairwise fun p q => keyOf p ≠ keyOf q := List.pairwise_map.mp h
  have h2 := h1.filter (fun p => decide (p.1 = i))
  refine List.pairwise_map.mpr (List.Pairwise.imp_of_mem (fun {p q} hp hq n e => n ?_) h2)
  have a := of_decide_eq_true (List.mem_filter.mp hp).2
  have b := of_decide_eq_true (List.mem_filter.mp hq).2
  have e2 : p.2.b = q.2.b := (Prod.mk.inj e).2
  unfold keyOf
  rw [a, b, e2]
theorem l2_O : ∀ T : List (List Rule), (∀ row ∈ T, (row.map fun r => (r.a, r.b)).Nodup ∧ row.length < 64) → m_l_unrolled_l2 T = some (.go ())
  | [], _ => rfl
  | row :: T, h => by
    obtain ⟨h1, h2⟩ := h row (List.mem_cons_self ..)
    unfold m_l_unrolled_l2
    rw [c3_map, lsetT_nd h1 (by rw [List.length_map]; exact h2), Option.bind_some, List.length_map, if_neg (by unfold neI; simp)]
    exact l2_O T fun r hr => h r (List.mem_cons_of_mem _ hr)
theorem c2_filter (x y : Int) : ∀ l : List Rule, m_l_gone_c2 x y l = l.filter fun r => eqI r.a x && eqI r.b y
  | [] => rfl
  | r :: l => by
    unfold m_l_gone_c2
    rw [c2_filter x y l, List.filter_cons]
theorem pick_one {L : List HR} (h : (L.map keyOf).Nodup) {p : HR} (hp : p ∈ L) (num : Int) (ha : p.2.a = num) : m_l_gone_c2 num p.2.b (grp L p.1) = [p.2] := by
  rw [c2_filter]
  obtain ⟨A, B, rfl⟩ := List.append_of_mem hp
  rw [List.map_append, List.map_cons] at h
  obtain ⟨_, h2, h3⟩ := List.nodup_append.mp h
  have h4 := (List.nodup_cons.mp h2).1
  have off : ∀ q : HR, keyOf q ≠ keyOf p → ¬ (q.1 = p.1 ∧ (eqI q.2.a num && eqI q.2.b p.2.b) = true) := fun q n z => by
    rw [Bool.and_eq_true] at z
    refine n ?_
    unfold keyOf
    have : q.2.b = p.2.b := by have := z.2.2; unfold eqI at this; simpa using this
    rw [z.1, this]
  have fil : ∀ C : List HR, (∀ q ∈ C, keyOf q ≠ keyOf p) → (grp C p.1).filter (fun r => eqI r.a num && eqI r.b p.2.b) = [] := fun C hC => by
    refine List.filter_eq_nil_iff.mpr fun r hr z => ?_
    obtain ⟨q, hq, rfl⟩ := List.mem_map.mp hr
    obtain ⟨hq1, hq2⟩ := List.mem_filter.mp hq
    exact off q (hC q hq1) ⟨of_decide_eq_true hq2, z⟩
  have e : grp (A ++ p :: B) p.1 = grp A p.1 ++ (p.2 :: grp B p.1) := by
    unfold grp
    rw [List.filter_append, List.map_append, List.filter_cons, if_pos (decide_eq_true rfl), List.map_cons]
  rw [e, List.filter_append, List.filter_cons, fil A (fun q hq => h3 _ (List.mem_map.mpr ⟨q, hq, rfl⟩) _ (List.mem_cons_self ..)), fil B (fun q hq z => h4 (z ▸ List.mem_map.mpr ⟨q, hq, rfl⟩)), if_pos]
  · rfl
  · rw [ha]; unfold eqI; simp
/-! ### tied houses -/
def tieOf (x y : Int) : Int × Int := ((if y < x then y else x), (if y > x then y else x))
def Ch (T : List (Int × Int)) : List Int → Prop
  | [] => True
  | [_] => True
  | x :: y :: r => tieOf x y ∈ T ∧ Ch T (y :: r)
theorem idx_some {α : Type} [Enc α] [EqvD α] {xs : List α} {x : α} (h : x ∈ xs) : ∃ i, idxO xs x = some i := by
  unfold idxO idxN
  cases e : xs.findIdx? fun y => eqD y x with
  | some j => exact ⟨_, rfl⟩
  | none =>
    have := List.findIdx?_eq_none_iff.mp e x h
    rw [eqD_refl] at this
    cases this
theorem tie_O {web : T4 Int Int (List (Int × Int)) (List Int)} {x y : Int} (h : tieOf x y ∈ web.c) : ∃ k, m_l_tie web x y = some (some k) := by
  obtain ⟨k, e⟩ := idx_some h
  refine ⟨k, ?_⟩
  unfold m_l_tie
  have e1 : inD ((if y < x then y else x), (if y > x then y else x)) web.c = true := inD_true h
  have e2 : idxO web.c ((if y < x then y else x), (if y > x then y else x)) = some k := e
  rw [Option.bind_some, e1, if_pos rfl, e2]
  rfl
theorem gone_O {web : T4 Int Int (List (Int × Int)) (List Int)} {R : List (List Rule)} {L : List HR} (hk : (L.map keyOf).Nodup) {num goal : Int} {by_ : List Int} (hR : ∀ i : Int, (0 ≤ i ∧ i < web.b) → atI R i = some (grp L i))
    (hg : 0 ≤ goal ∧ goal < (web.e.length : Nat)) :
    ∀ (t : List Int) (h : Int) (m : Int) (d : Nat) (line : List Int) (B : List (Int × Int)) (fuel : Nat), t.length < fuel → line.length + t.length ≤ 1000 → B.length + t.length ≤ 1000 →
      (∀ p ∈ rulesK num by_ goal m d h t, p ∈ L) → (∀ x ∈ h :: t, 0 ≤ x ∧ x < web.b) → Ch web.c (h :: t) → (B ++ keysR by_ m d h t).Nodup → atI web.e goal = some ((h :: t).getLast (by simp)) →
      m_l_gone_l1 web [] R num fuel line (B ++ [(h, m)]) = some (.ret (Sum.inl (("out" : Str), goal), line ++ t))
  | t, h, m, d, line, B, 0, hf, _, _, _, _, _, _, _ => absurd hf (Nat.not_lt_zero _)
  | [], h, m, d, line, B, fuel + 1, hf, hl, hB, hL, hx, hc, hn, hd => by
    unfold m_l_gone_l1
    have pp := pick_one hk (hL _ (List.mem_singleton.mpr rfl)) num rfl
    have pp' : m_l_gone_c2 num m (grp L h) = [T4.mk num m (-1) goal] := pp
    have a0 : atI ([T4.mk num m (-1) goal] : List Rule) (0 : Int) = some (T4.mk num m (-1) goal) := atI_nat (j := 0) rfl
    have ne : eqD ([T4.mk num m (-1) goal] : List Rule) ([] : List Rule) = false := eqD_false (by simp)
    have hd' : atI web.e goal = some h := hd
    rw [if_pos rfl, atI_last, Option.bind_some, hR h (hx h (List.mem_cons_self ..)), Option.bind_some, pp', Option.bind_some, ne, if_neg Bool.false_ne_true, a0, Option.bind_some]
    have e1 : eqI ((-1 : Int)) (-(1 : Int)) = true := rfl
    rw [e1, if_pos rfl, if_pos (decide_eq_true hg.1), if_pos (decide_eq_true hg.2), hd', Option.bind_some, Option.bind_some, Option.bind_some, Option.bind_some]
    have e2 : eqI h h = true := by unfold eqI; simp
    rw [e2, if_pos rfl, List.append_nil]
  | g :: t, h, m, d, line, B, fuel + 1, hf, hl, hB, hL, hx, hc, hn, hd => by
    rw [List.length_cons] at hf hl hB
    unfold m_l_gone_l1
    have pp := pick_one hk (hL _ (List.mem_cons_self ..)) num rfl
    have pp' : m_l_gone_c2 num m (grp L h) = [T4.mk num m g ((doneN by_ d g : Nat) : Int)] := pp
    have a0 : atI ([T4.mk num m g ((doneN by_ d g : Nat) : Int)] : List Rule) (0 : Int) = some (T4.mk num m g ((doneN by_ d g : Nat) : Int)) := atI_nat (j := 0) rfl
    have ne : eqD ([T4.mk num m g ((doneN by_ d g : Nat) : Int)] : List Rule) ([] : List Rule) = false := eqD_false (by simp)
    rw [if_pos rfl, atI_last, Option.bind_some, hR h (hx h (List.mem_cons_self ..)), Option.bind_some, pp', Option.bind_some, ne, if_neg Bool.false_ne_true, a0, Option.bind_some]
    have hg0 := hx g (by simp)
    have e1 : eqI g (-(1 : Int)) = false := by unfold eqI; simp; omega
    obtain ⟨k, ek⟩ := tie_O (web := web) hc.1
    show (Option.bind (if (eqI g (-(1 : Int))) = true then _ else some false) fun c265 => _) = _
    rw [e1, if_neg Bool.false_ne_true, Option.bind_some, if_neg Bool.false_ne_true]
    rw [if_neg Bool.false_ne_true]
    show (Option.bind (Option.bind (m_l_tie web h g) fun r353 => some r353) fun c346 => _) = _
    rw [ek, Option.bind_some, Option.bind_some]
    have hin : (g, ((doneN by_ d g : Nat) : Int)) ∉ B ++ [(h, m)] := fun z => by
      have h3 := (List.nodup_append.mp hn).2
      have hm : (g, ((doneN by_ d g : Nat) : Int)) ∈ keysR by_ ((doneN by_ d g : Nat) : Int) (doneN by_ d g) g t := by cases t <;> exact List.mem_cons_self ..
      rcases List.mem_append.mp z with z | z
      · exact h3.2 _ z _ (List.mem_cons_of_mem _ hm) rfl
      · rw [List.mem_singleton.mp z] at hm
        exact (List.nodup_cons.mp h3.1).1 hm
    rw [show ((some k : Option Int)).isNone = false from rfl, if_neg Bool.false_ne_true, Option.bind_some, if_neg (by simp), appL_some (by omega), Option.bind_some]
    show (if (inD (g, ((doneN by_ d g : Nat) : Int)) (B ++ [(h, m)])) = true then _ else (Option.bind (appL (B ++ [(h, m)]) (g, ((doneN by_ d g : Nat) : Int))) fun t514 => _)) = _
    rw [inD_false hin, if_neg Bool.false_ne_true, appL_some (by rw [List.length_append, List.length_singleton]; omega), Option.bind_some]
    have := gone_O hk (num := num) (by_ := by_) hR hg t g ((doneN by_ d g : Nat) : Int) (doneN by_ d g) (line ++ [g]) (B ++ [(h, m)]) fuel (by omega) (by rw [List.length_append, List.length_singleton]; omega) (by rw [List.length_append, List.length_singleton]; omega)
      (fun p hp => hL p (List.mem_cons_of_mem _ hp)) (fun x hm => hx x (List.mem_cons_of_mem _ hm)) hc.2 (by rw [List.append_assoc]; exact hn) (by rw [List.getLast_cons_cons] at hd; exact hd)
    have e3 : line ++ [g] ++ t = line ++ g :: t := by rw [List.append_assoc]; rfl
    rw [e3] at this
    exact this
end K42
namespace K42
open PySem PySem.Spec PyProof.Rows L2 TL G
/-! ### a way is walked -/
theorem ch_snoc {T : List (Int × Int)} : ∀ {l : List Int} {x y : Int}, Ch T (l ++ [x]) → tieOf x y ∈ T → Ch T (l ++ [x] ++ [y])
  | [], x, y, _, h => ⟨h, trivial⟩
  | [a], x, y, h, k => ⟨h.1, ch_snoc (l := []) trivial k⟩
  | a :: b :: l, x, y, h, k => ⟨h.1, ch_snoc (l := b :: l) h.2 k⟩
theorem ch_take {T : List (Int × Int)} : ∀ {l : List Int} (k : Nat), Ch T l → Ch T (l.take k)
  | [], k, _ => by rw [List.take_nil]; trivial
  | [a], 0, _ => trivial
  | [a], k + 1, _ => by rw [List.take_succ_cons, List.take_nil]; trivial
  | a :: b :: l, 0, _ => trivial
  | a :: b :: l, 1, _ => trivial
  | a :: b :: l, k + 2, h => ⟨h.1, ch_take (l := b :: l) (k + 1) h.2⟩
theorem near_O {line : List Int} {z : Int} (hz : atI line (-(1 : Int)) = some z) : ∀ ts : List (Int × Int), ∃ r, m_l_walked_c2 line ts = some r ∧ r.length ≤ ts.length ∧ ∀ x ∈ r, ∃ e ∈ ts, (z = e.1 ∨ z = e.2) ∧ x = e.1 + e.2 - z
  | [] => ⟨[], rfl, Nat.le_refl _, fun _ h => (List.not_mem_nil h).elim⟩
  | e :: ts => by
    obtain ⟨r, er, hl, hr⟩ := near_O hz ts
    unfold m_l_walked_c2
    rw [hz, Option.bind_some]
    by_cases c : z = e.1 ∨ z = e.2
    · rw [if_pos (decide_eq_true (by simpa using c)), Option.bind_some, er]
      refine ⟨_, rfl, Nat.succ_le_succ hl, fun x hx => ?_⟩
      rcases List.mem_cons.mp hx with rfl | hx
      · exact ⟨e, List.mem_cons_self .., c, rfl⟩
      · obtain ⟨e2, h1, h2⟩ := hr x hx
        exact ⟨e2, List.mem_cons_of_mem _ h1, h2⟩
    · rw [if_neg (by rw [decide_eq_true_iff]; simpa using c), er]
      refine ⟨r, rfl, Nat.le_succ_of_le hl, fun x hx => ?_⟩
      obtain ⟨e2, h1, h2⟩ := hr x hx
      exact ⟨e2, List.mem_cons_of_mem _ h1, h2⟩
def LnOk (n : Int) (T : List (Int × Int)) (l : List Int) : Prop := l ≠ [] ∧ (∀ x ∈ l, 0 ≤ x ∧ x < n) ∧ Ch T l
theorem walked_l1 {web : T4 Int Int (List (Int × Int)) (List Int)} (hT : ∀ p ∈ web.c, 0 ≤ p.1 ∧ p.1 < p.2 ∧ p.2 < web.b) (hc : web.c.length ≤ 1000) : ∀ (l line : List Int) (b : Bag), BOk b → LnOk web.b web.c line → line.length + l.length ≤ 1000 →
    O2 BOk (m_l_walked_l1 web l line b) (fun r => LnOk web.b web.c r ∧ r.length ≤ line.length + l.length)
  | [], line, b, hb, h, _ => O2.ret hb ⟨h, Nat.le_refl _⟩
  | k :: l, line, b, hb, h, hl => by
    rw [List.length_cons] at hl
    rcases List.eq_nil_or_concat line with e | ⟨u, z, e⟩
    · exact absurd e h.1
    rw [List.concat_eq_append] at e
    subst e
    obtain ⟨r, er, hrl, hr⟩ := near_O (atI_last u z) web.c
    unfold m_l_walked_l1
    rw [er, Option.bind_some]
    refine O2.bind (P := fun c => c.length ≤ 1 ∧ LnOk web.b web.c (u ++ [z] ++ c)) ?_ fun c b hb hcc => ?_
    · refine O2.ite (fun c1 => ?_) (fun _ => O2.ret hb ⟨Nat.zero_le _, by rw [List.append_nil]; exact h⟩)
      have hne : r ≠ [] := fun e => by
        rw [e, eqD_refl] at c1
        cases c1
      have hpos : 0 < r.length := List.length_pos_iff.mpr hne
      refine O2.bind (draw_O hb (by omega) (by omega)) fun i b hb hi => ?_
      refine O2.bind1 (atI_O (P := fun x => x ∈ r) hi.1 hi.2 fun x hx => hx) fun x hx => O2.ret hb ⟨Nat.le_refl _, ?_⟩
      obtain ⟨e, he, hor, hxe⟩ := hr x hx
      have hb3 := hT e he
      have ht : tieOf z x ∈ web.c := by
        have : tieOf z x = e := by
          unfold tieOf
          rcases hor with q | q
          · have a1 : ¬ x < z := by omega
            have a2 : x > z := by omega
            rw [if_neg a1, if_pos a2]
            exact Prod.ext q (by show x = e.2; omega)
          · have a1 : x < z := by omega
            have a2 : ¬ x > z := by omega
            rw [if_pos a1, if_neg a2]
            exact Prod.ext (by show x = e.1; omega) q
        rw [this]
        exact he
      refine ⟨by simp, fun y hy => ?_, ch_snoc h.2.2 ht⟩
      rcases List.mem_append.mp hy with hy | hy
      · exact h.2.1 y hy
      · rw [List.mem_singleton.mp hy]; omega
    · rw [conL_some (by omega), Option.bind_some]
      refine (walked_l1 hT hc l _ b hb hcc.2 (by rw [List.length_append]; omega)).imp fun r2 h2 => ⟨h2.1, ?_⟩
      have := h2.2
      rw [List.length_append] at this
      rw [List.length_cons]
      omega
theorem walked_c4 {line : List Int} (h0 : 0 < line.length) (h1 : line.length ≤ 1000) : ∀ (l : List Int) (b : Bag), BOk b → O2 BOk (m_l_walked_c4 line l b) (fun r => r.length = l.length ∧ ∀ x ∈ r, 0 ≤ x ∧ x < (line.length : Nat))
  | [], b, hb => O2.ret hb ⟨rfl, fun _ h => (List.not_mem_nil h).elim⟩
  | k :: l, b, hb => by
    unfold m_l_walked_c4
    refine O2.bind (draw_O hb (by omega) (by omega)) fun r b hb hr => ?_
    refine O2.bind (walked_c4 h0 h1 l b hb) fun rest b hb h => O2.ret hb ⟨congrArg Nat.succ h.1, fun d hd => ?_⟩
    rcases List.mem_cons.mp hd with rfl | hd
    · exact hr
    · exact h.2 d hd
theorem rep1 (x : Int) (c : Bool) : repL ([x] : List Int) (toI c) = some (if c then [x] else []) := by
  cases c with
  | true => unfold repL; rw [if_pos ⟨by decide, by decide, by rw [sizeLine_eq]; show 1 * 1 ≤ 16777216; decide⟩]; rfl
  | false => unfold repL; rw [if_pos ⟨by decide, by decide, by rw [sizeLine_eq]; show 1 * 0 ≤ 16777216; decide⟩]; rfl
theorem walked_l3 {line : List Int} : ∀ (l by_ : List Int), (∀ k ∈ l, 0 ≤ k ∧ k < (line.length : Nat)) → (∀ x ∈ by_, x ∈ line) → by_.length + l.length ≤ 1000 →
    O1 (m_l_walked_l3 line l by_) (fun r => (∀ x ∈ r, x ∈ line) ∧ r.length ≤ by_.length + l.length)
  | [], by_, _, h, _ => O1.ret ⟨h, Nat.le_refl _⟩
  | k :: l, by_, hk, h, hl => by
    rw [List.length_cons] at hl
    obtain ⟨h0, h1⟩ := hk k (List.mem_cons_self ..)
    unfold m_l_walked_l3
    obtain ⟨x, ex, hx⟩ := atI_O (xs := line) (P := fun x => x ∈ line) h0 h1 fun x hx => hx
    rw [ex, Option.bind_some, Option.bind_some, rep1, Option.bind_some]
    generalize (!eqD (cutL by_ (some (-(1 : Int))) none) [x]) = c
    rw [conL_some (by cases c <;> simp <;> omega), Option.bind_some]
    refine (walked_l3 l _ (fun j hj => hk j (List.mem_cons_of_mem _ hj)) (fun y hy => ?_) (by cases c <;> simp <;> omega)).imp fun r hr => ⟨hr.1, ?_⟩
    · rcases List.mem_append.mp hy with hy | hy
      · exact h y hy
      · cases c with
        | true => rw [List.mem_singleton.mp hy]; exact hx
        | false => exact (List.not_mem_nil hy).elim
    · have := hr.2
      rw [List.length_append] at this
      rw [List.length_cons]
      cases c <;> simp at this <;> omega
/-- how many are done at the last of some stands -/
def lastD (been : List (Int × Int)) : Int := match been.getLast? with
  | none => 0
  | some p => p.1
theorem lastD_at (been : List (Int × Int)) : ∃ y, atI (been ++ [((0 : Int), (0 : Int))]) (if ((((been).length : Nat) : Int) - (1 : Int)) > (0 : Int) then ((((been).length : Nat) : Int) - (1 : Int)) else (0 : Int)) = some (lastD been, y) := by
  rcases List.eq_nil_or_concat been with e | ⟨u, z, e⟩
  · subst e
    exact ⟨0, by rw [if_neg (by simp)]; exact atI_nat (j := 0) rfl⟩
  · rw [List.concat_eq_append] at e
    subst e
    refine ⟨z.2, ?_⟩
    have e1 : (if ((((u ++ [z]).length : Nat) : Int) - (1 : Int)) > (0 : Int) then ((((u ++ [z]).length : Nat) : Int) - (1 : Int)) else (0 : Int)) = ((u.length : Nat) : Int) := by
      rw [List.length_append, List.length_singleton]; split <;> omega
    have e2 : lastD (u ++ [z]) = z.1 := by unfold lastD; rw [List.getLast?_concat]
    rw [e1, e2]
    refine atI_nat ?_
    rw [List.append_assoc, List.getElem?_append_right (Nat.le_refl _), Nat.sub_self]
    rfl
theorem walked_l5 (by_ : List Int) : ∀ (line : List Int) (been : List (Int × Int)) (d : Nat), lastD been = (d : Int) → been.Nodup → been.length + line.length ≤ 1000 →
    ∃ k, k ≤ line.length ∧ m_l_walked_l5 by_ line been = some (been ++ stL by_ d (line.take k)) ∧ (been ++ stL by_ d (line.take k)).Nodup ∧ (been = [] → line ≠ [] → 1 ≤ k)
  | [], been, d, _, hn, _ => ⟨0, Nat.le_refl _, by show some been = some (been ++ []); rw [List.append_nil], by show (been ++ []).Nodup; rw [List.append_nil]; exact hn, fun _ z => absurd rfl z⟩
  | h :: line, been, d, hd, hn, hl => by
    rw [List.length_cons] at hl
    obtain ⟨y, ey⟩ := lastD_at been
    unfold m_l_walked_l5
    rw [conL_some (by rw [List.length_singleton]; omega), Option.bind_some, ey, Option.bind_some]
    show ∃ k, k ≤ _ ∧ (Option.bind (m_l_done_2 by_ (lastD been) h) fun r678 => _) = _ ∧ _
    rw [hd, l_done2_O, Option.bind_some]
    by_cases c : (((doneN by_ d h : Nat) : Int), h) ∈ been
    · rw [inD_true c, if_pos rfl]
      refine ⟨0, Nat.zero_le _, by show some been = some (been ++ []); rw [List.append_nil], by show (been ++ []).Nodup; rw [List.append_nil]; exact hn, fun z => ?_⟩
      rw [z] at c
      exact (List.not_mem_nil c).elim
    · rw [inD_false c, if_neg Bool.false_ne_true, appL_some (by omega), Option.bind_some]
      obtain ⟨k, h1, h2, h3, _⟩ := walked_l5 by_ line (been ++ [(((doneN by_ d h : Nat) : Int), h)]) (doneN by_ d h) (by unfold lastD; rw [List.getLast?_concat]) (List.nodup_append.mpr ⟨hn, by simp, fun p hp q hq e => c (by rw [List.mem_singleton.mp hq] at e; exact e ▸ hp)⟩) (by rw [List.length_append, List.length_singleton]; omega)
      refine ⟨k + 1, by rw [List.length_cons]; omega, ?_, ?_, fun _ _ => Nat.le_add_left ..⟩
      · rw [h2, List.append_assoc, List.take_succ_cons]; rfl
      · rw [List.append_assoc] at h3; rw [List.take_succ_cons]; exact h3
/-- what is walked -/
structure Walked (web : T4 Int Int (List (Int × Int)) (List Int)) (r : VT Int × List Int) : Prop where
  ln : LnOk web.b web.c r.2
  len : r.2.length ≤ 30
  nd : (stL r.1.l 0 r.2).Nodup
  by_ : ∀ x ∈ r.1.l, 0 ≤ x ∧ x < web.b
  few : r.1.l.length ≤ 100
theorem walked_O {web : T4 Int Int (List (Int × Int)) (List Int)} {b : Bag} (hb : BOk b) (hw : TownOk web) : O2 BOk (m_l_walked b web) (Walked web) := by
  unfold m_l_walked
  have hn := hw.n
  refine O2.bind (draw_O hb (by omega) (by omega)) fun r1 b hb h1 => ?_
  rw [Option.bind_some]
  refine O2.bind (draw_O hb (by decide) (by decide)) fun r2 b hb h2 => ?_
  refine O2.bind1 (P := fun i => 0 < i ∧ i ≤ (25 : Int)) (atI_O h2.1 h2.2 fun x hx => ?_) fun i hi => ?_
  · simp only [List.mem_cons, List.not_mem_nil, or_false] at hx
    omega
  refine O2.bind (draw_O hb hi.1 (by omega)) fun r3 b hb h3 => ?_
  refine O2.bind1 (rangeO1_O (P := fun l => l.length ≤ 25) (by omega) (by omega) (by rw [rangeL_length]; omega)) fun l hl => ?_
  refine O2.bind (walked_l1 hw.ties (by have := hw.few; omega) l [r1] b hb ⟨by simp, fun x hx => by rw [List.mem_singleton.mp hx]; exact h1, trivial⟩ (by simp; omega)) fun line b hb hline => ?_
  have hll : line.length ≤ 26 := by have := hline.2; rw [List.length_singleton] at this; omega
  have hl0 : 0 < line.length := List.length_pos_iff.mpr hline.1.1
  refine O2.bind (draw_O hb (by decide) (by decide)) fun r4 b hb h4 => ?_
  refine O2.bind1 (rangeO1_O (P := fun l => l.length ≤ 4) (by omega) (by omega) (by rw [rangeL_length]; omega)) fun l2 hl2 => ?_
  refine O2.bind (walked_c4 hl0 (by omega) l2 b hb) fun ds b hb hds => ?_
  have es : ssetO ds = some (ssort ds) := by unfold ssetO; rw [if_pos (by omega)]
  rw [es, Option.bind_some]
  have hsl := ssort_len ds
  refine O2.bind1 (walked_l3 (line := line) (ssort ds) [] (fun k hk => hds.2 k (ssort_mem.mp hk)) (fun _ h => (List.not_mem_nil h).elim) (by simp; omega)) fun by_ hby => ?_
  rw [Option.bind_some]
  obtain ⟨k, hk, e5, hnd, hk1⟩ := walked_l5 by_ line [] 0 rfl List.nodup_nil (by simp; omega)
  rw [List.nil_append] at e5 hnd
  have hk1 := hk1 rfl hline.1.1
  rw [e5, Option.bind_some]
  have hne : line.take k ≠ [] := fun e => by
    have := congrArg List.length e
    rw [List.length_take, List.length_nil] at this
    omega
  obtain ⟨x, ex⟩ := stL_last by_ (line.take k) 0 hne
  have hlast : atI (stL by_ 0 (line.take k)) (-(1 : Int)) = some (((dn by_ 0 (line.take k) : Nat) : Int), x) := by
    rcases List.eq_nil_or_concat (stL by_ 0 (line.take k)) with e | ⟨u, z, e⟩
    · rw [e] at ex; cases ex
    · rw [List.concat_eq_append] at e
      rw [e, List.getLast?_concat] at ex
      rw [e, atI_last, ex]
  rw [hlast, Option.bind_some]
  have elen : (((stL by_ 0 (line.take k)).length : Nat) : Int) = ((k : Nat) : Int) := by rw [stL_len, List.length_take]; omega
  refine O2.ret hb ?_
  have e1 : cutL by_ none (some ((dn by_ 0 (line.take k) : Nat) : Int)) = by_.take (dn by_ 0 (line.take k)) := cutL_to _ _
  have e2 : cutL line none (some (((stL by_ 0 (line.take k)).length : Nat) : Int)) = line.take k := by rw [elen]; exact cutL_to _ _
  show Walked web (VT.mk (cutL by_ none (some ((dn by_ 0 (line.take k) : Nat) : Int))), cutL line none (some (((stL by_ 0 (line.take k)).length : Nat) : Int)))
  rw [e1, e2]
  refine ⟨⟨hne, fun y hy => hline.1.2.1 y (List.mem_of_mem_take hy), ch_take k hline.1.2.2⟩, ?_, ?_, fun y hy => hline.1.2.1 y (hby.1 y (List.mem_of_mem_take hy)), ?_⟩
  · show (line.take k).length ≤ 30
    rw [List.length_take]; omega
  · show (stL (by_.take (dn by_ 0 (line.take k))) 0 (line.take k)).Nodup
    rw [stL_take _ _ (Nat.le_refl _)]
    exact hnd
  · show (by_.take _).length ≤ 100
    rw [List.length_take]
    have := hby.2
    rw [List.length_nil] at this
    omega
end K42
namespace K42
open PySem PySem.Spec PyProof.Rows L2 TL G
/-! ### the law's own -/
theorem stL_ge (by_ : List Int) : ∀ (l : List Int) (d : Nat), ∀ p ∈ stL by_ d l, (d : Int) ≤ p.1
  | [], _, _, h => (List.not_mem_nil h).elim
  | h :: t, d, p, hp => by
    have := doneN_le by_ d h
    rcases List.mem_cons.mp hp with rfl | hp
    · show (d : Int) ≤ ((doneN by_ d h : Nat) : Int); omega
    · have := stL_ge by_ t _ p hp; omega
theorem keys_st (by_ : List Int) : ∀ (t : List Int) (m : Int) (d : Nat) (h : Int), keysR by_ m d h t = (h, m) :: (stL by_ d t).map fun p => (p.2, p.1)
  | [], _, _, _ => rfl
  | g :: t, m, d, h => by
    show (h, m) :: keysR by_ _ _ g t = _
    rw [keys_st by_ t]
    rfl
theorem keys_nodup {by_ : List Int} {h : Int} {t : List Int} (hn : (stL by_ 0 (h :: t)).Nodup) : (keysR by_ 0 (doneN by_ 0 h) h t).Nodup := by
  rw [keys_st]
  obtain ⟨h1, h2⟩ := List.nodup_cons.mp hn
  refine List.nodup_cons.mpr ⟨fun hm => ?_, List.pairwise_map.mpr (h2.imp fun {p q} n e => n ?_)⟩
  · obtain ⟨p, hp, e⟩ := List.mem_map.mp hm
    obtain ⟨e1, e2⟩ := Prod.mk.inj e
    have h3 := stL_ge by_ t _ p hp
    rw [e2] at h3
    have h4 : (doneN by_ 0 h : Int) = 0 := by omega
    refine h1 ?_
    rw [h4, show ((0 : Int), h) = p from Prod.ext e2.symm e1.symm]
    exact hp
  · obtain ⟨e1, e2⟩ := Prod.mk.inj e
    exact Prod.ext e2 e1
theorem atI_get {α : Type} {xs : List α} {i : Int} {x : α} (h0 : 0 ≤ i) (h : xs[i.toNat]? = some x) : atI xs i = some x := by
  have := atI_nat h
  rwa [Int.toNat_of_nonneg h0] at this
theorem unrolled_O {web : T4 Int Int (List (Int × Int)) (List Int)} {it : Item} {h : Int} {t : List Int} (e : it.e = h :: t) (hn1 : 1 ≤ web.b ∧ web.b ≤ 12) (hl : t.length ≤ 30) (hx : ∀ x ∈ h :: t, 0 ≤ x ∧ x < web.b) (hc : Ch web.c (h :: t))
    (hn : (stL it.c.b.l 0 (h :: t)).Nodup) (hb : atI web.e it.b = some h) (hg : 0 ≤ it.c.a ∧ it.c.a < (web.e.length : Nat)) (hd : atI web.e it.c.a = some ((h :: t).getLast (by simp))) : m_l_unrolled web it (rulesA it.a it.c.b.l it.c.a h t) = some true := by
  have eK : rulesA it.a it.c.b.l it.c.a h t = rulesK it.a it.c.b.l it.c.a 0 (doneN it.c.b.l 0 h) h t := (rulesK_eq _ _ _ t _ _ h).symm
  rw [eK]
  have hkey : ((rulesK it.a it.c.b.l it.c.a 0 (doneN it.c.b.l 0 h) h t).map keyOf).Nodup := by rw [rulesK_keys]; exact keys_nodup hn
  have hlen := rulesK_len it.a it.c.b.l it.c.a t 0 (doneN it.c.b.l 0 h) h
  have hhouse := rulesK_house it.a it.c.b.l it.c.a t 0 (doneN it.c.b.l 0 h) h
  have hin : ∀ p ∈ rulesK it.a it.c.b.l it.c.a 0 (doneN it.c.b.l 0 h) h t, p ∈ rulesK it.a it.c.b.l it.c.a 0 (doneN it.c.b.l 0 h) h t := fun _ h => h
  have hkk : ([] ++ keysR it.c.b.l 0 (doneN it.c.b.l 0 h) h t).Nodup := by rw [List.nil_append]; exact keys_nodup hn
  obtain ⟨n, hnn⟩ := Int.eq_ofNat_of_zero_le (show 0 ≤ web.b by omega)
  unfold m_l_unrolled
  have er : rangeO1 web.b = some (rangeL 0 n) := by rw [hnn]; exact rangeO_len (by omega)
  rw [er, Option.bind_some, Option.bind_some]
  have hTl : ((rangeL 0 n).map fun _ => ([] : List Rule)).length = n := by rw [List.length_map, rangeL_length]
  have hTi : ∀ i : Nat, i < n → ((rangeL 0 n).map fun _ => ([] : List Rule))[i]? = some [] := fun i hi => by
    rw [List.getElem?_map, List.getElem?_eq_getElem (by rw [rangeL_length]; exact hi)]
    rfl
  obtain ⟨R, eR, hRl, hR⟩ := table_O (rulesK it.a it.c.b.l it.c.a 0 (doneN it.c.b.l 0 h) h t) ((rangeL 0 n).map fun _ => ([] : List Rule)) (fun p hp => by have := hx _ (hhouse p hp).1; rw [hTl]; omega)
    (fun row hr => by obtain ⟨_, _, rfl⟩ := List.mem_map.mp hr; rw [List.length_nil]; omega)
  rw [hTl] at hRl
  have hRi : ∀ i : Nat, i < n → R[i]? = some (grp (rulesK it.a it.c.b.l it.c.a 0 (doneN it.c.b.l 0 h) h t) (i : Nat)) := fun i hi => hR i [] (hTi i hi)
  rw [eR, Option.bind_some, l2_O R (fun row hr => by
    obtain ⟨i, hi⟩ := List.mem_iff_getElem?.mp hr
    have hil := (List.getElem?_eq_some_iff.mp hi).1
    have e2 := hRi i (by omega)
    have e3 : row = _ := Option.some.inj (hi.symm.trans e2)
    rw [e3]
    refine ⟨grp_nodup hkey _, ?_⟩
    unfold grp
    rw [List.length_map]
    have := List.length_filter_le (fun p : HR => decide (p.1 = ((i : Nat) : Int))) (rulesK it.a it.c.b.l it.c.a 0 (doneN it.c.b.l 0 h) h t)
    omega), bL0_go]
  have hRa : ∀ i : Int, (0 ≤ i ∧ i < web.b) → atI R i = some (grp (rulesK it.a it.c.b.l it.c.a 0 (doneN it.c.b.l 0 h) h t) i) := fun i hi => by
    obtain ⟨j, rfl⟩ := Int.eq_ofNat_of_zero_le hi.1
    exact atI_nat (hRi j (by omega))
  have G := gone_O (web := web) hkey (num := it.a) (goal := it.c.a) (by_ := it.c.b.l) hRa hg t h 0 (doneN it.c.b.l 0 h) [h] [] 100000 (by omega) (by simp; omega) (by simp; omega) hin hx hc hkk hd
  unfold m_l_gone
  rw [hb, Option.bind_some, Option.bind_some, Option.bind_some, Option.bind_some]
  have G' : m_l_gone_l1 web [] R it.a 100000 [h] [(h, (0 : Int))] = _ := G
  rw [G']
  show some (eqD ((("out" : Str), it.c.a), [h] ++ t) ((("out" : Str), it.c.a), it.e)) = some true
  rw [e]
  show some (eqD ((("out" : Str), it.c.a), h :: t) ((("out" : Str), it.c.a), h :: t)) = some true
  rw [eqD_refl]
theorem small {i : Int} (h0 : -(10 ^ 37 : Int) < i) (h1 : i < (10 ^ 37 : Int)) : i.natAbs < 10 ^ 38 := by omega
theorem fit_web {web : T4 Int Int (List (Int × Int)) (List Int)} (h1 : 1 ≤ web.a ∧ web.a ≤ 30) (h2 : 1 ≤ web.b ∧ web.b ≤ 12) (ht : ∀ p ∈ web.c, 0 ≤ p.1 ∧ p.1 < p.2 ∧ p.2 < web.b) (hf : web.c.length ≤ 20) (hd : ∀ d ∈ web.e, 0 ≤ d ∧ d < web.b) (hdl : web.e.length ≤ 20) : Fit 9000 (Enc.d web) := by
  refine Fit.tuple ((FitA.cons (Fit.int (i := web.a) (by omega)) (FitA.cons (Fit.int (i := web.b) (by omega)) (FitA.cons (Fit.L (xs := web.c) (n := 258) (m := 20) (fun p hp => ?_) hf) (FitA.cons (Fit.ints (xs := web.e) (m := 20) (fun d hd2 => ?_) hdl) FitA.nil)))).mono (by omega))
  · have := ht p hp
    exact Fit.pair (by omega) (by omega)
  · have := hd d hd2; omega
theorem fit_item {it : Item} {n : Int} (hn : n ≤ 12) (ha : it.a.natAbs < 10 ^ 38) (hb : it.b.natAbs < 10 ^ 38) (hg : it.c.a.natAbs < 10 ^ 38) (hby : ∀ x ∈ it.c.b.l, 0 ≤ x ∧ x < n) (hbl : it.c.b.l.length ≤ 100) (hp : ∀ x ∈ it.c.c.l, 0 ≤ x ∧ x < n) (hpl : it.c.c.l.length ≤ 12)
    (hm : ∀ x, it.c.e = some x → x.natAbs < 10 ^ 38) (hl : ∀ x ∈ it.e, 0 ≤ x ∧ x < n) (hll : it.e.length ≤ 31) : Fit 30000 (Enc.d it) := by
  refine Fit.tuple ((FitA.cons (Fit.int ha) (FitA.cons (Fit.int hb) (FitA.cons (Fit.tuple (FitA.cons (Fit.int hg) (FitA.cons (Fit.VT (xs := it.c.b) (n := 128) (m := 100) (fun x hx => Fit.int ?_) hbl) (FitA.cons (Fit.VT (xs := it.c.c) (n := 128) (m := 12) (fun x hx => Fit.int ?_) hpl) (FitA.cons (Fit.opt (n := 128) (o := it.c.e) fun x hx => Fit.int (hm x hx)) FitA.nil))))) (FitA.cons (Fit.ints (xs := it.e) (m := 31) (fun x hx => ?_) hll) FitA.nil)))).mono (by omega))
  · have := hby x hx; omega
  · have := hp x hx; omega
  · have := hl x hx; omega
theorem rest_mem (line : List Int) : ∀ l : List Int, ∀ x ∈ m_law_c2 line l, x ∈ l
  | [], _, h => h
  | y :: l, x, h => by
    unfold m_law_c2 at h
    split at h
    · rcases List.mem_cons.mp h with rfl | h
      · exact List.mem_cons_self ..
      · exact List.mem_cons_of_mem _ (rest_mem line l x h)
    · exact List.mem_cons_of_mem _ (rest_mem line l x h)
theorem rest_len (line : List Int) : ∀ l : List Int, (m_law_c2 line l).length ≤ l.length
  | [] => Nat.le_refl _
  | y :: l => by
    unfold m_law_c2
    split
    · exact Nat.succ_le_succ (rest_len line l)
    · exact Nat.le_succ_of_le (rest_len line l)
theorem law_l1 : ∀ (l : List Int) (b : Bag), BOk b → OL BOk (m_law_l1 l b)
  | [], b, hb => OL.ret hb
  | k :: l, b, hb => by
    unfold m_law_l1
    refine OL.bind (web_O hb) fun web b hb hw => ?_
    refine OL.bind (walked_O hb hw) fun r b hb R => ?_
    obtain ⟨byv, line⟩ := r
    obtain ⟨h, t, rfl⟩ : ∃ h t, line = h :: t := by
      cases line with
      | nil => exact absurd rfl R.ln.1
      | cons h t => exact ⟨h, t, rfl⟩
    have hn := hw.n
    have hsm := hw.some_
    have hxl : ∀ x ∈ h :: t, 0 ≤ x ∧ x < web.b := R.ln.2.1
    have htl : t.length ≤ 30 := by have := R.len; rw [show (byv, h :: t).2 = h :: t from rfl, List.length_cons] at this; omega
    have a0 : atI (h :: t) (0 : Int) = some h := atI_nat (j := 0) rfl
    have c6 : (cutL web.e none (some (6 : Int))) = web.e.take 6 := cutL_to _ 6
    show OL BOk (Option.bind (atI (h :: t) (0 : Int)) fun t80 => _)
    rw [a0, Option.bind_some, atI_lastL, Option.bind_some, c6, conL_some (by rw [List.length_take]; simp; omega), Option.bind_some, Option.bind_some]
    have hdl : (web.e.take 6).length ≤ 6 := by rw [List.length_take]; omega
    generalize hD : web.e.take 6 = D at hdl
    have hDm : ∀ d ∈ D, 0 ≤ d ∧ d < web.b := fun d hd => hw.doors d (List.mem_of_mem_take (hD ▸ hd))
    have hlast := hxl _ (List.getLast_mem (l := h :: t) (by simp))
    generalize hz : (h :: t).getLast (by simp) = z at hlast
    have hlen : (D ++ [h, z]).length = D.length + 2 := by rw [List.length_append]; rfl
    have hdoors : ∀ d ∈ D ++ [h, z], 0 ≤ d ∧ d < web.b := fun d hd => by
      rcases List.mem_append.mp hd with hd | hd
      · exact hDm d hd
      · simp only [List.mem_cons, List.not_mem_nil, or_false] at hd
        rcases hd with rfl | rfl
        · exact hxl _ (List.mem_cons_self ..)
        · exact hlast
    have d1 : atI (D ++ [h, z]) ((((D ++ [h, z]).length : Nat) : Int) - (2 : Int)) = some h := by
      rw [hlen, show (((D.length + 2 : Nat) : Int) - 2) = ((D.length : Nat) : Int) by omega]
      refine atI_nat ?_
      rw [List.getElem?_append_right (Nat.le_refl _), Nat.sub_self]
      rfl
    have d2 : atI (D ++ [h, z]) ((((D ++ [h, z]).length : Nat) : Int) - (1 : Int)) = some z := by
      rw [hlen, show (((D.length + 2 : Nat) : Int) - 1) = ((D.length + 1 : Nat) : Int) by omega]
      refine atI_nat ?_
      rw [List.getElem?_append_right (by omega), show D.length + 1 - D.length = 1 by omega]
      rfl
    refine OL.bind1 (rangeO1_O (P := fun l => l = rangeL 0 web.b.toNat) (by show web.b ≤ _; omega) (by show _ ≤ web.b; omega) rfl) fun l1 hl1 => ?_
    subst hl1
    rw [Option.bind_some]
    have hrl := rest_len (h :: t) (rangeL 0 web.b.toNat)
    have hrm := rest_mem (h :: t) (rangeL 0 web.b.toNat)
    rw [rangeL_length] at hrl
    refine OL.bind (mixed_O hb (s := m_law_c2 (h :: t) (rangeL 0 web.b.toNat)) (by omega)) fun mx b hb hmx => ?_
    refine OL.bind (draw_O hb (by decide) (by decide)) fun r4 b hb h4 => ?_
    rw [Option.bind_some]
    have hpast : ∀ x ∈ sortI (cutL mx none (some r4)), 0 ≤ x ∧ x < web.b := fun x hx => by
      have h1 := mem_cutL ((sortI_perm _).mem_iff.mp hx)
      have h2 := mem_rangeL (hrm x (hmx.mem_iff.mp h1))
      omega
    have hpastl : (sortI (cutL mx none (some r4))).length ≤ 12 := by
      rw [sortI_len]
      have := cutL_len mx none (some r4)
      rw [hmx.length_eq] at this
      omega
    generalize sortI (cutL mx none (some r4)) = past at hpast hpastl
    refine OL.bind (draw_O hb (by decide) (by decide)) fun r5 b hb h5 => ?_
    refine OL.bind (draw_O hb (by decide) (by decide)) fun r6 b hb h6 => ?_
    have hll : (((h :: t).length : Nat) : Int) ≤ 31 := by rw [List.length_cons]; omega
    refine OL.bind1 (P := fun o => ∀ x, o = some x → (x : Int).natAbs < 10 ^ 38) (atI_O h6.1 h6.2 fun o ho => ?_) fun most hmost => ?_
    · simp only [List.mem_cons, List.not_mem_nil, or_false] at ho
      have e9 : ((10 : Int) ^ (9 : Int).toNat) = 1000000000 := by decide
      rw [e9] at ho
      intro x hx
      rcases ho with rfl | rfl | rfl | rfl
      · cases hx
      · have := Option.some.inj hx; omega
      · have := Option.some.inj hx; omega
      · have := Option.some.inj hx; omega
    have e19 : ((10 : Int) ^ (19 : Int).toNat) = 10000000000000000000 := by decide
    have e9 : ((10 : Int) ^ (9 : Int).toNat) = 1000000000 := by decide
    rw [e19, e9]
    refine OL.bind (draw_O hb (by decide) (by decide)) fun r7 b hb h7 => ?_
    rw [Option.bind_some]
    refine OL.bind (draw_O hb (by decide) (by decide)) fun r8 b hb h8 => ?_
    refine OL.bind (draw_O hb (by decide) (by decide)) fun r9 b hb h9 => ?_
    refine OL.bind (draw_O hb (by decide) (by decide)) fun r10 b hb h10 => ?_
    refine OL.bind1 (P := fun x => (x : Int).natAbs < 10 ^ 38) (atI_O h10.1 h10.2 fun x hx => ?_) fun num hnum => ?_
    · simp only [List.mem_cons, List.not_mem_nil, or_false] at hx
      omega
    rw [Option.bind_some]
    have hfit : Fit 40000 (Enc.d ([(Sum.inl (T4.mk web.a web.b web.c (D ++ [h, z]))), (Sum.inr (T4.mk num ((((D ++ [h, z]).length : Nat) : Int) - (2 : Int)) (T4.mk ((((D ++ [h, z]).length : Nat) : Int) - (1 : Int)) byv (VT.mk past) most) (h :: t)))] : List ((T4 Int Int (List (Int × Int)) (List Int)) ⊕ Item))) := by
      refine Fit.list ((FitA.cons (fit_web (web := T4.mk web.a web.b web.c (D ++ [h, z])) hw.w hn hw.ties hw.few hdoors (by show (D ++ [h, z]).length ≤ 20; omega)) (FitA.cons (fit_item (it := T4.mk num ((((D ++ [h, z]).length : Nat) : Int) - (2 : Int)) (T4.mk ((((D ++ [h, z]).length : Nat) : Int) - (1 : Int)) byv (VT.mk past) most) (h :: t)) (n := web.b) hn.2 hnum ?_ ?_ R.by_ R.few hpast hpastl hmost hxl ?_) FitA.nil)).mono (by omega))
      · show ((((D ++ [h, z]).length : Nat) : Int) - (2 : Int)).natAbs < _; omega
      · show ((((D ++ [h, z]).length : Nat) : Int) - (1 : Int)).natAbs < _; omega
      · show (h :: t).length ≤ 31; rw [List.length_cons]; omega
    have er := reprO_some hfit (by decide)
    generalize hW : (T4.mk web.a web.b web.c (D ++ [h, z]) : T4 Int Int (List (Int × Int)) (List Int)) = W at er
    generalize hI : (T4.mk num ((((D ++ [h, z]).length : Nat) : Int) - (2 : Int)) (T4.mk ((((D ++ [h, z]).length : Nat) : Int) - (1 : Int)) byv (VT.mk past) most) (h :: t) : Item) = it at er
    have eI : it.e = h :: t := by rw [← hI]
    have ru := rules_of_O (web := W) eI (by omega)
    have du := due_O eI (by omega)
    have un : m_l_unrolled W it (rulesA it.a it.c.b.l it.c.a h t) = some true := by
      subst hW; subst hI
      exact unrolled_O rfl hn htl hxl R.ln.2.2 R.nd d1 (by show 0 ≤ ((((D ++ [h, z]).length : Nat) : Int) - (1 : Int)) ∧ ((((D ++ [h, z]).length : Nat) : Int) - (1 : Int)) < (((D ++ [h, z]).length : Nat) : Int); omega) (by rw [hz]; exact d2)
    have rl : (rulesA it.a it.c.b.l it.c.a h t).length ≤ 100 := by
      unfold rulesA
      rw [List.length_append, pre_len, List.length_singleton]
      omega
    generalize rulesA it.a it.c.b.l it.c.a h t = Q at ru du un rl
    rw [er, Option.bind_some, ru, Option.bind_some, du, Option.bind_some, alike_self, Option.bind_some, notT, un, Option.bind_some, Option.bind_some, notT, appL_some (by omega), Option.bind_some]
    have es : ∃ q, setL ((Q ++ [((0 : Int), (T4.mk (0 : Int) (0 : Int) (-(1 : Int)) (0 : Int)))]).map some : List (Option HR)) (0 : Int) (none : (Option HR)) = some q := by
      unfold setL
      have : ∃ j, ixN ((Q ++ [((0 : Int), (T4.mk (0 : Int) (0 : Int) (-(1 : Int)) (0 : Int)))]).map some : List (Option HR)).length (0 : Int) = some j := by
        refine ⟨0, ?_⟩
        unfold ixN
        simp
      obtain ⟨j, e⟩ := this
      rw [e]
      exact ⟨_, rfl⟩
    obtain ⟨q, es⟩ := es
    rw [es, Option.bind_some, Option.bind_some, Option.bind_some, alike_self, Option.bind_some, notT, Option.bind_some]
    have en : ∀ x : Str, neS x x = false := fun x => by unfold neS; simp
    rw [en, Option.bind_some, if_neg Bool.false_ne_true]
    exact law_l1 l b hb
theorem law_true (b : Bag) (hb : BOk b) : ∃ b', m_law b = some (true, b') := by
  obtain ⟨b1, e1, _⟩ := law_l1 (rangeL (0 : Int) 6) b hb
  refine ⟨b1, ?_⟩
  unfold m_law
  rw [e1, bL1_go]
end K42
namespace K42
open PySem PySem.Spec PyProof.Rows L2 TL G
def dd_done_behind : He.DefD := ⟨("done_behind", none), "done_behind", "done_behind", defArgs s_done_behind, defBody s_done_behind, defScope s_done_behind, [], []⟩
def dd_rules_of : He.DefD := ⟨("rules_of", none), "rules_of", "rules_of", defArgs s_rules_of, defBody s_rules_of, defScope s_rules_of, [], []⟩
def dd_l_bag : He.DefD := ⟨("_law_bag", none), "_law_bag", "_law_bag", defArgs s_l_bag, defBody s_l_bag, defScope s_l_bag, [], []⟩
def dd_l_stirred : He.DefD := ⟨("_law_stirred", none), "_law_stirred", "_law_stirred", defArgs s_l_stirred, defBody s_l_stirred, defScope s_l_stirred, [], []⟩
def dd_l_draw : He.DefD := ⟨("_law_draw", none), "_law_draw", "_law_draw", defArgs s_l_draw, defBody s_l_draw, defScope s_l_draw, [], []⟩
def dd_l_mixed : He.DefD := ⟨("_law_mixed", none), "_law_mixed", "_law_mixed", defArgs s_l_mixed, defBody s_l_mixed, defScope s_l_mixed, [], []⟩
def dd_l_alike : He.DefD := ⟨("_law_alike", none), "_law_alike", "_law_alike", defArgs s_l_alike, defBody s_l_alike, defScope s_l_alike, [], []⟩
def dd_l_ties : He.DefD := ⟨("_law_ties", none), "_law_ties", "_law_ties", defArgs s_l_ties, defBody s_l_ties, defScope s_l_ties, [], []⟩
def dd_l_web : He.DefD := ⟨("_law_web", none), "_law_web", "_law_web", defArgs s_l_web, defBody s_l_web, defScope s_l_web, [], []⟩
def dd_l_torn : He.DefD := ⟨("_law_torn", none), "_law_torn", "_law_torn", defArgs s_l_torn, defBody s_l_torn, defScope s_l_torn, [], []⟩
def dd_l_tie : He.DefD := ⟨("_law_tie", none), "_law_tie", "_law_tie", defArgs s_l_tie, defBody s_l_tie, defScope s_l_tie, [], []⟩
def dd_l_gone : He.DefD := ⟨("_law_gone", none), "_law_gone", "_law_gone", defArgs s_l_gone, defBody s_l_gone, defScope s_l_gone, [], []⟩
def dd_l_done : He.DefD := ⟨("_law_done", none), "_law_done", "_law_done", defArgs s_l_done, defBody s_l_done, defScope s_l_done, [], []⟩
def dd_l_walked : He.DefD := ⟨("_law_walked", none), "_law_walked", "_law_walked", defArgs s_l_walked, defBody s_l_walked, defScope s_l_walked, [], []⟩
def dd_l_unrolled : He.DefD := ⟨("_law_unrolled", none), "_law_unrolled", "_law_unrolled", defArgs s_l_unrolled, defBody s_l_unrolled, defScope s_l_unrolled, [], []⟩
def dd_l_due : He.DefD := ⟨("_law_due", none), "_law_due", "_law_due", defArgs s_l_due, defBody s_l_due, defScope s_l_due, [], []⟩
def dd_law : He.DefD := ⟨("law", none), "law", "law", defArgs s_law, defBody s_law, defScope s_law, [], []⟩
def fnL : List He.DefD := [dd_done_behind, dd_rules_of, dd_l_bag, dd_l_stirred, dd_l_draw, dd_l_mixed, dd_l_alike, dd_l_ties, dd_l_web, dd_l_torn, dd_l_tie, dd_l_gone, dd_l_done, dd_l_walked, dd_l_unrolled, dd_l_due, dd_law]
def faL : List He.Fa := [.glo "done_behind", .glo "rules_of", .glo "_law_bag", .glo "_law_stirred", .glo "_law_draw", .glo "_law_mixed", .glo "_law_alike", .glo "_law_ties", .glo "_law_web", .glo "_law_torn", .glo "_law_tie", .glo "_law_gone", .glo "_law_done", .glo "_law_walked", .glo "_law_unrolled", .glo "_law_due", .glo "law", .free "abs", .free "all", .free "bool", .free "int", .free "isinstance", .free "len", .free "list", .free "max", .free "min", .free "range", .free "repr", .free "set", .free "sorted", .free "str", .free "tuple", .free "zip", .int "OUT" (-1)]
abbrev RR : PySem.W.OpenRow := PySem.W.OpenLaw.row PySem.Challenge.rw_wishnet_k42_rules_of_a_way
abbrev hk : PySem.W.Hook := He.hookD 4 faL fnL
def ob (s : PySem.W.SharedT) : He.AlD := He.obsDG 4 faL fnL (HandSHeadRun.getT s)
theorem ob_eq (s : PySem.W.SharedT) : ob s = hk.obs s.abs := He.obsDG_eq (HandSHeadRun.getT_eq s)
def looseL : List Str := ["OUT", "done_behind", "rules_of", "_law_bag", "_law_stirred", "_law_draw", "_law_mixed", "_law_alike", "_law_ties", "_law_web", "_law_torn", "_law_tie", "_law_gone", "_law_done", "_law_walked", "_law_unrolled", "_law_due"]
theorem run_top (w : World) : HandSHeadRun.RunEq RR (PySem.W.view RR.prog [19]) hk ob 4000 looseL w := by
  intro os
  kernel_rfl
theorem facts {P : Program} {w : World} {K : PySem.W.Frag} {h : Heap} {mg : Str → Option Value} {f : Addr} (X : K.In h) (Gh : h.Ns mainGlobals mg) (hfa : mg ("law" : Str) = some (.ref f)) (c : He.SaysD faL fnL K) :
    ∃ fd : FuncData, (∀ (s : Shared) (v : Value), BindsTo s fd ⟨[v], []⟩ [("_law_script", v)]) ∧ ∀ base : Heap, K.In base → base.Ns mainGlobals mg → GnOk P w K mg base CX0 10 f fd ["_law_script"] (sp_law K) := by
  obtain ⟨d0, F0⟩ := c.def_ 0 (d := dd_done_behind) rfl
  obtain ⟨d1, F1⟩ := c.def_ 1 (d := dd_rules_of) rfl
  obtain ⟨d2, F2⟩ := c.def_ 2 (d := dd_l_bag) rfl
  obtain ⟨d3, F3⟩ := c.def_ 3 (d := dd_l_stirred) rfl
  obtain ⟨d4, F4⟩ := c.def_ 4 (d := dd_l_draw) rfl
  obtain ⟨d5, F5⟩ := c.def_ 5 (d := dd_l_mixed) rfl
  obtain ⟨d6, F6⟩ := c.def_ 6 (d := dd_l_alike) rfl
  obtain ⟨d7, F7⟩ := c.def_ 7 (d := dd_l_ties) rfl
  obtain ⟨d8, F8⟩ := c.def_ 8 (d := dd_l_web) rfl
  obtain ⟨d9, F9⟩ := c.def_ 9 (d := dd_l_torn) rfl
  obtain ⟨d10, F10⟩ := c.def_ 10 (d := dd_l_tie) rfl
  obtain ⟨d11, F11⟩ := c.def_ 11 (d := dd_l_gone) rfl
  obtain ⟨d12, F12⟩ := c.def_ 12 (d := dd_l_done) rfl
  obtain ⟨d13, F13⟩ := c.def_ 13 (d := dd_l_walked) rfl
  obtain ⟨d14, F14⟩ := c.def_ 14 (d := dd_l_unrolled) rfl
  obtain ⟨d15, F15⟩ := c.def_ 15 (d := dd_l_due) rfl
  obtain ⟨d16, F16⟩ := c.def_ 16 (d := dd_law) rfl
  have G0 := He.glo_ok X Gh (c.fact 0 (f := .glo "done_behind") rfl)
  have G1 := He.glo_ok X Gh (c.fact 1 (f := .glo "rules_of") rfl)
  have G2 := He.glo_ok X Gh (c.fact 2 (f := .glo "_law_bag") rfl)
  have G3 := He.glo_ok X Gh (c.fact 3 (f := .glo "_law_stirred") rfl)
  have G4 := He.glo_ok X Gh (c.fact 4 (f := .glo "_law_draw") rfl)
  have G5 := He.glo_ok X Gh (c.fact 5 (f := .glo "_law_mixed") rfl)
  have G6 := He.glo_ok X Gh (c.fact 6 (f := .glo "_law_alike") rfl)
  have G7 := He.glo_ok X Gh (c.fact 7 (f := .glo "_law_ties") rfl)
  have G8 := He.glo_ok X Gh (c.fact 8 (f := .glo "_law_web") rfl)
  have G9 := He.glo_ok X Gh (c.fact 9 (f := .glo "_law_torn") rfl)
  have G10 := He.glo_ok X Gh (c.fact 10 (f := .glo "_law_tie") rfl)
  have G11 := He.glo_ok X Gh (c.fact 11 (f := .glo "_law_gone") rfl)
  have G12 := He.glo_ok X Gh (c.fact 12 (f := .glo "_law_done") rfl)
  have G13 := He.glo_ok X Gh (c.fact 13 (f := .glo "_law_walked") rfl)
  have G14 := He.glo_ok X Gh (c.fact 14 (f := .glo "_law_unrolled") rfl)
  have G15 := He.glo_ok X Gh (c.fact 15 (f := .glo "_law_due") rfl)
  have G16 := He.glo_ok X Gh (c.fact 16 (f := .glo "law") rfl)
  obtain ⟨tk0, hk0⟩ := He.int_ok X Gh (c.fact 33 (f := .int "OUT" (-1)) rfl)
  let T : Txt K mg := { a_done_behind := _, d_done_behind := d0, F_done_behind := F0, g_done_behind := G0, a_rules_of := _, d_rules_of := d1, F_rules_of := F1, g_rules_of := G1, a_l_bag := _, d_l_bag := d2, F_l_bag := F2, g_l_bag := G2, a_l_stirred := _, d_l_stirred := d3, F_l_stirred := F3, g_l_stirred := G3, a_l_draw := _, d_l_draw := d4, F_l_draw := F4, g_l_draw := G4, a_l_mixed := _, d_l_mixed := d5, F_l_mixed := F5, g_l_mixed := G5, a_l_alike := _, d_l_alike := d6, F_l_alike := F6, g_l_alike := G6, a_l_ties := _, d_l_ties := d7, F_l_ties := F7, g_l_ties := G7, a_l_web := _, d_l_web := d8, F_l_web := F8, g_l_web := G8, a_l_torn := _, d_l_torn := d9, F_l_torn := F9, g_l_torn := G9, a_l_tie := _, d_l_tie := d10, F_l_tie := F10, g_l_tie := G10, a_l_gone := _, d_l_gone := d11, F_l_gone := F11, g_l_gone := G11, a_l_done := _, d_l_done := d12, F_l_done := F12, g_l_done := G12, a_l_walked := _, d_l_walked := d13, F_l_walked := F13, g_l_walked := G13, a_l_unrolled := _, d_l_unrolled := d14, F_l_unrolled := F14, g_l_unrolled := G14, a_l_due := _, d_l_due := d15, F_l_due := F15, g_l_due := G15, a_law := _, d_law := d16, F_law := F16, g_law := G16, n_abs := He.free_ok X Gh (c.fact 17 (f := .free "abs") rfl), n_all := He.free_ok X Gh (c.fact 18 (f := .free "all") rfl), n_bool := He.free_ok X Gh (c.fact 19 (f := .free "bool") rfl), n_int := He.free_ok X Gh (c.fact 20 (f := .free "int") rfl), n_isinstance := He.free_ok X Gh (c.fact 21 (f := .free "isinstance") rfl), n_len := He.free_ok X Gh (c.fact 22 (f := .free "len") rfl), n_list := He.free_ok X Gh (c.fact 23 (f := .free "list") rfl), n_max := He.free_ok X Gh (c.fact 24 (f := .free "max") rfl), n_min := He.free_ok X Gh (c.fact 25 (f := .free "min") rfl), n_range := He.free_ok X Gh (c.fact 26 (f := .free "range") rfl), n_repr := He.free_ok X Gh (c.fact 27 (f := .free "repr") rfl), n_set := He.free_ok X Gh (c.fact 28 (f := .free "set") rfl), n_sorted := He.free_ok X Gh (c.fact 29 (f := .free "sorted") rfl), n_str := He.free_ok X Gh (c.fact 30 (f := .free "str") rfl), n_tuple := He.free_ok X Gh (c.fact 31 (f := .free "tuple") rfl), n_zip := He.free_ok X Gh (c.fact 32 (f := .free "zip") rfl), t_OUT := tk0, k_OUT := hk0 }
  have e := hfa.symm.trans G16
  cases e
  have b := FunD.bindsA (ps := ["_law_script"]) F16 fun _ _ _ _ _ _ us hl => match us, hl with | [_], _ => rfl
  exact ⟨d16, fun s v => b s [v] rfl, fun base _ _ => ok_law T law_true⟩
end K42
open PySem.Calls PySem.W PySem PyProof.Rows
set_option maxHeartbeats 0 in
theorem PySem.Challenge.cw_wishnet_k42_rules_of_a_way_holds : PySem.Challenge.rw_wishnet_k42_rules_of_a_way.Holds := by
  w_on; o_law
  refine HandSHeadRun.head_any (r := OpenLaw.row PySem.Challenge.rw_wishnet_k42_rules_of_a_way) (q := view (OpenLaw.row PySem.Challenge.rw_wishnet_k42_rules_of_a_way).prog [19]) (H := K42.hk) (ob := K42.ob) (M := 4000) (loose := K42.looseL) (d := HandSHeadRun.topDef (OpenLaw.row PySem.Challenge.rw_wishnet_k42_rules_of_a_way).prog 19) (kwd := []) K42.ob_eq
    (by kernel_rfl) (fun s => by kernel_rfl) K42.run_top (by kernel_rfl) (by kernel_rfl) (by kernel_rfl) (by rfl) (by first | assumption | decide +kernel) (by decide +kernel) ⟨rfl, rfl, rfl, rfl, rfl, by decide +kernel⟩ ?hw ?hc
  case hw => w_witness2
  case hc =>
    refine G.walk_ofG (l := PySem.Challenge.rw_wishnet_k42_rules_of_a_way) (n := 63) (k := 10) (x := "_law_script") rfl (by decide) (by kernel_rfl) ⟨rfl, by decide, by decide⟩ ?F
    intro w mg fa h Y Gh hmg0
    obtain ⟨K, KX, c⟩ := Y
    have hmg : mg ("law" : PySem.Str) = some (.ref fa) := by
      have e : (HandSHeadRun.topDef (OpenLaw.row PySem.Challenge.rw_wishnet_k42_rules_of_a_way).prog 19).name = ("law" : PySem.Str) := by kernel_rfl
      rw [← e]
      exact hmg0
    obtain ⟨fd, hb, hF⟩ := K42.facts (P := (PySem.Challenge.rw_wishnet_k42_rules_of_a_way).prog) (w := w) KX Gh hmg c
    exact ⟨K, fd, K42.sp_law K, KX, hb, fun H a ns hl _ hS => ⟨a, ns, rfl, hS, hl, fun _ => rfl⟩, hF⟩
